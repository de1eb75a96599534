import PyProof.Rows.All
import Wide.All
import OpenK.AllK
import Wide.FinOn
import HandS.ForMost
import HandS.Zip
import HandS.Walk
import HandS.Evl
import HandS.TupAny
import HandS.Deep
import HandS.Wide
import HandS.Comp
import KE.DatumOrd
import KE.SortData
import HandS.NoneIn
import HandS.DictTup
import HandS.Conv
import HandS.DictComp
import HandS.IsInst
import HandS.More
import HandS.WordsDict
import HandS.Steps
import HandS.Codes
import HandS.Text
import PyProof.StrBlock2
import HandS.RevRange
import HandS.Style
import KE.GoesMore
import HandS.TupLe
import HandS.SetFor
import HandS.Strs
import PySem.Challenge.RW_fewcolours_k88_whole_lines_beside_all_gr
set_option Elab.async false
set_option linter.all false
set_option maxRecDepth 100000
set_option maxHeartbeats 4000000
/-! FA: symbolic states over the hand layer: what the slots hold (SD), the cells that are owned (CD), a persistent heap behind them. -/
namespace FC
open PySem PySem.Spec PyProof.Rows L2 Evl

/-! ### data that stand in the heap -/
mutual
inductive Dq (B : Hp) : V → PyData → Prop
  | non : Dq B .non .none
  | bl (b : Bool) : Dq B (.bl b) (.bool b)
  | int (i : Int) : Dq B (.int i) (.int i)
  | str (x : Str) : Dq B (.str x) (.str x)
  | lst {a : Addr} {xs : List V} {ds : List PyData} : B a = some (.lst xs) → DqAll B xs ds → Dq B (.ref a) (.list ds)
  | tup {a : Addr} {xs : List V} {ds : List PyData} : B a = some (.tup xs) → DqAll B xs ds → Dq B (.ref a) (.tuple ds)
inductive DqAll (B : Hp) : List V → List PyData → Prop
  | nil : DqAll B [] []
  | cons {v : V} {vs : List V} {d : PyData} {ds : List PyData} : Dq B v d → DqAll B vs ds → DqAll B (v :: vs) (d :: ds)
end
mutual
theorem dp_mono {B B' : Hp} (e : Ex B B') : ∀ {v : V} {d : PyData}, Dq B v d → Dq B' v d
  | _, _, .non => .non
  | _, _, .bl b => .bl b
  | _, _, .int i => .int i
  | _, _, .str x => .str x
  | _, _, .lst h a => .lst (e _ _ h) (dpa_mono e a)
  | _, _, .tup h a => .tup (e _ _ h) (dpa_mono e a)
theorem dpa_mono {B B' : Hp} (e : Ex B B') : ∀ {vs : List V} {ds : List PyData}, DqAll B vs ds → DqAll B' vs ds
  | _, _, .nil => .nil
  | _, _, .cons h t => .cons (dp_mono e h) (dpa_mono e t)
end
mutual
theorem Dq.dp {K : PySem.W.Frag} {B : Hp} : ∀ {v : V} {d : PyData}, Dq B v d → Dp K B v d
  | _, _, .non => .non
  | _, _, .bl b => .bl b
  | _, _, .int i => .int i
  | _, _, .str x => .str x
  | _, _, .lst h a => .lst (SqL.of h) a.dp
  | _, _, .tup h a => .tup (SqT.of h) a.dp
theorem DqAll.dp {K : PySem.W.Frag} {B : Hp} : ∀ {vs : List V} {ds : List PyData}, DqAll B vs ds → DpAll K B vs ds
  | _, _, .nil => .nil
  | _, _, .cons h t => .cons h.dp t.dp
end

/-! ### symbolic values, cells, states -/
/-- what is said of a value by what stands in the heap, and stays said -/
structure MP where
  ok : Hp → V → Prop
  mono : ∀ {B B' : Hp} {v : V}, Ex B B' → ok B v → ok B' v
/-- what a slot, an item, a field holds: nothing known; data; the address of a cell -/
inductive SD where
  | un
  | da (d : PyData)
  | rf (l : Addr)
  | sl (l : Addr) (ns : List Int)
  | tp (es : List (PyData ⊕ Addr))
  | pr (P : MP)
/-- what a cell holds -/
inductive CD where
  | ls (ds : List PyData)
  | lr (es : List SD)
  | dk (kvs : List (Key × PyData))
  | dt (kvs : List (List Key × PyData))
  | ins (C dx : Addr) (fs : List (Str × SD))
  | raw (o : HO)
  | lk (od : Obj) (ws : List (Key × V)) (kvs : List (Key × PyData))
abbrev M := List (Addr × CD)
abbrev keys (m : M) : List Addr := m.map (·.1)

section
variable (K : PySem.W.Frag) (B : Hp)
def TpOk (B : Hp) : List (PyData ⊕ Addr) → List V → Prop
  | [], [] => True
  | .inl d :: es, v :: vs => Dq B v d ∧ TpOk B es vs
  | .inr l :: es, v :: vs => v = .ref l ∧ TpOk B es vs
  | _, _ => False
def SdOk : SD → V → Prop
  | .un, _ => True
  | .da d, v => Dq B v d
  | .rf l, v => v = .ref l
  | .sl l ns, v => v = .ref l ∧ SqL K B l (ns.map V.int)
  | .tp es, v => ∃ p vs, v = .ref p ∧ B p = some (.tup vs) ∧ TpOk B es vs
  | .pr P, v => P.ok B v
def SdAll : List SD → List V → Prop
  | [], [] => True
  | a :: as, v :: vs => SdOk K B a v ∧ SdAll as vs
  | _, _ => False
def SlOk : SD → Option V → Prop
  | .un, _ => True
  | .da d, some v => Dq B v d
  | .rf l, some v => v = .ref l
  | .sl l ns, some v => v = .ref l ∧ SqL K B l (ns.map V.int)
  | .tp es, some v => ∃ p vs, v = .ref p ∧ B p = some (.tup vs) ∧ TpOk B es vs
  | .pr P, some v => P.ok B v
  | _, none => False
def StOk : List SD → L2.St → Prop
  | [], [] => True
  | a :: as, v :: vs => SlOk K B a v ∧ StOk as vs
  | _, _ => False
def KvOk {κ : Type} : List (κ × PyData) → List (κ × V) → Prop
  | [], [] => True
  | a :: as, v :: vs => (a.1 = v.1 ∧ Dq B v.2 a.2) ∧ KvOk as vs
  | _, _ => False
def FsOk : List (Str × SD) → List (Str × V) → Prop
  | [], [] => True
  | a :: as, v :: vs => (a.1 = v.1 ∧ SdOk K B a.2 v.2) ∧ FsOk as vs
  | _, _ => False
def CdOk : CD → HO → Prop
  | .ls ds, .lst vs => DqAll B vs ds
  | .lr es, .lst vs => SdAll K B es vs
  | .dk kvs, .dK ws => KvOk B kvs ws
  | .dt kvs, .dT ws => KvOk B kvs ws
  | .ins C dx fs, .ins C' dx' ws => C = C' ∧ dx = dx' ∧ FsOk K B fs ws
  | .raw o, o' => o = o' ∧ ∀ xs, o ≠ .tup xs
  | .lk od ws kvs, .frz od' u => od = od' ∧ u = .dK ws ∧ KvOk B kvs ws
  | _, _ => False
end

section
variable {K : PySem.W.Frag} {B B' H H' : Hp}
theorem tp_mono (e : Ex B B') : ∀ {es : List (PyData ⊕ Addr)} {vs : List V}, TpOk B es vs → TpOk B' es vs
  | [], [], _ => True.intro
  | .inl _ :: _, _ :: _, h => ⟨dp_mono e h.1, tp_mono e h.2⟩
  | .inr _ :: _, _ :: _, h => ⟨h.1, tp_mono e h.2⟩
  | [], _ :: _, h => h.elim
  | .inl _ :: _, [], h => h.elim
  | .inr _ :: _, [], h => h.elim
theorem sd_mono (e : Ex B B') : ∀ {s : SD} {v : V}, SdOk K B s v → SdOk K B' s v
  | .un, _, h => h
  | .da _, _, h => dp_mono e h
  | .rf _, _, h => h
  | .sl _ _, _, h => ⟨h.1, ex_l e h.2⟩
  | .tp _, _, h => let ⟨p, vs, h1, h2, h3⟩ := h; ⟨p, vs, h1, e _ _ h2, tp_mono e h3⟩
  | .pr P, _, h => P.mono e h
theorem sda_mono (e : Ex B B') : ∀ {ss : List SD} {vs : List V}, SdAll K B ss vs → SdAll K B' ss vs
  | [], [], h => h
  | _ :: _, _ :: _, h => ⟨sd_mono e h.1, sda_mono e h.2⟩
  | [], _ :: _, h => h
  | _ :: _, [], h => h
theorem sl_mono (e : Ex B B') : ∀ {s : SD} {v : Option V}, SlOk K B s v → SlOk K B' s v
  | .un, _, h => by cases ‹Option V› <;> exact h
  | .da _, some _, h => dp_mono e h
  | .rf _, some _, h => h
  | .sl _ _, some _, h => ⟨h.1, ex_l e h.2⟩
  | .tp _, some _, h => let ⟨p, vs, h1, h2, h3⟩ := h; ⟨p, vs, h1, e _ _ h2, tp_mono e h3⟩
  | .pr P, some _, h => P.mono e h
  | .pr _, none, h => h
  | .tp _, none, h => h
  | .da _, none, h => h
  | .rf _, none, h => h
  | .sl _ _, none, h => h
theorem st_mono (e : Ex B B') : ∀ {ss : List SD} {σ : L2.St}, StOk K B ss σ → StOk K B' ss σ
  | [], [], h => h
  | _ :: _, _ :: _, h => ⟨sl_mono e h.1, st_mono e h.2⟩
  | [], _ :: _, h => h
  | _ :: _, [], h => h
theorem kv_mono {κ : Type} (e : Ex B B') : ∀ {ss : List (κ × PyData)} {vs : List (κ × V)}, KvOk B ss vs → KvOk B' ss vs
  | [], [], h => h
  | _ :: _, _ :: _, h => ⟨⟨h.1.1, dp_mono e h.1.2⟩, kv_mono e h.2⟩
  | [], _ :: _, h => h
  | _ :: _, [], h => h
theorem fs_mono (e : Ex B B') : ∀ {ss : List (Str × SD)} {vs : List (Str × V)}, FsOk K B ss vs → FsOk K B' ss vs
  | [], [], h => h
  | _ :: _, _ :: _, h => ⟨⟨h.1.1, sd_mono e h.1.2⟩, fs_mono e h.2⟩
  | [], _ :: _, h => h
  | _ :: _, [], h => h
theorem cd_mono (e : Ex B B') {c : CD} {o : HO} (h : CdOk K B c o) : CdOk K B' c o := by
  cases c <;> cases o <;> first | exact h | exact dpa_mono e h | exact sda_mono e h | exact kv_mono e h | exact ⟨h.1, h.2.1, fs_mono e h.2.2⟩ | exact ⟨h.1, h.2.1, kv_mono e h.2.2⟩

theorem cd_nt {c : CD} {o : HO} (h : CdOk K B c o) (xs : List V) : o ≠ .tup xs := fun e => by
  subst e
  cases c <;> first | exact h.elim | exact h.2 xs h.1
/-- slots -/
theorem sl_some : ∀ {s : SD} {o : Option V}, (s ≠ .un) → SlOk K B s o → ∃ v, o = some v ∧ SdOk K B s v
  | .un, _, h, _ => absurd rfl h
  | .da _, some v, _, h => ⟨v, rfl, h⟩
  | .rf _, some v, _, h => ⟨v, rfl, h⟩
  | .sl _ _, some v, _, h => ⟨v, rfl, h⟩
  | .tp _, some v, _, h => ⟨v, rfl, h⟩
  | .pr _, some v, _, h => ⟨v, rfl, h⟩
  | .pr _, none, _, h => h.elim
  | .tp _, none, _, h => h.elim
  | .da _, none, _, h => h.elim
  | .rf _, none, _, h => h.elim
  | .sl _ _, none, _, h => h.elim
theorem sl_of : ∀ {s : SD} {v : V}, SdOk K B s v → SlOk K B s (some v)
  | .un, _, h => h
  | .da _, _, h => h
  | .rf _, _, h => h
  | .sl _ _, _, h => h
  | .tp _, _, h => h
  | .pr _, _, h => h
theorem st_get : ∀ {ds : List SD} {σ : L2.St} {i : Nat} {s : SD}, StOk K B ds σ → ds[i]? = some s → ∃ o, σ[i]? = some o ∧ SlOk K B s o
  | [], _, _, _, _, h => by simp at h
  | _ :: _, [], _, _, h, _ => h.elim
  | a :: as, v :: vs, 0, s, h, e => by
    have e' : a = s := Option.some.inj e
    subst e'
    exact ⟨v, rfl, h.1⟩
  | _ :: as, _ :: vs, i + 1, s, h, e => st_get (i := i) h.2 e
theorem st_set : ∀ {ds : List SD} {σ : L2.St} (i : Nat) {s : SD} {o : Option V}, StOk K B ds σ → SlOk K B s o → StOk K B (ds.set i s) (σ.set i o)
  | [], [], _, _, _, h, _ => h
  | _ :: _, [], _, _, _, h, _ => h.elim
  | [], _ :: _, _, _, _, h, _ => h.elim
  | _ :: _, _ :: _, 0, _, _, h, q => ⟨q, h.2⟩
  | _ :: _, _ :: _, i + 1, _, _, h, q => ⟨h.1, st_set i h.2 q⟩
/-- less is known -/
inductive Wk : SD → SD → Prop
  | rfl {s} : Wk s s
  | un {s} : Wk s .un
theorem Wk.sl {s t : SD} {o : Option V} (w : Wk s t) (h : SlOk K B s o) : SlOk K B t o := by
  cases w with
  | rfl => exact h
  | un => cases o <;> exact True.intro
inductive Wks : List SD → List SD → Prop
  | nil : Wks [] []
  | cons {a b : SD} {as bs : List SD} : Wk a b → Wks as bs → Wks (a :: as) (b :: bs)
theorem Wks.st : ∀ {ds es : List SD} {σ : L2.St}, Wks ds es → StOk K B ds σ → StOk K B es σ
  | _, _, [], .nil, h => h
  | _, _, _ :: _, .nil, h => h.elim
  | _, _, [], .cons _ _, h => h.elim
  | _, _, _ :: _, .cons a t, h => ⟨a.sl h.1, t.st h.2⟩
theorem Wks.refl : ∀ (ds : List SD), Wks ds ds
  | [] => .nil
  | _ :: r => .cons .rfl (Wks.refl r)
end

/-- the cells m are owned in H, the rest of what is known stands in B -/
structure SOk (K : PySem.W.Frag) (B : Hp) (m : M) (H : Hp) : Prop where
  ext : Ex B H
  nd : (keys m).Nodup
  out : ∀ p ∈ m, B p.1 = none
  cel : ∀ p ∈ m, ∃ o, H p.1 = some o ∧ CdOk K B p.2 o
/-- from B, H with the cells k to B', H' with the cells k' -/
structure Tr (B H : Hp) (k : List Addr) (B' H' : Hp) (k' : List Addr) : Prop where
  ex : Ex B B'
  new : ∀ a, H a ≠ none → (∀ xs, H a ≠ some (.tup xs)) → B a = none → B' a = none
  tp : ∀ a, H a ≠ none → (∀ xs, H a ≠ some (.tup xs)) → ∀ xs, H' a ≠ some (.tup xs)
  keep : ∀ a o, a ∉ k → H a = some o → H' a = some o
  kys : ∀ a ∈ k', a ∈ k ∨ H a = none
  grow : ∀ a, H a ≠ none → H' a ≠ none

section
variable {K : PySem.W.Frag} {B B1 B2 B3 H H1 H2 H3 : Hp} {k k1 k2 k3 : List Addr} {m m1 m2 : M}
theorem Tr.refl (B H : Hp) (k : List Addr) : Tr B H k B H k := ⟨Ex.refl _, fun _ _ _ h => h, fun _ _ h => h, fun _ _ _ h => h, fun _ h => .inl h, fun _ h => h⟩
theorem Tr.trans (a : Tr B H k B1 H1 k1) (b : Tr B1 H1 k1 B2 H2 k2) : Tr B H k B2 H2 k2 where
  ex := a.ex.trans b.ex
  new := fun x h1 hn h2 => b.new x (a.grow x h1) (a.tp x h1 hn) (a.new x h1 hn h2)
  tp := fun x h1 hn => b.tp x (a.grow x h1) (a.tp x h1 hn)
  keep := fun x o hk e => b.keep x o (fun q => (a.kys x q).elim hk fun z => by rw [e] at z; cases z) (a.keep x o hk e)
  kys := fun x q => (b.kys x q).elim (fun z => a.kys x z) fun z => by
    by_cases h : H x = none
    · exact .inr h
    · exact absurd z (a.grow x h)
  grow := fun x h => b.grow x (a.grow x h)
theorem some_ne {α : Type} {o : Option α} {x : α} (h : o = some x) : o ≠ none := by rw [h]; exact fun z => nomatch z
theorem SOk.ne (s : SOk K B m H) {p : Addr × CD} (hp : p ∈ m) : H p.1 ≠ none := by
  obtain ⟨o, e, _⟩ := s.cel p hp
  exact some_ne e
/-- an extension by new things -/
theorem Tr.ext (s : SOk K B m H) (e : Ex H H2) : Tr B H (keys m) B H2 (keys m) := ⟨Ex.refl _, fun _ _ _ h => h, fun a h hn xs z => by
  cases q : H a with
  | none => exact h q
  | some o =>
    rw [e a o q] at z
    exact hn xs (by rw [q]; exact z), fun a o _ h => e a o h, fun _ h => .inl h, fun a h => by
  cases q : H a with
  | none => exact absurd q h
  | some o => exact some_ne (e a o q)⟩
theorem SOk.grow (s : SOk K B m H) (e : Ex H H2) : SOk K B m H2 := ⟨s.ext.trans e, s.nd, s.out, fun p hp => by
  obtain ⟨o, h1, h2⟩ := s.cel p hp
  exact ⟨o, e _ _ h1, h2⟩⟩
theorem fresh_b (s : SOk K B m H) {p : Addr} (h : H p = none) : B p = none := fresh_back s.ext h
theorem fresh_k (s : SOk K B m H) {p : Addr} (h : H p = none) : p ∉ keys m := fun q => by
  obtain ⟨c, hc, e⟩ := List.mem_map.mp q
  exact s.ne hc (by rw [e]; exact h)
/-- a new thing goes to the persistent heap -/
theorem Tr.data (s : SOk K B m H) {p : Addr} {o : HO} (h : H p = none) : Tr B H (keys m) (upd B p o) (upd H p o) (keys m) where
  ex := Ex.new (fresh_b s h)
  new := fun a h1 _ h2 => by
    rw [upd_ne (fun e => by subst e; exact h1 h)]
    exact h2
  tp := fun a h1 hn xs => by
    rw [upd_ne (fun e => by subst e; exact h1 h)]
    exact hn xs
  keep := fun a u _ e => by
    rw [upd_ne (ne_of_none e h)]
    exact e
  kys := fun _ z => .inl z
  grow := fun a h1 => by
    rw [upd_ne (fun e => by subst e; exact h1 h)]
    exact h1
theorem ex_upd (e : Ex B H) {p : Addr} {o : HO} : Ex (upd B p o) (upd H p o) := fun a u h => by
  by_cases q : a = p
  · subst q
    rw [upd_same] at h ⊢
    exact h
  · rw [upd_ne q] at h ⊢
    exact e a u h
theorem SOk.data (s : SOk K B m H) {p : Addr} {o : HO} (h : H p = none) : SOk K (upd B p o) m (upd H p o) := ⟨ex_upd s.ext, s.nd, fun q hq => by
    rw [upd_ne (fun e => s.ne hq (by rw [e]; exact h))]
    exact s.out q hq, fun q hq => by
    obtain ⟨u, h1, h2⟩ := s.cel q hq
    exact ⟨u, by rw [upd_ne (ne_of_none h1 h)]; exact h1, cd_mono (Ex.new (fresh_b s h)) h2⟩⟩
theorem keys_app (m : M) (p : Addr) (c : CD) : keys (m ++ [(p, c)]) = keys m ++ [p] := by
  show List.map _ _ = _
  rw [List.map_append]
  rfl
/-- a new thing becomes a cell -/
theorem Tr.cell (s : SOk K B m H) {p : Addr} {o : HO} {c : CD} (h : H p = none) : Tr B H (keys m) B (upd H p o) (keys (m ++ [(p, c)])) where
  ex := Ex.refl _
  new := fun _ _ _ h2 => h2
  tp := fun a h1 hn xs => by
    rw [upd_ne (fun e => by subst e; exact h1 h)]
    exact hn xs
  keep := fun a u _ e => by
    rw [upd_ne (ne_of_none e h)]
    exact e
  kys := fun a z => by
    rw [keys_app] at z
    rcases List.mem_append.mp z with z | z
    · exact .inl z
    · have e : a = p := by simpa using z
      exact .inr (by rw [e]; exact h)
  grow := fun a h1 => by
    rw [upd_ne (fun e => by subst e; exact h1 h)]
    exact h1
theorem SOk.cell (s : SOk K B m H) {p : Addr} {o : HO} {c : CD} (h : H p = none) (hc : CdOk K B c o) : SOk K B (m ++ [(p, c)]) (upd H p o) where
  ext := fun a u e => by
    rw [upd_ne (ne_of_none e (fresh_b s h))]
    exact s.ext a u e
  nd := by
    rw [keys_app]
    refine List.nodup_append.mpr ⟨s.nd, by simp, fun a ha b hb => ?_⟩
    have e : b = p := by simpa using hb
    subst e
    exact fun z => fresh_k s h (z ▸ ha)
  out := fun q hq => (List.mem_append.mp hq).elim (fun z => s.out q z) fun z => by
    have e : q = (p, c) := by simpa using z
    rw [e]
    exact fresh_b s h
  cel := fun q hq => (List.mem_append.mp hq).elim (fun z => by
      obtain ⟨u, h1, h2⟩ := s.cel q z
      exact ⟨u, by rw [upd_ne (ne_of_none h1 h)]; exact h1, h2⟩) fun z => by
    have e : q = (p, c) := by simpa using z
    rw [e]
    exact ⟨o, upd_same, hc⟩
/-- a cell is written -/
theorem set_same {α : Type} : ∀ {l : List α} {j : Nat} {x : α}, l[j]? = some x → l.set j x = l
  | [], _, _, h => by simp at h
  | a :: r, 0, x, h => by
    have e : a = x := Option.some.inj h
    rw [e]
    rfl
  | a :: r, j + 1, x, h => by
    show a :: r.set j x = a :: r
    rw [set_same (l := r) (j := j) h]
theorem keys_set {j : Nat} {l : Addr} {c c' : CD} (hm : m[j]? = some (l, c)) : keys (m.set j (l, c')) = keys m := by
  unfold keys
  rw [List.map_set]
  exact set_same (by rw [List.getElem?_map, hm]; rfl)
theorem mem_set_cases {α : Type} : ∀ {l : List α} {j : Nat} {x y : α}, x ∈ l.set j y → (∃ i, i ≠ j ∧ l[i]? = some x) ∨ (x = y)
  | [], _, _, _, h => by simp at h
  | a :: r, 0, x, y, h => by
    rcases List.mem_cons.mp h with e | h
    · exact .inr e
    · obtain ⟨i, hi⟩ := List.mem_iff_getElem?.mp h
      exact .inl ⟨i + 1, by omega, hi⟩
  | a :: r, j + 1, x, y, h => by
    rcases List.mem_cons.mp h with e | h
    · exact .inl ⟨0, by omega, by rw [e]; rfl⟩
    · rcases mem_set_cases (l := r) h with ⟨i, hi, e⟩ | e
      · exact .inl ⟨i + 1, by omega, e⟩
      · exact .inr e
theorem key_ne (nd : (keys m).Nodup) {i j : Nat} {p q : Addr × CD} (hi : m[i]? = some p) (hj : m[j]? = some q) (h : i ≠ j) : p.1 ≠ q.1 := fun e => by
  have h1 : (keys m)[i]? = some p.1 := by rw [List.getElem?_map, hi]; rfl
  have h2 : (keys m)[j]? = some p.1 := by rw [List.getElem?_map, hj, e]; rfl
  exact h (nd_ix nd h1 h2)
theorem SOk.put (s : SOk K B m H) {j : Nat} {l : Addr} {c c' : CD} {o : HO} (hm : m[j]? = some (l, c)) (hc : CdOk K B c' o) : SOk K B (m.set j (l, c')) (upd H l o) where
  ext := fun a u e => by
    have hl : B l = none := s.out (l, c) (List.mem_of_getElem? hm)
    rw [upd_ne (ne_of_none e hl)]
    exact s.ext a u e
  nd := by
    rw [keys_set hm]
    exact s.nd
  out := fun q hq => by
    rcases mem_set_cases hq with ⟨i, _, e⟩ | e
    · exact s.out q (List.mem_of_getElem? e)
    · rw [e]
      exact s.out (l, c) (List.mem_of_getElem? hm)
  cel := fun q hq => by
    rcases mem_set_cases hq with ⟨i, hi, e⟩ | e
    · obtain ⟨u, h1, h2⟩ := s.cel q (List.mem_of_getElem? e)
      exact ⟨u, by rw [upd_ne (key_ne s.nd e hm hi)]; exact h1, h2⟩
    · rw [e]
      exact ⟨o, upd_same, hc⟩
theorem Tr.put (s : SOk K B m H) {j : Nat} {l : Addr} {c c' : CD} {o : HO} (hm : m[j]? = some (l, c)) (hc : CdOk K B c' o) : Tr B H (keys m) B (upd H l o) (keys (m.set j (l, c'))) where
  ex := Ex.refl _
  new := fun _ _ _ h => h
  tp := fun a h1 hn xs => by
    by_cases e : a = l
    · rw [e, upd_same]
      exact fun z => cd_nt hc xs (Option.some.inj z)
    · rw [upd_ne e]
      exact hn xs
  keep := fun a u hk e => by
    have : a ≠ l := fun z => hk (z ▸ List.mem_map.mpr ⟨(l, c), List.mem_of_getElem? hm, rfl⟩)
    rw [upd_ne this]
    exact e
  kys := fun a z => by
    rw [keys_set hm] at z
    exact .inl z
  grow := fun a h1 => by
    by_cases e : a = l
    · rw [e, upd_same]
      exact fun z => nomatch z
    · rw [upd_ne e]
      exact h1
theorem SOk.at (s : SOk K B m H) {j : Nat} {l : Addr} {c : CD} (hm : m[j]? = some (l, c)) : ∃ o, H l = some o ∧ CdOk K B c o := s.cel (l, c) (List.mem_of_getElem? hm)
theorem SOk.ls (s : SOk K B m H) {j : Nat} {l : Addr} {ds : List PyData} (hm : m[j]? = some (l, .ls ds)) : ∃ vs, H l = some (.lst vs) ∧ DqAll B vs ds := by
  obtain ⟨o, h, c⟩ := s.at hm
  cases o <;> first | exact ⟨_, h, c⟩ | exact c.elim
/-- fewer cells -/
theorem SOk.sub (s : SOk K B m H) (h : m1.Sublist m) : SOk K B m1 H := ⟨s.ext, s.nd.sublist (h.map _), fun p hp => s.out p (h.subset hp), fun p hp => s.cel p (h.subset hp)⟩
theorem Tr.sub (t : Tr B H k B1 H1 k1) (h : ∀ a ∈ k2, a ∈ k1) : Tr B H k B1 H1 k2 := ⟨t.ex, t.new, t.tp, t.keep, fun a z => t.kys a (h a z), t.grow⟩
/-- a new cell is frozen -/
theorem SOk.frz (s : SOk K B m H) {j : Nat} {l : Addr} {c : CD} {o : HO} (hm : m[j]? = some (l, c)) (ho : H l = some o) : SOk K (upd B l o) (m.eraseIdx j) H where
  ext := fun a u e => by
    by_cases q : a = l
    · subst q
      rw [upd_same] at e
      rw [← e]
      exact ho
    · rw [upd_ne q] at e
      exact s.ext a u e
  nd := s.nd.sublist ((List.eraseIdx_sublist m j).map _)
  out := fun q hq => by
    obtain ⟨i, hi, e⟩ : ∃ i, i ≠ j ∧ m[i]? = some q := by
      obtain ⟨i, hi⟩ := List.mem_iff_getElem?.mp hq
      rw [List.getElem?_eraseIdx] at hi
      split at hi
      · exact ⟨i, by omega, hi⟩
      · exact ⟨i + 1, by omega, hi⟩
    rw [upd_ne (key_ne s.nd e hm hi)]
    exact s.out q (List.mem_of_getElem? e)
  cel := fun q hq => by
    obtain ⟨u, h1, h2⟩ := s.cel q ((List.eraseIdx_sublist m j).subset hq)
    exact ⟨u, h1, cd_mono (Ex.new (s.out (l, c) (List.mem_of_getElem? hm))) h2⟩
theorem Tr.frz (t : Tr B H k B1 H1 (keys m)) (s : SOk K B1 m H1) (hk : ∀ a ∈ k, H a ≠ none) {j : Nat} {l : Addr} {c : CD} {o : HO} (hm : m[j]? = some (l, c)) (hl : l ∉ k) : Tr B H k (upd B1 l o) H1 (keys (m.eraseIdx j)) where
  ex := t.ex.trans (Ex.new (s.out (l, c) (List.mem_of_getElem? hm)))
  tp := t.tp
  new := fun a h1 hn h2 => by
    have hH : H l = none := (t.kys l (List.mem_map.mpr ⟨(l, c), List.mem_of_getElem? hm, rfl⟩)).resolve_left hl
    rw [upd_ne (fun e => by subst e; exact h1 hH)]
    exact t.new a h1 hn h2
  keep := t.keep
  kys := fun a z => t.kys a (((List.eraseIdx_sublist m j).map _).subset z)
  grow := t.grow
/-- a heap that is longer: what is new there goes to the persistent one, tuples that stood too -/
noncomputable def fill (B H H' : Hp) : Hp := fun a => open Classical in if H a = none ∨ (∃ xs, H a = some (.tup xs)) then H' a else B a
theorem fill_new {a : Addr} (h : H a = none) : fill B H H1 a = H1 a := by
  unfold fill
  rw [if_pos (Or.inl h)]
theorem fill_tup {a : Addr} {xs : List V} (h : H a = some (.tup xs)) : fill B H H1 a = H1 a := by
  unfold fill
  rw [if_pos (Or.inr ⟨xs, h⟩)]
theorem fill_old (s : Ex B H) (e : Ex H H1) : Ex B (fill B H H1) := fun a o h => by
  unfold fill
  split
  · exact e a o (s a o h)
  · exact h
theorem Tr.fill (s : SOk K B m H) (e : Ex H H1) : Tr B H (keys m) (fill B H H1) H1 (keys m) ∧ SOk K (FC.fill B H H1) m H1 := by
  have old := fill_old s.ext e
  refine ⟨⟨old, fun a h1 hn h2 => ?_, fun a h1 hn xs z => ?_, fun a o _ h => e a o h, fun _ h => .inl h, fun a h => ?_⟩, ⟨fun a o h => ?_, s.nd, fun p hp => ?_, fun p hp => ?_⟩⟩
  · unfold FC.fill
    rw [if_neg (fun z => z.elim h1 fun ⟨xs, q⟩ => hn xs q)]
    exact h2
  · cases q : H a with
    | none => exact h1 q
    | some o =>
      rw [e a o q] at z
      exact hn xs (by rw [q]; exact z)
  · cases q : H a with
    | none => exact absurd q h
    | some o => exact some_ne (e a o q)
  · unfold FC.fill at h
    split at h
    · exact h
    · exact e a o (s.ext a o h)
  · obtain ⟨o, h1, h2⟩ := s.cel p hp
    unfold FC.fill
    rw [if_neg (fun z => z.elim (fun q => by rw [h1] at q; cases q) fun ⟨xs, q⟩ => cd_nt h2 xs (Option.some.inj (h1.symm.trans q)))]
    exact s.out p hp
  · obtain ⟨o, h1, h2⟩ := s.cel p hp
    exact ⟨o, e _ _ h1, cd_mono old h2⟩
end
end FC
set_option maxHeartbeats 4000000
/-! FB: what expressions give in a symbolic state. -/
namespace FC
open PySem PySem.Spec PyProof.Rows L2 Evl

/-! ### judgements -/
def EvX (K : PySem.W.Frag) (te : TE) (ds : List SD) (m : M) (R : SD → M → Prop) : Prop :=
  ∀ B H σ, SOk K B m H → StOk K B ds σ → ∀ Q : VK, (∀ v B2 H2 r m2, R r m2 → Tr B H (keys m) B2 H2 (keys m2) → SOk K B2 m2 H2 → SdOk K B2 r v → Q v H2) → te σ H Q
def Ev (K : PySem.W.Frag) (te : TE) (ds : List SD) (m : M) (r : SD) (m' : M) : Prop :=
  ∀ B H σ, SOk K B m H → StOk K B ds σ → ∀ Q : VK, (∀ v B2 H2, Tr B H (keys m) B2 H2 (keys m') → SOk K B2 m' H2 → SdOk K B2 r v → Q v H2) → te σ H Q
def EvN (K : PySem.W.Frag) (te : TE) (ds : List SD) (m : M) (c : CD) (m' : M) : Prop :=
  ∀ B H σ, SOk K B m H → StOk K B ds σ → ∀ Q : VK, (∀ p B2 H2, Tr B H (keys m) B2 H2 (keys (m' ++ [(p, c)])) → SOk K B2 (m' ++ [(p, c)]) H2 → Q (.ref p) H2) → te σ H Q
def EvT (K : PySem.W.Frag) (tt : TT) (ds : List SD) (m : M) (b : Bool) (m' : M) : Prop :=
  ∀ B H σ, SOk K B m H → StOk K B ds σ → ∀ Q : Bool → Hp → Prop, (∀ B2 H2, Tr B H (keys m) B2 H2 (keys m') → SOk K B2 m' H2 → Q b H2) → tt σ H Q
def EvA (K : PySem.W.Frag) (ta : TA) (ds : List SD) (m : M) (rs : List SD) (m' : M) : Prop :=
  ∀ B H σ, SOk K B m H → StOk K B ds σ → ∀ Q : List V → Hp → Prop, (∀ vs B2 H2, Tr B H (keys m) B2 H2 (keys m') → SOk K B2 m' H2 → SdAll K B2 rs vs → Q vs H2) → ta σ H Q
def EvO (K : PySem.W.Frag) (to : TO) (ds : List SD) (m : M) (o : Option Int) (m' : M) : Prop :=
  ∀ B H σ, SOk K B m H → StOk K B ds σ → ∀ Q : Option Int → Hp → Prop, (∀ B2 H2, Tr B H (keys m) B2 H2 (keys m') → SOk K B2 m' H2 → Q o H2) → to σ H Q
/-- operations by values -/
def Rr (K : PySem.W.Frag) (r : R2) (a b : SD) (m : M) (c : SD) (m' : M) : Prop :=
  ∀ B H x y, SOk K B m H → SdOk K B a x → SdOk K B b y → ∀ Q : VK, (∀ v B2 H2, Tr B H (keys m) B2 H2 (keys m') → SOk K B2 m' H2 → SdOk K B2 c v → Q v H2) → r x y H Q
def Ru (K : PySem.W.Frag) (r : V → Hp → VK → Prop) (a : SD) (m : M) (c : SD) (m' : M) : Prop :=
  ∀ B H x, SOk K B m H → SdOk K B a x → ∀ Q : VK, (∀ v B2 H2, Tr B H (keys m) B2 H2 (keys m') → SOk K B2 m' H2 → SdOk K B2 c v → Q v H2) → r x H Q
def Rc (K : PySem.W.Frag) (r : List V → Hp → VK → Prop) (as : List SD) (m : M) (c : SD) (m' : M) : Prop :=
  ∀ B H xs, SOk K B m H → SdAll K B as xs → ∀ Q : VK, (∀ v B2 H2, Tr B H (keys m) B2 H2 (keys m') → SOk K B2 m' H2 → SdOk K B2 c v → Q v H2) → r xs H Q
def RcN (K : PySem.W.Frag) (r : List V → Hp → VK → Prop) (as : List SD) (m : M) (c : CD) (m' : M) : Prop :=
  ∀ B H xs, SOk K B m H → SdAll K B as xs → ∀ Q : VK, (∀ p B2 H2, Tr B H (keys m) B2 H2 (keys (m' ++ [(p, c)])) → SOk K B2 (m' ++ [(p, c)]) H2 → Q (.ref p) H2) → r xs H Q
/-- a method of a built-in's, by values -/
def Rm (K : PySem.W.Frag) (r : V → List V → Hp → VK → Prop) (a : SD) (as : List SD) (m : M) (c : SD) (m' : M) : Prop :=
  ∀ B H x xs, SOk K B m H → SdOk K B a x → SdAll K B as xs → ∀ Q : VK, (∀ v B2 H2, Tr B H (keys m) B2 H2 (keys m') → SOk K B2 m' H2 → SdOk K B2 c v → Q v H2) → r x xs H Q

section
variable {K : PySem.W.Frag} {B B' H H' : Hp} {ds : List SD} {m m1 m2 m3 m4 m' : M} {ta tb tc te : TE} {t u : TT} {a b c r s : SD} {d e : PyData} {rs as : List SD}
theorem Ev.x (h : Ev K te ds m r m') : EvX K te ds m (fun r2 m2 => r2 = r ∧ m2 = m') := fun B H σ s st Q q => h B H σ s st Q fun v B2 H2 t s2 d => q v B2 H2 r m' ⟨rfl, rfl⟩ t s2 d
theorem EvN.x {c : CD} (h : EvN K te ds m c m') : EvX K te ds m (fun r2 m2 => ∃ p, r2 = .rf p ∧ m2 = m' ++ [(p, c)]) := fun B H σ s st Q q => h B H σ s st Q fun p B2 H2 t s2 => q _ B2 H2 (.rf p) _ ⟨p, rfl, rfl⟩ t s2 rfl

/-! ### the frame -/
theorem key_app (m f : M) : keys (m ++ f) = keys m ++ keys f := List.map_append
theorem fr_ok {f : M} {B2 H2 : Hp} (s : SOk K B (m ++ f) H) (t : Tr B H (keys m) B2 H2 (keys m')) (s2 : SOk K B2 m' H2) : Tr B H (keys (m ++ f)) B2 H2 (keys (m' ++ f)) ∧ SOk K B2 (m' ++ f) H2 := by
  have nd := s.nd
  rw [key_app] at nd
  have dj := (List.nodup_append.mp nd).2.2
  have hf : ∀ p ∈ f, ∃ o, H2 p.1 = some o ∧ CdOk K B2 p.2 o := fun p hp => by
    obtain ⟨o, h1, h2⟩ := s.cel p (List.mem_append_right _ hp)
    exact ⟨o, t.keep _ _ (fun z => dj _ z _ (List.mem_map.mpr ⟨p, hp, rfl⟩) rfl) h1, cd_mono t.ex h2⟩
  refine ⟨⟨t.ex, t.new, t.tp, fun x o hk e => t.keep x o (fun z => hk (by rw [key_app]; exact List.mem_append_left _ z)) e, fun x z => ?_, t.grow⟩, ⟨s2.ext, ?_, fun p hp => ?_, fun p hp => ?_⟩⟩
  · rw [key_app] at z ⊢
    rcases List.mem_append.mp z with z | z
    · exact (t.kys x z).imp (fun q => List.mem_append_left _ q) id
    · exact .inl (List.mem_append_right _ z)
  · rw [key_app]
    refine List.nodup_append.mpr ⟨s2.nd, (List.nodup_append.mp nd).2.1, fun x hx y hy e => ?_⟩
    subst e
    rcases t.kys x hx with q | q
    · exact dj _ q _ hy rfl
    · obtain ⟨p, hp, e⟩ := List.mem_map.mp hy
      exact s.ne (List.mem_append_right _ hp) (by rw [e]; exact q)
  · rcases List.mem_append.mp hp with z | z
    · exact s2.out p z
    · obtain ⟨o, h1, h2⟩ := s.cel p (List.mem_append_right _ z)
      exact t.new _ (some_ne h1) (fun xs q => cd_nt h2 xs (Option.some.inj (h1.symm.trans q))) (s.out p (List.mem_append_right _ z))
  · rcases List.mem_append.mp hp with z | z
    · exact s2.cel p z
    · exact hf p z
theorem Ev.frame (f : M) (h : Ev K te ds m r m') : Ev K te ds (m ++ f) r (m' ++ f) := fun B H σ s st Q q => h B H σ (s.sub (List.sublist_append_left m f)) st Q fun v B2 H2 t s2 d => by
  obtain ⟨t', s'⟩ := fr_ok s t s2
  exact q v B2 H2 t' s' d
theorem EvT.frame {b : Bool} (f : M) (h : EvT K t ds m b m') : EvT K t ds (m ++ f) b (m' ++ f) := fun B H σ s st Q q => h B H σ (s.sub (List.sublist_append_left m f)) st Q fun B2 H2 t s2 => by
  obtain ⟨t', s'⟩ := fr_ok s t s2
  exact q B2 H2 t' s'
/-- an expression that needs no cell and changes none -/
theorem Ev.pure (m : M) (h : Ev K te ds [] r []) : Ev K te ds m r m := Ev.frame m h

/-! ### names, constants -/
theorem ev_var {i : Nat} (h : ds[i]? = some (.da d)) : Ev K (tVar i) ds m (.da d) m := fun B H σ s st Q q => by
  obtain ⟨o, e, w⟩ := st_get st h
  obtain ⟨v, rfl, w⟩ := sl_some (s := .da d) (fun z => nomatch z) w
  exact ⟨v, e, q v B H (Tr.refl _ _ _) s w⟩
theorem ev_rf {i : Nat} {l : Addr} (h : ds[i]? = some (.rf l)) : Ev K (tVar i) ds m (.rf l) m := fun B H σ s st Q q => by
  obtain ⟨o, e, w⟩ := st_get st h
  obtain ⟨v, rfl, w⟩ := sl_some (s := .rf l) (fun z => nomatch z) w
  exact ⟨v, e, q v B H (Tr.refl _ _ _) s w⟩
theorem ev_sc {i : Nat} {l : Addr} {ns : List Int} (h : ds[i]? = some (.sl l ns)) : Ev K (tVar i) ds m (.sl l ns) m := fun B H σ s st Q q => by
  obtain ⟨o, e, w⟩ := st_get st h
  obtain ⟨v, rfl, w⟩ := sl_some (s := .sl l ns) (fun z => nomatch z) w
  exact ⟨v, e, q v B H (Tr.refl _ _ _) s w⟩
theorem ev_int {i : Int} : Ev K (tC (.int i)) ds m (.da (.int i)) m := fun B H σ s st Q q => q _ B H (Tr.refl _ _ _) s (.int i)
theorem ev_bl {i : Bool} : Ev K (tC (.bl i)) ds m (.da (.bool i)) m := fun B H σ s st Q q => q _ B H (Tr.refl _ _ _) s (.bl i)
theorem ev_str {i : Str} : Ev K (tC (.str i)) ds m (.da (.str i)) m := fun B H σ s st Q q => q _ B H (Tr.refl _ _ _) s (.str i)
theorem ev_non : Ev K (tC .non) ds m (.da .none) m := fun B H σ s st Q q => q _ B H (Tr.refl _ _ _) s .non

/-! ### operators, tests -/
theorem ev_op {ro : R2} (ha : Ev K ta ds m a m1) (hb : Ev K tb ds m1 b m2) (hr : Rr K ro a b m2 c m3) : Ev K (tOp ro ta tb) ds m c m3 := fun B H σ s st Q q =>
  ha B H σ s st _ fun x B1 H1 t1 s1 d1 => hb B1 H1 σ s1 (st_mono t1.ex st) _ fun y B2 H2 t2 s2 d2 => hr B2 H2 x y s2 (sd_mono t2.ex d1) d2 Q fun v B3 H3 t3 s3 d3 => q v B3 H3 ((t1.trans t2).trans t3) s3 d3
theorem ev_un {ro : V → Hp → VK → Prop} (ha : Ev K ta ds m a m1) (hr : Ru K ro a m1 c m2) : Ev K (tUn ro ta) ds m c m2 := fun B H σ s st Q q =>
  ha B H σ s st _ fun x B1 H1 t1 s1 d1 => hr B1 H1 x s1 d1 Q fun v B3 H3 t3 s3 d3 => q v B3 H3 (t1.trans t3) s3 d3
theorem ev_chain {r1 r2 : R2} {k k2 : Bool} (ha : Ev K ta ds m a m1) (hb : Ev K tb ds m1 b m2) (hr : Rr K r1 a b m2 (.da (.bool k)) m3)
    (hc : k = true → ∃ m4, Ev K tc ds m3 c m4 ∧ Rr K r2 b c m4 (.da (.bool k2)) m') (hf : k = false → k2 = false ∧ m' = m3) : Ev K (tChain r1 r2 ta tb tc) ds m (.da (.bool k2)) m' := fun B H σ s st Q q =>
  ha B H σ s st _ fun x B1 H1 t1 s1 d1 => hb B1 H1 σ s1 (st_mono t1.ex st) _ fun y B2 H2 t2 s2 d2 => hr B2 H2 x y s2 (sd_mono t2.ex d1) d2 _ fun v B3 H3 t3 s3 d3 => by
    cases d3 with
    | bl k =>
      refine ⟨k, rfl, ?_⟩
      cases k with
      | true =>
        obtain ⟨m4, h1, h2⟩ := hc rfl
        exact iteT (h1 B3 H3 σ s3 (st_mono (t1.ex.trans (t2.ex.trans t3.ex)) st) _ fun z B4 H4 t4 s4 d4 => h2 B4 H4 y z s4 (sd_mono (t3.ex.trans t4.ex) d2) d4 Q fun v5 B5 H5 t5 s5 d5 => q v5 B5 H5 ((((t1.trans t2).trans t3).trans t4).trans t5) s5 d5)
      | false =>
        obtain ⟨e1, e2⟩ := hf rfl
        subst e1 e2
        exact iteF (q _ B3 H3 ((t1.trans t2).trans t3) s3 (.bl _))
theorem et_val {b : Bool} (h : Ev K te ds m (.da (.bool b)) m') : EvT K (tB te) ds m b m' := fun B H σ s st Q q => h B H σ s st _ fun v B2 H2 t s2 d => by
  cases d
  exact ⟨b, rfl, q B2 H2 t s2⟩
theorem et_test {b : Bool} (h : Ev K te ds m (.da (.bool b)) m') : EvT K (tTest te) ds m b m' := fun B H σ s st Q q => h B H σ s st _ fun v B2 H2 t s2 d => by
  cases d
  exact ⟨b, rfl, q B2 H2 t s2⟩
theorem et_not {b : Bool} (h : EvT K t ds m b m') : EvT K (tNot t) ds m (!b) m' := fun B H σ s st Q q => h B H σ s st _ q
theorem et_and {k k2 : Bool} (h : EvT K t ds m k m1) (hc : k = true → EvT K u ds m1 k2 m') (hf : k = false → k2 = false ∧ m' = m1) : EvT K (tAnd t u) ds m k2 m' := fun B H σ s st Q q => h B H σ s st _ fun B1 H1 t1 s1 => by
  cases k with
  | true => exact iteT (hc rfl B1 H1 σ s1 (st_mono t1.ex st) Q fun B2 H2 t2 s2 => q B2 H2 (t1.trans t2) s2)
  | false =>
    obtain ⟨e1, e2⟩ := hf rfl
    subst e1 e2
    exact iteF (q B1 H1 t1 s1)
theorem et_or {k k2 : Bool} (h : EvT K t ds m k m1) (hc : k = false → EvT K u ds m1 k2 m') (hf : k = true → k2 = true ∧ m' = m1) : EvT K (tOr t u) ds m k2 m' := fun B H σ s st Q q => h B H σ s st _ fun B1 H1 t1 s1 => by
  cases k with
  | false => exact iteF (hc rfl B1 H1 σ s1 (st_mono t1.ex st) Q fun B2 H2 t2 s2 => q B2 H2 (t1.trans t2) s2)
  | true =>
    obtain ⟨e1, e2⟩ := hf rfl
    subst e1 e2
    exact iteT (q B1 H1 t1 s1)
theorem ev_andV {k k2 : Bool} (h : Ev K ta ds m (.da (.bool k)) m1) (hc : k = true → Ev K tb ds m1 (.da (.bool k2)) m') (hf : k = false → k2 = false ∧ m' = m1) : Ev K (tAndV ta tb) ds m (.da (.bool k2)) m' := fun B H σ s st Q q => h B H σ s st _ fun v B1 H1 t1 s1 d1 => by
  cases d1
  refine ⟨k, rfl, ?_⟩
  cases k with
  | true => exact iteT (hc rfl B1 H1 σ s1 (st_mono t1.ex st) Q fun v B2 H2 t2 s2 d2 => q v B2 H2 (t1.trans t2) s2 d2)
  | false =>
    obtain ⟨e1, e2⟩ := hf rfl
    subst e1 e2
    exact iteF (q _ B1 H1 t1 s1 (.bl _))
theorem ev_orV {k k2 : Bool} (h : Ev K ta ds m (.da (.bool k)) m1) (hc : k = false → Ev K tb ds m1 (.da (.bool k2)) m') (hf : k = true → k2 = true ∧ m' = m1) : Ev K (tOrV ta tb) ds m (.da (.bool k2)) m' := fun B H σ s st Q q => h B H σ s st _ fun v B1 H1 t1 s1 d1 => by
  cases d1
  refine ⟨k, rfl, ?_⟩
  cases k with
  | false => exact iteF (hc rfl B1 H1 σ s1 (st_mono t1.ex st) Q fun v B2 H2 t2 s2 d2 => q v B2 H2 (t1.trans t2) s2 d2)
  | true =>
    obtain ⟨e1, e2⟩ := hf rfl
    subst e1 e2
    exact iteT (q _ B1 H1 t1 s1 (.bl _))
theorem ev_notV {k : Bool} (h : Ev K ta ds m (.da (.bool k)) m1) : Ev K (tNotV ta) ds m (.da (.bool (!k))) m1 := fun B H σ s st Q q => h B H σ s st _ fun v B1 H1 t1 s1 d1 => by
  cases d1
  exact ⟨k, rfl, q _ B1 H1 t1 s1 (.bl _)⟩
theorem ev_if {k : Bool} (h : EvT K t ds m k m1) (h1 : k = true → Ev K ta ds m1 r m') (h2 : k = false → Ev K tb ds m1 r m') : Ev K (tIf t ta tb) ds m r m' := fun B H σ s st Q q => h B H σ s st _ fun B1 H1 t1 s1 => by
  cases k with
  | true => exact iteT (h1 rfl B1 H1 σ s1 (st_mono t1.ex st) Q fun v B2 H2 t2 s2 d2 => q v B2 H2 (t1.trans t2) s2 d2)
  | false => exact iteF (h2 rfl B1 H1 σ s1 (st_mono t1.ex st) Q fun v B2 H2 t2 s2 d2 => q v B2 H2 (t1.trans t2) s2 d2)

/-! ### arguments, displays, calls of built-ins -/
theorem ea_nil : EvA K tNil ds m [] m := fun B H σ s st Q q => q [] B H (Tr.refl _ _ _) s True.intro
theorem ea_cons {tr : TA} (h : Ev K ta ds m r m1) (hr : EvA K tr ds m1 rs m') : EvA K (tCons ta tr) ds m (r :: rs) m' := fun B H σ s st Q q =>
  h B H σ s st _ fun v B1 H1 t1 s1 d1 => hr B1 H1 σ s1 (st_mono t1.ex st) _ fun vs B2 H2 t2 s2 d2 => q (v :: vs) B2 H2 (t1.trans t2) s2 ⟨sd_mono t2.ex d1, d2⟩
theorem sda_dpa : ∀ {dl : List PyData} {vs : List V}, SdAll K B (dl.map SD.da) vs → DqAll B vs dl
  | [], [], _ => .nil
  | _ :: _, _ :: _, h => .cons h.1 (sda_dpa h.2)
  | [], _ :: _, h => h.elim
  | _ :: _, [], h => h.elim
theorem dpa_len : ∀ {dl : List PyData} {vs : List V}, DqAll B vs dl → vs.length = dl.length
  | _, _, .nil => rfl
  | _, _, .cons _ t => congrArg (· + 1) (dpa_len t)
theorem sda_len : ∀ {as : List SD} {vs : List V}, SdAll K B as vs → vs.length = as.length
  | [], [], _ => rfl
  | _ :: _, _ :: _, h => congrArg (· + 1) (sda_len h.2)
  | [], _ :: _, h => h.elim
  | _ :: _, [], h => h.elim
theorem ev_tup {t : TA} {dl : List PyData} (h : EvA K t ds m (dl.map SD.da) m') (hz : dl.length ≤ 1000) : Ev K (tTup t) ds m (.da (.tuple dl)) m' := fun B H σ s st Q q => h B H σ s st _ fun vs B1 H1 t1 s1 d1 => by
  have da := sda_dpa d1
  have hl := dpa_len da
  exact ⟨Nat.le_of_lt (small1000 (by omega)), fun p hp => q _ _ _ (t1.trans (Tr.data s1 hp)) (s1.data hp) (.tup upd_same (dpa_mono (Ex.new (fresh_b s1 hp)) da))⟩
theorem ev_lst {t : TA} {dl : List PyData} (h : EvA K t ds m (dl.map SD.da) m') (hz : dl.length ≤ 1000) : Ev K (tLst t) ds m (.da (.list dl)) m' := fun B H σ s st Q q => h B H σ s st _ fun vs B1 H1 t1 s1 d1 => by
  have da := sda_dpa d1
  have hl := dpa_len da
  exact ⟨Nat.le_of_lt (small1000 (by omega)), fun p hp => q _ _ _ (t1.trans (Tr.data s1 hp)) (s1.data hp) (.lst upd_same (dpa_mono (Ex.new (fresh_b s1 hp)) da))⟩
theorem en_lst {t : TA} {dl : List PyData} (h : EvA K t ds m (dl.map SD.da) m') (hz : dl.length ≤ 1000) : EvN K (tLst t) ds m (.ls dl) m' := fun B H σ s st Q q => h B H σ s st _ fun vs B1 H1 t1 s1 d1 => by
  have da := sda_dpa d1
  have hl := dpa_len da
  exact ⟨Nat.le_of_lt (small1000 (by omega)), fun p hp => q p _ _ (t1.trans (Tr.cell s1 hp)) (s1.cell hp da)⟩
theorem en_dk : EvN K tDNewK ds m (.dk []) m := fun B H σ s st Q q p hp => q p _ _ (Tr.cell s hp) (s.cell hp True.intro)
theorem en_dt : EvN K tDNewT ds m (.dt []) m := fun B H σ s st Q q p hp => q p _ _ (Tr.cell s hp) (s.cell hp True.intro)
theorem ev_cb {rc : List V → Hp → VK → Prop} {t : TA} (h : EvA K t ds m rs m1) (hr : Rc K rc rs m1 c m') : Ev K (tCB rc t) ds m c m' := fun B H σ s st Q q =>
  h B H σ s st _ fun vs B1 H1 t1 s1 d1 => hr B1 H1 vs s1 d1 Q fun v B2 H2 t2 s2 d2 => q v B2 H2 (t1.trans t2) s2 d2
theorem en_cb {rc : List V → Hp → VK → Prop} {t : TA} {c : CD} (h : EvA K t ds m rs m1) (hr : RcN K rc rs m1 c m') : EvN K (tCB rc t) ds m c m' := fun B H σ s st Q q =>
  h B H σ s st _ fun vs B1 H1 t1 s1 d1 => hr B1 H1 vs s1 d1 Q fun v B2 H2 t2 s2 => q v B2 H2 (t1.trans t2) s2
theorem tyv_of {B H : Hp} {l : Addr} {xs : List V} (h : H l = some (.lst xs)) : tyV K "list" (.ref l) H := Or.inl ⟨rfl, _, SqL.of h⟩
/-- a method of a list, the receiver a cell -/
theorem ev_bm {rm : V → List V → Hp → VK → Prop} {to : TE} {t : TA} {l : Addr} {j : Nat} {dl : List PyData} (ho : Ev K to ds m (.rf l) m1) (hj : m1[j]? = some (l, .ls dl)) (h : EvA K t ds m1 rs m2) (hr : Rm K rm (.rf l) rs m2 c m') : Ev K (tBM K "list" rm to t) ds m c m' := fun B H σ s st Q q =>
  ho B H σ s st _ fun x B1 H1 t1 s1 d1 => by
    have e : x = .ref l := d1
    subst e
    obtain ⟨vs, h1, _⟩ := s1.ls hj
    exact ⟨tyv_of (B := B) h1, h B1 H1 σ s1 (st_mono t1.ex st) _ fun xs B2 H2 t2 s2 d2 => hr B2 H2 _ xs s2 rfl d2 Q fun v B3 H3 t3 s3 d3 => q v B3 H3 ((t1.trans t2).trans t3) s3 d3⟩
theorem ev_bm0 {rm : V → List V → Hp → VK → Prop} {to : TE} {l : Addr} {j : Nat} {dl : List PyData} (ho : Ev K to ds m (.rf l) m1) (hj : m1[j]? = some (l, .ls dl)) (hr : Rm K rm (.rf l) [] m1 c m') : Ev K (tBM0 K "list" rm to) ds m c m' := fun B H σ s st Q q =>
  ho B H σ s st _ fun x B1 H1 t1 s1 d1 => by
    have e : x = .ref l := d1
    subst e
    obtain ⟨vs, h1, _⟩ := s1.ls hj
    exact ⟨tyv_of (B := B) h1, hr B1 H1 _ [] s1 rfl True.intro Q fun v B3 H3 t3 s3 d3 => q v B3 H3 (t1.trans t3) s3 d3⟩
/-- slices -/
theorem eo_none : EvO K tNoPart ds m none m := fun B H σ s st Q q => q B H (Tr.refl _ _ _) s
theorem eo_some {i : Int} (h : Ev K te ds m (.da (.int i)) m') : EvO K (tPart te) ds m (some i) m' := fun B H σ s st Q q => h B H σ s st _ fun v B2 H2 t s2 d => by
  cases d
  exact ⟨i, rfl, q B2 H2 t s2⟩
def Rs (K : PySem.W.Frag) (r : V → Option Int → Option Int → Hp → VK → Prop) (a : SD) (lo hi : Option Int) (m : M) (c : SD) (m' : M) : Prop :=
  ∀ B H x, SOk K B m H → SdOk K B a x → ∀ Q : VK, (∀ v B2 H2, Tr B H (keys m) B2 H2 (keys m') → SOk K B2 m' H2 → SdOk K B2 c v → Q v H2) → r x lo hi H Q
theorem ev_sl {rs : V → Option Int → Option Int → Hp → VK → Prop} {tl th : TO} {lo hi : Option Int} (ha : Ev K ta ds m a m1) (hl : EvO K tl ds m1 lo m2) (hh : EvO K th ds m2 hi m3) (hr : Rs K rs a lo hi m3 c m') : Ev K (tSl rs ta tl th) ds m c m' := fun B H σ s st Q q =>
  ha B H σ s st _ fun x B1 H1 t1 s1 d1 => hl B1 H1 σ s1 (st_mono t1.ex st) _ fun B2 H2 t2 s2 => hh B2 H2 σ s2 (st_mono (t1.ex.trans t2.ex) st) _ fun B3 H3 t3 s3 => hr B3 H3 x s3 (sd_mono (t2.ex.trans t3.ex) d1) Q fun v B4 H4 t4 s4 d4 => q v B4 H4 (((t1.trans t2).trans t3).trans t4) s4 d4
end

/-! ### defs: a promise by a relation of symbolic values -/
/-- F: the arguments, the cells, what comes back with which cells -/
abbrev Pf := List SD → M → (SD → M → Prop) → Prop
def spOf (K : PySem.W.Frag) (F : Pf) : Sp := fun vs H Q _ => ∃ B as m R, F as m R ∧ SOk K B m H ∧ SdAll K B as vs ∧ ∀ v B2 H2 r m2, R r m2 → Tr B H (keys m) B2 H2 (keys m2) → SOk K B2 m2 H2 → SdOk K B2 r v → Q v H2
section
variable {K : PySem.W.Frag} {ds : List SD} {m m1 m' : M} {rs : List SD} {c : SD} {F : Pf} {E : XK} {t : TA}
/-- a call of a def that has no cells -/
theorem ev_call (h : EvA K t ds m rs m1) (hF : ∃ R, F rs [] R ∧ ∀ r m2, R r m2 → r = c ∧ m2 = []) : Ev K (tCall (spOf K F) [] E t) ds m c m1 := fun B H σ s st Q q =>
  h B H σ s st _ fun vs B1 H1 t1 s1 d1 => by
    obtain ⟨R, hR, hq⟩ := hF
    have s0 : SOk K B1 [] H1 := s1.sub (List.nil_sublist _)
    refine ⟨B1, rs, [], R, hR, s0, by rw [List.append_nil]; exact d1, fun v B2 H2 r m2 hr t2 s2 d2 => ?_⟩
    obtain ⟨rfl, rfl⟩ := hq r m2 hr
    have s1' : SOk K B1 ([] ++ m1) H1 := s1
    obtain ⟨t3, s3⟩ := fr_ok s1' t2 s2
    exact q v B2 H2 (t1.trans t3) s3 d2
/-- .. that gives a new cell -/
theorem en_call {cd : CD} (h : EvA K t ds m rs m1) (hF : ∃ R, F rs [] R ∧ ∀ r m2, R r m2 → ∃ p, r = .rf p ∧ m2 = [(p, cd)]) (hm : m1 = []) : EvN K (tCall (spOf K F) [] E t) ds m cd [] := fun B H σ s st Q q =>
  h B H σ s st _ fun vs B1 H1 t1 s1 d1 => by
    obtain ⟨R, hR, hq⟩ := hF
    subst hm
    refine ⟨B1, rs, [], R, hR, s1, by rw [List.append_nil]; exact d1, fun v B2 H2 r m2 hr t2 s2 d2 => ?_⟩
    obtain ⟨p, rfl, rfl⟩ := hq r m2 hr
    have e : v = .ref p := d2
    subst e
    exact q p B2 H2 (t1.trans t2) s2
theorem move : ∀ {m : M} {j : Nat} {x : Addr × CD}, m[j]? = some x → ([x] ++ m.eraseIdx j).Perm m
  | [], _, _, h => by simp at h
  | a :: r, 0, x, h => by
    have e : a = x := Option.some.inj h
    rw [e]
    exact List.Perm.refl _
  | a :: r, j + 1, x, h => (List.Perm.swap a x _).trans (List.Perm.cons a (move (m := r) (j := j) h))
theorem SOk.perm {B H : Hp} {m m2 : M} (s : SOk K B m H) (p : m2.Perm m) : SOk K B m2 H := ⟨s.ext, (p.map _).nodup_iff.mpr s.nd, fun q hq => s.out q (p.mem_iff.mp hq), fun q hq => s.cel q (p.mem_iff.mp hq)⟩
theorem Tr.perm {B H B2 H2 : Hp} {k k2 k' k2' : List Addr} (t : Tr B H k B2 H2 k') (p : ∀ a, a ∈ k ↔ a ∈ k2) (p' : ∀ a, a ∈ k' ↔ a ∈ k2') : Tr B H k2 B2 H2 k2' := ⟨t.ex, t.new, t.tp, fun a o h e => t.keep a o (fun z => h ((p a).mp z)) e, fun a z => (t.kys a ((p' a).mpr z)).imp (p a).mp id, t.grow⟩
theorem set_perm {m : M} {j : Nat} {x y : Addr × CD} (hj : m[j]? = some x) : ([y] ++ m.eraseIdx j).Perm (m.set j y) := by
  have h1 : (m.set j y)[j]? = some y := by
    obtain ⟨h1, h2⟩ := List.getElem?_eq_some_iff.mp hj
    rw [List.getElem?_set_self h1]
  have h2 := move h1
  rw [List.eraseIdx_set_eq] at h2
  exact h2
/-- a call of a def that has one cell, here at j -/
theorem ev_call1 {l : Addr} {cd cd' : CD} (j : Nat) (h : EvA K t ds m rs m1) (hj : m1[j]? = some (l, cd)) (hF : ∃ R, F rs [(l, cd)] R ∧ ∀ r m2, R r m2 → r = c ∧ m2 = [(l, cd')]) : Ev K (tCall (spOf K F) [] E t) ds m c (m1.set j (l, cd')) := fun B H σ s st Q q =>
  h B H σ s st _ fun vs B1 H1 t1 s1 d1 => by
    obtain ⟨R, hR, hq⟩ := hF
    have s1' : SOk K B1 ([(l, cd)] ++ m1.eraseIdx j) H1 := s1.perm (move hj)
    refine ⟨B1, rs, [(l, cd)], R, hR, s1'.sub (List.sublist_append_left _ _), by rw [List.append_nil]; exact d1, fun v B2 H2 r m2 hr t2 s2 d2 => ?_⟩
    obtain ⟨rfl, rfl⟩ := hq r m2 hr
    obtain ⟨t3, s3⟩ := fr_ok s1' t2 s2
    have p1 : ∀ a, a ∈ keys ([(l, cd)] ++ m1.eraseIdx j) ↔ a ∈ keys m1 := fun a => ((move hj).map Prod.fst).mem_iff
    have p2 : ∀ a, a ∈ keys ([(l, cd')] ++ m1.eraseIdx j) ↔ a ∈ keys (m1.set j (l, cd')) := fun a => ((set_perm (y := (l, cd')) hj).map Prod.fst).mem_iff
    exact q v B2 H2 (t1.trans (t3.perm p1 p2)) (s3.perm (set_perm hj).symm) d2
end
end FC
set_option maxHeartbeats 4000000
/-! FR: encodings of Lean values as data; what the operations are in Lean (none: a side condition of the model fails); their rules. -/
namespace FC
open PySem PySem.Spec PyProof.Rows L2 Evl

/-! ### encodings -/
section
variable {α β γ δ : Type}
def dI (i : Int) : PyData := .int i
def dB (b : Bool) : PyData := .bool b
def dS (s : Str) : PyData := .str s
def dN (_ : Unit) : PyData := .none
def dL (f : α → PyData) (xs : List α) : PyData := .list (xs.map f)
def dU (f : α → PyData) (xs : List α) : PyData := .tuple (xs.map f)
def dP (f : α → PyData) (g : β → PyData) (p : α × β) : PyData := .tuple [f p.1, g p.2]
def d3 (f : α → PyData) (g : β → PyData) (h : γ → PyData) (p : α × β × γ) : PyData := .tuple [f p.1, g p.2.1, h p.2.2]
def d4 (f : α → PyData) (g : β → PyData) (h : γ → PyData) (i : δ → PyData) (p : α × β × γ × δ) : PyData := .tuple [f p.1, g p.2.1, h p.2.2.1, i p.2.2.2]
def dO (f : α → PyData) : Option α → PyData
  | none => .none
  | some a => f a
end

/-! ### what is equal, what is less -/
class Enc {α : Type} [DecidableEq α] (f : α → PyData) where
  plain : ∀ a, (f a).plain = true
  eqv : ∀ a b, PyData.eqv (f a) (f b) = decide (a = b)
  dep : Nat
  dep_le : ∀ a, (f a).depth ≤ dep
class EncO {α : Type} [DecidableEq α] (f : α → PyData) extends Enc f where
  lt : α → α → Bool
  alike : ∀ a b, PySem.W.alike (f a) (f b) = true
  notNone : ∀ a, f a ≠ .none
  lt_eq : ∀ a b, PySem.W.dataLt (f a) (f b) = lt a b

section
variable {α β γ : Type} [DecidableEq α] [DecidableEq β] [DecidableEq γ] (f : α → PyData) (g : β → PyData) (h : γ → PyData)
theorem beq_dec {α : Type} [BEq α] [LawfulBEq α] [DecidableEq α] (a b : α) : (a == b) = decide (a = b) := by
  rw [Bool.eq_iff_iff, beq_iff_eq, decide_eq_true_eq]
instance : Enc dI where
  plain _ := rfl
  eqv a b := by show PyData.eqv (.int a) (.int b) = _; simp only [PyData.eqv]; exact beq_dec a b
  dep := 0
  dep_le _ := Nat.le_refl _
instance : Enc dB where
  plain _ := rfl
  eqv a b := by show PyData.eqv (.bool a) (.bool b) = _; simp only [PyData.eqv]; exact beq_dec a b
  dep := 0
  dep_le _ := Nat.le_refl _
instance : Enc dS where
  plain _ := rfl
  eqv a b := by show PyData.eqv (.str a) (.str b) = _; simp only [PyData.eqv]; exact beq_dec a b
  dep := 0
  dep_le _ := Nat.le_refl _
instance : Enc dN where
  plain _ := rfl
  eqv a b := by show PyData.eqv .none .none = _; simp only [PyData.eqv]; rfl
  dep := 0
  dep_le _ := Nat.le_refl _
theorem plainAll_enc [Enc f] : ∀ xs : List α, PyData.plainAll (xs.map f) = true
  | [] => rfl
  | x :: xs => by
    rw [List.map_cons, PyData.plainAll, Enc.plain x, plainAll_enc xs]
    rfl
theorem depthAll_enc [Enc f] : ∀ xs : List α, PyData.depthAll (xs.map f) ≤ Enc.dep f
  | [] => Nat.zero_le _
  | x :: xs => by
    rw [List.map_cons, PyData.depthAll]
    exact Nat.max_le.mpr ⟨Enc.dep_le x, depthAll_enc xs⟩
theorem eqvAll_enc [Enc f] : ∀ xs ys : List α, PyData.eqvAll (xs.map f) (ys.map f) = decide (xs = ys)
  | [], [] => by simp only [List.map_nil, PyData.eqvAll, decide_true]
  | [], _ :: _ => by simp [PyData.eqvAll]
  | _ :: _, [] => by simp [PyData.eqvAll]
  | x :: xs, y :: ys => by
    rw [List.map_cons, List.map_cons, PyData.eqvAll, Enc.eqv x y, eqvAll_enc xs ys, ← Bool.decide_and]
    exact decide_eq_decide.mpr (by rw [List.cons.injEq])
instance [Enc f] : Enc (dL f) where
  plain xs := by show (PyData.list _).plain = true; simp only [PyData.plain]; exact plainAll_enc f xs
  eqv xs ys := by show PyData.eqv (.list _) (.list _) = _; simp only [PyData.eqv]; exact eqvAll_enc f xs ys
  dep := Enc.dep f + 1
  dep_le xs := by show (PyData.list _).depth ≤ _; simp only [PyData.depth]; exact Nat.succ_le_succ (depthAll_enc f xs)
instance [Enc f] : Enc (dU f) where
  plain xs := by show (PyData.tuple _).plain = true; simp only [PyData.plain]; exact plainAll_enc f xs
  eqv xs ys := by show PyData.eqv (.tuple _) (.tuple _) = _; simp only [PyData.eqv]; exact eqvAll_enc f xs ys
  dep := Enc.dep f + 1
  dep_le xs := by show (PyData.tuple _).depth ≤ _; simp only [PyData.depth]; exact Nat.succ_le_succ (depthAll_enc f xs)
instance [Enc f] [Enc g] : Enc (dP f g) where
  plain p := by show (PyData.tuple _).plain = true; simp only [PyData.plain, PyData.plainAll, Enc.plain, Bool.and_self]
  eqv p q := by
    show PyData.eqv (.tuple _) (.tuple _) = _
    simp only [PyData.eqv, PyData.eqvAll]
    rw [Enc.eqv, Enc.eqv, Bool.and_true, ← Bool.decide_and]
    exact decide_eq_decide.mpr ⟨fun e => Prod.ext e.1 e.2, fun e => by rw [e]; exact ⟨rfl, rfl⟩⟩
  dep := max (Enc.dep f) (Enc.dep g) + 1
  dep_le p := by
    show (PyData.tuple _).depth ≤ _
    simp only [PyData.depth, PyData.depthAll]
    have h1 := Enc.dep_le (f := f) p.1
    have h2 := Enc.dep_le (f := g) p.2
    omega
instance [Enc f] [Enc g] [Enc h] : Enc (d3 f g h) where
  plain p := by show (PyData.tuple _).plain = true; simp only [PyData.plain, PyData.plainAll, Enc.plain, Bool.and_self]
  eqv p q := by
    show PyData.eqv (.tuple _) (.tuple _) = _
    simp only [PyData.eqv, PyData.eqvAll]
    rw [Enc.eqv, Enc.eqv, Enc.eqv, Bool.and_true, ← Bool.decide_and, ← Bool.decide_and]
    exact decide_eq_decide.mpr ⟨fun e => Prod.ext e.1 (Prod.ext e.2.1 e.2.2), fun e => by rw [e]; exact ⟨rfl, rfl, rfl⟩⟩
  dep := max (Enc.dep f) (max (Enc.dep g) (Enc.dep h)) + 1
  dep_le p := by
    show (PyData.tuple _).depth ≤ _
    simp only [PyData.depth, PyData.depthAll]
    have h1 := Enc.dep_le (f := f) p.1
    have h2 := Enc.dep_le (f := g) p.2.1
    have h3 := Enc.dep_le (f := h) p.2.2
    omega

/-- the first difference decides, else the shorter is the less -/
def ltL (lt : α → α → Bool) : List α → List α → Bool
  | [], [] => false
  | [], _ :: _ => true
  | _ :: _, [] => false
  | x :: xs, y :: ys => if x = y then ltL lt xs ys else lt x y
def ltP (lt : α → α → Bool) (lt2 : β → β → Bool) (p q : α × β) : Bool := if p.1 = q.1 then lt2 p.2 q.2 else lt p.1 q.1
def lt3 (lt : α → α → Bool) (lt2 : β → β → Bool) (ltt : γ → γ → Bool) (p q : α × β × γ) : Bool := if p.1 = q.1 then (if p.2.1 = q.2.1 then ltt p.2.2 q.2.2 else lt2 p.2.1 q.2.1) else lt p.1 q.1
def ltI (a b : Int) : Bool := decide (a < b)
def ltS (a b : Str) : Bool := decide (a.cps.toList < b.cps.toList)
instance : EncO dI where
  lt := ltI
  alike a b := by show PySem.W.alike (.int a) (.int b) = true; simp only [PySem.W.alike]
  notNone a := fun e => by cases e
  lt_eq a b := PySem.W.dataLt_int a b
instance : EncO dS where
  lt := ltS
  alike a b := by show PySem.W.alike (.str a) (.str b) = true; simp only [PySem.W.alike]
  notNone a := fun e => by cases e
  lt_eq a b := PySem.W.dataLt_str a b
theorem alikeAll_enc [EncO f] : ∀ xs ys : List α, PySem.W.alikeAll (xs.map f) (ys.map f) = true
  | [], _ => by rw [List.map_nil, PySem.W.alikeAll]
  | _ :: _, [] => by rw [List.map_nil, List.map_cons, PySem.W.alikeAll]
  | x :: xs, y :: ys => by
    rw [List.map_cons, List.map_cons, PySem.W.alikeAll, EncO.alike x y, alikeAll_enc xs ys]
    rfl
theorem lexAll_enc [EncO f] : ∀ xs ys : List α, PyProof.Rows.lexLt itemOrd (PySem.W.keyToksAll (xs.map f)) (PySem.W.keyToksAll (ys.map f)) = ltL (EncO.lt f) xs ys
  | [], [] => lex_irrefl _
  | [], y :: ys => by
    rw [List.map_nil, List.map_cons, PySem.W.toks_all_cons]
    simp only [PySem.W.keyToksAll]
    rw [lex_diff (O := itemOrd) (by simp)]
    rfl
  | x :: xs, [] => by
    rw [List.map_nil, List.map_cons, PySem.W.toks_all_cons]
    simp only [PySem.W.keyToksAll]
    rw [lex_diff (O := itemOrd) (by simp)]
    rfl
  | x :: xs, y :: ys => by
    rw [List.map_cons, List.map_cons, ltL]
    by_cases h : x = y
    · rw [if_pos h, PySem.W.dataLt_all_yes (EncO.alike x y) (by rw [Enc.eqv, decide_eq_true_eq]; exact h), lexAll_enc xs ys]
    · rw [if_neg h, PySem.W.dataLt_all_no (EncO.alike x y) (by rw [Enc.eqv, decide_eq_false_iff_not]; exact h)]
      exact EncO.lt_eq x y
instance [EncO f] : EncO (dL f) where
  lt := ltL (EncO.lt f)
  alike xs ys := by show PySem.W.alike (.list _) (.list _) = true; simp only [PySem.W.alike]; exact alikeAll_enc f xs ys
  notNone a := fun e => by cases e
  lt_eq xs ys := (PySem.W.dataLt_list _ _).trans (lexAll_enc f xs ys)
instance [EncO f] : EncO (dU f) where
  lt := ltL (EncO.lt f)
  alike xs ys := by show PySem.W.alike (.tuple _) (.tuple _) = true; simp only [PySem.W.alike]; exact alikeAll_enc f xs ys
  notNone a := fun e => by cases e
  lt_eq xs ys := (PySem.W.dataLt_tuple _ _).trans (lexAll_enc f xs ys)
theorem dataLt_self (d : PyData) : PySem.W.dataLt d d = false := lex_irrefl _
instance [EncO f] [EncO g] : EncO (dP f g) where
  lt := ltP (EncO.lt f) (EncO.lt g)
  alike p q := by
    show PySem.W.alike (.tuple [_, _]) (.tuple [_, _]) = true
    simp only [PySem.W.alike, PySem.W.alikeAll, EncO.alike, Bool.and_self]
  notNone a := fun e => by cases e
  lt_eq p q := by
    refine (PySem.W.dataLt_tuple _ _).trans ?_
    show _ = ltP _ _ p q
    unfold ltP
    by_cases h : p.1 = q.1
    · rw [if_pos h, PySem.W.dataLt_all_yes (EncO.alike p.1 q.1) (by rw [Enc.eqv, decide_eq_true_eq]; exact h)]
      by_cases h2 : p.2 = q.2
      · rw [PySem.W.dataLt_all_yes (EncO.alike p.2 q.2) (by rw [Enc.eqv, decide_eq_true_eq]; exact h2), lex_irrefl, h2]
        exact ((dataLt_self _).symm.trans (EncO.lt_eq q.2 q.2))
      · rw [PySem.W.dataLt_all_no (EncO.alike p.2 q.2) (by rw [Enc.eqv, decide_eq_false_iff_not]; exact h2)]
        exact EncO.lt_eq p.2 q.2
    · rw [if_neg h, PySem.W.dataLt_all_no (EncO.alike p.1 q.1) (by rw [Enc.eqv, decide_eq_false_iff_not]; exact h)]
      exact EncO.lt_eq p.1 q.1
end

/-! ### operations in Lean -/
section
variable {α β : Type}
def MulOk (i j : Int) : Prop := CMul i j ∨ CMulW i j
instance (i j : Int) : Decidable (MulOk i j) := by unfold MulOk CMul CMulW; infer_instance
instance (i j : Int) : Decidable (CPow i j) := by unfold CPow; infer_instance
instance (i j : Int) : Decidable (CDiv i j) := by unfold CDiv; infer_instance
instance (i j : Int) : Decidable (CDivW i j) := by unfold CDivW; infer_instance
def mulG (i j : Int) : Option Int := if MulOk i j then some (i * j) else none
def fdivG (i j : Int) : Option Int := if CDiv i j ∨ CDivW i j then some (i / j) else none
def modG (i j : Int) : Option Int := if 0 < j then some (i % j) else none
def lenG (n : Nat) : Option Unit := if n ≤ 16000000 then some () else none
def getI (xs : List α) (i : Int) : Option α := atI xs i
def setI (xs : List α) (i : Int) (x : α) : Option (List α) := (ixN xs.length i).map fun j => xs.set j x
def cutI (xs : List α) (lo hi : Option Int) : List α := (xs.drop (HT.sIx xs.length 0 lo)).take (HT.sIx xs.length xs.length hi - HT.sIx xs.length 0 lo)
def absI (i : Int) : Int := if i < 0 then -i else i
def b2 (b : Bool) : Int := if b then 1 else 0
def max2 (i j : Int) : Int := if j > i then j else i
def min2 (i j : Int) : Int := if j < i then j else i
def minL (lt : α → α → Bool) : List α → Option α
  | [] => none
  | x :: xs => some (xs.foldl (fun a y => if lt y a = true then y else a) x)
def maxL (lt : α → α → Bool) : List α → Option α
  | [] => none
  | x :: xs => some (xs.foldl (fun a y => if lt a y = true then y else a) x)
def srt (lt : α → α → Bool) (xs : List α) : List α := xs.mergeSort fun a b => !lt b a
def rng (a b : Int) : List Int := (List.range (b - a).toNat).map fun (i : Nat) => a + (i : Int)
def rngG (a b : Int) : Option (List Int) := if -(2 ^ 62) ≤ a ∧ a < 2 ^ 62 ∧ -(2 ^ 62) ≤ b ∧ b < 2 ^ 62 then some (rng a b) else none
theorem bindS {o : Option α} {f : α → Option β} {b : β} (h : o.bind f = some b) : ∃ a, o = some a ∧ f a = some b := by
  cases o with
  | none => cases h
  | some a => exact ⟨a, rfl, h⟩
theorem mulG_some {i j k : Int} (h : mulG i j = some k) : MulOk i j ∧ i * j = k := by
  unfold mulG at h
  split at h
  · exact ⟨by assumption, Option.some.inj h⟩
  · cases h
theorem fdivG_some {i j k : Int} (h : fdivG i j = some k) : (CDiv i j ∨ CDivW i j) ∧ i / j = k := by
  unfold fdivG at h
  split at h
  · exact ⟨by assumption, Option.some.inj h⟩
  · cases h
theorem modG_some {i j k : Int} (h : modG i j = some k) : 0 < j ∧ i % j = k := by
  unfold modG at h
  split at h
  · exact ⟨by assumption, Option.some.inj h⟩
  · cases h
theorem lenG_some {n : Nat} {u : Unit} (h : lenG n = some u) : n ≤ 16000000 := by
  unfold lenG at h
  split at h
  · assumption
  · cases h
theorem rngG_some {a b : Int} {l : List Int} (h : rngG a b = some l) : (-(2 ^ 62) ≤ a ∧ a < 2 ^ 62 ∧ -(2 ^ 62) ≤ b ∧ b < 2 ^ 62) ∧ rng a b = l := by
  unfold rngG at h
  split at h
  · exact ⟨by assumption, Option.some.inj h⟩
  · cases h
theorem atI_map {f : α → β} {xs : List α} {i : Int} {x : α} (h : atI xs i = some x) : atI (xs.map f) i = some (f x) := by
  unfold atI at h ⊢
  rw [List.length_map]
  cases e : ixN xs.length i with
  | none =>
    rw [e] at h
    cases h
  | some j =>
    rw [e] at h
    show (xs.map f)[j]? = some (f x)
    rw [List.getElem?_map, show xs[j]? = some x from h]
    rfl
end

/-! ### rules by values -/
section
variable {K : PySem.W.Frag} {B H : Hp} {m m1 m' : M} {a b c : SD} {α β : Type}
/-- a rule that leaves the heap as it is -/
theorem Rr.of {r : R2} (h : ∀ B H x y, SOk K B m H → SdOk K B a x → SdOk K B b y → ∀ Q : VK, (∀ v, SdOk K B c v → Q v H) → r x y H Q) : Rr K r a b m c m := fun B H x y s dx dy Q q =>
  h B H x y s dx dy Q fun v d => q v B H (Tr.refl _ _ _) s d
theorem Ru.of {r : V → Hp → VK → Prop} (h : ∀ B H x, SOk K B m H → SdOk K B a x → ∀ Q : VK, (∀ v, SdOk K B c v → Q v H) → r x H Q) : Ru K r a m c m := fun B H x s dx Q q =>
  h B H x s dx Q fun v d => q v B H (Tr.refl _ _ _) s d
theorem Rc.of {r : List V → Hp → VK → Prop} {as : List SD} (h : ∀ B H xs, SOk K B m H → SdAll K B as xs → ∀ Q : VK, (∀ v, SdOk K B c v → Q v H) → r xs H Q) : Rc K r as m c m := fun B H x s dx Q q =>
  h B H x s dx Q fun v d => q v B H (Tr.refl _ _ _) s d
theorem int_of {i : Int} {v : V} (h : SdOk K B (.da (dI i)) v) : v = .int i := by
  have h' : Dq B v (.int i) := h
  cases h'
  rfl
theorem bl_of {i : Bool} {v : V} (h : SdOk K B (.da (dB i)) v) : v = .bl i := by
  have h' : Dq B v (.bool i) := h
  cases h'
  rfl
theorem str_of {i : Str} {v : V} (h : SdOk K B (.da (dS i)) v) : v = .str i := by
  have h' : Dq B v (.str i) := h
  cases h'
  rfl
theorem non_of {v : V} (h : SdOk K B (.da .none) v) : v = .non := by
  have h' : Dq B v .none := h
  cases h'
  rfl
theorem lst_of {f : α → PyData} {xs : List α} {v : V} (h : SdOk K B (.da (dL f xs)) v) : ∃ p vs, v = .ref p ∧ B p = some (.lst vs) ∧ DqAll B vs (xs.map f) := by
  have h' : Dq B v (.list (xs.map f)) := h
  cases h' with
  | lst h1 h2 => exact ⟨_, _, rfl, h1, h2⟩
theorem tup_of {f : α → PyData} {xs : List α} {v : V} (h : SdOk K B (.da (dU f xs)) v) : ∃ p vs, v = .ref p ∧ B p = some (.tup vs) ∧ DqAll B vs (xs.map f) := by
  have h' : Dq B v (.tuple (xs.map f)) := h
  cases h' with
  | tup h1 h2 => exact ⟨_, _, rfl, h1, h2⟩
theorem pair_of {f : α → PyData} {g : β → PyData} {p : α × β} {v : V} (h : SdOk K B (.da (dP f g p)) v) : ∃ q x y, v = .ref q ∧ B q = some (.tup [x, y]) ∧ Dq B x (f p.1) ∧ Dq B y (g p.2) := by
  have h' : Dq B v (.tuple [f p.1, g p.2]) := h
  cases h' with
  | tup h1 h2 =>
    cases h2 with
    | cons a1 t =>
      cases t with
      | cons a2 t =>
        cases t
        exact ⟨_, _, _, rfl, h1, a1, a2⟩
theorem dq_tuple {dl : List PyData} {v : V} (h : SdOk K B (.da (.tuple dl)) v) : ∃ p vs, v = .ref p ∧ B p = some (.tup vs) ∧ DqAll B vs dl := by
  have h' : Dq B v (.tuple dl) := h
  cases h' with
  | tup h1 h2 => exact ⟨_, _, rfl, h1, h2⟩
theorem dqa_get : ∀ {vs : List V} {dl : List PyData} {i : Nat} {d : PyData}, DqAll B vs dl → dl[i]? = some d → ∃ v, vs[i]? = some v ∧ Dq B v d
  | _, _, _, _, .nil, h => by simp at h
  | _, _, 0, d, .cons h _, e => by
    have e' := Option.some.inj e
    subst e'
    exact ⟨_, rfl, h⟩
  | _, _, i + 1, d, .cons _ t, e => dqa_get (i := i) t e
theorem dqa_at {vs : List V} {dl : List PyData} {i : Int} {d : PyData} (h : DqAll B vs dl) (e : atI dl i = some d) : ∃ v, atI vs i = some v ∧ Dq B v d := by
  unfold atI at e ⊢
  rw [dpa_len h]
  cases q : ixN dl.length i with
  | none =>
    rw [q] at e
    cases e
  | some j =>
    rw [q] at e
    exact dqa_get h e
theorem dqa_set : ∀ {vs : List V} {dl : List PyData} (j : Nat) {v : V} {d : PyData}, DqAll B vs dl → Dq B v d → DqAll B (vs.set j v) (dl.set j d)
  | _, _, _, _, _, .nil, _ => .nil
  | _, _, 0, _, _, .cons _ t, q => .cons q t
  | _, _, j + 1, _, _, .cons h t, q => .cons h (dqa_set j t q)
theorem dqa_app : ∀ {vs ws : List V} {dl el : List PyData}, DqAll B vs dl → DqAll B ws el → DqAll B (vs ++ ws) (dl ++ el)
  | _, _, _, _, .nil, q => q
  | _, _, _, _, .cons h t, q => .cons h (dqa_app t q)
theorem dqa_take : ∀ {vs : List V} {dl : List PyData} (n : Nat), DqAll B vs dl → DqAll B (vs.take n) (dl.take n)
  | _, _, 0, _ => .nil
  | _, _, n + 1, .nil => .nil
  | _, _, n + 1, .cons h t => .cons h (dqa_take n t)
theorem dqa_drop : ∀ {vs : List V} {dl : List PyData} (n : Nat), DqAll B vs dl → DqAll B (vs.drop n) (dl.drop n)
  | _, _, 0, h => h
  | _, _, n + 1, .nil => .nil
  | _, _, n + 1, .cons h t => dqa_drop n t
theorem dqa_ints : ∀ {vs : List V} {ns : List Int}, DqAll B vs (ns.map dI) → vs = ns.map V.int
  | _, [], .nil => rfl
  | _, n :: ns, .cons h t => by
    have e := int_of (K := default) h
    rw [e, dqa_ints t]
    rfl
theorem ints_dqa : ∀ (ns : List Int), DqAll B (ns.map V.int) (ns.map dI)
  | [] => .nil
  | n :: ns => .cons (.int n) (ints_dqa ns)
theorem dqa_bools : ∀ {vs : List V} {ns : List Bool}, DqAll B vs (ns.map dB) → vs = ns.map V.bl
  | _, [], .nil => rfl
  | _, n :: ns, .cons h t => by
    have e := bl_of (K := default) h
    rw [e, dqa_bools t]
    rfl
theorem dqa_strs : ∀ {vs : List V} {ns : List Str}, DqAll B vs (ns.map dS) → vs = ns.map V.str
  | _, [], .nil => rfl
  | _, n :: ns, .cons h t => by
    have e := str_of (K := default) h
    rw [e, dqa_strs t]
    rfl

/-! arithmetic -/
theorem rr_i {f : Int → Int → Int} {i j : Int} : Rr K (rI0 fun i j => .int (f i j)) (.da (dI i)) (.da (dI j)) m (.da (dI (f i j))) m := Rr.of fun B H x y s dx dy Q q => ⟨i, j, int_of dx, int_of dy, q _ (.int _)⟩
theorem rr_b {f : Int → Int → Bool} {i j : Int} : Rr K (rI0 fun i j => .bl (f i j)) (.da (dI i)) (.da (dI j)) m (.da (dB (f i j))) m := Rr.of fun B H x y s dx dy Q q => ⟨i, j, int_of dx, int_of dy, q _ (.bl _)⟩
theorem rr_c {C : Int → Int → Prop} {f : Int → Int → Int} {i j k : Int} (h : C i j) (e : f i j = k) : Rr K (rI C fun i j => .int (f i j)) (.da (dI i)) (.da (dI j)) m (.da (dI k)) m := Rr.of fun B H x y s dx dy Q q => ⟨i, j, int_of dx, int_of dy, h, by
  show Q (.int (f i j)) H
  rw [e]
  exact q _ (.int _)⟩
def rMulA : R2 := fun x y H Q => rI CMul (fun i j => .int (i * j)) x y H Q ∨ rI CMulW (fun i j => .int (i * j)) x y H Q
def rDivA : R2 := fun x y H Q => rI CDiv (fun i j => .int (i / j)) x y H Q ∨ rI CDivW (fun i j => .int (i / j)) x y H Q
theorem op_mulA {X : Cx} : OpR X (binaryOp .Mult) rMulA := OpR.or op_mul op_mulW
theorem op_divA {X : Cx} : OpR X (binaryOp .FloorDiv) rDivA := OpR.or op_fdiv op_fdivW
theorem rr_mul {i j k : Int} (h : mulG i j = some k) : Rr K rMulA (.da (dI i)) (.da (dI j)) m (.da (dI k)) m := Rr.of fun B H x y s dx dy Q q => by
  obtain ⟨h1 | h1, h2⟩ := mulG_some h
  · exact Or.inl ⟨i, j, int_of dx, int_of dy, h1, by subst h2; exact q _ (.int _)⟩
  · exact Or.inr ⟨i, j, int_of dx, int_of dy, h1, by subst h2; exact q _ (.int _)⟩
theorem rr_div {i j k : Int} (h : fdivG i j = some k) : Rr K rDivA (.da (dI i)) (.da (dI j)) m (.da (dI k)) m := Rr.of fun B H x y s dx dy Q q => by
  obtain ⟨h1 | h1, h2⟩ := fdivG_some h
  · exact Or.inl ⟨i, j, int_of dx, int_of dy, h1, by subst h2; exact q _ (.int _)⟩
  · exact Or.inr ⟨i, j, int_of dx, int_of dy, h1, by subst h2; exact q _ (.int _)⟩
theorem rr_mod {i j k : Int} (h : modG i j = some k) : Rr K (rI (fun _ j => 0 < j) fun i j => .int (i % j)) (.da (dI i)) (.da (dI j)) m (.da (dI k)) m := rr_c (f := fun i j => i % j) (modG_some h).1 (modG_some h).2
theorem ru_neg {i : Int} : Ru K (rU fun i => .int (-i)) (.da (dI i)) m (.da (dI (-i))) m := Ru.of fun B H x s dx Q q => ⟨i, int_of dx, q _ (.int _)⟩
/-! scalars -/
theorem rr_eqI {i j : Int} : Rr K rEq (.da (dI i)) (.da (dI j)) m (.da (dB (decide (i = j)))) m := Rr.of fun B H x y s dx dy Q q => by
  rw [int_of dx, int_of dy]
  refine ⟨rfl, ?_⟩
  rw [decide_eq_decide.mpr (show V.int i = V.int j ↔ i = j from ⟨fun e => V.int.inj e, fun e => by rw [e]⟩)]
  exact q _ (.bl _)
theorem rr_neI {i j : Int} : Rr K rNe (.da (dI i)) (.da (dI j)) m (.da (dB (!decide (i = j)))) m := Rr.of fun B H x y s dx dy Q q => by
  rw [int_of dx, int_of dy]
  refine ⟨rfl, ?_⟩
  rw [decide_eq_decide.mpr (show V.int i = V.int j ↔ i = j from ⟨fun e => V.int.inj e, fun e => by rw [e]⟩)]
  exact q _ (.bl _)
theorem rr_eqB {i j : Bool} : Rr K rEq (.da (dB i)) (.da (dB j)) m (.da (dB (decide (i = j)))) m := Rr.of fun B H x y s dx dy Q q => by
  rw [bl_of dx, bl_of dy]
  refine ⟨rfl, ?_⟩
  rw [decide_eq_decide.mpr (show V.bl i = V.bl j ↔ i = j from ⟨fun e => V.bl.inj e, fun e => by rw [e]⟩)]
  exact q _ (.bl _)
theorem rr_neB {i j : Bool} : Rr K rNe (.da (dB i)) (.da (dB j)) m (.da (dB (!decide (i = j)))) m := Rr.of fun B H x y s dx dy Q q => by
  rw [bl_of dx, bl_of dy]
  refine ⟨rfl, ?_⟩
  rw [decide_eq_decide.mpr (show V.bl i = V.bl j ↔ i = j from ⟨fun e => V.bl.inj e, fun e => by rw [e]⟩)]
  exact q _ (.bl _)
theorem rr_eqS {i j : Str} : Rr K rEq (.da (dS i)) (.da (dS j)) m (.da (dB (decide (i = j)))) m := Rr.of fun B H x y s dx dy Q q => by
  rw [str_of dx, str_of dy]
  refine ⟨rfl, ?_⟩
  rw [decide_eq_decide.mpr (show V.str i = V.str j ↔ i = j from ⟨fun e => V.str.inj e, fun e => by rw [e]⟩)]
  exact q _ (.bl _)
theorem rr_neS {i j : Str} : Rr K rNe (.da (dS i)) (.da (dS j)) m (.da (dB (!decide (i = j)))) m := Rr.of fun B H x y s dx dy Q q => by
  rw [str_of dx, str_of dy]
  refine ⟨rfl, ?_⟩
  rw [decide_eq_decide.mpr (show V.str i = V.str j ↔ i = j from ⟨fun e => V.str.inj e, fun e => by rw [e]⟩)]
  exact q _ (.bl _)
/-- what is None -/
def rIsNo : R2 := fun x y H Q => y = .non ∧ Q (.bl (decide (x = .non))) H
def rNotNo : R2 := fun x y H Q => y = .non ∧ Q (.bl (!decide (x = .non))) H
theorem op_isNo {X : Cx} : OpR X (compareOp .Is) rIsNo := op_isN
theorem op_notNo {X : Cx} : OpR X (compareOp .IsNot) rNotNo := op_notN
class NotNo (f : α → PyData) : Prop where
  no : ∀ a, f a ≠ .none
instance : NotNo dI := ⟨fun _ h => by cases h⟩
instance : NotNo dB := ⟨fun _ h => by cases h⟩
instance : NotNo dS := ⟨fun _ h => by cases h⟩
instance {f : α → PyData} : NotNo (dL f) := ⟨fun _ h => by cases h⟩
instance {f : α → PyData} : NotNo (dU f) := ⟨fun _ h => by cases h⟩
instance {f : α → PyData} {g : β → PyData} : NotNo (dP f g) := ⟨fun _ h => by cases h⟩
instance {γ : Type} {f : α → PyData} {g : β → PyData} {h : γ → PyData} : NotNo (d3 f g h) := ⟨fun _ h => by cases h⟩
theorem dO_non {f : α → PyData} [NotNo f] {o : Option α} {v : V} (h : Dq B v (dO f o)) : decide (v = .non) = o.isNone := by
  cases o with
  | none =>
    have h' : Dq B v .none := h
    cases h'
    rfl
  | some a =>
    have h' : Dq B v (f a) := h
    have hn := NotNo.no (f := f) a
    cases v with
    | non =>
      generalize f a = d at h' hn
      cases h'
      exact absurd rfl hn
    | _ => rfl
theorem rr_isNo {f : α → PyData} [NotNo f] {o : Option α} : Rr K rIsNo (.da (dO f o)) (.da .none) m (.da (dB o.isNone)) m := Rr.of fun B H x y s dx dy Q q => ⟨non_of dy, by
  rw [dO_non dx]
  exact q _ (.bl _)⟩
theorem rr_notNo {f : α → PyData} [NotNo f] {o : Option α} : Rr K rNotNo (.da (dO f o)) (.da .none) m (.da (dB o.isSome)) m := Rr.of fun B H x y s dx dy Q q => ⟨non_of dy, by
  rw [dO_non dx]
  have : (!o.isNone) = o.isSome := by cases o <;> rfl
  rw [this]
  exact q _ (.bl _)⟩
end

/-! ### data compared: own rules of the machine -/
section
variable {X : Cx}
def rEqP (K : PySem.W.Frag) : R2 := fun x y H Q => ∃ d e, Dp K H x d ∧ Dp K H y e ∧ d.plain = true ∧ e.plain = true ∧ d.depth ≤ 60 ∧ Q (.bl (PyData.eqv d e)) H
def rNeP (K : PySem.W.Frag) : R2 := fun x y H Q => ∃ d e, Dp K H x d ∧ Dp K H y e ∧ d.plain = true ∧ e.plain = true ∧ d.depth ≤ 60 ∧ Q (.bl (!PyData.eqv d e)) H
theorem room_min {u a b : Nat} (h : a ≤ 60) (hu : u + 64 < cLine) : u + min a b < cLine := by
  have := Nat.min_le_left a b
  omega
theorem op_eqP (hu : X.A.units + 64 < cLine) : OpR X (compareOp .Eq) (rEqP X.K) := by
  intro pins s σ H x y v u Q I rx ry h
  obtain ⟨d, e, hd, he, sd, se, hdp, q⟩ := h
  obtain ⟨as, r1⟩ := Dp.reads I d x v hd rx
  obtain ⟨bs, r2⟩ := Dp.reads I e y u he ry
  exact PySem.SeqAt.eq_plain r1 r2 sd se (room_min hdp hu) ⟨.bl _, H, I, rfl, q⟩
theorem op_neP (hu : X.A.units + 64 < cLine) : OpR X (compareOp .NotEq) (rNeP X.K) := by
  intro pins s σ H x y v u Q I rx ry h
  obtain ⟨d, e, hd, he, sd, se, hdp, q⟩ := h
  obtain ⟨as, r1⟩ := Dp.reads I d x v hd rx
  obtain ⟨bs, r2⟩ := Dp.reads I e y u he ry
  exact PySem.SeqAt.ne_plain r1 r2 sd se (room_min hdp hu) ⟨.bl _, H, I, rfl, q⟩
/-- <, >, <=, >= of data -/
def rCmpP (K : PySem.W.Frag) (f : PyData → PyData → Bool) : R2 := fun x y H Q => ∃ d e, Dp K H x d ∧ Dp K H y e ∧ PySem.W.alike d e = true ∧ d ≠ .none ∧ d.depth ≤ 60 ∧ Q (.bl (f d e)) H
theorem op_ltP (hu : X.A.units + 64 < cLine) : OpR X (compareOp .Lt) (rCmpP X.K fun d e => PySem.W.dataLt d e) := by
  intro pins s σ H x y v u Q I rx ry h
  obtain ⟨d, e, hd, he, sa, sn, hdp, q⟩ := h
  obtain ⟨as, r1⟩ := Dp.reads I d x v hd rx
  obtain ⟨bs, r2⟩ := Dp.reads I e y u he ry
  exact PySem.W.lt_data r1 r2 sa sn (room_min hdp hu) ⟨.bl _, H, I, rfl, q⟩
theorem op_gtP (hu : X.A.units + 64 < cLine) : OpR X (compareOp .Gt) (rCmpP X.K fun d e => PySem.W.dataLt e d) := by
  intro pins s σ H x y v u Q I rx ry h
  obtain ⟨d, e, hd, he, sa, sn, hdp, q⟩ := h
  obtain ⟨as, r1⟩ := Dp.reads I d x v hd rx
  obtain ⟨bs, r2⟩ := Dp.reads I e y u he ry
  exact PySem.W.gt_data r1 r2 sa sn (room_min hdp hu) ⟨.bl _, H, I, rfl, q⟩
theorem op_leP (hu : X.A.units + 64 < cLine) : OpR X (compareOp .LtE) (rCmpP X.K fun d e => !PySem.W.dataLt e d) := by
  intro pins s σ H x y v u Q I rx ry h
  obtain ⟨d, e, hd, he, sa, sn, hdp, q⟩ := h
  obtain ⟨as, r1⟩ := Dp.reads I d x v hd rx
  obtain ⟨bs, r2⟩ := Dp.reads I e y u he ry
  exact PySem.W.le_data r1 r2 sa sn (room_min hdp hu) ⟨.bl _, H, I, rfl, q⟩
theorem op_geP (hu : X.A.units + 64 < cLine) : OpR X (compareOp .GtE) (rCmpP X.K fun d e => !PySem.W.dataLt d e) := by
  intro pins s σ H x y v u Q I rx ry h
  obtain ⟨d, e, hd, he, sa, sn, hdp, q⟩ := h
  obtain ⟨as, r1⟩ := Dp.reads I d x v hd rx
  obtain ⟨bs, r2⟩ := Dp.reads I e y u he ry
  exact PySem.W.ge_data r1 r2 sa sn (room_min hdp hu) ⟨.bl _, H, I, rfl, q⟩
/-- x in l, l a list of data -/
def rInP (K : PySem.W.Frag) (neg : Bool) : R2 := fun x y H Q => ∃ d ds, Dp K H x d ∧ Dp K H y (.list ds) ∧ d.plain = true ∧ PyData.plainAll ds = true ∧ d.depth ≤ 60 ∧ Q (.bl (if neg then !(ds.any fun y => PyData.eqv y d) else ds.any fun y => PyData.eqv y d)) H
theorem op_inP (hu : X.A.units + 65 < cLine) : OpR X (compareOp .In) (rInP X.K false) := by
  intro pins s σ H x y v u Q I rx ry h
  obtain ⟨d, ds, hd, he, sd, se, hdp, q⟩ := h
  obtain ⟨as, r1⟩ := Dp.reads I d x v hd rx
  obtain ⟨bs, r2⟩ := Dp.reads I (.list ds) y u he ry
  refine PySem.SeqAt.in_list_data r2 r1 se sd ?_ ⟨.bl _, H, I, rfl, q⟩
  have := Nat.min_le_right (PyData.depthAll ds) d.depth
  omega
theorem op_notInP (hu : X.A.units + 65 < cLine) : OpR X (compareOp .NotIn) (rInP X.K true) := by
  intro pins s σ H x y v u Q I rx ry h
  obtain ⟨d, ds, hd, he, sd, se, hdp, q⟩ := h
  obtain ⟨as, r1⟩ := Dp.reads I d x v hd rx
  obtain ⟨bs, r2⟩ := Dp.reads I (.list ds) y u he ry
  refine PySem.SeqAt.notIn_list_data r2 r1 se sd ?_ ⟨.bl _, H, I, rfl, q⟩
  have := Nat.min_le_right (PyData.depthAll ds) d.depth
  omega
end
end FC
set_option maxHeartbeats 4000000
/-! FS: built-ins, subscripts, slices, methods of lists, dicts. -/
namespace FC
open PySem PySem.Spec PyProof.Rows L2 Evl

section
variable {K : PySem.W.Frag} {B H : Hp} {m m1 m' : M} {a b c : SD} {α β γ : Type} {f : α → PyData} {g : β → PyData}
theorem sda1 {vs : List V} (h : SdAll K B [a] vs) : ∃ v, vs = [v] ∧ SdOk K B a v := by
  cases vs with
  | nil => exact h.elim
  | cons v r =>
    cases r with
    | nil => exact ⟨v, rfl, h.1⟩
    | cons w r => exact h.2.elim
theorem sda2 {vs : List V} (h : SdAll K B [a, b] vs) : ∃ v w, vs = [v, w] ∧ SdOk K B a v ∧ SdOk K B b w := by
  cases vs with
  | nil => exact h.elim
  | cons v r =>
    obtain ⟨w, rfl, h2⟩ := sda1 h.2
    exact ⟨v, w, rfl, h.1, h2⟩
/-! ### comparisons, typed -/
theorem da_dp {d : PyData} {v : V} (s : SOk K B m H) (h : SdOk K B (.da d) v) : Dp K H v d := (dp_mono s.ext (show Dq B v d from h)).dp
theorem rr_eq [DecidableEq α] [e : Enc f] {x y : α} (hd : Enc.dep f ≤ 60) : Rr K (rEqP K) (.da (f x)) (.da (f y)) m (.da (dB (decide (x = y)))) m := Rr.of fun B H u v s dx dy Q q =>
  ⟨f x, f y, da_dp s dx, da_dp s dy, Enc.plain x, Enc.plain y, Nat.le_trans (Enc.dep_le x) hd, by rw [Enc.eqv]; exact q _ (.bl _)⟩
theorem rr_ne [DecidableEq α] [e : Enc f] {x y : α} (hd : Enc.dep f ≤ 60) : Rr K (rNeP K) (.da (f x)) (.da (f y)) m (.da (dB (!decide (x = y)))) m := Rr.of fun B H u v s dx dy Q q =>
  ⟨f x, f y, da_dp s dx, da_dp s dy, Enc.plain x, Enc.plain y, Nat.le_trans (Enc.dep_le x) hd, by rw [Enc.eqv]; exact q _ (.bl _)⟩
theorem rr_lt [DecidableEq α] [e : EncO f] {x y : α} (hd : Enc.dep f ≤ 60) : Rr K (rCmpP K fun d e => PySem.W.dataLt d e) (.da (f x)) (.da (f y)) m (.da (dB (EncO.lt f x y))) m := Rr.of fun B H u v s dx dy Q q =>
  ⟨f x, f y, da_dp s dx, da_dp s dy, EncO.alike x y, EncO.notNone x, Nat.le_trans (Enc.dep_le x) hd, by show Q (.bl (PySem.W.dataLt (f x) (f y))) H; rw [EncO.lt_eq]; exact q _ (.bl _)⟩
theorem rr_gt [DecidableEq α] [e : EncO f] {x y : α} (hd : Enc.dep f ≤ 60) : Rr K (rCmpP K fun d e => PySem.W.dataLt e d) (.da (f x)) (.da (f y)) m (.da (dB (EncO.lt f y x))) m := Rr.of fun B H u v s dx dy Q q =>
  ⟨f x, f y, da_dp s dx, da_dp s dy, EncO.alike x y, EncO.notNone x, Nat.le_trans (Enc.dep_le x) hd, by show Q (.bl (PySem.W.dataLt (f y) (f x))) H; rw [EncO.lt_eq]; exact q _ (.bl _)⟩
theorem rr_le [DecidableEq α] [e : EncO f] {x y : α} (hd : Enc.dep f ≤ 60) : Rr K (rCmpP K fun d e => !PySem.W.dataLt e d) (.da (f x)) (.da (f y)) m (.da (dB (!EncO.lt f y x))) m := Rr.of fun B H u v s dx dy Q q =>
  ⟨f x, f y, da_dp s dx, da_dp s dy, EncO.alike x y, EncO.notNone x, Nat.le_trans (Enc.dep_le x) hd, by show Q (.bl (!PySem.W.dataLt (f y) (f x))) H; rw [EncO.lt_eq]; exact q _ (.bl _)⟩
theorem rr_ge [DecidableEq α] [e : EncO f] {x y : α} (hd : Enc.dep f ≤ 60) : Rr K (rCmpP K fun d e => !PySem.W.dataLt d e) (.da (f x)) (.da (f y)) m (.da (dB (!EncO.lt f x y))) m := Rr.of fun B H u v s dx dy Q q =>
  ⟨f x, f y, da_dp s dx, da_dp s dy, EncO.alike x y, EncO.notNone x, Nat.le_trans (Enc.dep_le x) hd, by show Q (.bl (!PySem.W.dataLt (f x) (f y))) H; rw [EncO.lt_eq]; exact q _ (.bl _)⟩
def memB [DecidableEq α] (x : α) (xs : List α) : Bool := xs.any fun y => decide (y = x)
theorem memB_iff [DecidableEq α] {x : α} {xs : List α} : memB x xs = true ↔ x ∈ xs := by
  unfold memB; rw [List.any_eq_true]
  exact ⟨fun ⟨y, hy, e⟩ => of_decide_eq_true e ▸ hy, fun h => ⟨x, h, decide_eq_true rfl⟩⟩
theorem any_enc [DecidableEq α] [e : Enc f] (xs : List α) (x : α) : ((xs.map f).any fun d => PyData.eqv d (f x)) = memB x xs := by
  rw [List.any_map]; unfold memB
  congr 1; funext y; exact Enc.eqv y x
theorem rr_in [DecidableEq α] [e : Enc f] {x : α} {xs : List α} (hd : Enc.dep f ≤ 60) : Rr K (rInP K false) (.da (f x)) (.da (dL f xs)) m (.da (dB (memB x xs))) m := Rr.of fun B H u v s dx dy Q q =>
  ⟨f x, xs.map f, da_dp s dx, da_dp s dy, Enc.plain x, plainAll_enc f xs, Nat.le_trans (Enc.dep_le x) hd, by
    show Q (.bl ((xs.map f).any fun d => PyData.eqv d (f x))) H
    rw [any_enc]; exact q _ (.bl _)⟩
theorem rr_notIn [DecidableEq α] [e : Enc f] {x : α} {xs : List α} (hd : Enc.dep f ≤ 60) : Rr K (rInP K true) (.da (f x)) (.da (dL f xs)) m (.da (dB (!memB x xs))) m := Rr.of fun B H u v s dx dy Q q =>
  ⟨f x, xs.map f, da_dp s dx, da_dp s dy, Enc.plain x, plainAll_enc f xs, Nat.le_trans (Enc.dep_le x) hd, by
    show Q (.bl (!((xs.map f).any fun d => PyData.eqv d (f x)))) H
    rw [any_enc]; exact q _ (.bl _)⟩

/-! ### subscripts -/
theorem rr_ixL {xs : List α} {i : Int} {x : α} (h : getI xs i = some x) : Rr K (rIxL K) (.da (dL f xs)) (.da (dI i)) m (.da (f x)) m := Rr.of fun B H u v s dx dy Q q => by
  obtain ⟨p, vs, rfl, hp, ha⟩ := lst_of dx
  obtain ⟨w, h1, h2⟩ := dqa_at ha (atI_map h)
  exact ⟨p, vs, i, w, rfl, int_of dy, SqL.of (s.ext _ _ hp), h1, q _ h2⟩
theorem rr_ixU {xs : List α} {i : Int} {x : α} (h : getI xs i = some x) : Rr K (rIxT K) (.da (dU f xs)) (.da (dI i)) m (.da (f x)) m := Rr.of fun B H u v s dx dy Q q => by
  obtain ⟨p, vs, rfl, hp, ha⟩ := tup_of dx
  obtain ⟨w, h1, h2⟩ := dqa_at ha (atI_map h)
  exact ⟨p, vs, i, w, rfl, int_of dy, SqT.of (s.ext _ _ hp), h1, q _ h2⟩
/-- a written place of a tuple of written length -/
theorem rr_ixT {dl : List PyData} {i : Int} {d : PyData} (h : atI dl i = some d) : Rr K (rIxT K) (.da (.tuple dl)) (.da (dI i)) m (.da d) m := Rr.of fun B H u v s dx dy Q q => by
  obtain ⟨p, vs, rfl, hp, ha⟩ := dq_tuple dx
  obtain ⟨w, h1, h2⟩ := dqa_at ha h
  exact ⟨p, vs, i, w, rfl, int_of dy, SqT.of (s.ext _ _ hp), h1, q _ h2⟩
theorem rr_ixC {xs : List α} {i : Int} {x : α} {l : Addr} (j : Nat) (hj : m[j]? = some (l, .ls (xs.map f))) (h : getI xs i = some x) : Rr K (rIxL K) (.rf l) (.da (dI i)) m (.da (f x)) m := Rr.of fun B H u v s dx dy Q q => by
  obtain ⟨vs, h1, h2⟩ := s.ls hj
  obtain ⟨w, h3, h4⟩ := dqa_at h2 (atI_map h)
  exact ⟨l, vs, i, w, dx, int_of dy, SqL.of h1, h3, q _ h4⟩
theorem rr_ixSc {ns : List Int} {i x : Int} {l : Addr} (h : getI ns i = some x) : Rr K (rIxL K) (.sl l ns) (.da (dI i)) m (.da (dI x)) m := Rr.of fun B H u v s dx dy Q q => by
  exact ⟨l, ns.map V.int, i, .int x, dx.1, int_of dy, ex_l s.ext dx.2, atI_map h, q _ (.int x)⟩

/-! ### slices -/
theorem cutV_eq (xs : List V) (lo hi : Option Int) : cutV xs lo hi = cutI xs lo hi := rfl
theorem cutI_map (xs : List α) (lo hi : Option Int) : cutI (xs.map f) lo hi = (cutI xs lo hi).map f := by
  unfold cutI
  rw [List.map_take, List.map_drop, List.length_map]
theorem dqa_cut {vs : List V} {dl : List PyData} (h : DqAll B vs dl) (lo hi : Option Int) : DqAll B (cutI vs lo hi) (cutI dl lo hi) := by
  unfold cutI
  rw [dpa_len h]
  exact dqa_take _ (dqa_drop _ h)
theorem rs_L {xs : List α} {lo hi : Option Int} : Rs K (rSlL K) (.da (dL f xs)) lo hi m (.da (dL f (cutI xs lo hi))) m := fun B H u s dx Q q => by
  obtain ⟨p, vs, rfl, hp, ha⟩ := lst_of dx
  refine ⟨p, vs, rfl, SqL.of (s.ext _ _ hp), fun w hw => q _ _ _ (Tr.data s hw) (s.data hw) ?_⟩
  refine Dq.lst upd_same (dpa_mono (Ex.new (fresh_b s hw)) ?_)
  rw [← cutI_map]
  exact dqa_cut ha lo hi
theorem rs_C {xs : List α} {lo hi : Option Int} {l : Addr} (j : Nat) (hj : m[j]? = some (l, .ls (xs.map f))) : Rs K (rSlL K) (.rf l) lo hi m (.da (dL f (cutI xs lo hi))) m := fun B H u s dx Q q => by
  obtain ⟨vs, hp, ha⟩ := s.ls hj
  refine ⟨l, vs, dx, SqL.of hp, fun w hw => q _ _ _ (Tr.data s hw) (s.data hw) ?_⟩
  refine Dq.lst upd_same (dpa_mono (Ex.new (fresh_b s hw)) ?_)
  rw [← cutI_map]
  exact dqa_cut ha lo hi
/-- a tuple's slice: the tuple itself, or a new one -/
theorem rs_T {dl : List PyData} {lo hi : Option Int} : Rs K (rSlA K) (.da (.tuple dl)) lo hi m (.da (.tuple (cutI dl lo hi))) m := fun B H u s dx Q q => by
  obtain ⟨p, vs, rfl, hp, ha⟩ := dq_tuple dx
  refine ⟨p, vs, rfl, SqT.of (s.ext _ _ hp), fun hw => ?_, fun _ w hw => q _ _ _ (Tr.data s hw) (s.data hw) (Dq.tup upd_same (dpa_mono (Ex.new (fresh_b s hw)) (dqa_cut ha lo hi)))⟩
  refine q _ B H (Tr.refl _ _ _) s ?_
  have e : cutI dl lo hi = dl := by
    unfold cutI
    rw [← dpa_len ha, hw.1, hw.2, Nat.sub_zero, List.drop_zero]
    exact List.take_of_length_le (by rw [dpa_len ha]; exact Nat.le_refl _)
  rw [e]
  exact Dq.tup hp ha
theorem rs_U {xs : List α} {lo hi : Option Int} : Rs K (rSlA K) (.da (dU f xs)) lo hi m (.da (dU f (cutI xs lo hi))) m := by
  have h := rs_T (K := K) (m := m) (dl := xs.map f) (lo := lo) (hi := hi)
  rw [cutI_map] at h
  exact h

/-! ### built-in functions -/
theorem rc_lenL {xs : List α} : Rc K (fun xs H Q => ∃ p ys, xs = [.ref p] ∧ (SqL K H p ys ∨ SqT K H p ys) ∧ Q (.int ys.length) H) [.da (dL f xs)] m (.da (dI xs.length)) m := Rc.of fun B H vs s dx Q q => by
  obtain ⟨v, rfl, d1⟩ := sda1 dx
  obtain ⟨p, ws, rfl, hp, ha⟩ := lst_of d1
  refine ⟨p, ws, rfl, .inl (SqL.of (s.ext _ _ hp)), ?_⟩
  rw [dpa_len ha, List.length_map]
  exact q _ (.int _)
theorem rc_lenU {xs : List α} : Rc K (fun xs H Q => ∃ p ys, xs = [.ref p] ∧ (SqL K H p ys ∨ SqT K H p ys) ∧ Q (.int ys.length) H) [.da (dU f xs)] m (.da (dI xs.length)) m := Rc.of fun B H vs s dx Q q => by
  obtain ⟨v, rfl, d1⟩ := sda1 dx
  obtain ⟨p, ws, rfl, hp, ha⟩ := tup_of d1
  refine ⟨p, ws, rfl, .inr (SqT.of (s.ext _ _ hp)), ?_⟩
  rw [dpa_len ha, List.length_map]
  exact q _ (.int _)
theorem rc_lenC {xs : List α} {l : Addr} (j : Nat) (hj : m[j]? = some (l, .ls (xs.map f))) : Rc K (fun xs H Q => ∃ p ys, xs = [.ref p] ∧ (SqL K H p ys ∨ SqT K H p ys) ∧ Q (.int ys.length) H) [.rf l] m (.da (dI xs.length)) m := Rc.of fun B H vs s dx Q q => by
  obtain ⟨v, rfl, d1⟩ := sda1 dx
  obtain ⟨ws, hp, ha⟩ := s.ls hj
  have e : v = .ref l := d1
  refine ⟨l, ws, by rw [e], .inl (SqL.of hp), ?_⟩
  rw [dpa_len ha, List.length_map]
  exact q _ (.int _)
theorem rc_lenSc {ns : List Int} {l : Addr} : Rc K (fun xs H Q => ∃ p ys, xs = [.ref p] ∧ (SqL K H p ys ∨ SqT K H p ys) ∧ Q (.int ys.length) H) [.sl l ns] m (.da (dI ns.length)) m := Rc.of fun B H vs s dx Q q => by
  obtain ⟨v, rfl, d1⟩ := sda1 dx
  have d1 : v = .ref l ∧ SqL K B l (ns.map V.int) := d1
  obtain ⟨e1, d2⟩ := d1
  have d3 : SqL K H l (ns.map V.int) := ex_l s.ext d2
  refine ⟨l, ns.map V.int, by rw [e1], Or.inl d3, ?_⟩
  have e2 : (ns.map V.int).length = ns.length := List.length_map _
  rw [e2]
  exact q _ (.int _)
theorem rc_abs {i : Int} : Rc K (fun xs H Q => ∃ i, xs = [.int i] ∧ Q (.int (if i < 0 then -i else i)) H) [.da (dI i)] m (.da (dI (absI i))) m := Rc.of fun B H vs s dx Q q => by
  obtain ⟨v, rfl, d1⟩ := sda1 dx
  exact ⟨i, by rw [int_of d1], q _ (.int _)⟩
theorem rc_max2 {i j : Int} : Rc K (fun xs H Q => ∃ i j, xs = [.int i, .int j] ∧ Q (.int (if j > i then j else i)) H) [.da (dI i), .da (dI j)] m (.da (dI (max2 i j))) m := Rc.of fun B H vs s dx Q q => by
  obtain ⟨v, w, rfl, d1, d2⟩ := sda2 dx
  exact ⟨i, j, by rw [int_of d1, int_of d2], q _ (.int _)⟩
theorem rc_min2 {i j : Int} : Rc K (fun xs H Q => ∃ i j, xs = [.int i, .int j] ∧ Q (.int (if j < i then j else i)) H) [.da (dI i), .da (dI j)] m (.da (dI (min2 i j))) m := Rc.of fun B H vs s dx Q q => by
  obtain ⟨v, w, rfl, d1, d2⟩ := sda2 dx
  exact ⟨i, j, by rw [int_of d1, int_of d2], q _ (.int _)⟩
theorem rc_intB {b : Bool} : Rc K (fun xs H Q => (∃ i, xs = [.int i] ∧ Q (.int i) H) ∨ ∃ k, xs = [.bl k] ∧ Q (.int (if k then 1 else 0)) H) [.da (dB b)] m (.da (dI (b2 b))) m := Rc.of fun B H vs s dx Q q => by
  obtain ⟨v, rfl, d1⟩ := sda1 dx
  exact .inr ⟨b, by rw [bl_of d1], q _ (.int _)⟩
theorem rc_sum {ns : List Int} : Rc K (rSum K) [.da (dL dI ns)] m (.da (dI ns.sum)) m := Rc.of fun B H vs s dx Q q => by
  obtain ⟨v, rfl, d1⟩ := sda1 dx
  obtain ⟨p, ws, rfl, hp, ha⟩ := lst_of d1
  have e := dqa_ints ha
  subst e
  exact ⟨p, ns, rfl, SqL.of (s.ext _ _ hp), q _ (.int _)⟩
theorem rc_all {bs : List Bool} : Rc K (rAll K) [.da (dL dB bs)] m (.da (dB (bs.all id))) m := Rc.of fun B H vs s dx Q q => by
  obtain ⟨v, rfl, d1⟩ := sda1 dx
  obtain ⟨p, ws, rfl, hp, ha⟩ := lst_of d1
  have e := dqa_bools ha
  subst e
  exact ⟨p, bs, rfl, SqL.of (s.ext _ _ hp), q _ (.bl _)⟩
theorem rc_any {bs : List Bool} : Rc K (rAny K) [.da (dL dB bs)] m (.da (dB (bs.any id))) m := Rc.of fun B H vs s dx Q q => by
  obtain ⟨v, rfl, d1⟩ := sda1 dx
  obtain ⟨p, ws, rfl, hp, ha⟩ := lst_of d1
  have e := dqa_bools ha
  subst e
  exact ⟨p, bs, rfl, SqL.of (s.ext _ _ hp), q _ (.bl _)⟩
/-- list(x), tuple(x): a new one -/
abbrev rListOf (K : PySem.W.Frag) : List V → Hp → VK → Prop := fun xs H Q => ∃ p ys, xs = [.ref p] ∧ (SqL K H p ys ∨ SqT K H p ys) ∧ ∀ l, H l = none → Q (.ref l) (upd H l (.lst ys))
abbrev rTupOf (K : PySem.W.Frag) : List V → Hp → VK → Prop := fun xs H Q => ∃ p ys, xs = [.ref p] ∧ ((SqL K H p ys ∧ ∀ l, H l = none → Q (.ref l) (upd H l (.tup ys))) ∨ (SqT K H p ys ∧ Q (.ref p) H))
theorem rc_listL {xs : List α} : Rc K (rListOf K) [.da (dL f xs)] m (.da (dL f xs)) m := fun B H vs s dx Q q => by
  obtain ⟨v, rfl, d1⟩ := sda1 dx
  obtain ⟨p, ws, rfl, hp, ha⟩ := lst_of d1
  exact ⟨p, ws, rfl, .inl (SqL.of (s.ext _ _ hp)), fun l hl => q _ _ _ (Tr.data s hl) (s.data hl) (Dq.lst upd_same (dpa_mono (Ex.new (fresh_b s hl)) ha))⟩
theorem rc_listU {xs : List α} : Rc K (rListOf K) [.da (dU f xs)] m (.da (dL f xs)) m := fun B H vs s dx Q q => by
  obtain ⟨v, rfl, d1⟩ := sda1 dx
  obtain ⟨p, ws, rfl, hp, ha⟩ := tup_of d1
  exact ⟨p, ws, rfl, .inr (SqT.of (s.ext _ _ hp)), fun l hl => q _ _ _ (Tr.data s hl) (s.data hl) (Dq.lst upd_same (dpa_mono (Ex.new (fresh_b s hl)) ha))⟩
theorem rn_listL {xs : List α} : RcN K (rListOf K) [.da (dL f xs)] m (.ls (xs.map f)) m := fun B H vs s dx Q q => by
  obtain ⟨v, rfl, d1⟩ := sda1 dx
  obtain ⟨p, ws, rfl, hp, ha⟩ := lst_of d1
  exact ⟨p, ws, rfl, .inl (SqL.of (s.ext _ _ hp)), fun l hl => q _ _ _ (Tr.cell s hl) (s.cell hl ha)⟩
theorem rc_listC {xs : List α} {l : Addr} (j : Nat) (hj : m[j]? = some (l, .ls (xs.map f))) : Rc K (rListOf K) [.rf l] m (.da (dL f xs)) m := fun B H vs s dx Q q => by
  obtain ⟨v, rfl, d1⟩ := sda1 dx
  obtain ⟨ws, hp, ha⟩ := s.ls hj
  have e : v = .ref l := d1
  exact ⟨l, ws, by rw [e], .inl (SqL.of hp), fun l hl => q _ _ _ (Tr.data s hl) (s.data hl) (Dq.lst upd_same (dpa_mono (Ex.new (fresh_b s hl)) ha))⟩
theorem rc_tupL {xs : List α} : Rc K (rTupOf K) [.da (dL f xs)] m (.da (dU f xs)) m := fun B H vs s dx Q q => by
  obtain ⟨v, rfl, d1⟩ := sda1 dx
  obtain ⟨p, ws, rfl, hp, ha⟩ := lst_of d1
  exact ⟨p, ws, rfl, .inl ⟨SqL.of (s.ext _ _ hp), fun l hl => q _ _ _ (Tr.data s hl) (s.data hl) (Dq.tup upd_same (dpa_mono (Ex.new (fresh_b s hl)) ha))⟩⟩
theorem rc_tupU {xs : List α} : Rc K (rTupOf K) [.da (dU f xs)] m (.da (dU f xs)) m := fun B H vs s dx Q q => by
  obtain ⟨v, rfl, d1⟩ := sda1 dx
  obtain ⟨p, ws, rfl, hp, ha⟩ := tup_of d1
  exact ⟨p, ws, rfl, .inr ⟨SqT.of (s.ext _ _ hp), q _ _ _ (Tr.refl _ _ _) s (Dq.tup hp ha)⟩⟩
end

/-! ### min, max, sorted of data -/
section
variable {X : Cx} {prog : Program} {w : World} {A : Around} {E : Value → Shared → Prop} {s : Shared}
theorem getD_some {α : Type} {l : List α} {i : Nat} {d x : α} (h : i < l.length) (e : l.getD i d = x) : l[i]? = some x := by
  rw [List.getD_eq_getElem?_getD, List.getElem?_eq_getElem h] at e
  rw [List.getElem?_eq_getElem h]
  exact congrArg some e
theorem min_ix {l : Addr} {vs : Array Value} {x : PyData} {xs : List PyData} {as : List Addr} {Q : Value → Shared → Prop} (hh : A.handled = none) (hl : s.heap.IsList l vs) (hr : ReadsAll s.heap vs.toList (x :: xs) as) (ha : PySem.W.AlikeAll (x :: xs)) (hu : A.units + 1 + PyData.depthAll (x :: xs) < cLine)
    (h : ∀ (i : Nat) v h' tk, vs[i]? = some v → (x :: xs)[i]? = some (PySem.W.minD x xs) → (∀ b o, s.heap.get? b = some o → h'.get? b = some o) → Q v { s with heap := h', toks := tk }) :
    wpAny (model prog w) A (call (.builtin "min") [.ref l]) Q E s := by
  have hn : vs.size = xs.length + 1 := PySem.W.readsAll_len hr
  refine PySem.call_min_walkH (PySem.W.iter_listW (A := A.in1) hh hl fun s₂ e W st hfp hw hk => ?_)
  refine ⟨_, _, _, _, _, _, _, s.heap, _, rfl, W, st, hfp, by omega, hw, hk, PySem.W.cmpIn_lt (A := A.in1) hr ha (by show A.units + 1 + _ < _; exact hu), fun v s' hP m => ?_⟩
  obtain ⟨h', tk, rfl, hk'⟩ := PySem.W.moved_old e rfl m
  have e1 : vs.size - 1 = xs.length := by omega
  obtain ⟨e3, e2⟩ := PySem.W.argBest_fold PySem.W.dataLt PyData.none x xs xs.length (Nat.le_refl _)
  rw [List.take_length] at e2
  rw [e1] at hP
  exact h _ v h' tk hP (getD_some (by rw [List.length_cons]; omega) e2) hk'
theorem max_ix {l : Addr} {vs : Array Value} {x : PyData} {xs : List PyData} {as : List Addr} {Q : Value → Shared → Prop} (hh : A.handled = none) (hl : s.heap.IsList l vs) (hr : ReadsAll s.heap vs.toList (x :: xs) as) (ha : PySem.W.AlikeAll (x :: xs)) (hu : A.units + 1 + PyData.depthAll (x :: xs) < cLine)
    (h : ∀ (i : Nat) v h' tk, vs[i]? = some v → (x :: xs)[i]? = some (PySem.W.maxD x xs) → (∀ b o, s.heap.get? b = some o → h'.get? b = some o) → Q v { s with heap := h', toks := tk }) :
    wpAny (model prog w) A (call (.builtin "max") [.ref l]) Q E s := by
  have hn : vs.size = xs.length + 1 := PySem.W.readsAll_len hr
  refine PySem.call_max_walkH (PySem.W.iter_listW (A := A.in1) hh hl fun s₂ e W st hfp hw hk => ?_)
  refine ⟨_, _, _, _, _, _, _, s.heap, _, rfl, W, st, hfp, by omega, hw, hk, PySem.W.cmpIn_gt (A := A.in1) hr ha (by show A.units + 1 + _ < _; exact hu), fun v s' hP m => ?_⟩
  obtain ⟨h', tk, rfl, hk'⟩ := PySem.W.moved_old e rfl m
  have e1 : vs.size - 1 = xs.length := by omega
  obtain ⟨e3, e2⟩ := PySem.W.argBest_fold (fun a b => PySem.W.dataLt b a) PyData.none x xs xs.length (Nat.le_refl _)
  rw [List.take_length] at e2
  rw [e1] at hP
  exact h _ v h' tk hP (getD_some (by rw [List.length_cons]; omega) e2) hk'
def rMinP (K : PySem.W.Frag) : List V → Hp → VK → Prop := fun vs H Q => ∃ (a : Addr) (xs : List V) (d : PyData) (ds : List PyData), vs = [V.ref a] ∧ SqL K H a xs ∧ DpAll K H xs (d :: ds) ∧ PySem.W.AlikeAll (d :: ds) ∧ PyData.depthAll (d :: ds) ≤ 60 ∧
  ∀ (i : Nat) v, xs[i]? = some v → (d :: ds)[i]? = some (PySem.W.minD d ds) → Q v H
def rMaxP (K : PySem.W.Frag) : List V → Hp → VK → Prop := fun vs H Q => ∃ (a : Addr) (xs : List V) (d : PyData) (ds : List PyData), vs = [V.ref a] ∧ SqL K H a xs ∧ DpAll K H xs (d :: ds) ∧ PySem.W.AlikeAll (d :: ds) ∧ PyData.depthAll (d :: ds) ≤ 60 ∧
  ∀ (i : Nat) v, xs[i]? = some v → (d :: ds)[i]? = some (PySem.W.maxD d ds) → Q v H
theorem vals_back : ∀ {xs : List V} {us : List Value} {i : Nat} {u : Value}, Vals xs us → us[i]? = some u → ∃ x, xs[i]? = some x ∧ RelV x u
  | _, _, _, _, .nil, e => by simp at e
  | _, _, 0, _, .cons r _, e => by
    have e' := Option.some.inj e
    subst e'
    exact ⟨_, rfl, r⟩
  | _, _, i + 1, x, .cons _ t, e => vals_back (i := i) t e
theorem cr_minP (hc : X.calm = true) (hu : X.A.units + 64 < cLine) : CallR X (.builtin "min") (rMinP X.K) := by
  intro pins s σ H vs us Q I r h
  obtain ⟨a, xs, d, ds, rfl, hs, hd, hal, hdp, q⟩ := h
  obtain ⟨its, rv, hl, _⟩ := I.list hs
  rw [Vals.ref1 r]
  obtain ⟨as, hr⟩ := Dp.readsAll I (d :: ds) xs its hd rv
  refine min_ix (I.ok.hd hc) hl.isList (by simpa using hr) hal (by omega) fun i v h' tk h1 h2 hk => ?_
  have h1' : its[i]? = some v := by simpa using h1
  obtain ⟨x, hx, rx⟩ := vals_back rv h1'
  exact ⟨x, H, I.kept hk, rx, q i x hx h2⟩
theorem cr_maxP (hc : X.calm = true) (hu : X.A.units + 64 < cLine) : CallR X (.builtin "max") (rMaxP X.K) := by
  intro pins s σ H vs us Q I r h
  obtain ⟨a, xs, d, ds, rfl, hs, hd, hal, hdp, q⟩ := h
  obtain ⟨its, rv, hl, _⟩ := I.list hs
  rw [Vals.ref1 r]
  obtain ⟨as, hr⟩ := Dp.readsAll I (d :: ds) xs its hd rv
  refine max_ix (I.ok.hd hc) hl.isList (by simpa using hr) hal (by omega) fun i v h' tk h1 h2 hk => ?_
  have h1' : its[i]? = some v := by simpa using h1
  obtain ⟨x, hx, rx⟩ := vals_back rv h1'
  exact ⟨x, H, I.kept hk, rx, q i x hx h2⟩
/-- sorted of data: P is what is known of the items -/
def rSrtP (K : PySem.W.Frag) : List V → Hp → VK → Prop := fun vs H Q => ∃ (a : Addr) (xs : List V) (ds : List PyData) (P : V → PyData → Prop), vs = [V.ref a] ∧ SqL K H a xs ∧ PySem.W.EachIs P xs ds ∧ (∀ x d, P x d → Dp K H x d) ∧ PySem.W.AllAlike ds ∧ PySem.W.Sortable ds ∧ (∀ d ∈ ds, d.depth ≤ 60) ∧
  ∀ ys p, PySem.W.EachIs P ys (ds.mergeSort (PySem.W.dataLe false id)) → H p = none → Q (.ref p) (upd H p (.lst ys))
theorem each_vals {P : V → PyData → Prop} : ∀ {xs : List V} {ds : List PyData} {its : List Value}, PySem.W.EachIs P xs ds → Vals xs its → PySem.W.EachIs (fun u d => ∃ x, RelV x u ∧ P x d) its ds
  | _, _, _, .nil, .nil => .nil
  | _, _, _, .cons h t, .cons r rs => .cons ⟨_, r, h⟩ (each_vals t rs)
theorem vals_each {P : V → PyData → Prop} : ∀ {ds : List PyData} {its : List Value}, PySem.W.EachIs (fun u d => ∃ x, RelV x u ∧ P x d) its ds → ∃ xs, Vals xs its ∧ PySem.W.EachIs P xs ds
  | _, _, .nil => ⟨[], .nil, .nil⟩
  | _, _, .cons ⟨x, r, h⟩ t => by
    obtain ⟨xs, h1, h2⟩ := vals_each t
    exact ⟨x :: xs, .cons r h1, .cons h h2⟩
theorem cr_srtP (hu : X.A.units + 64 < cLine) : CallR X (.builtin "sorted") (rSrtP X.K) := by
  intro pins s σ H vs us Q I r h
  obtain ⟨a, xs, ds, P, rfl, hs, hd, hP, hal, hsk, hdp, q⟩ := h
  obtain ⟨its, rv, hl, hz⟩ := I.list hs
  rw [Vals.ref1 r]
  have e := each_vals hd rv
  have hlen : ds.length = xs.length := hd.length.symm
  refine PySem.W.sorted_data (enc := id) (R := fun u d => ∃ x, RelV x u ∧ P x d) hl.isList e (e.mono fun u d ⟨x, rx, px⟩ => Dp.reads I d x u (hP x d px) rx) (by rw [List.map_id]; exact hal) (by rw [List.map_id]; exact hsk) (by rw [hlen]; exact hz) (fun d hd => by
    have := hdp d hd
    show X.A.units + 2 + d.depth < cLine
    omega) fun out ho he => ?_
  obtain ⟨ys, h1, h2⟩ := vals_each he
  obtain ⟨ep, he'⟩ := PyProof.Rows.sortedAll_at s.heap its out.toArray
  have hl2 : ys.length ≤ sizeLine := by
    rw [h1.length, ho, hlen]
    exact hz
  exact ⟨.ref _, upd H (s.heap.objs.size + 1) (.lst ys), I.laid (t' := s.toks) (fun _ _ => PyProof.Rows.sortedAll_old) (Nat.le_succ _) ⟨hl2, out, ep, h1, he'⟩, rfl, q ys _ h2 (I.hok.fresh (Nat.le_succ _))⟩
end

section
variable {K : PySem.W.Frag} {B H : Hp} {m m1 m' : M} {α β : Type} {f : α → PyData}
theorem depthAll_le [DecidableEq α] [Enc f] (xs : List α) (h : Enc.dep f ≤ 60) : PyData.depthAll (xs.map f) ≤ 60 := Nat.le_trans (depthAll_enc f xs) h
theorem alike_enc [DecidableEq α] [EncO f] (xs : List α) : PySem.W.AlikeAll (xs.map f) := by
  constructor
  · intro x hx y hy
    obtain ⟨a, _, rfl⟩ := List.mem_map.mp hx
    obtain ⟨b, _, rfl⟩ := List.mem_map.mp hy
    exact EncO.alike a b
  · intro x hx
    obtain ⟨a, _, rfl⟩ := List.mem_map.mp hx
    exact EncO.notNone a
theorem minD_enc [DecidableEq α] [EncO f] (x : α) : ∀ xs : List α, PySem.W.minD (f x) (xs.map f) = f (xs.foldl (fun a y => if EncO.lt f y a = true then y else a) x) := fun xs => by
  unfold PySem.W.minD
  induction xs generalizing x with
  | nil => rfl
  | cons y ys ih =>
    rw [List.map_cons, List.foldl_cons, List.foldl_cons, ← ih]
    (try dsimp only)
    rw [EncO.lt_eq y x]
    cases EncO.lt f y x <;> rfl
theorem maxD_enc [DecidableEq α] [EncO f] (x : α) : ∀ xs : List α, PySem.W.maxD (f x) (xs.map f) = f (xs.foldl (fun a y => if EncO.lt f a y = true then y else a) x) := fun xs => by
  unfold PySem.W.maxD
  induction xs generalizing x with
  | nil => rfl
  | cons y ys ih =>
    rw [List.map_cons, List.foldl_cons, List.foldl_cons, ← ih]
    (try dsimp only)
    rw [EncO.lt_eq x y]
    cases EncO.lt f x y <;> rfl
theorem dqa_ix {vs : List V} {dl : List PyData} {i : Nat} {d : PyData} {v : V} (h : DqAll B vs dl) (h1 : vs[i]? = some v) (h2 : dl[i]? = some d) : Dq B v d := by
  obtain ⟨w, e, q⟩ := dqa_get h h2
  rw [h1] at e
  rw [Option.some.inj e]
  exact q
theorem rc_min [DecidableEq α] [EncO f] {xs : List α} {x : α} (hd : Enc.dep f ≤ 60) (h : minL (EncO.lt f) xs = some x) : Rc K (rMinP K) [.da (dL f xs)] m (.da (f x)) m := Rc.of fun B H vs s dx Q q => by
  obtain ⟨v, rfl, d1⟩ := sda1 dx
  obtain ⟨p, ws, rfl, hp, ha⟩ := lst_of d1
  cases xs with
  | nil => cases h
  | cons y ys =>
    refine ⟨p, ws, f y, ys.map f, rfl, SqL.of (s.ext _ _ hp), (dpa_mono s.ext ha).dp, alike_enc (y :: ys), depthAll_le (y :: ys) hd, fun i v h1 h2 => q v ?_⟩
    rw [minD_enc] at h2
    rw [← Option.some.inj h]
    exact dqa_ix ha h1 h2
theorem rc_max [DecidableEq α] [EncO f] {xs : List α} {x : α} (hd : Enc.dep f ≤ 60) (h : maxL (EncO.lt f) xs = some x) : Rc K (rMaxP K) [.da (dL f xs)] m (.da (f x)) m := Rc.of fun B H vs s dx Q q => by
  obtain ⟨v, rfl, d1⟩ := sda1 dx
  obtain ⟨p, ws, rfl, hp, ha⟩ := lst_of d1
  cases xs with
  | nil => cases h
  | cons y ys =>
    refine ⟨p, ws, f y, ys.map f, rfl, SqL.of (s.ext _ _ hp), (dpa_mono s.ext ha).dp, alike_enc (y :: ys), depthAll_le (y :: ys) hd, fun i v h1 h2 => q v ?_⟩
    rw [maxD_enc] at h2
    rw [← Option.some.inj h]
    exact dqa_ix ha h1 h2
theorem dqa_each : ∀ {vs : List V} {dl : List PyData}, DqAll B vs dl → PySem.W.EachIs (Dq B) vs dl
  | _, _, .nil => .nil
  | _, _, .cons h t => .cons h (dqa_each t)
theorem each_dqa : ∀ {vs : List V} {dl : List PyData}, PySem.W.EachIs (Dq B) vs dl → DqAll B vs dl
  | _, _, .nil => .nil
  | _, _, .cons h t => .cons h (each_dqa t)
theorem srt_map [DecidableEq α] [EncO f] (xs : List α) : (xs.map f).mergeSort (PySem.W.dataLe false id) = (srt (EncO.lt f) xs).map f := by
  unfold srt
  refine (PySem.W.sort_maps f fun a _ b _ => ?_).symm
  show (!EncO.lt f b a) = (!PySem.W.dataLt (f b) (f a))
  rw [EncO.lt_eq]
theorem rc_srtAux [DecidableEq α] [EncO f] {xs : List α} (hd : Enc.dep f ≤ 60) (hs : PySem.W.Sortable (xs.map f)) {p : Addr} {ws : List V} (s : SOk K B m H) (hp : H p = some (.lst ws)) (ha : DqAll B ws (xs.map f)) (Q : VK)
    (q : ∀ ys p, DqAll B ys ((srt (EncO.lt f) xs).map f) → H p = none → Q (.ref p) (upd H p (.lst ys))) : rSrtP K [.ref p] H Q :=
  ⟨p, ws, xs.map f, Dq B, rfl, SqL.of hp, dqa_each ha, fun x d h => (dp_mono s.ext h).dp, (alike_enc xs).1, hs, fun d hd' => by
    obtain ⟨a, _, rfl⟩ := List.mem_map.mp hd'
    exact Nat.le_trans (Enc.dep_le a) hd, fun ys p h hp => q ys p (by rw [srt_map] at h; exact each_dqa h) hp⟩
/-- what can be sorted: tuples with an item, or no tuples -/
class SrtT (f : α → PyData) : Prop where
  tup : ∀ a, ∃ x r, f a = .tuple (x :: r)
class SrtO (f : α → PyData) : Prop where
  oth : ∀ a, f a ≠ .none ∧ ∀ xs, f a ≠ .tuple xs
class SrtOk (f : α → PyData) : Prop where
  ok : ∀ xs : List α, PySem.W.Sortable (xs.map f)
instance {β : Type} {g : β → PyData} : SrtOk (dP f g) := ⟨fun xs => .inl fun d hd => by
  obtain ⟨a, _, rfl⟩ := List.mem_map.mp hd
  exact ⟨_, _, rfl⟩⟩
instance {β γ : Type} {g : β → PyData} {h : γ → PyData} : SrtOk (d3 f g h) := ⟨fun xs => .inl fun d hd => by
  obtain ⟨a, _, rfl⟩ := List.mem_map.mp hd
  exact ⟨_, _, rfl⟩⟩
instance : SrtOk dI := ⟨fun xs => .inr fun d hd => by
  obtain ⟨a, _, rfl⟩ := List.mem_map.mp hd
  exact ⟨fun e => (by cases e), fun _ e => (by cases e)⟩⟩
instance : SrtOk dS := ⟨fun xs => .inr fun d hd => by
  obtain ⟨a, _, rfl⟩ := List.mem_map.mp hd
  exact ⟨fun e => (by cases e), fun _ e => (by cases e)⟩⟩
instance : SrtOk (dL f) := ⟨fun xs => .inr fun d hd => by
  obtain ⟨a, _, rfl⟩ := List.mem_map.mp hd
  exact ⟨fun e => (by cases e), fun _ e => (by cases e)⟩⟩
def srtU (lt : List α → List α → Bool) (xs : List (List α)) : Option (List (List α)) := if xs.all (fun x => !x.isEmpty) = true then some (srt lt xs) else none
theorem srtU_some {lt : List α → List α → Bool} {xs ys : List (List α)} (h : srtU lt xs = some ys) : PySem.W.Sortable (xs.map (dU f)) ∧ srt lt xs = ys := by
  unfold srtU at h
  split at h
  · refine ⟨.inl fun d hd => ?_, Option.some.inj h⟩
    obtain ⟨a, ha, rfl⟩ := List.mem_map.mp hd
    have h1 := List.all_eq_true.mp ‹_› a ha
    cases a with
    | nil => cases h1
    | cons x r => exact ⟨_, _, rfl⟩
  · cases h
theorem rc_srt [DecidableEq α] [EncO f] [SrtOk f] {xs : List α} (hd : Enc.dep f ≤ 60) : Rc K (rSrtP K) [.da (dL f xs)] m (.da (dL f (srt (EncO.lt f) xs))) m := fun B H vs s dx Q q => by
  obtain ⟨v, rfl, d1⟩ := sda1 dx
  obtain ⟨p, ws, rfl, hp, ha⟩ := lst_of d1
  exact rc_srtAux hd (SrtOk.ok xs) s (s.ext _ _ hp) ha Q fun ys p h hp => q _ _ _ (Tr.data s hp) (s.data hp) (Dq.lst upd_same (dpa_mono (Ex.new (fresh_b s hp)) h))
theorem rc_srtC [DecidableEq α] [EncO f] [SrtOk f] {xs : List α} {l : Addr} (hd : Enc.dep f ≤ 60) (j : Nat) (hj : m[j]? = some (l, .ls (xs.map f))) : Rc K (rSrtP K) [.rf l] m (.da (dL f (srt (EncO.lt f) xs))) m := fun B H vs s dx Q q => by
  obtain ⟨v, rfl, d1⟩ := sda1 dx
  obtain ⟨ws, hp, ha⟩ := s.ls hj
  have e : v = .ref l := d1
  rw [e]
  exact rc_srtAux hd (SrtOk.ok xs) s hp ha Q fun ys p h hp => q _ _ _ (Tr.data s hp) (s.data hp) (Dq.lst upd_same (dpa_mono (Ex.new (fresh_b s hp)) h))
theorem rc_srtU [DecidableEq α] [EncO f] {xs ys : List (List α)} (hd : Enc.dep (dU f) ≤ 60) (h : srtU (EncO.lt (dU f)) xs = some ys) : Rc K (rSrtP K) [.da (dL (dU f) xs)] m (.da (dL (dU f) ys)) m := fun B H vs s dx Q q => by
  obtain ⟨v, rfl, d1⟩ := sda1 dx
  obtain ⟨p, ws, rfl, hp, ha⟩ := lst_of d1
  obtain ⟨h1, rfl⟩ := srtU_some (f := f) h
  exact rc_srtAux hd h1 s (s.ext _ _ hp) ha Q fun ys p h hp => q _ _ _ (Tr.data s hp) (s.data hp) (Dq.lst upd_same (dpa_mono (Ex.new (fresh_b s hp)) h))

/-! ### lists: +, append, extend, stores, pop -/
theorem rr_cat {xs ys : List α} (hz : lenG (xs.length + ys.length) = some ()) : Rr K rCat (.da (dL f xs)) (.da (dL f ys)) m (.da (dL f (xs ++ ys))) m := fun B H x y s dx dy Q q => by
  obtain ⟨p, vs, rfl, hp, ha⟩ := lst_of dx
  obtain ⟨p2, vs2, rfl, hp2, ha2⟩ := lst_of dy
  have h1 := dpa_len ha
  have h2 := dpa_len ha2
  have h3 := lenG_some hz
  rw [List.length_map] at h1 h2
  refine ⟨p, p2, vs, vs2, rfl, rfl, s.ext _ _ hp, s.ext _ _ hp2, by rw [sizeLine_eq]; omega, fun l hl => q _ _ _ (Tr.data s hl) (s.data hl) (Dq.lst upd_same (dpa_mono (Ex.new (fresh_b s hl)) ?_))⟩
  rw [List.map_append]
  exact dqa_app ha ha2
theorem rm_app {xs : List α} {x : α} {l : Addr} (j : Nat) (hj : m[j]? = some (l, .ls (xs.map f))) (hz : lenG xs.length = some ()) : Rm K rAppend (.rf l) [.da (f x)] m (.da .none) (m.set j (l, .ls ((xs ++ [x]).map f))) := fun B H v vs s dx da Q q => by
  obtain ⟨y, rfl, d1⟩ := sda1 da
  obtain ⟨ws, hp, ha⟩ := s.ls hj
  have h1 := dpa_len ha
  have h3 := lenG_some hz
  rw [List.length_map] at h1
  refine ⟨l, ws, y, dx, rfl, hp, by rw [sizeLine_eq]; omega, q _ _ _ (Tr.put s hj ?_) (s.put hj ?_) .non⟩
  all_goals
    rw [List.map_append]
    exact dqa_app ha (.cons d1 .nil)
theorem rm_ext {xs ys : List α} {l : Addr} (j : Nat) (hj : m[j]? = some (l, .ls (xs.map f))) (hz : lenG (xs.length + ys.length) = some ()) : Rm K rExtend (.rf l) [.da (dL f ys)] m (.da .none) (m.set j (l, .ls ((xs ++ ys).map f))) := fun B H v vs s dx da Q q => by
  obtain ⟨y, rfl, d1⟩ := sda1 da
  obtain ⟨ws, hp, ha⟩ := s.ls hj
  obtain ⟨p2, vs2, rfl, hp2, ha2⟩ := lst_of d1
  have h1 := dpa_len ha
  have h2 := dpa_len ha2
  have h3 := lenG_some hz
  rw [List.length_map] at h1 h2
  refine ⟨l, p2, ws, vs2, dx, rfl, hp, s.ext _ _ hp2, by rw [sizeLine_eq]; omega, q _ _ _ (Tr.put s hj ?_) (s.put hj ?_) .non⟩
  all_goals
    rw [List.map_append]
    exact dqa_app ha ha2
end
end FC
set_option maxHeartbeats 400000
/-! FT: what is walked (Src), comprehensions, statements (Wp), loops. -/
namespace FC
open PySem PySem.Spec PyProof.Rows L2 Evl

/-! ### what is walked -/
/-- the slots js alone are stored -/
def Sets (js : List Nat) (σ σ2 : L2.St) : Prop := σ2.length = σ.length ∧ ∀ i, i ∉ js → σ2[i]? = σ[i]?
/-- J walks the items, a target g stores them; while B1 stands and G holds of the cells -/
def Turns (K : PySem.W.Frag) {α : Type} (J : It) (g : TG) (B1 : Hp) (G : M → Prop) (items : List α) (up : α → List SD → List SD) (js : List Nat) : Prop :=
  (∀ i H B' m', i < items.length → Ex B1 B' → G m' → SOk K B' m' H → J.go i H) ∧
  (∀ H B' m', Ex B1 B' → G m' → SOk K B' m' H → J.stop items.length H) ∧
  (∀ i a x H H' B' m' ds σ, items[i]? = some a → Ex B1 B' → G m' → SOk K B' m' H → StOk K B' ds σ → J.yld i H x H' →
    ∀ Q : L2.St → Hp → Prop, (∀ B'' σ2, Tr B' H (keys m') B'' H' (keys m') → SOk K B'' m' H' → StOk K B'' (up a ds) σ2 → Sets js σ σ2 → Q σ2 H') → g x σ H' Q)
def Src (K : PySem.W.Frag) {α : Type} (wi : TI) (g : TG) (ds : List SD) (m m1 : M) (G : M → Prop) (items : List α) (up : α → List SD → List SD) (js : List Nat) : Prop :=
  ∀ B H σ, SOk K B m H → StOk K B ds σ → ∀ R : It → Hp → Prop, (∀ J B1 H1, Tr B H (keys m) B1 H1 (keys m1) → SOk K B1 m1 H1 → Turns K J g B1 G items up js → R J H1) → wi σ H R

section
variable {K : PySem.W.Frag} {B H : Hp} {ds : List SD} {m m1 m2 m' : M} {α β : Type} {f : α → PyData} {f2 : β → PyData} {tl te : TE} {ta : TA} {G : M → Prop}
theorem st_len : ∀ {ds : List SD} {σ : L2.St}, StOk K B ds σ → σ.length = ds.length
  | [], [], _ => rfl
  | _ :: _, _ :: _, h => congrArg (· + 1) (st_len h.2)
  | [], _ :: _, h => h.elim
  | _ :: _, [], h => h.elim
theorem sets1 {σ : L2.St} {j : Nat} {o : Option V} : Sets [j] σ (σ.set j o) := ⟨List.length_set, fun i h => by
  rw [List.getElem?_set_ne (fun e => h (by rw [e]; exact List.mem_singleton.mpr rfl))]⟩
theorem Sets.trans {σ σ1 σ2 : L2.St} {js ks : List Nat} (a : Sets js σ σ1) (b : Sets ks σ1 σ2) : Sets (js ++ ks) σ σ2 := ⟨b.1.trans a.1, fun i h => by
  rw [List.mem_append, not_or] at h
  exact (b.2 i h.2).trans (a.2 i h.1)⟩
/-- a target that is a name, a datum -/
theorem tg_name {x : V} {d : PyData} {j : Nat} {σ : L2.St} {B' : Hp} (s : SOk K B' m' H) (st : StOk K B' ds σ) (hx : Dq B' x d) (Q : L2.St → Hp → Prop)
    (q : ∀ B'' σ2, Tr B' H (keys m') B'' H (keys m') → SOk K B'' m' H → StOk K B'' (ds.set j (.da d)) σ2 → Sets [j] σ σ2 → Q σ2 H) : gName j x σ H Q :=
  q B' _ (Tr.refl _ _ _) s (st_set j st (sl_of (s := .da d) hx)) sets1
theorem dqa_some : ∀ {vs : List V} {xs : List α} {i : Nat} {a : α}, DqAll B vs (xs.map f) → xs[i]? = some a → ∃ v, vs[i]? = some v ∧ Dq B v (f a) := fun h e => dqa_get h (by rw [List.getElem?_map, e]; rfl)
theorem turns_list {B1 : Hp} {a : Addr} {vs : List V} {xs : List α} {j : Nat} (hL : ∀ H B' m', Ex B1 B' → G m' → SOk K B' m' H → SqL K H a vs) (hd : DqAll B1 vs (xs.map f)) :
    Turns K (Itl K a) (gName j) B1 G xs (fun x ds => ds.set j (.da (f x))) [j] := by
  have hl := dpa_len hd
  rw [List.length_map] at hl
  refine ⟨fun i H B' m' hi e g s => ?_, fun H B' m' e g s => ⟨vs, hL H B' m' e g s, Nat.le_of_eq hl⟩, fun i x v H H' B' m' ds σ hx e g s st hy Q q => ?_⟩
  · have hi' : i < vs.length := by omega
    exact ⟨vs, vs[i], hL H B' m' e g s, List.getElem?_eq_getElem hi'⟩
  · obtain ⟨rfl, y2⟩ := hy
    obtain ⟨w, h1, h2⟩ := dqa_some hd hx
    have h3 := y2 vs (hL H' B' m' e g s)
    rw [h1] at h3
    rw [← Option.some.inj h3]
    exact tg_name s st (dp_mono e h2) Q q
theorem src_L {xs : List α} {j : Nat} (h : Ev K tl ds m (.da (dL f xs)) m1) : Src K (iList K tl) (gName j) ds m m1 (fun _ => True) xs (fun x ds => ds.set j (.da (f x))) [j] := fun B H σ s st R q => h B H σ s st _ fun v B1 H1 t1 s1 d1 => by
  obtain ⟨p, vs, rfl, hp, ha⟩ := lst_of d1
  exact ⟨p, rfl, ⟨vs, SqL.of (s1.ext _ _ hp)⟩, q _ B1 H1 t1 s1 (turns_list (fun H B' m' e _ s => SqL.of (s.ext _ _ (e _ _ hp))) ha)⟩
/-- a cell that the loop leaves as it is -/
theorem src_C {xs : List α} {j : Nat} {l : Addr} (i : Nat) (h : Ev K tl ds m (.rf l) m1) (hj : m1[i]? = some (l, .ls (xs.map f))) : Src K (iList K tl) (gName j) ds m m1 (fun m' => m'[i]? = some (l, .ls (xs.map f))) xs (fun x ds => ds.set j (.da (f x))) [j] := fun B H σ s st R q => h B H σ s st _ fun v B1 H1 t1 s1 d1 => by
  have e : v = .ref l := d1
  subst e
  obtain ⟨vs, hp, ha⟩ := s1.ls hj
  refine ⟨l, rfl, ⟨vs, SqL.of hp⟩, q _ B1 H1 t1 s1 ?_⟩
  have hl := dpa_len ha
  rw [List.length_map] at hl
  refine ⟨fun i H B' m' hi e g s => ?_, fun H B' m' e g s => ?_, fun i x v H H' B' m' ds σ hx e g s st hy Q q => ?_⟩
  · obtain ⟨ws, h1, h2⟩ := s.ls g
    have hl2 := dpa_len h2
    rw [List.length_map] at hl2
    have hi' : i < ws.length := by omega
    exact ⟨ws, ws[i], SqL.of h1, List.getElem?_eq_getElem hi'⟩
  · obtain ⟨ws, h1, h2⟩ := s.ls g
    have hl2 := dpa_len h2
    rw [List.length_map] at hl2
    exact ⟨ws, SqL.of h1, Nat.le_of_eq hl2⟩
  · obtain ⟨rfl, y2⟩ := hy
    obtain ⟨ws, h1, h2⟩ := s.ls g
    obtain ⟨w, h3, h4⟩ := dqa_some h2 hx
    have h5 := y2 ws (SqL.of h1)
    rw [h3] at h5
    rw [← Option.some.inj h5]
    exact tg_name s st h4 Q q
theorem src_U {xs : List α} {j : Nat} (h : Ev K tl ds m (.da (dU f xs)) m1) : Src K (iTup K tl) (gName j) ds m m1 (fun _ => True) xs (fun x ds => ds.set j (.da (f x))) [j] := fun B H σ s st R q => h B H σ s st _ fun v B1 H1 t1 s1 d1 => by
  obtain ⟨p, vs, rfl, hp, ha⟩ := tup_of d1
  have hl := dpa_len ha
  rw [List.length_map] at hl
  have hL : ∀ {H B' m'}, Ex B1 B' → SOk K B' m' H → SqT K H p vs := fun e s => SqT.of (s.ext _ _ (e _ _ hp))
  refine ⟨p, rfl, ⟨vs, SqT.of (s1.ext _ _ hp)⟩, q _ B1 H1 t1 s1 ⟨fun i H B' m' hi e g s => ?_, fun H B' m' e g s => ⟨vs, hL e s, Nat.le_of_eq hl⟩, fun i x v H H' B' m' ds σ hx e g s st hy Q q => ?_⟩⟩
  · have hi' : i < vs.length := by omega
    exact ⟨vs, vs[i], hL e s, List.getElem?_eq_getElem hi'⟩
  · obtain ⟨rfl, y2⟩ := hy
    obtain ⟨w, h1, h2⟩ := dqa_some ha hx
    have h3 := y2 vs (hL e s)
    rw [h1] at h3
    rw [← Option.some.inj h3]
    exact tg_name s st (dp_mono e h2) Q q
theorem ints_of1 {vs : List V} {i : Int} (h : SdAll K B [.da (dI i)] vs) : vs = [.int i] := by
  obtain ⟨v, rfl, d⟩ := sda1 h
  rw [int_of d]
theorem ints_of2 {vs : List V} {i j : Int} (h : SdAll K B [.da (dI i), .da (dI j)] vs) : vs = [.int i, .int j] := by
  obtain ⟨v, w, rfl, d, e⟩ := sda2 h
  rw [int_of d, int_of e]
theorem turns_rng {B1 : Hp} {lo : Int} {n : Nat} {j : Nat} : Turns K (Itr lo n) (gName j) B1 G ((List.range n).map fun (i : Nat) => lo + (i : Int)) (fun x ds => ds.set j (.da (dI x))) [j] := by
  refine ⟨fun i H B' m' hi e g s => ?_, fun H B' m' e g s => ?_, fun i x v H H' B' m' ds σ hx e g s st hy Q q => ?_⟩
  · rw [List.length_map, List.length_range] at hi
    exact hi
  · rw [List.length_map, List.length_range]
    exact Nat.le_refl _
  · obtain ⟨rfl, rfl⟩ := hy
    rw [List.getElem?_map, Option.map_eq_some_iff] at hx
    obtain ⟨k, h1, h2⟩ := hx
    obtain ⟨h3, h4⟩ := List.getElem?_eq_some_iff.mp h1
    rw [List.getElem_range] at h4
    subst h4 h2
    exact tg_name s st (.int _) Q q
theorem src_R1 {b : Int} {xs : List Int} {j : Nat} (h : EvA K ta ds m [.da (dI b)] m1) (hx : rngG 0 b = some xs) : Src K (iRng1 ta) (gName j) ds m m1 (fun _ => True) xs (fun x ds => ds.set j (.da (dI x))) [j] := fun B H σ s st R q => h B H σ s st _ fun vs B1 H1 t1 s1 d1 => by
  obtain ⟨⟨_, _, h3, h4⟩, rfl⟩ := rngG_some hx
  refine ⟨b, ints_of1 d1, h3, h4, q _ B1 H1 t1 s1 ?_⟩
  unfold rng
  rw [Int.sub_zero]
  exact turns_rng
theorem src_R2 {a b : Int} {xs : List Int} {j : Nat} (h : EvA K ta ds m [.da (dI a), .da (dI b)] m1) (hx : rngG a b = some xs) : Src K (iRng2 ta) (gName j) ds m m1 (fun _ => True) xs (fun x ds => ds.set j (.da (dI x))) [j] := fun B H σ s st R q => h B H σ s st _ fun vs B1 H1 t1 s1 d1 => by
  obtain ⟨h1, rfl⟩ := rngG_some hx
  exact ⟨a, b, ints_of2 d1, h1, q _ B1 H1 t1 s1 turns_rng⟩
/-- two names for a new pair -/
theorem tg_pair {x y : V} {d e : PyData} {j k : Nat} {σ : L2.St} {B' : Hp} {T : Addr} (s : SOk K B' m' H) (st : StOk K B' ds σ) (hx : Dq B' x d) (hy : Dq B' y e) (hT : H T = none) (Q : L2.St → Hp → Prop)
    (q : ∀ B'' σ2, Tr B' H (keys m') B'' (upd H T (.tup [x, y])) (keys m') → SOk K B'' m' (upd H T (.tup [x, y])) → StOk K B'' ((ds.set j (.da d)).set k (.da e)) σ2 → Sets ([j] ++ [k]) σ σ2 → Q σ2 (upd H T (.tup [x, y]))) :
    gTup K 2 (gCons (gName j) (gCons (gName k) gNil)) (.ref T) σ (upd H T (.tup [x, y])) Q := by
  have hB := fresh_b s hT
  refine ⟨T, [x, y], rfl, SqT.of upd_same, rfl, x, [y], rfl, y, [], rfl, rfl, ?_⟩
  refine q (upd B' T (.tup [x, y])) _ (Tr.data s hT) (s.data hT) ?_ (sets1.trans sets1)
  have ee := Ex.new (o := .tup [x, y]) hB
  exact st_set k (st_set j (st_mono ee st) (sl_of (s := .da d) (dp_mono ee hx))) (sl_of (s := .da e) (dp_mono ee hy))
theorem src_E {xs : List α} {j k : Nat} (h : EvA K ta ds m [.da (dL f xs)] m1) : Src K (iEnum K ta) (gTup K 2 (gCons (gName j) (gCons (gName k) gNil))) ds m m1 (fun _ => True) ((xs.zipIdx).map fun p => ((p.2 : Int), p.1)) (fun p ds => (ds.set j (.da (dI p.1))).set k (.da (f p.2))) ([j] ++ [k]) := fun B H σ s st R q => h B H σ s st _ fun vs B1 H1 t1 s1 d1 => by
  obtain ⟨v, rfl, d⟩ := sda1 d1
  obtain ⟨p, vs, rfl, hp, ha⟩ := lst_of d
  have hl := dpa_len ha
  rw [List.length_map] at hl
  have hL : ∀ {H B' m'}, Ex B1 B' → SOk K B' m' H → SqL K H p vs := fun e s => SqL.of (s.ext _ _ (e _ _ hp))
  refine ⟨p, vs, rfl, SqL.of (s1.ext _ _ hp), q _ B1 H1 t1 s1 ⟨fun i H B' m' hi e g s => ?_, fun H B' m' e g s => ⟨vs, hL e s, ?_⟩, fun i x v H H' B' m' ds σ hx e g s st hy Q q => ?_⟩⟩
  · rw [List.length_map, List.length_zipIdx] at hi
    have hi' : i < vs.length := by omega
    exact ⟨vs, vs[i], hL e s, List.getElem?_eq_getElem hi'⟩
  · rw [List.length_map, List.length_zipIdx]
    exact Nat.le_of_eq hl
  · obtain ⟨T, w, rfl, hT, rfl, y2⟩ := hy
    rw [List.getElem?_map, Option.map_eq_some_iff] at hx
    obtain ⟨pr, h1, h2⟩ := hx
    rw [List.getElem?_zipIdx, Option.map_eq_some_iff] at h1
    obtain ⟨a, h3, h4⟩ := h1
    obtain ⟨w', h5, h6⟩ := dqa_some ha h3
    have h7 := y2 vs (hL e s)
    rw [h5] at h7
    have e7 := Option.some.inj h7
    subst e7 h4 h2
    refine tg_pair s st ?_ (dp_mono e h6) hT Q q
    show Dq B' (.int (i : Nat)) (.int (((0 + i : Nat)) : Int))
    rw [Nat.zero_add]
    exact .int _
theorem zip_some {xs : List α} {ys : List β} {i : Nat} {p : α × β} (h : (xs.zip ys)[i]? = some p) : xs[i]? = some p.1 ∧ ys[i]? = some p.2 := by
  rw [List.getElem?_zip_eq_some] at h
  exact h
theorem src_ZL {xs : List α} {ys : List β} {j k : Nat} (h : EvA K ta ds m [.da (dL f xs), .da (dL f2 ys)] m1) : Src K (RZ.iZipA K ta) (gTup K 2 (gCons (gName j) (gCons (gName k) gNil))) ds m m1 (fun _ => True) (xs.zip ys) (fun p ds => (ds.set j (.da (f p.1))).set k (.da (f2 p.2))) ([j] ++ [k]) := fun B H σ s st R q => h B H σ s st _ fun vs B1 H1 t1 s1 d1 => by
  obtain ⟨v, w, rfl, d, d'⟩ := sda2 d1
  obtain ⟨p, vs, rfl, hp, ha⟩ := lst_of d
  obtain ⟨p2, vs2, rfl, hp2, ha2⟩ := lst_of d'
  have hl := dpa_len ha
  have hl2 := dpa_len ha2
  rw [List.length_map] at hl hl2
  have hL : ∀ {H B' m'}, Ex B1 B' → SOk K B' m' H → SqL K H p vs := fun e s => SqL.of (s.ext _ _ (e _ _ hp))
  have hL2 : ∀ {H B' m'}, Ex B1 B' → SOk K B' m' H → SqL K H p2 vs2 := fun e s => SqL.of (s.ext _ _ (e _ _ hp2))
  refine ⟨p, p2, vs, vs2, rfl, Or.inl ⟨SqL.of (s1.ext _ _ hp), SqL.of (s1.ext _ _ hp2), q _ B1 H1 t1 s1 ⟨fun i H B' m' hi e g s => ?_, fun H B' m' e g s => ⟨vs, vs2, hL e s, hL2 e s, ?_⟩, fun i x v H H' B' m' ds σ hx e g s st hy Q q => ?_⟩⟩⟩
  · rw [List.length_zip] at hi
    have hi' : i < vs.length := by omega
    have hi2 : i < vs2.length := by omega
    exact ⟨vs, vs2, vs[i], vs2[i], hL e s, hL2 e s, List.getElem?_eq_getElem hi', List.getElem?_eq_getElem hi2⟩
  · rw [List.length_zip]
    omega
  · obtain ⟨T, u, u2, rfl, hT, rfl, y1, y2⟩ := hy
    obtain ⟨h1, h2⟩ := zip_some hx
    obtain ⟨w1, h3, h4⟩ := dqa_some ha h1
    obtain ⟨w2, h5, h6⟩ := dqa_some ha2 h2
    have h7 := y1 vs (hL e s)
    have h8 := y2 vs2 (hL2 e s)
    rw [h3] at h7
    rw [h5] at h8
    have e7 := Option.some.inj h7
    have e8 := Option.some.inj h8
    subst e7 e8
    exact tg_pair s st (dp_mono e h4) (dp_mono e h6) hT Q q
theorem src_ZU {xs : List α} {ys : List β} {j k : Nat} (h : EvA K ta ds m [.da (dU f xs), .da (dU f2 ys)] m1) : Src K (RZ.iZipA K ta) (gTup K 2 (gCons (gName j) (gCons (gName k) gNil))) ds m m1 (fun _ => True) (xs.zip ys) (fun p ds => (ds.set j (.da (f p.1))).set k (.da (f2 p.2))) ([j] ++ [k]) := fun B H σ s st R q => h B H σ s st _ fun vs B1 H1 t1 s1 d1 => by
  obtain ⟨v, w, rfl, d, d'⟩ := sda2 d1
  obtain ⟨p, vs, rfl, hp, ha⟩ := tup_of d
  obtain ⟨p2, vs2, rfl, hp2, ha2⟩ := tup_of d'
  have hl := dpa_len ha
  have hl2 := dpa_len ha2
  rw [List.length_map] at hl hl2
  have hL : ∀ {H B' m'}, Ex B1 B' → SOk K B' m' H → SqT K H p vs := fun e s => SqT.of (s.ext _ _ (e _ _ hp))
  have hL2 : ∀ {H B' m'}, Ex B1 B' → SOk K B' m' H → SqT K H p2 vs2 := fun e s => SqT.of (s.ext _ _ (e _ _ hp2))
  refine ⟨p, p2, vs, vs2, rfl, Or.inr ⟨SqT.of (s1.ext _ _ hp), SqT.of (s1.ext _ _ hp2), q _ B1 H1 t1 s1 ⟨fun i H B' m' hi e g s => ?_, fun H B' m' e g s => ⟨vs, vs2, hL e s, hL2 e s, ?_⟩, fun i x v H H' B' m' ds σ hx e g s st hy Q q => ?_⟩⟩⟩
  · rw [List.length_zip] at hi
    have hi' : i < vs.length := by omega
    have hi2 : i < vs2.length := by omega
    exact ⟨vs, vs2, vs[i], vs2[i], hL e s, hL2 e s, List.getElem?_eq_getElem hi', List.getElem?_eq_getElem hi2⟩
  · rw [List.length_zip]
    omega
  · obtain ⟨T, u, u2, rfl, hT, rfl, y1, y2⟩ := hy
    obtain ⟨h1, h2⟩ := zip_some hx
    obtain ⟨w1, h3, h4⟩ := dqa_some ha h1
    obtain ⟨w2, h5, h6⟩ := dqa_some ha2 h2
    have h7 := y1 vs (hL e s)
    have h8 := y2 vs2 (hL2 e s)
    rw [h3] at h7
    rw [h5] at h8
    have e7 := Option.some.inj h7
    have e8 := Option.some.inj h8
    subst e7 e8
    exact tg_pair s st (dp_mono e h4) (dp_mono e h6) hT Q q
/-- a list of pairs walked, unpacked -/
theorem src_LP {xs : List (α × β)} {j k : Nat} (h : Ev K tl ds m (.da (dL (dP f f2) xs)) m1) : Src K (iList K tl) (gTup K 2 (gCons (gName j) (gCons (gName k) gNil))) ds m m1 (fun _ => True) xs (fun p ds => (ds.set j (.da (f p.1))).set k (.da (f2 p.2))) ([j] ++ [k]) := fun B H σ s st R q => h B H σ s st _ fun v B1 H1 t1 s1 d1 => by
  obtain ⟨p, vs, rfl, hp, ha⟩ := lst_of d1
  have hl := dpa_len ha
  rw [List.length_map] at hl
  have hL : ∀ {H B' m'}, Ex B1 B' → SOk K B' m' H → SqL K H p vs := fun e s => SqL.of (s.ext _ _ (e _ _ hp))
  refine ⟨p, rfl, ⟨vs, SqL.of (s1.ext _ _ hp)⟩, q _ B1 H1 t1 s1 ⟨fun i H B' m' hi e g s => ?_, fun H B' m' e g s => ⟨vs, hL e s, Nat.le_of_eq hl⟩, fun i x v H H' B' m' ds σ hx e g s st hy Q q => ?_⟩⟩
  · have hi' : i < vs.length := by omega
    exact ⟨vs, vs[i], hL e s, List.getElem?_eq_getElem hi'⟩
  · obtain ⟨rfl, y2⟩ := hy
    obtain ⟨w, h1, h2⟩ := dqa_some ha hx
    have h3 := y2 vs (hL e s)
    rw [h1] at h3
    have e3 := Option.some.inj h3
    subst e3
    obtain ⟨T, x1, x2, rfl, h4, h5, h6⟩ := pair_of (K := K) (show SdOk K B1 (.da (dP f f2 x)) w from h2)
    refine ⟨T, [x1, x2], rfl, SqT.of (s.ext _ _ (e _ _ h4)), rfl, x1, [x2], rfl, x2, [], rfl, rfl, ?_⟩
    exact q B' _ (Tr.refl _ _ _) s (st_set k (st_set j st (sl_of (s := .da (f x.1)) (dp_mono e h5))) (sl_of (s := .da (f2 x.2)) (dp_mono e h6))) (sets1.trans sets1)
end

/-! ### comprehensions -/
section
variable {α β S : Type}
/-- [e for x in xs]: each element in turn, a state goes along -/
def mapS (step : S → α → Option (β × S)) : S → List α → Option (List β × S)
  | s, [] => some ([], s)
  | s, x :: xs => (step s x).bind fun p => (mapS step p.2 xs).bind fun q => some (p.1 :: q.1, q.2)
def mapO (step : α → Option β) : List α → Option (List β)
  | [] => some []
  | x :: xs => (step x).bind fun y => (mapO step xs).bind fun ys => some (y :: ys)
/-- with a test -/
def filO (test : α → Option Bool) (step : α → Option β) : List α → Option (List β)
  | [] => some []
  | x :: xs => (test x).bind fun b => cond b ((step x).bind fun y => (filO test step xs).bind fun ys => some (y :: ys)) (filO test step xs)
end
section
variable {K : PySem.W.Frag} {B H : Hp} {ds : List SD} {m m1 m2 m' : M} {α β S : Type} {f : α → PyData} {f2 : β → PyData} {te : TE} {tt : TT} {wi : TI} {g : TG} {G : M → Prop}
def wipeD (ds : List SD) : List Nat → List SD
  | [] => ds
  | v :: vs => (wipeD ds vs).set v .un
theorem st_wipe {σ : L2.St} (h : StOk K B ds σ) : ∀ vs : List Nat, StOk K B (wipeD ds vs) (wipe σ vs)
  | [] => h
  | v :: vs => st_set v (st_wipe h vs) (show SlOk K B .un none from True.intro)
theorem wipe_get (σ : L2.St) : ∀ (vs : List Nat) (i : Nat), (wipe σ vs)[i]? = if i ∈ vs ∧ i < σ.length then some none else σ[i]?
  | [], i => by simp [wipe]
  | v :: vs, i => by
    show ((wipe σ vs).set v none)[i]? = _
    by_cases e : v = i
    · subst e
      by_cases h : v < σ.length
      · rw [List.getElem?_set_self (by rw [wipe_length]; exact h), if_pos ⟨List.mem_cons_self, h⟩]
      · rw [List.getElem?_eq_none (by rw [List.length_set, wipe_length]; omega), if_neg (fun z => h z.2), List.getElem?_eq_none (by omega)]
    · rw [List.getElem?_set_ne e, wipe_get σ vs i]
      have : (i ∈ v :: vs ∧ i < σ.length) ↔ (i ∈ vs ∧ i < σ.length) := by
        rw [List.mem_cons]
        exact ⟨fun z => ⟨z.1.resolve_left (fun q => e q.symm), z.2⟩, fun z => ⟨.inr z.1, z.2⟩⟩
      simp only [this]
theorem wipe_sets {σ σ2 : L2.St} {js vs : List Nat} (h : Sets js (wipe σ vs) σ2) (hs : ∀ j ∈ js, j ∈ vs) : wipe σ2 vs = wipe σ vs := by
  have hl : σ2.length = σ.length := h.1.trans (wipe_length σ vs)
  refine List.ext_getElem? fun i => ?_
  rw [wipe_get σ2, wipe_get σ, hl]
  by_cases hi : i ∈ vs ∧ i < σ.length
  · rw [if_pos hi, if_pos hi]
  · rw [if_neg hi, if_neg hi]
    by_cases hv : i ∈ vs
    · have h2 : ¬ i < σ.length := fun z => hi ⟨hv, z⟩
      rw [List.getElem?_eq_none (by omega), List.getElem?_eq_none (by omega)]
    · rw [h.2 i (fun z => hv (hs i z)), wipe_get, if_neg hi]
/-- the general form: the elements go one by one, the cells mF s with the state -/
theorem ev_lcCore {items : List α} {up : α → List SD → List SD} {js vs : List Nat} (mF : S → M) (test : α → Bool) (step : S → α → β → S → Prop)
    (hs : Src K wi g ds m m1 G items up js) (hjs : ∀ j ∈ js, j ∈ vs) (hG : ∀ s c, G (mF s ++ c)) (hn : items.length ≤ 16000000)
    (body : ∀ s x, x ∈ items → EvT K tt (up x (wipeD ds vs)) (mF s) (test x) (mF s) ∧ (test x = true → ∀ y s', step s x y s' → Ev K te (up x (wipeD ds vs)) (mF s) (.da (f2 y)) (mF s')))
    (run : S → List α → List β → S → Prop) (h0 : ∀ s xs ys sN, run s xs ys sN → match xs with
      | [] => ys = [] ∧ sN = s
      | x :: r => (test x = true → ∃ y ys' s', ys = y :: ys' ∧ step s x y s' ∧ run s' r ys' sN) ∧ (test x = false → run s r ys sN))
    {s0 sN : S} {out : List β} (hm : m1 = mF s0) (hr : run s0 items out sN) :
    ∀ B H σ, SOk K B m H → StOk K B ds σ → ∀ Q : VK, (∀ p B2 H2, Tr B H (keys m) B2 H2 (keys (mF sN ++ [(p, .ls (out.map f2))])) → SOk K B2 (mF sN ++ [(p, .ls (out.map f2))]) H2 → H p = none → Q (.ref p) H2) → tLc wi g tt te vs σ H Q := by
  intro B H σ s st Q q
  subst hm
  refine hs B H σ s st _ fun J B1 H1 t1 s1 T D hD => ?_
  -- W: what is made so far, what is left
  refine ⟨fun i k H' => k = items.length - i ∧ i ≤ items.length ∧ ∃ B' st' done left, out = done ++ left ∧ done.length ≤ i ∧ run st' (items.drop i) left sN ∧ Tr B H (keys m) B' H' (keys (mF st' ++ [(D, .ls (done.map f2))])) ∧ Ex B1 B' ∧ SOk K B' (mF st' ++ [(D, .ls (done.map f2))]) H',
    ⟨items.length, by simp, Nat.zero_le _, B1, s0, [], out, rfl, Nat.zero_le _, hr, t1.trans (Tr.cell s1 hD), Ex.refl _, s1.cell hD (show CdOk K B1 (.ls (([] : List β).map f2)) (.lst []) from DqAll.nil)⟩, ?_⟩
  rintro i k H' ⟨rfl, hi, B', st', done, left, eo, hdl, hrun, tr, eB, sk⟩
  by_cases hlt : i < items.length
  · refine .inr ⟨T.1 i H' B' _ hlt eB (hG _ _) sk, fun H'' => i + 1 ≤ items.length ∧ ∃ B' st' done left, out = done ++ left ∧ done.length ≤ i + 1 ∧ run st' (items.drop (i + 1)) left sN ∧ Tr B H (keys m) B' H'' (keys (mF st' ++ [(D, .ls (done.map f2))])) ∧ Ex B1 B' ∧ SOk K B' (mF st' ++ [(D, .ls (done.map f2))]) H'',
      fun H'' p => ⟨items.length - (i + 1), by omega, rfl, p⟩, fun x H'' hy => ?_⟩
    have hx : items[i]? = some items[i] := List.getElem?_eq_getElem hlt
    have hmem : items[i] ∈ items := List.getElem_mem hlt
    have hdrop : items.drop i = items[i] :: items.drop (i + 1) := List.drop_eq_getElem_cons hlt
    have hr2 := h0 _ _ _ _ hrun
    rw [hdrop] at hr2
    obtain ⟨hrt, hrf⟩ := hr2
    obtain ⟨bt, be⟩ := body st' items[i] hmem
    refine T.2.2 i items[i] x H' H'' B' _ (wipeD ds vs) (wipe σ vs) hx eB (hG _ _) sk (st_wipe (st_mono (t1.ex.trans eB) st) vs) hy _ fun B2 σ2 t2 s2 st2 hset => ⟨wipe_sets hset hjs, ?_⟩
    refine (bt.frame [(D, .ls (done.map f2))]) B2 H'' σ2 s2 st2 _ fun B3 H3 t3 s3 => ?_
    cases hb : test items[i] with
    | false =>
      refine iteF ⟨hlt, B3, st', done, left, eo, Nat.le_succ_of_le hdl, hrf hb, (tr.trans t2).trans t3, (eB.trans t2.ex).trans t3.ex, s3⟩
    | true =>
      obtain ⟨y, ys', s', el, hstep, hrest⟩ := hrt hb
      refine iteT (((be hb y s' hstep).frame [(D, .ls (done.map f2))]) B3 H3 σ2 s3 (st_mono t3.ex st2) _ fun v B4 H4 t4 s4 d4 => ?_)
      have hjD : (mF s' ++ [(D, CD.ls (done.map f2))])[(mF s').length]? = some (D, .ls (done.map f2)) := by
        rw [List.getElem?_append_right (Nat.le_refl _), Nat.sub_self]
        rfl
      obtain ⟨ws, hw, hwa⟩ := s4.ls hjD
      have hwl := dpa_len hwa
      rw [List.length_map] at hwl
      have hset2 : (mF s' ++ [(D, CD.ls (done.map f2))]).set (mF s').length (D, .ls ((done ++ [y]).map f2)) = mF s' ++ [(D, .ls ((done ++ [y]).map f2))] := by
        rw [List.set_append_right _ _ (Nat.le_refl _), Nat.sub_self]
        rfl
      have hcd : CdOk K B4 (.ls ((done ++ [y]).map f2)) (.lst (ws ++ [v])) := by
        rw [List.map_append]
        exact dqa_app hwa (.cons d4 .nil)
      have t5 := Tr.put s4 hjD hcd
      have s5 := s4.put hjD hcd
      rw [hset2] at t5 s5
      refine ⟨ws, hw, by rw [sizeLine_eq]; omega, hlt, B4, s', done ++ [y], ys', by rw [eo, el, List.append_assoc]; rfl, by rw [List.length_append, List.length_singleton]; omega, hrest, (((tr.trans t2).trans t3).trans t4).trans t5, ((eB.trans t2.ex).trans t3.ex).trans t4.ex, s5⟩
  · have e : i = items.length := by omega
    subst e
    refine .inl ⟨T.2.1 H' B' _ eB (hG _ _) sk, ?_⟩
    have hr2 := h0 _ _ _ _ hrun
    rw [List.drop_length] at hr2
    obtain ⟨rfl, rfl⟩ := hr2
    rw [List.append_nil] at eo
    subst eo
    exact q D B' H' tr sk (by
      cases hh : H D with
      | none => rfl
      | some o => exact absurd hD (t1.grow D (some_ne hh)))
/-- its end: the list a cell, or frozen -/
theorem lc_end {out : List β} {mN : M} (h : ∀ B H σ, SOk K B m H → StOk K B ds σ → ∀ Q : VK, (∀ p B2 H2, Tr B H (keys m) B2 H2 (keys (mN ++ [(p, .ls (out.map f2))])) → SOk K B2 (mN ++ [(p, .ls (out.map f2))]) H2 → H p = none → Q (.ref p) H2) → te σ H Q) : Ev K te ds m (.da (dL f2 out)) mN := fun B H σ s st Q q => h B H σ s st Q fun p B2 H2 t s2 hp => by
  have hj : (mN ++ [(p, CD.ls (out.map f2))])[mN.length]? = some (p, .ls (out.map f2)) := by
    rw [List.getElem?_append_right (Nat.le_refl _), Nat.sub_self]
    rfl
  obtain ⟨ws, h1, h2⟩ := s2.ls hj
  have he : (mN ++ [(p, CD.ls (out.map f2))]).eraseIdx mN.length = mN := by
    rw [List.eraseIdx_append_of_length_le (Nat.le_refl _), Nat.sub_self]
    exact List.append_nil _
  have hB2 : B2 p = none := s2.out (p, .ls (out.map f2)) (List.mem_append_right _ (List.mem_singleton.mpr rfl))
  have t3 := t.frz s2 (fun a ha => by
    obtain ⟨c, hc, e⟩ := List.mem_map.mp ha
    rw [← e]
    exact s.ne hc) (o := .lst ws) hj (fresh_k s hp)
  have s3 := s2.frz hj h1
  rw [he] at t3 s3
  exact q _ _ _ t3 s3 (Dq.lst upd_same (dpa_mono (Ex.new hB2) h2))
theorem en_end {out : List β} {mN : M} (h : ∀ B H σ, SOk K B m H → StOk K B ds σ → ∀ Q : VK, (∀ p B2 H2, Tr B H (keys m) B2 H2 (keys (mN ++ [(p, .ls (out.map f2))])) → SOk K B2 (mN ++ [(p, .ls (out.map f2))]) H2 → H p = none → Q (.ref p) H2) → te σ H Q) : EvN K te ds m (.ls (out.map f2)) mN := fun B H σ s st Q q => h B H σ s st Q fun p B2 H2 t s2 _ => q p B2 H2 t s2

theorem et_yes : EvT K tYes ds m true m := fun B H σ s st Q q => q B H (Tr.refl _ _ _) s
theorem mapO_run {step : α → Option β} {items : List α} : ∀ (s : Unit) (xs : List α) (ys : List β) (sN : Unit), mapO step xs = some ys → match xs with
      | [] => ys = [] ∧ sN = s
      | x :: r => (true = true → ∃ y ys' s', ys = y :: ys' ∧ step x = some y ∧ mapO step r = some ys' ∧ s' = ()) ∧ (true = false → mapO step r = some ys)
  | _, [], ys, _, h => ⟨(Option.some.inj h).symm, rfl⟩
  | _, x :: r, ys, _, h => by
    obtain ⟨y, h1, h⟩ := bindS h
    obtain ⟨ys', h2, h⟩ := bindS h
    exact ⟨fun _ => ⟨y, ys', (), (Option.some.inj h).symm, h1, h2, rfl⟩, fun z => nomatch z⟩
/-- no test, no cells changed -/
theorem lc_map {items : List α} {up : α → List SD → List SD} {js vs : List Nat} {step : α → Option β} {out : List β} (hs : Src K wi g ds m m1 G items up js) (hjs : ∀ j ∈ js, j ∈ vs) (hG : ∀ c, G (m1 ++ c)) (hn : lenG items.length = some ())
    (h : mapO step items = some out) (body : ∀ x y, x ∈ items → step x = some y → Ev K te (up x (wipeD ds vs)) m1 (.da (f2 y)) m1) :
    ∀ B H σ, SOk K B m H → StOk K B ds σ → ∀ Q : VK, (∀ p B2 H2, Tr B H (keys m) B2 H2 (keys (m1 ++ [(p, .ls (out.map f2))])) → SOk K B2 (m1 ++ [(p, .ls (out.map f2))]) H2 → H p = none → Q (.ref p) H2) → tLc wi g tYes te vs σ H Q :=
  ev_lcCore (S := Unit) (fun _ => m1) (fun _ => true) (fun _ x y _ => step x = some y) hs hjs (fun _ => hG) (lenG_some hn) (fun _ x hx => ⟨et_yes, fun _ y _ hy => body x y hx hy⟩)
    (fun _ xs ys _ => mapO step xs = some ys) (fun s xs ys sN hr => by
      have hh := mapO_run (items := items) s xs ys sN hr
      cases xs with
      | nil => exact hh
      | cons x r => exact ⟨fun z => by
          obtain ⟨y, ys', s', h1, h2, h3, _⟩ := hh.1 z
          exact ⟨y, ys', s', h1, h2, h3⟩, fun z => nomatch z⟩) (s0 := ()) (sN := ()) rfl h
/-- a test -/
theorem lc_fil {items : List α} {up : α → List SD → List SD} {js vs : List Nat} {test : α → Bool} {step : α → Option β} {out : List β} (hs : Src K wi g ds m m1 G items up js) (hjs : ∀ j ∈ js, j ∈ vs) (hG : ∀ c, G (m1 ++ c)) (hn : lenG items.length = some ())
    (h : filO (fun x => some (test x)) step items = some out) (bt : ∀ x, x ∈ items → EvT K tt (up x (wipeD ds vs)) m1 (test x) m1) (body : ∀ x y, x ∈ items → test x = true → step x = some y → Ev K te (up x (wipeD ds vs)) m1 (.da (f2 y)) m1) :
    ∀ B H σ, SOk K B m H → StOk K B ds σ → ∀ Q : VK, (∀ p B2 H2, Tr B H (keys m) B2 H2 (keys (m1 ++ [(p, .ls (out.map f2))])) → SOk K B2 (m1 ++ [(p, .ls (out.map f2))]) H2 → H p = none → Q (.ref p) H2) → tLc wi g tt te vs σ H Q :=
  ev_lcCore (S := Unit) (fun _ => m1) test (fun _ x y _ => step x = some y) hs hjs (fun _ => hG) (lenG_some hn) (fun _ x hx => ⟨bt x hx, fun hb y _ hy => body x y hx hb hy⟩)
    (fun _ xs ys _ => filO (fun x => some (test x)) step xs = some ys) (fun s xs ys sN hr => by
      cases xs with
      | nil => exact ⟨(Option.some.inj hr).symm, rfl⟩
      | cons x r =>
        obtain ⟨b, h1, h2⟩ := bindS hr
        have e := Option.some.inj h1
        subst e
        refine ⟨fun z => ?_, fun z => ?_⟩
        · rw [z] at h2
          obtain ⟨y, h3, h2⟩ := bindS h2
          obtain ⟨ys', h4, h2⟩ := bindS h2
          exact ⟨y, ys', (), (Option.some.inj h2).symm, h3, h4⟩
        · rw [z] at h2
          exact h2) (s0 := ()) (sN := ()) rfl h
/-- no test, a state in the cells -/
theorem lc_mapS {items : List α} {up : α → List SD → List SD} {js vs : List Nat} (mF : S → M) {step : S → α → Option (β × S)} {s0 sN : S} {out : List β} (hs : Src K wi g ds m m1 G items up js) (hm : m1 = mF s0) (hjs : ∀ j ∈ js, j ∈ vs) (hG : ∀ s c, G (mF s ++ c)) (hn : lenG items.length = some ())
    (h : mapS step s0 items = some (out, sN)) (body : ∀ s x y s', x ∈ items → step s x = some (y, s') → Ev K te (up x (wipeD ds vs)) (mF s) (.da (f2 y)) (mF s')) :
    ∀ B H σ, SOk K B m H → StOk K B ds σ → ∀ Q : VK, (∀ p B2 H2, Tr B H (keys m) B2 H2 (keys (mF sN ++ [(p, .ls (out.map f2))])) → SOk K B2 (mF sN ++ [(p, .ls (out.map f2))]) H2 → H p = none → Q (.ref p) H2) → tLc wi g tYes te vs σ H Q :=
  ev_lcCore mF (fun _ => true) (fun s x y s' => step s x = some (y, s')) hs hjs hG (lenG_some hn) (fun s x hx => ⟨et_yes, fun _ y s' hy => body s x y s' hx hy⟩)
    (fun s xs ys sN => mapS step s xs = some (ys, sN)) (fun s xs ys sN hr => by
      cases xs with
      | nil =>
        have e := Option.some.inj hr
        injection e with e1 e2
        exact ⟨e1.symm, e2.symm⟩
      | cons x r =>
        obtain ⟨p, h1, h2⟩ := bindS hr
        obtain ⟨q, h3, h2⟩ := bindS h2
        have e := Option.some.inj h2
        injection e with e1 e2
        subst e1 e2
        exact ⟨fun _ => ⟨p.1, q.1, p.2, rfl, h1, h3⟩, fun z => nomatch z⟩) hm h
end
end FC
set_option maxHeartbeats 400000
/-! FU: statements, loops, dicts. -/
namespace FC
open PySem PySem.Spec PyProof.Rows L2 Evl

/-- where a def's body started -/
structure Fx where
  K : PySem.W.Frag
  B0 : Hp
  H0 : Hp
  k0 : List Addr
  hk : ∀ a ∈ k0, H0 a ≠ none
  lo : Hp
abbrev Fx.at (F : Fx) (lo : Hp) : Fx := { F with lo := lo }
def At (F : Fx) (ds : List SD) (m : M) : L2.St → Hp → Prop := fun σ H => ∃ B, StOk F.K B ds σ ∧ SOk F.K B m H ∧ Tr F.B0 F.H0 F.k0 B H (keys m) ∧ Ex F.lo B
def Wp (F : Fx) (ts : TS) (D : Ends) (ds : List SD) (m : M) : Prop := ∀ σ H, At F ds m σ H → ts D σ H
/-- what is wanted where the def hands back -/
def Fin (F : Fx) (D : Ends) (R : SD → M → Prop) : Prop := ∀ v B H r m2, R r m2 → Tr F.B0 F.H0 F.k0 B H (keys m2) → SOk F.K B m2 H → SdOk F.K B r v → D.rt v H

section
variable {F : Fx} {D : Ends} {ds ds' es : List SD} {m m1 m2 m' : M} {te ta tb tv : TE} {tu tz tw ts : TS} {tt : TT} {r : SD} {R : SD → M → Prop} {α β γ S : Type} {f : α → PyData} {g : β → PyData} {h : γ → PyData}
theorem wp_weak (w : Wks ds es) (k : Wp F ts D es m) : Wp F ts D ds m := fun σ H ⟨B, st, s, t, lo⟩ => k σ H ⟨B, w.st st, s, t, lo⟩
theorem at_weak {σ : L2.St} {H : Hp} (w : Wks ds es) (a : At F ds m σ H) : At F es m σ H := by
  obtain ⟨B, st, s, t, lo⟩ := a
  exact ⟨B, w.st st, s, t, lo⟩
theorem wp_asg {i : Nat} (h : Ev F.K te ds m r m1) (k : Wp F tz D (ds.set i r) m1) : Wp F (tSeq (tAsg te (gName i)) tz) D ds m := fun σ H ⟨B, st, s, t, lo⟩ =>
  h B H σ s st _ fun v B2 H2 t2 s2 d => k _ H2 ⟨B2, st_set i (st_mono t2.ex st) (sl_of d), s2, t.trans t2, lo.trans t2.ex⟩
theorem wp_asgN {i : Nat} {c : CD} (h : EvN F.K te ds m c m1) (k : ∀ p, p ∉ F.k0 → Wp F tz D (ds.set i (.rf p)) (m1 ++ [(p, c)])) (hm : keys m1 = keys m) : Wp F (tSeq (tAsg te (gName i)) tz) D ds m := fun σ H ⟨B, st, s, t, lo⟩ =>
  h B H σ s st _ fun p B2 H2 t2 s2 => by
    have hp : H p = none := by
      have h1 : p ∈ keys (m1 ++ [(p, c)]) := by rw [keys_app]; exact List.mem_append_right _ (List.mem_singleton.mpr rfl)
      refine (t2.kys p h1).resolve_left fun z => ?_
      have nd := s2.nd
      rw [keys_app] at nd
      exact (List.nodup_append.mp nd).2.2 p (by rw [hm]; exact z) p (List.mem_singleton.mpr rfl) rfl
    refine k p (fun z => ?_) _ H2 ⟨B2, st_set i (st_mono t2.ex st) (sl_of (s := .rf p) rfl), s2, t.trans t2, lo.trans t2.ex⟩
    exact absurd hp (t.grow p (F.hk p z))
theorem wp_expr (h : Ev F.K te ds m r m1) (k : Wp F tz D ds m1) : Wp F (tSeq (tDrop te) tz) D ds m := fun σ H ⟨B, st, s, t, lo⟩ =>
  h B H σ s st _ fun v B2 H2 t2 s2 d => k _ H2 ⟨B2, st_mono t2.ex st, s2, t.trans t2, lo.trans t2.ex⟩
theorem wp_if {b : Bool} (h : EvT F.K tt ds m b m1) (h1 : b = true → Wp F tu { D with nx := tz D } ds m1) (h2 : b = false → Wp F tw { D with nx := tz D } ds m1) : Wp F (tSeq (tIfS tt tu tw) tz) D ds m := fun σ H ⟨B, st, s, t, lo⟩ =>
  h B H σ s st _ fun B2 H2 t2 s2 => by
    cases b with
    | true => exact iteT (h1 rfl σ H2 ⟨B2, st_mono t2.ex st, s2, t.trans t2, lo.trans t2.ex⟩)
    | false => exact iteF (h2 rfl σ H2 ⟨B2, st_mono t2.ex st, s2, t.trans t2, lo.trans t2.ex⟩)
theorem wp_cut (k : Wp F tz D ds' m') (h : Wp F tu { D with nx := At F ds' m' } ds m) : Wp F (tCut tu tz) D ds m := fun σ H a => ⟨At F ds' m', h σ H a, k⟩
theorem wp_cutIf {b : Bool} (k : Wp F tz D ds' m') (h : EvT F.K tt ds m b m1) (h1 : b = true → Wp F tu { D with nx := At F ds' m' } ds m1) (h2 : b = false → Wp F tw { D with nx := At F ds' m' } ds m1) : Wp F (tCut (tIfS tt tu tw) tz) D ds m :=
  wp_cut (ds' := ds') (m' := m') k fun σ H ⟨B, st, s, t, lo⟩ => h B H σ s st _ fun B2 H2 t2 s2 => by
    cases b with
    | true => exact iteT (h1 rfl σ H2 ⟨B2, st_mono t2.ex st, s2, t.trans t2, lo.trans t2.ex⟩)
    | false => exact iteF (h2 rfl σ H2 ⟨B2, st_mono t2.ex st, s2, t.trans t2, lo.trans t2.ex⟩)
theorem wp_next (h : ∀ σ H, At F ds m σ H → D.nx σ H) : Wp F tNext D ds m := h
theorem wp_nextW (w : Wks ds es) (e : D.nx = At F es m) : Wp F tNext D ds m := fun σ H a => by
  show D.nx σ H
  rw [e]
  exact at_weak w a
theorem wp_ret {D' : Ends} (h : Ev F.K te ds m r m1) (hf : Fin F D R) (hr : R r m1) : Wp F (tSeq (tRet te) tz) D ds m := fun σ H ⟨B, st, s, t, lo⟩ =>
  h B H σ s st _ fun v B2 H2 t2 s2 d => hf v B2 H2 r m1 hr (t.trans t2) s2 d
theorem wp_retN (hf : Fin F D R) (hr : R (.da .none) m) : Wp F (tSeq tRetN tz) D ds m := fun σ H ⟨B, st, s, t, lo⟩ => hf _ B H _ m hr t s .non
theorem wp_break (h : ∀ σ H, At F ds m σ H → D.bk σ H) : Wp F (tSeq tBreak tz) D ds m := h
theorem wp_cont (h : ∀ σ H, At F ds m σ H → D.ct σ H) : Wp F (tSeq tCont tz) D ds m := h
/-- x += e of ints -/
theorem wp_aug {i : Nat} {a b : Int} {fi : Int → Int → Int} (hx : ds[i]? = some (.da (dI a))) (h : Ev F.K te ds m (.da (dI b)) m1) (k : Wp F tz D (ds.set i (.da (dI (fi a b)))) m1) : Wp F (tSeq (tAug i te (ipI fi)) tz) D ds m := fun σ H ⟨B, st, s, t, lo⟩ => by
  obtain ⟨o, e, w⟩ := st_get st hx
  obtain ⟨v, rfl, w⟩ := sl_some (s := .da (dI a)) (fun z => nomatch z) w
  refine ⟨v, e, h B H σ s st _ fun v2 B2 H2 t2 s2 d => ⟨a, b, int_of (K := F.K) (show SdOk F.K B (.da (dI a)) v from w), int_of d, ?_⟩⟩
  exact k _ H2 ⟨B2, st_set i (st_mono t2.ex st) (sl_of (s := .da (dI (fi a b))) (.int _)), s2, t.trans t2, lo.trans t2.ex⟩
/-- a, b = a pair -/
theorem wp_unp2 {i j : Nat} {p : α × β} (h : Ev F.K te ds m (.da (dP f g p)) m1) (k : Wp F tz D ((ds.set i (.da (f p.1))).set j (.da (g p.2))) m1) : Wp F (tSeq (tAsg te (gTup F.K 2 (gCons (gName i) (gCons (gName j) gNil)))) tz) D ds m := fun σ H ⟨B, st, s, t, lo⟩ =>
  h B H σ s st _ fun v B2 H2 t2 s2 d => by
    obtain ⟨T, x1, x2, rfl, h4, h5, h6⟩ := pair_of d
    refine ⟨T, [x1, x2], rfl, SqT.of (s2.ext _ _ h4), rfl, x1, [x2], rfl, x2, [], rfl, rfl, ?_⟩
    exact k _ H2 ⟨B2, st_set j (st_set i (st_mono t2.ex st) (sl_of (s := .da (f p.1)) h5)) (sl_of (s := .da (g p.2)) h6), s2, t.trans t2, lo.trans t2.ex⟩
/-- a, b, c = a triple -/
theorem wp_unp3 {i j l : Nat} {p : α × β × γ} (hh : Ev F.K te ds m (.da (d3 f g h p)) m1) (k : Wp F tz D (((ds.set i (.da (f p.1))).set j (.da (g p.2.1))).set l (.da (h p.2.2))) m1) : Wp F (tSeq (tAsg te (gTup F.K 3 (gCons (gName i) (gCons (gName j) (gCons (gName l) gNil))))) tz) D ds m := fun σ H ⟨B, st, s, t, lo⟩ =>
  hh B H σ s st _ fun v B2 H2 t2 s2 d => by
    obtain ⟨T, vs, rfl, h4, h5⟩ := dq_tuple (show SdOk F.K B2 (.da (.tuple [f p.1, g p.2.1, h p.2.2])) v from d)
    cases h5 with
    | cons a1 r1 =>
      cases r1 with
      | cons a2 r2 =>
        cases r2 with
        | cons a3 r3 =>
          cases r3
          refine ⟨T, _, rfl, SqT.of (s2.ext _ _ h4), rfl, _, _, rfl, _, _, rfl, _, _, rfl, rfl, ?_⟩
          exact k _ H2 ⟨B2, st_set l (st_set j (st_set i (st_mono t2.ex st) (sl_of (s := .da (f p.1)) a1)) (sl_of (s := .da (g p.2.1)) a2)) (sl_of (s := .da (h p.2.2)) a3), s2, t.trans t2, lo.trans t2.ex⟩
/-- a list of known length unpacked to two names -/
theorem wp_unpL2 {i j : Nat} {xs : List α} {a b : α} (hh : Ev F.K te ds m (.da (dL f xs)) m1) (hx : xs = [a, b]) (k : Wp F tz D ((ds.set i (.da (f a))).set j (.da (f b))) m1) : Wp F (tSeq (tAsg te (gUnl F.K 2 (gCons (gName i) (gCons (gName j) gNil)))) tz) D ds m := fun σ H ⟨B, st, s, t, lo⟩ =>
  hh B H σ s st _ fun v B2 H2 t2 s2 d => by
    obtain ⟨T, vs, rfl, h4, h5⟩ := lst_of d
    subst hx
    cases h5 with
    | cons a1 r1 =>
      cases r1 with
      | cons a2 r2 =>
        cases r2
        refine ⟨T, _, rfl, SqL.of (s2.ext _ _ h4), rfl, _, _, rfl, _, _, rfl, rfl, ?_⟩
        exact k _ H2 ⟨B2, st_set j (st_set i (st_mono t2.ex st) (sl_of (s := .da (f a)) a1)) (sl_of (s := .da (f b)) a2), s2, t.trans t2, lo.trans t2.ex⟩
/-- a, b = e1, e2 -/
theorem wp_par {i j : Nat} {ta : TA} {a b : SD} (h : EvA F.K ta ds m [a, b] m1) (k : Wp F tz D ((ds.set i a).set j b) m1) : Wp F (tSeq (tPar i j ta) tz) D ds m := fun σ H ⟨B, st, s, t, lo⟩ =>
  h B H σ s st _ fun vs B2 H2 t2 s2 d => by
    obtain ⟨v, w, rfl, d1, d2⟩ := sda2 d
    exact ⟨v, w, rfl, k _ H2 ⟨B2, st_set j (st_set i (st_mono t2.ex st) (sl_of d1)) (sl_of d2), s2, t.trans t2, lo.trans t2.ex⟩⟩
/-- a new cell, told as data from now on -/
theorem wp_frz {i j : Nat} {l : Addr} {dl : List PyData} (hi : ds[i]? = some (.rf l)) (hj : m[j]? = some (l, .ls dl)) (hl : l ∉ F.k0) (k : Wp F ts D (ds.set i (.da (.list dl))) (m.eraseIdx j)) : Wp F ts D ds m := fun σ H ⟨B, st, s, t, lo⟩ => by
  obtain ⟨vs, h1, h2⟩ := s.ls hj
  have hB : B l = none := s.out (l, .ls dl) (List.mem_of_getElem? hj)
  obtain ⟨o, e, w⟩ := st_get st hi
  obtain ⟨v, rfl, w⟩ := sl_some (s := .rf l) (fun z => nomatch z) w
  have ev : v = .ref l := w
  subst ev
  have ee := Ex.new (o := .lst vs) hB
  have st2 := st_set (K := F.K) i (st_mono ee st) (s := .da (.list dl)) (o := some (.ref l)) (Dq.lst upd_same (dpa_mono ee h2))
  rw [set_same e] at st2
  exact k σ H ⟨_, st2, s.frz hj h1, t.frz s F.hk hj hl, lo.trans ee⟩
/-- a cell that is needed no more -/
theorem wp_drop (j : Nat) (k : Wp F ts D ds (m.eraseIdx j)) : Wp F ts D ds m := fun σ H ⟨B, st, s, t, lo⟩ =>
  k σ H ⟨B, st, s.sub (List.eraseIdx_sublist m j), t.sub (fun a z => ((List.eraseIdx_sublist m j).map _).subset z), lo⟩
/-- x[i] = e, x a cell -/
theorem wp_setL {xs ys : List α} {x : α} {i : Int} {l : Addr} (j : Nat) (hv : Ev F.K tv ds m (.da (f x)) m1) (ho : Ev F.K ta ds m1 (.rf l) m2) (hi : Ev F.K tb ds m2 (.da (dI i)) m') (hj : m'[j]? = some (l, .ls (xs.map f))) (hs : setI xs i x = some ys)
    (k : Wp F tz D ds (m'.set j (l, .ls (ys.map f)))) : Wp F (tSeq (tAsg tv (gSub ta tb rSetL)) tz) D ds m := fun σ H ⟨B, st, s, t, lo⟩ =>
  hv B H σ s st _ fun v B1 H1 t1 s1 d1 => ho B1 H1 σ s1 (st_mono t1.ex st) _ fun o B2 H2 t2 s2 d2 => hi B2 H2 σ s2 (st_mono (t1.ex.trans t2.ex) st) _ fun y B3 H3 t3 s3 d3 => by
    obtain ⟨vs, h1, h2⟩ := s3.ls hj
    have hl := dpa_len h2
    rw [List.length_map] at hl
    unfold setI at hs
    obtain ⟨jx, e1, e2⟩ := Option.map_eq_some_iff.mp hs
    refine ⟨l, vs, i, jx, d2, int_of d3, h1, by rw [hl]; exact e1, ?_⟩
    have hcd : CdOk F.K B3 (.ls (ys.map f)) (.lst (vs.set jx v)) := by
      subst e2
      rw [List.map_set]
      exact dqa_set jx h2 (dp_mono (t2.ex.trans t3.ex) d1)
    exact k σ _ ⟨B3, st_mono (t1.ex.trans (t2.ex.trans t3.ex)) st, s3.put hj hcd, (((t.trans t1).trans t2).trans t3).trans (Tr.put s3 hj hcd), lo.trans (t1.ex.trans (t2.ex.trans t3.ex))⟩
end

/-! ### loops -/
section
variable {α S R : Type}
inductive Ctl (S R : Type) where
  | nx (s : S)
  | bk (s : S)
  | rt (r : R)
def forC (step : S → α → Option (Ctl S R)) : S → List α → Option (Ctl S R)
  | s, [] => some (.nx s)
  | s, x :: xs => (step s x).bind fun c => match c with
    | .nx s' => forC step s' xs
    | .bk s' => some (.bk s')
    | .rt r => some (.rt r)
def forF (step : S → α → Option S) : S → List α → Option S
  | s, [] => some s
  | s, x :: xs => (step s x).bind fun s' => forF step s' xs
/-- while: at most n turns -/
def whiF (cond : S → Option Bool) (step : S → Option S) : Nat → S → Option S
  | 0, _ => none
  | n + 1, s => (cond s).bind fun b => match b with
    | true => (step s).bind fun s' => whiF cond step n s'
    | false => some s
end
section
variable {F : Fx} {D : Ends} {ds : List SD} {m m1 : M} {α S R : Type} {wi : TI} {g : TG} {G : M → Prop} {items : List α} {up : α → List SD → List SD} {js : List Nat} {tb tz : TS} {tt : TT}
theorem fin_at {D' : Ends} {R : SD → M → Prop} {lo : Hp} (h : Fin F D R) (e : D'.rt = D.rt) : Fin (F.at lo) D' R := fun v B H r m2 hr t s d => by
  rw [e]
  exact h v B H r m2 hr t s d
theorem wp_forC (dF : S → List SD) (mF : S → M) {step : S → α → Option (Ctl S R)} {s0 : S} {c : Ctl S R} (hs : Src F.K wi g ds m m1 G items up js) (h : forC step s0 items = some c) (hw : Wks ds (dF s0)) (hm : m1 = mF s0) (hG : ∀ s, G (mF s))
    (body : ∀ lo s x c', x ∈ items → step s x = some c' → ∀ D', D'.rt = D.rt → (∀ s', c' = .nx s' → ∀ σ H, At (F.at lo) (dF s') (mF s') σ H → D'.nx σ H) → (∀ s', c' = .nx s' → ∀ σ H, At (F.at lo) (dF s') (mF s') σ H → D'.ct σ H) →
      (∀ s', c' = .bk s' → ∀ σ H, At (F.at lo) (dF s') (mF s') σ H → D'.bk σ H) → (∀ r, c' = .rt r → c = .rt r) → Wp (F.at lo) tb D' (up x (dF s)) (mF s))
    (k : ∀ s, (c = .nx s ∨ c = .bk s) → Wp F tz D (dF s) (mF s)) : Wp F (tSeq (tFor wi g tb) tz) D ds m := fun σ H ⟨B, st, s, t, lo⟩ => by
  subst hm
  refine hs B H σ s st _ fun J B1 H1 t1 s1 T => ?_
  refine ⟨fun i n σ' H' => n = items.length - i ∧ i ≤ items.length ∧ ∃ s', forC step s' (items.drop i) = some c ∧ At (F.at B1) (dF s') (mF s') σ' H',
    ⟨items.length, by simp, Nat.zero_le _, s0, h, B1, hw.st (st_mono t1.ex st), s1, t.trans t1, Ex.refl _⟩, ?_⟩
  have back : ∀ {es mm σ3 H3}, At (F.at B1) es mm σ3 H3 → At F es mm σ3 H3 := fun ⟨B3, a1, a2, a3, a4⟩ => ⟨B3, a1, a2, a3, (lo.trans t1.ex).trans a4⟩
  rintro i n σ' H' ⟨rfl, hi, s', hf, B', st', sk, tr, eB⟩
  by_cases hlt : i < items.length
  · have hx : items[i]? = some items[i] := List.getElem?_eq_getElem hlt
    have hdrop : items.drop i = items[i] :: items.drop (i + 1) := List.drop_eq_getElem_cons hlt
    rw [hdrop] at hf
    obtain ⟨c', hstep, hrest⟩ := bindS hf
    refine .inr ⟨T.1 i H' B' _ hlt eB (hG _) sk, fun σ2 H2 => i + 1 ≤ items.length ∧ ∃ s', forC step s' (items.drop (i + 1)) = some c ∧ At (F.at B1) (dF s') (mF s') σ2 H2,
      fun σ2 H2 p => ⟨items.length - (i + 1), by omega, rfl, p⟩, fun x H'' hy => ?_⟩
    refine T.2.2 i items[i] x H' H'' B' _ (dF s') σ' hx eB (hG _) sk st' hy _ fun B2 σ2 t2 s2 st2 _ => ?_
    refine body B1 s' items[i] c' (List.getElem_mem hlt) hstep _ ?_ ?_ ?_ ?_ ?_ σ2 H'' ⟨B2, st2, s2, tr.trans t2, eB.trans t2.ex⟩
    · rfl
    · rintro s3 rfl σ3 H3 a3
      exact ⟨hlt, s3, hrest, a3⟩
    · rintro s3 rfl σ3 H3 a3
      exact ⟨hlt, s3, hrest, a3⟩
    · rintro s3 rfl σ3 H3 a3
      exact k s3 (.inr (Option.some.inj hrest).symm) σ3 H3 (back a3)
    · rintro r rfl
      exact (Option.some.inj hrest).symm
  · have e : i = items.length := by omega
    subst e
    rw [List.drop_length] at hf
    exact .inl ⟨T.2.1 H' B' _ eB (hG _) sk, k s' (.inl (Option.some.inj hf).symm) σ' H' (back ⟨B', st', sk, tr, eB⟩)⟩
theorem forF_C {step : S → α → Option S} : ∀ (xs : List α) (s t : S), forF step s xs = some t → forC (R := Unit) (fun s x => (step s x).map Ctl.nx) s xs = some (.nx t)
  | [], s, t, h => by
    rw [show s = t from Option.some.inj h]
    rfl
  | x :: xs, s, t, h => by
    obtain ⟨s', h1, h2⟩ := bindS h
    show ((step s x).map Ctl.nx).bind _ = _
    rw [h1]
    exact forF_C xs s' t h2
/-- a loop that is never left early -/
theorem wp_forF (dF : S → List SD) (mF : S → M) {step : S → α → Option S} {s0 sN : S} (hs : Src F.K wi g ds m m1 G items up js) (h : forF step s0 items = some sN) (hw : Wks ds (dF s0)) (hm : m1 = mF s0) (hG : ∀ s, G (mF s))
    (body : ∀ lo s x s', x ∈ items → step s x = some s' → ∀ D', D'.rt = D.rt → (∀ σ H, At (F.at lo) (dF s') (mF s') σ H → D'.nx σ H) → (∀ σ H, At (F.at lo) (dF s') (mF s') σ H → D'.ct σ H) → Wp (F.at lo) tb D' (up x (dF s)) (mF s))
    (k : Wp F tz D (dF sN) (mF sN)) : Wp F (tSeq (tFor wi g tb) tz) D ds m :=
  wp_forC (R := Unit) dF mF hs (forF_C items s0 sN h) hw hm hG (fun lo s x c' hx hstep D' e1 e2 e3 _ _ => by
    obtain ⟨s', h1, rfl⟩ := Option.map_eq_some_iff.mp hstep
    exact body lo s x s' hx h1 D' e1 (e2 s' rfl) (e3 s' rfl)) (fun s hc => by
    rcases hc with hc | hc
    · injection hc with e
      rw [← e]
      exact k
    · cases hc)
/-- while -/
theorem wp_whi (dF : S → List SD) (mF : S → M) {cond : S → Option Bool} {step : S → Option S} {n0 : Nat} {s0 sN : S} (h : whiF cond step n0 s0 = some sN) (hw : Wks ds (dF s0)) (hm : m = mF s0)
    (test : ∀ s b, cond s = some b → EvT F.K tt (dF s) (mF s) b (mF s))
    (body : ∀ s s', cond s = some true → step s = some s' → ∀ D', D'.rt = D.rt → (∀ σ H, At F (dF s') (mF s') σ H → D'.nx σ H) → (∀ σ H, At F (dF s') (mF s') σ H → D'.ct σ H) → Wp F tb D' (dF s) (mF s))
    (k : cond sN = some false → Wp F tz D (dF sN) (mF sN)) : Wp F (tSeq (tWhile tt tb) tz) D ds m := fun σ H ⟨B, st, s, t, lo⟩ => by
  subst hm
  refine ⟨fun n σ' H' => ∃ s', whiF cond step n s' = some sN ∧ At F (dF s') (mF s') σ' H', ⟨n0, s0, h, B, hw.st st, s, t, lo⟩, ?_⟩
  rintro n σ' H' ⟨s', hf, B', st', sk, tr, eB⟩
  cases n with
  | zero => cases hf
  | succ n =>
    obtain ⟨b, h1, h2⟩ := bindS hf
    refine test s' b h1 B' H' σ' sk st' _ fun B2 H2 t2 s2 => ?_
    cases b with
    | true =>
      obtain ⟨s3, h3, h4⟩ := bindS h2
      refine iteT ⟨fun σ2 H2 => ∃ s', whiF cond step n s' = some sN ∧ At F (dF s') (mF s') σ2 H2, fun σ2 H2 p => ⟨n, Nat.lt_succ_self n, p⟩, ?_⟩
      refine body s' s3 h1 h3 _ ?_ ?_ ?_ σ' H2 ⟨B2, st_mono t2.ex st', s2, tr.trans t2, eB.trans t2.ex⟩
      · rfl
      · exact fun σ4 H4 a4 => ⟨s3, h4, a4⟩
      · exact fun σ4 H4 a4 => ⟨s3, h4, a4⟩
    | false =>
      have e : s' = sN := Option.some.inj h2
      subst e
      exact iteF (k h1 σ' H2 ⟨B2, st_mono t2.ex st', s2, tr.trans t2, eB.trans t2.ex⟩)
end

/-! ### dicts -/
section
variable {κ α : Type} [DecidableEq κ]
def dget (kvs : List (κ × α)) (k : κ) : Option α := (kvs.find? fun kv => decide (kv.1 = k)).map (·.2)
def dput (kvs : List (κ × α)) (k : κ) (v : α) : List (κ × α) := if (kvs.any fun kv => decide (kv.1 = k)) = true then kvs.map (fun kv => if kv.1 = k then (kv.1, v) else kv) else kvs ++ [(k, v)]
def ddrop (kvs : List (κ × α)) (k : κ) : List (κ × α) := kvs.filter fun kv => decide (kv.1 ≠ k)
end
/-- keys that are texts, numbers, tuples of numbers -/
def kS (s : Str) : Key := .inr s
def kI (i : Int) : Key := .inl i
def kU (k : List Int) : List Key := k.map Sum.inl
def eK {κ κ' α : Type} (kf : κ → κ') (f : α → PyData) (kvs : List (κ × α)) : List (κ' × PyData) := kvs.map fun p => (kf p.1, f p.2)
section
variable {K : PySem.W.Frag} {B H : Hp} {ds : List SD} {m m1 m2 m' : M} {κ κ' α : Type} [DecidableEq κ] [DecidableEq κ'] {kf : κ → κ'} {f : α → PyData} {td ty tx tv : TE}
theorem kS_inj {a b : Str} (h : kS a = kS b) : a = b := Sum.inr.inj h
theorem kI_inj {a b : Int} (h : kI a = kI b) : a = b := Sum.inl.inj h
theorem kU_inj : ∀ {a b : List Int}, kU a = kU b → a = b
  | [], [], _ => rfl
  | [], _ :: _, h => by cases h
  | _ :: _, [], h => by cases h
  | x :: a, y :: b, h => by
    have h1 : Sum.inl x :: kU a = (Sum.inl y :: kU b : List Key) := h
    injection h1 with e1 e2
    rw [Sum.inl.inj e1, kU_inj e2]
theorem kv_get (hk : ∀ a b, kf a = kf b → a = b) : ∀ {kvs : List (κ × α)} {ws : List (κ' × V)} {k : κ}, KvOk B (eK kf f kvs) ws → match dget kvs k with
    | some a => ∃ v, valV ws (kf k) = some v ∧ Dq B v (f a)
    | none => valV ws (kf k) = none
  | [], [], k, _ => rfl
  | [], _ :: _, k, h => h.elim
  | _ :: _, [], k, h => h.elim
  | p :: kvs, w :: ws, k, h => by
    have h1 : kf p.1 = w.1 := h.1.1
    have h2 : Dq B w.2 (f p.2) := h.1.2
    by_cases e : p.1 = k
    · have e2 : dget (p :: kvs) k = some p.2 := by simp [dget, List.find?_cons, e]
      rw [e2]
      exact ⟨w.2, valV_pos (by rw [← h1, e]), h2⟩
    · have e2 : dget (p :: kvs) k = dget kvs k := by simp [dget, List.find?_cons, e]
      have e3 : valV (w :: ws) (kf k) = valV ws (kf k) := valV_neg fun z => e (hk _ _ (h1.trans z))
      rw [e2, e3]
      exact kv_get hk h.2
theorem kv_any (hk : ∀ a b, kf a = kf b → a = b) : ∀ {kvs : List (κ × α)} {ws : List (κ' × V)} {k : κ}, KvOk B (eK kf f kvs) ws → (ws.any fun kv => decide (kv.1 = kf k)) = (kvs.any fun kv => decide (kv.1 = k))
  | [], [], k, _ => rfl
  | [], _ :: _, k, h => h.elim
  | _ :: _, [], k, h => h.elim
  | p :: kvs, w :: ws, k, h => by
    have h1 : kf p.1 = w.1 := h.1.1
    rw [List.any_cons, List.any_cons, kv_any hk h.2, ← h1, decide_eq_decide.mpr (show kf p.1 = kf k ↔ p.1 = k from ⟨hk _ _, fun e => by rw [e]⟩)]
theorem kv_map (hk : ∀ a b, kf a = kf b → a = b) {k : κ} {v : V} {a : α} (hv : Dq B v (f a)) : ∀ {kvs : List (κ × α)} {ws : List (κ' × V)}, KvOk B (eK kf f kvs) ws →
    KvOk B (eK kf f (kvs.map fun kv => if kv.1 = k then (kv.1, a) else kv)) (ws.map fun kv => if kv.1 = kf k then (kv.1, v) else kv)
  | [], [], _ => True.intro
  | [], _ :: _, h => h.elim
  | _ :: _, [], h => h.elim
  | p :: kvs, w :: ws, h => by
    have h1 : kf p.1 = w.1 := h.1.1
    have h2 : Dq B w.2 (f p.2) := h.1.2
    refine ⟨?_, kv_map hk hv h.2⟩
    show kf (if p.1 = k then (p.1, a) else p).1 = (if w.1 = kf k then (w.1, v) else w).1 ∧ Dq B (if w.1 = kf k then (w.1, v) else w).2 (f (if p.1 = k then (p.1, a) else p).2)
    by_cases e : p.1 = k
    · rw [if_pos e, if_pos (show w.1 = kf k by rw [← h1, e])]
      exact ⟨h1, hv⟩
    · rw [if_neg e, if_neg (fun z => e (hk _ _ (h1.trans z)))]
      exact ⟨h1, h2⟩
theorem kv_app : ∀ {a b : List (κ' × PyData)} {u w : List (κ' × V)}, KvOk B a u → KvOk B b w → KvOk B (a ++ b) (u ++ w)
  | [], _, [], _, _, q => q
  | [], _, _ :: _, _, h, _ => h.elim
  | _ :: _, _, [], _, h, _ => h.elim
  | _ :: _, _, _ :: _, _, h, q => ⟨h.1, kv_app h.2 q⟩
theorem kv_put (hk : ∀ a b, kf a = kf b → a = b) {kvs : List (κ × α)} {ws : List (κ' × V)} {k : κ} {v : V} {a : α} (h : KvOk B (eK kf f kvs) ws) (hv : Dq B v (f a)) : KvOk B (eK kf f (dput kvs k a)) (putK ws (kf k) v) := by
  unfold dput putK
  rw [kv_any hk h]
  split
  · exact kv_map hk hv h
  · unfold eK
    rw [List.map_append]
    exact kv_app h ⟨⟨rfl, hv⟩, True.intro⟩
theorem kv_len : ∀ {a : List (κ' × PyData)} {u : List (κ' × V)}, KvOk B a u → u.length = a.length
  | [], [], _ => rfl
  | [], _ :: _, h => h.elim
  | _ :: _, [], h => h.elim
  | _ :: _, _ :: _, h => congrArg (· + 1) (kv_len h.2)
theorem kv_drop (hk : ∀ a b, kf a = kf b → a = b) {k : κ} : ∀ {kvs : List (κ × α)} {ws : List (κ' × V)}, KvOk B (eK kf f kvs) ws → KvOk B (eK kf f (ddrop kvs k)) (dropK ws (kf k))
  | [], [], _ => True.intro
  | [], _ :: _, h => h.elim
  | _ :: _, [], h => h.elim
  | p :: kvs, w :: ws, h => by
    have h1 : kf p.1 = w.1 := h.1.1
    have ih := kv_drop hk (k := k) h.2
    unfold ddrop dropK at ih ⊢
    rw [List.filter_cons, List.filter_cons]
    by_cases e : p.1 = k
    · rw [if_neg (by simp [e]), if_neg (by simp [← h1, e])]
      exact ih
    · rw [if_pos (by simp [e]), if_pos (by simp only [ne_eq, decide_eq_true_eq]; exact fun z => e (hk _ _ (h1.trans z)))]
      exact ⟨h.1, ih⟩
theorem SOk.dk (s : SOk K B m H) {j : Nat} {l : Addr} {kvs : List (Key × PyData)} (hm : m[j]? = some (l, .dk kvs)) : ∃ ws, H l = some (.dK ws) ∧ KvOk B kvs ws := by
  obtain ⟨o, h, c⟩ := s.at hm
  cases o <;> first | exact ⟨_, h, c⟩ | exact c.elim
theorem SOk.dt (s : SOk K B m H) {j : Nat} {l : Addr} {kvs : List (List Key × PyData)} (hm : m[j]? = some (l, .dt kvs)) : ∃ ws, H l = some (.dT ws) ∧ KvOk B kvs ws := by
  obtain ⟨o, h, c⟩ := s.at hm
  cases o <;> first | exact ⟨_, h, c⟩ | exact c.elim
/-- a key's value -/
theorem key_S {x : Str} {y : V} (h : SdOk K B (.da (dS x)) y) : y = kV (kS x) := str_of h
theorem key_I {x : Int} {y : V} (h : SdOk K B (.da (dI x)) y) : y = kV (kI x) := int_of h
theorem key_U {x : List Int} {y : V} (h : SdOk K B (.da (dU dI x)) y) : ∃ b, y = .ref b ∧ B b = some (.tup ((kU x).map kV)) := by
  obtain ⟨p, vs, rfl, hp, ha⟩ := tup_of h
  have e := dqa_ints ha
  subst e
  refine ⟨p, rfl, ?_⟩
  rw [hp]
  unfold kU
  rw [List.map_map]
  rfl
end
/-- kinds of keys -/
class KK (κ : Type) [DecidableEq κ] where
  kd : κ → PyData
  cell : {α : Type} → (α → PyData) → List (κ × α) → CD
  get : ∀ {K : PySem.W.Frag} {B H : Hp} {m : M} {l : Addr} {j : Nat} {α : Type} {f : α → PyData} {kvs : List (κ × α)} {k : κ} {y : V}, SOk K B m H → m[j]? = some (l, cell f kvs) → SdOk K B (.da (kd k)) y → match dget kvs k with
    | some a => ∃ v, DGet H l y (some v) ∧ Dq B v (f a)
    | none => DGet H l y none
  isD : ∀ {K : PySem.W.Frag} {B H : Hp} {m : M} {l : Addr} {j : Nat} {α : Type} {f : α → PyData} {kvs : List (κ × α)}, SOk K B m H → m[j]? = some (l, cell f kvs) → IsD H l
  put : ∀ {K : PySem.W.Frag} {B H : Hp} {m : M} {l : Addr} {j : Nat} {α : Type} {f : α → PyData} {kvs : List (κ × α)} {k : κ} {y v : V} {a : α}, SOk K B m H → m[j]? = some (l, cell f kvs) → SdOk K B (.da (kd k)) y → Dq B v (f a) → kvs.length ≤ 16000000 →
    ∃ o, DPut H l y v (upd H l o) ∧ CdOk K B (cell f (dput kvs k a)) o
instance : KK Str where
  kd := dS
  cell f kvs := .dk (eK kS f kvs)
  get := fun {K B H m l j α f kvs k y} s hj hy => by
    obtain ⟨ws, h1, h2⟩ := s.dk hj
    have h3 := kv_get (fun _ _ => kS_inj) (k := k) h2
    rw [key_S hy]
    have h4 := DGet.k (k := kS k) h1
    cases e : dget kvs k with
    | none =>
      rw [e] at h3
      rw [h3] at h4
      exact h4
    | some a =>
      rw [e] at h3
      obtain ⟨v, h5, h6⟩ := h3
      rw [h5] at h4
      exact ⟨v, h4, h6⟩
  isD := fun s hj => by
    obtain ⟨ws, h1, h2⟩ := s.dk hj
    exact .inl ⟨ws, .inl h1⟩
  put := fun {K B H m l j α f kvs k y v a} s hj hy hv hz => by
    obtain ⟨ws, h1, h2⟩ := s.dk hj
    have hl := kv_len h2
    unfold eK at hl
    rw [List.length_map] at hl
    rw [key_S hy]
    exact ⟨_, DPut.k h1 (by rw [sizeLine_eq]; omega), kv_put (fun _ _ => kS_inj) h2 hv⟩
instance : KK Int where
  kd := dI
  cell f kvs := .dk (eK kI f kvs)
  get := fun {K B H m l j α f kvs k y} s hj hy => by
    obtain ⟨ws, h1, h2⟩ := s.dk hj
    have h3 := kv_get (fun _ _ => kI_inj) (k := k) h2
    rw [key_I hy]
    have h4 := DGet.k (k := kI k) h1
    cases e : dget kvs k with
    | none =>
      rw [e] at h3
      rw [h3] at h4
      exact h4
    | some a =>
      rw [e] at h3
      obtain ⟨v, h5, h6⟩ := h3
      rw [h5] at h4
      exact ⟨v, h4, h6⟩
  isD := fun s hj => by
    obtain ⟨ws, h1, h2⟩ := s.dk hj
    exact .inl ⟨ws, .inl h1⟩
  put := fun {K B H m l j α f kvs k y v a} s hj hy hv hz => by
    obtain ⟨ws, h1, h2⟩ := s.dk hj
    have hl := kv_len h2
    unfold eK at hl
    rw [List.length_map] at hl
    rw [key_I hy]
    exact ⟨_, DPut.k h1 (by rw [sizeLine_eq]; omega), kv_put (fun _ _ => kI_inj) h2 hv⟩
instance : KK (List Int) where
  kd := dU dI
  cell f kvs := .dt (eK kU f kvs)
  get := fun {K B H m l j α f kvs k y} s hj hy => by
    obtain ⟨ws, h1, h2⟩ := s.dt hj
    have h3 := kv_get (fun _ _ => kU_inj) (k := k) h2
    obtain ⟨b, rfl, hb⟩ := key_U hy
    have h4 := DGet.t (k := kU k) h1 (s.ext _ _ hb)
    cases e : dget kvs k with
    | none =>
      rw [e] at h3
      rw [h3] at h4
      exact h4
    | some a =>
      rw [e] at h3
      obtain ⟨v, h5, h6⟩ := h3
      rw [h5] at h4
      exact ⟨v, h4, h6⟩
  isD := fun s hj => by
    obtain ⟨ws, h1, h2⟩ := s.dt hj
    exact .inr ⟨ws, .inl h1⟩
  put := fun {K B H m l j α f kvs k y v a} s hj hy hv hz => by
    obtain ⟨ws, h1, h2⟩ := s.dt hj
    have hl := kv_len h2
    unfold eK at hl
    rw [List.length_map] at hl
    obtain ⟨b, rfl, hb⟩ := key_U hy
    exact ⟨_, DPut.t h1 (s.ext _ _ hb) (by rw [sizeLine_eq]; omega), kv_put (fun _ _ => kU_inj) h2 hv⟩
section
variable {K : PySem.W.Frag} {B H : Hp} {ds : List SD} {m m1 m2 m3 m' : M} {κ α : Type} [DecidableEq κ] [KK κ] {f : α → PyData} {td ty tx tv : TE} {kvs : List (κ × α)} {k : κ} {a : α} {l : Addr}
theorem ev_dget (j : Nat) (hd : Ev K td ds m (.rf l) m1) (hy : Ev K ty ds m1 (.da (KK.kd k)) m2) (hj : m2[j]? = some (l, KK.cell f kvs)) (h : dget kvs k = some a) : Ev K (tDGet td ty) ds m (.da (f a)) m2 := fun B H σ s st Q q =>
  hd B H σ s st _ fun x B1 H1 t1 s1 d1 => hy B1 H1 σ s1 (st_mono t1.ex st) _ fun y B2 H2 t2 s2 d2 => by
    have g := KK.get s2 hj d2
    rw [h] at g
    obtain ⟨v, g1, g2⟩ := g
    exact ⟨l, v, d1, g1, q v B2 H2 (t1.trans t2) s2 g2⟩
theorem dc_some {H2 : Hp} {y : V} (s2 : SOk K B m H2) {j : Nat} (hj : m[j]? = some (l, KK.cell f kvs)) (d2 : SdOk K B (.da (KK.kd k)) y) : ∃ o : Option V, DGet H2 l y o ∧ o.isSome = (dget kvs k).isSome ∧ ∀ a, dget kvs k = some a → ∃ v, o = some v ∧ Dq B v (f a) := by
  have g := KK.get s2 hj d2
  cases e : dget kvs k with
  | none =>
    rw [e] at g
    exact ⟨none, g, rfl, fun a z => nomatch z⟩
  | some a =>
    rw [e] at g
    obtain ⟨v, g1, g2⟩ := g
    exact ⟨some v, g1, rfl, fun a' z => ⟨v, rfl, by rw [← Option.some.inj z]; exact g2⟩⟩
theorem ev_din (j : Nat) (hy : Ev K ty ds m (.da (KK.kd k)) m1) (hd : Ev K td ds m1 (.rf l) m2) (hj : m2[j]? = some (l, KK.cell f kvs)) : Ev K (tDIn ty td) ds m (.da (dB (dget kvs k).isSome)) m2 := fun B H σ s st Q q =>
  hy B H σ s st _ fun y B1 H1 t1 s1 d1 => hd B1 H1 σ s1 (st_mono t1.ex st) _ fun x B2 H2 t2 s2 d2 => by
    obtain ⟨o, g1, g2, _⟩ := dc_some s2 hj (sd_mono t2.ex d1)
    refine ⟨l, o, d2, g1, ?_⟩
    rw [g2]
    exact q _ B2 H2 (t1.trans t2) s2 (.bl _)
theorem ev_dnin (j : Nat) (hy : Ev K ty ds m (.da (KK.kd k)) m1) (hd : Ev K td ds m1 (.rf l) m2) (hj : m2[j]? = some (l, KK.cell f kvs)) : Ev K (tDNotIn ty td) ds m (.da (dB (!(dget kvs k).isSome))) m2 := fun B H σ s st Q q =>
  hy B H σ s st _ fun y B1 H1 t1 s1 d1 => hd B1 H1 σ s1 (st_mono t1.ex st) _ fun x B2 H2 t2 s2 d2 => by
    obtain ⟨o, g1, g2, _⟩ := dc_some s2 hj (sd_mono t2.ex d1)
    refine ⟨l, o, d2, g1, ?_⟩
    rw [g2]
    exact q _ B2 H2 (t1.trans t2) s2 (.bl _)
theorem ev_dget2 (j : Nat) (hd : Ev K td ds m (.rf l) m1) (hd0 : m1[j]? = some (l, KK.cell f kvs)) (hy : Ev K ty ds m1 (.da (KK.kd k)) m2) (hx : Ev K tx ds m2 (.da (f a)) m3) (hj : m3[j]? = some (l, KK.cell f kvs)) : Ev K (tDGet2 td ty tx) ds m (.da (f ((dget kvs k).getD a))) m3 := fun B H σ s st Q q =>
  hd B H σ s st _ fun x B1 H1 t1 s1 d1 => ⟨l, d1, KK.isD s1 hd0, hy B1 H1 σ s1 (st_mono t1.ex st) _ fun y B2 H2 t2 s2 d2 => hx B2 H2 σ s2 (st_mono (t1.ex.trans t2.ex) st) _ fun z B3 H3 t3 s3 d3 => by
    obtain ⟨o, g1, g2, g3⟩ := dc_some s3 hj (sd_mono t3.ex d2)
    refine ⟨o, g1, q _ B3 H3 ((t1.trans t2).trans t3) s3 ?_⟩
    cases e : dget kvs k with
    | none =>
      rw [e] at g2
      cases o with
      | none => exact d3
      | some v => cases g2
    | some b =>
      obtain ⟨v, rfl, g4⟩ := g3 b e
      exact g4⟩
end
section
variable {F : Fx} {D : Ends} {ds : List SD} {m m1 m2 m3 m' : M} {κ α : Type} [DecidableEq κ] [KK κ] {f : α → PyData} {td ty tx tv : TE} {kvs : List (κ × α)} {k : κ} {a : α} {l : Addr} {tz : TS}
theorem wp_dput (j : Nat) (hv : Ev F.K tv ds m (.da (f a)) m1) (hd : Ev F.K td ds m1 (.rf l) m2) (hy : Ev F.K ty ds m2 (.da (KK.kd k)) m3) (hj : m3[j]? = some (l, KK.cell f kvs)) (hz : lenG kvs.length = some ())
    (w : Wp F tz D ds (m3.set j (l, KK.cell f (dput kvs k a)))) : Wp F (tSeq (sDPut td ty tv) tz) D ds m := fun σ H ⟨B, st, s, t, lo⟩ =>
  hv B H σ s st _ fun v B1 H1 t1 s1 d1 => hd B1 H1 σ s1 (st_mono t1.ex st) _ fun x B2 H2 t2 s2 d2 => hy B2 H2 σ s2 (st_mono (t1.ex.trans t2.ex) st) _ fun y B3 H3 t3 s3 d3 => by
    obtain ⟨o, h1, h2⟩ := KK.put (a := a) s3 hj d3 (dp_mono (t2.ex.trans t3.ex) (show Dq B1 v (f a) from d1)) (lenG_some hz)
    exact ⟨l, _, d2, h1, w σ _ ⟨B3, st_mono (t1.ex.trans (t2.ex.trans t3.ex)) st, s3.put hj h2, (((t.trans t1).trans t2).trans t3).trans (Tr.put s3 hj h2), lo.trans (t1.ex.trans (t2.ex.trans t3.ex))⟩⟩
end
end FC
set_option maxHeartbeats 400000
/-! FV: what the printed walks use besides: pure tests, a def's body, a loop's ways out. -/
namespace FC
open PySem PySem.Spec PyProof.Rows L2 Evl

section
variable {K : PySem.W.Frag} {B H : Hp} {ds : List SD} {m m1 m2 m' : M} {ta tb te : TE} {t u : TT} {r : SD} {α β : Type} {f : α → PyData}
theorem et_andP {a b : Bool} (ha : EvT K t ds m a m1) (hb : EvT K u ds m1 b m1) : EvT K (tAnd t u) ds m (a && b) m1 := et_and ha (fun e => by rw [e]; exact hb) (fun e => by rw [e]; exact ⟨rfl, rfl⟩)
theorem et_orP {a b : Bool} (ha : EvT K t ds m a m1) (hb : EvT K u ds m1 b m1) : EvT K (tOr t u) ds m (a || b) m1 := et_or ha (fun e => by rw [e]; exact hb) (fun e => by rw [e]; exact ⟨rfl, rfl⟩)
theorem ev_andP {a b : Bool} (ha : Ev K ta ds m (.da (dB a)) m1) (hb : Ev K tb ds m1 (.da (dB b)) m1) : Ev K (tAndV ta tb) ds m (.da (dB (a && b))) m1 := ev_andV ha (fun e => by rw [e]; exact hb) (fun e => by rw [e]; exact ⟨rfl, rfl⟩)
theorem ev_orP {a b : Bool} (ha : Ev K ta ds m (.da (dB a)) m1) (hb : Ev K tb ds m1 (.da (dB b)) m1) : Ev K (tOrV ta tb) ds m (.da (dB (a || b))) m1 := ev_orV ha (fun e => by rw [e]; exact hb) (fun e => by rw [e]; exact ⟨rfl, rfl⟩)
theorem ev_ifP {c : Bool} {x y : α} (h : EvT K t ds m c m1) (h1 : Ev K ta ds m1 (.da (f x)) m1) (h2 : Ev K tb ds m1 (.da (f y)) m1) : Ev K (tIf t ta tb) ds m (.da (f (cond c x y))) m1 := ev_if h (fun e => by rw [e]; exact h1) (fun e => by rw [e]; exact h2)
theorem ev_some {o : Option α} {a : α} (h : Ev K te ds m (.da (dO f o)) m') (e : o = some a) : Ev K te ds m (.da (f a)) m' := by
  rw [e] at h
  exact h
theorem ev_eq {x y : α} (h : Ev K te ds m (.da (f x)) m') (e : x = y) : Ev K te ds m (.da (f y)) m' := by
  rw [← e]
  exact h
def two (xs : List α) : Option (α × α) := match xs with
  | [a, b] => some (a, b)
  | _ => none
theorem two_some {xs : List α} {a b : α} (h : two xs = some (a, b)) : xs = [a, b] := by
  unfold two at h
  split at h
  · cases h
    rfl
  · cases h
theorem condT {c : Bool} {a b v : Option α} (e : c = true) (h : cond c a b = v) : a = v := by
  rw [e] at h
  exact h
theorem condF {c : Bool} {a b v : Option α} (e : c = false) (h : cond c a b = v) : b = v := by
  rw [e] at h
  exact h
def ctlK {S R β : Type} (c : Ctl S R) (k : S → Option β) (r : R → Option β) : Option β := match c with
  | .nx s => k s
  | .bk s => k s
  | .rt x => r x
theorem ctlK_go {S R β : Type} {c : Ctl S R} {k : S → Option β} {r : R → Option β} {s : S} {v : Option β} (e : c = .nx s ∨ c = .bk s) (h : ctlK c k r = v) : k s = v := by
  rcases e with e | e <;> (rw [e] at h; exact h)
theorem ctlK_rt {S R β : Type} {c : Ctl S R} {k : S → Option β} {r : R → Option β} {x : R} {v : Option β} (e : c = .rt x) (h : ctlK c k r = v) : r x = v := by
  rw [e] at h
  exact h
theorem mapO_pure {g : α → β} : ∀ xs : List α, mapO (fun x => some (g x)) xs = some (xs.map g)
  | [] => rfl
  | x :: xs => by
    show Option.bind (some (g x)) _ = _
    rw [Option.bind_some, mapO_pure xs]
    rfl
theorem filO_pure {p : α → Bool} {g : α → β} : ∀ xs : List α, filO (fun x => some (p x)) (fun x => some (g x)) xs = some ((xs.filter p).map g)
  | [] => rfl
  | x :: xs => by
    show Option.bind (some (p x)) _ = _
    rw [Option.bind_some, filO_pure xs]
    cases h : p x with
    | true =>
      rw [List.filter_cons_of_pos h]
      rfl
    | false =>
      rw [List.filter_cons_of_neg (by rw [h]; decide)]
      rfl
def enumI (xs : List α) : List (Int × α) := (xs.zipIdx).map fun p => ((p.2 : Int), p.1)
theorem src_En {xs : List α} {j k : Nat} {t : TA} (h : EvA K t ds m [.da (dL f xs)] m1) : Src K (iEnum K t) (gTup K 2 (gCons (gName j) (gCons (gName k) gNil))) ds m m1 (fun _ => True) (enumI xs) (fun p ds => (ds.set j (.da (dI p.1))).set k (.da (f p.2))) ([j] ++ [k]) := src_E h
/-- a cell compared with data -/
theorem rr_eqC [DecidableEq α] [e : Enc f] {xs ys : List α} {l : Addr} (hd : Enc.dep (dL f) ≤ 60) (j : Nat) (hj : m[j]? = some (l, .ls (xs.map f))) : Rr K (rEqP K) (.rf l) (.da (dL f ys)) m (.da (dB (decide (xs = ys)))) m := Rr.of fun B H u v s dx dy Q q => by
  obtain ⟨vs, h1, h2⟩ := s.ls hj
  have e1 : u = .ref l := dx
  subst e1
  exact ⟨dL f xs, dL f ys, (Dq.lst h1 (dpa_mono s.ext h2) : Dq H (.ref l) (.list (xs.map f))).dp, da_dp s dy, Enc.plain xs, Enc.plain ys, Nat.le_trans (Enc.dep_le xs) hd, by rw [Enc.eqv]; exact q _ (.bl _)⟩
theorem rr_neC [DecidableEq α] [e : Enc f] {xs ys : List α} {l : Addr} (hd : Enc.dep (dL f) ≤ 60) (j : Nat) (hj : m[j]? = some (l, .ls (xs.map f))) : Rr K (rNeP K) (.rf l) (.da (dL f ys)) m (.da (dB (!decide (xs = ys)))) m := Rr.of fun B H u v s dx dy Q q => by
  obtain ⟨vs, h1, h2⟩ := s.ls hj
  have e1 : u = .ref l := dx
  subst e1
  exact ⟨dL f xs, dL f ys, (Dq.lst h1 (dpa_mono s.ext h2) : Dq H (.ref l) (.list (xs.map f))).dp, da_dp s dy, Enc.plain xs, Enc.plain ys, Nat.le_trans (Enc.dep_le xs) hd, by rw [Enc.eqv]; exact q _ (.bl _)⟩
theorem rr_pow {i j k : Int} (h : CPow i j) (e : i ^ j.toNat = k) : Rr K (rI CPow fun i j => .int (i ^ j.toNat)) (.da (dI i)) (.da (dI j)) m (.da (dI k)) m := rr_c (f := fun i j => i ^ j.toNat) h e
end

section
variable {F : Fx} {D : Ends} {ds : List SD} {m m1 m2 : M} {te : TE} {tz : TS} {r : SD} {R : SD → M → Prop}
theorem wp_retS (h : Ev F.K te ds m r m1) (hf : Fin F D R) (hr : R r m2) (hs : m2.Sublist m1) : Wp F (tSeq (tRet te) tz) D ds m := fun σ H ⟨B, st, s, t, lo⟩ =>
  h B H σ s st _ fun v B2 H2 t2 s2 d => hf v B2 H2 r m2 hr ((t.trans t2).sub fun a z => (hs.map _).subset z) (s2.sub hs) d
/-- a new cell is handed back -/
theorem wp_retN' {c : CD} (h : EvN F.K te ds m c m1) (hf : Fin F D R) (hr : ∀ p, R (.rf p) (m1 ++ [(p, c)])) : Wp F (tSeq (tRet te) tz) D ds m := fun σ H ⟨B, st, s, t, lo⟩ =>
  h B H σ s st _ fun p B2 H2 t2 s2 => hf (.ref p) B2 H2 (.rf p) _ (hr p) (t.trans t2) s2 rfl
end

/-! ### rules with the written part named -/
section
variable {X : Cx} {K : PySem.W.Frag}
theorem kOp {f : Value → Value → Sem Value} {r : PySem.W.Frag → R2} (h : OpR X f (r X.K)) (e : X.K = K) : OpR X f (r K) := by
  rw [← e]
  exact h
theorem kIx {r : PySem.W.Frag → R2} (h : IxR X (r X.K)) (e : X.K = K) : IxR X (r K) := by
  rw [← e]
  exact h
theorem kSl {r : PySem.W.Frag → V → Option Int → Option Int → Hp → VK → Prop} (h : SlR X (r X.K)) (e : X.K = K) : SlR X (r K) := by
  rw [← e]
  exact h
theorem kCa {f : Value} {r : PySem.W.Frag → List V → Hp → VK → Prop} (h : CallR X f (r X.K)) (e : X.K = K) : CallR X f (r K) := by
  rw [← e]
  exact h
theorem kPi {tg it : Expr} {r : PySem.W.Frag → TI} (h : PI X tg it (r X.K)) (e : X.K = K) : PI X tg it (r K) := by
  rw [← e]
  exact h
theorem kPe {e : Expr} {r : PySem.W.Frag → TE} (h : PE X e (r X.K)) (e' : X.K = K) : PE X e (r K) := by
  rw [← e']
  exact h
abbrev rLenA (K : PySem.W.Frag) : List V → Hp → VK → Prop := fun xs H Q => ∃ p ys, xs = [.ref p] ∧ (SqL K H p ys ∨ SqT K H p ys) ∧ Q (.int ys.length) H
end
/-! ### a def -/
def startD (N : List Str) (as : List SD) : List SD := as ++ List.replicate (N.length - as.length) .un
theorem st_start {K : PySem.W.Frag} {B : Hp} {N : List Str} : ∀ {as : List SD} {vs : List V}, SdAll K B as vs → StOk K B (startD N as) (L2.start N vs) := fun {as vs} h => by
  have hl := sda_len h
  unfold startD L2.start
  rw [hl]
  have app : ∀ {as : List SD} {vs : List V} (n : Nat), SdAll K B as vs → StOk K B (as ++ List.replicate n .un) (vs.map some ++ List.replicate n none) := by
    intro as
    induction as with
    | nil =>
      intro vs n h
      cases vs with
      | nil =>
        induction n with
        | zero => exact True.intro
        | succ n ih => exact ⟨True.intro, ih⟩
      | cons _ _ => exact h.elim
    | cons a as ih =>
      intro vs n h
      cases vs with
      | nil => exact h.elim
      | cons v vs => exact ⟨sl_of h.1, ih n h.2⟩
  exact app _ h
theorem hu65 {k : Nat} {A : Around} (h : Room k A) : A.units + 65 < cLine := by
  have := h.un
  omega
section
variable {P : Program} {w : World} {K : PySem.W.Frag} {mg : Str → Option Value} {base : Heap}
theorem ok_of {x qual : Str} {st : Stmt} {f : Addr} {fd : FuncData} {N ps : List Str} {k : Nat} {G : Pf} (F : Fun K x qual st f fd) (S : FnScope N ps (defScope st)) (len : ∀ as m R, G as m R → as.length = ps.length)
    (hbody : ∀ (cdv : Value) (A : Around) (outer : List Env) (s : Shared) (H : Hp) (E : XK), Room k (A.deeper (envOfC qual (defScope st) s.heap.objs.size f cdv)) →
      ∃ t, PSs (cxOf CX0 P w K mg base N qual (defScope st) f cdv A outer s H E).nox (defBody st) t ∧ ∀ as m R, G as m R → ∀ (F' : Fx) (D : Ends), F'.K = K → F'.k0 = keys m → Fin F' D R → (∀ σ B H m2, R (.da .none) m2 → Tr F'.B0 F'.H0 F'.k0 B H (keys m2) → SOk F'.K B m2 H → D.nx σ H) → Wp F' t D (startD N as) m) : FnOk P w K mg base CX0 (k + 1) f fd ps (spOf K G) := by
  refine F.ok S (fun vs H Q E h => ?_) (fun cdv A outer s H vs Q E hr h => ?_)
  · obtain ⟨B, as, m, R, hG, _, hv, _⟩ := h
    rw [sda_len hv]
    exact len as m R hG
  · obtain ⟨B, as, m, R, hG, hs, hv, q⟩ := h
    obtain ⟨t, h1, h2⟩ := hbody cdv A outer s H E hr
    let F' : Fx := ⟨K, B, H, keys m, fun a ha => by
      obtain ⟨c, hc, e⟩ := List.mem_map.mp ha
      rw [← e]
      exact hs.ne hc, B⟩
    refine ⟨t, h1, h2 as m R hG F' _ rfl rfl (fun v B2 H2 r m2 hr t2 s2 d => q v B2 H2 r m2 hr t2 s2 d) (fun σ B2 H2 m2 hr t2 s2 => q .non B2 H2 _ m2 hr t2 s2 .non) _ H ⟨B, st_start hv, hs, Tr.refl _ _ _, Ex.refl _⟩⟩
end
section
variable {F : Fx} {D : Ends} {ds : List SD} {m m1 : M} {S R : Type} {tu tw tz : TS} {tt : TT}
/-- an if whose branches may hand back from within -/
theorem wp_cutIfC {b : Bool} {c : Ctl S R} (dF : S → List SD) (mF : S → M) (k : ∀ s, (c = .nx s ∨ c = .bk s) → Wp F tz D (dF s) (mF s)) (h : EvT F.K tt ds m b m1)
    (h1 : b = true → Wp F tu { D with nx := fun σ H => ∃ s, c = .nx s ∧ At F (dF s) (mF s) σ H } ds m1) (h2 : b = false → Wp F tw { D with nx := fun σ H => ∃ s, c = .nx s ∧ At F (dF s) (mF s) σ H } ds m1) : Wp F (tCut (tIfS tt tu tw) tz) D ds m := fun σ H ⟨B, st, s, t, lo⟩ =>
  ⟨fun σ H => ∃ s, c = .nx s ∧ At F (dF s) (mF s) σ H, h B H σ s st _ fun B2 H2 t2 s2 => by
    cases b with
    | true => exact iteT (h1 rfl σ H2 ⟨B2, st_mono t2.ex st, s2, t.trans t2, lo.trans t2.ex⟩)
    | false => exact iteF (h2 rfl σ H2 ⟨B2, st_mono t2.ex st, s2, t.trans t2, lo.trans t2.ex⟩), fun σ H ⟨s, e, a⟩ => k s (.inl e) σ H a⟩
theorem wp_nextE {s : S} {dF : S → List SD} {mF : S → M} (w : Wks ds (dF s)) (e : m = mF s) : Wp F tNext { D with nx := fun σ H => ∃ s', (Ctl.nx s : Ctl S R) = .nx s' ∧ At F (dF s') (mF s') σ H } ds m := fun σ H a => by
  subst e
  exact ⟨s, rfl, at_weak w a⟩
end
end FC
set_option maxHeartbeats 400000
/-! FX: sorted(d.items()) of a dict with tuples of numbers as keys. -/
namespace FC
open PySem PySem.Spec PyProof.Rows L2 Evl L2.DX
inductive Fl : V → PyData → Prop
  | int (i : Int) : Fl (.int i) (.int i)
  | str (x : Str) : Fl (.str x) (.str x)
  | bl (b : Bool) : Fl (.bl b) (.bool b)
theorem Fl.reads {v : V} {d : PyData} {u : Value} (h : Heap) (f : Fl v d) (r : RelV v u) : Reads h u d [] := by
  cases f with
  | int i => obtain ⟨t, rfl⟩ := r; exact .int i t
  | str x => obtain ⟨t, rfl⟩ := r; exact .str x t
  | bl b => obtain rfl := r; exact .bool b
def kD : L2.Key → PyData
  | .inl i => .int i
  | .inr x => .str x
theorem fl_k (k : L2.Key) : Fl (kV k) (kD k) := by cases k <;> constructor
theorem fl_readsAll (h : Heap) : ∀ {ks : List L2.Key} {its : List Value}, Vals (ks.map kV) its → ReadsAll h its (ks.map kD) []
  | [], _, .nil => .nil
  | k :: ks, _, .cons r rs => ReadsAll.cons (as := []) ((fl_k k).reads h r) (fl_readsAll h rs)
theorem each_of_ix {α β : Type} {R : α → β → Prop} : ∀ {xs : List α} {ys : List β}, xs.length = ys.length → (∀ (i : Nat) (x : α) (y : β), xs[i]? = some x → ys[i]? = some y → R x y) → PySem.W.EachIs R xs ys
  | [], [], _, _ => .nil
  | [], _ :: _, h, _ => by cases h
  | _ :: _, [], h, _ => by cases h
  | x :: xs, y :: ys, h, k => .cons (k 0 x y rfl rfl) (each_of_ix (Nat.succ.inj h) fun i a b ha hb => k (i + 1) a b ha hb)
theorem each_get {α β : Type} {R : α → β → Prop} : ∀ {xs : List α} {ys : List β}, PySem.W.EachIs R xs ys → ∀ {i : Nat} {x : α}, xs[i]? = some x → ∃ y, ys[i]? = some y ∧ R x y
  | _, _, .nil, _, _, h => by simp at h
  | _, _, .cons r _, 0, x, h => by
    cases Option.some.inj h
    exact ⟨_, rfl, r⟩
  | _, _, .cons _ t, i + 1, x, h => each_get t (i := i) h
theorem each_refs {S : Addr → PyData → Prop} : ∀ {ds : List PyData} {out : List Value}, PySem.W.EachIs (fun u d => ∃ b, u = Value.ref b ∧ S b d) out ds → ∃ bs : List Addr, out = bs.map Value.ref ∧ PySem.W.EachIs S bs ds
  | _, _, .nil => ⟨[], rfl, .nil⟩
  | _, _, .cons ⟨b, e, h⟩ t => by
    obtain ⟨bs, e2, h2⟩ := each_refs t
    exact ⟨b :: bs, by rw [e, e2]; rfl, .cons h h2⟩
theorem vals_refs : ∀ as : List Addr, Vals (as.map V.ref) (as.map Value.ref)
  | [] => .nil
  | _ :: as => .cons rfl (vals_refs as)
def rSortItD : List V → Hp → VK → Prop := fun vs H Q => ∃ (p a : Addr) (kvs : List (List L2.Key × V)) (ds : List PyData), vs = [.ref p] ∧ H p = some (itemsO p a) ∧ H a = some (.dT kvs) ∧
  PySem.W.EachIs (fun (kv : List L2.Key × V) d => ∃ dv, d = .tuple [.tuple (kv.1.map kD), dv] ∧ Fl kv.2 dv) kvs ds ∧ PySem.W.AllAlike ds ∧ (∀ d ∈ ds, d.depth ≤ 60) ∧
  ∀ (H' : Hp) (l : Addr) (ys : List V), Ex H H' → H l = none → H' l = some (.lst ys) → PySem.W.EachIs (fun y d => ∃ (b kq : Addr) (kv : List L2.Key × V) (dv : PyData), y = .ref b ∧ H b = none ∧ H' b = some (.tup [.ref kq, kv.2]) ∧ H kq = some (.tup (kv.1.map kV)) ∧ d = .tuple [.tuple (kv.1.map kD), dv] ∧ Fl kv.2 dv) ys (ds.mergeSort (PySem.W.dataLe false id)) → Q (.ref l) H'
section
variable {X : Cx}
theorem cr_sortItD (hc : X.calm = true) (hu : X.A.units + 64 < cLine) : CallR X (.builtin "sorted") rSortItD := by
  intro pins s σ H xs us Q I r h
  obtain ⟨p, a, kvs, ds, rfl, hp, ha, hds, hal, hdp, q⟩ := h
  obtain rfl := Vals.ref1 r
  have view : s.heap.IsItemsView p a := (show ObjOk X.prog X.w H s.heap p (itemsO p a) from I.hok p _ hp).1
  obtain ⟨z, hd, xs', rel, o, es, ep, ho, hx, hdat, hes, his, hn⟩ := dt_of I.hok ha
  have l1 : kvs.length = xs'.length := Paired.length rel
  have l2 : es.size = xs'.length := size_of_entries hes
  have l3 : kvs.length = ds.length := hds.length
  have hh : X.A.handled = none := I.ok.hd hc
  refine DT.sortedI (es := es) (ep := ep) hh view ⟨o, ho, hx, hdat⟩ (by omega) fun h' tk as hk hlt hl hG => ?_
  have nd : as.Nodup := List.Pairwise.imp (fun h => Nat.ne_of_lt h) hG.rise
  have pr : ∀ (j : Nat) (b : Addr), as[j]? = some b → ∃ (kv : List L2.Key × V) (kq : Addr) (vv : Value), kvs[j]? = some kv ∧ H kq = some (.tup (kv.1.map kV)) ∧ RelV kv.2 vv ∧ h'.get? b = some { cls := .type "tuple", data := .seq #[Value.ref kq, vv] } := by
    intro j b hj
    obtain ⟨en, he, hg⟩ := hG.pairs j b hj
    rw [entry_at hes j] at he
    cases hxj : xs'[j]? with
    | none =>
      rw [hxj] at he
      exact nomatch (show (none : Option DictEntry) = some en from he)
    | some x =>
      rw [hxj] at he
      have een : entryOfKey (tupleKind (mixKind X.prog X.w)) x = en := Option.some.inj he
      obtain ⟨e0, he0, r1, r2, r3⟩ := pget rel hxj
      refine ⟨e0, x.2.1, x.2.2, he0, r2, r3, ?_⟩
      rw [hg, ← een]
      all_goals rfl
  have hob : (h'.push { cls := .type "list", data := .seq (as.map Value.ref).toArray }).get? h'.objs.size = some (seqObj "list" (as.map Value.ref).toArray 0) := Heap.get?_push_size _ rfl
  have kb : ∀ b o, s.heap.get? b = some o → (h'.push { cls := .type "list", data := .seq (as.map Value.ref).toArray }).get? b = some o := fun b o e => Heap.get?_push_of_some _ (hk b o e)
  have ne0 : ∀ b o, h'.get? b = some o → b ≠ h'.objs.size := fun b o e => Nat.ne_of_lt (Heap.lt_size e)
  generalize hh2 : h'.push { cls := .type "list", data := .seq (as.map Value.ref).toArray } = h2 at hob kb ⊢
  have ka : ∀ b o, h'.get? b = some o → h2.get? b = some o := fun b o e => by rw [← hh2]; exact Heap.get?_push_of_some _ e
  have e1 : PySem.W.EachIs (fun u d => ∃ b, u = Value.ref b ∧ ∃ (j : Nat) (kv : List L2.Key × V) (dv : PyData), as[j]? = some b ∧ kvs[j]? = some kv ∧ d = .tuple [.tuple (kv.1.map kD), dv] ∧ Fl kv.2 dv) (as.map Value.ref) ds := by
    refine each_of_ix (by rw [List.length_map]; omega) fun i x y hx hy => ?_
    rw [List.getElem?_map] at hx
    cases hai : as[i]? with
    | none => rw [hai] at hx; exact nomatch hx
    | some b =>
      rw [hai] at hx
      obtain ⟨kv, kq, vv, h1, _, _, _⟩ := pr i b hai
      obtain ⟨d', h2, dv, h3, h4⟩ := each_get hds h1
      rw [hy] at h2
      cases Option.some.inj h2
      exact ⟨b, (Option.some.inj hx).symm, i, kv, dv, hai, h1, h3, h4⟩
  have e2 : PySem.W.EachIs (fun v d => ∃ asx, Reads h2 v (id d) asx ∧ h'.objs.size ∉ asx) (as.map Value.ref) ds := e1.mono fun u d ⟨b, eu, j, kv, dv, j1, j2, j3, j4⟩ => by
    obtain ⟨kv', kq, vv, i1, i2, i3, i4⟩ := pr j b j1
    cases Option.some.inj (j2.symm.trans i1)
    obtain ⟨_, its, rv, ot, hot, hct, nt, hdt⟩ := (show ObjOk X.prog X.w H s.heap kq (.tup (kv.1.map kV)) from I.hok kq _ i2)
    subst eu
    subst j3
    refine ⟨[], ?_, fun z => by cases z⟩
    refine Reads.tuple (ka _ _ i4) rfl rfl ?_
    refine ReadsAll.cons (as := []) (bs := []) (Reads.tuple (kb _ _ hot) hct hdt ?_) (ReadsAll.cons (as := []) (bs := []) (j4.reads h2 i3) .nil)
    exact fl_readsAll h2 rv
  refine PySem.W.list_sort_data (s := { s with heap := h2, toks := tk }) (enc := id) hob e1 e2 (by rw [List.map_id]; exact hal) (.inl fun d hd => ?_) (by omega) (fun d hd => by
    have := hdp d hd
    show X.A.units + 1 + 1 + d.depth < cLine
    omega) fun out hol hout => ?_
  · rw [List.map_id] at hd
    obtain ⟨i, hi⟩ := List.mem_iff_getElem?.mp hd
    have hlt : i < kvs.length := by rw [l3]; exact (List.getElem?_eq_some_iff.mp hi).1
    obtain ⟨d', h2, dv, h3, h4⟩ := each_get hds (List.getElem?_eq_getElem hlt)
    rw [hi] at h2
    cases Option.some.inj h2
    exact ⟨_, _, h3⟩
  · show EP X pins σ Q (.ref h'.objs.size) { s with heap := sortedHeap h2 h'.objs.size (as.map Value.ref) out.toArray, toks := tk }
    obtain ⟨bs, rfl, hbs⟩ := each_refs hout
    have kF : ∀ b o, b ≠ h'.objs.size → h2.get? b = some o → (sortedHeap h2 h'.objs.size (as.map Value.ref) (bs.map Value.ref).toArray).get? b = some o := fun b o hb e => (PyProof.Rows.sortedHeap_old hb (Heap.lt_size e)).trans e
    have kS : ∀ b o, s.heap.get? b = some o → (sortedHeap h2 h'.objs.size (as.map Value.ref) (bs.map Value.ref).toArray).get? b = some o := fun b o e => kF b o (ne0 _ _ (hk b o e)) (kb b o e)
    obtain ⟨eF, heF⟩ := PyProof.Rows.sortedHeap_at (vs := as.map Value.ref) (out := (bs.map Value.ref).toArray) hob
    have I1 : Inv X pins σ H { s with heap := sortedHeap h2 h'.objs.size (as.map Value.ref) (bs.map Value.ref).toArray, toks := tk } := I.kept (t' := tk) kS
    have hn0 : H h'.objs.size = none := I.hok.fresh (Nat.le_of_lt hlt)
    have hlen : (bs.map V.ref).length ≤ sizeLine := by
      rw [List.length_map] at hol ⊢
      omega
    have I2 : Inv X pins σ (upd H h'.objs.size (.lst (bs.map V.ref))) { s with heap := sortedHeap h2 h'.objs.size (as.map Value.ref) (bs.map Value.ref).toArray, toks := tk } :=
      I1.take (h' := sortedHeap h2 h'.objs.size (as.map Value.ref) (bs.map Value.ref).toArray) (t' := tk) (fun b ob _ e => e) (I.fpOk (Nat.le_of_lt hlt) hn0) ⟨hlen, bs.map Value.ref, eF, vals_refs bs, heF⟩
    obtain ⟨H2, I3, g, qt⟩ := takeT (P := fun b vs => ∃ (j : Nat) (kv : List L2.Key × V) (kq : Addr), as[j]? = some b ∧ kvs[j]? = some kv ∧ vs = [.ref kq, kv.2] ∧ H kq = some (.tup (kv.1.map kV))) I as _ I2 nd fun b hb => by
      obtain ⟨j, hj⟩ := List.mem_iff_getElem?.mp hb
      obtain ⟨kv, kq, vv, he, hkq, hrv, hg⟩ := pr j b hj
      have hbl : s.heap.objs.size ≤ b := Nat.le_of_lt (hG.above b hb)
      refine ⟨hbl, ?_, [.ref kq, kv.2], ⟨j, kv, kq, hj, he, rfl, hkq⟩, fun H3 => ⟨(by rw [sizeLine_eq]; show 2 ≤ 16777216; omega), [Value.ref kq, vv], .cons rfl (.cons hrv .nil), ⟨_, kF _ _ (ne0 _ _ hg) (ka _ _ hg), rfl, 0, rfl⟩⟩⟩
      rw [upd_ne (ne0 _ _ hg)]
      exact I.hok.fresh hbl
    have gr : Ex H H2 := fun b o e => g b o (by rw [upd_ne (ne_of_none e hn0)]; exact e)
    refine ⟨.ref h'.objs.size, H2, I3, rfl, q H2 h'.objs.size (bs.map V.ref) gr hn0 (g _ _ upd_same) ?_⟩
    refine each_of_ix (by rw [List.length_map]; exact hbs.length) fun i y d hy hd => ?_
    rw [List.getElem?_map] at hy
    cases hbi : bs[i]? with
    | none => rw [hbi] at hy; exact nomatch hy
    | some b =>
      rw [hbi] at hy
      obtain ⟨d', k1, j, kv, dv, j1, j2, j3, j4⟩ := each_get hbs hbi
      rw [hd] at k1
      cases Option.some.inj k1
      obtain ⟨vs, ⟨j', kv', kq, i1, i2, i3, i4⟩, hH⟩ := qt b (List.mem_of_getElem? j1)
      have eij : j' = j := (List.getElem?_inj (List.getElem?_eq_some_iff.mp i1).1 nd).mp (i1.trans j1.symm)
      subst eij
      cases Option.some.inj (i2.symm.trans j2)
      rw [i3] at hH
      exact ⟨b, kq, kv, dv, (Option.some.inj hy).symm, I.hok.fresh (Nat.le_of_lt (hG.above b (List.mem_of_getElem? j1))), hH, i4, j3, j4⟩
end

class FlE {α : Type} (f : α → PyData) : Prop where
  fl : ∀ {B : Hp} {v : V} {a : α}, Dq B v (f a) → Fl v (f a)
instance : FlE dI := ⟨fun {B v a} h => by have h' : Dq B v (.int a) := h; cases h'; exact .int a⟩
theorem Fl.dq {B : Hp} {v : V} {d : PyData} (h : Fl v d) : Dq B v d := by cases h <;> constructor
theorem kD_U (k : List Int) : .tuple ((kU k).map kD) = dU dI k := by
  show PyData.tuple _ = .tuple _
  unfold kU
  rw [List.map_map]
  rfl
theorem dqa_keys {B : Hp} : ∀ ks : List Key, DqAll B (ks.map kV) (ks.map kD)
  | [] => .nil
  | k :: ks => .cons (fl_k k).dq (dqa_keys ks)
section
variable {K : PySem.W.Frag} {ds : List SD} {m m1 : M} {α : Type} [DecidableEq α] {td : TE} {l : Addr}
theorem kv_each {B : Hp} (f : α → PyData) [FlE f] : ∀ {kvs : List (List Int × α)} {ws : List (List Key × V)}, KvOk B (eK kU f kvs) ws →
    PySem.W.EachIs (fun (kv : List Key × V) d => ∃ dv, d = .tuple [.tuple (kv.1.map kD), dv] ∧ Fl kv.2 dv) ws (kvs.map (dP (dU dI) f))
  | [], [], _ => .nil
  | [], _ :: _, h => h.elim
  | _ :: _, [], h => h.elim
  | p :: kvs, w :: ws, h => .cons ⟨f p.2, by
      have e : kU p.1 = w.1 := h.1.1
      rw [← e, kD_U]
      rfl, FlE.fl h.1.2⟩ (kv_each f h.2)
theorem ev_sortItems (f : α → PyData) [EncO f] [FlE f] (j : Nat) {kvs : List (List Int × α)} (hd : Ev K td ds m (.rf l) m1) (hj : m1[j]? = some (l, KK.cell f kvs)) (hdep : Enc.dep (dP (dU dI) f) ≤ 60) :
    Ev K (tCB rSortItD (tCons (tBM0 K "dict" rItemsT td) tNil)) ds m (.da (dL (dP (dU dI) f) (srt (EncO.lt (dP (dU dI) f)) kvs))) m1 := fun B H σ s st Q q =>
  hd B H σ s st _ fun x B1 H1 t1 s1 d1 => by
    have e : x = .ref l := d1
    subst e
    obtain ⟨ws, h1, h2⟩ := s1.dt hj
    refine ⟨.inr (.inr (.inl ⟨rfl, .inr ⟨ws, h1⟩⟩)), l, ws, rfl, rfl, h1, fun p hp => ?_⟩
    have t2 := Tr.data (o := itemsO p l) s1 hp
    have s2 := s1.data (o := itemsO p l) hp
    have hpl : p ≠ l := fun z => by rw [z, h1] at hp; cases hp
    refine ⟨p, l, ws, kvs.map (dP (dU dI) f), rfl, upd_same, by rw [upd_ne (Ne.symm hpl)]; exact h1, kv_each f h2, (alike_enc kvs).1, fun d hd' => ?_, fun H' lp ys ex hn hl he => ?_⟩
    · obtain ⟨a, _, rfl⟩ := List.mem_map.mp hd'
      exact Nat.le_trans (Enc.dep_le a) hdep
    · obtain ⟨t3, s3⟩ := Tr.fill s2 ex
      refine q _ _ _ ((t1.trans t2).trans t3) s3 ?_
      rw [srt_map] at he
      refine Dq.lst (by rw [fill_new hn]; exact hl) (each_dqa (he.mono fun y d ⟨b, kq, kv, dv, e1, e2, e3, e4, e5, e6⟩ => ?_))
      rw [e1, e5]
      exact Dq.tup (by rw [fill_new e2]; exact e3) (.cons (Dq.tup (by rw [fill_tup e4]; exact ex _ _ e4) (dqa_keys _)) (.cons e6.dq .nil))
end
end FC
set_option maxHeartbeats 400000
/-! FE: the orders are total; a sorted list is told by its items. Plain Lean. -/
namespace FC
open PySem
class Tot {α : Type} (lt : α → α → Bool) : Prop where
  irr : ∀ a, lt a a = false
  tri : ∀ a b, lt a b = false → lt b a = false → a = b
  tr : ∀ a b c, lt a b = true → lt b c = true → lt a c = true
section
variable {α β : Type} {lt : α → α → Bool} {lt2 : β → β → Bool}
theorem Tot.asym (T : Tot lt) {a b : α} (h : lt a b = true) : lt b a = false := by
  cases e : lt b a with
  | false => rfl
  | true =>
    have := T.tr a b a h e
    rw [T.irr] at this
    cases this
/-- not greater is passed on -/
theorem Tot.ntr (T : Tot lt) {a b c : α} (h1 : lt b a = false) (h2 : lt c b = false) : lt c a = false := by
  cases e : lt c a with
  | false => rfl
  | true =>
    cases e1 : lt a b with
    | true =>
      have := T.tr c a b e e1
      rw [h2] at this
      cases this
    | false =>
      have := T.tri a b e1 h1
      subst this
      rw [h2] at e
      cases e
instance : Tot ltI := ⟨fun a => decide_eq_false (Int.lt_irrefl a), fun a b h1 h2 => by
  have := of_decide_eq_false h1
  have := of_decide_eq_false h2
  omega, fun a b c h1 h2 => decide_eq_true (Int.lt_trans (of_decide_eq_true h1) (of_decide_eq_true h2))⟩
theorem str_ext {a b : Str} (h : a.cps.toList = b.cps.toList) : a = b := by
  cases a
  cases b
  congr 1
  exact Array.toList_inj.mp h
instance : Tot ltS := ⟨fun a => decide_eq_false (List.lt_irrefl _), fun a b h1 h2 => by
  have h3 := of_decide_eq_false h1
  have h4 := of_decide_eq_false h2
  exact str_ext (List.le_antisymm (List.not_lt.mp h4) (List.not_lt.mp h3)), fun a b c h1 h2 => decide_eq_true (List.lt_trans (of_decide_eq_true h1) (of_decide_eq_true h2))⟩
instance [DecidableEq α] [T : Tot lt] : Tot (ltL lt) where
  irr xs := by
    induction xs with
    | nil => rfl
    | cons x xs ih =>
      show (if x = x then ltL lt xs xs else lt x x) = false
      rw [if_pos rfl, ih]
  tri xs := by
    induction xs with
    | nil =>
      intro ys h1 _
      cases ys with
      | nil => rfl
      | cons y ys => cases h1
    | cons x xs ih =>
      intro ys h1 h2
      cases ys with
      | nil => cases h2
      | cons y ys =>
        have h1' : (if x = y then ltL lt xs ys else lt x y) = false := h1
        have h2' : (if y = x then ltL lt ys xs else lt y x) = false := h2
        by_cases e : x = y
        · subst e
          rw [if_pos rfl] at h1' h2'
          rw [ih ys h1' h2']
        · rw [if_neg e] at h1'
          rw [if_neg (fun z => e z.symm)] at h2'
          exact absurd (T.tri x y h1' h2') e
  tr xs := by
    induction xs with
    | nil =>
      intro ys zs h1 h2
      cases ys with
      | nil => cases h1
      | cons y ys =>
        cases zs with
        | nil => cases h2
        | cons z zs => rfl
    | cons x xs ih =>
      intro ys zs h1 h2
      cases ys with
      | nil => cases h1
      | cons y ys =>
        cases zs with
        | nil => cases h2
        | cons z zs =>
          have h1' : (if x = y then ltL lt xs ys else lt x y) = true := h1
          have h2' : (if y = z then ltL lt ys zs else lt y z) = true := h2
          show (if x = z then ltL lt xs zs else lt x z) = true
          by_cases e : x = y
          · subst e
            rw [if_pos rfl] at h1'
            by_cases e2 : x = z
            · rw [if_pos e2] at h2'
              rw [if_pos e2]
              exact ih ys zs h1' h2'
            · rw [if_neg e2] at h2'
              rw [if_neg e2]
              exact h2'
          · rw [if_neg e] at h1'
            by_cases e2 : y = z
            · subst e2
              rw [if_neg e]
              exact h1'
            · rw [if_neg e2] at h2'
              have h3 := T.tr x y z h1' h2'
              by_cases e3 : x = z
              · subst e3
                rw [T.irr] at h3
                cases h3
              · rw [if_neg e3]
                exact h3
instance [DecidableEq α] [T : Tot lt] [T2 : Tot lt2] : Tot (ltP lt lt2) where
  irr p := by
    unfold ltP
    rw [if_pos rfl]
    exact T2.irr _
  tri p q h1 h2 := by
    unfold ltP at h1 h2
    by_cases e : p.1 = q.1
    · rw [if_pos e] at h1
      rw [if_pos e.symm] at h2
      exact Prod.ext e (T2.tri _ _ h1 h2)
    · rw [if_neg e] at h1
      rw [if_neg (fun z => e z.symm)] at h2
      exact absurd (T.tri _ _ h1 h2) e
  tr p q r h1 h2 := by
    unfold ltP at h1 h2 ⊢
    by_cases e : p.1 = q.1
    · rw [if_pos e] at h1
      by_cases e2 : q.1 = r.1
      · rw [if_pos e2] at h2
        rw [if_pos (e.trans e2)]
        exact T2.tr _ _ _ h1 h2
      · rw [if_neg e2] at h2
        rw [if_neg (fun z => e2 (e.symm.trans z)), e]
        exact h2
    · rw [if_neg e] at h1
      by_cases e2 : q.1 = r.1
      · rw [if_neg (fun z => e (z.trans e2.symm)), ← e2]
        exact h1
      · rw [if_neg e2] at h2
        have h3 := T.tr _ _ _ h1 h2
        by_cases e3 : p.1 = r.1
        · rw [e3, T.irr] at h3
          cases h3
        · rw [if_neg e3]
          exact h3
theorem srt_pw [T : Tot lt] (xs : List α) : (srt lt xs).Pairwise fun a b => lt b a = false := by
  have := List.pairwise_mergeSort (le := fun a b => !lt b a) (fun a b c h1 h2 => by
    have h1' : lt b a = false := by simpa using h1
    have h2' : lt c b = false := by simpa using h2
    simpa using T.ntr h1' h2') (fun a b => by
    cases e : lt b a with
    | false => rfl
    | true => rw [T.asym e]; rfl) xs
  exact this.imp fun h => by simpa using h
theorem srt_perm (xs : List α) : (srt lt xs).Perm xs := List.mergeSort_perm _ _
theorem srt_uniq [T : Tot lt] {xs ys : List α} (p : ys.Perm xs) (h : ys.Pairwise fun a b => lt b a = false) : srt lt xs = ys :=
  List.Perm.eq_of_pairwise (le := fun a b => lt b a = false) (fun a b _ _ h1 h2 => T.tri a b h2 h1) (srt_pw xs) h ((srt_perm xs).trans p.symm)
theorem srt_eq_perm [T : Tot lt] {xs ys : List α} (p : ys.Perm xs) : srt lt ys = srt lt xs := srt_uniq ((srt_perm xs).trans p.symm) (srt_pw xs)
end
end FC
set_option maxHeartbeats 400000
/-! FW: while with no bound told, list(range(..)), lists of lists that are changed, literal tuples walked. -/
namespace FC
open PySem PySem.Spec PyProof.Rows L2 Evl
section
variable {S : Type}
open Classical in
noncomputable def whiL (cond : S → Option Bool) (step : S → Option S) (s : S) : Option S := if h : ∃ n r, whiF cond step n s = some r then whiF cond step h.choose s else none
theorem whiL_some {cond : S → Option Bool} {step : S → Option S} {s r : S} (h : whiL cond step s = some r) : ∃ n, whiF cond step n s = some r := by
  unfold whiL at h
  split at h
  · exact ⟨_, h⟩
  · cases h
theorem whiF_det {cond : S → Option Bool} {step : S → Option S} : ∀ {n m : Nat} {s r r' : S}, whiF cond step n s = some r → whiF cond step m s = some r' → r = r'
  | 0, _, _, _, _, h, _ => by cases h
  | _ + 1, 0, _, _, _, _, h => by cases h
  | n + 1, m + 1, s, r, r', h, h' => by
    obtain ⟨b, h1, h2⟩ := bindS h
    obtain ⟨b', g1, g2⟩ := bindS h'
    rw [h1] at g1
    cases Option.some.inj g1
    cases b with
    | true =>
      obtain ⟨s1, h3, h4⟩ := bindS h2
      obtain ⟨s2, g3, g4⟩ := bindS g2
      rw [h3] at g3
      cases Option.some.inj g3
      exact whiF_det h4 g4
    | false => exact (Option.some.inj h2).symm.trans (Option.some.inj g2)
theorem whiL_of {cond : S → Option Bool} {step : S → Option S} {n : Nat} {s r : S} (h : whiF cond step n s = some r) : whiL cond step s = some r := by
  unfold whiL
  have hx : ∃ n r, whiF cond step n s = some r := ⟨n, r, h⟩
  rw [dif_pos hx]
  obtain ⟨r', h'⟩ := hx.choose_spec
  rw [h', whiF_det h h']
end
section
variable {F : Fx} {D : Ends} {ds : List SD} {m m1 m2 m3 pre : M} {α β S : Type} {wi : TI} {g : TG} {G : M → Prop} {items : List α} {up : α → List SD → List SD} {js : List Nat} {tb tz ts : TS} {tt : TT} {K : PySem.W.Frag} {B H : Hp} {te ti to tx ta tl : TE} {f : β → PyData}
theorem wp_whiL (dF : S → List SD) (mF : S → M) {cond : S → Option Bool} {step : S → Option S} {s0 sN : S} (h : whiL cond step s0 = some sN) (hw : Wks ds (dF s0)) (hm : m = mF s0)
    (test : ∀ s b, cond s = some b → EvT F.K tt (dF s) (mF s) b (mF s))
    (body : ∀ s s', cond s = some true → step s = some s' → ∀ D', D'.rt = D.rt → (∀ σ H, At F (dF s') (mF s') σ H → D'.nx σ H) → (∀ σ H, At F (dF s') (mF s') σ H → D'.ct σ H) → Wp F tb D' (dF s) (mF s))
    (k : cond sN = some false → Wp F tz D (dF sN) (mF sN)) : Wp F (tSeq (tWhile tt tb) tz) D ds m := by
  obtain ⟨n, h2⟩ := whiL_some h
  exact wp_whi dF mF h2 hw hm test body k
/-! ### list(range(..)) -/
theorem dqa_rng (a b : Int) : DqAll B (rgV a b) ((rng a b).map dI) := by
  unfold rgV rng
  rw [List.map_map]
  generalize List.range (b - a).toNat = l
  induction l with
  | nil => exact .nil
  | cons x l ih => exact .cons (.int _) ih
theorem rgOk_of {a b : Int} {l : List Int} (h : rngG a b = some l) (hn : lenG l.length = some ()) : RgOk a b ∧ l = rng a b := by
  obtain ⟨⟨h1, h2, h3, h4⟩, h5⟩ := rngG_some h
  have h6 := lenG_some hn
  have e : l.length = (b - a).toNat := by
    rw [← h5]
    unfold rng
    rw [List.length_map, List.length_range]
  exact ⟨⟨h1, h2, h3, h4, by omega⟩, h5.symm⟩
theorem ev_listRg1 {n : Int} {l : List Int} (h : Ev K ta ds m (.da (dI n)) m1) (hr : rngG 0 n = some l) (hn : lenG l.length = some ()) : Ev K (tLstRg (tRg1 ta)) ds m (.da (dL dI l)) m1 := fun B H σ s st Q q => h B H σ s st _ fun v B1 H1 t1 s1 d1 => by
  obtain ⟨ok, e⟩ := rgOk_of hr hn
  subst e
  exact ⟨n, int_of d1, ok, fun p hp => q _ _ _ (t1.trans (Tr.data s1 hp)) (s1.data hp) (.lst upd_same (dqa_rng 0 n))⟩
theorem ev_listRg2 {i n : Int} {l : List Int} (h0 : Ev K ta ds m (.da (dI i)) m1) (h : Ev K ti ds m1 (.da (dI n)) m2) (hr : rngG i n = some l) (hn : lenG l.length = some ()) : Ev K (tLstRg (tRg2 ta ti)) ds m (.da (dL dI l)) m2 := fun B H σ s st Q q => h0 B H σ s st _ fun u B0 H0 t0 s0 d0 => h B0 H0 σ s0 (st_mono t0.ex st) _ fun v B1 H1 t1 s1 d1 => by
  obtain ⟨ok, e⟩ := rgOk_of hr hn
  subst e
  exact ⟨i, n, int_of d0, int_of d1, ok, fun p hp => q _ _ _ ((t0.trans t1).trans (Tr.data s1 hp)) (s1.data hp) (.lst upd_same (dqa_rng i n))⟩
/-! ### a list of lists, both changed -/
def nest (f : β → PyData) (l : Addr) (ps : List Addr) (dss : List (List β)) : M := if ps.length = dss.length then (l, .lr (ps.map SD.rf)) :: List.zipWith (fun p xs => (p, CD.ls (xs.map f))) ps dss else [(l, .raw (.tup []))]
theorem nest_len {l : Addr} {ps : List Addr} {dss : List (List β)} (s : SOk K B (pre ++ nest f l ps dss) H) : ps.length = dss.length := by
  by_cases h : ps.length = dss.length
  · exact h
  · exfalso
    have hm : (l, CD.raw (.tup [])) ∈ pre ++ nest f l ps dss := List.mem_append_right _ (by unfold nest; rw [if_neg h]; exact List.mem_cons_self)
    obtain ⟨o, _, hc⟩ := s.cel _ hm
    cases o <;> first | exact hc.2 _ rfl | exact hc.elim
theorem nest_eq {l : Addr} {ps : List Addr} {dss : List (List β)} (h : ps.length = dss.length) : nest f l ps dss = (l, .lr (ps.map SD.rf)) :: List.zipWith (fun p xs => (p, CD.ls (xs.map f))) ps dss := by
  unfold nest
  rw [if_pos h]
theorem nest_at {l p : Addr} {ps : List Addr} {dss : List (List β)} {i : Nat} {xs : List β} (h : ps.length = dss.length) (h1 : ps[i]? = some p) (h2 : dss[i]? = some xs) : (pre ++ nest f l ps dss)[pre.length + (i + 1)]? = some (p, .ls (xs.map f)) := by
  rw [List.getElem?_append_right (by omega), nest_eq h, Nat.add_sub_cancel_left, List.getElem?_cons_succ, List.getElem?_zipWith, h1, h2]
theorem nest_set {l p : Addr} {ps : List Addr} {dss : List (List β)} {i : Nat} {ys : List β} (h : ps.length = dss.length) (h1 : ps[i]? = some p) : (pre ++ nest f l ps dss).set (pre.length + (i + 1)) (p, .ls (ys.map f)) = pre ++ nest f l ps (dss.set i ys) := by
  rw [List.set_append_right _ _ (by omega), Nat.add_sub_cancel_left, nest_eq h, nest_eq (by rw [List.length_set]; exact h), List.set_cons_succ]
  congr 2
  refine List.ext_getElem? fun j => ?_
  rw [List.getElem?_set, List.getElem?_zipWith, List.getElem?_zipWith, List.getElem?_set]
  by_cases e : i = j
  · subst e
    rw [if_pos rfl, if_pos rfl, List.length_zipWith, h1]
    have hlt := (List.getElem?_eq_some_iff.mp h1).1
    rw [if_pos (by omega), if_pos (by omega)]
  · rw [if_neg e, if_neg e]
theorem sda_app {p : Addr} : ∀ {es : List SD} {vs : List V}, SdAll K B es vs → SdAll K B (es ++ [.rf p]) (vs ++ [.ref p])
  | [], [], _ => ⟨rfl, True.intro⟩
  | _ :: _, _ :: _, h => ⟨h.1, sda_app h.2⟩
  | [], _ :: _, h => h.elim
  | _ :: _, [], h => h.elim
theorem sda_refs : ∀ {ps : List Addr} {vs : List V}, SdAll K B (ps.map SD.rf) vs → vs = ps.map V.ref
  | [], [], _ => rfl
  | _ :: ps, _ :: vs, h => by
    have e : _ = V.ref _ := h.1
    rw [e, sda_refs h.2]
    rfl
  | [], _ :: _, h => h.elim
  | _ :: _, [], h => h.elim
theorem SOk.lr {j : Nat} {l : Addr} {es : List SD} (s : SOk K B m H) (hm : m[j]? = some (l, .lr es)) : ∃ vs, H l = some (.lst vs) ∧ SdAll K B es vs := by
  obtain ⟨o, h, c⟩ := s.at hm
  cases o <;> first | exact ⟨_, h, c⟩ | exact c.elim
theorem lcNest {vs : List Nat} (hs : Src K wi g ds m m1 G items up js) (hjs : ∀ j ∈ js, j ∈ vs) (hG : ∀ c, G (m1 ++ c)) (hn : lenG items.length = some ()) (body : ∀ x, x ∈ items → ∀ m, EvN K te (up x (wipeD ds vs)) m (.ls ([] : List PyData)) m) :
    ∀ B H σ, SOk K B m H → StOk K B ds σ → ∀ Q : VK, (∀ l ps B2 H2, Tr B H (keys m) B2 H2 (keys (m1 ++ nest f l ps (items.map fun _ => []))) → SOk K B2 (m1 ++ nest f l ps (items.map fun _ => [])) H2 → Q (.ref l) H2) → tLc wi g tYes te vs σ H Q := by
  intro B H σ s st Q q
  have hn := lenG_some hn
  refine hs B H σ s st _ fun J B1 H1 t1 s1 T D hD => ?_
  refine ⟨fun i k H' => k = items.length - i ∧ i ≤ items.length ∧ ∃ B' ps, Tr B H (keys m) B' H' (keys (m1 ++ nest f D ps ((items.take i).map fun _ => []))) ∧ Ex B1 B' ∧ SOk K B' (m1 ++ nest f D ps ((items.take i).map fun _ => [])) H',
    ⟨items.length, by simp, Nat.zero_le _, B1, [], t1.trans (Tr.cell s1 hD), Ex.refl _, s1.cell hD (show CdOk K B1 (.lr (([] : List Addr).map SD.rf)) (.lst []) from True.intro)⟩, ?_⟩
  rintro i k H' ⟨rfl, hi, B', ps, tr, eB, sk⟩
  have hlen := nest_len sk
  by_cases hlt : i < items.length
  · refine .inr ⟨T.1 i H' B' _ hlt eB (hG _) sk, fun H'' => i + 1 ≤ items.length ∧ ∃ B' ps, Tr B H (keys m) B' H'' (keys (m1 ++ nest f D ps ((items.take (i + 1)).map fun _ => []))) ∧ Ex B1 B' ∧ SOk K B' (m1 ++ nest f D ps ((items.take (i + 1)).map fun _ => [])) H'',
      fun H'' p => ⟨items.length - (i + 1), by omega, rfl, p⟩, fun x H'' hy => ?_⟩
    have hx : items[i]? = some items[i] := List.getElem?_eq_getElem hlt
    refine T.2.2 i items[i] x H' H'' B' _ (wipeD ds vs) (wipe σ vs) hx eB (hG _) sk (st_wipe (st_mono (t1.ex.trans eB) st) vs) hy _ fun B2 σ2 t2 s2 st2 hset => ⟨wipe_sets hset hjs, ?_⟩
    refine et_yes B2 H'' σ2 s2 st2 _ fun B3 H3 t3 s3 => iteT ?_
    refine body items[i] (List.getElem_mem hlt) _ B3 H3 σ2 s3 (st_mono t3.ex st2) _ fun p B4 H4 t4 s4 => ?_
    have hjD : ((m1 ++ nest f D ps ((items.take i).map fun _ => [])) ++ [(p, CD.ls [])])[m1.length]? = some (D, .lr (ps.map SD.rf)) := by
      rw [List.append_assoc, List.getElem?_append_right (Nat.le_refl _), Nat.sub_self, nest_eq hlen]
      rfl
    obtain ⟨ws, hw, hwa⟩ := s4.lr hjD
    have hwl : ws.length = ps.length := by rw [sda_refs hwa, List.length_map]
    have hil : (items.take i).length = i := by rw [List.length_take]; omega
    rw [List.length_map, hil] at hlen
    have hset2 : ((m1 ++ nest f D ps ((items.take i).map fun _ => [])) ++ [(p, CD.ls [])]).set m1.length (D, .lr ((ps ++ [p]).map SD.rf)) = m1 ++ nest f D (ps ++ [p]) ((items.take (i + 1)).map fun _ => []) := by
      rw [List.append_assoc, List.set_append_right _ _ (Nat.le_refl _), Nat.sub_self, nest_eq (by rw [List.length_map, hil]; exact hlen), nest_eq (by rw [List.length_append, List.length_map, List.length_take]; show ps.length + 1 = _; omega)]
      have e : items.take (i + 1) = items.take i ++ [items[i]] := (List.take_append_getElem hlt).symm
      rw [e, List.map_append, List.map_append, List.zipWith_append (by rw [List.length_map, hil]; exact hlen)]
      rfl
    have hcd : CdOk K B4 (.lr ((ps ++ [p]).map SD.rf)) (.lst (ws ++ [.ref p])) := by
      rw [List.map_append]
      exact sda_app hwa
    have t5 := Tr.put s4 hjD hcd
    have s5 := s4.put hjD hcd
    rw [hset2] at t5 s5
    exact ⟨ws, hw, by rw [sizeLine_eq]; omega, hlt, B4, ps ++ [p], (((tr.trans t2).trans t3).trans t4).trans t5, ((eB.trans t2.ex).trans t3.ex).trans t4.ex, s5⟩
  · have e : i = items.length := by omega
    subst e
    rw [List.take_length] at tr sk
    refine .inl ⟨T.2.1 H' B' _ eB (hG _) sk, q D ps B' H' tr sk⟩
theorem wp_asgNest (f : β → PyData) {i : Nat} {dss : List (List β)}
    (hc : ∀ B H σ, SOk F.K B m H → StOk F.K B ds σ → ∀ Q : VK, (∀ l ps B2 H2, Tr B H (keys m) B2 H2 (keys (m1 ++ nest f l ps dss)) → SOk F.K B2 (m1 ++ nest f l ps dss) H2 → Q (.ref l) H2) → te σ H Q) (hm : keys m1 = keys m)
    (k : ∀ l ps, l ∉ F.k0 → (∀ p ∈ ps, p ∉ F.k0) → Wp F tz D (ds.set i (.rf l)) (m1 ++ nest f l ps dss)) : Wp F (tSeq (tAsg te (gName i)) tz) D ds m := fun σ H ⟨B, st, s, t, lo⟩ =>
  hc B H σ s st _ fun l ps B2 H2 t2 s2 => by
    have hlen := nest_len s2
    have new : ∀ a ∈ keys (nest f l ps dss), a ∉ F.k0 := fun a ha z => by
      have h1 : a ∈ keys (m1 ++ nest f l ps dss) := by
        show a ∈ List.map _ _
        rw [List.map_append]
        exact List.mem_append_right _ ha
      rcases t2.kys a h1 with h2 | h2
      · have nd : (List.map (fun p : Addr × CD => p.1) (m1 ++ nest f l ps dss)).Nodup := s2.nd
        rw [List.map_append] at nd
        exact (List.nodup_append.mp nd).2.2 a (by have h3 : a ∈ keys m1 := by rw [hm]; exact h2
                                                  exact h3) a ha rfl
      · exact absurd h2 (t.grow a (F.hk a z))
    refine k l ps (new l ?_) (fun p hp => new p ?_) _ H2 ⟨B2, st_set i (st_mono t2.ex st) (sl_of (s := .rf l) rfl), s2, t.trans t2, lo.trans t2.ex⟩
    · rw [nest_eq hlen]
      exact List.mem_cons_self
    · rw [nest_eq hlen]
      refine List.mem_cons_of_mem _ ?_
      obtain ⟨j, hj⟩ := List.mem_iff_getElem?.mp hp
      have hjl : j < dss.length := by rw [← hlen]; exact (List.getElem?_eq_some_iff.mp hj).1
      refine List.mem_map.mpr ⟨(p, CD.ls (dss[j].map f)), List.mem_of_getElem? (i := j) ?_, rfl⟩
      rw [List.getElem?_zipWith, hj, List.getElem?_eq_getElem hjl]
/-- the inner ones frozen -/
theorem frz_all {l : Addr} {es : List SD} {k : List Addr} {B0 H0 : Hp} (hk : ∀ a ∈ k, H0 a ≠ none) : ∀ {ps : List Addr} {dss : List (List β)} {B : Hp}, ps.length = dss.length → (∀ p ∈ ps, p ∉ k) → SOk K B (pre ++ (l, .lr es) :: List.zipWith (fun p xs => (p, CD.ls (xs.map f))) ps dss) H →
    Tr B0 H0 k B H (keys (pre ++ (l, .lr es) :: List.zipWith (fun p xs => (p, CD.ls (xs.map f))) ps dss)) → ∃ B', Ex B B' ∧ SOk K B' (pre ++ [(l, .lr es)]) H ∧ Tr B0 H0 k B' H (keys (pre ++ [(l, .lr es)])) ∧ DqAll B' (ps.map V.ref) (dss.map (dL f))
  | [], [], B, _, _, s, t => ⟨B, Ex.refl _, s, t, .nil⟩
  | [], _ :: _, _, h, _, _, _ => by cases h
  | _ :: _, [], _, h, _, _, _ => by cases h
  | p :: ps, xs :: dss, B, h, hp, s, t => by
    have hj : (pre ++ (l, CD.lr es) :: List.zipWith (fun p xs => (p, CD.ls (xs.map f))) (p :: ps) (xs :: dss))[pre.length + 1]? = some (p, .ls (xs.map f)) := by
      rw [List.getElem?_append_right (by omega), Nat.add_sub_cancel_left]
      rfl
    have he : (pre ++ (l, CD.lr es) :: List.zipWith (fun p xs => (p, CD.ls (xs.map f))) (p :: ps) (xs :: dss)).eraseIdx (pre.length + 1) = pre ++ (l, CD.lr es) :: List.zipWith (fun p xs => (p, CD.ls (xs.map f))) ps dss := by
      rw [List.eraseIdx_append_of_length_le (by omega), Nat.add_sub_cancel_left]
      rfl
    obtain ⟨ws, h1, h2⟩ := s.ls hj
    have hB : B p = none := s.out (p, .ls (xs.map f)) (List.mem_of_getElem? hj)
    have s2 := s.frz hj h1
    have t2 := t.frz s hk (o := .lst ws) hj (hp p List.mem_cons_self)
    rw [he] at s2 t2
    have ee := Ex.new (o := HO.lst ws) hB
    obtain ⟨B', e, s3, t3, d3⟩ := frz_all hk (ps := ps) (dss := dss) (Nat.succ.inj h) (fun q hq => hp q (List.mem_cons_of_mem _ hq)) s2 t2
    exact ⟨B', ee.trans e, s3, t3, .cons (Dq.lst (e _ _ upd_same) (dpa_mono (ee.trans e) h2)) d3⟩
theorem wp_frzN {i : Nat} {l : Addr} {ps : List Addr} {dss : List (List β)} (hi : ds[i]? = some (.rf l)) (hl : l ∉ F.k0) (hps : ∀ p ∈ ps, p ∉ F.k0) (k : Wp F ts D (ds.set i (.da (dL (dL f) dss))) pre) : Wp F ts D ds (pre ++ nest f l ps dss) := fun σ H ⟨B, st, s, t, lo⟩ => by
  have hlen := nest_len s
  rw [nest_eq hlen] at s t
  obtain ⟨B', e1, s1, t1, d1⟩ := frz_all F.hk hlen hps s t
  have hj : (pre ++ [(l, CD.lr (ps.map SD.rf))])[pre.length]? = some (l, .lr (ps.map SD.rf)) := by
    rw [List.getElem?_append_right (Nat.le_refl _), Nat.sub_self]
    rfl
  obtain ⟨vs, h1, h2⟩ := s1.lr hj
  have hB : B' l = none := s1.out (l, .lr (ps.map SD.rf)) (List.mem_of_getElem? hj)
  have s2 := s1.frz hj h1
  have t2 := t1.frz s1 F.hk (o := .lst vs) hj hl
  have he : (pre ++ [(l, CD.lr (ps.map SD.rf))]).eraseIdx pre.length = pre := by
    rw [List.eraseIdx_append_of_length_le (Nat.le_refl _), Nat.sub_self]
    exact List.append_nil _
  rw [he] at s2 t2
  have ee := Ex.new (o := HO.lst vs) hB
  obtain ⟨o, e, w⟩ := st_get st hi
  obtain ⟨v, rfl, w⟩ := sl_some (s := .rf l) (fun z => nomatch z) w
  have ev : v = .ref l := w
  subst ev
  have hd : DqAll (upd B' l (.lst vs)) vs (dss.map (dL f)) := by
    have e2 := sda_refs h2
    rw [← e2] at d1
    exact dpa_mono ee d1
  have st2 := st_set (K := F.K) i (st_mono (e1.trans ee) st) (s := .da (dL (dL f) dss)) (o := some (.ref l)) (Dq.lst upd_same hd)
  rw [set_same e] at st2
  exact k σ H ⟨_, st2, s2, t2, lo.trans (e1.trans ee)⟩
/-- xss[i].append(x) -/
def napp (dss : List (List β)) (i : Int) (x : β) : Option (List (List β)) := (ixN dss.length i).bind fun j => (dss[j]?).bind fun d => (lenG d.length).bind fun _ => some (dss.set j (d ++ [x]))
theorem ev_napp {l : Addr} {ps : List Addr} {dss dss' : List (List β)} {i : Int} {x : β} {t : TA} (ho : Ev K to ds m (.rf l) m1) (hi : Ev K ti ds m1 (.da (dI i)) (pre ++ nest f l ps dss)) (h : EvA K t ds (pre ++ nest f l ps dss) [.da (f x)] (pre ++ nest f l ps dss)) (hn : napp dss i x = some dss') :
    Ev K (tBM K "list" rAppend (tOp (rIxL K) to ti) t) ds m (.da .none) (pre ++ nest f l ps dss') := fun B H σ s st Q q =>
  ho B H σ s st _ fun u B1 H1 t1 s1 d1 => hi B1 H1 σ s1 (st_mono t1.ex st) _ fun y B2 H2 t2 s2 d2 => by
    have eu : u = .ref l := d1
    subst eu
    have hlen := nest_len s2
    obtain ⟨j, e1, hn⟩ := bindS hn
    obtain ⟨d, e2, hn⟩ := bindS hn
    obtain ⟨_, e3, hn⟩ := bindS hn
    have e4 := Option.some.inj hn
    subst e4
    have hjl : j < ps.length := by rw [hlen]; exact (List.getElem?_eq_some_iff.mp e2).1
    have hp := List.getElem?_eq_getElem hjl
    have hj0 : (pre ++ nest f l ps dss)[pre.length]? = some (l, .lr (ps.map SD.rf)) := by
      rw [List.getElem?_append_right (Nat.le_refl _), Nat.sub_self, nest_eq hlen]
      rfl
    obtain ⟨vs, h1, h2⟩ := s2.lr hj0
    have ev := sda_refs h2
    subst ev
    have hat : atI (ps.map V.ref) i = some (.ref ps[j]) := by
      unfold atI
      rw [List.length_map, hlen, e1]
      show (ps.map V.ref)[j]? = _
      rw [List.getElem?_map, hp]
      rfl
    refine ⟨l, ps.map V.ref, i, .ref ps[j], rfl, int_of d2, SqL.of h1, hat, ?_⟩
    have hjj := nest_at (pre := pre) (f := f) (l := l) hlen hp e2
    obtain ⟨ws, g1, g2⟩ := s2.ls hjj
    refine ⟨tyv_of (B := B2) g1, h B2 H2 σ s2 (st_mono (t1.ex.trans t2.ex) st) _ fun as B3 H3 t3 s3 d3 => ?_⟩
    refine rm_app (pre.length + (j + 1)) hjj e3 B3 H3 _ _ s3 rfl d3 Q fun v B4 H4 t4 s4 d4 => ?_
    rw [nest_set hlen hp] at t4 s4
    exact q v B4 H4 (((t1.trans t2).trans t3).trans t4) s4 d4
theorem eqv_non_l {d : PyData} (h : d ≠ .none) : PyData.eqv .none d = false := by
  cases d <;> first | exact absurd rfl h | rfl | simp [PyData.eqv]
theorem eqv_non_r {d : PyData} (h : d ≠ .none) : PyData.eqv d .none = false := by
  cases d <;> first | exact absurd rfl h | rfl | simp [PyData.eqv]
instance instEncO {α : Type} {f : α → PyData} [DecidableEq α] [Enc f] [NotNo f] : Enc (dO f) where
  plain o := by
    cases o with
    | none => rfl
    | some a => exact Enc.plain a
  eqv a b := by
    cases a with
    | none =>
      cases b with
      | none => rfl
      | some b => exact (eqv_non_l (NotNo.no b)).trans (decide_eq_false (fun z => nomatch z)).symm
    | some a =>
      cases b with
      | none => exact (eqv_non_r (NotNo.no a)).trans (decide_eq_false (fun z => nomatch z)).symm
      | some b =>
        show PyData.eqv (f a) (f b) = _
        rw [Enc.eqv]
        exact decide_eq_decide.mpr ⟨fun e => by rw [e], fun e => Option.some.inj e⟩
  dep := Enc.dep f
  dep_le o := by
    cases o with
    | none => exact Nat.zero_le _
    | some a => exact Enc.dep_le a
theorem rr_catU {α : Type} {f : α → PyData} {xs ys : List α} (hz : lenG (xs.length + ys.length) = some ()) : Rr K (rCatA K) (.da (dU f xs)) (.da (dU f ys)) m (.da (dU f (xs ++ ys))) m := fun B H x y s dx dy Q q => by
  obtain ⟨p, vs, rfl, hp, ha⟩ := tup_of dx
  obtain ⟨p2, vs2, rfl, hp2, ha2⟩ := tup_of dy
  have h1 := dpa_len ha
  have h2 := dpa_len ha2
  have h3 := lenG_some hz
  rw [List.length_map] at h1 h2
  refine ⟨p, p2, vs, vs2, rfl, rfl, SqT.of (s.ext _ _ hp), SqT.of (s.ext _ _ hp2), by rw [sizeLine_eq]; omega, fun e => ?_, fun _ e => ?_, fun _ _ l hl => q _ _ _ (Tr.data s hl) (s.data hl) (Dq.tup upd_same (dpa_mono (Ex.new (fresh_b s hl)) ?_))⟩
  · have e1 : xs = [] := by
      rw [e] at h1
      exact List.length_eq_zero_iff.mp h1.symm
    subst e1
    exact q _ _ _ (Tr.refl _ _ _) s dy
  · have e1 : ys = [] := by
      rw [e] at h2
      exact List.length_eq_zero_iff.mp h2.symm
    subst e1
    rw [List.append_nil] at q
    exact q _ _ _ (Tr.refl _ _ _) s dx
  · rw [List.map_append]
    exact dqa_app ha ha2
theorem src_UP {α : Type} {f : α → PyData} {f2 : β → PyData} {xs : List (α × β)} {j k : Nat} (h : Ev K tl ds m (.da (dU (dP f f2) xs)) m1) : Src K (iTup K tl) (gTup K 2 (gCons (gName j) (gCons (gName k) gNil))) ds m m1 (fun _ => True) xs (fun p ds => (ds.set j (.da (f p.1))).set k (.da (f2 p.2))) ([j] ++ [k]) := fun B H σ s st R q => h B H σ s st _ fun v B1 H1 t1 s1 d1 => by
  obtain ⟨p, vs, rfl, hp, ha⟩ := tup_of d1
  have hl := dpa_len ha
  rw [List.length_map] at hl
  have hL : ∀ {H B' m'}, Ex B1 B' → SOk K B' m' H → SqT K H p vs := fun e s => SqT.of (s.ext _ _ (e _ _ hp))
  refine ⟨p, rfl, ⟨vs, SqT.of (s1.ext _ _ hp)⟩, q _ B1 H1 t1 s1 ⟨fun i H B' m' hi e g s => ?_, fun H B' m' e g s => ⟨vs, hL e s, Nat.le_of_eq hl⟩, fun i x v H H' B' m' ds σ hx e g s st hy Q q => ?_⟩⟩
  · have hi' : i < vs.length := by omega
    exact ⟨vs, vs[i], hL e s, List.getElem?_eq_getElem hi'⟩
  · obtain ⟨rfl, y2⟩ := hy
    obtain ⟨w, h1, h2⟩ := dqa_some ha hx
    have h3 := y2 vs (hL e s)
    rw [h1] at h3
    have e3 := Option.some.inj h3
    subst e3
    obtain ⟨T, x1, x2, rfl, h4, h5, h6⟩ := pair_of (K := K) (show SdOk K B1 (.da (dP f f2 x)) w from h2)
    refine ⟨T, [x1, x2], rfl, SqT.of (s.ext _ _ (e _ _ h4)), rfl, x1, [x2], rfl, x2, [], rfl, rfl, ?_⟩
    exact q B' _ (Tr.refl _ _ _) s (st_set k (st_set j st (sl_of (s := .da (f x.1)) (dp_mono e h5))) (sl_of (s := .da (f2 x.2)) (dp_mono e h6))) (sets1.trans sets1)
end
end FC
set_option maxHeartbeats 400000
/-! FO: instances of the program's own classes: fields, methods, making. -/
namespace FC
open PySem PySem.Spec PyProof.Rows L2 Evl
/-- an instance: its fields by the class's names, in the order of their first store -/
def obj (C dx : Addr) (names : List Str) (sds : List SD) : CD := .ins C dx (names.zip sds)
/-- f stands at i among the names, not ahead of it -/
def PutAt (f : Str) (names : List Str) (i : Nat) : Prop := names[i]? = some f ∧ f ∉ names.take i
instance (f : Str) (names : List Str) (i : Nat) : Decidable (PutAt f names i) := by unfold PutAt; infer_instance
section
variable {K : PySem.W.Frag} {B H : Hp} {α : Type}
theorem lookup_at {f : Str} : ∀ {ws : List (Str × V)} {i : Nat} {v : V}, ws[i]? = some (f, v) → f ∉ (ws.take i).map (·.1) → ws.lookup f = some v
  | [], _, _, h, _ => by simp at h
  | (g, x) :: ws, 0, v, h, _ => by
    have e := Option.some.inj h
    cases e
    simp [List.lookup]
  | (g, x) :: ws, i + 1, v, h, hn => by
    rw [List.take_succ_cons, List.map_cons, List.mem_cons, not_or] at hn
    have hb : (f == g) = false := beq_eq_false_iff_ne.mpr hn.1
    show (match f == g with | true => some x | false => List.lookup f ws) = some v
    rw [hb]
    exact lookup_at (i := i) h hn.2
theorem lookup_no {f : Str} : ∀ {ws : List (Str × V)}, f ∉ ws.map (·.1) → ws.lookup f = none
  | [], _ => rfl
  | (g, x) :: ws, hn => by
    rw [List.map_cons, List.mem_cons, not_or] at hn
    have hb : (f == g) = false := beq_eq_false_iff_ne.mpr hn.1
    show (match f == g with | true => some x | false => List.lookup f ws) = none
    rw [hb]
    exact lookup_no hn.2
theorem putF_at {f : Str} {y : V} : ∀ {ws : List (Str × V)} {i : Nat} {v : V}, ws[i]? = some (f, v) → f ∉ (ws.take i).map (·.1) → putF f y ws = ws.set i (f, y)
  | [], _, _, h, _ => by simp at h
  | (g, x) :: ws, 0, v, h, _ => by
    have e := Option.some.inj h
    cases e
    show (if f = f then (f, y) :: ws else _) = _
    rw [if_pos rfl]
    rfl
  | (g, x) :: ws, i + 1, v, h, hn => by
    rw [List.take_succ_cons, List.map_cons, List.mem_cons, not_or] at hn
    show (if g = f then (g, y) :: ws else (g, x) :: putF f y ws) = _
    rw [if_neg (fun e => hn.1 e.symm), putF_at (i := i) h hn.2]
    rfl
theorem putF_new {f : Str} {y : V} : ∀ {ws : List (Str × V)}, f ∉ ws.map (·.1) → putF f y ws = ws ++ [(f, y)]
  | [], _ => rfl
  | (g, x) :: ws, hn => by
    rw [List.map_cons, List.mem_cons, not_or] at hn
    show (if g = f then (g, y) :: ws else (g, x) :: putF f y ws) = _
    rw [if_neg (fun e => hn.1 e.symm), putF_new hn.2]
    rfl
/-- the heap's fields against the told ones -/
theorem fs_of : ∀ {names : List Str} {sds : List SD} {ws : List (Str × V)}, FsOk K B (names.zip sds) ws → sds.length ≤ names.length → ∃ vs, SdAll K B sds vs ∧ ws = names.zip vs ∧ vs.length = sds.length
  | _, [], [], _, _ => ⟨[], True.intro, by simp, rfl⟩
  | [], _ :: _, _, _, hl => by simp at hl
  | n :: names, s :: sds, w :: ws, h, hl => by
    obtain ⟨vs, h1, h2, h3⟩ := fs_of (names := names) (sds := sds) (ws := ws) h.2 (by simpa using hl)
    refine ⟨w.2 :: vs, ⟨h.1.2, h1⟩, ?_, by rw [List.length_cons, List.length_cons, h3]⟩
    have e : n = w.1 := h.1.1
    rw [List.zip_cons_cons, ← h2, e]
  | n :: names, s :: sds, [], h, _ => h.elim
  | [], [], _ :: _, h, _ => h.elim
  | _ :: _, [], _ :: _, h, _ => h.elim
theorem of_fs : ∀ {names : List Str} {sds : List SD} {vs : List V}, SdAll K B sds vs → FsOk K B (names.zip sds) (names.zip vs)
  | [], _, _, _ => by simp [FsOk]
  | _ :: _, [], [], _ => True.intro
  | n :: names, s :: sds, v :: vs, h => ⟨⟨rfl, h.1⟩, of_fs h.2⟩
  | _ :: _, [], _ :: _, h => h.elim
  | _ :: _, _ :: _, [], h => h.elim
theorem sda_at : ∀ {sds : List SD} {vs : List V} {i : Nat} {s : SD}, SdAll K B sds vs → sds[i]? = some s → ∃ v, vs[i]? = some v ∧ SdOk K B s v
  | _ :: _, _ :: _, 0, _, h, e => by
    cases Option.some.inj e
    exact ⟨_, rfl, h.1⟩
  | _ :: sds, _ :: vs, i + 1, s, h, e => sda_at (sds := sds) (vs := vs) (i := i) h.2 e
  | [], [], _, _, _, e => by simp at e
  | [], _ :: _, _, _, h, _ => h.elim
  | _ :: _, [], _, _, h, _ => h.elim
theorem sda_set : ∀ {sds : List SD} {vs : List V} {i : Nat} {s : SD} {v : V}, SdAll K B sds vs → SdOk K B s v → SdAll K B (sds.set i s) (vs.set i v)
  | _ :: _, _ :: _, 0, _, _, h, d => ⟨d, h.2⟩
  | _ :: sds, _ :: vs, i + 1, s, v, h, d => ⟨h.1, sda_set (sds := sds) (vs := vs) (i := i) h.2 d⟩
  | [], [], _, _, _, h, _ => True.intro
  | [], _ :: _, _, _, _, h, _ => h.elim
  | _ :: _, [], _, _, _, h, _ => h.elim
theorem sda_snoc {s : SD} {v : V} : ∀ {sds : List SD} {vs : List V}, SdAll K B sds vs → SdOk K B s v → SdAll K B (sds ++ [s]) (vs ++ [v])
  | [], [], _, d => ⟨d, True.intro⟩
  | _ :: _, _ :: _, h, d => ⟨h.1, sda_snoc h.2 d⟩
  | [], _ :: _, h, _ => h.elim
  | _ :: _, [], h, _ => h.elim
theorem SOk.ob {m : M} {j : Nat} {p C dx : Addr} {names : List Str} {sds : List SD} (s : SOk K B m H) (hm : m[j]? = some (p, obj C dx names sds)) (hl : sds.length ≤ names.length) : ∃ vs, H p = some (.ins C dx (names.zip vs)) ∧ SdAll K B sds vs ∧ vs.length = sds.length := by
  obtain ⟨o, h, c⟩ := s.at hm
  unfold obj at c
  cases o with
  | ins C' dx' ws =>
    obtain ⟨rfl, rfl, c⟩ := c
    obtain ⟨vs, h1, rfl, h3⟩ := fs_of c hl
    exact ⟨vs, h, h1, h3⟩
  | _ => exact c.elim
theorem zip_at {names : List Str} {vs : List V} {i : Nat} {f : Str} {v : V} (h : PutAt f names i) (hv : vs[i]? = some v) : (names.zip vs)[i]? = some (f, v) ∧ f ∉ ((names.zip vs).take i).map (·.1) := by
  refine ⟨by rw [List.getElem?_zip_eq_some]; exact ⟨h.1, hv⟩, fun z => h.2 ?_⟩
  obtain ⟨q, hq, e⟩ := List.mem_map.mp z
  obtain ⟨k, hk⟩ := List.mem_iff_getElem?.mp hq
  rw [List.getElem?_take] at hk
  split at hk
  · rename_i hlt
    obtain ⟨h1, _⟩ := List.getElem?_zip_eq_some.mp hk
    refine List.mem_iff_getElem?.mpr ⟨k, ?_⟩
    rw [List.getElem?_take, if_pos hlt, h1, e]
  · cases hk
theorem zip_keys {names : List Str} {vs : List V} {f : Str} (h : f ∉ names) : f ∉ (names.zip vs).map (·.1) := fun z => h (by
  obtain ⟨q, hq, e⟩ := List.mem_map.mp z
  rw [← e]
  exact (List.of_mem_zip hq).1)
variable {F : Fx} {D : Ends} {ds : List SD} {m m1 m2 m' pre post mc mc' : M} {ta te : TE} {t : TA} {tz : TS} {sd sd' : SD} {rs : List SD} {c : SD} {G : Pf} {E : XK} {p C dx : Addr} {names : List Str} {sds : List SD} {f : Str}
/-- o.f -/
theorem ev_fld (j i : Nat) (ho : Ev K ta ds m (.rf p) m1) (hj : m1[j]? = some (p, obj C dx names sds)) (hi : sds[i]? = some sd) (hp : PutAt f names i) (hl : sds.length ≤ names.length) (c : Cls K C) (n : NoAttr K C f) : Ev K (tFld K ta f) ds m sd m1 := fun B H σ s st Q q =>
  ho B H σ s st _ fun x B1 H1 t1 s1 d1 => by
    have e : x = .ref p := d1
    subst e
    obtain ⟨vs, h1, h2, _⟩ := s1.ob hj hl
    obtain ⟨v, h3, h4⟩ := sda_at h2 hi
    obtain ⟨g1, g2⟩ := zip_at hp h3
    exact ⟨p, C, dx, _, v, rfl, h1, c, n, lookup_at g1 g2, q v B1 H1 t1 s1 h4⟩
theorem put_obj {v : V} {m : M} (s : SOk K B m H) {j i : Nat} {old : SD} (hj : m[j]? = some (p, obj C dx names sds)) (hi : sds[i]? = some old) (hp : PutAt f names i) (hl : sds.length ≤ names.length) (d : SdOk K B sd v) :
    ∃ vs, H p = some (.ins C dx (names.zip vs)) ∧ (names.zip vs).length < 1000 + names.length ∧ CdOk K B (obj C dx names (sds.set i sd)) (.ins C dx (putF f v (names.zip vs))) := by
  obtain ⟨vs, h1, h2, h3⟩ := s.ob hj hl
  obtain ⟨w, h4, _⟩ := sda_at h2 hi
  obtain ⟨g1, g2⟩ := zip_at hp h4
  refine ⟨vs, h1, by rw [List.length_zip]; omega, rfl, rfl, ?_⟩
  rw [putF_at g1 g2]
  have e : (names.zip vs).set i (f, v) = names.zip (vs.set i v) := by
    refine List.ext_getElem? fun k => ?_
    by_cases ek : i = k
    · subst ek
      have hlt : i < (names.zip vs).length := (List.getElem?_eq_some_iff.mp g1).1
      have hlt2 : i < vs.length := (List.getElem?_eq_some_iff.mp h4).1
      rw [List.getElem?_set_self hlt]
      exact (List.getElem?_zip_eq_some.mpr ⟨hp.1, by rw [List.getElem?_set_self hlt2]⟩).symm
    · rw [List.getElem?_set_ne ek]
      cases hn : names[k]? with
      | none =>
        have : (names.zip vs)[k]? = none := List.getElem?_eq_none (by rw [List.length_zip]; have := List.getElem?_eq_none_iff.mp hn; omega)
        rw [this]
        exact (List.getElem?_eq_none (by rw [List.length_zip]; have := List.getElem?_eq_none_iff.mp hn; omega)).symm
      | some nm =>
        cases hv : vs[k]? with
        | none =>
          have : (names.zip vs)[k]? = none := List.getElem?_eq_none (by rw [List.length_zip]; have := List.getElem?_eq_none_iff.mp hv; omega)
          rw [this]
          exact (List.getElem?_eq_none (by rw [List.length_zip, List.length_set]; have := List.getElem?_eq_none_iff.mp hv; omega)).symm
        | some u =>
          rw [(List.getElem?_zip_eq_some (z := (nm, u))).mpr ⟨hn, hv⟩]
          exact ((List.getElem?_zip_eq_some (z := (nm, u))).mpr ⟨hn, by rw [List.getElem?_set_ne ek]; exact hv⟩).symm
  rw [e]
  exact of_fs (sda_set h2 d)
/-- o.f = e -/
theorem wp_fld (j i : Nat) {old : SD} (hv : Ev F.K te ds m sd m1) (ho : Ev F.K ta ds m1 (.rf p) m2) (hj : m2[j]? = some (p, obj C dx names sds)) (hi : sds[i]? = some old) (hp : PutAt f names i) (hl : sds.length ≤ names.length) (hn : names.length < 500) (c : Cls F.K C) (n : NoAttr F.K C f)
    (k : Wp F tz D ds (m2.set j (p, obj C dx names (sds.set i sd)))) : Wp F (tSeq (sFld F.K ta te f) tz) D ds m := fun σ H ⟨B, st, s, t, lo⟩ =>
  hv B H σ s st _ fun v B1 H1 t1 s1 d1 => ho B1 H1 σ s1 (st_mono t1.ex st) _ fun x B2 H2 t2 s2 d2 => by
    have e : x = .ref p := d2
    subst e
    obtain ⟨vs, h1, h2, h3⟩ := put_obj s2 hj hi hp hl (sd_mono t2.ex d1)
    refine ⟨p, C, dx, _, rfl, h1, c, n, by rw [List.length_zip]; omega, ?_⟩
    exact k σ _ ⟨B2, st_mono (t1.ex.trans t2.ex) st, s2.put hj h3, ((t.trans t1).trans t2).trans (Tr.put s2 hj h3), lo.trans (t1.ex.trans t2.ex)⟩
theorem new_obj {v : V} {m : M} (s : SOk K B m H) {j : Nat} (hj : m[j]? = some (p, obj C dx names sds)) (hp : PutAt f names sds.length) (d : SdOk K B sd v) :
    ∃ vs, H p = some (.ins C dx (names.zip vs)) ∧ CdOk K B (obj C dx names (sds ++ [sd])) (.ins C dx (putF f v (names.zip vs))) := by
  have hlt : sds.length < names.length := (List.getElem?_eq_some_iff.mp hp.1).1
  obtain ⟨vs, h1, h2, h3⟩ := s.ob hj (by omega)
  refine ⟨vs, h1, rfl, rfl, ?_⟩
  have e : names.zip (vs ++ [v]) = names.zip vs ++ [(f, v)] := by
    have e0 : names = names.take sds.length ++ f :: names.drop (sds.length + 1) := by
      have e1 : names[sds.length] = f := by
        have := hp.1
        rw [List.getElem?_eq_getElem hlt] at this
        exact Option.some.inj this
      rw [← e1, ← List.drop_eq_getElem_cons hlt, List.take_append_drop]
    generalize hA : names.take sds.length = A at e0
    have hAl : A.length = vs.length := by rw [← hA, List.length_take, h3]; omega
    rw [e0, List.zip_append hAl]
    have e2 : (A ++ f :: names.drop (sds.length + 1)).zip vs = A.zip vs := by
      have : vs = vs ++ [] := (List.append_nil vs).symm
      rw [this, List.zip_append hAl, List.append_nil]
      simp
    rw [e2, List.zip_cons_cons, List.zip_nil_right]
  rw [putF_new (fun z => hp.2 ?_), ← e]
  · exact of_fs (sda_snoc h2 d)
  · obtain ⟨q, hq, e2⟩ := List.mem_map.mp z
    obtain ⟨k, hk⟩ := List.mem_iff_getElem?.mp hq
    obtain ⟨g1, g2⟩ := List.getElem?_zip_eq_some.mp hk
    have hkl : k < vs.length := (List.getElem?_eq_some_iff.mp g2).1
    refine List.mem_iff_getElem?.mpr ⟨k, ?_⟩
    rw [List.getElem?_take, if_pos (by omega), g1, e2]
/-- o.f = e, a field's first store -/
theorem wp_fld0 (j : Nat) (hv : Ev F.K te ds m sd m1) (ho : Ev F.K ta ds m1 (.rf p) m2) (hj : m2[j]? = some (p, obj C dx names sds)) (hp : PutAt f names sds.length) (hn : names.length < 500) (c : Cls F.K C) (n : NoAttr F.K C f)
    (k : Wp F tz D ds (m2.set j (p, obj C dx names (sds ++ [sd])))) : Wp F (tSeq (sFld F.K ta te f) tz) D ds m := fun σ H ⟨B, st, s, t, lo⟩ =>
  hv B H σ s st _ fun v B1 H1 t1 s1 d1 => ho B1 H1 σ s1 (st_mono t1.ex st) _ fun x B2 H2 t2 s2 d2 => by
    have e : x = .ref p := d2
    subst e
    obtain ⟨vs, h1, h3⟩ := new_obj s2 hj hp (sd_mono t2.ex d1)
    refine ⟨p, C, dx, _, rfl, h1, c, n, by rw [List.length_zip]; omega, ?_⟩
    exact k σ _ ⟨B2, st_mono (t1.ex.trans t2.ex) st, s2.put hj h3, ((t.trans t1).trans t2).trans (Tr.put s2 hj h3), lo.trans (t1.ex.trans t2.ex)⟩
/-- o.f = e, a field's first store, a new cell -/
theorem wp_fld0N (j : Nat) {cd : CD} (hv : EvN F.K te ds m cd m1) (ho : ∀ m, Ev F.K ta ds m (.rf p) m) (hj : m1[j]? = some (p, obj C dx names sds)) (hp : PutAt f names sds.length) (hn : names.length < 500) (c : Cls F.K C) (n : NoAttr F.K C f) (hm : keys m1 = keys m)
    (k : ∀ l, l ∉ F.k0 → Wp F tz D ds ((m1 ++ [(l, cd)]).set j (p, obj C dx names (sds ++ [.rf l])))) : Wp F (tSeq (sFld F.K ta te f) tz) D ds m := fun σ H ⟨B, st, s, t, lo⟩ =>
  hv B H σ s st _ fun l B1 H1 t1 s1 => by
    have hnew : H l = none := by
      have h1 : l ∈ keys (m1 ++ [(l, cd)]) := by rw [keys_app]; exact List.mem_append_right _ (List.mem_singleton.mpr rfl)
      refine (t1.kys l h1).resolve_left fun z => ?_
      have nd := s1.nd
      rw [keys_app] at nd
      exact (List.nodup_append.mp nd).2.2 l (by rw [hm]; exact z) l (List.mem_singleton.mpr rfl) rfl
    refine ho _ B1 H1 σ s1 (st_mono t1.ex st) _ fun x B2 H2 t2 s2 d2 => ?_
    have e : x = .ref p := d2
    subst e
    have hlt : j < m1.length := (List.getElem?_eq_some_iff.mp hj).1
    have hj2 : (m1 ++ [(l, cd)])[j]? = some (p, obj C dx names sds) := by
      rw [List.getElem?_append_left hlt]
      exact hj
    obtain ⟨vs, h1, h3⟩ := new_obj (sd := .rf l) (v := .ref l) s2 hj2 hp rfl
    refine ⟨p, C, dx, _, rfl, h1, c, n, by rw [List.length_zip]; omega, ?_⟩
    exact k l (fun z => absurd hnew (t.grow l (F.hk l z))) σ _ ⟨B2, st_mono (t1.ex.trans t2.ex) st, s2.put hj2 h3, ((t.trans t1).trans t2).trans (Tr.put s2 hj2 h3), lo.trans (t1.ex.trans t2.ex)⟩
/-! ### calls with a block of cells -/
theorem blk_perm (pre mc post : M) : (mc ++ (pre ++ post)).Perm (pre ++ mc ++ post) := by
  rw [← List.append_assoc]
  exact List.Perm.append_right post List.perm_append_comm
theorem blk_call {vs : List V} (s1 : SOk K B (pre ++ mc ++ post) H) (hF : ∃ R, G rs mc R ∧ ∀ r m2, R r m2 → r = c ∧ m2 = mc') (d1 : SdAll K B rs vs) (Q : VK) (q : ∀ v B2 H2, Tr B H (keys (pre ++ mc ++ post)) B2 H2 (keys (pre ++ mc' ++ post)) → SOk K B2 (pre ++ mc' ++ post) H2 → SdOk K B2 c v → Q v H2) : spOf K G vs H Q E := by
  obtain ⟨R, hR, hq⟩ := hF
  have s1' : SOk K B (mc ++ (pre ++ post)) H := s1.perm (blk_perm pre mc post)
  refine ⟨B, rs, mc, R, hR, s1'.sub (List.sublist_append_left _ _), d1, fun v B2 H2 r m2 hr t2 s2 d2 => ?_⟩
  obtain ⟨rfl, rfl⟩ := hq r m2 hr
  obtain ⟨t3, s3⟩ := fr_ok s1' t2 s2
  have p1 : ∀ a, a ∈ keys (mc ++ (pre ++ post)) ↔ a ∈ keys (pre ++ mc ++ post) := fun a => ((blk_perm pre mc post).map Prod.fst).mem_iff
  have p2 : ∀ a, a ∈ keys (m2 ++ (pre ++ post)) ↔ a ∈ keys (pre ++ m2 ++ post) := fun a => ((blk_perm pre m2 post).map Prod.fst).mem_iff
  exact q v B2 H2 (t3.perm p1 p2) (s3.perm (blk_perm pre m2 post).symm) d2
/-- f(..) -/
theorem ev_callB (h : EvA K t ds m rs (pre ++ mc ++ post)) (hF : ∃ R, G rs mc R ∧ ∀ r m2, R r m2 → r = c ∧ m2 = mc') : Ev K (tCall (spOf K G) [] E t) ds m c (pre ++ mc' ++ post) := fun B H σ s st Q q =>
  h B H σ s st _ fun vs B1 H1 t1 s1 d1 => by
    rw [List.append_nil]
    exact blk_call s1 hF d1 Q fun v B2 H2 t2 s2 d2 => q v B2 H2 (t1.trans t2) s2 d2
/-- o.m(..) -/
theorem ev_meth (j : Nat) {mt : Str} (ho : Ev K ta ds m (.rf p) m1) (hj : m1[j]? = some (p, obj C dx names sds)) (hl : sds.length ≤ names.length) (hm : mt ∉ names) (h : EvA K t ds m1 rs (pre ++ mc ++ post)) (hF : ∃ R, G (.rf p :: rs) mc R ∧ ∀ r m2, R r m2 → r = c ∧ m2 = mc') :
    Ev K (tMeth C mt (spOf K G) [] E ta t) ds m c (pre ++ mc' ++ post) := fun B H σ s st Q q =>
  ho B H σ s st _ fun x B1 H1 t1 s1 d1 => by
    have e : x = .ref p := d1
    subst e
    obtain ⟨vs, h1, _, _⟩ := s1.ob hj hl
    refine ⟨p, dx, _, rfl, h1, lookup_no (zip_keys hm), h B1 H1 σ s1 (st_mono t1.ex st) _ fun us B2 H2 t2 s2 d2 => ?_⟩
    rw [List.append_nil]
    exact blk_call (vs := .ref p :: us) s2 hF (rs := .rf p :: rs) ⟨rfl, d2⟩ Q fun v B3 H3 t3 s3 d3 => q v B3 H3 ((t1.trans t2).trans t3) s3 d3
/-! ### calls with any cells -/
theorem range_pick (m : M) : (List.range m.length).filterMap (fun i => m[i]?) = m := by
  induction m with
  | nil => rfl
  | cons a m ih =>
    rw [List.length_cons, List.range_succ_eq_map, List.filterMap_cons]
    show a :: ((List.range m.length).map Nat.succ).filterMap (fun i => (a :: m)[i]?) = a :: m
    rw [List.filterMap_map]
    exact congrArg (a :: ·) ih
theorem perm_ix {m m' : M} {n : Nat} (ix : List Nat) (hn : m.length = n) (h : ix.isPerm (List.range n) = true) (e : ix.filterMap (fun i => m[i]?) = m') : m'.Perm m := by
  subst e
  have hp := (List.isPerm_iff.mp h).filterMap (fun i => m[i]?)
  rw [← hn, range_pick] at hp
  exact hp
theorem any_call {vs : List V} {fr : M} (s1 : SOk K B m1 H) (hp : (mc ++ fr).Perm m1) (hp' : (mc' ++ fr).Perm m2) (hF : ∃ R, G rs mc R ∧ ∀ r m2, R r m2 → r = c ∧ m2 = mc') (d1 : SdAll K B rs vs) (Q : VK) (q : ∀ v B2 H2, Tr B H (keys m1) B2 H2 (keys m2) → SOk K B2 m2 H2 → SdOk K B2 c v → Q v H2) : spOf K G vs H Q E := by
  obtain ⟨R, hR, hq⟩ := hF
  have s1' : SOk K B (mc ++ fr) H := s1.perm hp
  refine ⟨B, rs, mc, R, hR, s1'.sub (List.sublist_append_left _ _), d1, fun v B2 H2 r m3 hr t2 s2 d2 => ?_⟩
  obtain ⟨rfl, rfl⟩ := hq r m3 hr
  obtain ⟨t3, s3⟩ := fr_ok s1' t2 s2
  exact q v B2 H2 (t3.perm (fun a => (hp.map Prod.fst).mem_iff) (fun a => (hp'.map Prod.fst).mem_iff)) (s3.perm hp'.symm) d2
/-- f(..) -/
theorem ev_callP {fr : M} (h : EvA K t ds m rs m1) (hp : (mc ++ fr).Perm m1) (hp' : (mc' ++ fr).Perm m2) (hF : ∃ R, G rs mc R ∧ ∀ r m2, R r m2 → r = c ∧ m2 = mc') : Ev K (tCall (spOf K G) [] E t) ds m c m2 := fun B H σ s st Q q =>
  h B H σ s st _ fun vs B1 H1 t1 s1 d1 => by
    rw [List.append_nil]
    exact any_call s1 hp hp' hF d1 Q fun v B2 H2 t2 s2 d2 => q v B2 H2 (t1.trans t2) s2 d2
/-- o.m(..) -/
theorem ev_methP (j : Nat) {mt : Str} {fr m3 : M} (ho : Ev K ta ds m (.rf p) m1) (hj : m1[j]? = some (p, obj C dx names sds)) (hl : sds.length ≤ names.length) (hm : mt ∉ names) (h : EvA K t ds m1 rs m2) (hp : (mc ++ fr).Perm m2) (hp' : (mc' ++ fr).Perm m3) (hF : ∃ R, G (.rf p :: rs) mc R ∧ ∀ r m2, R r m2 → r = c ∧ m2 = mc') :
    Ev K (tMeth C mt (spOf K G) [] E ta t) ds m c m3 := fun B H σ s st Q q =>
  ho B H σ s st _ fun x B1 H1 t1 s1 d1 => by
    have e : x = .ref p := d1
    subst e
    obtain ⟨vs, h1, _, _⟩ := s1.ob hj hl
    refine ⟨p, dx, _, rfl, h1, lookup_no (zip_keys hm), h B1 H1 σ s1 (st_mono t1.ex st) _ fun us B2 H2 t2 s2 d2 => ?_⟩
    rw [List.append_nil]
    exact any_call (vs := .ref p :: us) s2 hp hp' hF (rs := .rf p :: rs) ⟨rfl, d2⟩ Q fun v B3 H3 t3 s3 d3 => q v B3 H3 ((t1.trans t2).trans t3) s3 d3
/-! ### new cells in a group -/
/-- an expression that yields what r says of a, with new cells mN -/
def EvG {A : Type} (K : PySem.W.Frag) (te : TE) (ds : List SD) (m : M) (r : A → SD) (Good : A → M → Prop) (m1 : M) : Prop :=
  ∀ B H σ, SOk K B m H → StOk K B ds σ → ∀ Q : VK, (∀ v a mN B2 H2, Good a mN → Tr B H (keys m) B2 H2 (keys (m1 ++ mN)) → SOk K B2 (m1 ++ mN) H2 → SdOk K B2 (r a) v → Q v H2) → te σ H Q
theorem new_k0 {mN : M} {B0 H0 B1 H1 B2 H2 : Hp} {k0 : List Addr} (hk : ∀ a ∈ k0, H0 a ≠ none) (t0 : Tr B0 H0 k0 B1 H1 (keys m)) (t : Tr B1 H1 (keys m) B2 H2 (keys (m1 ++ mN))) (s : SOk K B2 (m1 ++ mN) H2) (hm : keys m1 = keys m) : ∀ a ∈ keys mN, a ∉ k0 := fun a ha z => by
  have nd : (List.map (fun p : Addr × CD => p.1) (m1 ++ mN)).Nodup := s.nd
  rw [List.map_append] at nd
  have h6 : a ∉ keys m1 := fun z2 => (List.nodup_append.mp nd).2.2 a z2 a ha rfl
  have h5 : a ∈ keys (m1 ++ mN) := by
    show a ∈ List.map _ _
    rw [List.map_append]
    exact List.mem_append_right _ ha
  rcases t.kys a h5 with h7 | h7
  · exact h6 (by rw [hm]; exact h7)
  · exact absurd h7 (t0.grow a (hk a z))
theorem eg_new {cd : CD} (h : EvN K te ds m cd m1) : EvG K te ds m SD.rf (fun p mN => mN = [(p, cd)]) m1 := fun B H σ s st Q q => h B H σ s st Q fun p B2 H2 t2 s2 => q (.ref p) p _ B2 H2 rfl t2 s2 rfl
theorem eg_make {Good : Addr → Addr → M → Prop} (h : EvA K t ds m rs m1) (hF : ∀ p dx, ∃ R, G (.rf p :: rs) [(p, obj C dx names [])] R ∧ ∀ r m2, R r m2 → r = .da .none ∧ Good p dx m2) :
    EvG K (tMake C (spOf K G) [] E t) ds m SD.rf (fun p mN => ∃ dx, Good p dx mN) m1 := fun B H σ s st Q q =>
  h B H σ s st _ fun vs B1 H1 t1 s1 d1 => by
    intro x dx hx hdx hne
    obtain ⟨R, hR, hq⟩ := hF x dx
    rw [List.append_nil]
    have hxB : B1 x = none := fresh_b s1 hx
    have tA : Tr B1 H1 (keys m1) B1 (upd H1 dx (.own x)) (keys m1) := ⟨Ex.refl _, fun _ _ _ z => z, fun a h1 hn xs => by
      by_cases e : a = dx
      · subst e; exact absurd hdx h1
      · rw [upd_ne e]; exact hn xs, fun a o _ z => by rw [upd_ne (ne_of_none z hdx)]; exact z, fun _ z => .inl z, fun a z => by
      by_cases e : a = dx
      · rw [e, upd_same]; exact fun q => nomatch q
      · rw [upd_ne e]; exact z⟩
    have sA : SOk K B1 m1 (upd H1 dx (.own x)) := ⟨fun a o z => by rw [upd_ne (ne_of_none (s1.ext a o z) hdx)]; exact s1.ext a o z, s1.nd, s1.out, fun q hq => by
      obtain ⟨o, g1, g2⟩ := s1.cel q hq
      exact ⟨o, by rw [upd_ne (ne_of_none g1 hdx)]; exact g1, g2⟩⟩
    have hx2 : (upd H1 dx (.own x)) x = none := by rw [upd_ne (Ne.symm hne)]; exact hx
    have cdx : CdOk K B1 (obj C dx names []) (.ins C dx []) := ⟨rfl, rfl, by rw [List.zip_nil_right]; exact True.intro⟩
    have tB := Tr.cell (c := obj C dx names []) (o := .ins C dx []) sA hx2
    have sB := sA.cell (c := obj C dx names []) hx2 cdx
    have sC : SOk K B1 ([(x, obj C dx names [])] ++ m1) (upd (upd H1 dx (.own x)) x (.ins C dx [])) := sB.perm List.perm_append_comm
    refine ⟨B1, .rf x :: rs, [(x, obj C dx names [])], R, hR, sC.sub (List.sublist_append_left _ _), ⟨rfl, d1⟩, fun v B2 H2 r m2 hr t2 s2 d2 => ?_⟩
    obtain ⟨rfl, hg⟩ := hq r m2 hr
    obtain ⟨t3, s3⟩ := fr_ok sC t2 s2
    have p1 : ∀ a, a ∈ keys ([(x, obj C dx names [])] ++ m1) ↔ a ∈ keys (m1 ++ [(x, obj C dx names [])]) := fun a => (List.perm_append_comm.map Prod.fst).mem_iff
    have p2 : ∀ a, a ∈ keys (m2 ++ m1) ↔ a ∈ keys (m1 ++ m2) := fun a => (List.perm_append_comm.map Prod.fst).mem_iff
    have t4 := t3.perm p1 p2
    have s4 : SOk K B2 (m1 ++ m2) H2 := s3.perm List.perm_append_comm
    have ev : v = .non := by
      have h' : Dq B2 v .none := d2
      cases h'
      rfl
    exact ⟨ev, q (.ref x) x m2 B2 H2 ⟨dx, hg⟩ (((t1.trans tA).trans tB).trans t4) s4 rfl⟩
/-- a def that gives new cells -/
theorem eg_call {A : Type} {r : A → SD} {Good : A → M → Prop} {fr : M} (h : EvA K t ds m rs m1) (hp : (mc ++ fr).Perm m1) (hp' : (mc' ++ fr).Perm m2) (hF : ∃ R, G rs mc R ∧ ∀ c mz, R c mz → ∃ a mN, c = r a ∧ mz = mc' ++ mN ∧ Good a mN) :
    EvG K (tCall (spOf K G) [] E t) ds m r Good m2 := fun B H σ s st Q q =>
  h B H σ s st _ fun vs B1 H1 t1 s1 d1 => by
    rw [List.append_nil]
    obtain ⟨R, hR, hq⟩ := hF
    have s1' : SOk K B1 (mc ++ fr) H1 := s1.perm hp
    refine ⟨B1, rs, mc, R, hR, s1'.sub (List.sublist_append_left _ _), d1, fun v B2 H2 c mz hr t2 s2 d2 => ?_⟩
    obtain ⟨a, mN, rfl, rfl, hg⟩ := hq c mz hr
    obtain ⟨t3, s3⟩ := fr_ok s1' t2 s2
    have pz : (mc' ++ mN ++ fr).Perm (m2 ++ mN) := by
      have e1 : (mc' ++ mN ++ fr).Perm (mc' ++ fr ++ mN) := by
        rw [List.append_assoc, List.append_assoc]
        exact List.Perm.append_left mc' List.perm_append_comm
      exact e1.trans (hp'.append_right mN)
    exact q v a mN B2 H2 hg (t1.trans (t3.perm (fun a => (hp.map Prod.fst).mem_iff) (fun a => (pz.map Prod.fst).mem_iff))) (s3.perm pz.symm) d2
theorem wp_asgG {A : Type} {r : A → SD} {Good : A → M → Prop} {i : Nat} (h : EvG F.K te ds m r Good m1) (k : ∀ a mN, Good a mN → (∀ x ∈ keys mN, x ∉ F.k0) → Wp F tz D (ds.set i (r a)) (m1 ++ mN)) (hm : keys m1 = keys m) : Wp F (tSeq (tAsg te (gName i)) tz) D ds m := fun σ H ⟨B, st, s, t, lo⟩ =>
  h B H σ s st _ fun v a mN B2 H2 hg t2 s2 d2 => k a mN hg (new_k0 F.hk t t2 s2 hm) _ H2 ⟨B2, st_set i (st_mono t2.ex st) (sl_of d2), s2, t.trans t2, lo.trans t2.ex⟩
/-- x = C(..) -/
theorem wp_make {i : Nat} {Good : Addr → Addr → M → Prop} (h : EvA F.K t ds m rs m1) (hF : ∀ p dx, ∃ R, G (.rf p :: rs) [(p, obj C dx names [])] R ∧ ∀ r m2, R r m2 → r = .da .none ∧ Good p dx m2)
    (k : ∀ p dx m2, Good p dx m2 → (∀ a ∈ keys m2, a ∉ F.k0) → Wp F tz D (ds.set i (.rf p)) (m1 ++ m2)) (hm : keys m1 = keys m) : Wp F (tSeq (tAsg (tMake C (spOf F.K G) [] E t) (gName i)) tz) D ds m :=
  wp_asgG (eg_make h hF) (fun p mN hg hn => hg.elim fun dx hg => k p dx mN hg hn) hm
/-- x, y = e, f, both new -/
theorem wp_parG {A A2 : Type} {r : A → SD} {r2 : A2 → SD} {Good : A → M → Prop} {Good2 : A2 → M → Prop} {i j : Nat} {tb : TE} (h : EvG F.K te ds m r Good m1) (h2 : ∀ a mN, Good a mN → EvG F.K tb ds (m1 ++ mN) r2 Good2 (m1 ++ mN))
    (k : ∀ a mN b mZ, Good a mN → Good2 b mZ → (∀ x ∈ keys (mN ++ mZ), x ∉ F.k0) → Wp F tz D ((ds.set i (r a)).set j (r2 b)) (m1 ++ mN ++ mZ)) (hm : keys m1 = keys m) : Wp F (tSeq (tPar i j (tCons te (tCons tb tNil))) tz) D ds m := fun σ H ⟨B, st, s, t, lo⟩ =>
  h B H σ s st _ fun v a mN B2 H2 hg t2 s2 d2 => h2 a mN hg B2 H2 σ s2 (st_mono t2.ex st) _ fun u b mZ B3 H3 hg2 t3 s3 d3 => by
    refine ⟨v, u, rfl, ?_⟩
    have s3' : SOk F.K B3 (m1 ++ (mN ++ mZ)) H3 := by rw [← List.append_assoc]; exact s3
    have t3' : Tr B H (keys m) B3 H3 (keys (m1 ++ (mN ++ mZ))) := by rw [← List.append_assoc]; exact t2.trans t3
    exact k a mN b mZ hg hg2 (new_k0 F.hk t t3' s3' hm) _ H3 ⟨B3, st_set j (st_set i (st_mono (t2.ex.trans t3.ex) st) (sl_of (sd_mono t3.ex d2))) (sl_of d3), s3, t.trans (t2.trans t3), lo.trans (t2.ex.trans t3.ex)⟩
/-! ### ends -/
theorem wp_fall {R : SD → M → Prop} (_ : Fin F D R) (hnx : ∀ σ B H m2, R (.da .none) m2 → Tr F.B0 F.H0 F.k0 B H (keys m2) → SOk F.K B m2 H → D.nx σ H) (hR : R (.da .none) m2) (hs : m2.Sublist m) : Wp F tNext D ds m := fun σ H ⟨B, st, s, t, lo⟩ =>
  hnx σ B H m2 hR (t.sub fun a z => (hs.map _).subset z) (s.sub hs)
theorem wp_retNS {R : SD → M → Prop} (hf : Fin F D R) (hR : R (.da .none) m2) (hs : m2.Sublist m) : Wp F (tSeq tRetN tz) D ds m := fun σ H ⟨B, st, s, t, lo⟩ =>
  hf .non B H _ m2 hR (t.sub fun a z => (hs.map _).subset z) (s.sub hs) .non
/-! ### code that is never reached -/
def tDead : TS := fun _ _ _ => False
theorem pss_dead {X : Cx} {ss : List Stmt} : PSs X ss tDead := ⟨fun _ _ _ _ _ _ h => h.elim⟩
/-- tuples of data and cells -/
theorem ev_tupP {es : List (PyData ⊕ Addr)} (h : EvA K t ds m (es.map fun e => match e with | .inl d => SD.da d | .inr l => SD.rf l) m') (hz : es.length ≤ 1000) : Ev K (tTup t) ds m (.tp es) m' := fun B H σ s st Q q => h B H σ s st _ fun vs B1 H1 t1 s1 d1 => by
  have key : ∀ {B : Hp} {es : List (PyData ⊕ Addr)} {vs : List V}, SdAll K B (es.map fun e => match e with | .inl d => SD.da d | .inr l => SD.rf l) vs → TpOk B es vs ∧ vs.length = es.length := by
    intro B es
    induction es with
    | nil =>
      intro vs h
      cases vs with
      | nil => exact ⟨True.intro, rfl⟩
      | cons v vs => exact h.elim
    | cons e es ih =>
      intro vs h
      cases vs with
      | nil => exact h.elim
      | cons v vs =>
        obtain ⟨h1, h2⟩ := ih h.2
        cases e with
        | inl d => exact ⟨⟨h.1, h1⟩, by rw [List.length_cons, List.length_cons, h2]⟩
        | inr l => exact ⟨⟨h.1, h1⟩, by rw [List.length_cons, List.length_cons, h2]⟩
  obtain ⟨k1, k2⟩ := key d1
  exact ⟨Nat.le_of_lt (small1000 (by omega)), fun p hp => q _ _ _ (t1.trans (Tr.data s1 hp)) (s1.data hp) ⟨p, vs, rfl, upd_same, tp_mono (Ex.new (fresh_b s1 hp)) k1⟩⟩
def sdOf : PyData ⊕ Addr → SD
  | .inl d => .da d
  | .inr l => .rf l
theorem tp_two {B : Hp} {a b : PyData ⊕ Addr} {vs : List V} (h : TpOk B [a, b] vs) : ∃ x y, vs = [x, y] ∧ SdOk K B (sdOf a) x ∧ SdOk K B (sdOf b) y := by
  cases vs with
  | nil => cases a <;> exact h.elim
  | cons x vs =>
    cases vs with
    | nil => cases a <;> cases b <;> exact h.2.elim
    | cons y vs =>
      cases vs with
      | nil => cases a <;> cases b <;> exact ⟨x, y, rfl, h.1, h.2.1⟩
      | cons z vs => cases a <;> cases b <;> exact h.2.2.elim
/-- x, y = e, e a tuple of data and cells, some of them new -/
theorem wp_unpG {A : Type} {ra rb : A → PyData ⊕ Addr} {Good : A → M → Prop} {i j : Nat} (h : EvG F.K te ds m (fun a => .tp [ra a, rb a]) Good m1) (k : ∀ a mN, Good a mN → (∀ x ∈ keys mN, x ∉ F.k0) → Wp F tz D ((ds.set i (sdOf (ra a))).set j (sdOf (rb a))) (m1 ++ mN)) (hm : keys m1 = keys m) :
    Wp F (tSeq (tAsg te (gTup F.K 2 (gCons (gName i) (gCons (gName j) gNil)))) tz) D ds m := fun σ H ⟨B, st, s, t, lo⟩ =>
  h B H σ s st _ fun v a mN B2 H2 hg t2 s2 d2 => by
    obtain ⟨p, vs, rfl, h1, h2⟩ := d2
    obtain ⟨x, y, rfl, dx, dy⟩ := tp_two (K := F.K) h2
    refine ⟨p, [x, y], rfl, SqT.of (s2.ext _ _ h1), rfl, x, [y], rfl, y, [], rfl, rfl, ?_⟩
    exact k a mN hg (new_k0 F.hk t t2 s2 hm) _ H2 ⟨B2, st_set j (st_set i (st_mono t2.ex st) (sl_of dx)) (sl_of dy), s2, t.trans t2, lo.trans t2.ex⟩
/-- x, y = e, e a tuple of data and cells -/
theorem wp_unpT {i j : Nat} {a b : PyData ⊕ Addr} (h : Ev F.K te ds m (.tp [a, b]) m1) (k : Wp F tz D ((ds.set i (sdOf a)).set j (sdOf b)) m1) : Wp F (tSeq (tAsg te (gTup F.K 2 (gCons (gName i) (gCons (gName j) gNil)))) tz) D ds m := fun σ H ⟨B, st, s, t, lo⟩ =>
  h B H σ s st _ fun v B2 H2 t2 s2 d2 => by
    obtain ⟨p, vs, rfl, h1, h2⟩ := d2
    obtain ⟨x, y, rfl, dx, dy⟩ := tp_two (K := F.K) h2
    refine ⟨p, [x, y], rfl, SqT.of (s2.ext _ _ h1), rfl, x, [y], rfl, y, [], rfl, rfl, ?_⟩
    exact k _ H2 ⟨B2, st_set j (st_set i (st_mono t2.ex st) (sl_of dx)) (sl_of dy), s2, t.trans t2, lo.trans t2.ex⟩
end
end FC
set_option maxHeartbeats 400000
/-! FD: texts, dicts that are walked, isinstance. -/
namespace FC
open PySem PySem.Spec PyProof.Rows L2 Evl
section
variable {K : PySem.W.Frag} {B H : Hp} {ds : List SD} {m m1 m2 m' : M} {α : Type} {f : α → PyData} {te td tl : TE} {r : SD} {l : Addr} {F : Fx} {D : Ends} {tz : TS}
/-! ### a dict that is walked: locked -/
theorem SOk.dk' {j : Nat} {kvs : List (Key × PyData)} (s : SOk K B m H) (hm : m[j]? = some (l, .dk kvs)) : ∃ ws, H l = some (.dK ws) ∧ KvOk B kvs ws := by
  obtain ⟨o, h, c⟩ := s.at hm
  cases o <;> first | exact ⟨_, h, c⟩ | exact c.elim
theorem SOk.lkd {j : Nat} {od : Obj} {ws : List (Key × V)} {kvs : List (Key × PyData)} (s : SOk K B m H) (hm : m[j]? = some (l, .lk od ws kvs)) : H l = some (.frz od (.dK ws)) ∧ KvOk B kvs ws := by
  obtain ⟨o, h, c⟩ := s.at hm
  cases o with
  | frz od' u =>
    obtain ⟨rfl, rfl, c⟩ := c
    exact ⟨h, c⟩
  | _ => exact c.elim
theorem set_back {j : Nat} {x y : Addr × CD} (h : m[j]? = some x) : (m.set j y).set j x = m := by
  rw [List.set_set]
  refine List.ext_getElem? fun i => ?_
  rw [List.getElem?_set]
  by_cases e : j = i
  · subst e
    have hl := (List.getElem?_eq_some_iff.mp h).1
    rw [if_pos rfl, if_pos hl, h]
  · rw [if_neg e]
theorem ev_lock (j : Nat) {kvs : List (Key × PyData)} (hj : m[j]? = some (l, .dk kvs)) (h : ∀ od ws, Ev K te ds (m.set j (l, .lk od ws kvs)) r (m'.set j (l, .lk od ws kvs))) (hj' : m'[j]? = some (l, .dk kvs)) : Ev K (tLockE te) ds m r m' := fun B H σ s st Q q => by
  obtain ⟨ws, h1, h2⟩ := s.dk' hj
  refine ⟨l, .dK ws, h1, True.intro, fun od => ?_⟩
  have cd : CdOk K B (.lk od ws kvs) (.frz od (.dK ws)) := ⟨rfl, rfl, h2⟩
  refine h od ws B _ σ (s.put hj cd) st _ fun v B2 H2 t2 s2 d2 => ?_
  have hl' := (List.getElem?_eq_some_iff.mp hj').1
  have hj2 : (m'.set j (l, CD.lk od ws kvs))[j]? = some (l, .lk od ws kvs) := List.getElem?_set_self hl'
  obtain ⟨g1, g2⟩ := s2.lkd hj2
  have cd2 : CdOk K B2 (.dk kvs) (.dK ws) := g2
  have s3 := s2.put hj2 cd2
  have t3 := Tr.put s2 hj2 cd2
  rw [set_back hj'] at s3 t3
  exact ⟨g1, q v B2 _ (((Tr.put s hj cd).trans t2).trans t3) s3 d2⟩
/-- x = e, a dict locked the while -/
theorem wp_lockA {i : Nat} (j : Nat) {kvs : List (Key × PyData)} (hj : m[j]? = some (l, .dk kvs)) (h : ∀ od ws, Ev F.K te ds (m.set j (l, .lk od ws kvs)) r (m'.set j (l, .lk od ws kvs))) (hj' : m'[j]? = some (l, .dk kvs)) (k : Wp F tz D (ds.set i r) m') : Wp F (tSeq (tLock (tAsg te (gName i))) tz) D ds m := fun σ H ⟨B, st, s, t, lo⟩ => by
  obtain ⟨ws, h1, h2⟩ := s.dk' hj
  refine ⟨l, .dK ws, h1, True.intro, fun od => ?_⟩
  have cd : CdOk F.K B (.lk od ws kvs) (.frz od (.dK ws)) := ⟨rfl, rfl, h2⟩
  refine h od ws B _ σ (s.put hj cd) st _ fun v B2 H2 t2 s2 d2 => ?_
  have hl' := (List.getElem?_eq_some_iff.mp hj').1
  have hj2 : (m'.set j (l, CD.lk od ws kvs))[j]? = some (l, .lk od ws kvs) := List.getElem?_set_self hl'
  obtain ⟨g1, g2⟩ := s2.lkd hj2
  have cd2 : CdOk F.K B2 (.dk kvs) (.dK ws) := g2
  have s3 := s2.put hj2 cd2
  have t3 := Tr.put s2 hj2 cd2
  rw [set_back hj'] at s3 t3
  exact ⟨g1, k _ _ ⟨B2, st_set i (st_mono t2.ex st) (sl_of d2), s3, t.trans (((Tr.put s hj cd).trans t2).trans t3), lo.trans t2.ex⟩⟩
theorem kv_at {κ : Type} : ∀ {kvs : List (κ × PyData)} {ws : List (κ × V)} {i : Nat} {k : κ} {v : V}, KvOk B kvs ws → ws[i]? = some (k, v) → ∃ d, kvs[i]? = some (k, d) ∧ Dq B v d
  | _ :: _, _ :: _, 0, _, _, h, e => by
    cases Option.some.inj e
    exact ⟨_, by rw [List.getElem?_cons_zero]; exact congrArg some (Prod.ext h.1.1 rfl), h.1.2⟩
  | _ :: kvs, _ :: ws, i + 1, _, _, h, e => kv_at (kvs := kvs) (ws := ws) (i := i) h.2 e
  | [], [], _, _, _, _, e => by simp at e
  | [], _ :: _, _, _, _, h, _ => h.elim
  | _ :: _, [], _, _, _, h, _ => h.elim
theorem kv_len' {κ : Type} : ∀ {kvs : List (κ × PyData)} {ws : List (κ × V)}, KvOk B kvs ws → ws.length = kvs.length
  | [], [], _ => rfl
  | _ :: kvs, _ :: ws, h => congrArg (· + 1) (kv_len' h.2)
  | [], _ :: _, h => h.elim
  | _ :: _, [], h => h.elim
/-- the keys of a locked dict -/
theorem src_DS (j0 : Nat) {kvs : List (Str × α)} {od : Obj} {ws : List (Key × V)} {j : Nat} (h : Ev K td ds m (.rf l) m1) (hj : m1[j0]? = some (l, .lk od ws (eK kS f kvs))) :
    Src K (iKeys td) (gName j) ds m m1 (fun m' => m'[j0]? = some (l, .lk od ws (eK kS f kvs))) (kvs.map (·.1)) (fun x ds => ds.set j (.da (dS x))) [j] := fun B H σ s st R q => h B H σ s st _ fun v B1 H1 t1 s1 d1 => by
  have e : v = .ref l := d1
  subst e
  obtain ⟨h1, h2⟩ := s1.lkd hj
  have hl : ws.length = kvs.length := by
    rw [kv_len' h2]
    unfold eK
    rw [List.length_map]
  refine ⟨l, od, rfl, .inl ⟨ws, h1, q _ B1 H1 t1 s1 ⟨fun i H B' m' hi e g s => ?_, fun H B' m' e g s => ?_, fun i x v H H' B' m' ds σ hx e g s st hy Q q => ?_⟩⟩⟩
  · rw [List.length_map] at hi
    exact ⟨(s.lkd g).1, by omega⟩
  · exact ⟨(s.lkd g).1, by rw [List.length_map]; omega⟩
  · obtain ⟨rfl, k, u, hk, rfl⟩ := hy
    obtain ⟨d, g1, _⟩ := kv_at h2 hk
    unfold eK at g1
    rw [List.getElem?_map] at g1 hx
    cases e2 : kvs[i]? with
    | none => rw [e2] at hx; cases hx
    | some p =>
      rw [e2] at g1 hx
      have e3 := Option.some.inj hx
      have e4 := (Prod.mk.inj (Option.some.inj g1)).1
      subst e3
      rw [← e4]
      exact tg_name s st (.str p.1) Q q
/-- a locked dict is read -/
theorem ev_dgetL (j : Nat) {kvs : List (Str × α)} {k : Str} {a : α} {od : Obj} {ws : List (Key × V)} {ty : TE} (hd : Ev K td ds m (.rf l) m1) (hy : Ev K ty ds m1 (.da (dS k)) m2) (hj : m2[j]? = some (l, .lk od ws (eK kS f kvs))) (h : dget kvs k = some a) : Ev K (tDGet td ty) ds m (.da (f a)) m2 := fun B H σ s st Q q =>
  hd B H σ s st _ fun x B1 H1 t1 s1 d1 => hy B1 H1 σ s1 (st_mono t1.ex st) _ fun y B2 H2 t2 s2 d2 => by
    obtain ⟨h1, h2⟩ := s2.lkd hj
    have h3 := kv_get (fun _ _ => kS_inj) (k := k) h2
    rw [h] at h3
    obtain ⟨v, h5, h6⟩ := h3
    refine ⟨l, v, d1, ?_, q v B2 H2 (t1.trans t2) s2 h6⟩
    rw [key_S d2]
    exact .inl ⟨ws, kS k, .inr ⟨od, h1⟩, rfl, h5.symm⟩
/-! ### texts -/
theorem src_St {x : Str} {j : Nat} (h : Ev K tl ds m (.da (dS x)) m1) : Src K (iStr tl) (gName j) ds m m1 (fun _ => True) (x.cps.toList.map fun c => (⟨#[c]⟩ : Str)) (fun x ds => ds.set j (.da (dS x))) [j] := fun B H σ s st R q => h B H σ s st _ fun v B1 H1 t1 s1 d1 => by
  obtain rfl := str_of d1
  refine ⟨x, rfl, q _ B1 H1 t1 s1 ⟨fun i H B' m' hi e g s => ?_, fun H B' m' e g s => ?_, fun i a v H H' B' m' ds σ hx e g s st hy Q q => ?_⟩⟩
  · rw [List.length_map, Array.length_toList] at hi
    exact hi
  · show x.cps.size ≤ _
    rw [List.length_map, Array.length_toList]
    exact Nat.le_refl _
  · obtain ⟨rfl, c, hc, rfl⟩ := hy
    rw [List.getElem?_map, Array.getElem?_toList, hc] at hx
    have e3 := Option.some.inj hx
    subst e3
    exact tg_name s st (.str _) Q q
/-- one sign in a text -/
def inS (x z : Str) : Option Bool := match x.cps.toList with
  | [c] => some (decide (c ∈ z.cps.toList))
  | _ => none
theorem rr_inS {x z : Str} {b : Bool} (h : inS x z = some b) : Rr K rInS (.da (dS x)) (.da (dS z)) m (.da (dB b)) m := Rr.of fun B H u v s dx dy Q q => by
  obtain rfl := str_of dx
  obtain rfl := str_of dy
  unfold inS at h
  split at h
  · rename_i c hc
    refine ⟨c, z, ?_, rfl, ?_⟩
    · have e : x.cps = #[c] := by rw [← Array.toArray_toList (xs := x.cps), hc]
      cases x
      cases e
      rfl
    · rw [Option.some.inj h]
      exact q _ (.bl _)
  · cases h
def getS (z : Str) (i : Int) : Option Str := if z.length ≤ 16000000 then (atI z.cps.toList i).map fun c => ⟨#[c]⟩ else none
theorem rr_ixS {z x : Str} {i : Int} (h : getS z i = some x) : Rr K rIxS (.da (dS z)) (.da (dI i)) m (.da (dS x)) m := Rr.of fun B H u v s dx dy Q q => by
  obtain rfl := str_of dx
  obtain rfl := int_of dy
  unfold getS at h
  split at h
  · rename_i hl
    obtain ⟨c, h1, h2⟩ := Option.map_eq_some_iff.mp h
    subst h2
    exact ⟨z, i, c, rfl, rfl, by rw [sizeLine_eq]; omega, h1, q _ (.str _)⟩
  · cases h
def rCatSt : R2 := fun x y H Q => ∃ i j, x = .str i ∧ y = .str j ∧ i.length + j.length ≤ sizeLine ∧ Q (.str (i ++ j)) H
theorem op_catSt {X : Cx} : OpR X (binaryOp .Add) rCatSt := op_add_str
theorem rr_catS {x z : Str} (h : lenG (x.length + z.length) = some ()) : Rr K rCatSt (.da (dS x)) (.da (dS z)) m (.da (dS (x ++ z))) m := Rr.of fun B H u v s dx dy Q q => by
  obtain rfl := str_of dx
  obtain rfl := str_of dy
  exact ⟨x, z, rfl, rfl, by have := lenG_some h; rw [sizeLine_eq]; omega, q _ (.str _)⟩
def rMulSt : R2 := fun x y H Q => ∃ z i, x = .str z ∧ y = .int i ∧ PySem.MulOk z i ∧ Q (.str (Txt.mul z i)) H
theorem op_mulSt {X : Cx} : OpR X (binaryOp .Mult) rMulSt := by
  intro pins s σ H x y v u Q I rx ry h
  obtain ⟨z, i, rfl, rfl, ok, q⟩ := h
  obtain ⟨t, rfl⟩ := rx
  obtain ⟨t', rfl⟩ := ry
  exact SB.mul ok fun t2 k => ⟨.str (Txt.mul z i), H, I.tok _, ⟨t2, rfl⟩, q⟩
instance (z : Str) (i : Int) : Decidable (PySem.MulOk z i) := by unfold PySem.MulOk; infer_instance
def mulS (z : Str) (i : Int) : Option Str := if PySem.MulOk z i then some (Txt.mul z i) else none
theorem rr_mulS {z x : Str} {i : Int} (h : mulS z i = some x) : Rr K rMulSt (.da (dS z)) (.da (dI i)) m (.da (dS x)) m := Rr.of fun B H u v s dx dy Q q => by
  obtain rfl := str_of dx
  obtain rfl := int_of dy
  unfold mulS at h
  split at h
  · rename_i ok
    refine ⟨z, i, rfl, rfl, ok, ?_⟩
    rw [Option.some.inj h]
    exact q _ (.str _)
  · cases h
theorem ev_tcS {x : Str} : Ev K (tC (.str x)) ds m (.da (dS x)) m := fun B H σ s st Q q => q _ B H (Tr.refl _ _ _) s (.str x)
theorem ev_tcI {i : Int} : Ev K (tC (.int i)) ds m (.da (dI i)) m := fun B H σ s st Q q => q _ B H (Tr.refl _ _ _) s (.int i)
def rLenSt : List V → Hp → VK → Prop := fun xs H Q => ∃ z, xs = [.str z] ∧ z.length ≤ sizeLine ∧ Q (.int z.length) H
theorem call_len_strA {X : Cx} : CallR X (.builtin "len") rLenSt := call_len_str
theorem rc_lenS {z : Str} (h : lenG z.length = some ()) : Rc K rLenSt [.da (dS z)] m (.da (dI z.length)) m := Rc.of fun B H vs s dx Q q => by
  obtain ⟨v, rfl, d1⟩ := sda1 dx
  obtain rfl := str_of d1
  exact ⟨z, rfl, by have := lenG_some h; rw [sizeLine_eq]; omega, q _ (.int _)⟩
def rLenDk : List V → Hp → VK → Prop := fun xs H Q => ∃ a kvs, xs = [V.ref a] ∧ H a = some (.dK kvs) ∧ Q (.int kvs.length) H
theorem call_lenDk {X : Cx} : CallR X (.builtin "len") rLenDk := call_lenD
theorem rc_lenD (j : Nat) {kvs : List (Str × α)} (hj : m[j]? = some (l, .dk (eK kS f kvs))) : Rc K rLenDk [.rf l] m (.da (dI kvs.length)) m := Rc.of fun B H vs s dx Q q => by
  obtain ⟨v, rfl, d1⟩ := sda1 dx
  have e : v = .ref l := d1
  subst e
  obtain ⟨ws, h1, h2⟩ := s.dk' hj
  refine ⟨l, ws, rfl, h1, ?_⟩
  have hl := kv_len' h2
  unfold eK at hl
  rw [List.length_map] at hl
  rw [hl]
  exact q _ (.int _)
/-! ### sorted(d), d.pop(k), d != {} -/
theorem rising_pw : ∀ {xs : List Str} {p : Str}, risingS p xs = true → (p :: xs).Pairwise fun a b => ltS b a = false
  | [], p, _ => List.pairwise_singleton _ _
  | x :: r, p, h => by
    have h' : (!ltCps x.cps.toList p.cps.toList && risingS x r) = true := h
    rw [Bool.and_eq_true] at h'
    have h1 : ltS x p = false := by
      have h2 := h'.1
      rw [ltCps_eq] at h2
      unfold ltS
      simpa using h2
    have ih := rising_pw h'.2
    refine List.pairwise_cons.mpr ⟨fun y hy => ?_, ih⟩
    rcases List.mem_cons.mp hy with e | hy
    · rw [e]
      exact h1
    · exact Tot.ntr (lt := ltS) inferInstance h1 ((List.pairwise_cons.mp ih).1 y hy)
def rSortDS : List V → Hp → VK → Prop := fun xs H Q => ∃ (a : Addr) (kvs : List (Key × V)) (ks : List Str), xs = [.ref a] ∧ Rd H a (.dK kvs) ∧ kvs.map (·.1) = ks.map Sum.inr ∧ ks.length < 64 ∧ ∀ ys p, ys.Perm ks → sortedS ys = true → H p = none → Q (.ref p) (upd H p (.lst (ys.map V.str)))
theorem cr_sortDS {X : Cx} (hc : X.calm = true) : CallR X (.builtin "sorted") rSortDS := call_sortedD hc
theorem kv_keysS {kvs : List (Str × α)} : ∀ {ws : List (Key × V)}, KvOk B (eK kS f kvs) ws → ws.map (·.1) = (kvs.map (·.1)).map Sum.inr := by
  induction kvs with
  | nil =>
    intro ws h
    cases ws with
    | nil => rfl
    | cons w ws => exact h.elim
  | cons p kvs ih =>
    intro ws h
    cases ws with
    | nil => exact h.elim
    | cons w ws =>
      rw [List.map_cons, List.map_cons, List.map_cons, ih h.2]
      have e : kS p.1 = w.1 := h.1.1
      rw [← e]
      rfl
theorem dqa_txts {B : Hp} : ∀ ys : List Str, DqAll B (ys.map V.str) (ys.map dS)
  | [] => .nil
  | y :: ys => .cons (.str y) (dqa_txts ys)
def lenS (n : Nat) : Option Unit := if n < 64 then some () else none
theorem rc_sortDS (j : Nat) {kvs : List (Str × α)} (hj : m[j]? = some (l, .dk (eK kS f kvs))) (hn : lenS kvs.length = some ()) : Rc K rSortDS [.rf l] m (.da (dL dS (srt ltS (kvs.map (·.1))))) m := fun B H vs s dx Q q => by
  obtain ⟨v, rfl, d1⟩ := sda1 dx
  have e : v = .ref l := d1
  subst e
  obtain ⟨ws, h1, h2⟩ := s.dk' hj
  have h64 : kvs.length < 64 := by
    unfold lenS at hn
    split at hn
    · assumption
    · cases hn
  refine ⟨l, ws, kvs.map (·.1), rfl, .inl h1, kv_keysS h2, by rw [List.length_map]; exact h64, fun ys p hp hs hn => ?_⟩
  have e2 : srt ltS (kvs.map (·.1)) = ys := by
    refine srt_uniq hp ?_
    cases ys with
    | nil => exact List.Pairwise.nil
    | cons y ys => exact rising_pw hs
  refine q _ _ _ (Tr.data s hn) (s.data hn) (Dq.lst upd_same ?_)
  rw [e2]
  exact dqa_txts ys
theorem ev_dpop (j : Nat) {kvs : List (Str × α)} {k : Str} {a : α} {ty : TE} (hd : Ev K td ds m (.rf l) m1) (hd0 : m1[j]? = some (l, .dk (eK kS f kvs))) (hy : Ev K ty ds m1 (.da (dS k)) m2) (hj : m2[j]? = some (l, .dk (eK kS f kvs))) (h : dget kvs k = some a) :
    Ev K (tDPop1 td ty) ds m (.da (f a)) (m2.set j (l, .dk (eK kS f (ddrop kvs k)))) := fun B H σ s st Q q =>
  hd B H σ s st _ fun x B1 H1 t1 s1 d1 => by
    have e : x = .ref l := d1
    subst e
    obtain ⟨ws0, g1, _⟩ := s1.dk' hd0
    refine ⟨l, rfl, .inl ⟨ws0, .inl g1⟩, hy B1 H1 σ s1 (st_mono t1.ex st) _ fun y B2 H2 t2 s2 d2 => ?_⟩
    obtain ⟨ws, h1, h2⟩ := s2.dk' hj
    have h3 := kv_get (fun _ _ => kS_inj) (k := k) h2
    rw [h] at h3
    obtain ⟨v, h5, h6⟩ := h3
    have h7 : CdOk K B2 (.dk (eK kS f (ddrop kvs k))) (.dK (dropK ws (kS k))) := kv_drop (fun _ _ => kS_inj) h2
    exact ⟨ws, kS k, v, h1, key_S d2, h5, q v B2 _ ((t1.trans t2).trans (Tr.put s2 hj h7)) (s2.put hj h7) h6⟩
/-- d != {} -/
def rNeE : R2 := fun x y H Q => ∃ a b ks, x = .ref a ∧ y = .ref b ∧ H a = some (.dK ks) ∧ H b = some (.dK []) ∧ Q (.bl (!ks.isEmpty)) H
theorem op_neE {X : Cx} (hu : X.A.units < cLine) : OpR X (compareOp .NotEq) rNeE := by
  intro pins s σ H x y v u Q I rx ry h
  obtain ⟨a, b, ks, rfl, rfl, ea, eb, q⟩ := h
  cases ks with
  | nil => exact op_ne_dictA hu pins s σ H _ _ v u Q I rx ry ⟨a, b, [], [], rfl, rfl, ea, eb, rfl, (fun _ h => nomatch h), q⟩
  | cons k ks =>
    obtain rfl : v = Value.ref a := rx
    obtain rfl : u = Value.ref b := ry
    obtain ⟨_, ya, va, ra, da⟩ := (show ObjOk X.prog X.w H s.heap a (.dK (k :: ks)) from I.hok a _ ea)
    obtain ⟨_, yb, vb, rb, db⟩ := (show ObjOk X.prog X.w H s.heap b (.dK []) from I.hok b _ eb)
    have h1 : va.length = ks.length + 1 := ra.length.symm
    have h2 : vb.length = 0 := rb.length.symm
    refine PySem.W.keq_ne (knd := mixKind X.prog X.w) (r := true) ya yb da db hu (fun e => by omega) (fin_bl I q ?_)
    have : (va.length == vb.length) = false := by
      rw [h1, h2]
      rfl
    rw [this]
    rfl
theorem ev_neE (j : Nat) {kvs : List (Str × α)} {ta tb : TE} (ha : Ev K ta ds m (.rf l) m1) (hb : tb = tDNewK) (hj : m1[j]? = some (l, .dk (eK kS f kvs))) : Ev K (tOp rNeE ta tb) ds m (.da (dB (!kvs.isEmpty))) m1 := fun B H σ s st Q q => by
  subst hb
  exact ha B H σ s st _ fun x B1 H1 t1 s1 d1 => by
    have e : x = .ref l := d1
    subst e
    intro p hp
    obtain ⟨ws, h1, h2⟩ := s1.dk' hj
    refine ⟨l, p, ws, rfl, rfl, by rw [upd_ne (ne_of_none h1 hp)]; exact h1, upd_same, ?_⟩
    have e2 : ws.isEmpty = kvs.isEmpty := by
      have hl := kv_len' h2
      unfold eK at hl
      rw [List.length_map] at hl
      cases ws <;> cases kvs <;> first | rfl | (simp at hl)
    rw [e2]
    exact q _ _ _ (t1.trans (Tr.data s1 hp)) (s1.data hp) (.bl _)
/-! ### isinstance of what has a known kind -/
def kindOf : PyData → String
  | .none => "NoneType"
  | .bool _ => "bool"
  | .int _ => "int"
  | .str _ => "str"
  | .list _ => "list"
  | .tuple _ => "tuple"
  | .dict _ => "dict"
theorem ty_of {v : V} {d : PyData} (s : SOk K B m H) (h : Dq B v d) : TyX K H v (.type (kindOf d)) := by
  cases h with
  | non => exact .base .non
  | bl b => exact .base (.bl b)
  | int i => exact .base (.int i)
  | str x => exact .base (.str x)
  | lst h _ => exact .base (.lst (s.ext _ _ h))
  | tup h _ => exact .base (.tup (s.ext _ _ h))
/-- the arguments: the value, the class by its name -/
theorem ev_isi {ta : TE} {d : PyData} {T : String} {b : Bool} (h : Ev K ta ds m (.da d) m1) (hk : kitB (kindOf d) T = some b) : Ev K (tCB (rIsi K) (tCons ta (tCons (tC (.ty T)) tNil))) ds m (.da (dB b)) m1 := fun B H σ s st Q q =>
  h B H σ s st _ fun v B1 H1 t1 s1 d1 => ⟨v, .ty T, .type (kindOf d), .type T, b, rfl, .ty T, ty_of s1 d1, kit_ty hk, q _ B1 H1 t1 s1 (.bl b)⟩
end
end FC
set_option maxHeartbeats 400000
/-! FJ: raw data: isinstance with a tuple of classes, a comparison with itself, zips. -/
namespace FC
open PySem PySem.Spec PyProof.Rows L2 Evl
section
variable {K : PySem.W.Frag} {B H : Hp} {ds : List SD} {m m1 m2 m' : M} {ta tb te : TE} {d e : PyData}
def isSeq (d : PyData) : Bool := kindOf d == "list" || kindOf d == "tuple"
theorem kit_seq (d : PyData) : PySem.W.kitAny K (.type (kindOf d)) [.type "list", .type "tuple"] = some (isSeq d) := by
  have key : ∀ k : String, ∀ b1 b2 : Bool, kitB k "list" = some b1 → kitB k "tuple" = some b2 → PySem.W.kitAny K (.type k) [.type "list", .type "tuple"] = some (b1 || b2) := fun k b1 b2 h1 h2 => by
    unfold PySem.W.kitAny
    rw [kit_ty h1]
    cases b1 with
    | true => rfl
    | false =>
      show PySem.W.kitAny K (.type k) [.type "tuple"] = _
      unfold PySem.W.kitAny
      rw [kit_ty h2]
      cases b2 <;> rfl
  cases d with
  | none => exact key "NoneType" false false (by decide +kernel) (by decide +kernel)
  | bool b => exact key "bool" false false (by decide +kernel) (by decide +kernel)
  | int i => exact key "int" false false (by decide +kernel) (by decide +kernel)
  | str x => exact key "str" false false (by decide +kernel) (by decide +kernel)
  | list xs => exact key "list" true false (by decide +kernel) (by decide +kernel)
  | tuple xs => exact key "tuple" false true (by decide +kernel) (by decide +kernel)
  | dict kvs => exact key "dict" false false (by decide +kernel) (by decide +kernel)
theorem ev_isiT (h : Ev K ta ds m (.da d) m1) : Ev K (tCB (rIsiT K) (tCons ta (tCons (tTup (tCons (tC (.ty "list")) (tCons (tC (.ty "tuple")) tNil))) tNil))) ds m (.da (dB (isSeq d))) m1 := fun B H σ s st Q q =>
  h B H σ s st _ fun v B1 H1 t1 s1 d1 => by
    refine ⟨by rw [sizeLine_eq]; show 2 ≤ 16777216; omega, fun p hp => ?_⟩
    have s2 := s1.data (o := .tup [.ty "list", .ty "tuple"]) hp
    have t2 := Tr.data (o := .tup [.ty "list", .ty "tuple"]) s1 hp
    exact ⟨v, p, _, .type (kindOf d), [.type "list", .type "tuple"], isSeq d, rfl, upd_same, .cons (.ty "list") (.cons (.ty "tuple") .nil), ty_of s2 (dp_mono t2.ex d1), kit_seq d, q _ _ _ (t1.trans t2) s2 (.bl _)⟩
/-! ### the law's own look whether two are alike -/
def SamOk : Nat → PyData → Prop
  | _, .none => True
  | _, .bool _ => True
  | _, .int _ => True
  | _, .str _ => True
  | n + 1, .list xs => xs.length ≤ 16000000 ∧ ∀ x ∈ xs, SamOk n x
  | n + 1, .tuple xs => xs.length ≤ 16000000 ∧ ∀ x ∈ xs, SamOk n x
  | _, _ => False
def pfSame : Nat → Pf
  | 0 => fun _ _ _ => False
  | n + 1 => fun as m R => ∃ d, SamOk n d ∧ as = [.da d, .da d] ∧ m = [] ∧ R = fun c m2 => c = .da (dB true) ∧ m2 = []
open Classical in
noncomputable def samG (n : Nat) (a b : PyData) : Option Bool := if a = b ∧ SamOk (n - 1) a ∧ 0 < n then some true else none
theorem samG_some {n : Nat} {a b : PyData} {r : Bool} (h : samG n a b = some r) : a = b ∧ (SamOk (n - 1) a ∧ 0 < n) ∧ r = true := by
  unfold samG at h
  split at h
  · rename_i q
    exact ⟨q.1, q.2, (Option.some.inj h).symm⟩
  · cases h
/-- raw items -/
theorem list_id (xs : List PyData) : PyData.list xs = dL id xs := by
  show _ = PyData.list (xs.map id)
  rw [List.map_id]
theorem tup_id (xs : List PyData) : PyData.tuple xs = dU id xs := by
  show _ = PyData.tuple (xs.map id)
  rw [List.map_id]
theorem zip_self_id (xs : List PyData) : xs.zip xs = xs.map fun x => (x, x) := by
  induction xs with
  | nil => rfl
  | cons x xs ih => rw [List.zip_cons_cons, ih]; rfl
/-- a scalar is itself -/
theorem rr_eqSc {d : PyData} (h : isSeq d = false) (hd : kindOf d ≠ "dict") : Rr K rEq (.da d) (.da d) m (.da (dB true)) m := Rr.of fun B H u v s dx dy Q q => by
  have dx' : Dq B u d := dx
  have dy' : Dq B v d := dy
  cases d with
  | none => cases dx'; cases dy'; exact ⟨rfl, by rw [decide_eq_true rfl]; exact q _ (.bl _)⟩
  | bool b => cases dx'; cases dy'; exact ⟨rfl, by rw [decide_eq_true rfl]; exact q _ (.bl _)⟩
  | int i => cases dx'; cases dy'; exact ⟨rfl, by rw [decide_eq_true rfl]; exact q _ (.bl _)⟩
  | str x => cases dx'; cases dy'; exact ⟨rfl, by rw [decide_eq_true rfl]; exact q _ (.bl _)⟩
  | list xs => exact absurd h (by show ¬ (true = false); decide)
  | tuple xs => exact absurd h (by show ¬ (true = false); decide)
  | dict kvs => exact absurd rfl hd
/-- d is None -/
theorem rr_isNoX {d : PyData} : Rr K rIsNo (.da d) (.da .none) m (.da (dB (kindOf d == "NoneType"))) m := Rr.of fun B H x y s dx dy Q q => by
  have dx' : Dq B x d := dx
  refine ⟨non_of dy, ?_⟩
  have key : decide (x = .non) = (kindOf d == "NoneType") := by
    cases dx' <;> rfl
  rw [key]
  exact q _ (.bl _)
/-- a call of the law's own look -/
theorem ev_same {n : Nat} {E : XK} {t : TA} {r : Bool} (h : EvA K t ds m [.da d, .da e] m1) (hs : samG n d e = some r) : Ev K (tCall (spOf K (pfSame n)) [] E t) ds m (.da (dB r)) m1 := by
  obtain ⟨rfl, h2, rfl⟩ := samG_some hs
  cases n with
  | zero => exact absurd h2.2 (Nat.lt_irrefl _)
  | succ n => exact ev_call h ⟨_, ⟨d, h2.1, rfl, rfl, rfl⟩, fun _ _ h => h⟩
end
end FC
set_option maxHeartbeats 400000
/-! FP: a calculus for the mirrors: what a chain of binds yields. -/
namespace FC
open PySem PySem.Spec PyProof.Rows L2 Evl
section
variable {α β S R : Type}
def Ok (o : Option α) (P : α → Prop) : Prop := ∃ r, o = some r ∧ P r
theorem Ok.mk {a : α} {P : α → Prop} (h : P a) : Ok (some a) P := ⟨a, rfl, h⟩
theorem Ok.bind {o : Option α} {f : α → Option β} {P : α → Prop} {Q : β → Prop} (h : Ok o P) (k : ∀ a, P a → Ok (f a) Q) : Ok (o.bind f) Q := by
  obtain ⟨a, rfl, ha⟩ := h
  exact k a ha
theorem Ok.mono {o : Option α} {P Q : α → Prop} (h : Ok o P) (k : ∀ a, P a → Q a) : Ok o Q := by
  obtain ⟨a, e, ha⟩ := h
  exact ⟨a, e, k a ha⟩
theorem Ok.eq {o : Option α} {a : α} (h : Ok o (· = a)) : o = some a := by
  obtain ⟨b, e, rfl⟩ := h
  exact e
theorem Ok.of {o : Option α} {a : α} {f : α → Option β} {Q : β → Prop} (h : o = some a) (k : Ok (f a) Q) : Ok (o.bind f) Q := by
  subst h
  exact k
theorem Ok.with {o : Option α} {P : α → Prop} {a : α} (h : Ok o P) (e : o = some a) : P a := by
  obtain ⟨b, e2, hb⟩ := h
  rw [e] at e2
  exact Option.some.inj e2 ▸ hb
theorem ok_len {n : Nat} {f : Unit → Option β} {Q : β → Prop} (h : n ≤ 16000000) (k : Ok (f ()) Q) : Ok ((lenG n).bind f) Q := Ok.of (by unfold lenG; rw [if_pos h]) k
theorem ok_mul {i j : Int} {f : Int → Option β} {Q : β → Prop} (h : MulOk i j) (k : Ok (f (i * j)) Q) : Ok ((mulG i j).bind f) Q := Ok.of (by unfold mulG; rw [if_pos h]) k
theorem mulOk_l {i j : Int} (h : -(2 ^ 64) < i ∧ i < 2 ^ 64) : MulOk i j := .inl (.inl h)
theorem mulOk_r {i j : Int} (h : -(2 ^ 64) < j ∧ j < 2 ^ 64) : MulOk i j := .inl (.inr h)
theorem ok_mod {i j : Int} {f : Int → Option β} {Q : β → Prop} (h : 0 < j) (k : 0 ≤ i % j → i % j < j → Ok (f (i % j)) Q) : Ok ((modG i j).bind f) Q := Ok.of (by unfold modG; rw [if_pos h]) (k (Int.emod_nonneg _ (by omega)) (Int.emod_lt_of_pos _ h))
theorem ok_div {i j : Int} {f : Int → Option β} {Q : β → Prop} (h : 0 < j) (h2 : j < 1073741824) (k : Ok (f (i / j)) Q) : Ok ((fdivG i j).bind f) Q := by
  refine Ok.of ?_ k
  unfold fdivG
  rw [if_pos]
  refine .inr ⟨h, ?_⟩
  have h1 : j.natAbs < 2 ^ 30 := by
    have : (2 : Nat) ^ 30 = 1073741824 := by decide
    omega
  by_cases h0 : j.natAbs = 0
  · rw [h0]
    decide
  · have := (Nat.log2_lt h0).mpr h1
    omega
theorem getI_nat {xs : List α} {i : Int} {x : α} (h0 : 0 ≤ i) (h : xs[i.toNat]? = some x) : getI xs i = some x := by
  have e : ((i.toNat : Nat) : Int) = i := Int.toNat_of_nonneg h0
  have h2 := atI_nat (j := i.toNat) h
  rw [e] at h2
  exact h2
theorem ok_get {xs : List α} {i : Int} {f : α → Option β} {Q : β → Prop} (h0 : 0 ≤ i) (h1 : i < xs.length) (k : ∀ x, xs[i.toNat]? = some x → x ∈ xs → Ok (f x) Q) : Ok ((getI xs i).bind f) Q := by
  have hl : i.toNat < xs.length := by omega
  exact Ok.of (getI_nat h0 (List.getElem?_eq_getElem hl)) (k _ (List.getElem?_eq_getElem hl) (List.getElem_mem hl))
theorem ok_rng {a b : Int} {f : List Int → Option β} {Q : β → Prop} (h1 : -(2 ^ 62) ≤ a ∧ a < 2 ^ 62) (h2 : -(2 ^ 62) ≤ b ∧ b < 2 ^ 62) (k : Ok (f (rng a b)) Q) : Ok ((rngG a b).bind f) Q := Ok.of (by unfold rngG; rw [if_pos ⟨h1.1, h1.2, h2.1, h2.2⟩]) k
theorem rng_len (a b : Int) : (rng a b).length = (b - a).toNat := by
  unfold rng
  rw [List.length_map, List.length_range]
theorem mem_rng {a b i : Int} : i ∈ rng a b ↔ a ≤ i ∧ i < b := by
  unfold rng
  rw [List.mem_map]
  constructor
  · rintro ⟨j, hj, rfl⟩
    have := List.mem_range.mp hj
    omega
  · rintro ⟨h1, h2⟩
    exact ⟨(i - a).toNat, List.mem_range.mpr (by omega), by omega⟩
theorem ok_cond {b : Bool} {x y : Option α} {Q : α → Prop} (h1 : b = true → Ok x Q) (h2 : b = false → Ok y Q) : Ok (cond b x y) Q := by
  cases b
  · exact h2 rfl
  · exact h1 rfl
theorem mapO_of {step : α → Option β} {g : α → β} : ∀ {xs : List α}, (∀ x ∈ xs, step x = some (g x)) → mapO step xs = some (xs.map g)
  | [], _ => rfl
  | x :: xs, h => by
    show (step x).bind _ = _
    rw [h x List.mem_cons_self]
    show (mapO step xs).bind _ = _
    rw [mapO_of fun y hy => h y (List.mem_cons_of_mem _ hy)]
    rfl
theorem ok_mapO {step : α → Option β} {G : β → Prop} : ∀ {xs : List α}, (∀ x ∈ xs, Ok (step x) G) → Ok (mapO step xs) fun ys => ys.length = xs.length ∧ ∀ y ∈ ys, G y
  | [], _ => ⟨[], rfl, rfl, fun _ h => nomatch h⟩
  | x :: xs, h => by
    refine Ok.bind (h x List.mem_cons_self) fun y hy => Ok.bind (ok_mapO fun z hz => h z (List.mem_cons_of_mem _ hz)) fun ys hys => ?_
    refine Ok.mk ⟨by rw [List.length_cons, List.length_cons, hys.1], fun z hz => ?_⟩
    rcases List.mem_cons.mp hz with rfl | hz
    · exact hy
    · exact hys.2 z hz
/-- a loop; I: what holds behind the turns over a first part -/
theorem ok_forF {step : S → α → Option S} (I : List α → S → Prop) : ∀ {xs p : List α} {s : S}, I p s → (∀ q x r s, p ++ xs = q ++ x :: r → I q s → Ok (step s x) (I (q ++ [x]))) → Ok (forF step s xs) (I (p ++ xs))
  | [], p, s, h0, _ => ⟨s, rfl, by rw [List.append_nil]; exact h0⟩
  | x :: xs, p, s, h0, h => by
    refine Ok.bind (h p x xs s rfl h0) fun s' h' => ?_
    have e : p ++ x :: xs = (p ++ [x]) ++ xs := by rw [List.append_assoc]; rfl
    rw [e]
    exact ok_forF I h' fun q y r s hq => h q y r s (by rw [e]; exact hq)
theorem ok_for {step : S → α → Option S} (I : List α → S → Prop) {xs : List α} {s : S} (h0 : I [] s) (h : ∀ q x r s, xs = q ++ x :: r → I q s → Ok (step s x) (I (q ++ [x]))) : Ok (forF step s xs) (I xs) := ok_forF I (p := []) h0 h
/-- a loop whose state grows by the turn's number alone -/
theorem ok_forN {step : S → α → Option S} (I : Nat → S → Prop) {xs : List α} {s : S} (h0 : I 0 s) (h : ∀ n x s, x ∈ xs → n < xs.length → I n s → Ok (step s x) (I (n + 1))) : Ok (forF step s xs) (I xs.length) := by
  refine (ok_for (fun q s => I q.length s) h0 fun q x r s e hI => ?_)
  have h1 := h q.length x s (by rw [e]; simp) (by rw [e]; simp) hI
  exact h1.mono fun a ha => by rw [List.length_append]; exact ha
theorem ok_mapSN {step : S → α → Option (β × S)} (I : Nat → S → Prop) (G : β → Prop) : ∀ {xs : List α} {s : S} {k : Nat}, I k s → (∀ n x s, x ∈ xs → n < k + xs.length → I n s → Ok (step s x) fun r => G r.1 ∧ I (n + 1) r.2) → Ok (mapS step s xs) fun r => r.1.length = xs.length ∧ (∀ y ∈ r.1, G y) ∧ I (k + xs.length) r.2
  | [], s, k, h0, _ => ⟨([], s), rfl, rfl, (fun _ h => nomatch h), h0⟩
  | x :: xs, s, k, h0, h => by
    refine Ok.bind (h k x s List.mem_cons_self (by rw [List.length_cons]; omega) h0) fun r hr => Ok.bind (ok_mapSN I G (k := k + 1) hr.2 fun n y s hy hl => h n y s (List.mem_cons_of_mem _ hy) (by rw [List.length_cons]; omega)) fun r2 h2 => ?_
    refine Ok.mk ⟨by show (r.1 :: r2.1).length = _; rw [List.length_cons, List.length_cons, h2.1], fun z hz => ?_, ?_⟩
    · rcases List.mem_cons.mp hz with rfl | hz
      · exact hr.1
      · exact h2.2.1 z hz
    · have e : k + (x :: xs).length = k + 1 + xs.length := by rw [List.length_cons]; omega
      rw [e]
      exact h2.2.2
/-- a loop that is never left -/
theorem ok_forCp {step : S → α → Option (Ctl S R)} (I : List α → S → Prop) : ∀ {xs p : List α} {s : S}, I p s → (∀ q x r s, p ++ xs = q ++ x :: r → I q s → Ok (step s x) fun c => ∃ s', c = .nx s' ∧ I (q ++ [x]) s') → Ok (forC step s xs) fun c => ∃ s', c = .nx s' ∧ I (p ++ xs) s'
  | [], p, s, h0, _ => ⟨.nx s, rfl, s, rfl, by rw [List.append_nil]; exact h0⟩
  | x :: xs, p, s, h0, h => by
    refine Ok.bind (h p x xs s rfl h0) fun c hc => ?_
    obtain ⟨s', rfl, h'⟩ := hc
    have e : p ++ x :: xs = (p ++ [x]) ++ xs := by rw [List.append_assoc]; rfl
    rw [e]
    exact ok_forCp I h' fun q y r s hq => h q y r s (by rw [e]; exact hq)
theorem ok_forC {step : S → α → Option (Ctl S R)} (I : List α → S → Prop) {xs : List α} {s : S} (h0 : I [] s) (h : ∀ q x r s, xs = q ++ x :: r → I q s → Ok (step s x) fun c => ∃ s', c = .nx s' ∧ I (q ++ [x]) s') : Ok (forC step s xs) fun c => ∃ s', c = .nx s' ∧ I xs s' := ok_forCp I (p := []) h0 h
/-- the same where nothing but the item matters -/
theorem ok_forC0 {step : Unit → α → Option (Ctl Unit R)} {xs : List α} (h : ∀ x ∈ xs, step () x = some (.nx ())) : forC step () xs = some (.nx ()) := by
  obtain ⟨c, e, s, rfl, _⟩ := ok_forC (xs := xs) (fun _ _ => True) (step := step) (s := ()) True.intro fun q x r s e _ => ⟨.nx (), h x (by rw [e]; simp), (), rfl, True.intro⟩
  exact e
theorem cutI_take (xs : List α) (k : Int) (h : 0 ≤ k) : cutI xs none (some k) = xs.take k.toNat := by
  obtain ⟨n, rfl⟩ := Int.eq_ofNat_of_zero_le h
  unfold cutI
  rw [show HT.sIx xs.length 0 none = 0 from rfl, show HT.sIx xs.length xs.length (some ((n : Nat) : Int)) = min n xs.length from HT.sIx_nat xs.length xs.length n]
  show List.take (min n xs.length - 0) xs = xs.take ((n : Nat) : Int).toNat
  rw [Int.toNat_natCast, Nat.sub_zero]
  by_cases hn : n ≤ xs.length
  · rw [Nat.min_eq_left hn]
  · rw [Nat.min_eq_right (by omega), List.take_length, List.take_of_length_le (by omega)]
end
/-! ### the first least one -/
section
variable {α : Type}
def FM (c : α → Int) (l : List α) (m : α) : Prop := ∃ l1 l2, l = l1 ++ m :: l2 ∧ (∀ x ∈ l1, c m < c x) ∧ ∀ x ∈ l2, c m ≤ c x
theorem FM.mem {c : α → Int} {l : List α} {m : α} (h : FM c l m) : m ∈ l := by
  obtain ⟨l1, l2, rfl, _⟩ := h
  simp
theorem FM.le {c : α → Int} {l : List α} {m : α} (h : FM c l m) {x : α} (hx : x ∈ l) : c m ≤ c x := by
  obtain ⟨l1, l2, rfl, h1, h2⟩ := h
  rcases List.mem_append.mp hx with hx | hx
  · exact Int.le_of_lt (h1 x hx)
  · rcases List.mem_cons.mp hx with rfl | hx
    · exact Int.le_refl _
    · exact h2 x hx
theorem FM.uniq {c : α → Int} {l : List α} {m m' : α} (h : FM c l m) (h' : FM c l m') : m = m' := by
  obtain ⟨l1, l2, rfl, h1, h2⟩ := h
  obtain ⟨k1, k2, e, g1, g2⟩ := h'
  have := List.append_eq_append_iff.mp e
  rcases this with ⟨as, e1, e2⟩ | ⟨bs, e1, e2⟩
  · cases as with
    | nil => exact (List.cons.inj e2).1
    | cons a as =>
      have ea := (List.cons.inj e2).1
      have i1 := g1 m (by rw [e1, ea]; simp)
      have i2 := h2 m' (by rw [(List.cons.inj e2).2]; simp)
      omega
  · cases bs with
    | nil => exact (List.cons.inj e2).1.symm
    | cons b bs =>
      have eb := (List.cons.inj e2).1
      have i1 := h1 m' (by rw [e1, eb]; simp)
      have i2 := g2 m (by rw [(List.cons.inj e2).2]; simp)
      omega
theorem FM.congr {c d : α → Int} {l : List α} {m : α} (h : FM c l m) (e : ∀ x ∈ l, c x = d x) : FM d l m := by
  have hm := e m h.mem
  obtain ⟨l1, l2, rfl, h1, h2⟩ := h
  refine ⟨l1, l2, rfl, fun x hx => ?_, fun x hx => ?_⟩
  · rw [← hm, ← e x (by simp [hx])]
    exact h1 x hx
  · rw [← hm, ← e x (by simp [hx])]
    exact h2 x hx
theorem FM.one (c : α → Int) (a : α) : FM c [a] a := ⟨[], [], rfl, (fun _ h => nomatch h), fun _ h => nomatch h⟩
theorem FM.snoc {c : α → Int} {l : List α} {m y : α} (h : FM c l m) : FM c (l ++ [y]) (if c y < c m then y else m) := by
  by_cases hy : c y < c m
  · rw [if_pos hy]
    exact ⟨l, [], rfl, fun x hx => Int.lt_of_lt_of_le hy (h.le hx), fun _ h => nomatch h⟩
  · rw [if_neg hy]
    obtain ⟨l1, l2, rfl, h1, h2⟩ := h
    refine ⟨l1, l2 ++ [y], by simp, h1, fun x hx => ?_⟩
    rcases List.mem_append.mp hx with hx | hx
    · exact h2 x hx
    · rw [List.mem_singleton.mp hx]
      omega
/-- the least of a list, by an order that is c's at later items -/
theorem fm_fold {c : α → Int} {lt : α → α → Bool} : ∀ {xs p : List α} {m : α}, FM c p m → (∀ q y r, p ++ xs = q ++ y :: r → ∀ z ∈ q, lt y z = decide (c y < c z)) → FM c (p ++ xs) (xs.foldl (fun a y => if lt y a = true then y else a) m)
  | [], p, m, h, _ => by rw [List.append_nil]; exact h
  | y :: xs, p, m, h, hl => by
    have e : p ++ y :: xs = (p ++ [y]) ++ xs := by rw [List.append_assoc]; rfl
    rw [e, List.foldl_cons]
    refine fm_fold (p := p ++ [y]) ?_ fun q z r hq => hl q z r (by rw [e]; exact hq)
    have h1 := hl p y xs rfl m h.mem
    rw [h1]
    have h2 := h.snoc (y := y)
    by_cases hy : c y < c m
    · rw [if_pos hy] at h2
      rw [if_pos (decide_eq_true hy)]
      exact h2
    · rw [if_neg hy] at h2
      rw [if_neg (fun z => hy (of_decide_eq_true z))]
      exact h2
theorem fm_minL {c : α → Int} {lt : α → α → Bool} {x : α} {xs : List α} (hl : ∀ q y r, x :: xs = q ++ y :: r → ∀ z ∈ q, lt y z = decide (c y < c z)) : ∃ m, minL lt (x :: xs) = some m ∧ FM c (x :: xs) m :=
  ⟨_, rfl, fm_fold (p := [x]) (FM.one c x) fun q y r e => hl q y r e⟩
end
/-- the law's own call -/
theorem law_start {K : PySem.W.Frag} {F : Pf} {a : Addr} {ns : List Int} {H : Hp} {E : XK} (hF : ∃ R, F [.sl a ns] [] R ∧ ∀ r m2, R r m2 → r = .da (dB true)) (hS : SqL K H a (ns.map V.int)) : spOf K F [.ref a] H (fun v _ => v = .bl true) E := by
  obtain ⟨R, h1, h2⟩ := hF
  refine ⟨H, [.sl a ns], [], R, h1, ⟨fun _ _ h => h, List.nodup_nil, (fun _ h => nomatch h), fun _ h => nomatch h⟩, ⟨⟨rfl, hS⟩, True.intro⟩, fun v B2 H2 r m2 hr _ _ hv => ?_⟩
  have e := h2 r m2 hr
  subst e
  exact bl_of hv
end FC
set_option maxHeartbeats 400000
/-! FK: bits, tests that may fail, reversed, insert, pop, clear, calls that give a new list. -/
namespace FC
open PySem PySem.Spec PyProof.Rows L2 Evl
section
variable {K : PySem.W.Frag} {B H : Hp} {ds : List SD} {m m1 m2 m' mc mc' : M} {α β S : Type} {f : α → PyData} {f2 : β → PyData} {tl te ta to ti : TE} {t : TA} {tt : TT} {wi : TI} {g : TG} {G : M → Prop} {rs : List SD} {c : SD} {F : Pf} {E : XK}
/-! ### bits -/
def shlG (i j : Int) : Option Int := if CPow i j then some (i * 2 ^ j.toNat) else none
def shrG (i j : Int) : Option Int := if 0 ≤ j then some (i / 2 ^ j.toNat) else none
theorem rr_shl {i j k : Int} (h : shlG i j = some k) : Rr K (rI CPow fun i j => .int (i * 2 ^ j.toNat)) (.da (dI i)) (.da (dI j)) m (.da (dI k)) m := by
  unfold shlG at h
  split at h
  · rename_i q
    exact rr_c (f := fun i j => i * 2 ^ j.toNat) q (Option.some.inj h)
  · cases h
theorem rr_shr {i j k : Int} (h : shrG i j = some k) : Rr K (rI (fun _ j => 0 ≤ j) fun i j => .int (i / 2 ^ j.toNat)) (.da (dI i)) (.da (dI j)) m (.da (dI k)) m := by
  unfold shrG at h
  split at h
  · rename_i q
    exact rr_c (C := fun _ j => 0 ≤ j) (f := fun i j => i / 2 ^ j.toNat) q (Option.some.inj h)
  · cases h
/-! ### a comprehension with a test that may fail -/
theorem filO_tests {test : α → Option Bool} {step : α → Option β} : ∀ {items : List α} {out : List β}, filO test step items = some out → ∀ x ∈ items, ∃ b, test x = some b
  | [], _, _, x, hx => nomatch hx
  | y :: r, out, h, x, hx => by
    obtain ⟨b, h1, h2⟩ := bindS h
    rcases List.mem_cons.mp hx with rfl | hx
    · exact ⟨b, h1⟩
    · cases b with
      | true =>
        obtain ⟨_, _, h2⟩ := bindS h2
        obtain ⟨ys, h4, _⟩ := bindS h2
        exact filO_tests h4 x hx
      | false => exact filO_tests h2 x hx
theorem filO_pureT {test : α → Option Bool} {step : α → Option β} : ∀ {items : List α} {out : List β}, filO test step items = some out → filO (fun x => some ((test x).getD false)) step items = some out
  | [], _, h => h
  | y :: r, out, h => by
    obtain ⟨b, h1, h2⟩ := bindS h
    show (some ((test y).getD false)).bind _ = _
    rw [h1]
    show cond b _ _ = _
    cases b with
    | true =>
      obtain ⟨y', h3, h2⟩ := bindS h2
      obtain ⟨ys, h4, h2⟩ := bindS h2
      show (step y).bind _ = _
      rw [h3]
      show (filO _ step r).bind _ = _
      rw [filO_pureT h4]
      exact h2
    | false => exact filO_pureT h2
theorem lc_filO {items : List α} {up : α → List SD → List SD} {js vs : List Nat} {test : α → Option Bool} {step : α → Option β} {out : List β} (hs : Src K wi g ds m m1 G items up js) (hjs : ∀ j ∈ js, j ∈ vs) (hG : ∀ c, G (m1 ++ c)) (hn : lenG items.length = some ())
    (h : filO test step items = some out) (bt : ∀ x b, x ∈ items → test x = some b → EvT K tt (up x (wipeD ds vs)) m1 b m1) (body : ∀ x y, x ∈ items → test x = some true → step x = some y → Ev K te (up x (wipeD ds vs)) m1 (.da (f2 y)) m1) :
    ∀ B H σ, SOk K B m H → StOk K B ds σ → ∀ Q : VK, (∀ p B2 H2, Tr B H (keys m) B2 H2 (keys (m1 ++ [(p, .ls (out.map f2))])) → SOk K B2 (m1 ++ [(p, .ls (out.map f2))]) H2 → H p = none → Q (.ref p) H2) → tLc wi g tt te vs σ H Q :=
  lc_fil (test := fun x => (test x).getD false) hs hjs hG hn (filO_pureT h) (fun x hx => by
    obtain ⟨b, hb⟩ := filO_tests h x hx
    rw [hb]
    exact bt x b hx hb) fun x y hx hb hy => by
    obtain ⟨b, hb2⟩ := filO_tests h x hx
    rw [hb2] at hb
    have hb' : b = true := hb
    subst hb'
    exact body x y hx hb2 hy
/-! ### reversed -/
theorem src_RvR {a b : Int} {xs : List Int} {j : Nat} {tr : L2.St → Hp → (Int → Int → Hp → Prop) → Prop}
    (h : ∀ B H σ, SOk K B m H → StOk K B ds σ → ∀ Q : Int → Int → Hp → Prop, (∀ B2 H2, Tr B H (keys m) B2 H2 (keys m1) → SOk K B2 m1 H2 → Q a b H2) → tr σ H Q) (hx : rngG a b = some xs) :
    Src K (iRevR tr) (gName j) ds m m1 (fun _ => True) xs.reverse (fun x ds => ds.set j (.da (dI x))) [j] := fun B H σ s st R q => h B H σ s st _ fun B1 H1 t1 s1 => by
  obtain ⟨⟨h1, h2, h3, h4⟩, rfl⟩ := rngG_some hx
  refine ⟨h1, h2, h3, h4, q _ B1 H1 t1 s1 ?_⟩
  have hl : (rng a b).length = (b - a).toNat := by
    unfold rng
    rw [List.length_map, List.length_range]
  refine ⟨fun i H B' m' hi e g s => ?_, fun H B' m' e g s => ?_, fun i x v H H' B' m' ds σ hx e g s st hy Q q => ?_⟩
  · rw [List.length_reverse, hl] at hi
    exact hi
  · rw [List.length_reverse, hl]
    exact Nat.le_refl _
  · obtain ⟨rfl, rfl⟩ := hy
    have hi : i < (rng a b).reverse.length := (List.getElem?_eq_some_iff.mp hx).1
    rw [List.length_reverse] at hi
    rw [List.getElem?_reverse hi, hl] at hx
    unfold rng at hx
    rw [List.getElem?_map, List.getElem?_range (by omega)] at hx
    have hx' : a + (((b - a).toNat - 1 - i : Nat) : Int) = x := Option.some.inj hx
    rw [hl] at hi
    have e : a + (((b - a).toNat : Nat) : Int) - 1 + (i : Nat) * (-1) = x := by
      rw [← hx']
      omega
    rw [e]
    exact tg_name s st (.int _) Q q
theorem tr_1 {n : Int} (h : Ev K ta ds m (.da (dI n)) m1) : ∀ B H σ, SOk K B m H → StOk K B ds σ → ∀ Q : Int → Int → Hp → Prop, (∀ B2 H2, Tr B H (keys m) B2 H2 (keys m1) → SOk K B2 m1 H2 → Q 0 n H2) → tRg1 ta σ H Q := fun B H σ s st Q q => h B H σ s st _ fun v B2 H2 t s2 d => ⟨n, int_of d, q B2 H2 t s2⟩
theorem src_RvL {xs : List α} {j : Nat} (h : EvA K t ds m [.da (dL f xs)] m1) : Src K (iRev K t) (gName j) ds m m1 (fun _ => True) xs.reverse (fun x ds => ds.set j (.da (f x))) [j] := fun B H σ s st R q => h B H σ s st _ fun vs B1 H1 t1 s1 d1 => by
  obtain ⟨v, rfl, d⟩ := sda1 d1
  obtain ⟨p, ws, rfl, hp, ha⟩ := lst_of d
  have hl := dpa_len ha
  rw [List.length_map] at hl
  have hL : ∀ {H B' m'}, Ex B1 B' → SOk K B' m' H → SqL K H p ws := fun e s => SqL.of (s.ext _ _ (e _ _ hp))
  refine ⟨p, ws, rfl, SqL.of (s1.ext _ _ hp), q _ B1 H1 t1 s1 ⟨fun i H B' m' hi e g s => ?_, fun H B' m' e g s => ?_, fun i x v H H' B' m' ds σ hx e g s st hy Q q => ?_⟩⟩
  · rw [List.length_reverse] at hi
    have hi' : ws.length - 1 - i < ws.length := by omega
    exact ⟨by omega, ws, ws[ws.length - 1 - i], hL e s, List.getElem?_eq_getElem hi'⟩
  · rw [List.length_reverse]
    exact Nat.le_of_eq hl
  · obtain ⟨rfl, y2⟩ := hy
    have hi : i < xs.reverse.length := (List.getElem?_eq_some_iff.mp hx).1
    rw [List.length_reverse] at hi
    rw [List.getElem?_reverse hi, ← hl] at hx
    obtain ⟨w, h1, h2⟩ := dqa_some ha hx
    have h3 := y2 ws (hL e s)
    rw [h1] at h3
    rw [← Option.some.inj h3]
    exact tg_name s st (dp_mono e h2) Q q
theorem ev_revL {xs : List α} (h : Ev K te ds m (.da (dL f xs)) m1) : Ev K (tRevL K te) ds m (.da (dL f xs.reverse)) m1 := fun B H σ s st Q q => h B H σ s st _ fun v B1 H1 t1 s1 d1 => by
  obtain ⟨p, ws, rfl, hp, ha⟩ := lst_of d1
  refine ⟨p, ws, rfl, SqL.of (s1.ext _ _ hp), fun l hl => q _ _ _ (t1.trans (Tr.data s1 hl)) (s1.data hl) (Dq.lst upd_same ?_)⟩
  rw [List.map_reverse]
  exact dqa_rev (dpa_mono (Ex.new (fresh_b s1 hl)) ha)
where
  dqa_rev {B : Hp} : ∀ {vs : List V} {dl : List PyData}, DqAll B vs dl → DqAll B vs.reverse dl.reverse
    | _, _, .nil => .nil
    | _, _, .cons h t => by
      rw [List.reverse_cons, List.reverse_cons]
      exact dqa_app (dqa_rev t) (.cons h .nil)
theorem ev_revC {xs : List α} {l : Addr} (j : Nat) (h : Ev K te ds m (.rf l) m1) (hj : m1[j]? = some (l, .ls (xs.map f))) : Ev K (tRevL K te) ds m (.da (dL f xs.reverse)) m1 := fun B H σ s st Q q => h B H σ s st _ fun v B1 H1 t1 s1 d1 => by
  have e : v = .ref l := d1
  subst e
  obtain ⟨ws, hp, ha⟩ := s1.ls hj
  refine ⟨l, ws, rfl, SqL.of hp, fun p hl => q _ _ _ (t1.trans (Tr.data s1 hl)) (s1.data hl) (Dq.lst upd_same ?_)⟩
  rw [List.map_reverse]
  exact ev_revL.dqa_rev (dpa_mono (Ex.new (fresh_b s1 hl)) ha)
/-! ### a list's methods -/
def rIns : V → List V → Hp → VK → Prop := fun x vs H Q => ∃ (l : Addr) (xs : List V) (i : Int) (y : V), x = .ref l ∧ vs = [.int i, y] ∧ H l = some (.lst xs) ∧ xs.length < sizeLine ∧ 0 ≤ i ∧ i < 2 ^ 63 ∧
    Q .non (upd H l (.lst (xs.take i.toNat ++ [y] ++ xs.drop i.toNat)))
def insI (xs : List α) (i : Int) (x : α) : Option (List α) := if 0 ≤ i ∧ i < 2 ^ 63 ∧ xs.length ≤ 16000000 then some (xs.take i.toNat ++ [x] ++ xs.drop i.toNat) else none
theorem rm_ins {xs ys : List α} {i : Int} {x : α} {l : Addr} (j : Nat) (hj : m[j]? = some (l, .ls (xs.map f))) (hz : insI xs i x = some ys) : Rm K rIns (.rf l) [.da (dI i), .da (f x)] m (.da .none) (m.set j (l, .ls (ys.map f))) := fun B H v vs s dx da Q q => by
  obtain ⟨y, w, rfl, d1, d2⟩ := sda2 da
  obtain ⟨ws, hp, ha⟩ := s.ls hj
  have h1 := dpa_len ha
  rw [List.length_map] at h1
  unfold insI at hz
  split at hz
  · rename_i hc
    have e := Option.some.inj hz
    subst e
    refine ⟨l, ws, i, w, dx, by rw [int_of d1], hp, by rw [sizeLine_eq]; omega, hc.1, hc.2.1, q _ _ _ (Tr.put s hj ?_) (s.put hj ?_) .non⟩
    all_goals
      rw [List.map_append, List.map_append, List.map_take, List.map_drop]
      exact dqa_app (dqa_app (dqa_take _ ha) (.cons d2 .nil)) (dqa_drop _ ha)
  · cases hz
def popI (xs : List α) (i : Int) : Option (α × List α) := if -(2 ^ 63) ≤ i ∧ i < 2 ^ 63 then (ixN xs.length i).bind fun k => (xs[k]?).bind fun x => some (x, xs.eraseIdx k) else none
theorem dqa_erase {B : Hp} : ∀ {vs : List V} {dl : List PyData} (k : Nat), DqAll B vs dl → DqAll B (vs.eraseIdx k) (dl.eraseIdx k)
  | _, _, _, .nil => .nil
  | _, _, 0, .cons h t => t
  | _, _, k + 1, .cons h t => .cons h (dqa_erase k t)
theorem map_erase (f : α → PyData) : ∀ (xs : List α) (k : Nat), (xs.eraseIdx k).map f = (xs.map f).eraseIdx k
  | [], _ => rfl
  | _ :: _, 0 => rfl
  | x :: xs, k + 1 => by
    show f x :: (xs.eraseIdx k).map f = f x :: (xs.map f).eraseIdx k
    rw [map_erase f xs k]
theorem rm_popI {xs ys : List α} {i : Int} {x : α} {l : Addr} (j : Nat) (hj : m[j]? = some (l, .ls (xs.map f))) (hz : popI xs i = some (x, ys)) : Rm K rPopAt (.rf l) [.da (dI i)] m (.da (f x)) (m.set j (l, .ls (ys.map f))) := fun B H v vs s dx da Q q => by
  obtain ⟨y, rfl, d1⟩ := sda1 da
  obtain ⟨ws, hp, ha⟩ := s.ls hj
  have h1 := dpa_len ha
  rw [List.length_map] at h1
  unfold popI at hz
  split at hz
  · rename_i hc
    obtain ⟨k, e1, hz⟩ := bindS hz
    obtain ⟨x', e2, hz⟩ := bindS hz
    have e := Option.some.inj hz
    injection e with e3 e4
    subst e3 e4
    obtain ⟨g1, g2, _, _⟩ := ixN_seq e1
    obtain ⟨w, g3, g4⟩ := dqa_some ha e2
    refine ⟨l, ws, i, k, w, dx, by rw [int_of d1], hp, hc.1, hc.2, by rw [h1]; exact g1, g3, q _ _ _ (Tr.put s hj ?_) (s.put hj ?_) g4⟩
    all_goals
      rw [map_erase]
      exact dqa_erase k ha
  · cases hz
theorem rm_clear {xs : List α} {l : Addr} (j : Nat) (hj : m[j]? = some (l, .ls (xs.map f))) : Rm K rClear (.rf l) [] m (.da .none) (m.set j (l, .ls (([] : List α).map f))) := fun B H v vs s dx da Q q => by
  obtain ⟨ws, hp, ha⟩ := s.ls hj
  have e : vs = [] := by
    cases vs with
    | nil => rfl
    | cons a b => exact da.elim
  subst e
  exact ⟨l, ws, dx, rfl, hp, q _ _ _ (Tr.put s hj (show CdOk K B (.ls (([] : List α).map f)) (.lst []) from .nil)) (s.put hj (show CdOk K B (.ls (([] : List α).map f)) (.lst []) from .nil)) .non⟩
/-! ### calls that give a new list -/
theorem en_callP {fr : M} {cd : CD} (h : EvA K t ds m rs m1) (hp : (mc ++ fr).Perm m1) (hp' : (mc' ++ fr).Perm m2) (hF : ∃ R, F rs mc R ∧ ∀ r mz, R r mz → ∃ p, r = .rf p ∧ mz = mc' ++ [(p, cd)]) : EvN K (tCall (spOf K F) [] E t) ds m cd m2 := fun B H σ s st Q q =>
  (eg_call (A := Addr) (r := SD.rf) (Good := fun p mN => mN = [(p, cd)]) h hp hp' (hF.imp fun R hR => ⟨hR.1, fun c mz hc => by
    obtain ⟨p, e1, e2⟩ := hR.2 c mz hc
    exact ⟨p, _, e1, e2, rfl⟩⟩)) B H σ s st Q fun v p mN B2 H2 hg t2 s2 d2 => by
      subst hg
      have e : v = .ref p := d2
      subst e
      exact q p B2 H2 t2 s2
theorem en_methP (j : Nat) {mt : Str} {fr m3 : M} {cd : CD} {p C dx : Addr} {names : List Str} {sds : List SD} (ho : Ev K ta ds m (.rf p) m1) (hj : m1[j]? = some (p, obj C dx names sds)) (hl : sds.length ≤ names.length) (hm : mt ∉ names) (h : EvA K t ds m1 rs m2) (hp : (mc ++ fr).Perm m2) (hp' : (mc' ++ fr).Perm m3)
    (hF : ∃ R, F (.rf p :: rs) mc R ∧ ∀ r mz, R r mz → ∃ p, r = .rf p ∧ mz = mc' ++ [(p, cd)]) : EvN K (tMeth C mt (spOf K F) [] E ta t) ds m cd m3 := fun B H σ s st Q q =>
  ho B H σ s st _ fun x B1 H1 t1 s1 d1 => by
    have e : x = .ref p := d1
    subst e
    obtain ⟨vs, h1, _, _⟩ := s1.ob hj hl
    refine ⟨p, dx, _, rfl, h1, lookup_no (zip_keys hm), h B1 H1 σ s1 (st_mono t1.ex st) _ fun us B2 H2 t2 s2 d2 => ?_⟩
    rw [List.append_nil]
    obtain ⟨R, hR, hq⟩ := hF
    have s2' : SOk K B2 (mc ++ fr) H2 := s2.perm hp
    refine ⟨B2, .rf p :: rs, mc, R, hR, s2'.sub (List.sublist_append_left _ _), ⟨rfl, d2⟩, fun v B3 H3 c mz hr t3 s3 d3 => ?_⟩
    obtain ⟨a, rfl, rfl⟩ := hq c mz hr
    obtain ⟨t4, s4⟩ := fr_ok s2' t3 s3
    have pz : (mc' ++ [(a, cd)] ++ fr).Perm (m3 ++ [(a, cd)]) := by
      have e1 : (mc' ++ [(a, cd)] ++ fr).Perm (mc' ++ fr ++ [(a, cd)]) := by
        rw [List.append_assoc, List.append_assoc]
        exact List.Perm.append_left mc' List.perm_append_comm
      exact e1.trans (hp'.append_right _)
    have ev : v = .ref a := d3
    subst ev
    exact q a B3 H3 ((t1.trans t2).trans (t4.perm (fun a => (hp.map Prod.fst).mem_iff) (fun a => (pz.map Prod.fst).mem_iff))) (s4.perm pz.symm)
/-- a new list, taken as data at once -/
theorem ev_frz {dl : List PyData} (h : EvN K te ds m (.ls dl) m1) (hk : keys m1 = keys m) : Ev K te ds m (.da (.list dl)) m1 := fun B H σ s st Q q => h B H σ s st _ fun p B2 H2 t2 s2 => by
  have hj : (m1 ++ [(p, CD.ls dl)])[m1.length]? = some (p, .ls dl) := by
    rw [List.getElem?_append_right (Nat.le_refl _), Nat.sub_self]
    rfl
  obtain ⟨ws, h1, h2⟩ := s2.ls hj
  have he : (m1 ++ [(p, CD.ls dl)]).eraseIdx m1.length = m1 := by
    rw [List.eraseIdx_append_of_length_le (Nat.le_refl _), Nat.sub_self]
    exact List.append_nil _
  have hB2 : B2 p = none := s2.out (p, .ls dl) (List.mem_append_right _ (List.mem_singleton.mpr rfl))
  have hnew : p ∉ keys m := fun z => by
    have nd := s2.nd
    rw [keys_app] at nd
    exact (List.nodup_append.mp nd).2.2 p (by rw [hk]; exact z) p (List.mem_singleton.mpr rfl) rfl
  have t3 := t2.frz s2 (fun a ha => by
    obtain ⟨c, hc, e⟩ := List.mem_map.mp ha
    rw [← e]
    exact s.ne hc) (o := .lst ws) hj hnew
  have s3 := s2.frz hj h1
  rw [he] at t3 s3
  exact q _ _ _ t3 s3 (Dq.lst upd_same (dpa_mono (Ex.new hB2) h2))
/-- e.clear(), e a new list that is needed no more -/
theorem ev_clrN {dl : List PyData} (h : EvN K te ds m (.ls dl) m1) : Ev K (tBM0 K "list" rClear te) ds m (.da .none) m1 := fun B H σ s st Q q => h B H σ s st _ fun p B2 H2 t2 s2 => by
  have hj : (m1 ++ [(p, CD.ls dl)])[m1.length]? = some (p, .ls dl) := by
    rw [List.getElem?_append_right (Nat.le_refl _), Nat.sub_self]
    rfl
  obtain ⟨ws, h1, h2⟩ := s2.ls hj
  have hc : CdOk K B2 (.ls []) (.lst []) := DqAll.nil
  have s3 := s2.put hj hc
  have t3 := Tr.put s2 hj hc
  have hset : (m1 ++ [(p, CD.ls dl)]).set m1.length (p, .ls []) = m1 ++ [(p, .ls [])] := by
    rw [List.set_append_right _ _ (Nat.le_refl _), Nat.sub_self]
    rfl
  rw [hset] at s3 t3
  have sub : m1.Sublist (m1 ++ [(p, CD.ls [])]) := List.sublist_append_left _ _
  exact ⟨tyv_of (B := B2) h1, p, ws, rfl, rfl, h1, q _ _ _ ((t2.trans t3).sub fun a z => (sub.map _).subset z) (s3.sub sub) .non⟩
/-- list(xs), sorted(xs) as a new cell -/
theorem rcn_listL {xs : List α} : RcN K (rListOf K) [.da (dL f xs)] m (.ls (xs.map f)) m := fun B H vs s dx Q q => by
  obtain ⟨v, rfl, d1⟩ := sda1 dx
  obtain ⟨p, ws, rfl, hp, ha⟩ := lst_of d1
  exact ⟨p, ws, rfl, .inl (SqL.of (s.ext _ _ hp)), fun l hl => q l _ _ (Tr.cell s hl) (s.cell hl ha)⟩
theorem rcn_listC {xs : List α} {l : Addr} (j : Nat) (hj : m[j]? = some (l, .ls (xs.map f))) : RcN K (rListOf K) [.rf l] m (.ls (xs.map f)) m := fun B H vs s dx Q q => by
  obtain ⟨v, rfl, d1⟩ := sda1 dx
  obtain ⟨ws, hp, ha⟩ := s.ls hj
  have e : v = .ref l := d1
  exact ⟨l, ws, by rw [e], .inl (SqL.of hp), fun p hl => q p _ _ (Tr.cell s hl) (s.cell hl ha)⟩
theorem rcn_srt [DecidableEq α] [EncO f] [SrtOk f] {xs : List α} (hd : Enc.dep f ≤ 60) : RcN K (rSrtP K) [.da (dL f xs)] m (.ls ((srt (EncO.lt f) xs).map f)) m := fun B H vs s dx Q q => by
  obtain ⟨v, rfl, d1⟩ := sda1 dx
  obtain ⟨p, ws, rfl, hp, ha⟩ := lst_of d1
  exact rc_srtAux hd (SrtOk.ok xs) s (s.ext _ _ hp) ha Q fun ys p h hp => q p _ _ (Tr.cell s hp) (s.cell hp h)
/-- xs * n -/
def repI (xs : List α) (n : Int) : Option (List α) := if -(2 ^ 63) ≤ n ∧ n < 2 ^ 63 ∧ xs.length * n.toNat ≤ 16000000 then some ((List.replicate n.toNat xs).flatten) else none
theorem dqa_rep {B : Hp} {vs : List V} {dl : List PyData} (h : DqAll B vs dl) : ∀ n : Nat, DqAll B (List.replicate n vs).flatten (List.replicate n dl).flatten
  | 0 => .nil
  | n + 1 => by
    rw [List.replicate_succ, List.replicate_succ, List.flatten_cons, List.flatten_cons]
    exact dqa_app h (dqa_rep h n)
theorem rr_rep {xs ys : List α} {n : Int} (h : repI xs n = some ys) : Rr K rRep (.da (dL f xs)) (.da (dI n)) m (.da (dL f ys)) m := fun B H x y s dx dy Q q => by
  obtain ⟨p, ws, rfl, hp, ha⟩ := lst_of dx
  have h1 := dpa_len ha
  rw [List.length_map] at h1
  unfold repI at h
  split at h
  · rename_i hc
    have e := Option.some.inj h
    subst e
    refine ⟨p, n, ws, rfl, int_of dy, s.ext _ _ hp, hc.1, hc.2.1, by rw [sizeLine_eq, h1]; omega, fun l hl => q _ _ _ (Tr.data s hl) (s.data hl) (Dq.lst upd_same ?_)⟩
    rw [List.map_flatten, List.map_replicate]
    exact dqa_rep (dpa_mono (Ex.new (fresh_b s hl)) ha) _
  · cases h
/-- an expression that gives a truth value and needs no cell but one, which it reads as data -/
theorem ev_look {i j : Nat} {l : Addr} {dl : List PyData} {b : Bool} (hi : ds[i]? = some (.rf l)) (hj : m[j]? = some (l, .ls dl)) (h : Ev K te (ds.set i (.da (.list dl))) [] (.da (.bool b)) []) : Ev K te ds m (.da (.bool b)) m := fun B H σ s st Q q => by
  obtain ⟨vs, h1, h2⟩ := s.ls hj
  have hB : B l = none := s.out (l, .ls dl) (List.mem_of_getElem? hj)
  obtain ⟨o, e, w⟩ := st_get st hi
  obtain ⟨v, rfl, w⟩ := sl_some (s := .rf l) (fun z => nomatch z) w
  have ev : v = .ref l := w
  subst ev
  have ee := Ex.new (o := .lst vs) hB
  have st2 := st_set (K := K) i (st_mono ee st) (s := .da (.list dl)) (o := some (.ref l)) (Dq.lst upd_same (dpa_mono ee h2))
  rw [set_same e] at st2
  have s2 : SOk K (upd B l (.lst vs)) [] H := (s.frz hj h1).sub (List.nil_sublist _)
  refine h _ H σ s2 st2 Q fun v B2 H2 t2 s3 d2 => ?_
  have kp : ∀ a o, H a = some o → H2 a = some o := fun a o => t2.keep a o (fun z => nomatch z)
  refine q v B H2 ⟨Ex.refl _, fun _ _ _ z => z, t2.tp, fun a o _ z => kp a o z, fun _ z => .inl z, t2.grow⟩ ⟨fun a o z => kp a o (s.ext a o z), s.nd, s.out, fun p hp => ?_⟩ ?_
  · obtain ⟨o, g1, g2⟩ := s.cel p hp
    exact ⟨o, kp _ _ g1, g2⟩
  · have d' : Dq B2 v (.bool b) := d2
    cases d'
    exact .bl b
/-- a statement over a dict that is locked the while -/
theorem wp_lockS {Fx0 : Fx} {D : Ends} {tz ts : TS} {ds' : List SD} {l : Addr} (j : Nat) {kvs : List (Key × PyData)} (hj : m[j]? = some (l, .dk kvs))
    (h : ∀ od ws D', (∀ σ H, At Fx0 ds' (m'.set j (l, .lk od ws kvs)) σ H → D'.nx σ H) → Wp Fx0 (tSeq ts tNext) D' ds (m.set j (l, .lk od ws kvs))) (hj' : m'[j]? = some (l, .dk kvs)) (k : Wp Fx0 tz D ds' m') : Wp Fx0 (tSeq (tLock ts) tz) D ds m := fun σ H ⟨B, st, s, t, lo⟩ => by
  obtain ⟨ws, h1, h2⟩ := s.dk' hj
  refine ⟨l, .dK ws, h1, True.intro, fun od => ?_⟩
  have cd : CdOk Fx0.K B (.lk od ws kvs) (.frz od (.dK ws)) := ⟨rfl, rfl, h2⟩
  refine h od ws ⟨fun σ' H' => H' l = some (.frz od (.dK ws)) ∧ tz D σ' (upd H' l (.dK ws)), fun v H' => H' l = some (.frz od (.dK ws)) ∧ D.rt v (upd H' l (.dK ws)), fun σ' H' => H' l = some (.frz od (.dK ws)) ∧ D.bk σ' (upd H' l (.dK ws)), fun σ' H' => H' l = some (.frz od (.dK ws)) ∧ D.ct σ' (upd H' l (.dK ws))⟩ ?_ σ _ ⟨B, st, s.put hj cd, t.trans (Tr.put s hj cd), lo⟩
  rintro σ2 H2 ⟨B2, st2, s2, t2, lo2⟩
  have hl' := (List.getElem?_eq_some_iff.mp hj').1
  have hj2 : (m'.set j (l, CD.lk od ws kvs))[j]? = some (l, .lk od ws kvs) := List.getElem?_set_self hl'
  obtain ⟨g1, g2⟩ := s2.lkd hj2
  have cd2 : CdOk Fx0.K B2 (.dk kvs) (.dK ws) := g2
  have s3 := s2.put hj2 cd2
  have t3 := Tr.put s2 hj2 cd2
  rw [set_back hj'] at s3 t3
  exact ⟨g1, k _ _ ⟨B2, st2, s3, t2.trans t3, lo2⟩⟩
/-- a return of a new list -/
theorem wp_retNew {Fx0 : Fx} {D : Ends} {tz : TS} {cd : CD} {R : SD → M → Prop} {mo : M} (h : EvN Fx0.K te ds m cd m1) (hf : Fin Fx0 D R) (hR : ∀ p, R (.rf p) (mo ++ [(p, cd)])) (hs : mo.Sublist m1) : Wp Fx0 (tSeq (tRet te) tz) D ds m := fun σ H ⟨B, st, s, t0, lo⟩ =>
  h B H σ s st _ fun p B2 H2 t2 s2 => by
    have sub : (mo ++ [(p, cd)]).Sublist (m1 ++ [(p, cd)]) := hs.append (List.Sublist.refl _)
    exact hf _ B2 H2 (.rf p) _ (hR p) ((t0.trans t2).sub fun a z => (sub.map _).subset z) (s2.sub sub) rfl
end
end FC
set_option maxHeartbeats 400000
/-! FL: lists of instances, new instances as receivers, d == {}, cells looked at by the law's own look. -/
namespace FC
open PySem PySem.Spec PyProof.Rows L2 Evl
section
variable {K : PySem.W.Frag} {B H : Hp} {ds : List SD} {m m1 m2 m' mc mc' : M} {α β S A A2 : Type} {f : α → PyData} {te ta tb to ti : TE} {t : TA} {rs : List SD} {c : SD} {F G : Pf} {E : XK} {l : Addr} {d e : PyData}
/-- d == {} -/
def rEqE : R2 := fun x y H Q => ∃ a b ks, x = .ref a ∧ y = .ref b ∧ H a = some (.dK ks) ∧ H b = some (.dK []) ∧ Q (.bl ks.isEmpty) H
theorem op_eqE {X : Cx} (hu : X.A.units < cLine) : OpR X (compareOp .Eq) rEqE := by
  intro pins s σ H x y v u Q I rx ry h
  obtain ⟨a, b, ks, rfl, rfl, ea, eb, q⟩ := h
  cases ks with
  | nil => exact op_eq_dictA hu pins s σ H _ _ v u Q I rx ry ⟨a, b, [], [], rfl, rfl, ea, eb, rfl, (fun _ h => nomatch h), q⟩
  | cons k ks =>
    obtain rfl : v = Value.ref a := rx
    obtain rfl : u = Value.ref b := ry
    obtain ⟨_, ya, va, ra, da⟩ := (show ObjOk X.prog X.w H s.heap a (.dK (k :: ks)) from I.hok a _ ea)
    obtain ⟨_, yb, vb, rb, db⟩ := (show ObjOk X.prog X.w H s.heap b (.dK []) from I.hok b _ eb)
    have h1 : va.length = ks.length + 1 := ra.length.symm
    have h2 : vb.length = 0 := rb.length.symm
    refine PySem.W.keq_eq (knd := mixKind X.prog X.w) (r := true) ya yb da db hu (fun e => by omega) (fin_bl I q ?_)
    have : (va.length == vb.length) = false := by
      rw [h1, h2]
      rfl
    rw [this]
    rfl
theorem ev_eqE (j : Nat) {kvs : List (Str × α)} (ha : Ev K ta ds m (.rf l) m1) (hb : tb = tDNewK) (hj : m1[j]? = some (l, .dk (eK kS f kvs))) : Ev K (tOp rEqE ta tb) ds m (.da (dB kvs.isEmpty)) m1 := fun B H σ s st Q q => by
  subst hb
  exact ha B H σ s st _ fun x B1 H1 t1 s1 d1 => by
    have e : x = .ref l := d1
    subst e
    intro p hp
    obtain ⟨ws, h1, h2⟩ := s1.dk' hj
    refine ⟨l, p, ws, rfl, rfl, by rw [upd_ne (ne_of_none h1 hp)]; exact h1, upd_same, ?_⟩
    have e2 : ws.isEmpty = kvs.isEmpty := by
      have hl := kv_len' h2
      unfold eK at hl
      rw [List.length_map] at hl
      cases ws <;> cases kvs <;> first | rfl | (simp at hl)
    rw [e2]
    exact q _ B1 _ (t1.trans (Tr.ext s1 (Ex.new hp))) (s1.grow (Ex.new hp)) (.bl _)
theorem rc_minC [DecidableEq α] [EncO f] {xs : List α} {x : α} (hd : Enc.dep f ≤ 60) (j : Nat) (hj : m[j]? = some (l, .ls (xs.map f))) (h : minL (EncO.lt f) xs = some x) : Rc K (rMinP K) [.rf l] m (.da (f x)) m := Rc.of fun B H vs s dx Q q => by
  obtain ⟨v, rfl, d1⟩ := sda1 dx
  obtain ⟨ws, hp, ha⟩ := s.ls hj
  have e : v = .ref l := d1
  subst e
  cases xs with
  | nil => cases h
  | cons y ys =>
    refine ⟨l, ws, f y, ys.map f, rfl, SqL.of hp, (dpa_mono s.ext ha).dp, alike_enc (y :: ys), depthAll_le (y :: ys) hd, fun i v h1 h2 => q v ?_⟩
    rw [minD_enc] at h2
    rw [← Option.some.inj h]
    exact dqa_ix ha h1 h2
/-- the law's own look at a cell: read as data by the call alone -/
theorem ev_sameL {n : Nat} {r : Bool} {dl : List PyData} (j : Nat) (h : EvA K t ds m [.rf l, .da e] m1) (hj : m1[j]? = some (l, .ls dl)) (hs : samG n (.list dl) e = some r) : Ev K (tCall (spOf K (pfSame n)) [] E t) ds m (.da (dB r)) m1 := by
  obtain ⟨rfl, h2, rfl⟩ := samG_some hs
  cases n with
  | zero => exact absurd h2.2 (Nat.lt_irrefl _)
  | succ n =>
    intro B H σ s st Q q
    refine h B H σ s st _ fun vs B1 H1 t1 s1 d1 => ?_
    obtain ⟨v, u, rfl, d2, d3⟩ := sda2 d1
    have ev : v = .ref l := d2
    subst ev
    obtain ⟨ws, h3, h4⟩ := s1.ls hj
    have hB : B1 l = none := s1.out (l, .ls dl) (List.mem_of_getElem? hj)
    have ee := Ex.new (o := .lst ws) hB
    have s2 : SOk K (upd B1 l (.lst ws)) [] H1 := (s1.frz hj h3).sub (List.nil_sublist _)
    rw [List.append_nil]
    refine ⟨upd B1 l (.lst ws), [.da (.list dl), .da (.list dl)], [], _, ⟨.list dl, h2.1, rfl, rfl, rfl⟩, s2, ⟨Dq.lst upd_same (dpa_mono ee h4), dp_mono ee d3, True.intro⟩, fun v B2 H2 r m2 hr t2 s3 d4 => ?_⟩
    obtain ⟨rfl, rfl⟩ := hr
    have kp : ∀ a o, H1 a = some o → H2 a = some o := fun a o => t2.keep a o (fun z => nomatch z)
    refine q v B1 H2 (t1.trans ⟨Ex.refl _, fun _ _ _ z => z, t2.tp, fun a o _ z => kp a o z, fun _ z => .inl z, t2.grow⟩) ⟨fun a o z => kp a o (s1.ext a o z), s1.nd, s1.out, fun p hp => ?_⟩ ?_
    · obtain ⟨o, g1, g2⟩ := s1.cel p hp
      exact ⟨o, kp _ _ g1, g2⟩
    · have d' : Dq B2 v (.bool true) := d4
      cases d'
      exact .bl true
/-- a slice as a new list -/
theorem ens_L {xs : List α} {tl th : TO} {lo hi : Option Int} (ha : Ev K ta ds m (.da (dL f xs)) m1) (hl : EvO K tl ds m1 lo m2) (hh : EvO K th ds m2 hi m') : EvN K (tSl (rSlL K) ta tl th) ds m (.ls ((cutI xs lo hi).map f)) m' := fun B H σ s st Q q =>
  ha B H σ s st _ fun x B1 H1 t1 s1 d1 => hl B1 H1 σ s1 (st_mono t1.ex st) _ fun B2 H2 t2 s2 => hh B2 H2 σ s2 (st_mono (t1.ex.trans t2.ex) st) _ fun B3 H3 t3 s3 => by
    obtain ⟨p, vs, rfl, hp, hd⟩ := lst_of (sd_mono (t2.ex.trans t3.ex) d1)
    refine ⟨p, vs, rfl, SqL.of (s3.ext _ _ hp), fun w hw => q w _ _ (((t1.trans t2).trans t3).trans (Tr.cell s3 hw)) (s3.cell hw ?_)⟩
    show DqAll B3 (cutI vs lo hi) ((cutI xs lo hi).map f)
    rw [← cutI_map]
    exact dqa_cut hd lo hi
/-- a list of two new things -/
theorem eg_lst2 {r1 : A → SD} {r2 : A2 → SD} {Good1 : A → M → Prop} {Good2 : A2 → M → Prop} (h1 : EvG K ta ds m r1 Good1 m1) (h2 : ∀ a mN, Good1 a mN → EvG K tb ds (m1 ++ mN) r2 Good2 (m1 ++ mN)) :
    EvG K (tLst (tCons ta (tCons tb tNil))) ds m (fun a : Addr × A × A2 => .rf a.1) (fun a mZ => ∃ mN mM, Good1 a.2.1 mN ∧ Good2 a.2.2 mM ∧ mZ = mN ++ mM ++ [(a.1, .lr [r1 a.2.1, r2 a.2.2])]) m1 := fun B H σ s st Q q =>
  h1 B H σ s st _ fun v a mN B2 H2 hg t2 s2 d2 => h2 a mN hg B2 H2 σ s2 (st_mono t2.ex st) _ fun u b mM B3 H3 hg2 t3 s3 d3 => by
    refine ⟨Nat.le_of_lt (small1000 (by show 2 ≤ 1000; omega)), fun p hp => ?_⟩
    have hc : CdOk K B3 (.lr [r1 a, r2 b]) (.lst [v, u]) := ⟨sd_mono t3.ex d2, d3, True.intro⟩
    have s4 := s3.cell hp hc
    have t4 := Tr.cell (c := .lr [r1 a, r2 b]) (o := .lst [v, u]) s3 hp
    have e : m1 ++ mN ++ mM ++ [(p, CD.lr [r1 a, r2 b])] = m1 ++ (mN ++ mM ++ [(p, .lr [r1 a, r2 b])]) := by rw [List.append_assoc, List.append_assoc, List.append_assoc]
    rw [e] at s4 t4
    exact q (.ref p) (p, a, b) _ B3 _ ⟨mN, mM, hg, hg2, rfl⟩ ((t2.trans t3).trans t4) s4 rfl
/-- a tuple of two new things -/
theorem eg_tup2 {p1 : A → Addr} {p2 : A2 → Addr} {Good1 : A → M → Prop} {Good2 : A2 → M → Prop} (h1 : EvG K ta ds m (fun a => .rf (p1 a)) Good1 m1) (h2 : ∀ a mN, Good1 a mN → EvG K tb ds (m1 ++ mN) (fun a => .rf (p2 a)) Good2 (m1 ++ mN)) :
    EvG K (tTup (tCons ta (tCons tb tNil))) ds m (fun a : A × A2 => .tp [.inr (p1 a.1), .inr (p2 a.2)]) (fun a mZ => ∃ mN mM, Good1 a.1 mN ∧ Good2 a.2 mM ∧ mZ = mN ++ mM) m1 := fun B H σ s st Q q =>
  h1 B H σ s st _ fun v a mN B2 H2 hg t2 s2 d2 => h2 a mN hg B2 H2 σ s2 (st_mono t2.ex st) _ fun u b mM B3 H3 hg2 t3 s3 d3 => by
    refine ⟨Nat.le_of_lt (small1000 (by show 2 ≤ 1000; omega)), fun p hp => ?_⟩
    have e1 : v = .ref (p1 a) := d2
    have e2 : u = .ref (p2 b) := d3
    subst e1 e2
    have s4 := s3.data (o := .tup [.ref (p1 a), .ref (p2 b)]) hp
    have t4 := Tr.data (o := .tup [.ref (p1 a), .ref (p2 b)]) s3 hp
    rw [List.append_assoc] at s4 t4
    have t5 := t2.trans t3
    rw [List.append_assoc] at t5
    exact q (.ref p) (a, b) _ _ _ ⟨mN, mM, hg, hg2, rfl⟩ (t5.trans t4) s4 ⟨p, _, rfl, upd_same, rfl, rfl, True.intro⟩
theorem sda_atI {es : List SD} {vs : List V} {i : Int} {r : SD} (h : SdAll K B es vs) (e : getI es i = some r) : ∃ v, atI vs i = some v ∧ SdOk K B r v := by
  have hl := sda_len h
  unfold getI atI at e
  unfold atI
  rw [hl]
  cases q : ixN es.length i with
  | none => rw [q] at e; cases e
  | some k =>
    rw [q] at e
    exact sda_at h e
theorem rr_ixR {es : List SD} {i : Int} {r : SD} (j : Nat) (hj : m[j]? = some (l, .lr es)) (h : getI es i = some r) : Rr K (rIxL K) (.rf l) (.da (dI i)) m r m := Rr.of fun B H u v s dx dy Q q => by
  obtain ⟨o, h1, c1⟩ := s.at hj
  cases o with
  | lst vs =>
    obtain ⟨w, h3, h4⟩ := sda_atI c1 h
    exact ⟨l, vs, i, w, dx, int_of dy, SqL.of h1, h3, q _ h4⟩
  | _ => exact c1.elim
/-- e.m(..), e a new instance that is needed no more -/
theorem ev_methG {pa : A → Addr} {Good : A → M → Prop} {mt : Str} {C : Addr} {names : List Str} (h0 : EvG K ta ds m (fun a => .rf (pa a)) Good m1) (hob : ∀ a mN, Good a mN → ∃ dx sds rest, mN = (pa a, obj C dx names sds) :: rest ∧ sds.length ≤ names.length) (hm : mt ∉ names)
    (h : ∀ m, EvA K t ds m rs m) (hF : ∀ a mN, Good a mN → ∃ R, G (.rf (pa a) :: rs) mN R ∧ ∀ r m2, R r m2 → r = c ∧ m2 = mN) : Ev K (tMeth C mt (spOf K G) [] E ta t) ds m c m1 := fun B H σ s st Q q =>
  h0 B H σ s st _ fun v a mN B1 H1 hg t1 s1 d1 => by
    have ev : v = .ref (pa a) := d1
    subst ev
    obtain ⟨dx, sds, rest, e, hl⟩ := hob a mN hg
    have hj : (m1 ++ mN)[m1.length]? = some (pa a, obj C dx names sds) := by
      rw [List.getElem?_append_right (Nat.le_refl _), Nat.sub_self, e]
      rfl
    obtain ⟨vs, h1, _, _⟩ := s1.ob hj hl
    refine ⟨pa a, dx, _, rfl, h1, lookup_no (zip_keys hm), h _ B1 H1 σ s1 (st_mono t1.ex st) _ fun us B2 H2 t2 s2 d2 => ?_⟩
    rw [List.append_nil]
    have pm : (mN ++ m1).Perm (m1 ++ mN) := List.perm_append_comm
    have sub : m1.Sublist (m1 ++ mN) := List.sublist_append_left _ _
    exact any_call (vs := .ref (pa a) :: us) s2 pm pm (hF a mN hg) (rs := .rf (pa a) :: rs) ⟨rfl, d2⟩ Q fun v B3 H3 t3 s3 d3 => q v B3 H3 (((t1.trans t2).trans t3).sub fun a z => (sub.map _).subset z) (s3.sub sub) d3
end
theorem split2 {α : Type} {b c : Bool} {x y : Option α} {r : α} (h : cond b x (cond c y none) = some r) : (b = true ∧ x = some r) ∨ (c = true ∧ y = some r) := by
  cases b with
  | true => exact .inl ⟨rfl, h⟩
  | false =>
    cases c with
    | true => exact .inr ⟨rfl, h⟩
    | false => cases h
end FC
set_option maxHeartbeats 400000
/-! FH: lists of lists whose rows change: made, read, stored, walked; slices with a step; cells in another order. -/
namespace FC
open PySem PySem.Spec PyProof.Rows L2 Evl
/-! ### orders -/
theorem permB {α : Type} {l1 l2 : List α} (h : ∀ f : α → Nat, (l1.map f).sum = (l2.map f).sum) : l1.Perm l2 := by
  classical
  rw [List.perm_iff_count]
  intro a
  have h1 := h (fun x => if x = a then 1 else 0)
  have key : ∀ l : List α, (l.map fun x => if x = a then 1 else 0).sum = l.count a := by
    intro l
    induction l with
    | nil => rfl
    | cons x l ih =>
      rw [List.map_cons, List.sum_cons, List.count_cons, ih]
      by_cases e : x = a
      · simp [e]
        omega
      · simp [e]
  rw [key, key] at h1
  exact h1
section
variable {K : PySem.W.Frag} {B H : Hp} {ds : List SD} {m m1 m2 m3 pre mc mc' : M} {α β S : Type} {f : β → PyData} {te ta tb to ti tj tv tx : TE} {t : TA} {r : SD} {wi : TI} {g : TG} {G : M → Prop} {items : List α} {up : α → List SD → List SD} {js : List Nat} {l : Addr} {ps : List Addr} {dss dss' : List (List β)} {F : Fx} {D : Ends} {tz ts : TS} {rs : List SD} {c : SD}
theorem ev_perm (h : Ev K te ds m1 r m2) (p : m1.Perm m) (p2 : m3.Perm m2) : Ev K te ds m r m3 := fun B H σ s st Q q => h B H σ (s.perm p) st Q fun v B2 H2 t2 s2 d2 => q v B2 H2 (t2.perm (fun a => (p.map Prod.fst).mem_iff) (fun a => (p2.map Prod.fst).mem_iff.symm)) (s2.perm p2) d2
theorem wp_perm (p : m1.Perm m) (k : Wp F ts D ds m1) : Wp F ts D ds m := fun σ H ⟨B, st, s, t, lo⟩ => k σ H ⟨B, st, s.perm p, t.perm (fun _ => Iff.rfl) (fun a => (p.map Prod.fst).mem_iff.symm), lo⟩
theorem wp_dropN (hs : m1.Sublist m) (k : Wp F ts D ds m1) : Wp F ts D ds m := fun σ H ⟨B, st, s, t, lo⟩ => k σ H ⟨B, st, s.sub hs, t.sub (fun a z => (hs.map _).subset z), lo⟩
/-! ### nests -/
theorem nest_row (s : SOk K B (pre ++ nest f l ps dss) H) {p : Addr} {xs : List β} (h : (p, xs) ∈ ps.zip dss) : ∃ j : Nat, (pre ++ nest f l ps dss)[j]? = some (p, CD.ls (xs.map f)) := by
  have hlen := nest_len s
  obtain ⟨i, hi⟩ := List.mem_iff_getElem?.mp h
  obtain ⟨h1, h2⟩ := List.getElem?_zip_eq_some.mp hi
  exact ⟨_, nest_at hlen h1 h2⟩
theorem nest_top (s : SOk K B (pre ++ nest f l ps dss) H) : H l = some (.lst (ps.map V.ref)) ∧ ps.length = dss.length := by
  have hlen := nest_len s
  have hj0 : (pre ++ nest f l ps dss)[pre.length]? = some (l, .lr (ps.map SD.rf)) := by
    rw [List.getElem?_append_right (Nat.le_refl _), Nat.sub_self, nest_eq hlen]
    rfl
  obtain ⟨vs, h1, h2⟩ := s.lr hj0
  rw [sda_refs h2] at h1
  exact ⟨h1, hlen⟩
def nget (dss : List (List β)) (i j : Int) : Option β := (getI dss i).bind fun r => getI r j
def nset (dss : List (List β)) (i j : Int) (x : β) : Option (List (List β)) := (ixN dss.length i).bind fun k => (dss[k]?).bind fun r => (setI r j x).bind fun r' => some (dss.set k r')
theorem getI_ix {γ : Type} {xs : List γ} {i : Int} {x : γ} (h : getI xs i = some x) : ∃ k, ixN xs.length i = some k ∧ xs[k]? = some x := by
  unfold getI atI at h
  cases q : ixN xs.length i with
  | none => rw [q] at h; cases h
  | some k => rw [q] at h; exact ⟨k, rfl, h⟩
/-- x[i], a row of a nest: its address, its place -/
theorem row_at {i : Int} {k : Nat} {xs : List β} (s : SOk K B (pre ++ nest f l ps dss) H) (e1 : ixN dss.length i = some k) (e2 : dss[k]? = some xs) : ∃ p, ps[k]? = some p ∧ atI (ps.map V.ref) i = some (.ref p) ∧ (pre ++ nest f l ps dss)[pre.length + (k + 1)]? = some (p, .ls (xs.map f)) := by
  have hlen := nest_len s
  have hk : k < ps.length := by rw [hlen]; exact (List.getElem?_eq_some_iff.mp e2).1
  have hp := List.getElem?_eq_getElem hk
  refine ⟨ps[k], hp, ?_, nest_at hlen hp e2⟩
  unfold atI
  rw [List.length_map, hlen, e1]
  show (ps.map V.ref)[k]? = _
  rw [List.getElem?_map, hp]
  rfl
theorem ev_nget {i j : Int} {x : β} (ho : Ev K to ds m (.rf l) m1) (hi : Ev K ti ds m1 (.da (dI i)) (pre ++ nest f l ps dss)) (hj : Ev K tj ds (pre ++ nest f l ps dss) (.da (dI j)) (pre ++ nest f l ps dss)) (h : nget dss i j = some x) : Ev K (tOp (rIxL K) (tOp (rIxL K) to ti) tj) ds m (.da (f x)) (pre ++ nest f l ps dss) := fun B H σ s st Q q =>
  ho B H σ s st _ fun u B1 H1 t1 s1 d1 => hi B1 H1 σ s1 (st_mono t1.ex st) _ fun y B2 H2 t2 s2 d2 => by
    have eu : u = .ref l := d1
    subst eu
    obtain ⟨xs, e1, e2⟩ := bindS h
    obtain ⟨k, e3, e4⟩ := getI_ix e1
    obtain ⟨p, hp, hat, hjj⟩ := row_at s2 e3 e4
    obtain ⟨h1, _⟩ := nest_top s2
    refine ⟨l, ps.map V.ref, i, .ref p, rfl, int_of d2, SqL.of h1, hat, ?_⟩
    refine hj B2 H2 σ s2 (st_mono (t1.ex.trans t2.ex) st) _ fun z B3 H3 t3 s3 d3 => ?_
    obtain ⟨p', hp', hat', hjj'⟩ := row_at s3 e3 e4
    rw [hp] at hp'
    cases hp'
    exact rr_ixC (f := f) _ hjj' e2 B3 H3 _ _ s3 rfl d3 Q fun v B4 H4 t4 s4 d4 => q v B4 H4 (((t1.trans t2).trans t3).trans t4) s4 d4
theorem wp_nset {i j : Int} {x : β} (hv : Ev F.K tv ds m (.da (f x)) m1) (ho : Ev F.K to ds m1 (.rf l) m2) (hi : Ev F.K ti ds m2 (.da (dI i)) (pre ++ nest f l ps dss)) (hj : Ev F.K tj ds (pre ++ nest f l ps dss) (.da (dI j)) (pre ++ nest f l ps dss)) (h : nset dss i j x = some dss')
    (k : Wp F tz D ds (pre ++ nest f l ps dss')) : Wp F (tSeq (tAsg tv (gSub (tOp (rIxL F.K) to ti) tj rSetL)) tz) D ds m := fun σ H ⟨B, st, s, t, lo⟩ =>
  hv B H σ s st _ fun v B1 H1 t1 s1 d1 => ho B1 H1 σ s1 (st_mono t1.ex st) _ fun o B2 H2 t2 s2 d2 => hi B2 H2 σ s2 (st_mono (t1.ex.trans t2.ex) st) _ fun y B3 H3 t3 s3 d3 => by
    have eo : o = .ref l := d2
    subst eo
    obtain ⟨kk, e3, h⟩ := bindS h
    obtain ⟨xs, e4, h⟩ := bindS h
    obtain ⟨ys, e5, h⟩ := bindS h
    have e6 := Option.some.inj h
    subst e6
    obtain ⟨p, hp, hat, _⟩ := row_at s3 e3 e4
    obtain ⟨h1, _⟩ := nest_top s3
    refine ⟨l, ps.map V.ref, i, .ref p, rfl, int_of d3, SqL.of h1, hat, ?_⟩
    refine hj B3 H3 σ s3 (st_mono ((t1.ex.trans t2.ex).trans t3.ex) st) _ fun z B4 H4 t4 s4 d4 => ?_
    obtain ⟨p', hp', _, hjj⟩ := row_at s4 e3 e4
    rw [hp] at hp'
    cases hp'
    obtain ⟨vs, g1, g2⟩ := s4.ls hjj
    have hl := dpa_len g2
    rw [List.length_map] at hl
    unfold setI at e5
    obtain ⟨jx, e7, e8⟩ := Option.map_eq_some_iff.mp e5
    have hcd : CdOk F.K B4 (.ls (ys.map f)) (.lst (vs.set jx v)) := by
      subst e8
      rw [List.map_set]
      exact dqa_set jx g2 (dp_mono ((t2.ex.trans t3.ex).trans t4.ex) d1)
    refine ⟨p, vs, j, jx, rfl, int_of d4, g1, by rw [hl]; exact e7, ?_⟩
    have s5 := s4.put hjj hcd
    have t5 := Tr.put s4 hjj hcd
    rw [nest_set (nest_len s4) hp] at s5 t5
    exact k σ _ ⟨B4, st_mono (((t1.ex.trans t2.ex).trans t3.ex).trans t4.ex) st, s5, ((((t.trans t1).trans t2).trans t3).trans t4).trans t5, lo.trans (((t1.ex.trans t2.ex).trans t3.ex).trans t4.ex)⟩
/-- x[i][j] += e -/
theorem pget_list {X : Cx} : PGet X (rIxL X.K) := by
  intro pins s σ H x y v u Q I rx ry h
  obtain ⟨p, xs, i, z, rfl, rfl, hq, he, q⟩ := h
  cases rx
  obtain ⟨t, rfl⟩ := ry
  obtain ⟨its, r, pl, hz⟩ := I.list hq
  obtain ⟨j, g1, g2, g3, g4, g5⟩ := atI_get he
  obtain ⟨w, ew, rw'⟩ := r.get g2
  have hl := r.length
  have hn := line63
  by_cases h0 : 0 ≤ i
  · have hj : i.toNat = j := by
      rw [seqIndex_of h0 g5] at g1
      exact Option.some.inj g1
    exact wpAny_getItem_list pl.isList h0 (by omega) (by rw [hj]; simpa using ew) ⟨z, H, I, rw', q⟩
  · have hj : (i + (its.toArray.size : Int)).toNat = j := by
      rw [seqIndex_neg (by omega) g4] at g1
      rw [List.size_toArray, ← hl]
      exact Option.some.inj g1
    exact wpAny_getItem_list_neg pl.isList (by omega) (by rw [List.size_toArray] <;> omega) (by omega) (by rw [hj]; simpa using ew) ⟨z, H, I, rw', q⟩
theorem wp_naug {i j a b : Int} {dn dn' : List (List Int)} {fi : Int → Int → Int} (ho : Ev F.K to ds m (.rf l) m1) (hi : Ev F.K ti ds m1 (.da (dI i)) (pre ++ nest dI l ps dn)) (hj : Ev F.K tj ds (pre ++ nest dI l ps dn) (.da (dI j)) (pre ++ nest dI l ps dn)) (hg : nget dn i j = some a)
    (hv : Ev F.K tv ds (pre ++ nest dI l ps dn) (.da (dI b)) (pre ++ nest dI l ps dn)) (h : nset dn i j (fi a b) = some dn') (k : Wp F tz D ds (pre ++ nest dI l ps dn')) : Wp F (tSeq (tAugS (tOp (rIxL F.K) to ti) tj tv (rIxL F.K) (ipI fi) rSetL) tz) D ds m := fun σ H ⟨B, st, s, t, lo⟩ =>
  ho B H σ s st _ fun o B1 H1 t1 s1 d1 => hi B1 H1 σ s1 (st_mono t1.ex st) _ fun y B2 H2 t2 s2 d2 => by
    have eo : o = .ref l := d1
    subst eo
    obtain ⟨kk, e3, h⟩ := bindS h
    obtain ⟨xs, e4, h⟩ := bindS h
    obtain ⟨ys, e5, h⟩ := bindS h
    have e6 := Option.some.inj h
    subst e6
    obtain ⟨xs', f1, f2⟩ := bindS hg
    obtain ⟨kk', f3, f4⟩ := getI_ix f1
    rw [e3] at f3
    cases f3
    rw [e4] at f4
    cases f4
    obtain ⟨p, hp, hat, _⟩ := row_at s2 e3 e4
    obtain ⟨h1, _⟩ := nest_top s2
    refine ⟨l, ps.map V.ref, i, .ref p, rfl, int_of d2, SqL.of h1, hat, ?_⟩
    refine hj B2 H2 σ s2 (st_mono (t1.ex.trans t2.ex) st) _ fun z B3 H3 t3 s3 d3 => ?_
    obtain ⟨p', hp', _, hjj⟩ := row_at s3 e3 e4
    rw [hp] at hp'
    cases hp'
    refine rr_ixC (f := dI) _ hjj f2 B3 H3 _ _ s3 rfl d3 _ fun old B4 H4 t4 s4 d4 => ?_
    refine hv B4 H4 σ s4 (st_mono (((t1.ex.trans t2.ex).trans t3.ex).trans t4.ex) st) _ fun w B5 H5 t5 s5 d5 => ?_
    refine ⟨a, b, int_of (sd_mono t5.ex d4), int_of d5, ?_⟩
    obtain ⟨p', hp', _, hjj5⟩ := row_at s5 e3 e4
    rw [hp] at hp'
    cases hp'
    obtain ⟨vs, g1, g2⟩ := s5.ls hjj5
    have hl := dpa_len g2
    rw [List.length_map] at hl
    unfold setI at e5
    obtain ⟨jx, e7, e8⟩ := Option.map_eq_some_iff.mp e5
    have hcd : CdOk F.K B5 (.ls (ys.map dI)) (.lst (vs.set jx (.int (fi a b)))) := by
      subst e8
      rw [List.map_set]
      exact dqa_set jx g2 (.int _)
    refine ⟨p, vs, j, jx, rfl, int_of d3, g1, by rw [hl]; exact e7, ?_⟩
    have s6 := s5.put hjj5 hcd
    have t6 := Tr.put s5 hjj5 hcd
    rw [nest_set (nest_len s5) hp] at s6 t6
    exact k σ _ ⟨B5, st_mono ((((t1.ex.trans t2.ex).trans t3.ex).trans t4.ex).trans t5.ex) st, s6, (((((t.trans t1).trans t2).trans t3).trans t4).trans t5).trans t6, lo.trans ((((t1.ex.trans t2.ex).trans t3.ex).trans t4.ex).trans t5.ex)⟩
/-- len(x), len(x[i]) -/
theorem rc_lenN : Rc K (rLenA K) [.rf l] (pre ++ nest f l ps dss) (.da (dI dss.length)) (pre ++ nest f l ps dss) := Rc.of fun B H vs s dx Q q => by
  obtain ⟨v, rfl, d1⟩ := sda1 dx
  have e : v = .ref l := d1
  obtain ⟨h1, h2⟩ := nest_top s
  refine ⟨l, ps.map V.ref, by rw [e], .inl (SqL.of h1), ?_⟩
  rw [List.length_map, h2]
  exact q _ (.int _)
theorem ev_lenRow {i : Int} {xs : List β} (ho : Ev K to ds m (.rf l) m1) (hi : Ev K ti ds m1 (.da (dI i)) (pre ++ nest f l ps dss)) (h : getI dss i = some xs) : Ev K (tCB (rLenA K) (tCons (tOp (rIxL K) to ti) tNil)) ds m (.da (dI xs.length)) (pre ++ nest f l ps dss) := fun B H σ s st Q q =>
  ho B H σ s st _ fun u B1 H1 t1 s1 d1 => hi B1 H1 σ s1 (st_mono t1.ex st) _ fun y B2 H2 t2 s2 d2 => by
    have eu : u = .ref l := d1
    subst eu
    obtain ⟨k, e3, e4⟩ := getI_ix h
    obtain ⟨p, hp, hat, hjj⟩ := row_at s2 e3 e4
    obtain ⟨h1, _⟩ := nest_top s2
    refine ⟨l, ps.map V.ref, i, .ref p, rfl, int_of d2, SqL.of h1, hat, ?_⟩
    obtain ⟨ws, g1, g2⟩ := s2.ls hjj
    refine ⟨p, ws, rfl, .inl (SqL.of g1), ?_⟩
    rw [dpa_len g2, List.length_map]
    exact q _ B2 H2 (t1.trans t2) s2 (.int _)
/-- a row by a name: its length, its items -/
theorem ev_lenR {p : Addr} {xs : List β} {j : Nat} (hj : ds[j]? = some (.rf p)) (h : (p, xs) ∈ ps.zip dss) : Ev K (tCB (rLenA K) (tCons (tVar j) tNil)) ds (pre ++ nest f l ps dss) (.da (dI xs.length)) (pre ++ nest f l ps dss) := fun B H σ s st Q q => by
  obtain ⟨k, hk⟩ := nest_row s h
  exact ev_cb (ea_cons (ev_rf hj) ea_nil) (rc_lenC (f := f) k hk) B H σ s st Q q
theorem ev_getR {p : Addr} {xs : List β} {j : Nat} {i : Int} {x : β} (hj : ds[j]? = some (.rf p)) (h : (p, xs) ∈ ps.zip dss) (hi : Ev K ti ds (pre ++ nest f l ps dss) (.da (dI i)) (pre ++ nest f l ps dss)) (hx : getI xs i = some x) : Ev K (tOp (rIxL K) (tVar j) ti) ds (pre ++ nest f l ps dss) (.da (f x)) (pre ++ nest f l ps dss) := fun B H σ s st Q q => by
  obtain ⟨k, hk⟩ := nest_row s h
  exact ev_op (ev_rf hj) hi (rr_ixC (f := f) k hk hx) B H σ s st Q q
/-- what is walked: a nest -/
theorem src_N {j : Nat} (h : Ev K tx ds m (.rf l) (pre ++ nest f l ps dss)) : Src K (iList K tx) (gName j) ds m (pre ++ nest f l ps dss) (fun m' => ∃ pre c, m' = (pre ++ nest f l ps dss) ++ c) (ps.zip dss) (fun x ds => ds.set j (.rf x.1)) [j] := fun B H σ s st R q => h B H σ s st _ fun v B1 H1 t1 s1 d1 => by
  have e : v = .ref l := d1
  subst e
  obtain ⟨h1, h2⟩ := nest_top s1
  have top : ∀ {H B' m'}, (∃ pre c, m' = (pre ++ nest f l ps dss) ++ c) → SOk K B' m' H → SqL K H l (ps.map V.ref) := fun g s => by
    obtain ⟨pre, c, rfl⟩ := g
    exact SqL.of (nest_top (s.sub (List.sublist_append_left _ _))).1
  refine ⟨l, rfl, ⟨_, SqL.of h1⟩, q _ B1 H1 t1 s1 ⟨fun i H B' m' hi e g s => ?_, fun H B' m' e g s => ⟨_, top g s, by rw [List.length_map, List.length_zip, h2, Nat.min_self]; exact Nat.le_refl _⟩, fun i x v H H' B' m' ds σ hx e g s st hy Q q => ?_⟩⟩
  · rw [List.length_zip, h2, Nat.min_self] at hi
    have hi' : i < (ps.map V.ref).length := by rw [List.length_map, h2]; exact hi
    exact ⟨_, _, top g s, List.getElem?_eq_getElem hi'⟩
  · obtain ⟨rfl, y2⟩ := hy
    have h5 := y2 _ (top g s)
    obtain ⟨g1, _⟩ := List.getElem?_zip_eq_some.mp hx
    rw [List.getElem?_map, g1] at h5
    have e5 := Option.some.inj h5
    subst e5
    exact q B' _ (Tr.refl _ _ _) s (st_set j st (sl_of (s := .rf x.1) rfl)) sets1
theorem src_EN {j k : Nat} (h : EvA K t ds m [.rf l] (pre ++ nest f l ps dss)) : Src K (iEnum K t) (gTup K 2 (gCons (gName j) (gCons (gName k) gNil))) ds m (pre ++ nest f l ps dss) (fun m' => ∃ pre c, m' = (pre ++ nest f l ps dss) ++ c) (enumI (ps.zip dss)) (fun p ds => (ds.set j (.da (dI p.1))).set k (.rf p.2.1)) ([j] ++ [k]) := fun B H σ s st R q => h B H σ s st _ fun vs B1 H1 t1 s1 d1 => by
  obtain ⟨v, rfl, d⟩ := sda1 d1
  have e : v = .ref l := d
  subst e
  obtain ⟨h1, h2⟩ := nest_top s1
  have top : ∀ {H B' m'}, (∃ pre c, m' = (pre ++ nest f l ps dss) ++ c) → SOk K B' m' H → SqL K H l (ps.map V.ref) := fun g s => by
    obtain ⟨pre, c, rfl⟩ := g
    exact SqL.of (nest_top (s.sub (List.sublist_append_left _ _))).1
  refine ⟨l, ps.map V.ref, rfl, SqL.of h1, q _ B1 H1 t1 s1 ⟨fun i H B' m' hi e g s => ?_, fun H B' m' e g s => ⟨_, top g s, ?_⟩, fun i x v H H' B' m' ds σ hx e g s st hy Q q => ?_⟩⟩
  · unfold enumI at hi
    rw [List.length_map, List.length_zipIdx, List.length_zip, h2, Nat.min_self] at hi
    have hi' : i < (ps.map V.ref).length := by rw [List.length_map, h2]; exact hi
    exact ⟨_, _, top g s, List.getElem?_eq_getElem hi'⟩
  · unfold enumI
    rw [List.length_map, List.length_map, List.length_zipIdx, List.length_zip, h2, Nat.min_self]
    exact Nat.le_refl _
  · obtain ⟨T, w, rfl, hT, rfl, y2⟩ := hy
    unfold enumI at hx
    rw [List.getElem?_map, Option.map_eq_some_iff] at hx
    obtain ⟨pr, g1, rfl⟩ := hx
    rw [List.getElem?_zipIdx, Option.map_eq_some_iff] at g1
    obtain ⟨a, g3, rfl⟩ := g1
    obtain ⟨g4, _⟩ := List.getElem?_zip_eq_some.mp g3
    have h7 := y2 _ (top g s)
    rw [List.getElem?_map, g4] at h7
    have e7 := Option.some.inj h7
    subst e7
    have e0 : ((i : Nat) : Int) = ((0 + i : Nat) : Int) := by omega
    refine ⟨T, [_, .ref a.1], rfl, SqT.of upd_same, rfl, _, [.ref a.1], rfl, .ref a.1, [], rfl, rfl, ?_⟩
    refine q (upd B' T _) _ (Tr.data s hT) (s.data hT) ?_ (sets1.trans sets1)
    have ee := Ex.new (o := .tup [V.int (i : Nat), .ref a.1]) (fresh_b s hT)
    refine st_set k (st_set j (st_mono ee st) (sl_of (s := .da (dI ((0 + i : Nat) : Int))) ?_)) (sl_of (s := .rf a.1) rfl)
    rw [← e0]
    exact .int _
theorem zip_mapO {γ : Type} {step : List β → Option γ} {out : List γ} : ∀ {ps : List Addr} {dss : List (List β)}, ps.length = dss.length → mapO step dss = some out → mapO (fun p : Addr × List β => step p.2) (ps.zip dss) = some out
  | [], [], _, h => h
  | [], _ :: _, h, _ => by cases h
  | _ :: _, [], h, _ => by cases h
  | p :: ps, d :: dss, hl, h => by
    obtain ⟨y, h1, h⟩ := bindS h
    obtain ⟨ys, h2, h⟩ := bindS h
    show (step d).bind _ = _
    rw [h1]
    show (mapO _ (ps.zip dss)).bind _ = _
    rw [zip_mapO (Nat.succ.inj hl) h2]
    exact h
end
section
variable {K : PySem.W.Frag} {ds : List SD} {m m1 pre : M} {α β γ S R : Type} {f : β → PyData} {f2 : γ → PyData} {te tx : TE} {t : TA} {l : Addr} {ps : List Addr} {dss : List (List β)} {F : Fx} {D : Ends} {tz tb : TS} {es : List SD}
/-- a comprehension over a nest's rows -/
theorem lc_N {j : Nat} {vs : List Nat} {step : List β → Option γ} {out : List γ} (hx : Ev K tx ds m (.rf l) (pre ++ nest f l ps dss)) (hjs : j ∈ vs) (hn : lenG dss.length = some ()) (h : mapO step dss = some out)
    (body : ∀ p xs y, (p, xs) ∈ ps.zip dss → step xs = some y → Ev K te ((wipeD ds vs).set j (.rf p)) (pre ++ nest f l ps dss) (.da (f2 y)) (pre ++ nest f l ps dss)) :
    ∀ B H σ, SOk K B m H → StOk K B ds σ → ∀ Q : VK, (∀ p B2 H2, Tr B H (keys m) B2 H2 (keys ((pre ++ nest f l ps dss) ++ [(p, .ls (out.map f2))])) → SOk K B2 ((pre ++ nest f l ps dss) ++ [(p, .ls (out.map f2))]) H2 → H p = none → Q (.ref p) H2) → tLc (iList K tx) (gName j) tYes te vs σ H Q := fun B H σ s st Q q => by
  by_cases hl : ps.length = dss.length
  · exact lc_map (f2 := f2) (step := fun p : Addr × List β => step p.2) (src_N hx) (fun k hk => by rw [List.mem_singleton.mp hk]; exact hjs) (fun c => ⟨pre, c, rfl⟩) (by rw [List.length_zip, hl, Nat.min_self]; exact hn) (zip_mapO hl h) (fun p y hp hy => body p.1 p.2 y hp hy) B H σ s st Q q
  · -- the cells do not stand
    exact hx B H σ s st _ fun v B1 H1 t1 s1 d1 => absurd (nest_len s1) hl
theorem zip_forC {step : S → Int × List β → Option (Ctl S R)} {c : Ctl S R} {ps : List Addr} {dss : List (List β)} (hl : ps.length = dss.length) {s : S} (h : forC step s (enumI dss) = some c) : forC (fun s (p : Int × Addr × List β) => step s (p.1, p.2.2)) s (enumI (ps.zip dss)) = some c := by
  have key : ∀ (ps : List Addr) (dss : List (List β)) (k : Nat) (s : S), ps.length = dss.length → forC step s ((dss.zipIdx k).map fun p => ((p.2 : Int), p.1)) = some c → forC (fun s (p : Int × Addr × List β) => step s (p.1, p.2.2)) s (((ps.zip dss).zipIdx k).map fun p => ((p.2 : Int), p.1)) = some c := by
    intro ps
    induction ps with
    | nil =>
      intro dss k s hl h
      cases dss with
      | nil => exact h
      | cons _ _ => cases hl
    | cons p ps ih =>
      intro dss k s hl h
      cases dss with
      | nil => cases hl
      | cons d dss =>
        obtain ⟨c', h1, h2⟩ := bindS h
        show (step s ((k : Int), d)).bind _ = _
        rw [show step s ((k : Int), d) = some c' from h1]
        cases c' with
        | nx s' => exact ih dss (k + 1) s' (Nat.succ.inj hl) h2
        | bk s' => exact h2
        | rt r => exact h2
  exact key ps dss 0 s hl h
theorem zip_forF {step : S → Int × List β → Option S} {sN : S} {ps : List Addr} {dss : List (List β)} (hl : ps.length = dss.length) {s : S} (h : forF step s (enumI dss) = some sN) : forF (fun s (p : Int × Addr × List β) => step s (p.1, p.2.2)) s (enumI (ps.zip dss)) = some sN := by
  have key : ∀ (ps : List Addr) (dss : List (List β)) (k : Nat) (s : S), ps.length = dss.length → forF step s ((dss.zipIdx k).map fun p => ((p.2 : Int), p.1)) = some sN → forF (fun s (p : Int × Addr × List β) => step s (p.1, p.2.2)) s (((ps.zip dss).zipIdx k).map fun p => ((p.2 : Int), p.1)) = some sN := by
    intro ps
    induction ps with
    | nil =>
      intro dss k s hl h
      cases dss with
      | nil => exact h
      | cons _ _ => cases hl
    | cons p ps ih =>
      intro dss k s hl h
      cases dss with
      | nil => cases hl
      | cons d dss =>
        obtain ⟨s', h1, h2⟩ := bindS h
        show (step s ((k : Int), d)).bind _ = _
        rw [show step s ((k : Int), d) = some s' from h1]
        exact ih dss (k + 1) s' (Nat.succ.inj hl) h2
  exact key ps dss 0 s hl h
theorem mem_enumZ {i : Int} {p : Addr} {xs : List β} (h : (i, p, xs) ∈ enumI (ps.zip dss)) : (p, xs) ∈ ps.zip dss := by
  unfold enumI at h
  obtain ⟨q, hq, e⟩ := List.mem_map.mp h
  obtain ⟨q1, q2⟩ := q
  have e2 : q1 = (p, xs) := congrArg Prod.snd e
  rw [← e2]
  exact (List.mem_zipIdx hq).2.2 ▸ List.getElem_mem _
theorem wp_nl (h : ps.length = dss.length → Wp F tb D ds (pre ++ nest f l ps dss)) : Wp F tb D ds (pre ++ nest f l ps dss) := fun σ H ⟨B, st, s, t, lo⟩ => h (nest_len s) σ H ⟨B, st, s, t, lo⟩
/-! ### nests made -/
theorem lcNestG {wi : TI} {g : TG} {G : M → Prop} {items : List α} {up : α → List SD → List SD} {js vs : List Nat} {step : α → Option (List β)} (hs : Src K wi g ds m m1 G items up js) (hjs : ∀ j ∈ js, j ∈ vs) (hG : ∀ c, G (m1 ++ c)) (hn : lenG items.length = some ()) (h : mapO step items = some dss)
    (body : ∀ x y, x ∈ items → step x = some y → ∀ c, EvN K te (up x (wipeD ds vs)) (m1 ++ c) (.ls (y.map f)) (m1 ++ c)) :
    ∀ B H σ, SOk K B m H → StOk K B ds σ → ∀ Q : VK, (∀ l ps B2 H2, Tr B H (keys m) B2 H2 (keys (m1 ++ nest f l ps dss)) → SOk K B2 (m1 ++ nest f l ps dss) H2 → Q (.ref l) H2) → tLc wi g tYes te vs σ H Q := by
  intro B H σ s st Q q
  have hnn := lenG_some hn
  have hdl : dss.length = items.length ∧ ∀ (i : Nat) (x : α), items[i]? = some x → ∃ y, step x = some y ∧ dss[i]? = some y := by
    clear q hs hG body hn hnn
    induction items generalizing dss with
    | nil => cases h; exact ⟨rfl, fun i x hx => by simp at hx⟩
    | cons x xs ih =>
      obtain ⟨y, h1, h⟩ := bindS h
      obtain ⟨ys, h2, h⟩ := bindS h
      cases h
      obtain ⟨g1, g2⟩ := ih h2
      refine ⟨by rw [List.length_cons, List.length_cons, g1], fun i z hz => ?_⟩
      cases i with
      | zero =>
        cases hz
        exact ⟨y, h1, rfl⟩
      | succ i => exact g2 i z hz
  obtain ⟨hdl, hst⟩ := hdl
  refine hs B H σ s st _ fun J B1 H1 t1 s1 T D hD => ?_
  refine ⟨fun i k H' => k = items.length - i ∧ i ≤ items.length ∧ ∃ B' ps, Tr B H (keys m) B' H' (keys (m1 ++ nest f D ps (dss.take i))) ∧ Ex B1 B' ∧ SOk K B' (m1 ++ nest f D ps (dss.take i)) H',
    ⟨items.length, by simp, Nat.zero_le _, B1, [], t1.trans (Tr.cell s1 hD), Ex.refl _, s1.cell hD (show CdOk K B1 (.lr (([] : List Addr).map SD.rf)) (.lst []) from True.intro)⟩, ?_⟩
  rintro i k H' ⟨rfl, hi, B', ps, tr, eB, sk⟩
  have hlen := nest_len sk
  by_cases hlt : i < items.length
  · refine .inr ⟨T.1 i H' B' _ hlt eB (hG _) sk, fun H'' => i + 1 ≤ items.length ∧ ∃ B' ps, Tr B H (keys m) B' H'' (keys (m1 ++ nest f D ps (dss.take (i + 1)))) ∧ Ex B1 B' ∧ SOk K B' (m1 ++ nest f D ps (dss.take (i + 1))) H'',
      fun H'' p => ⟨items.length - (i + 1), by omega, rfl, p⟩, fun x H'' hy => ?_⟩
    have hx : items[i]? = some items[i] := List.getElem?_eq_getElem hlt
    obtain ⟨y, hy1, hy2⟩ := hst i _ hx
    refine T.2.2 i items[i] x H' H'' B' _ (wipeD ds vs) (wipe σ vs) hx eB (hG _) sk (st_wipe (st_mono (t1.ex.trans eB) st) vs) hy _ fun B2 σ2 t2 s2 st2 hset => ⟨wipe_sets hset hjs, ?_⟩
    refine et_yes B2 H'' σ2 s2 st2 _ fun B3 H3 t3 s3 => iteT ?_
    refine body items[i] y (List.getElem_mem hlt) hy1 _ B3 H3 σ2 s3 (st_mono t3.ex st2) _ fun p B4 H4 t4 s4 => ?_
    have hjD : ((m1 ++ nest f D ps (dss.take i)) ++ [(p, CD.ls (y.map f))])[m1.length]? = some (D, .lr (ps.map SD.rf)) := by
      rw [List.append_assoc, List.getElem?_append_right (Nat.le_refl _), Nat.sub_self, nest_eq hlen]
      rfl
    obtain ⟨ws, hw, hwa⟩ := s4.lr hjD
    have hwl : ws.length = ps.length := by rw [sda_refs hwa, List.length_map]
    have hil : (dss.take i).length = i := by rw [List.length_take]; omega
    rw [hil] at hlen
    have hset2 : ((m1 ++ nest f D ps (dss.take i)) ++ [(p, CD.ls (y.map f))]).set m1.length (D, .lr ((ps ++ [p]).map SD.rf)) = m1 ++ nest f D (ps ++ [p]) (dss.take (i + 1)) := by
      have hlt2 : i < dss.length := by omega
      have ey : dss[i] = y := by
        rw [List.getElem?_eq_getElem hlt2] at hy2
        exact Option.some.inj hy2
      rw [List.append_assoc, List.set_append_right _ _ (Nat.le_refl _), Nat.sub_self, nest_eq (by rw [hil]; exact hlen), nest_eq (by rw [List.length_append, List.length_take]; show ps.length + 1 = _; omega)]
      have e : dss.take (i + 1) = dss.take i ++ [y] := by rw [← ey]; exact (List.take_append_getElem hlt2).symm
      rw [e, List.zipWith_append (by rw [hil]; exact hlen)]
      rfl
    have hcd : CdOk K B4 (.lr ((ps ++ [p]).map SD.rf)) (.lst (ws ++ [.ref p])) := by
      rw [List.map_append]
      exact sda_app hwa
    have t5 := Tr.put s4 hjD hcd
    have s5 := s4.put hjD hcd
    rw [hset2] at t5 s5
    exact ⟨ws, hw, by rw [sizeLine_eq]; omega, hlt, B4, ps ++ [p], (((tr.trans t2).trans t3).trans t4).trans t5, ((eB.trans t2.ex).trans t3.ex).trans t4.ex, s5⟩
  · have e : i = items.length := by omega
    subst e
    rw [← hdl, List.take_length] at tr sk
    refine .inl ⟨T.2.1 H' B' _ eB (hG _) sk, q D ps B' H' tr sk⟩
end
/-! ### slices with a step -/
def tSlX (K : PySem.W.Frag) (te : TE) (tl th ts : TO) : TE := fun σ H Q => te σ H fun x H1 => tl σ H1 fun lo H2 => th σ H2 fun hi H3 => ts σ H3 fun k H4 => ∃ a xs, x = .ref a ∧ SqL K H4 a xs ∧ k ≠ some 0 ∧ ∀ p, H4 p = none → Q (.ref p) (upd H4 p (.lst (((sliceRange (sliceBounds lo hi k xs.length).1 (sliceBounds lo hi k xs.length).2.1 (sliceBounds lo hi k xs.length).2.2)).filterMap (xs[·]?))))
theorem vals_pick {vs : List V} {us : List Value} (r : Vals vs us) : ∀ ix : List Nat, Vals (ix.filterMap (vs[·]?)) (ix.filterMap (us[·]?))
  | [] => .nil
  | i :: ix => by
    have ih := vals_pick r ix
    have hl := r.length
    rw [List.filterMap_cons, List.filterMap_cons]
    by_cases h : i < vs.length
    · obtain ⟨w, e, rw'⟩ := r.get (List.getElem?_eq_getElem h)
      rw [List.getElem?_eq_getElem h, e]
      exact .cons rw' ih
    · rw [List.getElem?_eq_none (by omega), List.getElem?_eq_none (by omega)]
      exact ih
theorem pe_sliceX {X : Cx} {e st0 : Expr} {te : TE} {lo hi : Option Expr} {tl th ts : TO} {pos p2 : Pos} (he : PE X e te) (hl : PO X lo tl) (hu : PO X hi th) (hs : PO X (some st0) ts) : PE X (.Subscript e (.Slice lo hi (some st0) p2) pos) (tSlX X.K te tl th ts) := by
  refine ⟨fun pins s σ H Q I h => Subscript_ (thn (he.run pins s σ H _ I h) fun v s1 h1 => ?_)⟩
  obtain ⟨x, H1, I1, r1, q1⟩ := h1
  refine wpAny_Slice (thn (hl.run pins s1 σ H1 _ I1 q1) fun vl s2 h2 => ?_)
  obtain ⟨l, H2, I2, pl, q2⟩ := h2
  refine thn (hu.run pins s2 σ H2 _ I2 q2) fun vu s3 h3 => ?_
  obtain ⟨u, H3, I3, pu, q3⟩ := h3
  refine thn (hs.run pins s3 σ H3 _ I3 q3) fun vs s4 h4 => ?_
  obtain ⟨k, H4, I4, pk, a, xs, ex, hx, hk, q⟩ := h4
  subst ex
  cases r1
  have I5 : Inv X pins σ H4 { s4 with heap := s4.heap.push { cls := .type "slice", data := .fields #[vl, vu, vs] } } := I4.kept (t' := s4.toks) fun b ob z => Heap.get?_push_of_some _ z
  obtain ⟨its, r, ht, hz⟩ := I5.list hx
  have hlen := r.length
  show wpAny (model X.prog X.w) X.A (subscriptTail e (.Slice lo hi (some st0) p2) (.ref a) (.ref s4.heap.objs.size)) (EP X pins σ Q) X.xe { s4 with heap := s4.heap.push { cls := .type "slice", data := .fields #[vl, vu, vs] } }
  refine tail_any (ops := [.ref a, .ref s4.heap.objs.size]) ht.isList.typeIs (PySem.slot_list_getitem.lookup) ?_ (by with_unfolding_all rfl)
  refine wpAny_getItem_list_slice ht.isList (Heap.IsSliceOf.new _ vl vu vs) pl pu pk hk ?_ (by rw [List.size_toArray]; omega)
  have hsz := slicePick_size_le its.toArray l u k
  have e1 : slicePick its.toArray l u k = (((sliceRange (sliceBounds l u k xs.length).1 (sliceBounds l u k xs.length).2.1 (sliceBounds l u k xs.length).2.2)).filterMap (its[·]?)).toArray := by
    unfold slicePick
    rw [List.size_toArray, hlen]
    have e0 : (fun i : Nat => its.toArray[i]?) = fun i => its[i]? := by funext i; exact List.getElem?_toArray
    rw [e0]
  rw [e1] at hsz ⊢
  rw [List.size_toArray, List.size_toArray] at hsz
  have hv := vals_pick r (sliceRange (sliceBounds l u k xs.length).1 (sliceBounds l u k xs.length).2.1 (sliceBounds l u k xs.length).2.2)
  refine ⟨.ref _, _, I5.laid (t' := s4.toks) (o := .lst _) (fun b ob z => Heap.get?_push_of_some _ z) (Nat.le_refl _) ?_, rfl, q _ (I5.hok.fresh (Nat.le_refl _))⟩
  exact ⟨by rw [hv.length]; omega, _, 0, hv, Heap.get?_push_size _ rfl⟩
end FC
namespace FC
open PySem PySem.Spec PyProof.Rows L2 Evl
section
variable {K : PySem.W.Frag} {ds : List SD} {m m1 m2 pre : M} {α β : Type} {f : β → PyData} {te ta tb to : TE} {l p C dx : Addr} {ps : List Addr} {dss : List (List β)} {F : Fx} {D : Ends} {tz : TS} {sds : List SD} {names : List Str}
theorem ev_listR {q0 : Addr} {xs : List β} {j : Nat} (hj : ds[j]? = some (.rf q0)) (h : (q0, xs) ∈ ps.zip dss) : Ev K (tCB (rListOf K) (tCons (tVar j) tNil)) ds (pre ++ nest f l ps dss) (.da (dL f xs)) (pre ++ nest f l ps dss) := fun B H σ s st Q q => by
  obtain ⟨k, hk⟩ := nest_row s h
  exact ev_cb (ea_cons (ev_rf hj) ea_nil) (rc_listC (f := f) k hk) B H σ s st Q q
/-- xs * n as a new list -/
theorem en_rep {xs ys : List β} {n : Int} (ha : Ev K ta ds m (.da (dL f xs)) m1) (hb : Ev K tb ds m1 (.da (dI n)) m2) (h : repI xs n = some ys) : EvN K (tOp rRep ta tb) ds m (.ls (ys.map f)) m2 := fun B H σ s st Q q =>
  ha B H σ s st _ fun x B1 H1 t1 s1 d1 => hb B1 H1 σ s1 (st_mono t1.ex st) _ fun y B2 H2 t2 s2 d2 => by
    obtain ⟨p0, ws, rfl, hp, hd⟩ := lst_of (sd_mono t2.ex d1)
    have h1 := dpa_len hd
    rw [List.length_map] at h1
    unfold repI at h
    split at h
    · rename_i hc
      have e := Option.some.inj h
      subst e
      refine ⟨p0, n, ws, rfl, int_of d2, s2.ext _ _ hp, hc.1, hc.2.1, by rw [sizeLine_eq, h1]; omega, fun l hl => q l _ _ ((t1.trans t2).trans (Tr.cell s2 hl)) (s2.cell hl ?_)⟩
      show DqAll B2 _ _
      rw [List.map_flatten, List.map_replicate]
      exact dqa_rep hd _
    · cases h
/-- o.f = a new nest, a field's first store -/
theorem wp_fld0Nest (j : Nat) {fn : Str} (hc : ∀ B H σ, SOk F.K B m H → StOk F.K B ds σ → ∀ Q : VK, (∀ l ps B2 H2, Tr B H (keys m) B2 H2 (keys (m1 ++ nest f l ps dss)) → SOk F.K B2 (m1 ++ nest f l ps dss) H2 → Q (.ref l) H2) → te σ H Q) (ho : ∀ m, Ev F.K ta ds m (.rf p) m) (hj : m1[j]? = some (p, obj C dx names sds)) (hp : PutAt fn names sds.length) (hn : names.length < 500) (c : Cls F.K C) (n : NoAttr F.K C fn)
    (k : ∀ l ps, Wp F tz D ds ((m1 ++ nest f l ps dss).set j (p, obj C dx names (sds ++ [.rf l])))) : Wp F (tSeq (sFld F.K ta te fn) tz) D ds m := fun σ H ⟨B, st, s, t, lo⟩ =>
  hc B H σ s st _ fun l ps B1 H1 t1 s1 => by
    refine ho _ B1 H1 σ s1 (st_mono t1.ex st) _ fun x B2 H2 t2 s2 d2 => ?_
    have e : x = .ref p := d2
    subst e
    have hlt : j < m1.length := (List.getElem?_eq_some_iff.mp hj).1
    have hj2 : (m1 ++ nest f l ps dss)[j]? = some (p, obj C dx names sds) := by
      rw [List.getElem?_append_left hlt]
      exact hj
    obtain ⟨vs, h1, h3⟩ := new_obj (sd := .rf l) (v := .ref l) s2 hj2 hp rfl
    refine ⟨p, C, dx, _, rfl, h1, c, n, by rw [List.length_zip]; omega, ?_⟩
    exact k l ps σ _ ⟨B2, st_mono (t1.ex.trans t2.ex) st, s2.put hj2 h3, ((t.trans t1).trans t2).trans (Tr.put s2 hj2 h3), lo.trans (t1.ex.trans t2.ex)⟩
/-! ### slices with a step, of data -/
def stpI (xs : List β) (lo hi : Option Int) (k : Int) : Option (List β) := if k = 0 then none else some ((sliceRange (sliceBounds lo hi (some k) xs.length).1 (sliceBounds lo hi (some k) xs.length).2.1 (sliceBounds lo hi (some k) xs.length).2.2).filterMap (xs[·]?))
theorem dqa_pick {B : Hp} {vs : List V} {dl : List PyData} (h : DqAll B vs dl) : ∀ ix : List Nat, DqAll B (ix.filterMap (vs[·]?)) (ix.filterMap (dl[·]?))
  | [] => .nil
  | i :: ix => by
    have ih := dqa_pick h ix
    have hl := dpa_len h
    rw [List.filterMap_cons, List.filterMap_cons]
    by_cases hi : i < dl.length
    · obtain ⟨w, e, d⟩ := dqa_get h (List.getElem?_eq_getElem hi)
      rw [List.getElem?_eq_getElem hi, e]
      exact .cons d ih
    · rw [List.getElem?_eq_none (by omega), List.getElem?_eq_none (by omega)]
      exact ih
theorem map_pick (xs : List β) : ∀ ix : List Nat, (ix.filterMap (xs[·]?)).map f = ix.filterMap ((xs.map f)[·]?)
  | [] => rfl
  | i :: ix => by
    have ih := map_pick xs ix
    rw [List.filterMap_cons, List.filterMap_cons, List.getElem?_map]
    cases xs[i]? with
    | none => exact ih
    | some x => rw [List.map_cons, ih]; rfl
theorem ev_stp {xs ys : List β} {tl th ts : TO} {lo hi : Option Int} {k : Int} {m3 m4 : M} (ha : Ev K ta ds m (.da (dL f xs)) m1) (hl : EvO K tl ds m1 lo m2) (hh : EvO K th ds m2 hi m3) (hs : EvO K ts ds m3 (some k) m4) (h : stpI xs lo hi k = some ys) : Ev K (tSlX K ta tl th ts) ds m (.da (dL f ys)) m4 := fun B H σ s st Q q =>
  ha B H σ s st _ fun x B1 H1 t1 s1 d1 => hl B1 H1 σ s1 (st_mono t1.ex st) _ fun B2 H2 t2 s2 => hh B2 H2 σ s2 (st_mono (t1.ex.trans t2.ex) st) _ fun B3 H3 t3 s3 => hs B3 H3 σ s3 (st_mono ((t1.ex.trans t2.ex).trans t3.ex) st) _ fun B4 H4 t4 s4 => by
    obtain ⟨p0, vs, rfl, hp, hd⟩ := lst_of (sd_mono ((t2.ex.trans t3.ex).trans t4.ex) d1)
    unfold stpI at h
    split at h
    · cases h
    · rename_i hk
      have e := Option.some.inj h
      subst e
      have hlen := dpa_len hd
      rw [List.length_map] at hlen
      refine ⟨p0, vs, rfl, SqL.of (s4.ext _ _ hp), fun z => hk (Option.some.inj z), fun w hw => q _ _ _ ((((t1.trans t2).trans t3).trans t4).trans (Tr.data s4 hw)) (s4.data hw) (Dq.lst upd_same ?_)⟩
      rw [map_pick, hlen]
      exact dqa_pick (dpa_mono (Ex.new (fresh_b s4 hw)) hd) _
end
end FC
set_option maxHeartbeats 400000
/-! FI: a tuple zipped with a list; lists of triples walked; `in range`; options in tuples; new lists from sums. -/
namespace FC
open PySem PySem.Spec PyProof.Rows L2 Evl
/-! ### zip(tuple, list) -/
/-- a tuple at a, a list at b, both as they stand at each turn -/
def ItzX (K : PySem.W.Frag) (a b : Addr) : It where
  go := fun i H => ∃ (xs ys : List V) (x y : V), SqT K H a xs ∧ SqL K H b ys ∧ xs[i]? = some x ∧ ys[i]? = some y
  yld := fun i H v H' => ∃ T x y, v = .ref T ∧ H T = none ∧ H' = upd H T (.tup [x, y]) ∧ (∀ xs, SqT K H a xs → xs[i]? = some x) ∧ ∀ ys, SqL K H b ys → ys[i]? = some y
  stop := fun i H => ∃ xs ys : List V, SqT K H a xs ∧ SqL K H b ys ∧ i = min xs.length ys.length
theorem five {c z t u i j : Addr} (h : c ∈ [z, t, u, i, j]) : c = z ∨ c = t ∨ c = u ∨ c = i ∨ c = j := by simpa using h
theorem tup_apart {h : Heap} {a i : Addr} {k : Nat} {xs : Array Value} (p : h.IsTuple a xs) (j : h.IsTupleIter i a k) : a ≠ i := fun e => by
  obtain ⟨o, g, _, n, d⟩ := p
  obtain ⟨o', g', _, d'⟩ := j
  rw [e, g'] at g
  cases g
  rw [d] at d'
  cases d'
theorem lst_apart {h : Heap} {a i : Addr} {k : Nat} {xs : Array Value} (p : h.IsList a xs) (j : h.IsListIter i a k) : a ≠ i := fun e => by
  obtain ⟨o, g, _, n, d⟩ := p
  obtain ⟨o', g', _, d'⟩ := j
  rw [e, g'] at g
  cases g
  rw [d] at d'
  cases d'
theorem turn_zipX {P : Program} {w : World} {K : PySem.W.Frag} {es : List Expr} {kk : Nat} {tp : Pos} {a b z TI TO i1 i2 : Addr} (D : ZipSep2 z TI TO i1 i2 [i1, a] [i2, b]) :
    Turn P w K (.Tuple es kk tp) (ItzX K a b) [z, TI, TO, i1, i2] z fun i h => IsZip h z TI TO .none ∧ IsTupOf2 h TI (.ref i1) (.ref i2) ∧ (∃ x y, IsTupOf2 h TO x y) ∧ h.IsTupleIter i1 a i ∧ h.IsListIter i2 b i where
  mem := List.mem_cons_self
  obj := fun i h st c hcm => by
    obtain ⟨gz, gI, ⟨x, y, gO⟩, ⟨o1, e1, _, d1⟩, ⟨o2, e2, _, d2⟩⟩ := st
    rcases five hcm with e | e | e | e | e <;> subst e
    · exact ⟨_, gz, fun v q => by cases q⟩
    · exact ⟨_, gI, fun v q => by cases q⟩
    · exact ⟨_, gO, fun v q => by cases q⟩
    · exact ⟨o1, e1, fun v q => by rw [d1] at q; cases q⟩
    · exact ⟨o2, e2, fun v q => by rw [d2] at q; cases q⟩
  keep := fun i h h' st k => by
    obtain ⟨gz, gI, ⟨x, y, gO⟩, j1, j2⟩ := st
    have kk : ∀ c o, c ∈ [z, TI, TO, i1, i2] → h.get? c = some o → h'.get? c = some o := fun c o hcm e => k c hcm o e
    exact ⟨kk z _ (by simp) gz, kk TI _ (by simp) gI, ⟨x, y, kk TO _ (by simp) gO⟩, j1.at fun o q => kk i1 o (by simp) q, j2.at fun o q => kk i2 o (by simp) q⟩
  item := by
    intro X hP hw hK hc i pins s σ H E I hf st hg
    subst hP hw hK
    obtain ⟨gz, gI, ⟨x0, y0, gO⟩, j1, j2⟩ := st
    obtain ⟨xs, ys, x, y, sx, sy, hx, hy⟩ := hg
    obtain ⟨its, rv, p, _⟩ := I.tuple sx
    obtain ⟨its2, rv2, p2, _⟩ := I.list sy
    obtain ⟨u, hu, ru⟩ := rv.get hx
    obtain ⟨u2, hu2, ru2⟩ := rv2.get hy
    have hd := I.ok.hd hc
    have zlt : z < s.heap.objs.size := Heap.lt_size gz
    have n1 : i < its.toArray.size := by rw [List.size_toArray]; exact (List.getElem?_eq_some_iff.mp hu).1
    have n2 : i < its2.toArray.size := by rw [List.size_toArray]; exact (List.getElem?_eq_some_iff.mp hu2).1
    have na : a ≠ i1 := tup_apart p j1
    have nb : b ≠ i2 := lst_apart p2.isList j2
    refine wpAny_pyNext_zipD2_item D (Draws.tuple (show X.A.in1.handled = none from hd) i1 a na its.toArray) (Draws.list (show X.A.in1.handled = none from hd) i2 b nb its2.toArray) gz gI gO ⟨j1, p⟩ ⟨j2, p2.isList⟩ n1 n2 fun v1 v2 h' tk y1 y2 gz' gO' st1 st2 gT hsz hk => ?_
    have e1 : v1 = u := by
      rw [List.getElem?_toArray, hu] at y1
      exact (Option.some.inj y1).symm
    have e2 : v2 = u2 := by
      rw [List.getElem?_toArray, hu2] at y2
      exact (Option.some.inj y2).symm
    subst e1 e2
    refine ⟨_, rfl, wpAny_letOwnedTupleGo_zip (s := { s with heap := h', toks := tk }) gz' fun h2 gz2 sb => ?_⟩
    have T2 : h2.get? s.heap.objs.size = some { cls := .type "tuple", data := .seq #[v1, v2] } := (sb.2 _ (Nat.ne_of_gt zlt)).trans gT
    have ob : ObjOk X.prog X.w (upd H s.heap.objs.size (.tup [x, y])) h2 s.heap.objs.size (.tup [x, y]) := ⟨by show 2 ≤ sizeLine; decide, [v1, v2], .cons ru (.cons ru2 .nil), ⟨_, T2, rfl, _, rfl⟩⟩
    have I2 : Inv X pins σ (upd H s.heap.objs.size (.tup [x, y])) { s with heap := h2, toks := tk } := by
      refine I.turnedNew (ch := [z, TI, TO, i1, i2]) (fun c o hb q => ?_) hf (Nat.le_refl _) ob
      have hb' : c ≠ z ∧ c ≠ TI ∧ c ≠ TO ∧ c ≠ i1 ∧ c ≠ i2 := by simpa using hb
      exact (sb.2 c hb'.1).trans (hk c o hb'.1 hb'.2.2.1 hb'.2.2.2.1 hb'.2.2.2.2 q)
    refine ⟨.ref s.heap.objs.size, _, I2, rfl, ⟨_, x, y, rfl, I.hok.fresh (Nat.le_refl _), rfl, fun l hl => by rw [I.tuple_inj hl sx]; exact hx, fun l hl => by rw [I.list_inj hl sy]; exact hy⟩, ⟨gz2, ?_, ⟨v1, v2, ?_⟩, ?_, ?_⟩, fun c hcm => ?_⟩
    · exact (sb.2 _ D.TIz).trans (hk _ _ D.TIz D.TITO D.TIi1 D.TIi2 gI)
    · exact (sb.2 _ D.TOz).trans gO'
    · exact st1.1.at fun o q => (sb.2 _ D.zi1.symm).trans q
    · exact st2.1.at fun o q => (sb.2 _ D.zi2.symm).trans q
    · have lt : c < s.heap.objs.size := by
        obtain ⟨_, q1, _⟩ := j1
        obtain ⟨_, q2, _⟩ := j2
        rcases five hcm with e | e | e | e | e <;> subst e
        · exact zlt
        · exact Heap.lt_size gI
        · exact Heap.lt_size gO
        · exact Heap.lt_size q1
        · exact Heap.lt_size q2
      rw [upd_ne (Nat.ne_of_lt lt)]
      exact (hf c hcm).1
  done := by
    intro X hP hw hK hc i pins s σ H E I hf st hg
    subst hP hw hK
    obtain ⟨gz, gI, ⟨x0, y0, gO⟩, j1, j2⟩ := st
    obtain ⟨xs, ys, sx, sy, he⟩ := hg
    obtain ⟨its, rv, p, _⟩ := I.tuple sx
    obtain ⟨its2, rv2, p2, _⟩ := I.list sy
    have l1 := rv.length
    have l2 := rv2.length
    have hd := I.ok.hd hc
    have na : a ≠ i1 := tup_apart p j1
    have nb : b ≠ i2 := lst_apart p2.isList j2
    refine wpAny_pyNext_zipD2_end D (Draws.tuple (show X.A.in1.handled = none from hd) i1 a na its.toArray) (Draws.list (show X.A.in1.handled = none from hd) i2 b nb its2.toArray) gz gI gO ⟨j1, p⟩ ⟨j2, p2.isList⟩ (by rw [List.size_toArray]; omega) (by rw [List.size_toArray]; omega) (by rw [List.size_toArray, List.size_toArray]; omega) fun h' tk hk => ⟨rfl, ?_⟩
    refine I.turnedL (ch := [z, TI, TO, i1, i2]) (fun c o hb q => ?_) hf
    have hb' : c ≠ z ∧ c ≠ TI ∧ c ≠ TO ∧ c ≠ i1 ∧ c ≠ i2 := by simpa using hb
    exact hk c o hb'.1 hb'.2.2.1 hb'.2.2.2.1 hb'.2.2.2.2 q
  self := fun A i s Q E st h => wpAny_pyIter_zip st.1 h
def iZipX (K : PySem.W.Frag) (ta : TA) : TI := fun σ H R => ta σ H fun vs H1 => ∃ a b xs ys, vs = [.ref a, .ref b] ∧ SqT K H1 a xs ∧ SqL K H1 b ys ∧ R (ItzX K a b) H1
theorem sep_new {n a b : Nat} (ha : a < n) (hb : b < n) : ZipSep2 (n + 4) (n + 2) (n + 3) n (n + 1) [n, a] [n + 1, b] := by
  have ne : ∀ {x y : Nat}, x < y → (y : Addr) ≠ x := fun h e => Nat.ne_of_gt h e
  have nin : ∀ {c u v : Nat}, u < c → v < c → (c : Addr) ∉ [u, v] := fun h1 h2 h => by
    rcases List.mem_cons.mp h with e | h
    · exact Nat.ne_of_gt h1 e
    · exact Nat.ne_of_gt h2 (List.mem_singleton.mp h)
  refine ⟨(ne (by omega)).symm, (ne (by omega)).symm, (ne (by omega)).symm, ne (by omega), List.mem_cons_self, nin (by omega) (by omega), nin (by omega) (by omega), ne (by omega), List.mem_cons_self, nin (by omega) (by omega), nin (by omega) (by omega), fun h => ?_, nin (by omega) (by omega)⟩
  rcases List.mem_cons.mp h with e | h
  · exact (ne (Nat.lt_succ_self n)).symm e
  · exact ne hb (List.mem_singleton.mp h)
theorem pi_zipX {X : Cx} {e e2 : Expr} {ta : TA} {p pos tp : Pos} {es : List Expr} {kk : Nat} (hg : Gl X "zip") (hm : X.mg "zip" = none) (ha : PA X [e, e2] ta)
    (hs : starEach [e, e2] X.env = (false, eval e X.env) :: starEach [e2] X.env := by rfl) (hl : (backTo pos (starEach [e2] X.env)).any (·.1) = false := by rfl) : PI X (.Tuple es kk tp) (.Call (.Name "zip" p) [e, e2] [] pos) (iZipX X.K ta) := by
  refine ⟨fun pins s σ H R I h => Call_ (ld_blt I hg hm PyProof.Rows.boot_zip (PyProof.Rows.callWith_type1 (thn (ha.run pos pins s σ H _ I h) fun us s1 h1 => ?_) hs hl))⟩
  obtain ⟨vs, H1, I1, r1, a, b, xs, ys, ex, sx, sy, q⟩ := h1
  subst ex
  obtain ⟨v1, v2, rfl, r2, r3⟩ := vals2 r1
  cases r2
  cases r3
  obtain ⟨its, rv, p1, _⟩ := I1.tuple sx
  obtain ⟨its2, rv2, p2, _⟩ := I1.list sy
  obtain ⟨o1, ho1, _⟩ := id p1
  refine zip_begins2 (begins_tuple a its.toArray) (begins_list b its2.toArray) p1 p2.isList fun h' gz gI gO g1 g2 hsz hk => wpAny_pyIter_zip gz ?_
  have I2 : Inv X pins σ H1 { s1 with heap := h' } := I1.kept (t' := s1.toks) hk
  refine ⟨_, [s1.heap.objs.size + 4, s1.heap.objs.size + 2, s1.heap.objs.size + 3, s1.heap.objs.size, s1.heap.objs.size + 1], _, _, H1, rfl, I2, turn_zipX (sep_new (Heap.lt_size ho1) p2.lt), ⟨gz, gI, ⟨_, _, gO⟩, ⟨_, g1, rfl, rfl⟩, ⟨_, g2, rfl, rfl⟩⟩, fun c hcm => ?_, q⟩
  have le : s1.heap.objs.size ≤ c := by
    rcases five hcm with e | e | e | e | e <;> rw [e] <;> first | exact Nat.le_refl _ | exact Nat.le_add_right _ _
  exact I1.fpOk le (I1.hok.fresh le)
theorem zipd {α β : Type} {xs : List α} {ys : List β} {i : Nat} (h : i < (xs.zip ys).length) : i < xs.length ∧ i < ys.length := by
  rw [List.length_zip] at h
  omega
section
variable {K : PySem.W.Frag} {B H : Hp} {ds : List SD} {m m1 m2 m3 : M} {α β γ : Type} {f : α → PyData} {f2 : β → PyData} {f3 : γ → PyData} {te ta tb tl : TE} {t : TA} {F : Fx} {D : Ends} {tz : TS}
theorem src_ZX {xs : List α} {ys : List β} {j k : Nat} (h : EvA K t ds m [.da (dU f xs), .da (dL f2 ys)] m1) : Src K (iZipX K t) (gTup K 2 (gCons (gName j) (gCons (gName k) gNil))) ds m m1 (fun _ => True) (xs.zip ys) (fun p ds => (ds.set j (.da (f p.1))).set k (.da (f2 p.2))) ([j] ++ [k]) := fun B H σ s st R q => h B H σ s st _ fun vs B1 H1 t1 s1 d1 => by
  obtain ⟨v, w, rfl, d, d'⟩ := sda2 d1
  obtain ⟨p, vs, rfl, hp, ha⟩ := tup_of d
  obtain ⟨p2, ws, rfl, hp2, hb⟩ := lst_of d'
  have la := dpa_len ha
  have lb := dpa_len hb
  rw [List.length_map] at la lb
  have T1 : ∀ {H B' m'}, Ex B1 B' → SOk K B' m' H → SqT K H p vs := fun e s => SqT.of (s.ext _ _ (e _ _ hp))
  have T2 : ∀ {H B' m'}, Ex B1 B' → SOk K B' m' H → SqL K H p2 ws := fun e s => SqL.of (s.ext _ _ (e _ _ hp2))
  refine ⟨p, p2, vs, ws, rfl, T1 (Ex.refl _) s1, T2 (Ex.refl _) s1, q _ B1 H1 t1 s1 ⟨fun i H B' m' hi e g s => ?_, fun H B' m' e g s => ⟨vs, ws, T1 e s, T2 e s, by rw [List.length_zip, la, lb]⟩, fun i x v H H' B' m' ds σ hx e g s st hy Q q => ?_⟩⟩
  · obtain ⟨i1, i2⟩ := zipd hi
    rw [← la] at i1
    rw [← lb] at i2
    exact ⟨vs, ws, vs[i], ws[i], T1 e s, T2 e s, List.getElem?_eq_getElem i1, List.getElem?_eq_getElem i2⟩
  · obtain ⟨T, u, u2, rfl, hT, rfl, y1, y2⟩ := hy
    obtain ⟨g1, g2⟩ := zip_some hx
    obtain ⟨w1, c1, c2⟩ := dqa_some ha g1
    obtain ⟨w2, c3, c4⟩ := dqa_some hb g2
    have z1 := (y1 vs (T1 e s)).symm.trans c1
    have z2 := (y2 ws (T2 e s)).symm.trans c3
    cases z1
    cases z2
    exact tg_pair s st (dp_mono e c2) (dp_mono e c4) hT Q q
theorem triple_of {p : α × β × γ} {v : V} (h : SdOk K B (.da (d3 f f2 f3 p)) v) : ∃ q x y z, v = .ref q ∧ B q = some (.tup [x, y, z]) ∧ Dq B x (f p.1) ∧ Dq B y (f2 p.2.1) ∧ Dq B z (f3 p.2.2) := by
  have h' : Dq B v (.tuple [f p.1, f2 p.2.1, f3 p.2.2]) := h
  cases h' with
  | tup h1 h2 =>
    cases h2 with
    | cons a1 h2 =>
      cases h2 with
      | cons a2 h2 =>
        cases h2 with
        | cons a3 h2 =>
          cases h2
          exact ⟨_, _, _, _, rfl, h1, a1, a2, a3⟩
/-- a list of triples walked, taken apart -/
theorem src_L3 {xs : List (α × β × γ)} {i j k : Nat} (h : Ev K tl ds m (.da (dL (d3 f f2 f3) xs)) m1) : Src K (iList K tl) (gTup K 3 (gCons (gName i) (gCons (gName j) (gCons (gName k) gNil)))) ds m m1 (fun _ => True) xs (fun p ds => ((ds.set i (.da (f p.1))).set j (.da (f2 p.2.1))).set k (.da (f3 p.2.2))) ([i] ++ ([j] ++ [k])) := fun B H σ s st R q => h B H σ s st _ fun v B1 H1 t1 s1 d1 => by
  obtain ⟨p, vs, rfl, hp, ha⟩ := lst_of d1
  have la := dpa_len ha
  rw [List.length_map] at la
  have T1 : ∀ {H B' m'}, Ex B1 B' → SOk K B' m' H → SqL K H p vs := fun e s => SqL.of (s.ext _ _ (e _ _ hp))
  refine ⟨p, rfl, ⟨vs, T1 (Ex.refl _) s1⟩, q _ B1 H1 t1 s1 ⟨fun n H B' m' hi e g s => ?_, fun H B' m' e g s => ⟨vs, T1 e s, Nat.le_of_eq la⟩, fun n x v H H' B' m' ds σ hx e g s st hy Q q => ?_⟩⟩
  · have hn : n < vs.length := by omega
    exact ⟨vs, vs[n], T1 e s, List.getElem?_eq_getElem hn⟩
  · obtain ⟨rfl, y2⟩ := hy
    obtain ⟨w, c1, c2⟩ := dqa_some ha hx
    have z1 := (y2 vs (T1 e s)).symm.trans c1
    cases z1
    obtain ⟨T, x1, x2, x3, rfl, b0, b1, b2, b3⟩ := triple_of (K := K) (show SdOk K B1 (.da (d3 f f2 f3 x)) _ from c2)
    refine ⟨T, [x1, x2, x3], rfl, SqT.of (s.ext _ _ (e _ _ b0)), rfl, x1, [x2, x3], rfl, x2, [x3], rfl, x3, [], rfl, rfl, ?_⟩
    exact q B' _ (Tr.refl _ _ _) s (st_set k (st_set j (st_set i st (sl_of (s := .da (f x.1)) (dp_mono e b1))) (sl_of (s := .da (f2 x.2.1)) (dp_mono e b2))) (sl_of (s := .da (f3 x.2.2)) (dp_mono e b3))) (sets1.trans (sets1.trans sets1))
/-! ### i in range(n) -/
theorem cr_range1 {X : Cx} : CallR X (.type "range") (fun vs H Q => ∃ j, vs = [V.int j] ∧ ∀ p, H p = none → Q (.ref p) (upd H p (.rng 0 j))) := by
  intro pins s σ H vs us Q I r h
  obtain ⟨j, rfl, q⟩ := h
  obtain ⟨u1, rfl, rj⟩ := vals1 r
  obtain ⟨t, rfl⟩ := rj
  refine call_range_1 ⟨.ref s.heap.objs.size, upd H s.heap.objs.size (.rng 0 j), I.laid (t' := s.toks + 1 + 1) (fun b o e => Heap.get?_push_of_some _ e) (Nat.le_refl _) ?_, rfl, q _ (I.hok.fresh (Nat.le_refl _))⟩
  exact ⟨_, _, _, Heap.get?_push_size _ rfl⟩
def rInRg : R2 := fun x y H Q => ∃ i a lo hi, x = V.int i ∧ y = V.ref a ∧ H a = some (.rng lo hi) ∧ Q (.bl (decide (lo ≤ i ∧ i < hi))) H
theorem ev_inRg {i n : Int} (ha : Ev K ta ds m (.da (dI i)) m1) (hb : Ev K tb ds m1 (.da (dI n)) m2) : Ev K (tOp rInRg ta (tCB (fun vs H Q => ∃ j, vs = [V.int j] ∧ ∀ p, H p = none → Q (.ref p) (upd H p (.rng 0 j))) (tCons tb tNil))) ds m (.da (dB (decide (0 ≤ i ∧ i < n)))) m2 := fun B H σ s st Q q =>
  ha B H σ s st _ fun x B1 H1 t1 s1 d1 => hb B1 H1 σ s1 (st_mono t1.ex st) _ fun y B2 H2 t2 s2 d2 => by
    refine ⟨n, by rw [int_of d2], fun p hp => ⟨i, p, 0, n, int_of (sd_mono t2.ex d1), rfl, upd_same, ?_⟩⟩
    exact q _ _ _ ((t1.trans t2).trans (Tr.data s2 hp)) (s2.data hp) (.bl _)
/-! ### tuples -/
theorem dU_some (v : List α) : dU (dO f) (v.map some) = dU f v := by
  unfold dU
  rw [List.map_map]
  rfl
theorem ev_someU {v : List α} (h : Ev K te ds m (.da (dU f v)) m1) : Ev K te ds m (.da (dU (dO f) (v.map some))) m1 := by
  rw [dU_some]
  exact h
def rInT (K : PySem.W.Frag) (neg : Bool) : R2 := fun x y H Q => ∃ d ds, Dp K H x d ∧ Dp K H y (.tuple ds) ∧ d.plain = true ∧ PyData.plainAll ds = true ∧ d.depth ≤ 60 ∧ Q (.bl (if neg then !(ds.any fun y => PyData.eqv y d) else ds.any fun y => PyData.eqv y d)) H
theorem op_inT {X : Cx} (hu : X.A.units + 65 < cLine) : OpR X (compareOp .In) (rInT X.K false) := by
  intro pins s σ H x y v u Q I rx ry h
  obtain ⟨d, ds, hd, he, sd, se, hdp, q⟩ := h
  obtain ⟨as, r1⟩ := Dp.reads I d x v hd rx
  obtain ⟨bs, r2⟩ := Dp.reads I (.tuple ds) y u he ry
  refine PySem.SeqAt.in_tuple_data r2 r1 se sd ?_ ⟨.bl _, H, I, rfl, q⟩
  have := Nat.min_le_right (PyData.depthAll ds) d.depth
  omega
theorem rr_inU [DecidableEq α] [e : Enc f] {x : α} {xs : List α} (hd : Enc.dep f ≤ 60) : Rr K (rInT K false) (.da (f x)) (.da (dU f xs)) m (.da (dB (memB x xs))) m := Rr.of fun B H u v s dx dy Q q =>
  ⟨f x, xs.map f, da_dp s dx, da_dp s dy, Enc.plain x, plainAll_enc f xs, Nat.le_trans (Enc.dep_le x) hd, by
    show Q (.bl ((xs.map f).any fun d => PyData.eqv d (f x))) H
    rw [any_enc]
    exact q _ (.bl _)⟩
/-- a chain whose last one may be without an answer -/
theorem ev_chainX {tc : TE} {m' : M} {a b : SD} {r1 r2 : R2} {k k2 : Bool} (ha : Ev K ta ds m a m1) (hb : Ev K tb ds m1 b m2) (hr : Rr K r1 a b m2 (.da (.bool k)) m3)
    (hc : k = true → ∃ c m4, Ev K tc ds m3 c m4 ∧ Rr K r2 b c m4 (.da (.bool k2)) m') (hf : k = false → k2 = false ∧ m' = m3) : Ev K (tChain r1 r2 ta tb tc) ds m (.da (.bool k2)) m' := by
  cases k with
  | true =>
    obtain ⟨c, m4, h1, h2⟩ := hc rfl
    exact ev_chain (c := c) ha hb hr (fun _ => ⟨m4, h1, h2⟩) fun e => by cases e
  | false =>
    obtain ⟨e1, e2⟩ := hf rfl
    subst e1 e2
    exact ev_chain (c := .un) ha hb hr (fun e => by cases e) fun _ => ⟨rfl, rfl⟩
/-- a sum of lists as a new list -/
theorem en_cat {xs ys : List α} (ha : Ev K ta ds m (.da (dL f xs)) m1) (hb : Ev K tb ds m1 (.da (dL f ys)) m2) (hz : lenG (xs.length + ys.length) = some ()) : EvN K (tOp rCat ta tb) ds m (.ls ((xs ++ ys).map f)) m2 := fun B H σ s st Q q =>
  ha B H σ s st _ fun x B1 H1 t1 s1 d1 => hb B1 H1 σ s1 (st_mono t1.ex st) _ fun y B2 H2 t2 s2 d2 => by
    obtain ⟨p, vs, rfl, hp, ca⟩ := lst_of (sd_mono t2.ex d1)
    obtain ⟨p2, ws, rfl, hp2, cb⟩ := lst_of d2
    have l1 := dpa_len ca
    have l2 := dpa_len cb
    have l3 := lenG_some hz
    rw [List.length_map] at l1 l2
    refine ⟨p, p2, vs, ws, rfl, rfl, s2.ext _ _ hp, s2.ext _ _ hp2, by rw [sizeLine_eq]; omega, fun l hl => q l _ _ ((t1.trans t2).trans (Tr.cell s2 hl)) (s2.cell hl ?_)⟩
    show DqAll B2 _ _
    rw [List.map_append]
    exact dqa_app ca cb
end
end FC
set_option maxHeartbeats 400000
/-! FZ: data beside new cells; list(range) as a new list; dict of a list of pairs with whole keys; how many are unlike; `is` of truths. -/
namespace FC
open PySem PySem.Spec PyProof.Rows L2 Evl
section
variable {K : PySem.W.Frag} {B H : Hp} {ds : List SD} {m m1 m2 : M} {α : Type} {f : α → PyData} {te ta : TE} {t : TA}
theorem eg_da {d : PyData} (h : Ev K te ds m (.da d) m1) : EvG K te ds m (fun _ : Unit => .da d) (fun _ mN => mN = []) m1 := fun B H σ s st Q q => h B H σ s st Q fun v B2 H2 t2 s2 d2 => q v () [] B2 H2 rfl (by rw [List.append_nil]; exact t2) (by rw [List.append_nil]; exact s2) d2
theorem en_listRg1 {n : Int} {l : List Int} (h : Ev K ta ds m (.da (dI n)) m1) (hr : rngG 0 n = some l) (hn : lenG l.length = some ()) : EvN K (tLstRg (tRg1 ta)) ds m (.ls (l.map dI)) m1 := fun B H σ s st Q q => h B H σ s st _ fun v B1 H1 t1 s1 d1 => by
  obtain ⟨ok, e⟩ := rgOk_of hr hn
  subst e
  exact ⟨n, int_of d1, ok, fun p hp => q p _ _ (t1.trans (Tr.cell s1 hp)) (s1.cell hp (dqa_rng 0 n))⟩
/-! ### dict(pairs) -/
theorem merge_new : ∀ {ws kvs : List (Key × V)}, (∀ w ∈ ws, ∀ k ∈ kvs, w.1 ≠ k.1) → (ws.map Prod.fst).Nodup → mergeK kvs ws = kvs ++ ws
  | [], kvs, _, _ => (List.append_nil _).symm
  | w :: ws, kvs, h, hn => by
    have hn' := List.nodup_cons.mp hn
    have e : putK kvs w.1 w.2 = kvs ++ [w] := by
      unfold putK
      rw [if_neg]
      rw [List.any_eq_true]
      rintro ⟨k, hk, e⟩
      exact h w List.mem_cons_self k hk (of_decide_eq_true e).symm
    show mergeK (putK kvs w.1 w.2) ws = _
    rw [e, merge_new (fun x hx k hk => ?_) hn'.2, List.append_assoc]
    · rfl
    · rcases List.mem_append.mp hk with z | z
      · exact h x (List.mem_cons_of_mem _ hx) k z
      · rw [List.mem_singleton.mp z]
        intro z2
        exact hn'.1 (z2 ▸ List.mem_map_of_mem hx)
theorem pairs_dq : ∀ {kvs : List (Int × α)} {vs : List V}, (∀ {p o}, B p = some o → H p = some o) → DqAll B vs (kvs.map (dP dI f)) → ∃ (ps : List Addr) (ws : List (Key × V)), vs = ps.map V.ref ∧ Paired (fun p kv => SqT K H p [kV kv.1, kv.2]) ps ws ∧ KvOk B (eK kI f kvs) ws ∧ ws.map Prod.fst = kvs.map fun p => kI p.1
  | [], [], _, _ => ⟨[], [], rfl, .nil, True.intro, rfl⟩
  | kv :: kvs, v :: vs, hB, .cons h t => by
    obtain ⟨ps, ws, e1, e2, e3, e4⟩ := pairs_dq hB t
    obtain ⟨p, x, y, rfl, h4, h5, h6⟩ := pair_of (K := K) (show SdOk K B (.da (dP dI f kv)) v from h)
    have e5 : x = .int kv.1 := int_of (K := K) (show SdOk K B (.da (dI kv.1)) x from h5)
    subst e5
    exact ⟨p :: ps, (kI kv.1, y) :: ws, by rw [e1]; rfl, .cons (SqT.of (hB h4)) e2, ⟨⟨rfl, h6⟩, e3⟩, by rw [List.map_cons, e4]; rfl⟩
def rDictP (K : PySem.W.Frag) : List V → Hp → VK → Prop := fun xs H Q => ∃ (a : Addr) (ps : List Addr) (kvs : List (Key × V)), xs = [.ref a] ∧ SqL K H a (ps.map V.ref) ∧ Paired (fun p kv => SqT K H p [kV kv.1, kv.2]) ps kvs ∧ ∀ p, H p = none → Q (.ref p) (upd H p (.dK (mergeK [] kvs)))
theorem cr_dictP {X : Cx} (hc : X.calm = true) : CallR X (.type "dict") (rDictP X.K) := call_dictP hc
def dictP (kvs : List (Int × α)) : Option (List (Int × α)) := if (kvs.map Prod.fst).Nodup then some kvs else none
theorem rcn_dictP {kvs d : List (Int × α)} (h : dictP kvs = some d) : RcN K (rDictP K) [.da (dL (dP dI f) kvs)] m (KK.cell (κ := Int) f d) m := fun B H xs s dx Q q => by
  obtain ⟨v, rfl, d1⟩ := sda1 dx
  obtain ⟨p, vs, rfl, hp, ha⟩ := lst_of d1
  unfold dictP at h
  split at h
  · rename_i hn
    have e := Option.some.inj h
    subst e
    obtain ⟨ps, ws, rfl, h2, h3, h4⟩ := pairs_dq (K := K) (H := H) (fun z => s.ext _ _ z) ha
    refine ⟨p, ps, ws, rfl, SqL.of (s.ext _ _ hp), h2, fun a hn2 => q a _ _ (Tr.cell s hn2) (s.cell hn2 ?_)⟩
    have hnd : (ws.map Prod.fst).Nodup := by
      rw [h4]
      have e5 : (kvs.map fun p => kI p.1) = (kvs.map Prod.fst).map kI := by rw [List.map_map]; rfl
      rw [e5]
      exact hn.map (f := kI) fun a b hab z => hab (kI_inj z)
    rw [merge_new (fun _ _ k hk => by cases hk) hnd]
    exact h3
  · cases h
/-! ### len(set(..)) -/
theorem dq_ints : ∀ {xs : List Int} {vs : List V}, DqAll B vs (xs.map dI) → vs = xs.map V.int
  | [], _, .nil => rfl
  | x :: xs, v :: vs, .cons a b => by
    have a' : Dq B v (.int x) := a
    cases a'
    rw [dq_ints b]
    rfl
def setG (xs : List Int) : Option Int := if xs.Nodup ∧ xs.length ≤ 4000 then some (xs.length : Int) else none
theorem ev_lenSet {xs : List Int} {n : Int} (h : Ev K ta ds m (.da (dL dI xs)) m1) (hn : setG xs = some n) : Ev K (RZ.tLenSetI K ta) ds m (.da (dI n)) m1 := fun B H σ s st Q q => h B H σ s st _ fun v B1 H1 t1 s1 d1 => by
  obtain ⟨p, vs, rfl, hp, ha⟩ := lst_of d1
  unfold setG at hn
  split at hn
  · rename_i hc
    have e := Option.some.inj hn
    subst e
    have ev := dq_ints ha
    exact ⟨p, xs, rfl, by rw [← ev]; exact SqL.of (s1.ext _ _ hp), hc.1, hc.2, q _ B1 H1 t1 s1 (.int _)⟩
  · cases hn
theorem rr_isB {i j : Bool} : Rr K (fun x y H Q => ∃ a b, x = V.bl a ∧ y = V.bl b ∧ Q (.bl (decide (a = b))) H) (.da (dB i)) (.da (dB j)) m (.da (dB (decide (i = j)))) m := Rr.of fun B H x y s dx dy Q q => by
  cases dx
  cases dy
  exact ⟨i, j, rfl, rfl, q _ (.bl _)⟩
theorem rr_isNB {i j : Bool} : Rr K (fun x y H Q => ∃ a b, x = V.bl a ∧ y = V.bl b ∧ Q (.bl (!decide (a = b))) H) (.da (dB i)) (.da (dB j)) m (.da (dB (!decide (i = j)))) m := Rr.of fun B H x y s dx dy Q q => by
  cases dx
  cases dy
  exact ⟨i, j, rfl, rfl, q _ (.bl _)⟩
/-- a, b = data, a new cell -/
theorem wp_parDN {F : Fx} {D : Ends} {tz : TS} {tb : TE} {i j : Nat} {d : PyData} {c : CD} (h : Ev F.K te ds m (.da d) m1) (h2 : EvN F.K tb ds m1 c m2) (k : ∀ p, p ∉ F.k0 → Wp F tz D ((ds.set i (.da d)).set j (.rf p)) (m2 ++ [(p, c)])) (hm : keys m2 = keys m) : Wp F (tSeq (tPar i j (tCons te (tCons tb tNil))) tz) D ds m := fun σ H ⟨B, st, s, t, lo⟩ =>
  h B H σ s st _ fun v B1 H1 t1 s1 d1 => h2 B1 H1 σ s1 (st_mono t1.ex st) _ fun p B2 H2 t2 s2 => by
    have t3 := t1.trans t2
    have hp : H p = none := by
      have h1 : p ∈ keys (m2 ++ [(p, c)]) := by rw [keys_app]; exact List.mem_append_right _ (List.mem_singleton.mpr rfl)
      refine (t3.kys p h1).resolve_left fun z => ?_
      have nd := s2.nd
      rw [keys_app] at nd
      exact (List.nodup_append.mp nd).2.2 p (by rw [hm]; exact z) p (List.mem_singleton.mpr rfl) rfl
    refine ⟨v, .ref p, rfl, k p (fun z => ?_) _ H2 ⟨B2, st_set j (st_set i (st_mono t3.ex st) (sl_of (s := .da d) (sd_mono t2.ex d1))) (sl_of (s := .rf p) rfl), s2, t.trans t3, lo.trans t3.ex⟩⟩
    exact absurd hp (t.grow p (F.hk p z))
/-- xs[i], ys[j] = a, b -/
theorem set_ok {β : Type} {k : β → PyData} {xs ys : List β} {x : β} {i : Int} {v : V} {B H : Hp} {m : M} {l : Addr} {j : Nat} (s : SOk K B m H) (hj : m[j]? = some (l, .ls (xs.map k))) (hs : setI xs i x = some ys) (d : Dq B v (k x)) : ∃ vs jx, H l = some (.lst vs) ∧ ixN vs.length i = some jx ∧ CdOk K B (.ls (ys.map k)) (.lst (vs.set jx v)) := by
  obtain ⟨vs, h1, h2⟩ := s.ls hj
  have hl := dpa_len h2
  rw [List.length_map] at hl
  unfold setI at hs
  obtain ⟨jx, e1, e2⟩ := Option.map_eq_some_iff.mp hs
  refine ⟨vs, jx, h1, by rw [hl]; exact e1, ?_⟩
  subst e2
  rw [List.map_set]
  exact dqa_set jx h2 d
theorem wp_set2 {β γ : Type} {F : Fx} {D : Ends} {tz : TS} {tv to1 ti1 to2 ti2 : TE} {k : β → PyData} {k2 : γ → PyData} {x : β × γ} {xs xs' : List β} {ys ys' : List γ} {i1 i2 : Int} {l1 l2 : Addr} (j1 j2 : Nat) (hv : Ev F.K tv ds m (.da (dP k k2 x)) m1) (ho : Ev F.K to1 ds m1 (.rf l1) m1) (hi : Ev F.K ti1 ds m1 (.da (dI i1)) m1) (hj : m1[j1]? = some (l1, .ls (xs.map k))) (hs : setI xs i1 x.1 = some xs') (hm2 : m1.set j1 (l1, .ls (xs'.map k)) = m2)
    (ho2 : Ev F.K to2 ds m2 (.rf l2) m2) (hi2 : Ev F.K ti2 ds m2 (.da (dI i2)) m2) (hj2 : m2[j2]? = some (l2, .ls (ys.map k2))) (hs2 : setI ys i2 x.2 = some ys') (kk : Wp F tz D ds (m2.set j2 (l2, .ls (ys'.map k2)))) :
    Wp F (tSeq (tAsg tv (gTup F.K 2 (gCons (gSub to1 ti1 rSetL) (gCons (gSub to2 ti2 rSetL) gNil)))) tz) D ds m := fun σ H ⟨B, st, s, t, lo⟩ =>
  hv B H σ s st _ fun v B1 H1 t1 s1 d1 => by
    obtain ⟨T, x1, x2, rfl, h4, h5, h6⟩ := pair_of d1
    refine ⟨T, [x1, x2], rfl, SqT.of (s1.ext _ _ h4), rfl, x1, [x2], rfl, ?_⟩
    refine ho B1 H1 σ s1 (st_mono t1.ex st) _ fun o B2 H2 t2 s2 d2 => hi B2 H2 σ s2 (st_mono (t1.ex.trans t2.ex) st) _ fun y B3 H3 t3 s3 d3 => ?_
    obtain ⟨vs, jx, g1, g2, g3⟩ := set_ok s3 hj hs (dp_mono (t2.ex.trans t3.ex) h5)
    refine ⟨l1, vs, i1, jx, d2, int_of d3, g1, g2, x2, [], rfl, ?_⟩
    have s4 := s3.put hj g3
    have t4 := Tr.put s3 hj g3
    rw [hm2] at s4 t4
    have e4 := (t1.ex.trans t2.ex).trans t3.ex
    refine ho2 B3 _ σ s4 (st_mono e4 st) _ fun o2 B5 H5 t5 s5 d5 => hi2 B5 H5 σ s5 (st_mono (e4.trans t5.ex) st) _ fun y2 B6 H6 t6 s6 d6 => ?_
    obtain ⟨ws, jy, q1, q2, q3⟩ := set_ok s6 hj2 hs2 (dp_mono (((t2.ex.trans t3.ex).trans t5.ex).trans t6.ex) h6)
    refine ⟨l2, ws, i2, jy, d5, int_of d6, q1, q2, rfl, ?_⟩
    exact kk σ _ ⟨B6, st_mono ((e4.trans t5.ex).trans t6.ex) st, s6.put hj2 q3, ((((((t.trans t1).trans t2).trans t3).trans t4).trans t5).trans t6).trans (Tr.put s6 hj2 q3), lo.trans ((e4.trans t5.ex).trans t6.ex)⟩
/-- a, b, c = x, y, z -/
theorem wp_par3 {F : Fx} {D : Ends} {tz : TS} {t3 : TA} {i j l : Nat} {a b c : SD} (h : EvA F.K t3 ds m [a, b, c] m1) (k : Wp F tz D (((ds.set i a).set j b).set l c) m1) : Wp F (tSeq (tPar3 i j l t3) tz) D ds m := fun σ H ⟨B, st, s, t, lo⟩ =>
  h B H σ s st _ fun vs B2 H2 t2 s2 d => by
    match vs, d with
    | [u, v, w], ⟨d1, d2, d3, _⟩ => exact ⟨u, v, w, rfl, k _ H2 ⟨B2, st_set l (st_set j (st_set i (st_mono t2.ex st) (sl_of d1)) (sl_of d2)) (sl_of d3), s2, t.trans t2, lo.trans t2.ex⟩⟩
end
end FC
set_option maxHeartbeats 400000
/-! FOB: things that are changed no more: instances, lists of instances, a tuple of the module. -/
namespace FC
open PySem PySem.Spec PyProof.Rows L2 Evl
def mD (d : PyData) : MP := ⟨fun B v => Dq B v d, fun e h => dp_mono e h⟩
def AllM (B : Hp) : List MP → List V → Prop
  | [], [] => True
  | e :: es, v :: vs => e.ok B v ∧ AllM B es vs
  | _, _ => False
theorem allm_mono {B B' : Hp} (e : Ex B B') : ∀ {es : List MP} {vs : List V}, AllM B es vs → AllM B' es vs
  | [], [], h => h
  | a :: _, _ :: _, h => ⟨a.mono e h.1, allm_mono e h.2⟩
  | [], _ :: _, h => h
  | _ :: _, [], h => h
def mL (es : List MP) : MP := ⟨fun B v => ∃ p vs, v = .ref p ∧ B p = some (.lst vs) ∧ AllM B es vs, fun e h => let ⟨p, vs, h1, h2, h3⟩ := h; ⟨p, vs, h1, e _ _ h2, allm_mono e h3⟩⟩
/-- an instance, its fields data -/
def mO (C : Addr) (names : List Str) (dl : List PyData) : MP := ⟨fun B v => ∃ p dx vs, v = .ref p ∧ B p = some (.ins C dx (names.zip vs)) ∧ DqAll B vs dl, fun e h => let ⟨p, dx, vs, h1, h2, h3⟩ := h; ⟨p, dx, vs, h1, e _ _ h2, dpa_mono e h3⟩⟩
section
variable {K : PySem.W.Frag} {B H : Hp} {ds : List SD} {m m1 m2 m' : M} {α β : Type} {f : α → PyData} {te ta tb tl ti : TE} {t : TA} {rs : List SD} {c : SD} {G : Pf} {E : XK} {C dx : Addr} {names : List Str} {dl : List PyData} {g : β → SD}
theorem allm_len : ∀ {es : List MP} {vs : List V}, AllM B es vs → vs.length = es.length
  | [], [], _ => rfl
  | _ :: _, _ :: _, h => congrArg (· + 1) (allm_len h.2)
  | [], _ :: _, h => h.elim
  | _ :: _, [], h => h.elim
theorem allm_sda : ∀ {es : List MP} {vs : List V}, AllM B es vs → SdAll K B (es.map SD.pr) vs
  | [], [], _ => True.intro
  | _ :: _, _ :: _, h => ⟨h.1, allm_sda h.2⟩
  | [], _ :: _, h => h.elim
  | _ :: _, [], h => h.elim
theorem sda_allm : ∀ {es : List MP} {vs : List V}, SdAll K B (es.map SD.pr) vs → AllM B es vs
  | [], [], _ => True.intro
  | _ :: _, _ :: _, h => ⟨h.1, sda_allm h.2⟩
  | [], _ :: _, h => h.elim
  | _ :: _, [], h => h.elim
theorem allm_app : ∀ {es fs : List MP} {vs ws : List V}, AllM B es vs → AllM B fs ws → AllM B (es ++ fs) (vs ++ ws)
  | [], _, [], _, _, q => q
  | _ :: _, _, _ :: _, _, h, q => ⟨h.1, allm_app h.2 q⟩
  | [], _, _ :: _, _, h, _ => h.elim
  | _ :: _, _, [], _, h, _ => h.elim
theorem allm_rep {es : List MP} {vs : List V} (h : AllM B es vs) : ∀ n : Nat, AllM B (List.replicate n es).flatten (List.replicate n vs).flatten
  | 0 => True.intro
  | n + 1 => by
    rw [List.replicate_succ, List.replicate_succ, List.flatten_cons, List.flatten_cons]
    exact allm_app h (allm_rep h n)
theorem allm_get : ∀ {es : List MP} {vs : List V} {i : Nat} {e : MP}, AllM B es vs → es[i]? = some e → ∃ v, vs[i]? = some v ∧ e.ok B v
  | _ :: _, _ :: _, 0, _, h, e => by
    cases Option.some.inj e
    exact ⟨_, rfl, h.1⟩
  | _ :: es, _ :: vs, i + 1, s, h, e => allm_get (es := es) (vs := vs) (i := i) h.2 e
  | [], [], _, _, _, e => by simp at e
  | [], _ :: _, _, _, h, _ => h.elim
  | _ :: _, [], _, _, h, _ => h.elim
theorem allm_mD : ∀ {dl : List PyData} {vs : List V}, DqAll B vs dl → AllM B (dl.map mD) vs
  | _, _, .nil => True.intro
  | _, _, .cons h t => ⟨h, allm_mD t⟩
theorem mD_allm : ∀ {dl : List PyData} {vs : List V}, AllM B (dl.map mD) vs → DqAll B vs dl
  | [], [], _ => .nil
  | _ :: _, _ :: _, h => .cons h.1 (mD_allm h.2)
  | [], _ :: _, h => h.elim
  | _ :: _, [], h => h.elim
theorem ev_varM {i : Nat} {P : MP} (h : ds[i]? = some (.pr P)) : Ev K (tVar i) ds m (.pr P) m := fun B H σ s st Q q => by
  obtain ⟨o, e, w⟩ := st_get st h
  obtain ⟨v, rfl, w⟩ := sl_some (s := .pr P) (fun z => nomatch z) w
  exact ⟨v, e, q v B H (Tr.refl _ _ _) s w⟩
/-- data as such a thing, and back -/
theorem ev_mD {d : PyData} (h : Ev K te ds m (.da d) m') : Ev K te ds m (.pr (mD d)) m' := h
theorem ev_Dm {d : PyData} (h : Ev K te ds m (.pr (mD d)) m') : Ev K te ds m (.da d) m' := h
theorem ev_daM {xs : List α} (h : Ev K te ds m (.da (dL f xs)) m') : Ev K te ds m (.pr (mL ((xs.map f).map mD))) m' := fun B H σ s st Q q => h B H σ s st Q fun v B2 H2 t s2 d => by
  obtain ⟨p, vs, rfl, hp, ha⟩ := lst_of d
  exact q _ B2 H2 t s2 ⟨p, vs, rfl, hp, allm_mD ha⟩
/-! ### instances -/
theorem ev_fldF (i : Nat) {d : PyData} {fn : Str} (ho : Ev K ta ds m (.pr (mO C names dl)) m1) (hi : dl[i]? = some d) (hp : PutAt fn names i) (c : Cls K C) (n : NoAttr K C fn) : Ev K (tFld K ta fn) ds m (.da d) m1 := fun B H σ s st Q q =>
  ho B H σ s st _ fun x B1 H1 t1 s1 d1 => by
    obtain ⟨p, dx, vs, rfl, h1, h2⟩ := d1
    obtain ⟨v, h3, h4⟩ := dqa_get h2 hi
    obtain ⟨g1, g2⟩ := zip_at hp h3
    exact ⟨p, C, dx, _, v, rfl, s1.ext _ _ h1, c, n, lookup_at g1 g2, q v B1 H1 t1 s1 h4⟩
theorem ev_methF {mt : Str} {fr mc mc' : M} (ho : Ev K ta ds m (.pr (mO C names dl)) m1) (hm : mt ∉ names) (h : EvA K t ds m1 rs m2) (hp : (mc ++ fr).Perm m2) (hp' : (mc' ++ fr).Perm m') (hF : ∃ R, G (.pr (mO C names dl) :: rs) mc R ∧ ∀ r m2, R r m2 → r = c ∧ m2 = mc') :
    Ev K (tMeth C mt (spOf K G) [] E ta t) ds m c m' := fun B H σ s st Q q =>
  ho B H σ s st _ fun x B1 H1 t1 s1 d1 => by
    obtain ⟨p, dx, vs, rfl, h1, h2⟩ := d1
    refine ⟨p, dx, _, rfl, s1.ext _ _ h1, lookup_no (zip_keys hm), h B1 H1 σ s1 (st_mono t1.ex st) _ fun us B2 H2 t2 s2 d2 => ?_⟩
    rw [List.append_nil]
    exact any_call (vs := .ref p :: us) s2 hp hp' hF (rs := .pr (mO C names dl) :: rs) ⟨(mO C names dl).mono t2.ex ⟨p, dx, vs, rfl, h1, h2⟩, d2⟩ Q fun v B3 H3 t3 s3 d3 => q v B3 H3 ((t1.trans t2).trans t3) s3 d3
/-- C(..), changed no more -/
theorem ev_makeF (h : EvA K t ds m rs m1) (hk : keys m1 = keys m) (hl : dl.length ≤ names.length) (hF : ∀ p dx, ∃ R, G (.rf p :: rs) [(p, obj C dx names [])] R ∧ ∀ r m2, R r m2 → r = .da .none ∧ m2 = [(p, obj C dx names (dl.map SD.da))]) :
    Ev K (tMake C (spOf K G) [] E t) ds m (.pr (mO C names dl)) m1 := fun B H σ s st Q q =>
  eg_make (Good := fun p dx mN => mN = [(p, obj C dx names (dl.map SD.da))]) h hF B H σ s st Q fun v p mN B2 H2 hg t2 s2 d2 => by
    obtain ⟨dx, rfl⟩ := hg
    have ev : v = .ref p := d2
    subst ev
    have hj : (m1 ++ [(p, obj C dx names (dl.map SD.da))])[m1.length]? = some (p, obj C dx names (dl.map SD.da)) := by
      rw [List.getElem?_append_right (Nat.le_refl _), Nat.sub_self]
      rfl
    obtain ⟨vs, h1, h2, h3⟩ := s2.ob hj (by rw [List.length_map]; exact hl)
    have he : (m1 ++ [(p, obj C dx names (dl.map SD.da))]).eraseIdx m1.length = m1 := by
      rw [List.eraseIdx_append_of_length_le (Nat.le_refl _), Nat.sub_self]
      exact List.append_nil _
    have hB2 : B2 p = none := s2.out (p, obj C dx names (dl.map SD.da)) (List.mem_append_right _ (List.mem_singleton.mpr rfl))
    have s3 := s2.frz hj h1
    rw [he] at s3
    have hpm : p ∉ keys m1 := by
      have nd := s2.nd
      rw [keys_app] at nd
      exact fun z => (List.nodup_append.mp nd).2.2 p z p (List.mem_singleton.mpr rfl) rfl
    have ee := Ex.new (o := .ins C dx (names.zip vs)) hB2
    refine q _ (upd B2 p (.ins C dx (names.zip vs))) H2 ?_ s3 ⟨p, dx, vs, rfl, upd_same, dpa_mono ee (sda_dpa h2)⟩
    have t3 := t2.frz s2 (fun a ha => by
        obtain ⟨c, hc, e⟩ := List.mem_map.mp ha
        rw [← e]
        exact s.ne hc) (o := .ins C dx (names.zip vs)) hj (by rw [← hk]; exact hpm)
    rw [he] at t3
    exact t3
/-! ### lists -/
theorem mL_of {es : List MP} {v : V} (h : SdOk K B (.pr (mL es)) v) : ∃ p vs, v = .ref p ∧ B p = some (.lst vs) ∧ AllM B es vs := h
theorem turns_M {B1 : Hp} {a : Addr} {vs : List V} {xs : List α} {j : Nat} {e : α → MP} (hL : ∀ H B' m', Ex B1 B' → SOk K B' m' H → SqL K H a vs) (hd : AllM B1 (xs.map e) vs) :
    Turns K (Itl K a) (gName j) B1 (fun _ => True) xs (fun x ds => ds.set j (.pr (e x))) [j] := by
  have hl := allm_len hd
  rw [List.length_map] at hl
  refine ⟨fun i H B' m' hi e g s => ?_, fun H B' m' e g s => ⟨vs, hL H B' m' e s, Nat.le_of_eq hl⟩, fun i x v H H' B' m' ds σ hx ee g s st hy Q q => ?_⟩
  · have hi' : i < vs.length := by omega
    exact ⟨vs, vs[i], hL H B' m' e s, List.getElem?_eq_getElem hi'⟩
  · obtain ⟨rfl, y2⟩ := hy
    obtain ⟨w, h1, h2⟩ := allm_get hd (show (xs.map e)[i]? = some (e x) by rw [List.getElem?_map, hx]; rfl)
    have h3 := y2 vs (hL H' B' m' ee s)
    rw [h1] at h3
    rw [← Option.some.inj h3]
    exact q B' _ (Tr.refl _ _ _) s (st_set j st (sl_of (s := .pr (e x)) ((e x).mono ee h2))) sets1
theorem src_M {xs : List α} {j : Nat} {e : α → MP} (h : Ev K tl ds m (.pr (mL (xs.map e))) m1) : Src K (iList K tl) (gName j) ds m m1 (fun _ => True) xs (fun x ds => ds.set j (.pr (e x))) [j] := fun B H σ s st R q => h B H σ s st _ fun v B1 H1 t1 s1 d1 => by
  obtain ⟨p, vs, rfl, hp, ha⟩ := d1
  exact ⟨p, rfl, ⟨vs, SqL.of (s1.ext _ _ hp)⟩, q _ B1 H1 t1 s1 (turns_M (fun H B' m' e s => SqL.of (s.ext _ _ (e _ _ hp))) ha)⟩
theorem rc_lenM {es : List MP} : Rc K (fun xs H Q => ∃ p ys, xs = [.ref p] ∧ (SqL K H p ys ∨ SqT K H p ys) ∧ Q (.int ys.length) H) [.pr (mL es)] m (.da (dI es.length)) m := Rc.of fun B H vs s dx Q q => by
  obtain ⟨v, rfl, d1⟩ := sda1 dx
  obtain ⟨p, ws, rfl, hp, ha⟩ := d1
  refine ⟨p, ws, rfl, .inl (SqL.of (s.ext _ _ hp)), ?_⟩
  rw [allm_len ha]
  exact q _ (.int _)
theorem ev_lstM {es : List MP} (h : EvA K t ds m (es.map SD.pr) m') (hz : es.length ≤ 1000) : Ev K (tLst t) ds m (.pr (mL es)) m' := fun B H σ s st Q q => h B H σ s st _ fun vs B1 H1 t1 s1 d1 => by
  have da := sda_allm d1
  have hl := allm_len da
  exact ⟨Nat.le_of_lt (small1000 (by omega)), fun p hp => q _ _ _ (t1.trans (Tr.data s1 hp)) (s1.data hp) ⟨p, vs, rfl, upd_same, allm_mono (Ex.new (fresh_b s1 hp)) da⟩⟩
theorem rr_repM {es fs : List MP} {n : Int} (h : repI es n = some fs) : Rr K rRep (.pr (mL es)) (.da (dI n)) m (.pr (mL fs)) m := fun B H x y s dx dy Q q => by
  obtain ⟨p, ws, rfl, hp, ha⟩ := dx
  have h1 := allm_len ha
  unfold repI at h
  split at h
  · rename_i hc
    have e := Option.some.inj h
    subst e
    exact ⟨p, n, ws, rfl, int_of dy, s.ext _ _ hp, hc.1, hc.2.1, by rw [sizeLine_eq, h1]; omega, fun l hl => q _ _ _ (Tr.data s hl) (s.data hl) ⟨l, _, rfl, upd_same, allm_rep (allm_mono (Ex.new (fresh_b s hl)) ha) _⟩⟩
  · cases h
theorem en_catM {es fs : List MP} (ha : Ev K ta ds m (.pr (mL es)) m1) (hb : Ev K tb ds m1 (.pr (mL fs)) m2) (hz : lenG (es.length + fs.length) = some ()) : EvN K (tOp rCat ta tb) ds m (.lr ((es ++ fs).map SD.pr)) m2 := fun B H σ s st Q q =>
  ha B H σ s st _ fun x B1 H1 t1 s1 d1 => hb B1 H1 σ s1 (st_mono t1.ex st) _ fun y B2 H2 t2 s2 d2 => by
    obtain ⟨p, vs, rfl, hp, ca⟩ := (mL es).mono t2.ex d1
    obtain ⟨p2, ws, rfl, hp2, cb⟩ := d2
    have l1 := allm_len ca
    have l2 := allm_len cb
    have l3 := lenG_some hz
    exact ⟨p, p2, vs, ws, rfl, rfl, s2.ext _ _ hp, s2.ext _ _ hp2, by rw [sizeLine_eq]; omega, fun l hl => q l _ _ ((t1.trans t2).trans (Tr.cell s2 hl)) (s2.cell hl (show SdAll K B2 _ _ from allm_sda (allm_app ca cb)))⟩
theorem wp_setM {F : Fx} {D : Ends} {tv : TE} {tz : TS} {es fs : List MP} {x : MP} {i : Int} {l : Addr} (j : Nat) (hv : Ev F.K tv ds m (.pr x) m1) (ho : Ev F.K ta ds m1 (.rf l) m2) (hi : Ev F.K tb ds m2 (.da (dI i)) m') (hj : m'[j]? = some (l, .lr (es.map SD.pr))) (hs : setI es i x = some fs)
    (k : Wp F tz D ds (m'.set j (l, .lr (fs.map SD.pr)))) : Wp F (tSeq (tAsg tv (gSub ta tb rSetL)) tz) D ds m := fun σ H ⟨B, st, s, t, lo⟩ =>
  hv B H σ s st _ fun v B1 H1 t1 s1 d1 => ho B1 H1 σ s1 (st_mono t1.ex st) _ fun o B2 H2 t2 s2 d2 => hi B2 H2 σ s2 (st_mono (t1.ex.trans t2.ex) st) _ fun y B3 H3 t3 s3 d3 => by
    obtain ⟨vs, h1, h2⟩ := s3.lr hj
    have hl := sda_len h2
    rw [List.length_map] at hl
    unfold setI at hs
    obtain ⟨jx, e1, e2⟩ := Option.map_eq_some_iff.mp hs
    refine ⟨l, vs, i, jx, d2, int_of d3, h1, by rw [hl]; exact e1, ?_⟩
    have hcd : CdOk F.K B3 (.lr (fs.map SD.pr)) (.lst (vs.set jx v)) := by
      subst e2
      rw [List.map_set]
      exact sda_set h2 (x.mono (t2.ex.trans t3.ex) d1)
    exact k σ _ ⟨B3, st_mono (t1.ex.trans (t2.ex.trans t3.ex)) st, s3.put hj hcd, (((t.trans t1).trans t2).trans t3).trans (Tr.put s3 hj hcd), lo.trans (t1.ex.trans (t2.ex.trans t3.ex))⟩
theorem wp_frzM {F : Fx} {D : Ends} {ts : TS} {i j : Nat} {l : Addr} {es : List MP} {dl : List PyData} (hi : ds[i]? = some (.rf l)) (hj : m[j]? = some (l, .lr (es.map SD.pr))) (hl : l ∉ F.k0) (he : es = dl.map mD) (k : Wp F ts D (ds.set i (.da (.list dl))) (m.eraseIdx j)) : Wp F ts D ds m := fun σ H ⟨B, st, s, t, lo⟩ => by
  subst he
  obtain ⟨vs, h1, h2⟩ := s.lr hj
  have hB : B l = none := s.out (l, .lr ((dl.map mD).map SD.pr)) (List.mem_of_getElem? hj)
  obtain ⟨o, e, w⟩ := st_get st hi
  obtain ⟨v, rfl, w⟩ := sl_some (s := .rf l) (fun z => nomatch z) w
  have ev : v = .ref l := w
  subst ev
  have ee := Ex.new (o := .lst vs) hB
  have st2 := st_set (K := F.K) i (st_mono ee st) (s := .da (.list dl)) (o := some (.ref l)) (Dq.lst upd_same (dpa_mono ee (mD_allm (sda_allm h2))))
  rw [set_same e] at st2
  exact k σ H ⟨_, st2, s.frz hj h1, t.frz s F.hk hj hl, lo.trans ee⟩
/-! ### comprehensions of such things -/
theorem ev_lcCoreR {S : Type} {G : M → Prop} {wi : TI} {gg : TG} {tt : TT} {items : List α} {up : α → List SD → List SD} {js vs : List Nat} (mF : S → M) (test : α → Bool) (step : S → α → β → S → Prop)
    (hs : Src K wi gg ds m m1 G items up js) (hjs : ∀ j ∈ js, j ∈ vs) (hG : ∀ s c, G (mF s ++ c)) (hn : items.length ≤ 16000000)
    (body : ∀ s x, x ∈ items → EvT K tt (up x (wipeD ds vs)) (mF s) (test x) (mF s) ∧ (test x = true → ∀ y s', step s x y s' → Ev K te (up x (wipeD ds vs)) (mF s) (g y) (mF s')))
    (run : S → List α → List β → S → Prop) (h0 : ∀ s xs ys sN, run s xs ys sN → match xs with
      | [] => ys = [] ∧ sN = s
      | x :: r => (test x = true → ∃ y ys' s', ys = y :: ys' ∧ step s x y s' ∧ run s' r ys' sN) ∧ (test x = false → run s r ys sN))
    {s0 sN : S} {out : List β} (hm : m1 = mF s0) (hr : run s0 items out sN) :
    ∀ B H σ, SOk K B m H → StOk K B ds σ → ∀ Q : VK, (∀ p B2 H2, Tr B H (keys m) B2 H2 (keys (mF sN ++ [(p, .lr (out.map g))])) → SOk K B2 (mF sN ++ [(p, .lr (out.map g))]) H2 → H p = none → Q (.ref p) H2) → tLc wi gg tt te vs σ H Q := by
  intro B H σ s st Q q
  subst hm
  refine hs B H σ s st _ fun J B1 H1 t1 s1 T D hD => ?_
  refine ⟨fun i k H' => k = items.length - i ∧ i ≤ items.length ∧ ∃ B' st' done left, out = done ++ left ∧ done.length ≤ i ∧ run st' (items.drop i) left sN ∧ Tr B H (keys m) B' H' (keys (mF st' ++ [(D, .lr (done.map g))])) ∧ Ex B1 B' ∧ SOk K B' (mF st' ++ [(D, .lr (done.map g))]) H',
    ⟨items.length, by simp, Nat.zero_le _, B1, s0, [], out, rfl, Nat.zero_le _, hr, t1.trans (Tr.cell s1 hD), Ex.refl _, s1.cell hD (show CdOk K B1 (.lr (([] : List β).map g)) (.lst []) from True.intro)⟩, ?_⟩
  rintro i k H' ⟨rfl, hi, B', st', done, left, eo, hdl, hrun, tr, eB, sk⟩
  by_cases hlt : i < items.length
  · refine .inr ⟨T.1 i H' B' _ hlt eB (hG _ _) sk, fun H'' => i + 1 ≤ items.length ∧ ∃ B' st' done left, out = done ++ left ∧ done.length ≤ i + 1 ∧ run st' (items.drop (i + 1)) left sN ∧ Tr B H (keys m) B' H'' (keys (mF st' ++ [(D, .lr (done.map g))])) ∧ Ex B1 B' ∧ SOk K B' (mF st' ++ [(D, .lr (done.map g))]) H'',
      fun H'' p => ⟨items.length - (i + 1), by omega, rfl, p⟩, fun x H'' hy => ?_⟩
    have hx : items[i]? = some items[i] := List.getElem?_eq_getElem hlt
    have hmem : items[i] ∈ items := List.getElem_mem hlt
    have hdrop : items.drop i = items[i] :: items.drop (i + 1) := List.drop_eq_getElem_cons hlt
    have hr2 := h0 _ _ _ _ hrun
    rw [hdrop] at hr2
    obtain ⟨hrt, hrf⟩ := hr2
    obtain ⟨bt, be⟩ := body st' items[i] hmem
    refine T.2.2 i items[i] x H' H'' B' _ (wipeD ds vs) (wipe σ vs) hx eB (hG _ _) sk (st_wipe (st_mono (t1.ex.trans eB) st) vs) hy _ fun B2 σ2 t2 s2 st2 hset => ⟨wipe_sets hset hjs, ?_⟩
    refine (bt.frame [(D, .lr (done.map g))]) B2 H'' σ2 s2 st2 _ fun B3 H3 t3 s3 => ?_
    cases hb : test items[i] with
    | false =>
      refine iteF ⟨hlt, B3, st', done, left, eo, Nat.le_succ_of_le hdl, hrf hb, (tr.trans t2).trans t3, (eB.trans t2.ex).trans t3.ex, s3⟩
    | true =>
      obtain ⟨y, ys', s', el, hstep, hrest⟩ := hrt hb
      refine iteT (((be hb y s' hstep).frame [(D, .lr (done.map g))]) B3 H3 σ2 s3 (st_mono t3.ex st2) _ fun v B4 H4 t4 s4 d4 => ?_)
      have hjD : (mF s' ++ [(D, CD.lr (done.map g))])[(mF s').length]? = some (D, .lr (done.map g)) := by
        rw [List.getElem?_append_right (Nat.le_refl _), Nat.sub_self]
        rfl
      obtain ⟨ws, hw, hwa⟩ := s4.lr hjD
      have hwl := sda_len hwa
      rw [List.length_map] at hwl
      have hset2 : (mF s' ++ [(D, CD.lr (done.map g))]).set (mF s').length (D, .lr ((done ++ [y]).map g)) = mF s' ++ [(D, .lr ((done ++ [y]).map g))] := by
        rw [List.set_append_right _ _ (Nat.le_refl _), Nat.sub_self]
        rfl
      have hcd : CdOk K B4 (.lr ((done ++ [y]).map g)) (.lst (ws ++ [v])) := by
        rw [List.map_append]
        exact sda_snoc hwa d4
      have t5 := Tr.put s4 hjD hcd
      have s5 := s4.put hjD hcd
      rw [hset2] at t5 s5
      refine ⟨ws, hw, by rw [sizeLine_eq]; omega, hlt, B4, s', done ++ [y], ys', by rw [eo, el, List.append_assoc]; rfl, by rw [List.length_append, List.length_singleton]; omega, hrest, (((tr.trans t2).trans t3).trans t4).trans t5, ((eB.trans t2.ex).trans t3.ex).trans t4.ex, s5⟩
  · have e : i = items.length := by omega
    subst e
    refine .inl ⟨T.2.1 H' B' _ eB (hG _ _) sk, ?_⟩
    have hr2 := h0 _ _ _ _ hrun
    rw [List.drop_length] at hr2
    obtain ⟨rfl, rfl⟩ := hr2
    rw [List.append_nil] at eo
    subst eo
    exact q D B' H' tr sk (by
      cases hh : H D with
      | none => rfl
      | some o => exact absurd hD (t1.grow D (some_ne hh)))
theorem lc_mapR {G : M → Prop} {wi : TI} {gg : TG} {items : List α} {up : α → List SD → List SD} {js vs : List Nat} {step : α → Option β} {out : List β} (hs : Src K wi gg ds m m1 G items up js) (hjs : ∀ j ∈ js, j ∈ vs) (hG : ∀ c, G (m1 ++ c)) (hn : lenG items.length = some ())
    (h : mapO step items = some out) (body : ∀ x y, x ∈ items → step x = some y → Ev K te (up x (wipeD ds vs)) m1 (g y) m1) :
    ∀ B H σ, SOk K B m H → StOk K B ds σ → ∀ Q : VK, (∀ p B2 H2, Tr B H (keys m) B2 H2 (keys (m1 ++ [(p, .lr (out.map g))])) → SOk K B2 (m1 ++ [(p, .lr (out.map g))]) H2 → H p = none → Q (.ref p) H2) → tLc wi gg tYes te vs σ H Q :=
  ev_lcCoreR (S := Unit) (fun _ => m1) (fun _ => true) (fun _ x y _ => step x = some y) hs hjs (fun _ => hG) (lenG_some hn) (fun _ x hx => ⟨et_yes, fun _ y _ hy => body x y hx hy⟩)
    (fun _ xs ys _ => mapO step xs = some ys) (fun s xs ys sN hr => by
      have hh := mapO_run (items := items) s xs ys sN hr
      cases xs with
      | nil => exact hh
      | cons x r => exact ⟨fun z => by
          obtain ⟨y, ys', s', h1, h2, h3, _⟩ := hh.1 z
          exact ⟨y, ys', s', h1, h2, h3⟩, fun z => nomatch z⟩) (s0 := ()) (sN := ()) rfl h
theorem lc_endR {out : List β} {mN : M} {e : β → MP} (h : ∀ B H σ, SOk K B m H → StOk K B ds σ → ∀ Q : VK, (∀ p B2 H2, Tr B H (keys m) B2 H2 (keys (mN ++ [(p, .lr (out.map fun y => SD.pr (e y)))])) → SOk K B2 (mN ++ [(p, .lr (out.map fun y => SD.pr (e y)))]) H2 → H p = none → Q (.ref p) H2) → te σ H Q) : Ev K te ds m (.pr (mL (out.map e))) mN := fun B H σ s st Q q => h B H σ s st Q fun p B2 H2 t s2 hp => by
  have hj : (mN ++ [(p, CD.lr (out.map fun y => SD.pr (e y)))])[mN.length]? = some (p, .lr (out.map fun y => SD.pr (e y))) := by
    rw [List.getElem?_append_right (Nat.le_refl _), Nat.sub_self]
    rfl
  obtain ⟨ws, h1, h2⟩ := s2.lr hj
  have he : (mN ++ [(p, CD.lr (out.map fun y => SD.pr (e y)))]).eraseIdx mN.length = mN := by
    rw [List.eraseIdx_append_of_length_le (Nat.le_refl _), Nat.sub_self]
    exact List.append_nil _
  have hB2 : B2 p = none := s2.out (p, .lr (out.map fun y => SD.pr (e y))) (List.mem_append_right _ (List.mem_singleton.mpr rfl))
  have t3 := t.frz s2 (fun a ha => by
    obtain ⟨c, hc, e⟩ := List.mem_map.mp ha
    rw [← e]
    exact s.ne hc) (o := .lst ws) hj (fresh_k s hp)
  have s3 := s2.frz hj h1
  rw [he] at t3 s3
  have h4 : SdAll K B2 ((out.map e).map SD.pr) ws := by rw [List.map_map]; exact h2
  exact q _ _ _ t3 s3 ⟨p, ws, rfl, upd_same, allm_mono (Ex.new hB2) (sda_allm h4)⟩
/-! ### a pair of numbers that the module has -/
def KTup (K : PySem.W.Frag) (v : V) (xs : List V) : Prop := ∃ p, v = .ref p ∧ ∃ (o : Obj) (its : Array Value) (n : Nat), K.lookup p = some o ∧ o.cls = .type "tuple" ∧ o.data = .seq its n ∧ its.size ≤ sizeLine ∧ Vals xs its.toList
theorem KTup.sq {v : V} {xs : List V} (h : KTup K v xs) : ∃ p, v = .ref p ∧ SqT K H p xs := by
  obtain ⟨p, rfl, h⟩ := h
  exact ⟨p, rfl, .inr h⟩
/-- none: the module's own nought -/
def mQ (K : PySem.W.Frag) : Option (Int × Int) → MP
  | none => ⟨fun _ v => KTup K v [.int 0, .int 1], fun _ h => h⟩
  | some q => mD (dP dI dI q)
def qv (o : Option (Int × Int)) : Int × Int := o.getD (0, 1)
theorem ev_qF {q : Int × Int} (h : Ev K te ds m (.da (dP dI dI q)) m') : Ev K te ds m (.pr (mQ K (some q))) m' := h
theorem ev_qT {o : Option (Int × Int)} {q : Int × Int} (h : Ev K te ds m (.pr (mQ K o)) m') (e : o = some q) : Ev K te ds m (.da (dP dI dI q)) m' := by
  subst e
  exact h
theorem mQ_sq {o : Option (Int × Int)} {v : V} (s : SOk K B m H) (h : (mQ K o).ok B v) : ∃ p, v = .ref p ∧ SqT K H p [.int (qv o).1, .int (qv o).2] := by
  cases o with
  | none => exact KTup.sq h
  | some q =>
    obtain ⟨p, x, y, rfl, hp, dx, dy⟩ := pair_of (K := K) (show SdOk K B (.da (dP dI dI q)) v from h)
    have ex := int_of (K := K) dx
    have ey := int_of (K := K) dy
    subst ex ey
    exact ⟨p, rfl, SqT.of (s.ext _ _ hp)⟩
theorem rr_ixQ {o : Option (Int × Int)} {i x : Int} (h : atI [(qv o).1, (qv o).2] i = some x) : Rr K (rIxT K) (.pr (mQ K o)) (.da (dI i)) m (.da (dI x)) m := Rr.of fun B H u v s dx dy Q q => by
  obtain ⟨p, rfl, hp⟩ := mQ_sq s dx
  exact ⟨p, _, i, .int x, rfl, int_of dy, hp, atI_map (f := V.int) h, q _ (.int x)⟩
theorem dp_Q {o : Option (Int × Int)} {v : V} (s : SOk K B m H) (h : (mQ K o).ok B v) : Dp K H v (dP dI dI (qv o)) := by
  obtain ⟨p, rfl, hp⟩ := mQ_sq s h
  exact .tup hp (.cons (.int _) (.cons (.int _) .nil))
theorem rr_eqQ {o o' : Option (Int × Int)} : Rr K (rEqP K) (.pr (mQ K o)) (.pr (mQ K o')) m (.da (dB (decide (qv o = qv o')))) m := Rr.of fun B H u v s dx dy Q q =>
  ⟨_, _, dp_Q s dx, dp_Q s dy, Enc.plain (f := dP dI dI) _, Enc.plain (f := dP dI dI) _, Nat.le_trans (Enc.dep_le (f := dP dI dI) _) (by decide), by rw [Enc.eqv (f := dP dI dI)]; exact q _ (.bl _)⟩
theorem ev_gt {v : V} (h : KTup K v [.int 0, .int 1]) : Ev K (tC v) ds m (.pr (mQ K none)) m := fun B H σ s st Q q => q v B H (Tr.refl _ _ _) s h
/-- all there -/
def allS {α : Type} (xs : List (Option α)) : Option (List α) := mapO id xs
theorem allS_some {α : Type} : ∀ {xs : List (Option α)} {ys : List α}, allS xs = some ys → xs = ys.map some
  | [], ys, h => by
    cases Option.some.inj h
    rfl
  | x :: xs, ys, h => by
    obtain ⟨y, h1, h⟩ := bindS h
    obtain ⟨zs, h2, h⟩ := bindS h
    cases Option.some.inj h
    have h1' : x = some y := h1
    rw [h1', allS_some h2]
    rfl
theorem setI_map {α β : Type} {f : α → β} {xs ys : List α} {i : Int} {x : α} (h : setI xs i x = some ys) : setI (xs.map f) i (f x) = some (ys.map f) := by
  unfold setI at h ⊢
  rw [List.length_map]
  obtain ⟨j, h1, h2⟩ := Option.map_eq_some_iff.mp h
  rw [h1, ← h2, List.map_set]
  rfl
theorem en_catQ {tn : TE} {xs : List (Int × Int)} {zs : List (Option (Int × Int))} {o : Option (Int × Int)} {n : Int} (ha : Ev K ta ds m (.da (dL (dP dI dI) xs)) m1) (hq : Ev K tb ds m1 (.pr (mQ K o)) m1) (hn : Ev K tn ds m1 (.da (dI n)) m1) (h : repI [o] n = some zs) (hz : lenG ((xs.map some).length + zs.length) = some ()) :
    EvN K (tOp rCat ta (tOp rRep (tLst (tCons tb tNil)) tn)) ds m (.lr (((xs.map some ++ zs).map (mQ K)).map SD.pr)) m1 := by
  have e1 : (xs.map (dP dI dI)).map mD = (xs.map some).map (mQ K) := by rw [List.map_map, List.map_map]; rfl
  have h1 : Ev K ta ds m (.pr (mL ((xs.map some).map (mQ K)))) m1 := by rw [← e1]; exact ev_daM ha
  have h2 : Ev K (tLst (tCons tb tNil)) ds m1 (.pr (mL [mQ K o])) m1 := ev_lstM (ea_cons hq ea_nil) (Nat.le_of_ble_eq_true rfl)
  have h3 : repI [mQ K o] n = some (zs.map (mQ K)) := by
    unfold repI at h ⊢
    split at h
    · rename_i hc
      rw [if_pos (show -(2 ^ 63) ≤ n ∧ n < 2 ^ 63 ∧ [mQ K o].length * n.toNat ≤ 16000000 from hc), ← Option.some.inj h, List.map_flatten, List.map_replicate]
      rfl
    · cases h
  have h4 := en_catM h1 (ev_op h2 hn (rr_repM h3)) (by simp only [List.length_map] at hz ⊢; exact hz)
  rw [← List.map_append] at h4
  exact h4
/-- items ([x], y) -/
def onesP {α β : Type} (xs : List (List α × β)) : Option (List (α × β)) := mapO (fun p => match p.1 with | [x] => some (x, p.2) | _ => none) xs
theorem onesP_some {α β : Type} : ∀ {xs : List (List α × β)} {zs : List (α × β)}, onesP xs = some zs → xs = zs.map fun z => ([z.1], z.2)
  | [], zs, h => by
    cases Option.some.inj h
    rfl
  | (l, b) :: xs, zs, h => by
    obtain ⟨y, h1, h⟩ := bindS h
    obtain ⟨ys, h2, h⟩ := bindS h
    cases Option.some.inj h
    cases l with
    | nil => cases h1
    | cons a l =>
      cases l with
      | nil =>
        cases Option.some.inj h1
        rw [onesP_some h2]
        rfl
      | cons c l => cases h1
theorem src_1P {f2 : β → PyData} {xs : List (List α × β)} {zs : List (α × β)} {j k : Nat} (h : Ev K tl ds m (.da (dL (dP (dU f) f2) xs)) m1) (hz : onesP xs = some zs) :
    Src K (iList K tl) (gTup K 2 (gCons (gTup K 1 (gCons (gName j) gNil)) (gCons (gName k) gNil))) ds m m1 (fun _ => True) zs (fun p ds => (ds.set j (.da (f p.1))).set k (.da (f2 p.2))) ([j] ++ [k]) := fun B H σ s st R q => h B H σ s st _ fun v B1 H1 t1 s1 d1 => by
  have ez := onesP_some hz
  subst ez
  obtain ⟨p, vs, rfl, hp, ha⟩ := lst_of d1
  have hl := dpa_len ha
  rw [List.length_map, List.length_map] at hl
  have hL : ∀ {H B' m'}, Ex B1 B' → SOk K B' m' H → SqL K H p vs := fun e s => SqL.of (s.ext _ _ (e _ _ hp))
  refine ⟨p, rfl, ⟨vs, SqL.of (s1.ext _ _ hp)⟩, q _ B1 H1 t1 s1 ⟨fun i H B' m' hi e g s => ?_, fun H B' m' e g s => ⟨vs, hL e s, Nat.le_of_eq hl⟩, fun i x v H H' B' m' ds σ hx e g s st hy Q q => ?_⟩⟩
  · have hi' : i < vs.length := by omega
    exact ⟨vs, vs[i], hL e s, List.getElem?_eq_getElem hi'⟩
  · obtain ⟨rfl, y2⟩ := hy
    obtain ⟨w, h1, h2⟩ := dqa_some ha (show (zs.map fun z => (([z.1], z.2) : List α × β))[i]? = some ([x.1], x.2) by rw [List.getElem?_map, hx]; rfl)
    have h3 := y2 vs (hL e s)
    rw [h1] at h3
    have e3 := Option.some.inj h3
    subst e3
    obtain ⟨T, x1, x2, rfl, h4, h5, h6⟩ := pair_of (K := K) (show SdOk K B1 (.da (dP (dU f) f2 ([x.1], x.2))) w from h2)
    obtain ⟨T2, us, rfl, h7, h8⟩ := tup_of (K := K) (show SdOk K B1 (.da (dU f [x.1])) x1 from h5)
    cases h8 with
    | cons h9 h10 =>
      cases h10
      refine ⟨T, [.ref T2, x2], rfl, SqT.of (s.ext _ _ (e _ _ h4)), rfl, .ref T2, [x2], rfl, ⟨T2, _, rfl, SqT.of (s.ext _ _ (e _ _ h7)), rfl, _, [], rfl, rfl, x2, [], rfl, rfl, ?_⟩⟩
      exact q B' _ (Tr.refl _ _ _) s (st_set k (st_set j st (sl_of (s := .da (f x.1)) (dp_mono e h9))) (sl_of (s := .da (f2 x.2)) (dp_mono e h6))) (sets1.trans sets1)
theorem fnok_no {P : Program} {w : World} {mg : Str → Option Value} {base : Heap} {CX : CXT} {n : Nat} {fa : Addr} {fd : FuncData} {ps : List Str} {F : Pf} (h : ∀ as m R, ¬ F as m R) : FnOk P w K mg base CX n fa fd ps (spOf K F) :=
  ⟨fun vs H Q E z => by obtain ⟨_, as, m, R, h1, _⟩ := z; exact (h as m R h1).elim, fun A outer s H args us vs Q E _ _ _ _ z => by obtain ⟨_, as, m, R, h1, _⟩ := z; exact (h as m R h1).elim⟩
theorem allS_mQ {xs : List (Option (Int × Int))} {ys : List (Int × Int)} (h : allS xs = some ys) : xs.map (mQ K) = (ys.map (dP dI dI)).map mD := by
  rw [allS_some h, List.map_map, List.map_map]
  rfl
end
end FC
set_option maxHeartbeats 4000000
/-! FST: sorted(set(xs)), xs a list of whole numbers, some maybe alike. -/
namespace FC
open PySem PySem.Spec PyProof.Rows L2 Evl
/-- a set as it is made -/
abbrev set0 (w : World) : Obj := { cls := .type "set", dict := none, data := .set #[] 0 (.fresh 0 0 (!w.params.followText "set-order")) }
section
variable {P : Program} {w : World} {A : Around} {E : Value → Shared → Prop} {s : Shared}
set_option maxRecDepth 100000 in
theorem set_of_ints {l : Addr} {vs : Array Value} (ks : List Int) {Q : Value → Shared → Prop} (hn : A.handled = none) (isl : s.heap.IsList l vs) (hv : IntsAre vs.toList ks) (hk : ks.length + 1 < scanBound)
    (go : ∀ (g : Heap) (u c : Nat), SetR w g s.heap.objs.size (fun j => decide (j ∈ ks)) c → c ≤ ks.length → (∀ b o, s.heap.get? b = some o → g.get? b = some o) → Q (.ref s.heap.objs.size) { s with heap := g, toks := u }) :
    wpAny (model P w) A (call (.type "set") [.ref l]) Q E s := by
  have size_ks : vs.size = ks.length := (Array.length_toList ▸ IntsAre.length hv : _)
  have k1 := F.called_set.notType; have k2 := F.called_set.canCreate; have k3 := F.typeCall_set_1 (.ref l)
  have k4 := F.called_set.made; have k5 := F.called_set.sub
  obtain ⟨mc, mt, k6⟩ := F.called_set.mro
  refine wpAny_call (codeAny_of_tree (show wpAny _ _ (callAny (.type "set") _) _ _ _ from ?_))
  refine wpAny_pure ⟨Code.quiet_builtin _ (by decide +kernel), codeAny_builtin F.entry_type_call ?_⟩
  rw [Around.under_plain (weight_type_call_type "set" [.ref l] []) rfl]
  repeat (any_goals (first | assumption | wp_step))
  refine codeAny_mono (code_set_led1 (.ref l) (E := E) (Q₁ := fun v t => v = .ref s.heap.objs.size ∧ t = { s with heap := s.heap.push (set0 w) }) ⟨rfl, rfl⟩) fun r t1 ht1 => ?_
  rcases r with e | fl
  · exact ht1
  cases fl with
  | next => exact ht1.elim
  | brk => exact ht1.elim
  | cont => exact ht1.elim
  | ret v =>
    obtain ⟨rfl, rfl⟩ := ht1
    have at0 : (s.heap.push (set0 w)).get? s.heap.objs.size = some (set0 w) := Heap.get?_push_size _ rfl
    have ty0 : Shared.TypeIs { s with heap := s.heap.push (set0 w) } (.ref s.heap.objs.size) "set" := ⟨_, at0, rfl⟩
    have i1 := F.called_set.init.lookup
    have i2 := F.called_set.init.bind (.ref s.heap.objs.size)
    repeat (any_goals (first | assumption | wp_step))
    refine codeAny_mono (codeAny_call_builtin (R := wants (fun r t => r = .none ∧ ∃ g u c, t = { s with heap := g, toks := u } ∧ SetR w g s.heap.objs.size (fun j => decide (j ∈ ks)) c ∧ c ≤ ks.length ∧ ∀ b o, s.heap.get? b = some o → g.get? b = some o) E)
      F.called_set.init.plain F.entry_set_init (check_set_init_1 ty0 ?_)) fun r t2 ht2 => ?_
    · obtain ⟨⟨oc, od, oda, osl⟩, ol1, ol2, on, ol3⟩ := isl
      dsimp only at ol2 ol3
      subst ol2 ol3
      have ol4 : (s.heap.push (set0 w)).get? l = some { cls := .type "list", dict := od, data := .seq vs on, slots := osl } := Heap.get?_push_of_some _ ol1
      have isl1 : (s.heap.push (set0 w)).IsList l vs := ⟨_, ol4, rfl, on, rfl⟩
      have n1 := F.sub_list_set
      have n2 := F.sub_list_frozenset
      have n3 : (Value.type "list" == Value.type "dict") = false := by decide
      unfold Builtin.«set.__init__» noKeywords Builtin.Frozenset.updateFrom
      generalize ei : pyIter = it_
      wp_walk
      subst ei
      refine wpAny_pyIter_list isl1 (wpAny_bind (wpAny_runValue ?_))
      have sz1 : (s.heap.push (set0 w)).objs.size = s.heap.objs.size + 1 := Heap.size_push ..
      have llt : l < s.heap.objs.size := Heap.lt_size ol1
      have hn3 : A.in1.in1.in1.handled = none := by simp [hn]
      have lne : l ≠ (s.heap.push (set0 w)).objs.size := by rw [Heap.size_push]; exact Nat.ne_of_lt (Nat.lt_succ_of_lt llt)
      have items : ∀ (i : Nat) (v : Value), vs[i]? = some v → ∃ k t, ks[i]? = some k ∧ v = .int k t := fun i v e => by
        have lt : i < ks.length := by rw [← size_ks]; exact (Array.getElem?_eq_some_iff.mp e).1
        obtain ⟨t, e2⟩ := PyProof.Rows.IntsAre.int_at hv i v (by rw [Array.getElem?_toList]; exact e)
        exact ⟨ks[i], t, List.getElem?_eq_getElem lt, by rw [e2, List.getD_eq_getElem?_getD, List.getElem?_eq_getElem lt] <;> rfl⟩
      refine set_update_ints ((Walks.list hn3 _ l lne vs).toS) s.heap.objs.size (fun z => ?_) ks size_ks hk items (vs.size - 0) 0 _ (by omega) (Nat.zero_le _) ⟨⟨_, Heap.get?_push_size _ rfl, rfl, rfl⟩, isl1.push _⟩ ⟨0, Nat.le_refl 0, setR_new_at (Heap.get?_push_of_some _ at0)⟩ fun t c mv hc R => ?_
      · rcases List.mem_cons.mp z with e | e
        · rw [Heap.size_push] at e
          exact Nat.ne_of_lt (Nat.lt_succ_self _) e
        · rw [List.mem_singleton] at e
          exact Nat.ne_of_gt llt e
      · obtain ⟨g, gg, gd, gt, go_⟩ := t
        obtain rfl : gg = s.gens := mv.gens
        obtain rfl : gd = s.drawn := mv.drawn
        obtain rfl : go_ = s.os := mv.os
        refine wpAny_pure (show wpAny _ _ (ret Value.none) _ _ _ from wpAny_pure ⟨rfl, g, gt, c, rfl, R, by omega, fun b o e => ?_⟩)
        have lb : b < s.heap.objs.size := Heap.lt_size e
        refine mv.heap b o (fun z => ?_) (Heap.get?_push_of_some _ (Heap.get?_push_of_some _ e))
        rcases List.mem_cons.mp z with e2 | e2
        · exact Nat.ne_of_lt lb e2
        · rw [List.mem_singleton, Heap.size_push] at e2
          exact Nat.ne_of_lt (Nat.lt_succ_of_lt lb) e2
    · rcases r with e | fl
      · exact ht2
      cases fl with
      | next => exact ht2.elim
      | brk => exact ht2.elim
      | cont => exact ht2.elim
      | ret v =>
        obtain ⟨rfl, g, u, c, rfl, R, hc, kp⟩ := ht2
        repeat (any_goals (first | assumption | wp_step))
        exact go _ _ _ R hc kp
end
/-- sorted(set(xs)) -/
def tSrtSet (K : PySem.W.Frag) (ta : TE) : TE := fun σ H Q => ta σ H fun x H1 => ∃ (l : Addr) (ks : List Int), x = .ref l ∧ SqL K H1 l (ks.map V.int) ∧ ks.length < 64 ∧
  ∀ (ns : List Int) (p : Addr), ns.Pairwise (· < ·) → (∀ k : Int, k ∈ ns ↔ k ∈ ks) → H1 p = none → Q (.ref p) (upd H1 p (.lst (ns.map V.int)))
theorem pe_srtSet {X : Cx} {a : Expr} {ta : TE} {p p2 q pos : Pos} (hg : Gl X "sorted") (hm : X.mg "sorted" = none) (hg2 : Gl X "set") (hm2 : X.mg "set" = none) (ha : PE X a ta) (hc : X.calm = true := by rfl)
    (na : starEach [a] X.env = (false, eval a X.env) :: starEach [] X.env := by rfl) : PE X (.Call (.Name "sorted" p) [.Call (.Name "set" p2) [a] [] q] [] pos) (tSrtSet X.K ta) := by
  refine ⟨fun pins s σ H Q I h => ?_⟩
  refine Call_ (ld_blt I hg hm boot_sorted ?_)
  refine PyProof.Rows.callWith_builtin1 (PyProof.Rows.args_cons ?_ rfl) rfl rfl
  refine Call_ (ld_blt I hg2 hm2 boot_set ?_)
  refine PyProof.Rows.callWith_type1 (PyProof.Rows.args_cons (thn (ha.run pins s σ H _ I h) fun v s1 ⟨x, H1, I1, r1, q1⟩ => PyProof.Rows.args_nil ?_) na) na rfl
  obtain ⟨l, ks, rfl, hq, h64, q1⟩ := q1
  cases r1
  obtain ⟨its, r, pl, hz⟩ := I1.list hq
  have hv : IntsAre its.toArray.toList ks := by simpa using RZ.intsAre_vals r
  refine set_of_ints ks (I1.ok.hd hc) pl.isList hv (by unfold scanBound; omega) fun g u c R hcl kp => ?_
  refine PyProof.Rows.args_nil ?_
  have I2 : Inv X pins σ H1 { s1 with heap := g, toks := u } := I1.kept kp
  refine sorted_set R (I2.ok.hd hc) (by omega) fun s' p out c2 ns k g2 o hp hg2 hi hs hmem hl => ?_
  have hnl : ns.length = c := hl
  have hsz : s1.heap.objs.size ≤ p := Nat.le_trans (Nat.le_of_lt R.lt) hp
  have hn : H1 p = none := I1.hok.fresh hsz
  have k' : ∀ b o, s1.heap.get? b = some o → s'.heap.get? b = some o := fun b o e => k b o (kp b o e)
  have hlen : (ns.map V.int).length ≤ sizeLine := by rw [List.length_map, sizeLine_eq]; omega
  have J : Inv X pins σ (upd H1 p (.lst (ns.map V.int))) { s1 with heap := s'.heap, gens := s'.gens, drawn := s'.drawn, toks := s'.toks } :=
    I1.call (ch := []) (Un.laid k' hsz hn) (I1.hok.laid k' hsz ⟨hlen, out.toList, c2, vals_of_ints hi, hg2⟩) (by rw [g2]; exact I1.bare) (fun _ z => nomatch z)
  have e : s' = { s1 with heap := s'.heap, gens := s'.gens, drawn := s'.drawn, toks := s'.toks } := by
    cases s'
    cases s1
    cases o
    rfl
  rw [e]
  exact ⟨.ref p, _, J, rfl, q1 ns p hs (fun z => (hmem z).trans (by rw [decide_eq_true_eq])) hn⟩
section
variable {K : PySem.W.Frag} {ds : List SD} {m m1 : M} {ta : TE}
/-- the unlike ones, rising -/
def srtSet (xs : List Int) : List Int := (xs.mergeSort fun a b => decide (a ≤ b)).eraseDups
theorem dedup_le {xs : List Int} (h : xs.Pairwise (· ≤ ·)) : xs.eraseDups.Pairwise (· < ·) := by
  induction hn : xs.length using Nat.strongRecOn generalizing xs with
  | _ n ih =>
    cases xs with
    | nil => simp
    | cons x xs =>
      rw [List.eraseDups_cons]
      have h2 := List.pairwise_cons.mp h
      have hl : (xs.filter fun b => !b == x).length < n := by
        have := List.length_filter_le (fun b => !b == x) xs
        rw [List.length_cons] at hn
        omega
      refine List.pairwise_cons.mpr ⟨fun y hy => ?_, ih _ hl (h2.2.sublist List.filter_sublist) rfl⟩
      have hy2 := List.mem_eraseDups.mp hy
      rw [List.mem_filter] at hy2
      have := h2.1 y hy2.1
      have hne : y ≠ x := by simpa using hy2.2
      omega
theorem srtSet_lt (xs : List Int) : (srtSet xs).Pairwise (· < ·) := by
  unfold srtSet
  refine dedup_le ?_
  have h := List.pairwise_mergeSort (le := fun a b : Int => decide (a ≤ b)) (fun a b c h1 h2 => by simp only [decide_eq_true_eq] at *; omega) (fun a b => by simp only [Bool.or_eq_true, decide_eq_true_eq]; omega) xs
  exact h.imp fun h => of_decide_eq_true h
theorem srtSet_mem {xs : List Int} {k : Int} : k ∈ srtSet xs ↔ k ∈ xs := by
  unfold srtSet
  rw [List.mem_eraseDups, List.mem_mergeSort]
theorem lt_ext : ∀ {xs ys : List Int}, xs.Pairwise (· < ·) → ys.Pairwise (· < ·) → (∀ k, k ∈ xs ↔ k ∈ ys) → xs = ys
  | [], [], _, _, _ => rfl
  | [], y :: ys, _, _, h => nomatch (h y).mpr List.mem_cons_self
  | x :: xs, [], _, _, h => nomatch (h x).mp List.mem_cons_self
  | x :: xs, y :: ys, h1, h2, h => by
    have a1 := List.pairwise_cons.mp h1
    have a2 := List.pairwise_cons.mp h2
    have e : x = y := by
      rcases List.mem_cons.mp ((h x).mp List.mem_cons_self) with e | e
      · exact e
      · rcases List.mem_cons.mp ((h y).mpr List.mem_cons_self) with e2 | e2
        · exact e2.symm
        · have := a2.1 x e
          have := a1.1 y e2
          omega
    subst e
    rw [lt_ext a1.2 a2.2 fun k => ⟨fun hk => ?_, fun hk => ?_⟩]
    · rcases List.mem_cons.mp ((h k).mp (List.mem_cons_of_mem _ hk)) with e | e
      · have := a1.1 k hk
        omega
      · exact e
    · rcases List.mem_cons.mp ((h k).mpr (List.mem_cons_of_mem _ hk)) with e | e
      · have := a2.1 k hk
        omega
      · exact e
def lenS64 (n : Nat) : Option Unit := if n < 64 then some () else none
theorem ev_srtSet {xs : List Int} {u : Unit} (h : Ev K ta ds m (.da (dL dI xs)) m1) (hl : lenS64 xs.length = some u) : Ev K (tSrtSet K ta) ds m (.da (dL dI (srtSet xs))) m1 := fun B H σ s st Q q => h B H σ s st _ fun v B1 H1 t1 s1 d1 => by
  obtain ⟨p, vs, rfl, hp, ha⟩ := lst_of d1
  have hl2 : xs.length < 64 := by
    unfold lenS64 at hl
    split at hl
    · assumption
    · cases hl
  have ev := dqa_ints ha
  subst ev
  refine ⟨p, xs, rfl, SqL.of (s1.ext _ _ hp), hl2, fun ns w hlt hmem hw => ?_⟩
  have e : ns = srtSet xs := lt_ext hlt (srtSet_lt xs) fun k => (hmem k).trans srtSet_mem.symm
  subst e
  exact q _ _ _ (t1.trans (Tr.data s1 hw)) (s1.data hw) (.lst upd_same (ints_dqa _))
end
end FC
set_option maxHeartbeats 400000
/-! FG: plain pieces of the laws: colours, the nearest, dicts, pictures, what is drawn. -/
namespace FC
open PySem PySem.Spec PyProof.Rows L2 Evl
abbrev Col := List Int
/-- a colour of w places -/
def Good (w : Nat) (c : Col) : Prop := c.length = w ∧ ∀ x ∈ c, 0 ≤ x ∧ x < 1000
def ap (a b : Col) : Int := (List.map (fun p : Int × Int => (p.1 - p.2) * (p.1 - p.2)) (List.zip a b)).sum
theorem ap_comm (a b : Col) : ap a b = ap b a := by
  unfold ap
  congr 1
  induction a generalizing b with
  | nil => cases b <;> rfl
  | cons x a ih =>
    cases b with
    | nil => rfl
    | cons y b =>
      rw [List.zip_cons_cons, List.zip_cons_cons, List.map_cons, List.map_cons, ih b]
      congr 1
      show (x - y) * (x - y) = (y - x) * (y - x)
      rw [← Int.neg_mul_neg (x - y) (x - y), Int.neg_sub]
theorem sq_nn (x : Int) : 0 ≤ x * x := by
  rcases Int.le_total 0 x with h | h
  · exact Int.mul_nonneg h h
  · rw [← Int.neg_mul_neg]
    exact Int.mul_nonneg (by omega) (by omega)
theorem ap_nn (a b : Col) : 0 ≤ ap a b := by
  unfold ap
  generalize List.zip a b = l
  induction l with
  | nil => exact Int.le_refl _
  | cons p l ih =>
    rw [List.map_cons, List.sum_cons]
    have := sq_nn (p.1 - p.2)
    omega
theorem ap_self (a : Col) : ap a a = 0 := by
  induction a with
  | nil => rfl
  | cons x a ih =>
    have e : ap (x :: a) (x :: a) = (x - x) * (x - x) + ap a a := rfl
    rw [e, ih, Int.sub_self]
    rfl
theorem ap_zero : ∀ {a b : Col}, a.length = b.length → ap a b = 0 → a = b
  | [], [], _, _ => rfl
  | [], _ :: _, h, _ => by cases h
  | _ :: _, [], h, _ => by cases h
  | x :: a, y :: b, h, e => by
    have e1 : ap (x :: a) (y :: b) = (x - y) * (x - y) + ap a b := rfl
    rw [e1] at e
    have h1 := sq_nn (x - y)
    have h2 := ap_nn a b
    have h3 : (x - y) * (x - y) = 0 := by omega
    have h4 : ap a b = 0 := by omega
    have h5 : x - y = 0 := by
      rcases Int.mul_eq_zero.mp h3 with z | z <;> exact z
    rw [ap_zero (Nat.succ.inj h) h4, show x = y by omega]
def sq (pal : List Col) (c : Col) : List (Int × Int) := List.map (fun p : Int × Col => (ap p.2 c, p.1)) (enumI pal)
theorem mem_enumI {α : Type} {xs : List α} {p : Int × α} (h : p ∈ enumI xs) : 0 ≤ p.1 ∧ xs[p.1.toNat]? = some p.2 := by
  unfold enumI at h
  obtain ⟨q, hq, rfl⟩ := List.mem_map.mp h
  have := List.mem_zipIdx hq
  refine ⟨by omega, ?_⟩
  show xs[((q.2 : Nat) : Int).toNat]? = some q.1
  rw [Int.toNat_natCast]
  have h2 := List.getElem?_eq_getElem (l := xs) (i := q.2) (by omega)
  rw [h2, this.2.2]
  simp
def D (pal : List Col) (c : Col) (j : Int) : Int := ap (pal[j.toNat]?.getD []) c
theorem enumI_eq {α : Type} (d : α) (xs : List α) : enumI xs = (rng 0 xs.length).map fun j => (j, xs[j.toNat]?.getD d) := by
  refine List.ext_getElem? fun i => ?_
  have e1 : (enumI xs)[i]? = (xs.zipIdx.map fun p => ((p.2 : Int), p.1))[i]? := rfl
  rw [e1, List.getElem?_map, List.getElem?_zipIdx, List.getElem?_map]
  unfold rng
  rw [List.getElem?_map]
  by_cases h : i < xs.length
  · have e2 : (List.range ((xs.length : Int) - 0).toNat)[i]? = some i := by
      rw [List.getElem?_range (by omega)]
    rw [e2, List.getElem?_eq_getElem h]
    have e : (0 + (i : Int)).toNat = i := by omega
    show some (((0 + i : Nat) : Int), xs[i]) = some (0 + (i : Int), xs[(0 + (i : Int)).toNat]?.getD d)
    rw [e, List.getElem?_eq_getElem h]
    simp
  · have e2 : (List.range ((xs.length : Int) - 0).toNat)[i]? = none := List.getElem?_eq_none (by rw [List.length_range]; omega)
    rw [e2, List.getElem?_eq_none (by omega)]
    rfl
theorem sq_eq (pal : List Col) (c : Col) : sq pal c = (rng 0 pal.length).map fun j => (D pal c j, j) := by
  unfold sq
  rw [enumI_eq []]
  rw [List.map_map]
  rfl
theorem rng_pw (a b : Int) : (rng a b).Pairwise (· < ·) := by
  unfold rng
  rw [List.pairwise_map]
  exact List.pairwise_lt_range.imp fun h => by omega
def ne (pal : List Col) (c : Col) : Int := ((minL (EncO.lt (dP dI dI)) (sq pal c)).getD (0, 0)).2
theorem FM_map {α β : Type} {c : β → Int} {g : α → β} {l : List α} {m : β} (h : FM c (l.map g) m) : ∃ i, g i = m ∧ FM (fun x => c (g x)) l i := by
  obtain ⟨l1, l2, e, h1, h2⟩ := h
  obtain ⟨k1, k', rfl, e1, e2⟩ := List.map_eq_append_iff.mp e
  obtain ⟨i, k2, rfl, e3, e4⟩ := List.map_eq_cons_iff.mp e2
  refine ⟨i, e3, k1, k2, rfl, fun x hx => ?_, fun x hx => ?_⟩
  · show c (g i) < c (g x)
    rw [e3]
    exact h1 _ (e1 ▸ List.mem_map_of_mem hx)
  · show c (g i) ≤ c (g x)
    rw [e3]
    exact h2 _ (e4 ▸ List.mem_map_of_mem hx)
theorem near {pal : List Col} {c : Col} (hp : pal ≠ []) : minL (EncO.lt (dP dI dI)) (sq pal c) = some (D pal c (ne pal c), ne pal c) ∧ FM (D pal c) (rng 0 pal.length) (ne pal c) := by
  have hq : ∃ x xs, sq pal c = x :: xs := by
    cases e : sq pal c with
    | cons x xs => exact ⟨x, xs, rfl⟩
    | nil =>
      have h := congrArg List.length e
      rw [sq_eq, List.length_map, rng_len] at h
      have : pal.length ≠ 0 := fun z => hp (List.length_eq_zero_iff.mp z)
      have h' : (↑pal.length - 0 : Int).toNat = 0 := h
      omega
  obtain ⟨x, xs, hx⟩ := hq
  have pw : (sq pal c).Pairwise fun p q => p.2 < q.2 := by
    rw [sq_eq, List.pairwise_map]
    exact rng_pw _ _
  obtain ⟨m, h1, h2⟩ := fm_minL (c := Prod.fst) (lt := EncO.lt (dP dI dI)) (x := x) (xs := xs) fun q y r e z hz => by
    rw [hx, e] at pw
    have h3 : z.2 < y.2 := (List.pairwise_append.mp pw).2.2 z hz y List.mem_cons_self
    show ltP ltI ltI y z = _
    unfold ltP ltI
    by_cases e1 : y.1 = z.1
    · rw [if_pos e1]
      simp [e1]
      omega
    · rw [if_neg e1]
  rw [← hx] at h1 h2
  have e : ne pal c = m.2 := by
    unfold ne
    rw [h1]
    rfl
  rw [sq_eq] at h2
  obtain ⟨i, e2, h3⟩ := FM_map h2
  have e3 : m.2 = i := by rw [← e2]
  rw [h1, e, e3]
  exact ⟨by rw [e2], h3⟩
theorem ne_in {pal : List Col} (c : Col) (h0 : pal ≠ []) : 0 ≤ ne pal c ∧ ne pal c < pal.length := by
  have := mem_rng.mp (near (c := c) h0).2.mem
  omega
/-! ### dicts -/
section
variable {κ α : Type} [DecidableEq κ]
theorem dget_app (kvs : List (κ × α)) (k x : κ) (v : α) : dget (kvs ++ [(k, v)]) x = (dget kvs x).or (if k = x then some v else none) := by
  unfold dget
  rw [List.find?_append]
  cases e : kvs.find? fun kv => decide (kv.1 = x) with
  | some p => rfl
  | none =>
    by_cases h : k = x <;> simp [h]
theorem dget_none {kvs : List (κ × α)} {k : κ} (h : dget kvs k = none) : (kvs.any fun kv => decide (kv.1 = k)) = false := by
  unfold dget at h
  rw [Option.map_eq_none_iff, List.find?_eq_none] at h
  rw [List.any_eq_false]
  exact h
theorem dput_new {kvs : List (κ × α)} {k : κ} {v : α} (h : dget kvs k = none) : dput kvs k v = kvs ++ [(k, v)] := by
  unfold dput
  rw [dget_none h]
  rfl
theorem dput_len {kvs : List (κ × α)} {k : κ} {v : α} : (dput kvs k v).length ≤ kvs.length + 1 := by
  unfold dput
  split
  · rw [List.length_map]
    omega
  · rw [List.length_append]
    exact Nat.le_refl _
theorem dput_mem {kvs : List (κ × α)} {k : κ} {v : α} {p : κ × α} (h : p ∈ dput kvs k v) : p ∈ kvs ∨ p = (k, v) := by
  unfold dput at h
  split at h
  · obtain ⟨q, hq, rfl⟩ := List.mem_map.mp h
    by_cases e : q.1 = k
    · rw [if_pos e, e]
      exact .inr rfl
    · rw [if_neg e]
      exact .inl hq
  · rcases List.mem_append.mp h with h | h
    · exact .inl h
    · exact .inr (List.mem_singleton.mp h)
end
abbrev Pic := List (List Col)
def tot (pic : Pic) : Nat := (pic.map List.length).sum
theorem tot_app (a : Pic) (r : List Col) : tot (a ++ [r]) = tot a + r.length := by
  unfold tot
  rw [List.map_append, List.sum_append]
  rfl
theorem tot_split {pic : Pic} {q r : Pic} {x : List Col} (e : pic = q ++ x :: r) : tot q + x.length ≤ tot pic := by
  unfold tot
  rw [e, List.map_append, List.sum_append, List.map_cons, List.sum_cons]
  omega
structure Pal (w : Nat) (pal : List Col) : Prop where
  ok : ∀ a ∈ pal, Good w a
  ne : pal ≠ []
  len : pal.length ≤ 16000000
structure Pict (w : Nat) (pic : Pic) : Prop where
  ok : ∀ r ∈ pic, ∀ c ∈ r, Good w c
  tot : tot pic ≤ 16000000
  len : pic.length ≤ 16000000
def KnownOk (pal : List Col) (kn : List (Col × Int)) : Prop := ∀ k v, dget kn k = some v → v = ne pal k
def lostR (row beside : List Col) : Int := (List.map (fun p : Col × Col => ap p.1 p.2) (List.zip row beside)).sum
def T (pal : List Col) (c : Col) : Col := pal[(ne pal c).toNat]?.getD []
theorem T_mem {w : Nat} {pal : List Col} (hp : Pal w pal) (c : Col) : T pal c ∈ pal := by
  obtain ⟨h1, h2⟩ := ne_in c hp.ne
  unfold T
  rw [List.getElem?_eq_getElem (show (ne pal c).toNat < pal.length by omega)]
  exact List.getElem_mem _
theorem zip_map_self {α β : Type} (g : α → β) : ∀ xs : List α, List.zip xs (xs.map g) = xs.map fun x => (x, g x)
  | [] => rfl
  | x :: xs => by
    rw [List.map_cons, List.zip_cons_cons, zip_map_self g xs]
    rfl
theorem row_len {pic : Pic} (ht : tot pic ≤ 16000000) {r : List Col} (hr : r ∈ pic) : r.length ≤ 16000000 := by
  obtain ⟨a, b, e2⟩ := List.append_of_mem hr
  have := tot_split e2
  omega
def lossR (pal : List Col) (r : List Col) : Int := (r.map fun c => ap c (T pal c)).sum
def loss (pal : List Col) (pic : Pic) : Int := (pic.map (lossR pal)).sum
def wsum (f : Col → Int) (kvs : List (Col × Int)) : Int := (kvs.map fun p => p.2 * f p.1).sum
theorem wsum_app (f : Col → Int) (a : List (Col × Int)) (p : Col × Int) : wsum f (a ++ [p]) = wsum f a + p.2 * f p.1 := by
  unfold wsum
  rw [List.map_append, List.sum_append]
  show _ + (p.2 * f p.1 + 0) = _
  omega
theorem map_off (k : Col) (v : Int) : ∀ kvs : List (Col × Int), k ∉ kvs.map (·.1) → (kvs.map fun kv => if kv.1 = k then (kv.1, v) else kv) = kvs
  | [], _ => rfl
  | p :: kvs, h => by
    rw [List.map_cons, List.mem_cons, not_or] at h
    rw [List.map_cons, if_neg (fun e => h.1 e.symm), map_off k v kvs h.2]
theorem bump {f : Col → Int} {k : Col} : ∀ {kvs : List (Col × Int)}, (kvs.map (·.1)).Nodup → ((dput kvs k ((dget kvs k).getD 0 + 1)).map (·.1)).Nodup ∧ wsum f (dput kvs k ((dget kvs k).getD 0 + 1)) = wsum f kvs + f k := by
  intro kvs hn
  cases e : dget kvs k with
  | none =>
    rw [dput_new e, wsum_app]
    refine ⟨?_, by show _ + (0 + 1) * f k = _; omega⟩
    rw [List.map_append]
    refine List.nodup_append.mpr ⟨hn, List.nodup_cons.mpr ⟨fun h => (nomatch h), List.nodup_nil⟩, fun a ha b hb => ?_⟩
    have hb' : b = k := List.mem_singleton.mp hb
    subst hb'
    rintro rfl
    obtain ⟨p, hp, e2⟩ := List.mem_map.mp ha
    have := dget_none e
    rw [List.any_eq_false] at this
    exact this p hp (decide_eq_true e2)
  | some v =>
    have ha : (kvs.any fun kv => decide (kv.1 = k)) = true := by
      unfold dget at e
      obtain ⟨p, hp, _⟩ := Option.map_eq_some_iff.mp e
      exact List.any_eq_true.mpr ⟨p, List.mem_of_find?_eq_some hp, List.find?_some (p := fun kv : Col × Int => decide (kv.1 = k)) hp⟩
    have hd : dput kvs k (v + 1) = kvs.map fun kv => if kv.1 = k then (kv.1, v + 1) else kv := by
      unfold dput
      rw [if_pos ha]
    show ((dput kvs k (v + 1)).map (·.1)).Nodup ∧ wsum f (dput kvs k (v + 1)) = _
    rw [hd]
    refine ⟨?_, ?_⟩
    · rw [List.map_map]
      have e2 : ((fun x : Col × Int => x.1) ∘ fun kv : Col × Int => if kv.1 = k then (kv.1, v + 1) else kv) = fun x => x.1 := by
        funext kv
        show (if kv.1 = k then (kv.1, v + 1) else kv).1 = kv.1
        split <;> rfl
      rw [e2]
      exact hn
    · clear hd ha
      induction kvs with
      | nil => cases e
      | cons p kvs ih =>
        rw [List.map_cons, List.nodup_cons] at hn
        rw [List.map_cons]
        by_cases h : p.1 = k
        · rw [if_pos h, map_off k _ kvs (h ▸ hn.1)]
          have hv : v = p.2 := by
            have e3 : dget (p :: kvs) k = some p.2 := by
              unfold dget
              rw [List.find?_cons_of_pos (by simpa using h)]
              rfl
            rw [e3] at e
            exact (Option.some.inj e).symm
          show (v + 1) * f p.1 + wsum f kvs = p.2 * f p.1 + wsum f kvs + f k
          rw [hv, h, Int.add_mul, Int.one_mul]
          omega
        · rw [if_neg h]
          have e3 : dget kvs k = some v := by
            unfold dget at e ⊢
            rw [List.find?_cons_of_neg (by simpa using h)] at e
            exact e
          have := ih hn.2 e3
          show p.2 * f p.1 + wsum f (kvs.map _) = p.2 * f p.1 + wsum f kvs + f k
          rw [this]
          omega
def fsum (f : Col → Int) (pic : Pic) : Int := (pic.map fun r => (r.map f).sum).sum
structure Cnt (pic : Pic) (n : Nat) (kvs : List (Col × Int)) : Prop where
  nd : (kvs.map (·.1)).Nodup
  len : kvs.length ≤ n
  val : ∀ p ∈ kvs, 0 ≤ p.2 ∧ p.2 ≤ n
  key : ∀ p ∈ kvs, ∃ r ∈ pic, p.1 ∈ r
  some : 0 < n → kvs ≠ []
theorem dget_mem {kvs : List (Col × Int)} {k : Col} {v : Int} (h : dget kvs k = some v) : (k, v) ∈ kvs := by
  unfold dget at h
  obtain ⟨p, hp, e⟩ := Option.map_eq_some_iff.mp h
  have h1 := List.mem_of_find?_eq_some hp
  have h2 : p.1 = k := of_decide_eq_true (List.find?_some (p := fun kv : Col × Int => decide (kv.1 = k)) hp)
  rw [← h2, ← e]
  exact h1
theorem Cnt.step {pic : Pic} {n : Nat} {kvs : List (Col × Int)} (h : Cnt pic n kvs) {c : Col} (hc : ∃ r ∈ pic, c ∈ r) : Cnt pic (n + 1) (dput kvs c ((dget kvs c).getD 0 + 1)) := by
  refine ⟨(bump (f := fun _ => 0) h.nd).1, Nat.le_trans dput_len (Nat.succ_le_succ h.len), fun p hp => ?_, fun p hp => ?_, fun _ e => ?_⟩
  · rcases dput_mem hp with hp | rfl
    · have := h.val p hp
      omega
    · show 0 ≤ (dget kvs c).getD 0 + 1 ∧ (dget kvs c).getD 0 + 1 ≤ ((n + 1 : Nat) : Int)
      cases e : dget kvs c with
      | none =>
        show 0 ≤ (0 : Int) + 1 ∧ (0 : Int) + 1 ≤ ((n + 1 : Nat) : Int)
        omega
      | some v =>
        have h2 := h.val _ (dget_mem e)
        show 0 ≤ v + 1 ∧ v + 1 ≤ ((n + 1 : Nat) : Int)
        have h3 : 0 ≤ v ∧ v ≤ n := h2
        omega
  · rcases dput_mem hp with hp | rfl
    · exact h.key p hp
    · exact hc
  · unfold dput at e
    split at e
    · have h1 := List.map_eq_nil_iff.mp e
      subst h1
      simp at *
    · simp at e
theorem perm_sum {a b : List Int} (h : a.Perm b) : a.sum = b.sum := by
  induction h with
  | nil => rfl
  | cons x _ ih => rw [List.sum_cons, List.sum_cons, ih]
  | swap x y l =>
    rw [List.sum_cons, List.sum_cons, List.sum_cons, List.sum_cons]
    omega
  | trans _ _ i1 i2 => exact i1.trans i2
def ef (pal : List Col) (c : Col) : Int := ap c (T pal c)
theorem pict1 {w : Nat} {c : Col} (hc : Good w c) : Pict w [[c]] := ⟨fun r hr x hx => by
  rw [List.mem_singleton.mp hr] at hx
  rw [List.mem_singleton.mp hx]
  exact hc, by show 1 + 0 ≤ 16000000; omega, by show 1 ≤ 16000000; omega⟩
theorem T_self {w : Nat} {used : List Col} (hp : Pal w used) {c : Col} (hc : c ∈ used) : T used c = c := by
  have hn := near (pal := used) (c := c) hp.ne
  obtain ⟨i, hi⟩ := List.mem_iff_getElem?.mp hc
  have hl : i < used.length := (List.getElem?_eq_some_iff.mp hi).1
  have h1 := hn.2.le (x := (i : Int)) (mem_rng.mpr ⟨by omega, by omega⟩)
  have e1 : D used c (i : Int) = 0 := by
    unfold D
    rw [Int.toNat_natCast, hi]
    exact ap_self c
  have e2 : D used c (ne used c) = ap (T used c) c := rfl
  have h2 := ap_nn (T used c) c
  rw [e1, e2] at h1
  refine ap_zero ?_ (by omega)
  rw [(hp.ok _ (T_mem hp c)).1, (hp.ok _ hc).1]
def Lk (n : Nat) (left : List Int) : Prop := ∃ a b c : Int, left = [a, b, c] ∧ 0 ≤ c ∧ c ≤ n
theorem Lk.mono {n m : Nat} {l : List Int} (h : Lk n l) (e : n ≤ m) : Lk m l := by
  obtain ⟨a, b, c, h1, h2, h3⟩ := h
  exact ⟨a, b, c, h1, h2, by omega⟩
def Kind (k : Int × Int) : Prop := (1 ≤ k.1 ∧ k.1 ≤ 5) ∧ 1 ≤ k.2 ∧ k.2 ≤ 1000
theorem b2_ix (b : Bool) : 0 ≤ b2 b ∧ b2 b < 2 := by
  cases b <;> decide
theorem tot_le {w : Nat} : ∀ {pic : Pic}, (∀ r ∈ pic, r.length = w) → tot pic = pic.length * w
  | [], _ => by simp [tot]
  | r :: pic, h => by
    have ih := tot_le (pic := pic) fun x hx => h x (List.mem_cons_of_mem _ hx)
    have e : tot (r :: pic) = r.length + tot pic := rfl
    rw [e, ih, h r List.mem_cons_self, List.length_cons, Nat.add_mul]
    omega
/-! ### the least, sorted ones -/
theorem minI_of {xs : List Int} {m : Int} (hm : m ∈ xs) (hl : ∀ x ∈ xs, m ≤ x) : minL ltI xs = some m := by
  cases xs with
  | nil => cases hm
  | cons x xs =>
    obtain ⟨m', h1, h2⟩ := fm_minL (c := id) (lt := ltI) (x := x) (xs := xs) (fun q y r e z hz => rfl)
    rw [h1]
    congr 1
    have a1 : m' ≤ m := h2.le hm
    have a2 : m ≤ m' := hl _ h2.mem
    omega
theorem T_le {pal : List Col} (hp : pal ≠ []) (c : Col) {a : Col} (ha : a ∈ pal) : ap c (T pal c) ≤ ap c a := by
  obtain ⟨i, hi⟩ := List.mem_iff_getElem?.mp ha
  have hl : i < pal.length := (List.getElem?_eq_some_iff.mp hi).1
  have h1 := (near (pal := pal) (c := c) hp).2.le (x := (i : Int)) (mem_rng.mpr ⟨by omega, by omega⟩)
  have e1 : D pal c (i : Int) = ap a c := by
    unfold D
    rw [Int.toNat_natCast, hi]
    rfl
  have e2 : D pal c (ne pal c) = ap (T pal c) c := rfl
  rw [e1, e2, ap_comm a c, ap_comm (T pal c) c] at h1
  exact h1
section
variable {α : Type} {lt : α → α → Bool}
theorem fold_least [T : Tot lt] : ∀ (xs : List α) (x : α), (xs.foldl (fun a y => if lt y a = true then y else a) x) ∈ x :: xs ∧ ∀ y ∈ x :: xs, lt y (xs.foldl (fun a y => if lt y a = true then y else a) x) = false
  | [], x => ⟨List.mem_cons_self, fun y hy => by rw [List.mem_singleton.mp hy]; exact T.irr _⟩
  | y :: xs, x => by
    rw [List.foldl_cons]
    obtain ⟨h1, h2⟩ := fold_least xs (if lt y x = true then y else x)
    by_cases h : lt y x = true
    · rw [if_pos h] at h1 h2 ⊢
      refine ⟨List.mem_cons_of_mem _ h1, fun z hz => ?_⟩
      rcases List.mem_cons.mp hz with rfl | hz
      · exact T.ntr (h2 y List.mem_cons_self) (T.asym h)
      · exact h2 z hz
    · rw [if_neg h] at h1 h2 ⊢
      refine ⟨?_, fun z hz => ?_⟩
      · rcases List.mem_cons.mp h1 with e | h1
        · rw [e]; exact List.mem_cons_self
        · exact List.mem_cons_of_mem _ (List.mem_cons_of_mem _ h1)
      · rcases List.mem_cons.mp hz with rfl | hz
        · exact h2 z List.mem_cons_self
        · rcases List.mem_cons.mp hz with rfl | hz
          · exact T.ntr (h2 x List.mem_cons_self) (by simpa using h)
          · exact h2 z (List.mem_cons_of_mem _ hz)
theorem srt_nil : srt lt ([] : List α) = [] := List.mergeSort_nil
theorem minL_head [T : Tot lt] (xs : List α) : minL lt xs = (srt lt xs).head? := by
  cases xs with
  | nil =>
    unfold srt
    rw [List.mergeSort_nil]
    rfl
  | cons x xs =>
    obtain ⟨h1, h2⟩ := fold_least (lt := lt) xs x
    have pw := srt_pw (lt := lt) (x :: xs)
    have pm := srt_perm (lt := lt) (x :: xs)
    show some (xs.foldl (fun a y => if lt y a = true then y else a) x) = _
    generalize (xs.foldl (fun a y => if lt y a = true then y else a) x) = r at h1 h2
    cases e : srt lt (x :: xs) with
    | nil =>
      rw [e] at pm
      have := pm.length_eq
      cases this
    | cons h t =>
      rw [e] at pm pw
      have m1 : h ∈ x :: xs := pm.mem_iff.mp List.mem_cons_self
      have m2 : r ∈ h :: t := pm.mem_iff.mpr h1
      have l1 : lt r h = false := by
        rcases List.mem_cons.mp m2 with e | m2
        · rw [e]; exact T.irr _
        · exact (List.pairwise_cons.mp pw).1 r m2
      exact congrArg some (T.tri r h l1 (h2 h m1))
theorem mapS_const {S β : Type} {step : S → α → Option (β × S)} {s : S} {b : β} : ∀ {xs : List α}, (∀ x ∈ xs, step s x = some (b, s)) → mapS step s xs = some (xs.map fun _ => b, s)
  | [], _ => rfl
  | x :: xs, h => by
    show (step s x).bind _ = _
    rw [h x List.mem_cons_self]
    show (mapS step s xs).bind _ = _
    rw [mapS_const fun y hy => h y (List.mem_cons_of_mem _ hy)]
    rfl
end
section
variable {κ α : Type} [DecidableEq κ]
theorem dget_of_mem : ∀ {kvs : List (κ × α)} {p : κ × α}, (kvs.map (·.1)).Nodup → p ∈ kvs → dget kvs p.1 = some p.2
  | q :: kvs, p, hn, hp => by
    rw [List.map_cons, List.nodup_cons] at hn
    unfold dget
    rcases List.mem_cons.mp hp with rfl | hp
    · rw [List.find?_cons_of_pos (by simp)]
      rfl
    · have hne : q.1 ≠ p.1 := fun e => hn.1 (e ▸ List.mem_map_of_mem hp)
      rw [List.find?_cons_of_neg (by simpa using hne)]
      exact dget_of_mem hn.2 hp
theorem dget_memG {kvs : List (κ × α)} {k : κ} {v : α} (h : dget kvs k = some v) : (k, v) ∈ kvs := by
  unfold dget at h
  obtain ⟨p, hp, e⟩ := Option.map_eq_some_iff.mp h
  have h1 := List.mem_of_find?_eq_some hp
  have h2 : p.1 = k := of_decide_eq_true (List.find?_some (p := fun kv : κ × α => decide (kv.1 = k)) hp)
  rw [← h2, ← e]
  exact h1
theorem dget_not {kvs : List (κ × α)} {k : κ} (h : ∀ p ∈ kvs, p.1 ≠ k) : dget kvs k = none := by
  cases e : dget kvs k with
  | none => rfl
  | some v => exact absurd rfl (h _ (dget_memG e))
theorem dget_key {kvs : List (κ × α)} {k : κ} (h : dget kvs k = none) : k ∉ kvs.map (·.1) := fun hk => by
  obtain ⟨p, hp, e⟩ := List.mem_map.mp hk
  have := dget_none h
  rw [List.any_eq_false] at this
  exact this p hp (decide_eq_true e)
theorem dget_drop (kvs : List (κ × α)) (k : κ) : dget (ddrop kvs k) k = none := dget_not fun p hp => by
  unfold ddrop at hp
  have := (List.mem_filter.mp hp).2
  simpa using this
theorem mem_drop {kvs : List (κ × α)} {k : κ} {p : κ × α} (h : p ∈ ddrop kvs k) : p ∈ kvs := (List.mem_filter.mp h).1
theorem drop_len (kvs : List (κ × α)) (k : κ) : (ddrop kvs k).length ≤ kvs.length := List.length_filter_le _ _
theorem drop_nd {kvs : List (κ × α)} {k : κ} (h : (kvs.map (·.1)).Nodup) : ((ddrop kvs k).map (·.1)).Nodup := h.sublist ((List.filter_sublist).map _)
theorem new_nd {kvs : List (κ × α)} {k : κ} {v : α} (h : (kvs.map (·.1)).Nodup) (hk : dget kvs k = none) : ((kvs ++ [(k, v)]).map (·.1)).Nodup := by
  rw [List.map_append]
  refine List.nodup_append.mpr ⟨h, List.nodup_cons.mpr ⟨fun h => (nomatch h), List.nodup_nil⟩, fun a ha b hb => ?_⟩
  have hb' : b = k := List.mem_singleton.mp hb
  subst hb'
  rintro rfl
  exact dget_key hk ha
theorem dget_new {kvs : List (κ × α)} {k : κ} {v : α} (hk : dget kvs k = none) : dget (dput kvs k v) k = some v := by
  rw [dput_new hk, dget_app, hk, if_pos rfl]
  rfl
end
/-! ### alike -/
theorem sam_eq {n : Nat} {d : PyData} (h : SamOk n d) : samG (n + 1) d d = some true := by
  unfold samG
  rw [if_pos ⟨rfl, h, Nat.succ_pos n⟩]
theorem sam_none (n : Nat) : SamOk n .none := by cases n <;> exact True.intro
theorem sam_bool (n : Nat) (b : Bool) : SamOk n (.bool b) := by cases n <;> exact True.intro
theorem sam_int (n : Nat) (i : Int) : SamOk n (.int i) := by cases n <;> exact True.intro
theorem sam_str (n : Nat) (x : Str) : SamOk n (.str x) := by cases n <;> exact True.intro
theorem sam_list {n : Nat} {xs : List PyData} (h : xs.length ≤ 16000000) (hx : ∀ x ∈ xs, SamOk n x) : SamOk (n + 1) (.list xs) := ⟨h, hx⟩
theorem sam_tup {n : Nat} {xs : List PyData} (h : xs.length ≤ 16000000) (hx : ∀ x ∈ xs, SamOk n x) : SamOk (n + 1) (.tuple xs) := ⟨h, hx⟩
theorem sam_dL {α : Type} {f : α → PyData} {n : Nat} {xs : List α} (h : xs.length ≤ 16000000) (hx : ∀ x ∈ xs, SamOk n (f x)) : SamOk (n + 1) (dL f xs) := sam_list (by rw [List.length_map]; exact h) fun x hx' => by
  obtain ⟨y, hy, rfl⟩ := List.mem_map.mp hx'
  exact hx y hy
theorem sam_dU {α : Type} {f : α → PyData} {n : Nat} {xs : List α} (h : xs.length ≤ 16000000) (hx : ∀ x ∈ xs, SamOk n (f x)) : SamOk (n + 1) (dU f xs) := sam_tup (by rw [List.length_map]; exact h) fun x hx' => by
  obtain ⟨y, hy, rfl⟩ := List.mem_map.mp hx'
  exact hx y hy
theorem sam_dP {α β : Type} {f : α → PyData} {g : β → PyData} {n : Nat} {p : α × β} (h1 : SamOk n (f p.1)) (h2 : SamOk n (g p.2)) : SamOk (n + 1) (dP f g p) := sam_tup (show 2 ≤ 16000000 by omega) fun x hx => by
  rcases List.mem_cons.mp hx with rfl | hx
  · exact h1
  · rw [List.mem_singleton.mp hx]
    exact h2
theorem sam_dO {α : Type} {f : α → PyData} {n : Nat} {o : Option α} (h : ∀ x, o = some x → SamOk n (f x)) : SamOk n (dO f o) := by
  cases o with
  | none => exact sam_none n
  | some x => exact h x rfl
theorem sam_pal {n w : Nat} {pal : List Col} (hw : w ≤ 16000000) (h : Pal w pal) : SamOk (n + 2) (dL (dU dI) pal) := sam_dL h.len fun c hc => sam_dU (by rw [(h.ok c hc).1]; exact hw) fun i _ => sam_int n i
end FC
set_option maxHeartbeats 400000
/-! FM: masks, the least costs by how many are left. Plain Lean. -/
namespace FC
open PySem PySem.Spec PyProof.Rows L2 Evl
theorem filO_of {α β : Type} {test : α → Option Bool} {step : α → Option β} {t : α → Bool} {g : α → β} : ∀ {xs : List α}, (∀ x ∈ xs, test x = some (t x)) → (∀ x ∈ xs, t x = true → step x = some (g x)) → filO test step xs = some ((xs.filter t).map g)
  | [], _, _ => rfl
  | x :: xs, h1, h2 => by
    show (test x).bind _ = _
    rw [h1 x List.mem_cons_self]
    show cond (t x) _ _ = _
    have ih := filO_of (test := test) (step := step) (t := t) (g := g) (xs := xs) (fun y hy => h1 y (List.mem_cons_of_mem _ hy)) fun y hy => h2 y (List.mem_cons_of_mem _ hy)
    cases e : t x with
    | true =>
      show (step x).bind _ = _
      rw [h2 x List.mem_cons_self e]
      show (filO test step xs).bind _ = _
      rw [ih, List.filter_cons_of_pos e]
      rfl
    | false =>
      show filO test step xs = _
      rw [ih, List.filter_cons_of_neg (by rw [e]; decide)]
def bits (m k : Nat) : Nat := ((List.range m).filter fun j => k.testBit j).length
theorem bits_succ (m k : Nat) : bits (m + 1) k = k % 2 + bits m (k / 2) := by
  unfold bits
  rw [List.range_succ_eq_map, List.filter_cons]
  have e2 : (((List.range m).map Nat.succ).filter fun j => k.testBit j).length = ((List.range m).filter fun j => (k / 2).testBit j).length := by
    rw [List.filter_map, List.length_map]
    congr 1
    refine List.filter_congr fun j _ => ?_
    exact Nat.testBit_succ k j
  have e0 : k.testBit 0 = decide (k % 2 = 1) := by rw [Nat.testBit_eq_decide_div_mod_eq, Nat.pow_zero, Nat.div_one]
  rw [e0]
  by_cases h : k % 2 = 1
  · rw [if_pos (decide_eq_true h), List.length_cons, e2]
    omega
  · rw [if_neg (by simpa using h), e2]
    omega
theorem bits_le (m k : Nat) : bits m k ≤ m := by
  unfold bits
  have := List.length_filter_le (fun j => k.testBit j) (List.range m)
  rw [List.length_range] at this
  exact this
theorem bits_zero : ∀ m : Nat, bits m 0 = 0 := fun m => by
  unfold bits
  rw [List.length_eq_zero_iff, List.filter_eq_nil_iff]
  intro j _
  rw [Nat.zero_testBit]
  decide
theorem bit_and {k : Nat} {j : Nat} : Builtin.bitAnd ((k : Int) / 2 ^ j) 1 = if k.testBit j = true then 1 else 0 := by
  have h := Bits.bitAnd_mask (x := (k : Int) / 2 ^ j) 1 (Int.ediv_nonneg (by omega) (by exact Int.le_of_lt (Int.pow_pos (by decide))))
  have e1 : (2 : Int) ^ 1 - 1 = 1 := by decide
  rw [e1] at h
  rw [h]
  have e2 : (k : Int) / 2 ^ j = ((k / 2 ^ j : Nat) : Int) := by
    rw [Int.natCast_ediv, Int.natCast_pow]
    rfl
  rw [e2, Nat.testBit_eq_decide_div_mod_eq]
  by_cases hk : k / 2 ^ j % 2 = 1
  · rw [if_pos (decide_eq_true hk)]
    omega
  · rw [if_neg (by simpa using hk)]
    omega
theorem bit_or (k j : Nat) : Builtin.bitOr (k : Int) (1 * 2 ^ j) = ((k ||| 2 ^ j : Nat) : Int) := by
  have e : (1 : Int) * 2 ^ j = ((2 ^ j : Nat) : Int) := by rw [Int.one_mul, Int.natCast_pow]; rfl
  rw [e, Bits.bitOr_pp (Int.natCast_nonneg _) (Int.natCast_nonneg _), Int.toNat_natCast, Int.toNat_natCast]
theorem shl_one (m : Nat) (h : m ≤ 1000) : shlG 1 (m : Int) = some ((2 ^ m : Nat) : Int) := by
  unfold shlG
  rw [if_pos ⟨by omega, by omega, by decide⟩]
  congr 1
  rw [Int.one_mul, Int.toNat_natCast, Int.natCast_pow]
  rfl
theorem shl_j {j : Int} (h0 : 0 ≤ j) (h : j ≤ 1000) : shlG 1 j = some (1 * 2 ^ j.toNat) := by
  unfold shlG
  rw [if_pos ⟨h0, by omega, by decide⟩]
theorem shr_j {i j : Int} (h0 : 0 ≤ j) : shrG i j = some (i / 2 ^ j.toNat) := by
  unfold shrG
  rw [if_pos h0]
theorem pow_le20 {m : Nat} (h : m ≤ 20) : 2 ^ m ≤ 1048576 := Nat.le_trans (Nat.pow_le_pow_right (by omega) h) (by decide)
/-! ### the costs -/
def frees (m k : Nat) : List Int := (rng 0 m).filter fun j => !k.testBit j.toNat
theorem mem_frees {m k : Nat} {j : Int} : j ∈ frees m k ↔ (0 ≤ j ∧ j < m) ∧ k.testBit j.toNat = false := by
  unfold frees
  rw [List.mem_filter, mem_rng, Bool.not_eq_true']
theorem frees_len (m k : Nat) : (frees m k).length ≤ m := by
  unfold frees
  have := List.length_filter_le (fun j : Int => !k.testBit j.toNat) (rng 0 m)
  rw [rng_len] at this
  omega
theorem or_lt {m k : Nat} {j : Int} (hk : k < 2 ^ m) (hj : j < m) (h0 : 0 ≤ j) : k ||| 2 ^ j.toNat < 2 ^ m := Nat.or_lt_two_pow hk (Nat.pow_lt_pow_right (by omega) (by omega))
theorem bits_rng (m k : Nat) : ((rng 0 m).filter fun j => k.testBit j.toNat).length = bits m k := by
  unfold rng bits
  rw [List.filter_map, List.length_map]
  have e : ((m : Int) - 0).toNat = m := by omega
  rw [e]
  congr 1
  refine List.filter_congr fun j _ => ?_
  show k.testBit (0 + (j : Int)).toNat = k.testBit j
  congr 1
  omega
def leastOf (l : List Int) : Int := (minL ltI l).getD 0
theorem min_leastOf {l : List Int} (h : l ≠ []) : minL ltI l = some (leastOf l) := by
  cases l with
  | nil => exact absurd rfl h
  | cons x xs => rfl
def opts (row : List Int) (beh : Nat → Int) (price : Int) (m k : Nat) : List Int := (frees m k).map (fun j => (row[j.toNat]?.getD 0) + beh (k ||| 2 ^ j.toNat)) ++ [price + beh k]
theorem opts_ne (row : List Int) (beh : Nat → Int) (price : Int) (m k : Nat) : opts row beh price m k ≠ [] := by
  unfold opts
  simp
/-- the least cost of what is left: the rows of squares, the mask of what is taken -/
def V (price : Int) (m : Nat) : List (List Int) → Nat → Int
  | [], k => price * ((m : Int) - (bits m k : Int))
  | row :: rest, k => leastOf (opts row (V price m rest) price m k)
def tabR (m : Nat) (f : Nat → Int) : List Int := (List.range (2 ^ m)).map f
theorem tab_len (m : Nat) (f : Nat → Int) : (tabR m f).length = 2 ^ m := by
  unfold tabR
  rw [List.length_map, List.length_range]
theorem tab_get {m k : Nat} (f : Nat → Int) (h : k < 2 ^ m) : getI (tabR m f) (k : Int) = some (f k) := by
  refine getI_nat (by omega) ?_
  unfold tabR
  rw [Int.toNat_natCast, List.getElem?_map, List.getElem?_range h]
  rfl
def tabs (price : Int) (m : Nat) : List (List Int) → List (List Int)
  | [] => [tabR m (V price m [])]
  | row :: rest => tabR m (V price m (row :: rest)) :: tabs price m rest
theorem tabs_head (price : Int) (m : Nat) (sqs : List (List Int)) : ∃ t, tabs price m sqs = tabR m (V price m sqs) :: t := by
  cases sqs with
  | nil => exact ⟨[], rfl⟩
  | cons r rest => exact ⟨_, rfl⟩
theorem tabs_len (price : Int) (m : Nat) : ∀ sqs : List (List Int), (tabs price m sqs).length = sqs.length + 1
  | [] => rfl
  | r :: rest => by
    show (tabs price m rest).length + 1 = _
    rw [tabs_len price m rest]
    rfl
theorem tabs_at (price : Int) (m : Nat) : ∀ (sqs : List (List Int)) (i : Nat), i ≤ sqs.length → (tabs price m sqs)[i]? = some (tabR m (V price m (sqs.drop i)))
  | sqs, 0, _ => by
    obtain ⟨t, e⟩ := tabs_head price m sqs
    rw [e]
    rfl
  | [], i + 1, h => by simp at h
  | r :: rest, i + 1, h => by
    show (tabs price m rest)[i]? = _
    rw [tabs_at price m rest i (by simpa using h)]
    rfl
def sqsOf (one other : List Col) : List (List Int) := one.map fun c => other.map fun d => ap c d
theorem sqs_at {one other : List Col} {i : Int} (h0 : 0 ≤ i) (h1 : i < one.length) : ∃ row, getI (sqsOf one other) i = some row ∧ (sqsOf one other)[i.toNat]? = some row ∧ row.length = other.length := by
  have hl : i.toNat < one.length := by omega
  refine ⟨other.map fun d => ap (one[i.toNat]) d, ?_, ?_, List.length_map _⟩
  · refine getI_nat h0 ?_
    unfold sqsOf
    rw [List.getElem?_map, List.getElem?_eq_getElem hl]
    rfl
  · unfold sqsOf
    rw [List.getElem?_map, List.getElem?_eq_getElem hl]
    rfl
theorem get_row {row : List Int} {j : Int} (h0 : 0 ≤ j) (h1 : j < row.length) : getI row j = some (row[j.toNat]?.getD 0) := by
  have hl : j.toNat < row.length := by omega
  rw [getI_nat h0 (List.getElem?_eq_getElem hl), List.getElem?_eq_getElem hl]
  rfl
/-- the first partner, the first pairs -/
def partV (price : Int) (m : Nat) (row : List Int) (rest : List (List Int)) (k : Nat) : Option Int := (frees m k).find? fun j => decide ((row[j.toNat]?.getD 0) + V price m rest (k ||| 2 ^ j.toNat) = V price m (row :: rest) k)
def firstP (price : Int) (m : Nat) : List (List Int) → Int → Nat → List (Int × Int)
  | [], _, _ => []
  | row :: rest, i, k => if price * (((rest.length : Int) + 1 + m) - bits m k) = V price m (row :: rest) k then [] else
    match partV price m row rest k with
    | none => firstP price m rest (i + 1) k
    | some j => (i, j) :: firstP price m rest (i + 1) (k ||| 2 ^ j.toNat)
theorem forC_find {S R α : Type} {step : S → α → Option (Ctl S R)} {s : S} {t : α → Bool} {r : α → R} : ∀ {xs : List α}, (∀ x ∈ xs, step s x = some (cond (t x) (Ctl.rt (r x)) (Ctl.nx s))) → forC step s xs = some (match xs.find? t with | none => Ctl.nx s | some x => Ctl.rt (r x))
  | [], _ => rfl
  | x :: xs, h => by
    show (step s x).bind _ = _
    rw [h x List.mem_cons_self]
    rw [List.find?_cons]
    cases e : t x with
    | true => rfl
    | false =>
      show forC step s xs = _
      exact forC_find fun y hy => h y (List.mem_cons_of_mem _ hy)
theorem rng_nat (m : Nat) : rng 0 ((2 ^ m : Nat) : Int) = (List.range (2 ^ m)).map fun (i : Nat) => (i : Int) := by
  unfold rng
  have e : (((2 ^ m : Nat) : Int) - 0).toNat = 2 ^ m := by rw [Int.sub_zero, Int.toNat_natCast]
  rw [e]
  refine List.map_congr_left fun i _ => ?_
  omega
theorem rng_cons {a b : Int} (h : a < b) : rng a b = a :: rng (a + 1) b := by
  unfold rng
  have e : (b - a).toNat = (b - (a + 1)).toNat + 1 := by omega
  rw [e, List.range_succ_eq_map, List.map_cons, List.map_map]
  congr 1
  · omega
  · refine List.map_congr_left fun i _ => ?_
    show a + ((i + 1 : Nat) : Int) = a + 1 + (i : Int)
    omega
theorem rng_nil {a b : Int} (h : b ≤ a) : rng a b = [] := by
  unfold rng
  have e : (b - a).toNat = 0 := by omega
  rw [e]
  rfl
theorem rng_snoc {a b : Int} (h : a ≤ b) : rng a (b + 1) = rng a b ++ [b] := by
  unfold rng
  have e : (b + 1 - a).toNat = (b - a).toNat + 1 := by omega
  rw [e, List.range_succ, List.map_append]
  congr 1
  show [a + (((b - a).toNat : Nat) : Int)] = [b]
  congr 1
  omega
theorem fdiv_two (k : Int) : fdivG k 2 = some (k / 2) := by
  unfold fdivG
  rw [if_pos (.inr ⟨by decide, by decide⟩)]
theorem mod_two (k : Int) : modG k 2 = some (k % 2) := by
  unfold modG
  rw [if_pos (by decide)]
theorem whiF_step {S : Type} {cond : S → Option Bool} {step : S → Option S} {n : Nat} {s s' : S} (hc : cond s = some true) (hs : step s = some s') : whiF cond step (n + 1) s = whiF cond step n s' := by
  show (cond s).bind _ = _
  rw [hc]
  show (step s).bind _ = _
  rw [hs]
  rfl
theorem whiF_stop {S : Type} {cond : S → Option Bool} {step : S → Option S} {n : Nat} {s : S} (hc : cond s = some false) : whiF cond step (n + 1) s = some s := by
  show (cond s).bind _ = _
  rw [hc]
  rfl
/-- the loop that makes the first pairs -/
def fpCtl (price : Int) (m : Nat) (sqs : List (List Int)) (i k : Nat) (acc : List (Int × Int)) (row : List Int) : Ctl (Int × List (Int × Int)) (List (Int × Int)) :=
  if price * (((sqs.length : Int) - i + m) - bits m k) = V price m (row :: sqs.drop (i + 1)) k then .rt acc else
    match partV price m row (sqs.drop (i + 1)) k with
    | none => .nx ((k : Int), acc)
    | some j => .nx (((k ||| 2 ^ j.toNat : Nat) : Int), acc ++ [((i : Int), j)])
theorem fp_loop {m : Nat} {price : Int} {sqs : List (List Int)} {step : Int × List (Int × Int) → Int → Option (Ctl (Int × List (Int × Int)) (List (Int × Int)))}
    (hs : ∀ (i k : Nat) (acc : List (Int × Int)) (row : List Int), i < sqs.length → sqs[i]? = some row → k < 2 ^ m → acc.length ≤ i → step ((k : Int), acc) (i : Int) = some (fpCtl price m sqs i k acc row)) :
    ∀ (d i : Nat) (k : Nat) (acc : List (Int × Int)), i + d = sqs.length → k < 2 ^ m → acc.length ≤ i → Ok (forC step ((k : Int), acc) (rng (i : Int) (sqs.length : Int))) fun c => (match c with | .nx s => s.2 | .bk s => [] | .rt r => r) = acc ++ firstP price m (sqs.drop i) (i : Int) k ∧ ∀ s, c ≠ .bk s
  | 0, i, k, acc, hi, hk, ha => by
    rw [rng_nil (by omega), List.drop_of_length_le (by omega)]
    exact Ok.mk ⟨by show acc = acc ++ []; rw [List.append_nil], fun s e => nomatch e⟩
  | d + 1, i, k, acc, hi, hk, ha => by
    have hlt : i < sqs.length := by omega
    have h1 := hs i k acc sqs[i] hlt (List.getElem?_eq_getElem hlt) hk ha
    rw [rng_cons (by omega), List.drop_eq_getElem_cons hlt]
    have hdl : (sqs.drop (i + 1)).length = d := by rw [List.length_drop]; omega
    have ef : firstP price m (sqs[i] :: sqs.drop (i + 1)) (i : Int) k = if price * ((((sqs.drop (i + 1)).length : Int) + 1 + m) - bits m k) = V price m (sqs[i] :: sqs.drop (i + 1)) k then [] else
        match partV price m sqs[i] (sqs.drop (i + 1)) k with
        | none => firstP price m (sqs.drop (i + 1)) ((i : Int) + 1) k
        | some j => ((i : Int), j) :: firstP price m (sqs.drop (i + 1)) ((i : Int) + 1) (k ||| 2 ^ j.toNat) := rfl
    have en : (sqs.length : Int) - i + m - bits m k = ((sqs.drop (i + 1)).length : Int) + 1 + m - bits m k := by rw [hdl]; omega
    have ei : ((i : Int) + 1) = ((i + 1 : Nat) : Int) := by omega
    refine Ok.of h1 ?_
    unfold fpCtl
    rw [ef, en]
    by_cases hc : price * ((((sqs.drop (i + 1)).length : Int) + 1 + m) - bits m k) = V price m (sqs[i] :: sqs.drop (i + 1)) k
    · rw [if_pos hc, if_pos hc]
      exact Ok.mk ⟨(List.append_nil acc).symm, fun s e => nomatch e⟩
    · rw [if_neg hc, if_neg hc]
      cases hp : partV price m sqs[i] (sqs.drop (i + 1)) k with
      | none =>
        show Ok (forC step ((k : Int), acc) (rng ((i : Int) + 1) (sqs.length : Int))) _
        rw [ei]
        exact fp_loop hs d (i + 1) k acc (by omega) hk (by omega)
      | some j =>
        have hj := mem_frees.mp (List.mem_of_find?_eq_some hp)
        show Ok (forC step (((k ||| 2 ^ j.toNat : Nat) : Int), acc ++ [((i : Int), j)]) (rng ((i : Int) + 1) (sqs.length : Int))) _
        rw [ei]
        refine (fp_loop hs d (i + 1) (k ||| 2 ^ j.toNat) (acc ++ [((i : Int), j)]) (by omega) (or_lt hk hj.1.2 hj.1.1) (by rw [List.length_append]; show acc.length + 1 ≤ _; omega)).mono fun r hr => ?_
        rw [hr.1, List.append_assoc]
        exact ⟨rfl, hr.2⟩
theorem get_last {α : Type} (xs : List α) (x : α) : getI (xs ++ [x]) (-1) = some x := by
  unfold getI atI ixN
  rw [if_neg (by decide), if_pos (by rw [List.length_append, List.length_singleton]; omega), List.length_append, List.length_singleton]
  show (xs ++ [x])[((-1 : Int) + ((xs.length + 1 : Nat) : Int)).toNat]? = some x
  have e : ((-1 : Int) + ((xs.length + 1 : Nat) : Int)).toNat = xs.length := by omega
  rw [e, List.getElem?_append_right (Nat.le_refl _), Nat.sub_self]
  rfl
theorem dget_drop_ne {κ α : Type} [DecidableEq κ] {kvs : List (κ × α)} {k x : κ} (h : x ≠ k) : dget (ddrop kvs k) x = dget kvs x := by
  unfold dget ddrop
  congr 1
  induction kvs with
  | nil => rfl
  | cons p kvs ih =>
    rw [List.filter_cons]
    by_cases e : p.1 = k
    · rw [if_neg (by simpa using e), List.find?_cons_of_neg (by simp; rintro rfl; exact h e), ih]
    · rw [if_pos (by simpa using e)]
      by_cases e2 : p.1 = x
      · rw [List.find?_cons_of_pos (by simpa using e2), List.find?_cons_of_pos (by simpa using e2)]
      · rw [List.find?_cons_of_neg (by simpa using e2), List.find?_cons_of_neg (by simpa using e2), ih]
theorem cutI_sub {α : Type} (xs : List α) (lo hi : Option Int) : (cutI xs lo hi).Sublist xs := (List.take_sublist _ _).trans (List.drop_sublist _ _)
end FC
set_option maxHeartbeats 400000
/-! FQ: fractions: sums, what groups lose, bounds. Plain Lean. -/
namespace FQ
/-! ### sums -/
section
variable {α β : Type}
def Sm (f : α → Rat) (l : List α) : Rat := (l.map f).sum
theorem Sm_nil (f : α → Rat) : Sm f [] = 0 := rfl
theorem Sm_cons (f : α → Rat) (x : α) (l : List α) : Sm f (x :: l) = f x + Sm f l := rfl
theorem Sm_app (f : α → Rat) : ∀ a b : List α, Sm f (a ++ b) = Sm f a + Sm f b
  | [], b => by rw [List.nil_append, Sm_nil, Rat.zero_add]
  | x :: a, b => by rw [List.cons_append, Sm_cons, Sm_cons, Sm_app f a b, Rat.add_assoc]
theorem Sm_add (f g : α → Rat) : ∀ l : List α, Sm (fun x => f x + g x) l = Sm f l + Sm g l
  | [] => by rw [Sm_nil, Sm_nil, Sm_nil, Rat.add_zero]
  | x :: l => by
    rw [Sm_cons, Sm_cons, Sm_cons, Sm_add f g l]
    grind
theorem Sm_mul (c : Rat) (f : α → Rat) : ∀ l : List α, Sm (fun x => c * f x) l = c * Sm f l
  | [] => by simp [Sm_nil]
  | x :: l => by
    rw [Sm_cons, Sm_cons, Sm_mul c f l]
    grind
theorem Sm_zero : ∀ l : List α, Sm (fun _ => 0) l = 0
  | [] => rfl
  | x :: l => by
    rw [Sm_cons, Sm_zero l]
    exact Rat.add_zero 0
theorem Sm_congr {f g : α → Rat} : ∀ {l : List α}, (∀ x ∈ l, f x = g x) → Sm f l = Sm g l
  | [], _ => rfl
  | x :: l, h => by rw [Sm_cons, Sm_cons, h x List.mem_cons_self, Sm_congr fun y hy => h y (List.mem_cons_of_mem _ hy)]
theorem Sm_swap (f : α → β → Rat) (b : List β) : ∀ a : List α, Sm (fun x => Sm (fun y => f x y) b) a = Sm (fun y => Sm (fun x => f x y) a) b
  | [] => by
    rw [Sm_nil]
    exact (Sm_zero b).symm
  | x :: a => by
    rw [Sm_cons, Sm_swap f b a, ← Sm_add]
    rfl
theorem Sm_le {f g : α → Rat} : ∀ {l : List α}, (∀ x ∈ l, f x ≤ g x) → Sm f l ≤ Sm g l
  | [], _ => Rat.le_refl
  | x :: l, h => by
    rw [Sm_cons, Sm_cons]
    have h1 := h x List.mem_cons_self
    have h2 := Sm_le (l := l) fun y hy => h y (List.mem_cons_of_mem _ hy)
    grind
theorem Sm_lt {f g : α → Rat} : ∀ {l : List α}, (∀ x ∈ l, f x ≤ g x) → (∃ x ∈ l, f x < g x) → Sm f l < Sm g l
  | [], _, h => by obtain ⟨x, hx, _⟩ := h; cases hx
  | x :: l, h, ⟨y, hy, hlt⟩ => by
    rw [Sm_cons, Sm_cons]
    have h1 := h x List.mem_cons_self
    have h2 := Sm_le (l := l) fun y hy => h y (List.mem_cons_of_mem _ hy)
    rcases List.mem_cons.mp hy with e | hy
    · subst e
      grind
    · have h3 := Sm_lt (l := l) (fun y hy => h y (List.mem_cons_of_mem _ hy)) ⟨y, hy, hlt⟩
      grind
theorem Sm_nn {f : α → Rat} {l : List α} (h : ∀ x ∈ l, 0 ≤ f x) : 0 ≤ Sm f l := by
  rw [← Sm_zero l]
  exact Sm_le h
theorem Sm_pos {f : α → Rat} {l : List α} (h : ∀ x ∈ l, 0 ≤ f x) (hx : ∃ x ∈ l, 0 < f x) : 0 < Sm f l := by
  rw [← Sm_zero l]
  exact Sm_lt h hx
theorem Sm_perm {f : α → Rat} {a b : List α} (h : a.Perm b) : Sm f a = Sm f b := by
  induction h with
  | nil => rfl
  | cons x _ ih => rw [Sm_cons, Sm_cons, ih]
  | swap x y l =>
    rw [Sm_cons, Sm_cons, Sm_cons, Sm_cons]
    grind
  | trans _ _ i1 i2 => exact i1.trans i2
theorem Sm_map (f : β → Rat) (g : α → β) (l : List α) : Sm f (l.map g) = Sm (fun x => f (g x)) l := by
  unfold Sm
  rw [List.map_map]
  rfl
theorem sq_nn (x : Rat) : 0 ≤ x * x := by
  rcases Rat.le_total (a := 0) (b := x) with h | h
  · exact Rat.mul_nonneg h h
  · have h2 : 0 ≤ -x := by grind
    have := Rat.mul_nonneg h2 h2
    grind
theorem sq_pos {x : Rat} (h : x ≠ 0) : 0 < x * x := by
  have h1 := sq_nn x
  refine Rat.lt_of_le_of_ne h1 fun e => ?_
  rcases Rat.mul_eq_zero.mp e.symm with z | z <;> exact h z
end
/-! ### what a group loses -/
abbrev Row := List Int × Int
def co (c : List Int) (p : Nat) : Int := c[p]?.getD 0
def W (s : List Row) : Rat := Sm (fun r => (r.2 : Rat)) s
def S1 (s : List Row) (p : Nat) : Rat := Sm (fun r => (r.2 : Rat) * (co r.1 p : Rat)) s
def S2 (s : List Row) (p : Nat) : Rat := Sm (fun r => (r.2 : Rat) * ((co r.1 p : Rat) * (co r.1 p : Rat))) s
def mn (s : List Row) (p : Nat) : Rat := S1 s p / W s
def fa (w : Nat) (c : List Int) (v : Nat → Rat) : Rat := Sm (fun p => ((co c p : Rat) - v p) * ((co c p : Rat) - v p)) (List.range w)
def lo (w : Nat) (s : List Row) (v : Nat → Rat) : Rat := Sm (fun r => (r.2 : Rat) * fa w r.1 v) s
def sp (w : Nat) (s : List Row) : Rat := Sm (fun p => S2 s p - S1 s p * S1 s p / W s) (List.range w)
theorem lo_cols (w : Nat) (s : List Row) (v : Nat → Rat) : lo w s v = Sm (fun p => S2 s p - 2 * v p * S1 s p + v p * v p * W s) (List.range w) := by
  have e1 : lo w s v = Sm (fun r : Row => Sm (fun p => (r.2 : Rat) * (((co r.1 p : Rat) - v p) * ((co r.1 p : Rat) - v p))) (List.range w)) s := Sm_congr fun r _ => (Sm_mul _ _ _).symm
  rw [e1, Sm_swap (fun (r : Row) p => (r.2 : Rat) * (((co r.1 p : Rat) - v p) * ((co r.1 p : Rat) - v p)))]
  refine Sm_congr fun p _ => ?_
  have e2 : Sm (fun r : Row => (r.2 : Rat) * (((co r.1 p : Rat) - v p) * ((co r.1 p : Rat) - v p))) s = Sm (fun r : Row => (r.2 : Rat) * ((co r.1 p : Rat) * (co r.1 p : Rat)) + (-2 * v p * ((r.2 : Rat) * (co r.1 p : Rat)) + v p * v p * (r.2 : Rat))) s := Sm_congr fun r _ => by grind
  rw [e2, Sm_add, Sm_add, Sm_mul, Sm_mul]
  unfold S2 S1 W
  grind
theorem lo_eq {w : Nat} {s : List Row} (hW : W s ≠ 0) (v : Nat → Rat) : lo w s v = sp w s + W s * Sm (fun p => (v p - mn s p) * (v p - mn s p)) (List.range w) := by
  rw [lo_cols]
  unfold sp
  rw [← Sm_mul, ← Sm_add]
  refine Sm_congr fun p _ => ?_
  have e : mn s p * W s = S1 s p := Rat.div_mul_cancel hW
  have e3 : S1 s p * S1 s p / W s = mn s p * S1 s p := by
    show S1 s p * S1 s p / W s = S1 s p / W s * S1 s p
    rw [Rat.div_def, Rat.div_def]
    grind
  rw [e3, ← e]
  grind
theorem lo_mean {w : Nat} {s : List Row} (hW : W s ≠ 0) {v : Nat → Rat} (h : ∀ p, p < w → v p = mn s p) : lo w s v = sp w s := by
  rw [lo_eq hW]
  have e : Sm (fun p => (v p - mn s p) * (v p - mn s p)) (List.range w) = Sm (fun _ => 0) (List.range w) := Sm_congr fun p hp => by
    rw [h p (List.mem_range.mp hp)]
    grind
  rw [e, Sm_zero]
  grind
theorem lo_off {w : Nat} {s : List Row} (hW : 0 < W s) {v : Nat → Rat} (h : ∃ p, p < w ∧ v p ≠ mn s p) : sp w s < lo w s v := by
  rw [lo_eq (Rat.ne_of_gt hW)]
  obtain ⟨p, hp, hv⟩ := h
  have h1 : 0 < Sm (fun p => (v p - mn s p) * (v p - mn s p)) (List.range w) := Sm_pos (fun _ _ => sq_nn _) ⟨p, List.mem_range.mpr hp, sq_pos (fun e => hv (by grind))⟩
  have := Rat.mul_pos hW h1
  grind
theorem W_pos {s : List Row} (h : ∀ r ∈ s, 0 < r.2) (h0 : s ≠ []) : 0 < W s := by
  refine Sm_pos (fun r hr => Rat.le_of_lt (Rat.intCast_pos.mpr (h r hr))) ?_
  cases s with
  | nil => exact absurd rfl h0
  | cons r s => exact ⟨r, List.mem_cons_self, Rat.intCast_pos.mpr (h r List.mem_cons_self)⟩
/-! ### the first least of n -/
def nr (d : Nat → Rat) : Nat → Nat
  | 0 => 0
  | n + 1 => if d n < d (nr d n) then n else nr d n
theorem nr_spec (d : Nat → Rat) : ∀ n : Nat, nr d (n + 1) < n + 1 ∧ (∀ j, j < n + 1 → d (nr d (n + 1)) ≤ d j) ∧ ∀ j, j < nr d (n + 1) → d (nr d (n + 1)) < d j
  | 0 => by
    have e : nr d 1 = 0 := by
      show (if d 0 < d 0 then 0 else 0) = 0
      split <;> rfl
    rw [e]
    refine ⟨Nat.zero_lt_one, fun j hj => ?_, fun j hj => absurd hj (Nat.not_lt_zero _)⟩
    have : j = 0 := by omega
    rw [this]
    exact Rat.le_refl
  | n + 1 => by
    obtain ⟨h1, h2, h3⟩ := nr_spec d n
    show (if d (n + 1) < d (nr d (n + 1)) then n + 1 else nr d (n + 1)) < n + 1 + 1 ∧ _
    by_cases h : d (n + 1) < d (nr d (n + 1))
    · have e : nr d (n + 1 + 1) = n + 1 := by
        show (if d (n + 1) < d (nr d (n + 1)) then n + 1 else nr d (n + 1)) = _
        rw [if_pos h]
      rw [if_pos h, e]
      refine ⟨by omega, fun j hj => ?_, fun j hj => ?_⟩
      · by_cases hj2 : j < n + 1
        · have := h2 j hj2
          grind
        · have : j = n + 1 := by omega
          rw [this]
          exact Rat.le_refl
      · have := h2 j hj
        grind
    · have e : nr d (n + 1 + 1) = nr d (n + 1) := by
        show (if d (n + 1) < d (nr d (n + 1)) then n + 1 else nr d (n + 1)) = _
        rw [if_neg h]
      rw [if_neg h, e]
      refine ⟨by omega, fun j hj => ?_, h3⟩
      by_cases hj2 : j < n + 1
      · exact h2 j hj2
      · have : j = n + 1 := by omega
        rw [this]
        grind
theorem nr_congr {d e : Nat → Rat} : ∀ {n : Nat}, (∀ j, j < n → d j = e j) → nr d n = nr e n
  | 0, _ => rfl
  | n + 1, h => by
    have ih := nr_congr (n := n) fun j hj => h j (by omega)
    show (if d n < d (nr d n) then n else nr d n) = (if e n < e (nr e n) then n else nr e n)
    rw [ih, h n (by omega)]
    cases n with
    | zero =>
      have e0 : nr e 0 = 0 := rfl
      rw [e0, h 0 (by omega)]
    | succ n => rw [h (nr e (n + 1)) (Nat.lt_succ_of_lt (nr_spec e n).1)]
/-! ### middles -/
abbrev Vec := List Rat
def vf (m : Vec) (p : Nat) : Rat := m[p]?.getD 0
def at' (ms : List Vec) (k : Nat) : Vec := ms[k]?.getD []
def near (w : Nat) (ms : List Vec) (c : List Int) : Nat := nr (fun j => fa w c (vf (at' ms j))) ms.length
theorem near_spec {w : Nat} {ms : List Vec} (h0 : ms ≠ []) (c : List Int) : near w ms c < ms.length ∧ (∀ j, j < ms.length → fa w c (vf (at' ms (near w ms c))) ≤ fa w c (vf (at' ms j))) ∧ ∀ j, j < near w ms c → fa w c (vf (at' ms (near w ms c))) < fa w c (vf (at' ms j)) := by
  obtain ⟨n, hn⟩ : ∃ n, ms.length = n + 1 := by
    cases ms with
    | nil => exact absurd rfl h0
    | cons x l => exact ⟨l.length, rfl⟩
  have := nr_spec (fun j => fa w c (vf (at' ms j))) n
  unfold near
  rw [hn]
  exact this
def share (w : Nat) (rows : List Row) (ms : List Vec) (k : Nat) : List Row := rows.filter fun r => decide (near w ms r.1 = k)
def mvk (w : Nat) (rows : List Row) (ms : List Vec) (k : Nat) : Vec := if share w rows ms k ≠ [] then (List.range w).map (mn (share w rows ms k)) else at' ms k
def mv (w : Nat) (rows : List Row) (ms : List Vec) : List Vec := (List.range ms.length).map (mvk w rows ms)
def L (w : Nat) (rows : List Row) (ms : List Vec) : Rat := Sm (fun r => (r.2 : Rat) * fa w r.1 (vf (at' ms (near w ms r.1)))) rows
theorem mv_len (w : Nat) (rows : List Row) (ms : List Vec) : (mv w rows ms).length = ms.length := by
  unfold mv
  rw [List.length_map, List.length_range]
theorem at_mv {w : Nat} {rows : List Row} {ms : List Vec} {k : Nat} (h : k < ms.length) : at' (mv w rows ms) k = mvk w rows ms k := by
  unfold at' mv
  rw [List.getElem?_map, List.getElem?_range h]
  rfl
theorem Sm_one (x : Rat) (a : Nat) : ∀ n : Nat, Sm (fun k => if a = k then x else 0) (List.range n) = if a < n then x else 0
  | 0 => by
    rw [if_neg (Nat.not_lt_zero a)]
    rfl
  | n + 1 => by
    rw [List.range_succ, Sm_app, Sm_one x a n, Sm_cons, Sm_nil]
    by_cases h1 : a < n
    · rw [if_pos h1, if_neg (by omega), if_pos (by omega)]
      grind
    · by_cases h2 : a = n
      · rw [if_neg h1, if_pos h2, if_pos (by omega)]
        grind
      · rw [if_neg h1, if_neg h2, if_neg (by omega)]
        grind
theorem Sm_filter {α : Type} (f : α → Rat) (p : α → Bool) : ∀ l : List α, Sm f (l.filter p) = Sm (fun x => if p x = true then f x else 0) l
  | [] => rfl
  | x :: l => by
    rw [Sm_cons, ← Sm_filter f p l]
    cases h : p x with
    | true =>
      rw [List.filter_cons_of_pos h, Sm_cons]
      rfl
    | false =>
      rw [List.filter_cons_of_neg (by rw [h]; exact Bool.false_ne_true)]
      show _ = (if false = true then f x else 0) + _
      rw [if_neg Bool.false_ne_true, Rat.zero_add]
theorem regroup {α : Type} (g : α → Rat) (n : Nat) (k : α → Nat) (l : List α) (h : ∀ x ∈ l, k x < n) : Sm g l = Sm (fun i => Sm g (l.filter fun x => decide (k x = i))) (List.range n) := by
  have e : (fun i => Sm g (l.filter fun x => decide (k x = i))) = fun i => Sm (fun x => if k x = i then g x else 0) l := by
    funext i
    rw [Sm_filter]
    refine Sm_congr fun x _ => ?_
    by_cases hx : k x = i <;> simp [hx]
  rw [e, ← Sm_swap (fun x i => if k x = i then g x else 0)]
  refine Sm_congr fun x hx => ?_
  rw [Sm_one, if_pos (h x hx)]
theorem L_shares {w : Nat} {rows : List Row} {ms : List Vec} (h0 : ms ≠ []) : L w rows ms = Sm (fun k => lo w (share w rows ms k) (vf (at' ms k))) (List.range ms.length) := by
  unfold L
  rw [regroup _ ms.length (fun r => near w ms r.1) rows fun r _ => (near_spec h0 r.1).1]
  refine Sm_congr fun k _ => ?_
  unfold lo share
  refine Sm_congr fun r hr => ?_
  have := of_decide_eq_true (List.mem_filter.mp hr).2
  rw [this]
theorem vec_ext {a b : Vec} {w : Nat} (ha : a.length = w) (hb : b.length = w) (h : ∀ p, p < w → vf a p = vf b p) : a = b := by
  refine List.ext_getElem (ha.trans hb.symm) fun i h1 h2 => ?_
  have := h i (by omega)
  unfold vf at this
  rw [List.getElem?_eq_getElem h1, List.getElem?_eq_getElem h2] at this
  exact this
theorem vec_ne {a b : Vec} {w : Nat} (ha : a.length = w) (hb : b.length = w) (h : a ≠ b) : ∃ p, p < w ∧ vf a p ≠ vf b p := by
  refine Classical.byContradiction fun z => h (vec_ext ha hb fun p hp => ?_)
  exact Classical.byContradiction fun q => z ⟨p, hp, q⟩
theorem vf_mean {w p : Nat} (f : Nat → Rat) (h : p < w) : vf ((List.range w).map f) p = f p := by
  unfold vf
  rw [List.getElem?_map, List.getElem?_range h]
  rfl
def Wide (w : Nat) (ms : List Vec) : Prop := ∀ m ∈ ms, m.length = w
theorem at_mem {ms : List Vec} {k : Nat} (h : k < ms.length) : at' ms k ∈ ms := by
  unfold at'
  rw [List.getElem?_eq_getElem h]
  exact List.getElem_mem h
theorem mv_wide {w : Nat} {rows : List Row} {ms : List Vec} (h : Wide w ms) : Wide w (mv w rows ms) := by
  intro m hm
  obtain ⟨k, hk, rfl⟩ := List.mem_map.mp hm
  unfold mvk
  split
  · rw [List.length_map, List.length_range]
  · exact h _ (at_mem (List.mem_range.mp hk))
theorem mvk_le {w : Nat} {rows : List Row} {ms : List Vec} (hr : ∀ r ∈ rows, 0 < r.2) (h : Wide w ms) {k : Nat} (hk : k < ms.length) : lo w (share w rows ms k) (vf (mvk w rows ms k)) ≤ lo w (share w rows ms k) (vf (at' ms k)) ∧
    (mvk w rows ms k ≠ at' ms k → lo w (share w rows ms k) (vf (mvk w rows ms k)) < lo w (share w rows ms k) (vf (at' ms k))) := by
  by_cases hs : share w rows ms k ≠ []
  · have hW : 0 < W (share w rows ms k) := W_pos (fun r hr2 => hr r (List.mem_filter.mp hr2).1) hs
    have e : mvk w rows ms k = (List.range w).map (mn (share w rows ms k)) := if_pos hs
    have e2 : lo w (share w rows ms k) (vf (mvk w rows ms k)) = sp w (share w rows ms k) := lo_mean (Rat.ne_of_gt hW) fun p hp => by rw [e, vf_mean _ hp]
    have key : mvk w rows ms k ≠ at' ms k → sp w (share w rows ms k) < lo w (share w rows ms k) (vf (at' ms k)) := fun hne => by
      obtain ⟨p, hp, hv⟩ := vec_ne (w := w) (by rw [e, List.length_map, List.length_range]) (h _ (at_mem hk)) hne
      refine lo_off hW ⟨p, hp, fun z => hv ?_⟩
      rw [z, e, vf_mean _ hp]
    rw [e2]
    refine ⟨?_, key⟩
    by_cases hne : mvk w rows ms k = at' ms k
    · rw [← hne, e2]
      exact Rat.le_refl
    · exact Rat.le_of_lt (key hne)
  · have e : mvk w rows ms k = at' ms k := if_neg hs
    rw [e]
    exact ⟨Rat.le_refl, fun z => absurd rfl z⟩
theorem mv_less {w : Nat} {rows : List Row} {ms : List Vec} (hr : ∀ r ∈ rows, 0 < r.2) (h : Wide w ms) (h0 : ms ≠ []) (hne : mv w rows ms ≠ ms) : L w rows (mv w rows ms) < L w rows ms := by
  have h0' : mv w rows ms ≠ [] := fun e => by
    have := congrArg List.length e
    rw [mv_len] at this
    exact h0 (List.length_eq_zero_iff.mp this)
  have s1 : L w rows (mv w rows ms) ≤ Sm (fun r => (r.2 : Rat) * fa w r.1 (vf (at' (mv w rows ms) (near w ms r.1)))) rows := Sm_le fun r hr2 => Rat.mul_le_mul_of_nonneg_left ((near_spec h0' r.1).2.1 _ (by rw [mv_len]; exact (near_spec h0 r.1).1)) (Rat.le_of_lt (Rat.intCast_pos.mpr (hr r hr2)))
  have s2 : Sm (fun r => (r.2 : Rat) * fa w r.1 (vf (at' (mv w rows ms) (near w ms r.1)))) rows = Sm (fun k => lo w (share w rows ms k) (vf (mvk w rows ms k))) (List.range ms.length) := by
    rw [regroup _ ms.length (fun r : Row => near w ms r.1) rows fun r _ => (near_spec h0 r.1).1]
    refine Sm_congr fun k hk => ?_
    unfold lo share
    refine Sm_congr fun r hr2 => ?_
    have := of_decide_eq_true (List.mem_filter.mp hr2).2
    rw [this, at_mv (List.mem_range.mp hk)]
  rw [L_shares h0]
  have s3 : Sm (fun k => lo w (share w rows ms k) (vf (mvk w rows ms k))) (List.range ms.length) < Sm (fun k => lo w (share w rows ms k) (vf (at' ms k))) (List.range ms.length) := by
    refine Sm_lt (fun k hk => (mvk_le hr h (List.mem_range.mp hk)).1) ?_
    refine Classical.byContradiction fun z => hne (List.ext_getElem (mv_len _ _ _) fun i h1 h2 => ?_)
    have e1 : (mv w rows ms)[i] = mvk w rows ms i := by
      have e := at_mv (w := w) (rows := rows) h2
      unfold at' at e
      rw [List.getElem?_eq_getElem h1] at e
      exact e
    have e2 : ms[i] = at' ms i := by
      unfold at'
      rw [List.getElem?_eq_getElem h2]
      rfl
    rw [e1, e2]
    refine Classical.byContradiction fun q => z ⟨i, List.mem_range.mpr h2, (mvk_le hr h h2).2 q⟩
  rw [s2] at s1
  grind
/-! ### it comes to rest -/
def Iz (D : Nat) (x : Rat) : Prop := ∃ z : Int, x * (D : Rat) = (z : Rat)
theorem Iz.add {D : Nat} {x y : Rat} (a : Iz D x) (b : Iz D y) : Iz D (x + y) := by
  obtain ⟨z, h⟩ := a
  obtain ⟨u, h2⟩ := b
  exact ⟨z + u, by rw [Rat.intCast_add, ← h, ← h2]; grind⟩
theorem Iz.int {D : Nat} (i : Int) : Iz D (i : Rat) := ⟨i * D, by rw [Rat.intCast_mul]; rfl⟩
theorem Iz.mulI {D : Nat} {x : Rat} (i : Int) (a : Iz D x) : Iz D ((i : Rat) * x) := by
  obtain ⟨z, h⟩ := a
  exact ⟨i * z, by rw [Rat.intCast_mul, ← h]; grind⟩
theorem Iz.neg {D : Nat} {x : Rat} (a : Iz D x) : Iz D (-x) := by
  obtain ⟨z, h⟩ := a
  exact ⟨-z, by rw [Rat.intCast_neg, ← h]; grind⟩
theorem Iz.sq {D : Nat} {x : Rat} (a : Iz D x) : Iz (D * D) (x * x) := by
  obtain ⟨z, h⟩ := a
  refine ⟨z * z, ?_⟩
  have e : ((D * D : Nat) : Rat) = (D : Rat) * (D : Rat) := Rat.natCast_mul D D
  rw [Rat.intCast_mul, ← h, e]
  grind
theorem Iz.sm {α : Type} {D : Nat} {f : α → Rat} : ∀ {l : List α}, (∀ x ∈ l, Iz D (f x)) → Iz D (Sm f l)
  | [], _ => Iz.int 0
  | x :: l, h => (h x List.mem_cons_self).add (Iz.sm fun y hy => h y (List.mem_cons_of_mem _ hy))
def Izv (w D : Nat) (ms : List Vec) : Prop := ∀ m ∈ ms, ∀ p, p < w → Iz D (vf m p)
theorem Iz_fa {w D : Nat} {c : List Int} {v : Nat → Rat} (h : ∀ p, p < w → Iz D (v p)) : Iz (D * D) (fa w c v) := Iz.sm fun p hp => by
  have e : (co c p : Rat) - v p = (co c p : Rat) + -v p := Rat.sub_eq_add_neg _ _
  rw [e]
  exact ((Iz.int _).add (h p (List.mem_range.mp hp)).neg).sq
theorem Iz_L {w D : Nat} {rows : List Row} {ms : List Vec} (h0 : ms ≠ []) (h : Izv w D ms) : Iz (D * D) (L w rows ms) := Iz.sm fun r _ => Iz.mulI _ (Iz_fa fun p hp => h _ (at_mem (near_spec h0 r.1).1) p hp)
def Wi (s : List Row) : Int := (s.map fun r => r.2).sum
theorem W_int : ∀ s : List Row, W s = (Wi s : Rat)
  | [] => rfl
  | r :: s => by
    have e : Wi (r :: s) = r.2 + Wi s := rfl
    rw [e, Rat.intCast_add, ← W_int s]
    rfl
theorem S1_int (s : List Row) (p : Nat) : S1 s p = (((s.map fun r => r.2 * co r.1 p).sum : Int) : Rat) := by
  induction s with
  | nil => rfl
  | cons r s ih =>
    have e : S1 (r :: s) p = (r.2 : Rat) * (co r.1 p : Rat) + S1 s p := rfl
    rw [e, ih, List.map_cons, List.sum_cons, Rat.intCast_add, Rat.intCast_mul]
theorem Wi_filter (p : Row → Bool) : ∀ {s : List Row}, (∀ r ∈ s, 0 < r.2) → 0 ≤ Wi (s.filter p) ∧ Wi (s.filter p) ≤ Wi s
  | [], _ => ⟨Int.le_refl _, Int.le_refl _⟩
  | r :: s, h => by
    have ih := Wi_filter p (s := s) fun x hx => h x (List.mem_cons_of_mem _ hx)
    have h1 := h r List.mem_cons_self
    have e : Wi (r :: s) = r.2 + Wi s := rfl
    by_cases hp : p r = true
    · rw [List.filter_cons_of_pos hp]
      have e2 : Wi (r :: s.filter p) = r.2 + Wi (s.filter p) := rfl
      rw [e, e2]
      omega
    · rw [List.filter_cons_of_neg hp, e]
      omega
theorem Wi_pos {s : List Row} (h : ∀ r ∈ s, 0 < r.2) (h0 : s ≠ []) : 0 < Wi s := by
  have := W_pos h h0
  rw [W_int] at this
  exact Rat.intCast_pos.mp this
def fac : Nat → Nat
  | 0 => 1
  | n + 1 => (n + 1) * fac n
theorem fac_pos : ∀ n, 0 < fac n
  | 0 => Nat.one_pos
  | n + 1 => Nat.mul_pos (Nat.succ_pos n) (fac_pos n)
theorem dvd_fac {k : Nat} (h0 : 0 < k) : ∀ {n : Nat}, k ≤ n → k ∣ fac n
  | 0, h => by omega
  | n + 1, h => by
    by_cases e : k = n + 1
    · rw [e]
      exact Nat.dvd_mul_right _ _
    · exact Nat.dvd_trans (dvd_fac h0 (by omega)) (Nat.dvd_mul_left _ _)
theorem Izv_mv {w D : Nat} {rows : List Row} {ms : List Vec} (hr : ∀ r ∈ rows, 0 < r.2) (h : Izv w D ms) (hD : fac (Wi rows).toNat ∣ D) : Izv w D (mv w rows ms) := by
  intro m hm p hp
  obtain ⟨k, hk, rfl⟩ := List.mem_map.mp hm
  unfold mvk
  split
  · rename_i hs
    rw [vf_mean _ hp]
    have hr2 : ∀ r ∈ share w rows ms k, 0 < r.2 := fun r hr2 => hr r (List.mem_filter.mp hr2).1
    have h1 := Wi_pos hr2 hs
    have h2 := (Wi_filter (fun r => decide (near w ms r.1 = k)) hr).2
    have h2' : Wi (share w rows ms k) ≤ Wi rows := h2
    obtain ⟨q, hq⟩ := Nat.dvd_trans (dvd_fac (k := (Wi (share w rows ms k)).toNat) (by omega) (n := (Wi rows).toNat) (by omega)) hD
    refine ⟨((share w rows ms k).map fun r => r.2 * co r.1 p).sum * q, ?_⟩
    unfold mn
    rw [S1_int, W_int, Rat.intCast_mul]
    have e : (D : Rat) = (Wi (share w rows ms k) : Rat) * (q : Rat) := by
      have e2 : (D : Int) = Wi (share w rows ms k) * (q : Int) := by
        rw [hq, Int.natCast_mul, Int.toNat_of_nonneg (by omega)]
      have e3 : ((D : Int) : Rat) = ((Wi (share w rows ms k) * (q : Int) : Int) : Rat) := by rw [e2]
      rw [Rat.intCast_mul] at e3
      exact e3
    have hne : (Wi (share w rows ms k) : Rat) ≠ 0 := Rat.ne_of_gt (Rat.intCast_pos.mpr h1)
    rw [e]
    have e5 := Rat.div_mul_cancel (a := ((((share w rows ms k).map fun r => r.2 * co r.1 p).sum : Int) : Rat)) hne
    show _ = _ * (((q : Nat) : Int) : Rat)
    have e6 : (((q : Nat) : Int) : Rat) = (q : Rat) := rfl
    rw [e6]
    grind
  · exact h _ (at_mem (List.mem_range.mp hk)) p hp
/-- a number that the losses fall below, step by step -/
def mu (w D : Nat) (rows : List Row) (ms : List Vec) : Nat := (L w rows ms * ((D * D : Nat) : Rat)).floor.toNat
theorem fa_nn (w : Nat) (c : List Int) (v : Nat → Rat) : 0 ≤ fa w c v := Sm_nn fun _ _ => sq_nn _
theorem L_nn {w : Nat} {rows : List Row} {ms : List Vec} (hr : ∀ r ∈ rows, 0 < r.2) : 0 ≤ L w rows ms := Sm_nn fun r h => Rat.mul_nonneg (Rat.le_of_lt (Rat.intCast_pos.mpr (hr r h))) (fa_nn _ _ _)
theorem mu_less {w D : Nat} {rows : List Row} {ms ms' : List Vec} (hD : 0 < D) (hr : ∀ r ∈ rows, 0 < r.2) (h0 : ms ≠ []) (h0' : ms' ≠ []) (h : Izv w D ms) (h' : Izv w D ms') (hl : L w rows ms' < L w rows ms) : mu w D rows ms' < mu w D rows ms := by
  obtain ⟨z, hz⟩ := Iz_L (rows := rows) h0 h
  obtain ⟨z', hz'⟩ := Iz_L (rows := rows) h0' h'
  have hDD : 0 < ((D * D : Nat) : Rat) := Rat.natCast_pos.mpr (Nat.mul_pos hD hD)
  unfold mu
  rw [hz, hz', Rat.floor_intCast, Rat.floor_intCast]
  have h1 : ((z' : Int) : Rat) < (z : Rat) := by
    rw [← hz, ← hz']
    exact Rat.mul_lt_mul_of_pos_right hl hDD
  have h2 := Rat.intCast_lt_intCast.mp h1
  have h3 : 0 ≤ ((z' : Int) : Rat) := by
    rw [← hz']
    exact Rat.mul_nonneg (L_nn hr) (Rat.le_of_lt hDD)
  have h4 := Rat.intCast_nonneg.mp h3
  omega
def it (w : Nat) (rows : List Row) (ms : List Vec) : Nat → List Vec
  | 0 => ms
  | n + 1 => mv w rows (it w rows ms n)
/-- a common denominator -/
def dn (ms : List Vec) : Nat := (ms.map fun m => (m.map fun x => x.den).foldr (· * ·) 1).foldr (· * ·) 1
theorem dvd_prod {x : Nat} : ∀ {l : List Nat}, x ∈ l → x ∣ l.foldr (· * ·) 1
  | y :: l, h => by
    rcases List.mem_cons.mp h with e | h
    · rw [e]
      exact Nat.dvd_mul_right _ _
    · exact Nat.dvd_trans (dvd_prod h) (Nat.dvd_mul_left _ _)
theorem prod_pos : ∀ {l : List Nat}, (∀ x ∈ l, 0 < x) → 0 < l.foldr (· * ·) 1
  | [], _ => Nat.one_pos
  | x :: l, h => Nat.mul_pos (h x List.mem_cons_self) (prod_pos fun y hy => h y (List.mem_cons_of_mem _ hy))
theorem dn_pos (ms : List Vec) : 0 < dn ms := prod_pos fun x hx => by
  obtain ⟨m, _, rfl⟩ := List.mem_map.mp hx
  exact prod_pos fun y hy => by
    obtain ⟨q, _, rfl⟩ := List.mem_map.mp hy
    exact q.den_pos
theorem Iz_den {D : Nat} {x : Rat} (h : x.den ∣ D) : Iz D x := by
  obtain ⟨q, rfl⟩ := h
  refine ⟨x.num * q, ?_⟩
  have e : ((x.den * q : Nat) : Rat) = (x.den : Rat) * (q : Rat) := Rat.natCast_mul _ _
  have e2 : x * (x.den : Rat) = (x.num : Rat) := by
    have h1 := Rat.num_divInt_den x
    have h2 : (x.den : Rat) ≠ 0 := Rat.ne_of_gt (Rat.natCast_pos.mpr x.den_pos)
    rw [Rat.divInt_eq_div] at h1
    have h3 := Rat.div_mul_cancel (a := (x.num : Rat)) h2
    have h4 : (x.num : Rat) / (x.den : Rat) = x := h1
    rw [h4] at h3
    exact h3
  rw [e, Rat.intCast_mul, ← e2]
  have e3 : (((q : Nat) : Int) : Rat) = (q : Rat) := rfl
  rw [e3]
  grind
theorem Izv_dn (w : Nat) {ms : List Vec} (h : Wide w ms) (F : Nat) : Izv w (F * dn ms) ms := fun m hm p hp => by
  refine Iz_den ?_
  have hl := h m hm
  have h1 : vf m p ∈ m := by
    unfold vf
    rw [List.getElem?_eq_getElem (by omega)]
    exact List.getElem_mem _
  refine Nat.dvd_trans ?_ (Nat.dvd_mul_left _ _)
  exact Nat.dvd_trans (dvd_prod (List.mem_map_of_mem h1)) (dvd_prod (List.mem_map_of_mem (f := fun m : Vec => (m.map fun x => x.den).foldr (· * ·) 1) hm))
end FQ
set_option maxHeartbeats 400000
/-! FRC: fractions as pairs, and how long they are. -/
namespace FC
open PySem PySem.Spec PyProof.Rows L2 Evl
/-! ### how many bits -/
def Bt (n : Nat) (i : Int) : Prop := i.natAbs < 2 ^ n
theorem Bt.mono {n m : Nat} {i : Int} (h : Bt n i) (e : n ≤ m) : Bt m i := Nat.lt_of_lt_of_le h (Nat.pow_le_pow_right (by omega) e)
theorem Bt.mul {n m : Nat} {i j : Int} (h : Bt n i) (h2 : Bt m j) : Bt (n + m) (i * j) := by
  unfold Bt at *
  rw [Int.natAbs_mul, Nat.pow_add]
  exact Nat.mul_lt_mul'' h h2
theorem Bt.add {n : Nat} {i j : Int} (h : Bt n i) (h2 : Bt n j) : Bt (n + 1) (i + j) := by
  unfold Bt at *
  have := Int.natAbs_add_le i j
  rw [Nat.pow_succ]
  omega
theorem Bt.neg {n : Nat} {i : Int} (h : Bt n i) : Bt n (-i) := by
  unfold Bt at *
  rw [Int.natAbs_neg]
  exact h
theorem Bt.sub {n : Nat} {i j : Int} (h : Bt n i) (h2 : Bt n j) : Bt (n + 1) (i - j) := by
  rw [Int.sub_eq_add_neg]
  exact h.add h2.neg
theorem Bt.of {n : Nat} {i : Int} {b : Nat} (h : -(b : Int) ≤ i ∧ i ≤ b) (e : b < 2 ^ n) : Bt n i := by
  unfold Bt
  omega
theorem Bt.log {n : Nat} {i : Int} (h : Bt n i) : i.natAbs.log2 ≤ n := by
  by_cases h0 : i.natAbs = 0
  · rw [h0]
    exact Nat.zero_le _
  · exact Nat.le_of_lt ((Nat.log2_lt h0).mpr h)
section
variable {α β : Type}
theorem ok_mulB {n m : Nat} {i j : Int} {f : Int → Option β} {Q : β → Prop} (h1 : Bt n i) (h2 : Bt m j) (k : Ok (f (i * j)) Q) (h : n + m < 1000000 := by omega) : Ok ((mulG i j).bind f) Q := ok_mul (.inr (by
  have := h1.log
  have := h2.log
  unfold CMulW
  omega)) k
theorem mulB {n m : Nat} {i j : Int} (h1 : Bt n i) (h2 : Bt m j) (h : n + m < 1000000 := by omega) : mulG i j = some (i * j) := by
  unfold mulG
  rw [if_pos]
  refine .inr ?_
  have := h1.log
  have := h2.log
  unfold CMulW
  omega
theorem divB {n : Nat} {i j : Int} (h0 : 0 < j) (h : Bt n j) (hn : n < 9000) : fdivG i j = some (i / j) := by
  unfold fdivG
  rw [if_pos]
  refine .inr ⟨h0, ?_⟩
  have := h.log
  omega
end
theorem forF_map {S α β : Type} {step : S → β → Option S} {g : α → β} : ∀ {xs : List α} {s : S}, forF step s (xs.map g) = forF (fun s x => step s (g x)) s xs
  | [], _ => rfl
  | x :: xs, s => by
    show (step s (g x)).bind _ = (step s (g x)).bind _
    congr 1
    funext s'
    exact forF_map
/-! ### the greatest number that goes into both -/
theorem gcd_loop : ∀ (b a : Nat), ∃ n r, whiF (fun s : Int × Int => some (decide ((0 : Int) < s.2))) (fun s : Int × Int => (modG s.1 s.2).bind fun t => some (s.2, t)) n ((a : Int), (b : Int)) = some (((Nat.gcd a b : Nat) : Int), r) := by
  intro b
  induction b using Nat.strongRecOn with
  | _ b ih =>
    intro a
    by_cases hb : b = 0
    · subst hb
      exact ⟨1, 0, by rw [Nat.gcd_zero_right]; rfl⟩
    · obtain ⟨n, r, hn⟩ := ih (a % b) (Nat.mod_lt _ (by omega)) b
      refine ⟨n + 1, r, ?_⟩
      have e1 : decide ((0 : Int) < (b : Int)) = true := decide_eq_true (by omega)
      have e2 : modG (a : Int) (b : Int) = some (((a % b : Nat) : Int)) := by
        unfold modG
        rw [if_pos (by omega)]
        rfl
      rw [whiF_step (s' := ((b : Int), ((a % b : Nat) : Int))) (by show some (decide _) = _; rw [e1]) (by show (modG _ _).bind _ = _; rw [e2]; rfl), hn, Nat.gcd_comm b, ← Nat.gcd_rec, Nat.gcd_comm b a]
theorem gcd_whi (i j : Int) : ∃ r, whiL (fun s : Int × Int => some (decide ((0 : Int) < s.2))) (fun s : Int × Int => (modG s.1 s.2).bind fun t => some (s.2, t)) (absI i, absI j) = some (((Int.gcd i j : Nat) : Int), r) := by
  have e : ∀ k : Int, absI k = (k.natAbs : Int) := fun k => by
    unfold absI
    split <;> omega
  obtain ⟨n, r, h⟩ := gcd_loop j.natAbs i.natAbs
  rw [e, e]
  exact ⟨r, whiL_of h⟩
/-! ### fractions -/
def fr (x : Rat) : Int × Int := (x.num, (x.den : Int))
theorem fr_inj {x y : Rat} (h : fr x = fr y) : x = y := by
  have h1 := congrArg Prod.fst h
  have h2 := congrArg Prod.snd h
  exact Rat.ext h1 (Int.ofNat.inj h2)
structure Sz (n : Nat) (x : Rat) : Prop where
  num : Bt n x.num
  den : Bt n x.den
theorem Sz.mono {n m : Nat} {x : Rat} (h : Sz n x) (e : n ≤ m) : Sz m x := ⟨h.num.mono e, h.den.mono e⟩
theorem fr_div {a b : Int} (hb : 0 < b) : (a / ((Int.gcd a b : Nat) : Int), b / ((Int.gcd a b : Nat) : Int)) = fr ((a : Rat) / (b : Rat)) := by
  rw [← Rat.divInt_eq_div]
  unfold fr
  rw [Rat.num_divInt, Rat.den_divInt, if_neg (by omega), Int.sign_eq_one_of_pos hb, Int.one_mul, Int.gcd_comm b a]
  have : ((b.natAbs / Int.gcd a b : Nat) : Int) = b / ((Int.gcd a b : Nat) : Int) := by
    rw [Int.natCast_ediv, Int.natAbs_of_nonneg (by omega)]
  rw [this]
theorem sz_div {a b : Int} {n : Nat} (hb : 0 < b) (h1 : Bt n a) (h2 : Bt n b) : Sz n ((a : Rat) / (b : Rat)) := by
  have e := fr_div (a := a) hb
  have hn : ((a : Rat) / (b : Rat)).num = a / ((Int.gcd a b : Nat) : Int) := (congrArg Prod.fst e).symm
  have hd : ((((a : Rat) / (b : Rat)).den : Nat) : Int) = b / ((Int.gcd a b : Nat) : Int) := (congrArg Prod.snd e).symm
  refine ⟨?_, ?_⟩
  · rw [hn]
    unfold Bt at *
    refine Nat.lt_of_le_of_lt ?_ h1
    exact Int.natAbs_ediv_le_natAbs _ _
  · rw [hd]
    unfold Bt at *
    refine Nat.lt_of_le_of_lt ?_ h2
    exact Int.natAbs_ediv_le_natAbs _ _
theorem rat_eq (x : Rat) : x = (x.num : Rat) / ((x.den : Int) : Rat) := by
  rw [← Rat.divInt_eq_div, Rat.num_divInt_den]
theorem den_ne (x : Rat) : (((x.den : Nat) : Int) : Rat) ≠ 0 := by
  have h := x.den_pos
  have : (((x.den : Nat) : Int) : Rat) = (x.den : Rat) := rfl
  rw [this]
  exact Rat.ne_of_gt (Rat.natCast_pos.mpr h)
theorem den_pos' (x : Rat) : 0 < ((x.den : Nat) : Int) := by
  have := x.den_pos
  omega
theorem add_eq (x y : Rat) : x + y = ((x.num * (y.den : Int) + y.num * (x.den : Int) : Int) : Rat) / ((x.den : Int) * (y.den : Int) : Int) := by
  have hx := den_ne x
  have hy := den_ne y
  rw [Rat.intCast_add, Rat.intCast_mul, Rat.intCast_mul, Rat.intCast_mul]
  conv => lhs; rw [rat_eq x, rat_eq y]
  generalize (((x.den : Nat) : Int) : Rat) = a at *
  generalize (((y.den : Nat) : Int) : Rat) = b at *
  have h1 := Rat.div_mul_cancel (a := (x.num : Rat)) hx
  have h2 := Rat.div_mul_cancel (a := (y.num : Rat)) hy
  have hab : a * b ≠ 0 := fun z => (Rat.mul_eq_zero.mp z).elim hx hy
  have h3 := Rat.div_mul_cancel (a := (x.num : Rat) * b + (y.num : Rat) * a) hab
  grind
theorem mul_eq (x y : Rat) : x * y = ((x.num * y.num : Int) : Rat) / ((x.den : Int) * (y.den : Int) : Int) := by
  have hx := den_ne x
  have hy := den_ne y
  rw [Rat.intCast_mul, Rat.intCast_mul]
  conv => lhs; rw [rat_eq x, rat_eq y]
  generalize (((x.den : Nat) : Int) : Rat) = a at *
  generalize (((y.den : Nat) : Int) : Rat) = b at *
  have h1 := Rat.div_mul_cancel (a := (x.num : Rat)) hx
  have h2 := Rat.div_mul_cancel (a := (y.num : Rat)) hy
  have hab : a * b ≠ 0 := fun z => (Rat.mul_eq_zero.mp z).elim hx hy
  have h3 := Rat.div_mul_cancel (a := (x.num : Rat) * (y.num : Rat)) hab
  grind
theorem Sz.int {n : Nat} {i : Int} (h : Bt n i) (h0 : 0 < n) : Sz n (i : Rat) := ⟨h, by
  unfold Bt
  exact Nat.lt_of_lt_of_le (by decide : 1 < 2 ^ 1) (Nat.pow_le_pow_right (by omega) h0)⟩
theorem fr_int (i : Int) : fr (i : Rat) = (i, 1) := rfl
theorem fr_zero : fr 0 = (0, 1) := rfl
theorem fr_neg (x : Rat) : (-(fr x).1, (fr x).2) = fr (-x) := rfl
theorem Sz.neg {n : Nat} {x : Rat} (h : Sz n x) : Sz n (-x) := ⟨h.num.neg, h.den⟩
theorem Sz.add {a b : Nat} {x y : Rat} (hx : Sz a x) (hy : Sz b y) : Sz (a + b + 1) (x + y) := by
  rw [add_eq]
  refine sz_div (Int.mul_pos (den_pos' x) (den_pos' y)) ?_ ((hx.den.mul hy.den).mono (by omega))
  exact (hx.num.mul hy.den).add ((hy.num.mul hx.den).mono (by omega))
theorem Sz.mul {a b : Nat} {x y : Rat} (hx : Sz a x) (hy : Sz b y) : Sz (a + b) (x * y) := by
  rw [mul_eq]
  exact sz_div (Int.mul_pos (den_pos' x) (den_pos' y)) (hx.num.mul hy.num) (hx.den.mul hy.den)
theorem lt_fr (x y : Rat) : decide ((fr x).1 * (fr y).2 < (fr y).1 * (fr x).2) = decide (x < y) := decide_eq_decide.mpr (Rat.lt_iff x y).symm
theorem fr_eq (x y : Rat) : decide (fr x = fr y) = decide (x = y) := decide_eq_decide.mpr ⟨fr_inj, fun e => by rw [e]⟩
end FC
set_option maxHeartbeats 400000
/-! FGR: all groupings of rows; the least ones rest. Plain Lean. -/
namespace GR
open FQ
abbrev Gp := List (List Row)
/-! ### spreads -/
theorem Sm_change {α : Type} [DecidableEq α] {g h : α → Rat} {r : α} : ∀ {l : List α}, l.Nodup → r ∈ l → (∀ x ∈ l, x ≠ r → g x = h x) → Sm g l = Sm h l + (g r - h r)
  | x :: l, nd, hr, e => by
    have nd2 := List.nodup_cons.mp nd
    rw [Sm_cons, Sm_cons]
    by_cases hx : x = r
    · subst hx
      have : Sm g l = Sm h l := Sm_congr fun y hy => e y (List.mem_cons_of_mem _ hy) (fun z => nd2.1 (z ▸ hy))
      rw [this]
      grind
    · have h1 := e x List.mem_cons_self hx
      have h2 : r ∈ l := (List.mem_cons.mp hr).resolve_left fun z => hx z.symm
      rw [h1, Sm_change nd2.2 h2 fun y hy => e y (List.mem_cons_of_mem _ hy)]
      grind
theorem sp_nil (w : Nat) : sp w [] = 0 := by
  unfold sp
  rw [← Sm_zero (List.range w)]
  refine Sm_congr fun p _ => ?_
  show (0 : Rat) - 0 * 0 / 0 = 0
  rw [Rat.zero_mul, Rat.div_def, Rat.zero_mul]
  grind
theorem lo_app (w : Nat) (a b : List Row) (v : Nat → Rat) : lo w (a ++ b) v = lo w a v + lo w b v := Sm_app _ a b
theorem sp_le_lo {w : Nat} {s : List Row} (h : ∀ r ∈ s, 0 < r.2) (v : Nat → Rat) : sp w s ≤ lo w s v := by
  by_cases h0 : s = []
  · subst h0
    rw [sp_nil]
    exact Rat.le_refl
  · have hW := W_pos h h0
    rw [lo_eq (Rat.ne_of_gt hW)]
    have h1 : 0 ≤ Sm (fun p => (v p - mn s p) * (v p - mn s p)) (List.range w) := Sm_nn fun _ _ => sq_nn _
    have := Rat.mul_nonneg (Rat.le_of_lt hW) h1
    grind
theorem sp_lo {w : Nat} {s : List Row} (h : ∀ r ∈ s, 0 < r.2) : lo w s (mn s) = sp w s := by
  by_cases h0 : s = []
  · subst h0
    rw [sp_nil]
    rfl
  · exact lo_mean (Rat.ne_of_gt (W_pos h h0)) fun _ _ => rfl
theorem sp_mono {w : Nat} {s : List Row} {r : Row} (h : ∀ r ∈ s, 0 < r.2) (hr : 0 < r.2) : sp w s ≤ sp w (s ++ [r]) := by
  have h2 : ∀ x ∈ s ++ [r], 0 < x.2 := fun x hx => (List.mem_append.mp hx).elim (h x) fun z => by rw [List.mem_singleton.mp z]; exact hr
  rw [← sp_lo h2, lo_app]
  have h3 : 0 ≤ lo w [r] (mn (s ++ [r])) := by
    show 0 ≤ (r.2 : Rat) * fa w r.1 (mn (s ++ [r])) + 0
    have := Rat.mul_nonneg (Rat.le_of_lt (Rat.intCast_pos.mpr hr)) (fa_nn w r.1 (mn (s ++ [r])))
    grind
  have := sp_le_lo (w := w) h (mn (s ++ [r]))
  grind
theorem sp_nn {w : Nat} {s : List Row} (h : ∀ r ∈ s, 0 < r.2) : 0 ≤ sp w s := by
  rw [← sp_lo h]
  exact Sm_nn fun r hr => Rat.mul_nonneg (Rat.le_of_lt (Rat.intCast_pos.mpr (h r hr))) (fa_nn _ _ _)
def tot (w : Nat) (g : Gp) : Rat := Sm (sp w) g
/-! ### putting rows -/
def put (g : Gp) (r : Row) (i : Nat) : Gp := if i < g.length then g.modify i (· ++ [r]) else g ++ [[r]]
def ways (many : Nat) (g : Gp) (r : Row) : List Gp := (List.range (g.length + if g.length < many then 1 else 0)).map (put g r)
def allG (many : Nat) : List Row → Gp → List Gp
  | [], g => [g]
  | r :: rs, g => (ways many g r).flatMap (allG many rs)
def Pos (g : Gp) : Prop := ∀ s ∈ g, ∀ r ∈ s, 0 < r.2
theorem modify_ge {w : Nat} {r : Row} (hr : 0 < r.2) : ∀ {g : Gp} {i : Nat}, Pos g → tot w g ≤ tot w (g.modify i (· ++ [r]))
  | [], i, _ => by rw [List.modify_nil]; exact Rat.le_refl
  | s :: g, 0, h => by
    show sp w s + tot w g ≤ sp w (s ++ [r]) + tot w g
    have := sp_mono (w := w) (h s List.mem_cons_self) hr
    grind
  | s :: g, i + 1, h => by
    show sp w s + tot w g ≤ sp w s + tot w (g.modify i (· ++ [r]))
    have := modify_ge (w := w) hr (g := g) (i := i) fun s hs => h s (List.mem_cons_of_mem _ hs)
    grind
theorem tot_app (w : Nat) (a b : Gp) : tot w (a ++ b) = tot w a + tot w b := Sm_app _ a b
theorem put_ge {w : Nat} {r : Row} {g : Gp} {i : Nat} (hr : 0 < r.2) (h : Pos g) : tot w g ≤ tot w (put g r i) := by
  unfold put
  split
  · exact modify_ge hr h
  · rw [tot_app]
    have h1 : 0 ≤ tot w [[r]] := by
      show 0 ≤ sp w [r] + 0
      have := sp_nn (w := w) (s := [r]) (fun x hx => by rw [List.mem_singleton.mp hx]; exact hr)
      grind
    grind
theorem mem_modify {r : Row} : ∀ {g : Gp} {i : Nat} {s : List Row}, s ∈ g.modify i (· ++ [r]) → s ∈ g ∨ ∃ t ∈ g, s = t ++ [r]
  | [], i, s, h => by rw [List.modify_nil] at h; cases h
  | t :: g, 0, s, h => by
    rcases List.mem_cons.mp (show s ∈ (t ++ [r]) :: g from h) with e | h
    · exact .inr ⟨t, List.mem_cons_self, e⟩
    · exact .inl (List.mem_cons_of_mem _ h)
  | t :: g, i + 1, s, h => by
    rcases List.mem_cons.mp (show s ∈ t :: g.modify i (· ++ [r]) from h) with e | h
    · exact .inl (by rw [e]; exact List.mem_cons_self)
    · rcases mem_modify h with z | ⟨u, hu, e⟩
      · exact .inl (List.mem_cons_of_mem _ z)
      · exact .inr ⟨u, List.mem_cons_of_mem _ hu, e⟩
theorem put_pos {r : Row} {g : Gp} {i : Nat} (hr : 0 < r.2) (h : Pos g) : Pos (put g r i) := by
  intro s hs x hx
  unfold put at hs
  split at hs
  · rcases mem_modify hs with z | ⟨t, ht, rfl⟩
    · exact h s z x hx
    · rcases List.mem_append.mp hx with z | z
      · exact h t ht x z
      · rw [List.mem_singleton.mp z]
        exact hr
  · rcases List.mem_append.mp hs with z | z
    · exact h s z x hx
    · rw [List.mem_singleton.mp z] at hx
      rw [List.mem_singleton.mp hx]
      exact hr
theorem mem_ways {many : Nat} {g g' : Gp} {r : Row} : g' ∈ ways many g r ↔ ∃ i, (i < g.length ∨ (i = g.length ∧ g.length < many)) ∧ g' = put g r i := by
  unfold ways
  rw [List.mem_map]
  constructor
  · rintro ⟨i, hi, rfl⟩
    have := List.mem_range.mp hi
    split at this <;> exact ⟨i, by omega, rfl⟩
  · rintro ⟨i, hi, rfl⟩
    exact ⟨i, List.mem_range.mpr (by split <;> omega), rfl⟩
theorem allG_ge {w many : Nat} : ∀ {rs : List Row} {g g' : Gp}, (∀ r ∈ rs, 0 < r.2) → Pos g → g' ∈ allG many rs g → tot w g ≤ tot w g'
  | [], g, g', _, _, h => by rw [List.mem_singleton.mp h]; exact Rat.le_refl
  | r :: rs, g, g', hr, hg, h => by
    obtain ⟨g1, h1, h2⟩ := List.mem_flatMap.mp h
    obtain ⟨i, _, rfl⟩ := mem_ways.mp h1
    have := allG_ge (w := w) (fun x hx => hr x (List.mem_cons_of_mem _ hx)) (put_pos (i := i) (hr r List.mem_cons_self) hg) h2
    have := put_ge (w := w) (i := i) (hr r List.mem_cons_self) hg
    grind
theorem allG_ne {many : Nat} : ∀ {rs : List Row} {g : Gp}, 0 < many → allG many rs g ≠ []
  | [], g, _ => by simp [allG]
  | r :: rs, g, hm => by
    have : ∃ g1, g1 ∈ ways many g r := by
      by_cases h : g.length = 0
      · exact ⟨_, mem_ways.mpr ⟨g.length, .inr ⟨rfl, by omega⟩, rfl⟩⟩
      · exact ⟨_, mem_ways.mpr ⟨0, .inl (by omega), rfl⟩⟩
    obtain ⟨g1, h1⟩ := this
    have h2 := allG_ne (rs := rs) (g := g1) hm
    obtain ⟨x, hx⟩ := List.exists_mem_of_ne_nil _ h2
    exact List.ne_nil_of_mem (List.mem_flatMap.mpr ⟨g1, h1, hx⟩)
/-- breadth first is the same list -/
theorem allG_breadth {many : Nat} : ∀ (rs : List Row) (gs : List Gp), rs.foldl (fun gs r => gs.flatMap fun g => ways many g r) gs = gs.flatMap (allG many rs)
  | [], gs => by
    show gs = gs.flatMap fun g => [g]
    rw [List.flatMap_singleton']
  | r :: rs, gs => by
    rw [List.foldl_cons, allG_breadth rs, List.flatMap_assoc]
    rfl
theorem modify_len {g : Gp} {i : Nat} {f : List Row → List Row} : (g.modify i f).length = g.length := List.length_modify ..
theorem put_len {g : Gp} {r : Row} {i : Nat} : (put g r i).length ≤ g.length + 1 := by
  unfold put
  split
  · rw [modify_len]; omega
  · rw [List.length_append]; exact Nat.le_refl _
theorem ways_len {many : Nat} {g : Gp} {r : Row} : (ways many g r).length ≤ max g.length many ∧ ∀ g' ∈ ways many g r, g'.length ≤ max g.length many := by
  refine ⟨?_, fun g' h => ?_⟩
  · unfold ways
    rw [List.length_map, List.length_range]
    split <;> omega
  · obtain ⟨i, hi, rfl⟩ := mem_ways.mp h
    unfold put
    split
    · rw [modify_len]; omega
    · rw [List.length_append]
      show g.length + 1 ≤ _
      omega
theorem flat_len {α β : Type} {f : α → List β} {k : Nat} : ∀ {l : List α}, (∀ x ∈ l, (f x).length ≤ k) → (l.flatMap f).length ≤ l.length * k
  | [], _ => by simp
  | x :: l, h => by
    rw [List.flatMap_cons, List.length_append, List.length_cons, Nat.succ_mul]
    have h1 := h x List.mem_cons_self
    have h2 := flat_len (l := l) (f := f) fun y hy => h y (List.mem_cons_of_mem _ hy)
    omega
theorem allG_len {many : Nat} (hm : 0 < many) : ∀ {rs : List Row} {g : Gp}, g.length ≤ many → (allG many rs g).length ≤ many ^ rs.length ∧ ∀ g' ∈ allG many rs g, g'.length ≤ many
  | [], g, h => ⟨Nat.le_refl _, fun g' h' => by rw [List.mem_singleton.mp h']; exact h⟩
  | r :: rs, g, h => by
    have hw := ways_len (many := many) (g := g) (r := r)
    rw [Nat.max_eq_right h] at hw
    refine ⟨?_, fun g' h' => ?_⟩
    · have h1 := flat_len (f := allG many rs) (k := many ^ rs.length) (l := ways many g r) fun g1 hg1 => (allG_len hm (hw.2 g1 hg1)).1
      show ((ways many g r).flatMap _).length ≤ many ^ (rs.length + 1)
      rw [Nat.pow_succ, Nat.mul_comm]
      exact Nat.le_trans h1 (Nat.mul_le_mul_right _ hw.1)
    · obtain ⟨g1, hg1, h2⟩ := List.mem_flatMap.mp h'
      exact (allG_len hm (hw.2 g1 hg1)).2 g' h2
/-! ### shares by a map -/
def cls (rows : List Row) (f : Row → Nat) (k : Nat) : List Row := rows.filter fun r => decide (f r = k)
def ct (w : Nat) (rows : List Row) (many : Nat) (f : Row → Nat) : Rat := Sm (fun k => sp w (cls rows f k)) (List.range many)
def U (w : Nat) (rows : List Row) (f : Row → Nat) (v : Nat → Nat → Rat) : Rat := Sm (fun r => (r.2 : Rat) * fa w r.1 (v (f r))) rows
structure Rk (w : Nat) (rows : List Row) : Prop where
  pos : ∀ r ∈ rows, 0 < r.2
  nd : (rows.map Prod.fst).Nodup
  wd : ∀ r ∈ rows, r.1.length = w
variable {w many : Nat} {rows : List Row} {f : Row → Nat}
theorem Rk.nd' (h : Rk w rows) : rows.Nodup := by
  have h1 : List.Pairwise (· ≠ ·) (rows.map Prod.fst) := h.nd
  exact List.Pairwise.of_map Prod.fst (fun a b h e => h (by rw [e])) h1
theorem Rk.apart (h : Rk w rows) {a b : Row} (ha : a ∈ rows) (hb : b ∈ rows) (hne : a ≠ b) : ∃ p, p < w ∧ co a.1 p ≠ co b.1 p := by
  have h1 : a.1 ≠ b.1 := fun e => by
    have nd := h.nd
    obtain ⟨i, hi⟩ := List.mem_iff_getElem?.mp ha
    obtain ⟨j, hj⟩ := List.mem_iff_getElem?.mp hb
    have e1 : (rows.map Prod.fst)[i]? = some a.1 := by rw [List.getElem?_map, hi]; rfl
    have e2 : (rows.map Prod.fst)[j]? = some a.1 := by rw [List.getElem?_map, hj, e]; rfl
    obtain ⟨l1, g1⟩ := List.getElem?_eq_some_iff.mp e1
    obtain ⟨l2, g2⟩ := List.getElem?_eq_some_iff.mp e2
    have : i = j := (List.getElem_inj nd).mp (g1.trans g2.symm)
    subst this
    rw [hi] at hj
    exact hne (Option.some.inj hj)
  refine Classical.byContradiction fun z => h1 (List.ext_getElem ((h.wd a ha).trans (h.wd b hb).symm) fun i l1 l2 => ?_)
  refine Classical.byContradiction fun q => z ⟨i, by have := h.wd a ha; omega, fun e => q ?_⟩
  unfold co at e
  rw [List.getElem?_eq_getElem l1, List.getElem?_eq_getElem l2] at e
  exact e
theorem cls_mem {k : Nat} {r : Row} : r ∈ cls rows f k ↔ r ∈ rows ∧ f r = k := by
  unfold cls
  rw [List.mem_filter, decide_eq_true_eq]
theorem cls_pos (h : Rk w rows) (k : Nat) : ∀ r ∈ cls rows f k, 0 < r.2 := fun r hr => h.pos r (cls_mem.mp hr).1
theorem U_cls (hf : ∀ r ∈ rows, f r < many) (v : Nat → Nat → Rat) : U w rows f v = Sm (fun k => lo w (cls rows f k) (v k)) (List.range many) := by
  unfold U
  rw [regroup _ many f rows hf]
  refine Sm_congr fun k _ => ?_
  unfold lo cls
  refine Sm_congr fun r hr => ?_
  rw [of_decide_eq_true (List.mem_filter.mp hr).2]
theorem ct_le (h : Rk w rows) (hf : ∀ r ∈ rows, f r < many) (v : Nat → Nat → Rat) : ct w rows many f ≤ U w rows f v := by
  rw [U_cls hf]
  exact Sm_le fun k _ => sp_le_lo (cls_pos h k) _
theorem ct_lt (h : Rk w rows) (hf : ∀ r ∈ rows, f r < many) (v : Nat → Nat → Rat) {k : Nat} (hk : k < many) (hl : sp w (cls rows f k) < lo w (cls rows f k) (v k)) : ct w rows many f < U w rows f v := by
  rw [U_cls hf]
  exact Sm_lt (fun k _ => sp_le_lo (cls_pos h k) _) ⟨k, List.mem_range.mpr hk, hl⟩
theorem ct_mean (h : Rk w rows) (hf : ∀ r ∈ rows, f r < many) : U w rows f (fun k => mn (cls rows f k)) = ct w rows many f := by
  rw [U_cls hf]
  exact Sm_congr fun k _ => sp_lo (cls_pos h k)
def Least (w : Nat) (rows : List Row) (many : Nat) (f : Row → Nat) : Prop := (∀ r ∈ rows, f r < many) ∧ ∀ f' : Row → Nat, (∀ r ∈ rows, f' r < many) → ct w rows many f ≤ ct w rows many f'
theorem fa_zero {c : List Int} {v : Nat → Rat} (h : fa w c v = 0) : ∀ p, p < w → (co c p : Rat) = v p := fun p hp => by
  refine Classical.byContradiction fun z => ?_
  have : 0 < fa w c v := Sm_pos (fun _ _ => sq_nn _) ⟨p, List.mem_range.mpr hp, sq_pos (fun e => z (by grind))⟩
  rw [h] at this
  exact Rat.lt_irrefl this
theorem fa_congr {c : List Int} {v u : Nat → Rat} (h : ∀ p, p < w → v p = u p) : fa w c v = fa w c u := Sm_congr fun p hp => by rw [h p (List.mem_range.mp hp)]
theorem fa_self {c : List Int} {v : Nat → Rat} (h : ∀ p, p < w → (co c p : Rat) = v p) : fa w c v = 0 := by
  have : fa w c v = Sm (fun _ => 0) (List.range w) := Sm_congr fun p hp => by
    rw [h p (List.mem_range.mp hp)]
    grind
  rw [this, Sm_zero]
theorem fa_pos {c : List Int} {v : Nat → Rat} (h : ∃ p, p < w ∧ (co c p : Rat) ≠ v p) : 0 < fa w c v := by
  obtain ⟨p, hp, e⟩ := h
  exact Sm_pos (fun _ _ => sq_nn _) ⟨p, List.mem_range.mpr hp, sq_pos (fun z => e (by grind))⟩
theorem cast_ne {a b : Int} (h : a ≠ b) : (a : Rat) ≠ (b : Rat) := fun e => h (Rat.intCast_inj.mp e)
/-- at the least, none is as near to another middle -/
theorem rest_strict (h : Rk w rows) (hl : Least w rows many f) {r : Row} (hr : r ∈ rows) {j : Nat} (hj : j < many) (hne : j ≠ f r) (hs : cls rows f j ≠ []) : fa w r.1 (mn (cls rows f (f r))) < fa w r.1 (mn (cls rows f j)) := by
  obtain ⟨hf, hmin⟩ := hl
  refine Classical.byContradiction fun hnot => ?_
  have hle : fa w r.1 (mn (cls rows f j)) ≤ fa w r.1 (mn (cls rows f (f r))) := Rat.not_lt.mp hnot
  have hm := ct_mean h hf
  have hrp : (0 : Rat) < (r.2 : Rat) := Rat.intCast_pos.mpr (h.pos r hr)
  -- r goes over
  have f1 : ∀ x ∈ rows, (fun x => if x = r then j else f x) x < many := fun x hx => by
    show (if x = r then j else f x) < many
    split
    · exact hj
    · exact hf x hx
  have hU : U w rows (fun x => if x = r then j else f x) (fun k => mn (cls rows f k)) = ct w rows many f + ((r.2 : Rat) * fa w r.1 (mn (cls rows f j)) - (r.2 : Rat) * fa w r.1 (mn (cls rows f (f r)))) := by
    rw [← hm]
    unfold U
    have e := Sm_change (g := fun x : Row => (x.2 : Rat) * fa w x.1 (mn (cls rows f (if x = r then j else f x)))) (h := fun x : Row => (x.2 : Rat) * fa w x.1 (mn (cls rows f (f x)))) h.nd' hr (fun x _ hx => by show _ * fa w x.1 (mn (cls rows f (if x = r then j else f x))) = _; rw [if_neg hx])
    rw [show (if r = r then j else f r) = j from if_pos rfl] at e
    exact e
  have hc := hmin _ f1
  have hc2 := ct_le h f1 (fun k => mn (cls rows f k))
  have hmul := Rat.mul_le_mul_of_nonneg_left hle (Rat.le_of_lt hrp)
  -- equal
  have heq : fa w r.1 (mn (cls rows f j)) = fa w r.1 (mn (cls rows f (f r))) := by
    refine Rat.le_antisymm hle (Rat.not_lt.mp fun z => ?_)
    have := Rat.mul_lt_mul_of_pos_left z hrp
    grind
  have hUe : U w rows (fun x => if x = r then j else f x) (fun k => mn (cls rows f k)) = ct w rows many f := by rw [hU, heq]; grind
  -- r stands in j's middle
  have hz : fa w r.1 (mn (cls rows f j)) = 0 := by
    refine Classical.byContradiction fun hnz => ?_
    have hWj : 0 < W (cls rows f j) := W_pos (cls_pos h j) hs
    have eW : W (cls rows (fun x => if x = r then j else f x) j) = W (cls rows f j) + (r.2 : Rat) := by
      unfold W cls
      rw [Sm_filter, Sm_filter]
      have e := Sm_change (g := fun x : Row => if decide ((if x = r then j else f x) = j) = true then (x.2 : Rat) else 0) (h := fun x : Row => if decide (f x = j) = true then (x.2 : Rat) else 0) h.nd' hr (fun x _ hx => by show (if decide ((if x = r then j else f x) = j) = true then (x.2 : Rat) else 0) = _; rw [if_neg hx])
      rw [e, if_pos rfl, if_pos (decide_eq_true rfl), if_neg (show ¬ decide (f r = j) = true by rw [decide_eq_true_eq]; exact fun z => hne z.symm)]
      grind
    have eS : ∀ p, S1 (cls rows (fun x => if x = r then j else f x) j) p = S1 (cls rows f j) p + (r.2 : Rat) * (co r.1 p : Rat) := fun p => by
      unfold S1 cls
      rw [Sm_filter, Sm_filter]
      have e := Sm_change (g := fun x : Row => if decide ((if x = r then j else f x) = j) = true then (x.2 : Rat) * (co x.1 p : Rat) else 0) (h := fun x : Row => if decide (f x = j) = true then (x.2 : Rat) * (co x.1 p : Rat) else 0) h.nd' hr (fun x _ hx => by show (if decide ((if x = r then j else f x) = j) = true then (x.2 : Rat) * (co x.1 p : Rat) else 0) = _; rw [if_neg hx])
      rw [e, if_pos rfl, if_pos (decide_eq_true rfl), if_neg (show ¬ decide (f r = j) = true by rw [decide_eq_true_eq]; exact fun z => hne z.symm)]
      grind
    have hW1 : 0 < W (cls rows (fun x => if x = r then j else f x) j) := by rw [eW]; grind
    have hstrict : sp w (cls rows (fun x => if x = r then j else f x) j) < lo w (cls rows (fun x => if x = r then j else f x) j) (mn (cls rows f j)) := by
      refine lo_off hW1 ?_
      refine Classical.byContradiction fun z => hnz (fa_self fun p hp => ?_)
      have e1 : mn (cls rows f j) p = mn (cls rows (fun x => if x = r then j else f x) j) p := Classical.byContradiction fun q => z ⟨p, hp, q⟩
      have e2 : mn (cls rows f j) p * W (cls rows f j) = S1 (cls rows f j) p := Rat.div_mul_cancel (Rat.ne_of_gt hWj)
      have e3 : mn (cls rows (fun x => if x = r then j else f x) j) p * W (cls rows (fun x => if x = r then j else f x) j) = S1 (cls rows (fun x => if x = r then j else f x) j) p := Rat.div_mul_cancel (Rat.ne_of_gt hW1)
      rw [← e1, eW, eS, ← e2] at e3
      have e4 : (r.2 : Rat) * ((co r.1 p : Rat) - mn (cls rows f j) p) = 0 := by grind
      rcases Rat.mul_eq_zero.mp e4 with q | q
      · exact absurd q (Rat.ne_of_gt hrp)
      · grind
    have := ct_lt h f1 (fun k => mn (cls rows f k)) hj hstrict
    rw [hUe] at this
    exact absurd hc (Rat.not_le.mpr this)
  have zj := fa_zero hz
  have zi := fa_zero (heq ▸ hz)
  -- both middles are r's: join them, one row by itself
  obtain ⟨q, hq⟩ := List.exists_mem_of_ne_nil _ hs
  obtain ⟨hq1, hq2⟩ := cls_mem.mp hq
  have hqr : q ≠ r := fun e => hne (by rw [← hq2, e])
  have f2 : ∀ x ∈ rows, (fun x => if x = q then j else if f x = j then f r else f x) x < many := fun x hx => by
    show (if x = q then j else if f x = j then f r else f x) < many
    split
    · exact hj
    · split
      · exact hf r hr
      · exact hf x hx
  have hlt : U w rows (fun x => if x = q then j else if f x = j then f r else f x) (fun k => if k = j then fun p => (co q.1 p : Rat) else mn (cls rows f k)) < U w rows f (fun k => mn (cls rows f k)) := by
    unfold U
    have hqp : (0 : Rat) < (q.2 : Rat) := Rat.intCast_pos.mpr (h.pos q hq1)
    have zq : (q.2 : Rat) * fa w q.1 (if j = j then fun p => (co q.1 p : Rat) else mn (cls rows f j)) = 0 := by
      rw [if_pos rfl, fa_self fun p _ => rfl]
      grind
    refine Sm_lt (fun x hx => ?_) ⟨q, hq1, ?_⟩
    · show (x.2 : Rat) * fa w x.1 (if (if x = q then j else if f x = j then f r else f x) = j then _ else mn (cls rows f (if x = q then j else if f x = j then f r else f x))) ≤ _
      by_cases hx1 : x = q
      · rw [if_pos hx1, hx1, zq]
        exact Rat.mul_nonneg (Rat.le_of_lt hqp) (fa_nn _ _ _)
      · rw [if_neg hx1]
        by_cases hx2 : f x = j
        · rw [if_pos hx2, if_neg (fun z => hne z.symm), hx2, fa_congr (u := mn (cls rows f j)) fun p hp => (zi p hp).symm.trans (zj p hp)]
          exact Rat.le_refl
        · rw [if_neg hx2, if_neg hx2]
          exact Rat.le_refl
    · show (q.2 : Rat) * fa w q.1 (if (if q = q then j else if f q = j then f r else f q) = j then _ else mn (cls rows f (if q = q then j else if f q = j then f r else f q))) < _
      rw [if_pos rfl, zq, hq2]
      refine Rat.mul_pos hqp (fa_pos ?_)
      obtain ⟨p, hp, e⟩ := h.apart hq1 hr hqr
      exact ⟨p, hp, fun z => cast_ne e (z.trans (zj p hp).symm)⟩
  have := ct_le h f2 (fun k => if k = j then fun p => (co q.1 p : Rat) else mn (cls rows f k))
  have := hmin _ f2
  rw [hm] at hlt
  grind
/-- at the least, no share is empty while another one has two -/
theorem full (h : Rk w rows) (hl : Least w rows many f) {k0 : Nat} (hk : k0 < many) (h0 : cls rows f k0 = []) {a b : Row} (ha : a ∈ rows) (hb : b ∈ rows) (hab : a ≠ b) : f a ≠ f b := fun e => by
  obtain ⟨hf, hmin⟩ := hl
  have hm := ct_mean h hf
  have key : ∀ q ∈ rows, fa w q.1 (mn (cls rows f (f q))) = 0 := fun q hq => by
    refine Classical.byContradiction fun hnz => ?_
    have hqp : (0 : Rat) < (q.2 : Rat) := Rat.intCast_pos.mpr (h.pos q hq)
    have f2 : ∀ x ∈ rows, (fun x => if x = q then k0 else f x) x < many := fun x hx => by
      show (if x = q then k0 else f x) < many
      split
      · exact hk
      · exact hf x hx
    have hlt : U w rows (fun x => if x = q then k0 else f x) (fun k => if k = k0 then fun p => (co q.1 p : Rat) else mn (cls rows f k)) < U w rows f (fun k => mn (cls rows f k)) := by
      unfold U
      have zq : (q.2 : Rat) * fa w q.1 (if k0 = k0 then fun p => (co q.1 p : Rat) else mn (cls rows f k0)) = 0 := by
        rw [if_pos rfl, fa_self fun p _ => rfl]
        grind
      refine Sm_lt (fun x hx => ?_) ⟨q, hq, ?_⟩
      · show (x.2 : Rat) * fa w x.1 (if (if x = q then k0 else f x) = k0 then _ else mn (cls rows f (if x = q then k0 else f x))) ≤ _
        by_cases hx1 : x = q
        · rw [if_pos hx1, hx1, zq]
          exact Rat.mul_nonneg (Rat.le_of_lt hqp) (fa_nn _ _ _)
        · rw [if_neg hx1, if_neg (fun z => by have : x ∈ cls rows f k0 := cls_mem.mpr ⟨hx, z⟩; rw [h0] at this; cases this)]
          exact Rat.le_refl
      · show (q.2 : Rat) * fa w q.1 (if (if q = q then k0 else f q) = k0 then _ else mn (cls rows f (if q = q then k0 else f q))) < _
        rw [if_pos rfl, zq]
        refine Rat.mul_pos hqp (Rat.lt_of_le_of_ne (fa_nn _ _ _) fun z => hnz z.symm)
    have := ct_le h f2 (fun k => if k = k0 then fun p => (co q.1 p : Rat) else mn (cls rows f k))
    have := hmin _ f2
    rw [hm] at hlt
    grind
  obtain ⟨p, hp, hne⟩ := h.apart ha hb hab
  have z1 := fa_zero (key a ha) p hp
  have z2 := fa_zero (key b hb) p hp
  rw [← e, ← z1] at z2
  exact cast_ne hne z2.symm
end GR
set_option maxHeartbeats 400000
/-! FGS: groupings and maps; what the least grouping is. Plain Lean. -/
namespace GR
open FQ
variable {w many : Nat} {rows : List Row} {f : Row → Nat}
/-! ### every map has a grouping -/
theorem cls_snoc (pre : List Row) (f : Row → Nat) (r : Row) (k : Nat) : cls (pre ++ [r]) f k = cls pre f k ++ if f r = k then [r] else [] := by
  unfold cls
  rw [List.filter_append]
  congr 1
  by_cases h : f r = k <;> simp [h]
theorem cls_none {pre : List Row} {k : Nat} (h : ∀ r ∈ pre, f r ≠ k) : cls pre f k = [] := by
  unfold cls
  exact List.filter_eq_nil_iff.mpr fun r hr => by rw [decide_eq_true_eq]; exact h r hr
theorem canon_aux : ∀ (rs pre : List Row) (ls : List Nat), ls.Nodup → (∀ l ∈ ls, l < many) → (∀ r ∈ pre, f r ∈ ls) → (∀ r ∈ rs, f r < many) →
    ∃ ls' : List Nat, ls'.Nodup ∧ (∀ l ∈ ls', l < many) ∧ (∀ r ∈ pre ++ rs, f r ∈ ls') ∧ ls'.map (cls (pre ++ rs) f) ∈ allG many rs (ls.map (cls pre f))
  | [], pre, ls, nd, hl, hp, _ => ⟨ls, nd, hl, by rw [List.append_nil]; exact hp, by rw [List.append_nil]; exact List.mem_singleton.mpr rfl⟩
  | r :: rs, pre, ls, nd, hl, hp, hr => by
    have e : pre ++ r :: rs = (pre ++ [r]) ++ rs := by rw [List.append_assoc]; rfl
    by_cases hm : f r ∈ ls
    · obtain ⟨ls', a1, a2, a3, a4⟩ := canon_aux rs (pre ++ [r]) ls nd hl (fun x hx => (List.mem_append.mp hx).elim (hp x) fun z => by rw [List.mem_singleton.mp z]; exact hm) (fun x hx => hr x (List.mem_cons_of_mem _ hx))
      refine ⟨ls', a1, a2, by rw [e]; exact a3, ?_⟩
      rw [e]
      obtain ⟨i, hi⟩ := List.mem_iff_getElem?.mp hm
      obtain ⟨hi1, hi2⟩ := List.getElem?_eq_some_iff.mp hi
      refine List.mem_flatMap.mpr ⟨ls.map (cls (pre ++ [r]) f), mem_ways.mpr ⟨i, .inl (by rw [List.length_map]; exact hi1), ?_⟩, a4⟩
      unfold put
      rw [if_pos (by rw [List.length_map]; exact hi1)]
      refine List.ext_getElem (by rw [modify_len, List.length_map, List.length_map]) fun k h1 h2 => ?_
      have hk : k < ls.length := by rw [List.length_map] at h1; exact h1
      rw [List.getElem_modify, List.getElem_map, List.getElem_map, cls_snoc]
      by_cases hik : i = k
      · subst hik
        rw [if_pos rfl, hi2, if_pos rfl]
      · rw [if_neg hik, if_neg, List.append_nil]
        intro z
        exact hik ((List.getElem_inj nd).mp (hi2.trans z))
    · have nd2 : (ls ++ [f r]).Nodup := List.nodup_append.mpr ⟨nd, by simp, fun a ha b hb => by rw [List.mem_singleton.mp hb]; exact fun z => hm (z ▸ ha)⟩
      have hl2 : ∀ l ∈ ls ++ [f r], l < many := fun l h => (List.mem_append.mp h).elim (hl l) fun z => by rw [List.mem_singleton.mp z]; exact hr r List.mem_cons_self
      obtain ⟨ls', a1, a2, a3, a4⟩ := canon_aux rs (pre ++ [r]) (ls ++ [f r]) nd2 hl2 (fun x hx => (List.mem_append.mp hx).elim (fun z => List.mem_append_left _ (hp x z)) fun z => by rw [List.mem_singleton.mp z]; simp) (fun x hx => hr x (List.mem_cons_of_mem _ hx))
      refine ⟨ls', a1, a2, by rw [e]; exact a3, ?_⟩
      rw [e]
      have hlen : (ls ++ [f r]).length ≤ (List.range many).length := nd2.length_le_of_subset fun x hx => List.mem_range.mpr (hl2 x hx)
      rw [List.length_append, List.length_range] at hlen
      refine List.mem_flatMap.mpr ⟨(ls ++ [f r]).map (cls (pre ++ [r]) f), mem_ways.mpr ⟨ls.length, .inr ⟨by rw [List.length_map], by rw [List.length_map]; exact hlen⟩, ?_⟩, a4⟩
      unfold put
      rw [if_neg (by rw [List.length_map]; omega), List.map_append]
      congr 1
      · refine List.map_congr_left fun l hl => ?_
        rw [cls_snoc, if_neg (fun z : f r = l => hm (z ▸ hl)), List.append_nil]
      · show [cls (pre ++ [r]) f (f r)] = _
        rw [cls_snoc, if_pos rfl, cls_none (f := f) fun x hx (z : f x = f r) => hm (z ▸ hp x hx)]
        rfl
theorem sum_labels {ls : List Nat} (nd : ls.Nodup) (hl : ∀ l ∈ ls, l < many) (hp : ∀ r ∈ rows, f r ∈ ls) : tot w (ls.map (cls rows f)) = ct w rows many f := by
  unfold tot ct
  rw [Sm_map]
  have hperm : ls.Perm ((List.range many).filter fun k => decide (k ∈ ls)) := (List.perm_ext_iff_of_nodup nd (List.nodup_range.sublist List.filter_sublist)).mpr fun a => by
    rw [List.mem_filter, decide_eq_true_eq, List.mem_range]
    exact ⟨fun h => ⟨hl a h, h⟩, fun h => h.2⟩
  rw [Sm_perm hperm, Sm_filter]
  refine Sm_congr fun k _ => ?_
  by_cases h : k ∈ ls
  · rw [if_pos (decide_eq_true h)]
  · rw [if_neg (by rw [decide_eq_true_eq]; exact h), cls_none (f := f) fun r hr (z : f r = k) => h (z ▸ hp r hr), sp_nil]
theorem canon (hf : ∀ r ∈ rows, f r < many) : ∃ g ∈ allG many rows [], tot w g = ct w rows many f := by
  obtain ⟨ls, a1, a2, a3, a4⟩ := canon_aux (many := many) (f := f) rows [] [] List.nodup_nil (fun _ h => nomatch h) (fun _ h => nomatch h) hf
  rw [List.nil_append] at a3 a4
  exact ⟨_, a4, sum_labels a1 a2 a3⟩
/-! ### every grouping has a map -/
structure Map (rows : List Row) (g : Gp) (f : Row → Nat) : Prop where
  lt : ∀ r ∈ rows, f r < g.length
  eq : g = (List.range g.length).map (cls rows f)
  ne : ∀ s ∈ g, s ≠ []
theorem Map.at {g : Gp} (m : Map rows g f) {k : Nat} (hk : k < g.length) : g[k] = cls rows f k := by
  have e := m.eq
  have h2 : ((List.range g.length).map (cls rows f))[k]? = some (cls rows f k) := by rw [List.getElem?_map, List.getElem?_range hk]; rfl
  rw [← e, List.getElem?_eq_getElem hk] at h2
  exact Option.some.inj h2
theorem map_aux : ∀ (rs pre : List Row) (g g' : Gp) (f : Row → Nat), (pre ++ rs).Nodup → Map pre g f → g' ∈ allG many rs g → ∃ f', Map (pre ++ rs) g' f'
  | [], pre, g, g', f, _, m, h => ⟨f, by rw [List.append_nil, List.mem_singleton.mp h]; exact m⟩
  | r :: rs, pre, g, g', f, nd, m, h => by
    have e : pre ++ r :: rs = (pre ++ [r]) ++ rs := by rw [List.append_assoc]; rfl
    obtain ⟨g1, h1, h2⟩ := List.mem_flatMap.mp h
    obtain ⟨i, hi, rfl⟩ := mem_ways.mp h1
    rw [e] at nd ⊢
    have nr : r ∉ pre := fun z => by
      have := (List.nodup_append.mp (List.nodup_append.mp nd).1).2.2 r z r (List.mem_singleton.mpr rfl)
      exact this rfl
    refine map_aux rs (pre ++ [r]) _ g' (fun x => if x = r then i else f x) nd ?_ h2
    have same : ∀ k, cls pre (fun x => if x = r then i else f x) k = cls pre f k := fun k => List.filter_congr fun x hx => by
      have : x ≠ r := fun z => nr (z ▸ hx)
      show decide ((if x = r then i else f x) = k) = _
      rw [if_neg this]
    have snoc : ∀ k, cls (pre ++ [r]) (fun x => if x = r then i else f x) k = cls pre f k ++ if i = k then [r] else [] := fun k => by
      rw [cls_snoc, same]
      show _ ++ (if (if r = r then i else f r) = k then [r] else []) = _
      rw [if_pos rfl]
    have hlt : ∀ x ∈ pre ++ [r], (fun x => if x = r then i else f x) x < (put g r i).length := fun x hx => by
      show (if x = r then i else f x) < _
      unfold put
      rcases hi with hi | ⟨hi, _⟩
      · rw [if_pos hi, modify_len]
        split
        · exact hi
        · rename_i hne
          exact m.lt x ((List.mem_append.mp hx).resolve_right fun z => hne (List.mem_singleton.mp z))
      · rw [if_neg (show ¬ i < g.length by omega), List.length_append]
        split
        · show i < g.length + 1
          omega
        · rename_i hne
          have := m.lt x ((List.mem_append.mp hx).resolve_right fun z => hne (List.mem_singleton.mp z))
          show _ < g.length + 1
          omega
    rcases hi with hi | ⟨hi, _⟩
    · have el : (put g r i).length = g.length := by unfold put; rw [if_pos hi, modify_len]
      refine ⟨hlt, ?_, fun s hs => ?_⟩
      · refine List.ext_getElem (by rw [List.length_map, List.length_range]) fun k h3 h4 => ?_
        have hk : k < g.length := by omega
        rw [List.getElem_map, List.getElem_range, snoc]
        have e2 : (put g r i)[k] = if i = k then g[k] ++ [r] else g[k] := by
          have : (put g r i)[k]? = some (if i = k then g[k] ++ [r] else g[k]) := by
            unfold put
            rw [if_pos hi, List.getElem?_modify, List.getElem?_eq_getElem hk]
            split <;> rfl
          rw [List.getElem?_eq_getElem h3] at this
          exact Option.some.inj this
        rw [e2, m.at hk]
        split <;> simp
      · unfold put at hs
        rw [if_pos hi] at hs
        rcases mem_modify hs with z | ⟨t, _, rfl⟩
        · exact m.ne s z
        · simp
    · have el : put g r i = g ++ [[r]] := by unfold put; rw [if_neg (by omega)]
      refine ⟨hlt, ?_, fun s hs => ?_⟩
      · rw [el, List.length_append]
        show _ = (List.range (g.length + 1)).map _
        rw [List.range_succ, List.map_append]
        congr 1
        · conv => lhs; rw [m.eq]
          refine List.map_congr_left fun k hk => ?_
          have := List.mem_range.mp hk
          rw [snoc, if_neg (by omega), List.append_nil]
        · show _ = [cls (pre ++ [r]) (fun x => if x = r then i else f x) g.length]
          rw [snoc, if_pos hi, cls_none fun x hx z => by have := m.lt x hx; omega]
          rfl
      · rw [el] at hs
        rcases List.mem_append.mp hs with z | z
        · exact m.ne s z
        · rw [List.mem_singleton.mp z]
          simp
theorem has_map {g : Gp} (nd : rows.Nodup) (h : g ∈ allG many rows []) : ∃ f, Map rows g f := by
  obtain ⟨f, m⟩ := map_aux (many := many) rows [] [] g (fun _ => 0) (by rw [List.nil_append]; exact nd) ⟨(fun _ h => nomatch h), rfl, (fun _ h => nomatch h)⟩ h
  rw [List.nil_append] at m
  exact ⟨f, m⟩
theorem Map.tot {g : Gp} (m : Map rows g f) (hl : g.length ≤ many) : GR.tot w g = ct w rows many f := by
  have h := sum_labels (w := w) (many := many) (f := f) (rows := rows) (ls := List.range g.length) List.nodup_range (fun l h => by have := List.mem_range.mp h; omega) (fun r hr => List.mem_range.mpr (m.lt r hr))
  rw [← m.eq] at h
  exact h
/-! ### the least one -/
def Opt (w many : Nat) (rows : List Row) (g : Gp) : Prop := g ∈ allG many rows [] ∧ ∀ g' ∈ allG many rows [], tot w g ≤ tot w g'
theorem Opt.least {g : Gp} (h : Rk w rows) (hm : 0 < many) (o : Opt w many rows g) : ∃ f, Map rows g f ∧ Least w rows many f ∧ g.length ≤ many := by
  obtain ⟨f, m⟩ := has_map h.nd' o.1
  have hl : g.length ≤ many := (allG_len hm (rs := rows) (g := []) (Nat.zero_le _)).2 g o.1
  refine ⟨f, m, ⟨fun r hr => Nat.lt_of_lt_of_le (m.lt r hr) hl, fun f' hf' => ?_⟩, hl⟩
  obtain ⟨g', h1, h2⟩ := canon (w := w) hf'
  rw [← h2, ← m.tot hl]
  exact o.2 g' h1
theorem lower {g : Gp} (h : Rk w rows) (o : Opt w many rows g) {ms : List Vec} (h0 : ms ≠ []) (hl : ms.length ≤ many) : tot w g ≤ L w rows ms := by
  have hf : ∀ r ∈ rows, near w ms r.1 < many := fun r _ => Nat.lt_of_lt_of_le (near_spec h0 r.1).1 hl
  obtain ⟨g', h1, h2⟩ := canon (w := w) (f := fun r => near w ms r.1) hf
  have h3 := ct_le (w := w) (many := many) h hf (fun k => vf (at' ms k))
  have h4 := o.2 g' h1
  rw [h2] at h4
  have e : U w rows (fun r => near w ms r.1) (fun k => vf (at' ms k)) = L w rows ms := rfl
  rw [e] at h3
  grind
def mids (w : Nat) (g : Gp) : List Vec := g.map fun s => (List.range w).map (mn s)
theorem mids_len (w : Nat) (g : Gp) : (mids w g).length = g.length := List.length_map _
theorem mids_wide (w : Nat) (g : Gp) : Wide w (mids w g) := fun m hm => by
  obtain ⟨s, _, rfl⟩ := List.mem_map.mp hm
  rw [List.length_map, List.length_range]
theorem at_mids {g : Gp} {k : Nat} (hk : k < g.length) : at' (mids w g) k = (List.range w).map (mn g[k]) := by
  unfold at' mids
  rw [List.getElem?_map, List.getElem?_eq_getElem hk]
  rfl
theorem vf_mids {g : Gp} (m : Map rows g f) {k p : Nat} (hk : k < g.length) (hp : p < w) : vf (at' (mids w g) k) p = mn (cls rows f k) p := by
  rw [at_mids hk, vf_mean _ hp, m.at hk]
theorem near_own {g : Gp} (h : Rk w rows) (hm : 0 < many) (m : Map rows g f) (hl : Least w rows many f) (hlen : g.length ≤ many) {r : Row} (hr : r ∈ rows) : near w (mids w g) r.1 = f r := by
  have h0 : mids w g ≠ [] := fun e => by
    have := congrArg List.length e
    rw [mids_len] at this
    have h5 := m.lt r hr
    rw [this] at h5
    exact absurd h5 (Nat.not_lt_zero _)
  obtain ⟨n1, n2, _⟩ := near_spec (w := w) h0 r.1
  rw [mids_len] at n1
  refine Classical.byContradiction fun hne => ?_
  have hfr := m.lt r hr
  have h1 := n2 (f r) (by rw [mids_len]; exact hfr)
  rw [fa_congr (fun p hp => vf_mids m n1 hp), fa_congr (u := mn (cls rows f (f r))) (fun p hp => vf_mids m hfr hp)] at h1
  have hs : cls rows f (near w (mids w g) r.1) ≠ [] := by
    rw [← m.at n1]
    exact m.ne _ (List.getElem_mem n1)
  have h2 := rest_strict h hl hr (Nat.lt_of_lt_of_le n1 hlen) hne hs
  exact absurd h1 (Rat.not_le.mpr h2)
theorem share_own {g : Gp} (h : Rk w rows) (hm : 0 < many) (m : Map rows g f) (hl : Least w rows many f) (hlen : g.length ≤ many) (k : Nat) : share w rows (mids w g) k = cls rows f k := List.filter_congr fun r hr => by rw [near_own h hm m hl hlen hr]
theorem rest_own {g : Gp} (h : Rk w rows) (hm : 0 < many) (m : Map rows g f) (hl : Least w rows many f) (hlen : g.length ≤ many) : mv w rows (mids w g) = mids w g ∧ (List.range g.length).map (share w rows (mids w g)) = g ∧ (g ≠ [] → L w rows (mids w g) = tot w g) := by
  have e1 : (List.range g.length).map (share w rows (mids w g)) = g := by
    conv => rhs; rw [m.eq]
    exact List.map_congr_left fun k _ => share_own h hm m hl hlen k
  refine ⟨?_, e1, fun hg => ?_⟩
  · refine List.ext_getElem (mv_len _ _ _) fun k h1 h2 => ?_
    have hk : k < g.length := by rw [mids_len] at h2; exact h2
    have e2 : (mv w rows (mids w g))[k] = mvk w rows (mids w g) k := by
      have := at_mv (w := w) (rows := rows) h2
      unfold at' at this
      rw [List.getElem?_eq_getElem h1] at this
      exact this
    have e3 : (mids w g)[k] = (List.range w).map (mn g[k]) := by
      have := at_mids (w := w) hk
      unfold at' at this
      rw [List.getElem?_eq_getElem h2] at this
      exact this
    rw [e2, e3]
    unfold mvk
    rw [share_own h hm m hl hlen, ← m.at hk, if_pos (m.ne _ (List.getElem_mem hk))]
  · have h0 : mids w g ≠ [] := fun e => hg (List.length_eq_zero_iff.mp (by rw [← mids_len w g, e]; rfl))
    rw [L_shares h0, mids_len, m.tot hlen]
    unfold ct
    have e4 : Sm (fun k => lo w (share w rows (mids w g) k) (vf (at' (mids w g) k))) (List.range g.length) = Sm (fun k => sp w (cls rows f k)) (List.range g.length) := Sm_congr fun k hk => by
      have hk := List.mem_range.mp hk
      rw [share_own h hm m hl hlen]
      refine (Sm_congr fun r _ => ?_ : lo w (cls rows f k) (vf (at' (mids w g) k)) = lo w (cls rows f k) (mn (cls rows f k))).trans (sp_lo (cls_pos h k))
      rw [fa_congr fun p hp => vf_mids m hk hp]
    rw [e4]
    have hh := m.tot (w := w) hlen
    have e5 : Sm (fun k => sp w (cls rows f k)) (List.range g.length) = tot w g := by
      unfold tot
      conv => rhs; rw [m.eq]
      rw [Sm_map]
    rw [e5, hh]
    rfl
/-- from the middles of any grouping no more than its total is lost -/
theorem upper {g : Gp} (h : Rk w rows) (m : Map rows g f) (hg : g ≠ []) (hlen : g.length ≤ many) : L w rows (mids w g) ≤ tot w g := by
  have h0 : mids w g ≠ [] := fun e => hg (List.length_eq_zero_iff.mp (by rw [← mids_len w g, e]; rfl))
  have hf : ∀ r ∈ rows, f r < many := fun r hr => Nat.lt_of_lt_of_le (m.lt r hr) hlen
  rw [m.tot hlen, ← ct_mean h hf]
  refine Sm_le fun r hr => Rat.mul_le_mul_of_nonneg_left ?_ (Rat.le_of_lt (Rat.intCast_pos.mpr (h.pos r hr)))
  have h1 := (near_spec (w := w) h0 r.1).2.1 (f r) (by rw [mids_len]; exact m.lt r hr)
  rw [fa_congr (v := vf (at' (mids w g) (f r))) (u := mn (cls rows f (f r))) fun p hp => vf_mids m (m.lt r hr) hp] at h1
  exact h1
theorem allG_nil {g : Gp} (h0 : rows ≠ []) (h : g ∈ allG many rows []) : g ≠ [] := fun e => by
  cases rows with
  | nil => exact h0 rfl
  | cons r rs =>
    obtain ⟨g1, h1, h2⟩ := List.mem_flatMap.mp h
    have key : ∀ (rs : List Row) (g1 : Gp), g1 ≠ [] → ∀ g ∈ allG many rs g1, g ≠ [] := by
      intro rs
      induction rs with
      | nil => intro g1 hg g hh; rw [List.mem_singleton.mp hh]; exact hg
      | cons r rs ih =>
        intro g1 hg g hh
        obtain ⟨g2, h3, h4⟩ := List.mem_flatMap.mp hh
        obtain ⟨i, _, rfl⟩ := mem_ways.mp h3
        refine ih _ (fun z => ?_) g h4
        have hz := congrArg List.length z
        unfold put at hz
        split at hz
        · rw [modify_len] at hz
          exact hg (List.length_eq_zero_iff.mp hz)
        · simp at hz
    obtain ⟨i, _, rfl⟩ := mem_ways.mp h1
    refine key rs _ (fun z => ?_) g h2 e
    have hz := congrArg List.length z
    unfold put at hz
    split at hz <;> simp at hz
    rename_i hc
    simp at hc
end GR
set_option maxHeartbeats 400000
/-! FGT: the search for the least grouping; on a line it is made of stretches. Plain Lean. -/
namespace GR
open FC FQ
def ltR (a b : Rat) : Bool := decide (a < b)
instance : Tot ltR where
  irr a := decide_eq_false Rat.lt_irrefl
  tri a b h1 h2 := Rat.le_antisymm (Rat.not_lt.mp (of_decide_eq_false h2)) (Rat.not_lt.mp (of_decide_eq_false h1))
  tr a b c h1 h2 := decide_eq_true (by have := of_decide_eq_true h1; have := of_decide_eq_true h2; grind)
abbrev ltRow : Row → Row → Bool := ltP (ltL ltI) ltI
abbrev ltG : Gp → Gp → Bool := ltL (ltL ltRow)
abbrev ltK : Rat × Gp → Rat × Gp → Bool := ltP ltR ltG
def upd (w : Nat) (o : Option (Rat × Gp)) (g : Gp) : Option (Rat × Gp) :=
  match o with
  | none => some (tot w g, g)
  | some b => if ltK (tot w g, g) b = true then some (tot w g, g) else some b
def search (w : Nat) (o : Option (Rat × Gp)) (gs : List Gp) : Option (Rat × Gp) := gs.foldl (upd w) o
theorem ltK_no {w : Nat} {b : Rat × Gp} {g : Gp} (h : b.1 < tot w g) : ltK (tot w g, g) b = false := by
  unfold ltK ltP
  rw [if_neg (show ¬ tot w g = b.1 from fun e => Rat.ne_of_lt h e.symm)]
  exact decide_eq_false (Rat.not_lt.mpr (Rat.le_of_lt h))
theorem search_prune {w : Nat} {b : Rat × Gp} : ∀ {gs : List Gp}, (∀ g ∈ gs, b.1 < tot w g) → search w (some b) gs = some b
  | [], _ => rfl
  | g :: gs, h => by
    show search w (upd w (some b) g) gs = _
    have : upd w (some b) g = some b := by
      show (if ltK (tot w g, g) b = true then _ else _) = _
      rw [ltK_no (h g List.mem_cons_self), if_neg (by decide)]
    rw [this]
    exact search_prune fun x hx => h x (List.mem_cons_of_mem _ hx)
theorem search_some {w : Nat} : ∀ (gs : List Gp) (b : Rat × Gp), search w (some b) gs = some ((gs.map fun g => (tot w g, g)).foldl (fun a y => if ltK y a = true then y else a) b)
  | [], b => rfl
  | g :: gs, b => by
    show search w (upd w (some b) g) gs = some ((gs.map fun g => (tot w g, g)).foldl _ (if ltK (tot w g, g) b = true then (tot w g, g) else b))
    have : upd w (some b) g = some (if ltK (tot w g, g) b = true then (tot w g, g) else b) := by
      show (if ltK (tot w g, g) b = true then some (tot w g, g) else some b) = _
      split <;> rfl
    rw [this, search_some]
theorem search_none {w : Nat} {gs : List Gp} (h0 : gs ≠ []) : ∃ g ∈ gs, search w none gs = some (tot w g, g) ∧ ∀ g' ∈ gs, ltK (tot w g', g') (tot w g, g) = false := by
  cases gs with
  | nil => exact absurd rfl h0
  | cons g gs =>
    have e : search w none (g :: gs) = search w (some (tot w g, g)) gs := rfl
    rw [search_some] at e
    obtain ⟨h1, h2⟩ := fold_least (lt := ltK) (gs.map fun g => (tot w g, g)) (tot w g, g)
    have e2 : (tot w g, g) :: (gs.map fun g => (tot w g, g)) = (g :: gs).map fun g => (tot w g, g) := rfl
    rw [e2] at h1 h2
    obtain ⟨g1, m1, m2⟩ := List.mem_map.mp h1
    rw [← m2] at e h2
    exact ⟨g1, m1, e, fun g' hg' => h2 _ (List.mem_map_of_mem hg')⟩
theorem search_mem {w : Nat} : ∀ {gs : List Gp} {o : Option (Rat × Gp)} {b : Rat × Gp}, search w o gs = some b → o = some b ∨ ∃ g ∈ gs, b = (tot w g, g)
  | [], o, b, h => .inl h
  | g :: gs, o, b, h => by
    rcases search_mem (gs := gs) (o := upd w o g) h with z | ⟨g', h1, h2⟩
    · unfold upd at z
      cases o with
      | none => exact .inr ⟨g, List.mem_cons_self, (Option.some.inj z).symm⟩
      | some c =>
        replace z : (if ltK (tot w g, g) c = true then some (tot w g, g) else some c) = some b := z
        split at z
        · exact .inr ⟨g, List.mem_cons_self, (Option.some.inj z).symm⟩
        · exact .inl z
    · exact .inr ⟨g', List.mem_cons_of_mem _ h1, h2⟩
theorem search_flat {w : Nat} {α : Type} {f : α → List Gp} {o : Option (Rat × Gp)} : ∀ {l : List α}, search w o (l.flatMap f) = l.foldl (fun o x => search w o (f x)) o := by
  intro l
  unfold search
  rw [List.foldl_flatMap]
theorem ltK_le {w : Nat} {g g' : Gp} (h : ltK (tot w g', g') (tot w g, g) = false) : tot w g ≤ tot w g' := by
  refine Rat.not_lt.mp fun z => ?_
  unfold ltK ltP at h
  rw [if_neg (show ¬ tot w g' = tot w g from Rat.ne_of_lt z)] at h
  exact of_decide_eq_false h z
theorem ltK_tie {w : Nat} {g g' : Gp} (h : ltK (tot w g', g') (tot w g, g) = false) (e : tot w g' = tot w g) : ltG g' g = false := by
  unfold ltK ltP at h
  rw [if_pos (show (tot w g', g').1 = (tot w g, g).1 from e)] at h
  exact h
theorem exists_opt {w many : Nat} {rows : List Row} (hm : 0 < many) : ∃ g, Opt w many rows g := by
  obtain ⟨g, h1, _, h3⟩ := search_none (w := w) (allG_ne (many := many) (rs := rows) (g := []) hm)
  exact ⟨g, h1, fun g' h => ltK_le (h3 g' h)⟩
/-! ### stretches -/
structure Cut (rows : List Row) (g : Gp) : Prop where
  flat : g.flatten = rows
  ne : ∀ s ∈ g, s ≠ []
theorem modify_last {r : Row} {c : List Row} : ∀ {h : Gp}, (h ++ [c]).modify h.length (· ++ [r]) = h ++ [c ++ [r]]
  | [] => rfl
  | s :: h => congrArg (List.cons s) (modify_last (h := h))
theorem modify_at {g : Gp} {r : Row} {i j : Nat} (hi : i < g.length) : (g.modify j (· ++ [r]))[i]? = some (if j = i then g[i] ++ [r] else g[i]) := by
  rw [List.getElem?_modify, List.getElem?_eq_getElem hi]
  rfl
theorem cut_aux {many : Nat} : ∀ (rs : List Row) (h : Gp) (c d : List Row) (e : Gp), rs = d ++ e.flatten → (∀ s ∈ e, s ≠ []) → h.length + 1 + e.length ≤ many → (h ++ (c ++ d) :: e) ∈ allG many rs (h ++ [c])
  | [], h, c, d, e, hr, he, hl => by
    have h1 := List.append_eq_nil_iff.mp hr.symm
    have h2 : e = [] := by
      cases e with
      | nil => rfl
      | cons s e =>
        have := (List.append_eq_nil_iff.mp (show s ++ e.flatten = [] from h1.2)).1
        exact absurd this (he s List.mem_cons_self)
    rw [h1.1, h2, List.append_nil]
    exact List.mem_singleton.mpr rfl
  | r :: rs, h, c, d, e, hr, he, hl => by
    cases d with
    | cons x d =>
      have e1 : r = x ∧ rs = d ++ e.flatten := List.cons.inj hr
      obtain ⟨rfl, e2⟩ := e1
      refine List.mem_flatMap.mpr ⟨h ++ [c ++ [r]], mem_ways.mpr ⟨h.length, .inl (by simp), ?_⟩, ?_⟩
      · unfold put
        rw [if_pos (by simp), modify_last]
      · have := cut_aux (many := many) rs h (c ++ [r]) d e e2 he hl
        rw [List.append_assoc] at this
        exact this
    | nil =>
      cases e with
      | nil => cases hr
      | cons s e =>
        cases s with
        | nil => exact absurd rfl (he [] List.mem_cons_self)
        | cons x s =>
          have e1 : r = x ∧ rs = s ++ e.flatten := List.cons.inj hr
          obtain ⟨rfl, e2⟩ := e1
          rw [List.length_cons] at hl
          refine List.mem_flatMap.mpr ⟨(h ++ [c]) ++ [[r]], mem_ways.mpr ⟨h.length + 1, .inr ⟨by simp, by rw [List.length_append, List.length_singleton]; omega⟩, ?_⟩, ?_⟩
          · unfold put
            rw [if_neg (by simp)]
          · have := cut_aux (many := many) rs (h ++ [c]) [r] s e e2 (fun t ht => he t (List.mem_cons_of_mem _ ht)) (by rw [List.length_append, List.length_singleton]; omega)
            have e9 : (h ++ [c]) ++ ([r] ++ s) :: e = h ++ (c ++ []) :: (r :: s) :: e := by rw [List.append_nil, List.append_assoc]; rfl
            rw [e9] at this
            exact this
theorem Cut.mem {many : Nat} {rows : List Row} {g : Gp} (c : Cut rows g) (h0 : rows ≠ []) (hl : g.length ≤ many) : g ∈ allG many rows [] := by
  obtain ⟨cf, cn⟩ := c
  cases g with
  | nil => exact absurd cf.symm h0
  | cons s e =>
    cases s with
    | nil => exact absurd rfl (cn [] List.mem_cons_self)
    | cons r d =>
      rw [← cf]
      show _ ∈ allG many (r :: (d ++ e.flatten)) []
      rw [List.length_cons] at hl
      refine List.mem_flatMap.mpr ⟨[[r]], mem_ways.mpr ⟨0, .inr ⟨rfl, by show 0 < many; omega⟩, rfl⟩, ?_⟩
      have := cut_aux (many := many) (d ++ e.flatten) [] [r] d e rfl (fun t ht => cn t (List.mem_cons_of_mem _ ht)) (by show 0 + 1 + _ ≤ _; omega)
      exact this
/-- what was begun goes on -/
theorem grows {many : Nat} : ∀ {rs : List Row} {g g' : Gp}, g' ∈ allG many rs g → ∀ i (hi : i < g.length), ∃ t, g'[i]? = some t ∧ ∀ x ∈ g[i], x ∈ t
  | [], g, g', h, i, hi => by
    rw [List.mem_singleton.mp h]
    exact ⟨g[i], List.getElem?_eq_getElem hi, fun x hx => hx⟩
  | r :: rs, g, g', h, i, hi => by
    obtain ⟨g1, h1, h2⟩ := List.mem_flatMap.mp h
    obtain ⟨j, _, rfl⟩ := mem_ways.mp h1
    have e : ∃ s, (put g r j)[i]? = some s ∧ ∀ x ∈ g[i], x ∈ s := by
      unfold put
      split
      · rw [modify_at hi]
        by_cases hj : j = i
        · rw [if_pos hj]
          exact ⟨_, rfl, fun x hx => List.mem_append_left _ hx⟩
        · rw [if_neg hj]
          exact ⟨_, rfl, fun x hx => hx⟩
      · rw [List.getElem?_append_left hi, List.getElem?_eq_getElem hi]
        exact ⟨_, rfl, fun x hx => hx⟩
    obtain ⟨s, e1, e2⟩ := e
    obtain ⟨hi2, e3⟩ := List.getElem?_eq_some_iff.mp e1
    obtain ⟨t, e4, e5⟩ := grows h2 i hi2
    exact ⟨t, e4, fun x hx => e5 x (by rw [e3]; exact e2 x hx)⟩
/-- no row of another group is between two of a group -/
def Cont (lt : Row → Row → Prop) (g : Gp) : Prop := ∀ (i j : Nat) (s t : List Row), g[i]? = some s → g[j]? = some t → i ≠ j → ∀ x ∈ s, ∀ z ∈ s, ∀ y ∈ t, lt x y → lt y z → False
theorem flat_modify {r : Row} : ∀ {g : Gp} {i : Nat}, i + 1 = g.length → (g.modify i (· ++ [r])).flatten = g.flatten ++ [r]
  | [], _, h => by cases h
  | [s], 0, _ => by simp
  | s :: s2 :: g, 0, h => by simp at h
  | [s], i + 1, h => by simp at h
  | s :: s2 :: g, i + 1, h => by
    have ih := flat_modify (r := r) (g := s2 :: g) (i := i) (by simpa using h)
    show s ++ ((s2 :: g).modify i (· ++ [r])).flatten = (s ++ (s2 :: g).flatten) ++ [r]
    rw [ih, List.append_assoc]
theorem cont_flat {many : Nat} {lt : Row → Row → Prop} : ∀ {rs pre : List Row} {g g' : Gp}, (pre ++ rs).Pairwise lt → g.flatten = pre → (∀ s ∈ g, s ≠ []) → Cont lt g' → g' ∈ allG many rs g → Cut (pre ++ rs) g'
  | [], pre, g, g', pw, hf, hn, hc, h => by
    rw [List.mem_singleton.mp h, List.append_nil]
    exact ⟨hf, hn⟩
  | r :: rs, pre, g, g', pw, hf, hn, hc, h => by
    obtain ⟨g1, h1, h2⟩ := List.mem_flatMap.mp h
    obtain ⟨i, hi, rfl⟩ := mem_ways.mp h1
    have e : pre ++ r :: rs = (pre ++ [r]) ++ rs := by rw [List.append_assoc]; rfl
    have hlt : ∀ x ∈ pre, lt x r := fun x hx => (List.pairwise_append.mp pw).2.2 x hx r List.mem_cons_self
    have pw2 := pw
    rw [e] at pw ⊢
    rcases hi with hi | ⟨hi, _⟩
    · -- the last group
      have hlast : i + 1 = g.length := by
        refine Classical.byContradiction fun hne => ?_
        have hj : i + 1 < g.length := by omega
        have hput : put g r i = g.modify i (· ++ [r]) := by unfold put; rw [if_pos hi]
        have hl1 : (put g r i).length = g.length := by rw [hput, modify_len]
        -- a member of group i, one of a later group
        obtain ⟨x, hx⟩ := List.exists_mem_of_ne_nil _ (hn _ (List.getElem_mem hi))
        obtain ⟨y, hy⟩ := List.exists_mem_of_ne_nil _ (hn _ (List.getElem_mem hj))
        obtain ⟨s, s1, s2⟩ := grows h2 i (by rw [hl1]; exact hi)
        obtain ⟨t, t1, t2⟩ := grows h2 (i + 1) (by rw [hl1]; exact hj)
        have ei : (put g r i)[i]? = some (g[i] ++ [r]) := by rw [hput, modify_at hi, if_pos rfl]
        have ej : (put g r i)[i + 1]? = some g[i + 1] := by rw [hput, modify_at hj, if_neg (by omega)]
        obtain ⟨_, ei2⟩ := List.getElem?_eq_some_iff.mp ei
        obtain ⟨_, ej2⟩ := List.getElem?_eq_some_iff.mp ej
        rw [ei2] at s2
        rw [ej2] at t2
        have hxy : lt x y := by
          rw [← hf] at pw2
          have p1 := (List.pairwise_append.mp pw2).1
          rw [List.pairwise_flatten] at p1
          have p2 := List.pairwise_iff_getElem.mp p1.2 i (i + 1) hi hj (by omega)
          exact p2 x hx y hy
        have hyr : lt y r := hlt y (by rw [← hf]; exact List.mem_flatten.mpr ⟨_, List.getElem_mem hj, hy⟩)
        exact hc i (i + 1) s t s1 t1 (by omega) x (s2 x (List.mem_append_left _ hx)) r (s2 r (by simp)) y (t2 y hy) hxy hyr
      refine cont_flat (lt := lt) pw ?_ (fun s hs => ?_) hc h2
      · unfold put
        rw [if_pos hi, flat_modify hlast, hf]
      · unfold put at hs
        rw [if_pos hi] at hs
        rcases mem_modify hs with z | ⟨t, _, rfl⟩
        · exact hn s z
        · simp
    · have ep : put g r i = g ++ [[r]] := by unfold put; rw [if_neg (by omega)]
      rw [ep] at h2
      refine cont_flat (lt := lt) pw ?_ (fun s hs => ?_) hc h2
      · rw [List.flatten_append, hf]
        rfl
      · rcases List.mem_append.mp hs with z | z
        · exact hn s z
        · rw [List.mem_singleton.mp z]
          simp
def Line (rows : List Row) : Prop := rows.Pairwise fun a b => co a.1 0 < co b.1 0
theorem fa_one (c : List Int) (v : Nat → Rat) : fa 1 c v = ((co c 0 : Rat) - v 0) * ((co c 0 : Rat) - v 0) := by
  show ((co c 0 : Rat) - v 0) * ((co c 0 : Rat) - v 0) + 0 = _
  rw [Rat.add_zero]
theorem between {x y z a b : Rat} (h1 : x < y) (h2 : y < z) (hx : (x - a) * (x - a) < (x - b) * (x - b)) (hz : (z - a) * (z - a) < (z - b) * (z - b)) (hy : (y - b) * (y - b) < (y - a) * (y - a)) : False := by
  have p1 : 0 < y - x := by grind
  have p2 : 0 < z - y := by grind
  have p3 : 0 < z - x := by grind
  have q1 := Rat.mul_pos p2 (show 0 < (x - b) * (x - b) - (x - a) * (x - a) by grind)
  have q2 := Rat.mul_pos p1 (show 0 < (z - b) * (z - b) - (z - a) * (z - a) by grind)
  have q3 := Rat.mul_pos p3 (show 0 < (y - a) * (y - a) - (y - b) * (y - b) by grind)
  have e : (z - x) * ((y - a) * (y - a) - (y - b) * (y - b)) = -((z - y) * ((x - b) * (x - b) - (x - a) * (x - a)) + (y - x) * ((z - b) * (z - b) - (z - a) * (z - a))) := by grind
  grind
theorem opt_cut {many : Nat} {rows : List Row} {g : Gp} (h : Rk 1 rows) (hl : Line rows) (hm : 0 < many) (o : Opt 1 many rows g) : Cut rows g := by
  obtain ⟨f, m, le, hlen⟩ := o.least h hm
  have key := cont_flat (many := many) (lt := fun a b : Row => co a.1 0 < co b.1 0) (rs := rows) (pre := []) (g := []) (g' := g) (by rw [List.nil_append]; exact hl) rfl (fun _ h => nomatch h) ?_ o.1
  · rw [List.nil_append] at key
    exact key
  · intro i j s t hs ht hij x hx z hz y hy hxy hyz
    obtain ⟨hi, es⟩ := List.getElem?_eq_some_iff.mp hs
    obtain ⟨hj, et⟩ := List.getElem?_eq_some_iff.mp ht
    rw [m.at hi] at es
    rw [m.at hj] at et
    subst es et
    obtain ⟨x1, x2⟩ := cls_mem.mp hx
    obtain ⟨y1, y2⟩ := cls_mem.mp hy
    obtain ⟨z1, z2⟩ := cls_mem.mp hz
    have a := rest_strict h le x1 (j := j) (Nat.lt_of_lt_of_le hj hlen) (by omega) (List.ne_nil_of_mem hy)
    have b := rest_strict h le z1 (j := j) (Nat.lt_of_lt_of_le hj hlen) (by omega) (List.ne_nil_of_mem hy)
    have c := rest_strict h le y1 (j := i) (Nat.lt_of_lt_of_le hi hlen) (by omega) (List.ne_nil_of_mem hx)
    rw [x2] at a
    rw [z2] at b
    rw [y2] at c
    rw [fa_one, fa_one] at a b c
    exact between (Rat.intCast_lt_intCast.mpr hxy) (Rat.intCast_lt_intCast.mpr hyz) a b c
theorem flat_ge : ∀ {g : Gp}, (∀ s ∈ g, s ≠ []) → g.length ≤ g.flatten.length
  | [], _ => Nat.le_refl _
  | s :: g, h => by
    have h1 := List.length_pos_iff.mpr (h s List.mem_cons_self)
    have h2 := flat_ge (g := g) fun t ht => h t (List.mem_cons_of_mem _ ht)
    rw [List.length_cons, List.flatten_cons, List.length_append]
    omega
theorem opt_len {w many : Nat} {rows : List Row} {g : Gp} (h : Rk w rows) (hm : 0 < many) (o : Opt w many rows g) (c : Cut rows g) : g.length = min many rows.length := by
  obtain ⟨f, m, le, hlen⟩ := o.least h hm
  have h1 := flat_ge c.ne
  rw [c.flat] at h1
  by_cases hg : g.length < many
  · have h0 : cls rows f g.length = [] := by
      refine List.eq_nil_iff_forall_not_mem.mpr fun x hx => ?_
      obtain ⟨x1, x2⟩ := cls_mem.mp hx
      have := m.lt x x1
      omega
    have nd : (rows.map f).Nodup := by
      refine List.pairwise_map.mpr (List.Pairwise.imp_of_mem ?_ (show rows.Pairwise (· ≠ ·) from h.nd'))
      intro a b ha hb hab
      exact full h le hg h0 ha hb hab
    have h2 := nd.length_le_of_subset (l₂ := List.range g.length) fun x hx => by
      obtain ⟨r, hr, rfl⟩ := List.mem_map.mp hx
      exact List.mem_range.mpr (m.lt r hr)
    rw [List.length_map, List.length_range] at h2
    omega
  · omega
theorem cut_opt {many : Nat} {rows : List Row} {g : Gp} (h : Rk 1 rows) (hl : Line rows) (hm : 0 < many) (h0 : rows ≠ []) (c : Cut rows g) (hg : g.length ≤ many) (least : ∀ g', Cut rows g' → g'.length ≤ many → tot 1 g ≤ tot 1 g') : Opt 1 many rows g := by
  obtain ⟨g0, o⟩ := exists_opt (w := 1) (rows := rows) hm
  refine ⟨c.mem h0 hg, fun g' hg' => Rat.le_trans (least g0 (opt_cut h hl hm o) ?_) (o.2 g' hg')⟩
  have := opt_len h hm o (opt_cut h hl hm o)
  omega
/-! ### the begins -/
def bg (b : Int) : Gp → List Int
  | [] => []
  | s :: g => b :: bg (b + s.length) g
theorem bg_len : ∀ (g : Gp) (b : Int), (bg b g).length = g.length
  | [], _ => rfl
  | s :: g, b => by
    show (bg _ g).length + 1 = _
    rw [bg_len g]
    rfl
abbrev ltB : List Int → List Int → Bool := ltL ltI
theorem lt_prefix : ∀ {s t : List Row}, t ≠ [] → ltL ltRow s (s ++ t) = true
  | [], [], h => absurd rfl h
  | [], _ :: _, _ => rfl
  | x :: s, t, h => by
    show (if x = x then _ else _) = true
    rw [if_pos rfl]
    exact lt_prefix h
theorem split_at {s t u v : List Row} (h : s ++ u = t ++ v) (hl : s.length < t.length) : ∃ d, d ≠ [] ∧ t = s ++ d := by
  refine ⟨t.drop s.length, fun e => ?_, ?_⟩
  · have := congrArg List.length e
    rw [List.length_drop] at this
    simp at this
    omega
  · have h2 := congrArg (List.take s.length) h
    rw [List.take_left, List.take_append_of_le_length (by omega)] at h2
    conv => rhs; lhs; rw [h2]
    rw [List.take_append_drop]
theorem bg_order : ∀ {g g' : Gp} {b : Int}, g.flatten = g'.flatten → g.length = g'.length → ltB (bg b g) (bg b g') = true → ltG g g' = true
  | [], [], b, _, _, h => by cases h
  | [], _ :: _, _, _, hl, _ => by cases hl
  | _ :: _, [], _, _, hl, _ => by cases hl
  | s :: g, s' :: g', b, hf, hl, h => by
    replace h : (if b = b then ltB (bg (b + s.length) g) (bg (b + s'.length) g') else ltI b b) = true := h
    rw [if_pos rfl] at h
    have hf2 : s ++ g.flatten = s' ++ g'.flatten := hf
    show (if s = s' then ltG g g' else ltL ltRow s s') = true
    by_cases hs : s = s'
    · subst hs
      rw [if_pos rfl]
      exact bg_order (List.append_cancel_left hf2) (Nat.succ.inj hl) h
    · rw [if_neg hs]
      have hlen : s.length ≠ s'.length := fun e => hs (List.append_inj hf2 e).1
      cases g with
      | nil =>
        cases g' with
        | nil => cases h
        | cons _ _ => cases hl
      | cons t g =>
        cases g' with
        | nil => cases hl
        | cons t' g' =>
          replace h : (if b + (s.length : Int) = b + (s'.length : Int) then ltB (bg (b + s.length + t.length) g) (bg (b + s'.length + t'.length) g') else ltI (b + s.length) (b + s'.length)) = true := h
          rw [if_neg (by omega)] at h
          have h3 := of_decide_eq_true h
          obtain ⟨d, hd, rfl⟩ := split_at hf2 (by omega)
          exact lt_prefix hd
theorem bg_inj : ∀ {g g' : Gp} {b : Int}, g.flatten = g'.flatten → bg b g = bg b g' → g = g'
  | [], [], b, _, _ => rfl
  | [], _ :: _, _, _, h => by cases h
  | _ :: _, [], _, _, h => by cases h
  | s :: g, s' :: g', b, hf, h => by
    have h2 : bg (b + s.length) g = bg (b + s'.length) g' := (List.cons.inj h).2
    have hf2 : s ++ g.flatten = s' ++ g'.flatten := hf
    have hs : s.length = s'.length := by
      cases g with
      | nil =>
        cases g' with
        | nil =>
          have := congrArg List.length hf2
          simpa using this
        | cons _ _ => cases h2
      | cons t g =>
        cases g' with
        | nil => cases h2
        | cons t' g' =>
          have h3 : b + (s.length : Int) = b + (s'.length : Int) := (List.cons.inj h2).1
          omega
    obtain ⟨e1, e2⟩ := List.append_inj hf2 hs
    subst e1
    rw [bg_inj e2 h2]
abbrev ltD : Rat × List Int → Rat × List Int → Bool := ltP ltR ltB
/-- the least cut, the first among the equal -/
def LeastCut (k : Nat) (b : Int) (rows : List Row) (g : Gp) : Prop := Cut rows g ∧ g.length ≤ k ∧ ∀ g', Cut rows g' → g'.length ≤ k → ltD (tot 1 g', bg b g') (tot 1 g, bg b g) = false
theorem ltD_le {x y : Rat} {l l' : List Int} (h : ltD (y, l') (x, l) = false) : x ≤ y := by
  refine Rat.not_lt.mp fun z => ?_
  unfold ltD ltP at h
  rw [if_neg (show ¬ y = x from Rat.ne_of_lt z)] at h
  exact of_decide_eq_false h z
theorem LeastCut.opt {many : Nat} {rows : List Row} {g : Gp} (h : Rk 1 rows) (hl : Line rows) (hm : 0 < many) (h0 : rows ≠ []) (c : LeastCut many 0 rows g) : Opt 1 many rows g := cut_opt h hl hm h0 c.1 c.2.1 fun g' h1 h2 => ltD_le (c.2.2 g' h1 h2)
/-- the search's own is the stretches' own -/
theorem same_found {many : Nat} {rows : List Row} {g g' : Gp} (h : Rk 1 rows) (hl : Line rows) (hm : 0 < many) (h0 : rows ≠ []) (c : LeastCut many 0 rows g) (o : Opt 1 many rows g') (first : ∀ t ∈ allG many rows [], tot 1 t = tot 1 g' → ltG t g' = false) : g = g' ∧ tot 1 g = tot 1 g' := by
  have o1 := c.opt h hl hm h0
  have c2 := opt_cut h hl hm o
  have l1 := opt_len h hm o1 c.1
  have l2 := opt_len h hm o c2
  have et : tot 1 g = tot 1 g' := Rat.le_antisymm (o1.2 _ o.1) (o.2 _ o1.1)
  have ef : g.flatten = g'.flatten := c.1.flat.trans c2.flat.symm
  have hnot : ltB (bg 0 g') (bg 0 g) = false := by
    have := c.2.2 g' c2 (by rw [l2]; omega)
    unfold ltD ltP at this
    rw [if_pos (show (tot 1 g', bg 0 g').1 = (tot 1 g, bg 0 g).1 from et.symm)] at this
    exact this
  have hnot2 : ltB (bg 0 g) (bg 0 g') = false := by
    cases e : ltB (bg 0 g) (bg 0 g') with
    | false => rfl
    | true =>
      have := bg_order ef (l1.trans l2.symm) e
      rw [first g o1.1 et] at this
      cases this
  exact ⟨bg_inj ef ((inferInstance : Tot ltB).tri _ _ hnot2 hnot), et⟩
end GR
set_option maxHeartbeats 400000
/-! FGU: the same groupings of rows put out to a greater width. Plain Lean. -/
namespace GR
open FC FQ
variable {φ : Row → Row} {w v : Nat}
abbrev mapG (φ : Row → Row) (g : Gp) : Gp := g.map (List.map φ)
theorem put_map {g : Gp} {r : Row} {i : Nat} : put (mapG φ g) (φ r) i = mapG φ (put g r i) := by
  unfold put
  rw [show (mapG φ g).length = g.length from List.length_map _]
  split
  · refine List.ext_getElem? fun k => ?_
    rw [List.getElem?_modify]
    show (fun a => if i = k then a ++ [φ r] else a) <$> (g.map (List.map φ))[k]? = ((g.modify i fun x => x ++ [r]).map (List.map φ))[k]?
    rw [List.getElem?_map, List.getElem?_map, List.getElem?_modify]
    cases g[k]? with
    | none => rfl
    | some s =>
      show some (if i = k then s.map φ ++ [φ r] else s.map φ) = some (List.map φ (if i = k then s ++ [r] else s))
      split
      · rw [List.map_append]; rfl
      · rfl
  · show _ = (g ++ [[r]]).map (List.map φ)
    rw [List.map_append]
    rfl
theorem ways_map {many : Nat} {g : Gp} {r : Row} : ways many (mapG φ g) (φ r) = (ways many g r).map (mapG φ) := by
  unfold ways
  rw [show (mapG φ g).length = g.length from List.length_map _, List.map_map]
  exact List.map_congr_left fun i _ => put_map
theorem allG_map {many : Nat} : ∀ (rs : List Row) (g : Gp), allG many (rs.map φ) (mapG φ g) = (allG many rs g).map (mapG φ)
  | [], g => rfl
  | r :: rs, g => by
    show (ways many (mapG φ g) (φ r)).flatMap (allG many (rs.map φ)) = ((ways many g r).flatMap (allG many rs)).map (mapG φ)
    rw [ways_map, List.flatMap_map, List.map_flatMap]
    congr 1
    funext g1
    exact allG_map rs g1
theorem mem_all {many : Nat} : ∀ {rs : List Row} {g g' : Gp} {s : List Row}, g' ∈ allG many rs g → s ∈ g' → ∀ r ∈ s, r ∈ rs ∨ ∃ t ∈ g, r ∈ t
  | [], g, g', s, h, hs, r, hr => by
    rw [List.mem_singleton.mp h] at hs
    exact .inr ⟨s, hs, hr⟩
  | x :: rs, g, g', s, h, hs, r, hr => by
    obtain ⟨g1, h1, h2⟩ := List.mem_flatMap.mp h
    obtain ⟨i, _, rfl⟩ := mem_ways.mp h1
    rcases mem_all h2 hs r hr with z | ⟨t, ht, hr2⟩
    · exact .inl (List.mem_cons_of_mem _ z)
    · unfold put at ht
      split at ht
      · rcases mem_modify ht with z | ⟨u, hu, rfl⟩
        · exact .inr ⟨t, z, hr2⟩
        · rcases List.mem_append.mp hr2 with z | z
          · exact .inr ⟨u, hu, z⟩
          · rw [List.mem_singleton.mp z]
            exact .inl List.mem_cons_self
      · rcases List.mem_append.mp ht with z | z
        · exact .inr ⟨t, z, hr2⟩
        · rw [List.mem_singleton.mp z] at hr2
          rw [List.mem_singleton.mp hr2]
          exact .inl List.mem_cons_self
/-- spreads that the map keeps: the least stays -/
theorem opt_map {many : Nat} {rows : List Row} {g g' : Gp} (hk : ∀ s : List Row, (∀ r ∈ s, r ∈ rows) → sp v (s.map φ) = sp w s) (o : Opt w many rows g) (o' : Opt v many (rows.map φ) g') : tot v g' = tot w g := by
  have key : ∀ g1 ∈ allG many rows [], tot v (mapG φ g1) = tot w g1 := fun g1 h1 => by
    unfold tot
    rw [Sm_map]
    refine Sm_congr fun s hs => hk s fun r hr => ?_
    rcases mem_all h1 hs r hr with z | ⟨t, ht, _⟩
    · exact z
    · cases ht
  have em : allG many (rows.map φ) [] = (allG many rows []).map (mapG φ) := allG_map rows []
  have h1 := o'.1
  rw [em] at h1
  obtain ⟨g1, a1, rfl⟩ := List.mem_map.mp h1
  refine Rat.le_antisymm ?_ ?_
  · rw [← key g o.1]
    exact o'.2 _ (by rw [em]; exact List.mem_map_of_mem o.1)
  · rw [key g1 a1]
    exact o.2 _ a1
/-- a column of one number adds nothing -/
theorem col_const {s : List Row} {p : Nat} {K : Rat} (h : ∀ r ∈ s, (co r.1 p : Rat) = K) (hp : ∀ r ∈ s, 0 < r.2) : S2 s p - S1 s p * S1 s p / W s = 0 := by
  by_cases h0 : s = []
  · subst h0
    show (0 : Rat) - 0 * 0 / 0 = 0
    rw [Rat.zero_mul, Rat.div_def, Rat.zero_mul]
    grind
  · have hW := Rat.ne_of_gt (W_pos hp h0)
    have e2 : S2 s p = K * K * W s := by
      unfold S2 W
      rw [← Sm_mul]
      refine Sm_congr fun r hr => ?_
      rw [h r hr]
      grind
    have e1 : S1 s p = K * W s := by
      unfold S1 W
      rw [← Sm_mul]
      refine Sm_congr fun r hr => ?_
      rw [h r hr]
      grind
    rw [e1, e2]
    have h3 := Rat.div_mul_cancel (a := K * W s * (K * W s)) hW
    have h4 : (K * K * W s - K * W s * (K * W s) / W s) * W s = 0 := by grind
    rcases Rat.mul_eq_zero.mp h4 with z | z
    · exact z
    · exact absurd z hW
/-- with the number at one place, one number at each of the others -/
theorem sp_wide {s : List Row} {at_ : Nat} (hat : at_ < 3) (hp : ∀ r ∈ s, 0 < r.2) (h2 : ∀ r ∈ s, (φ r).2 = r.2) (hh : ∀ r ∈ s, co (φ r).1 at_ = co r.1 0) (hc : ∀ p, p < 3 → p ≠ at_ → ∃ K : Int, ∀ r ∈ s, co (φ r).1 p = K) : sp 3 (s.map φ) = sp 1 s := by
  have pos' : ∀ r ∈ s.map φ, 0 < r.2 := fun r hr => by
    obtain ⟨x, hx, rfl⟩ := List.mem_map.mp hr
    rw [h2 x hx]
    exact hp x hx
  have eW : W (s.map φ) = W s := by
    unfold W
    rw [Sm_map]
    exact Sm_congr fun r hr => by rw [h2 r hr]
  have e1 : S1 (s.map φ) at_ = S1 s 0 := by
    unfold S1
    rw [Sm_map]
    exact Sm_congr fun r hr => by rw [h2 r hr, hh r hr]
  have e2 : S2 (s.map φ) at_ = S2 s 0 := by
    unfold S2
    rw [Sm_map]
    exact Sm_congr fun r hr => by rw [h2 r hr, hh r hr]
  have zero : ∀ p, p < 3 → p ≠ at_ → S2 (s.map φ) p - S1 (s.map φ) p * S1 (s.map φ) p / W (s.map φ) = 0 := fun p h3 hne => by
    obtain ⟨K, hK⟩ := hc p h3 hne
    refine col_const (K := (K : Rat)) (fun r hr => ?_) pos'
    obtain ⟨x, hx, rfl⟩ := List.mem_map.mp hr
    rw [hK x hx]
  have own : S2 (s.map φ) at_ - S1 (s.map φ) at_ * S1 (s.map φ) at_ / W (s.map φ) = S2 s 0 - S1 s 0 * S1 s 0 / W s := by rw [e1, e2, eW]
  have es : sp 1 s = S2 s 0 - S1 s 0 * S1 s 0 / W s := by
    show (S2 s 0 - S1 s 0 * S1 s 0 / W s) + 0 = _
    rw [Rat.add_zero]
  have e3 : sp 3 (s.map φ) = (S2 (s.map φ) 0 - S1 (s.map φ) 0 * S1 (s.map φ) 0 / W (s.map φ)) + ((S2 (s.map φ) 1 - S1 (s.map φ) 1 * S1 (s.map φ) 1 / W (s.map φ)) + ((S2 (s.map φ) 2 - S1 (s.map φ) 2 * S1 (s.map φ) 2 / W (s.map φ)) + 0)) := rfl
  rw [e3, es, ← own]
  have h012 : at_ = 0 ∨ at_ = 1 ∨ at_ = 2 := by omega
  rcases h012 with rfl | rfl | rfl
  · rw [zero 1 (by omega) (by omega), zero 2 (by omega) (by omega)]
    grind
  · rw [zero 0 (by omega) (by omega), zero 2 (by omega) (by omega)]
    grind
  · rw [zero 0 (by omega) (by omega), zero 1 (by omega) (by omega)]
    grind
end GR
set_option maxHeartbeats 2000000
namespace K88
open PySem PySem.Spec PyProof.Rows L2 Evl FC
def topS (i : Nat) : Stmt := PySem.Challenge.pw_fewcolours_k88_whole_lines_beside_all_gr.main.body.getD i (.Pass ⟨0, 0, 0, 0⟩)
abbrev names_Groups : List Str := ["own_begun", "own_spreads"]
theorem pa_Groups_own_begun : PutAt "own_begun" names_Groups 0 := by decide +kernel
theorem pa_Groups_own_spreads : PutAt "own_spreads" names_Groups 1 := by decide +kernel
theorem nm_Groups_so_far : ("so_far" : Str) ∉ names_Groups := by decide +kernel
theorem nm_Groups_with_row : ("with_row" : Str) ∉ names_Groups := by decide +kernel
theorem nm_Groups_ways : ("ways" : Str) ∉ names_Groups := by decide +kernel
abbrev names_Stretches : List Str := ["own_many", "own_numbers", "own_squares"]
theorem pa_Stretches_own_many : PutAt "own_many" names_Stretches 0 := by decide +kernel
theorem pa_Stretches_own_numbers : PutAt "own_numbers" names_Stretches 1 := by decide +kernel
theorem pa_Stretches_own_squares : PutAt "own_squares" names_Stretches 2 := by decide +kernel
theorem nm_Stretches_spread_from : ("spread_from" : Str) ∉ names_Stretches := by decide +kernel
abbrev e_Groups (C : Addr) (a : ((List (List ((List Int) × Int))) × (List (Int × Int)))) : MP := mO C names_Groups [(dL (dL (dP (dU dI) dI))) a.1, (dL (dP dI dI)) a.2]
noncomputable def m_in_both (v_one : Int) (v_other : Int) : Option (Int) :=
  ((whiL (fun (s_ : Int × Int) => (fun (v_one1 : Int) (v_other2 : Int) => some (decide ((0 : Int) < v_other2))) s_.1 s_.2) (fun (s_ : Int × Int) => (fun (v_one1 : Int) (v_other2 : Int) => ((modG v_one1 v_other2).bind fun t5 => some (v_other2, t5))) s_.1 s_.2) ((absI v_one), (absI v_other))).bind fun (v_one7, v_other8) => some v_one7)
def pf_m_in_both : Pf := fun as m R => ∃ (v_one : Int) (v_other : Int) (r_ : Int), m_in_both v_one v_other = some r_ ∧ as = [.da (dI v_one), .da (dI v_other)] ∧ m = [] ∧ R = fun c m2 => c = .da (dI r_) ∧ m2 = []
abbrev sm_in_both : Stmt := topS 1
abbrev N_m_in_both : List Str := ["one", "other"]
theorem sc_m_in_both : FnScope N_m_in_both ["one", "other"] (defScope sm_in_both) := ⟨rfl, rfl, rfl, by decide +kernel, rfl, by decide +kernel, by decide +kernel⟩
noncomputable def m_part (v_top : Int) (v_bottom : Int) : Option ((Int × Int)) :=
  ((cond (decide (v_bottom < (0 : Int))) (some ((-v_top), (-v_bottom))) (some (v_top, v_bottom))).bind fun (v_top1, v_bottom2) => ((m_in_both v_top1 v_bottom2).bind fun t4 => ((fdivG v_top1 t4).bind fun t6 => ((fdivG v_bottom2 t4).bind fun t8 => some (t6, t8)))))
def pf_m_part : Pf := fun as m R => ∃ (v_top : Int) (v_bottom : Int) (r_ : (Int × Int)), m_part v_top v_bottom = some r_ ∧ as = [.da (dI v_top), .da (dI v_bottom)] ∧ m = [] ∧ R = fun c m2 => c = .da ((dP dI dI) r_) ∧ m2 = []
abbrev sm_part : Stmt := topS 2
abbrev N_m_part : List Str := ["top", "bottom", "both"]
theorem sc_m_part : FnScope N_m_part ["top", "bottom"] (defScope sm_part) := ⟨rfl, rfl, rfl, by decide +kernel, rfl, by decide +kernel, by decide +kernel⟩
noncomputable def m_plus (v_one : (Int × Int)) (v_other : (Int × Int)) : Option ((Int × Int)) :=
  ((mulG (v_one).1 (v_other).2).bind fun t1 => ((mulG (v_other).1 (v_one).2).bind fun t3 => ((mulG (v_one).2 (v_other).2).bind fun t5 => ((m_part (t1 + t3) t5).bind fun t7 => some t7))))
def pf_m_plus : Pf := fun as m R => ∃ (v_one : (Int × Int)) (v_other : (Int × Int)) (r_ : (Int × Int)), m_plus v_one v_other = some r_ ∧ as = [.da ((dP dI dI) v_one), .da ((dP dI dI) v_other)] ∧ m = [] ∧ R = fun c m2 => c = .da ((dP dI dI) r_) ∧ m2 = []
abbrev sm_plus : Stmt := topS 3
abbrev N_m_plus : List Str := ["one", "other"]
theorem sc_m_plus : FnScope N_m_plus ["one", "other"] (defScope sm_plus) := ⟨rfl, rfl, rfl, by decide +kernel, rfl, by decide +kernel, by decide +kernel⟩
noncomputable def m_plus_q (v_one : (Option (Int × Int))) (v_other : (Int × Int)) : Option ((Int × Int)) :=
  ((mulG (qv v_one).1 (v_other).2).bind fun t1 => ((mulG (v_other).1 (qv v_one).2).bind fun t3 => ((mulG (qv v_one).2 (v_other).2).bind fun t5 => ((m_part (t1 + t3) t5).bind fun t7 => some t7))))
def pf_m_plus_q (K : PySem.W.Frag) : Pf := fun as m R => ∃ (v_one : (Option (Int × Int))) (v_other : (Int × Int)) (r_ : (Int × Int)), m_plus_q v_one v_other = some r_ ∧ as = [.pr ((mQ K) v_one), .da ((dP dI dI) v_other)] ∧ m = [] ∧ R = fun c m2 => c = .da ((dP dI dI) r_) ∧ m2 = []
abbrev sm_plus_q : Stmt := topS 3
abbrev N_m_plus_q : List Str := ["one", "other"]
theorem sc_m_plus_q : FnScope N_m_plus_q ["one", "other"] (defScope sm_plus_q) := ⟨rfl, rfl, rfl, by decide +kernel, rfl, by decide +kernel, by decide +kernel⟩
noncomputable def m_times (v_one : (Int × Int)) (v_other : (Int × Int)) : Option ((Int × Int)) :=
  ((mulG (v_one).1 (v_other).1).bind fun t1 => ((mulG (v_one).2 (v_other).2).bind fun t3 => ((m_part t1 t3).bind fun t5 => some t5)))
def pf_m_times : Pf := fun as m R => ∃ (v_one : (Int × Int)) (v_other : (Int × Int)) (r_ : (Int × Int)), m_times v_one v_other = some r_ ∧ as = [.da ((dP dI dI) v_one), .da ((dP dI dI) v_other)] ∧ m = [] ∧ R = fun c m2 => c = .da ((dP dI dI) r_) ∧ m2 = []
abbrev sm_times : Stmt := topS 4
abbrev N_m_times : List Str := ["one", "other"]
theorem sc_m_times : FnScope N_m_times ["one", "other"] (defScope sm_times) := ⟨rfl, rfl, rfl, by decide +kernel, rfl, by decide +kernel, by decide +kernel⟩
noncomputable def m_before (v_one : (Int × Int)) (v_other : (Int × Int)) : Option (Bool) :=
  ((mulG (v_one).1 (v_other).2).bind fun t1 => ((mulG (v_other).1 (v_one).2).bind fun t3 => some (decide (t1 < t3))))
def pf_m_before : Pf := fun as m R => ∃ (v_one : (Int × Int)) (v_other : (Int × Int)) (r_ : Bool), m_before v_one v_other = some r_ ∧ as = [.da ((dP dI dI) v_one), .da ((dP dI dI) v_other)] ∧ m = [] ∧ R = fun c m2 => c = .da (dB r_) ∧ m2 = []
abbrev sm_before : Stmt := topS 5
abbrev N_m_before : List Str := ["one", "other"]
theorem sc_m_before : FnScope N_m_before ["one", "other"] (defScope sm_before) := ⟨rfl, rfl, rfl, by decide +kernel, rfl, by decide +kernel, by decide +kernel⟩
noncomputable def m_middle_of (v_rows : (List ((List Int) × Int))) : Option ((List (Int × Int))) :=
  ((lenG (List.length v_rows)).bind fun u2 => ((some (List.sum (List.map (fun (p_ : ((List Int) × Int)) => (fun (v_colour1 : (List Int)) (v_count1 : Int) => v_count1) p_.1 p_.2) v_rows))).bind fun v_many4 => ((getI v_rows (0 : Int)).bind fun t6 => ((rngG 0 (List.length (t6).1 : Int)).bind fun rg8 => ((lenG (List.length rg8)).bind fun u10 => ((lenG (List.length rg8)).bind fun u24 => ((mapO (fun (v_place12 : Int) => ((lenG (List.length v_rows)).bind fun u18 => ((mapO (fun (p_ : ((List Int) × Int)) => (fun (v_colour13 : (List Int)) (v_count13 : Int) => ((getI v_colour13 v_place12).bind fun t14 => ((mulG v_count13 t14).bind fun t16 => some t16))) p_.1 p_.2) v_rows).bind fun o20 => ((m_part (List.sum o20) v_many4).bind fun t22 => some t22)))) rg8).bind fun o26 => some o26)))))))
def pf_m_middle_of : Pf := fun as m R => ∃ (v_rows : (List ((List Int) × Int))) (r_ : (List (Int × Int))), m_middle_of v_rows = some r_ ∧ as = [.da ((dL (dP (dU dI) dI)) v_rows)] ∧ m = [] ∧ R = fun c m2 => c = .da ((dU (dP dI dI)) r_) ∧ m2 = []
abbrev sm_middle_of : Stmt := topS 7
abbrev N_m_middle_of : List Str := ["rows", "many", "places", "colour", "count", "place"]
theorem sc_m_middle_of : FnScope N_m_middle_of ["rows"] (defScope sm_middle_of) := ⟨rfl, rfl, rfl, by decide +kernel, rfl, by decide +kernel, by decide +kernel⟩
noncomputable def m_far_of (v_colour : (List Int)) (v_middle : (List (Int × Int))) : Option ((Int × Int)) :=
  ((some ((0 : Int), (1 : Int))).bind fun v_far1 => ((forF (fun (s_ : (Int × Int)) => (fun (p_ : (Int × (Int × Int))) => (fun (v_number3 : Int) (v_here4 : (Int × Int)) => (fun (v_far5 : (Int × Int)) => ((m_plus (v_number3, (1 : Int)) ((-(v_here4).1), (v_here4).2)).bind fun t12 => ((m_times t12 t12).bind fun t14 => ((m_plus v_far5 t14).bind fun t16 => some t16)))) s_) p_.1 p_.2)) v_far1 (List.zip v_colour v_middle)).bind fun v_far18 => some v_far18))
def pf_m_far_of : Pf := fun as m R => ∃ (v_colour : (List Int)) (v_middle : (List (Int × Int))) (r_ : (Int × Int)), m_far_of v_colour v_middle = some r_ ∧ as = [.da ((dU dI) v_colour), .da ((dU (dP dI dI)) v_middle)] ∧ m = [] ∧ R = fun c m2 => c = .da ((dP dI dI) r_) ∧ m2 = []
abbrev sm_far_of : Stmt := topS 8
abbrev N_m_far_of : List Str := ["colour", "middle", "far", "number", "here", "step"]
theorem sc_m_far_of : FnScope N_m_far_of ["colour", "middle"] (defScope sm_far_of) := ⟨rfl, rfl, rfl, by decide +kernel, rfl, by decide +kernel, by decide +kernel⟩
noncomputable def m_spread_of (v_rows : (List ((List Int) × Int))) : Option ((Int × Int)) :=
  ((lenG (List.length v_rows)).bind fun u2 => ((some (List.sum (List.map (fun (p_ : ((List Int) × Int)) => (fun (v_colour1 : (List Int)) (v_count1 : Int) => v_count1) p_.1 p_.2) v_rows))).bind fun v_many4 => ((getI v_rows (0 : Int)).bind fun t6 => ((rngG 0 (List.length (t6).1 : Int)).bind fun rg8 => ((forF (fun (s_ : Int) => (fun (v_place10 : Int) => (fun (v_top11 : Int) => ((lenG (List.length v_rows)).bind fun u47 => ((mapO (fun (p_ : ((List Int) × Int)) => (fun (v_colour42 : (List Int)) (v_count42 : Int) => ((getI v_colour42 v_place10).bind fun t43 => ((mulG v_count42 t43).bind fun t45 => some t45))) p_.1 p_.2) v_rows).bind fun o49 => ((some (List.sum o49)).bind fun v_numbers51 => ((lenG (List.length v_rows)).bind fun u62 => ((mapO (fun (p_ : ((List Int) × Int)) => (fun (v_colour53 : (List Int)) (v_count53 : Int) => ((getI v_colour53 v_place10).bind fun t54 => ((mulG v_count53 t54).bind fun t56 => ((getI v_colour53 v_place10).bind fun t58 => ((mulG t56 t58).bind fun t60 => some t60))))) p_.1 p_.2) v_rows).bind fun o64 => ((some (List.sum o64)).bind fun v_squares66 => ((mulG v_squares66 v_many4).bind fun t68 => ((mulG v_numbers51 v_numbers51).bind fun t70 => some (v_top11 + (t68 - t70))))))))))) s_)) (0 : Int) rg8).bind fun v_top72 => ((m_part v_top72 v_many4).bind fun t73 => some t73))))))
def pf_m_spread_of : Pf := fun as m R => ∃ (v_rows : (List ((List Int) × Int))) (r_ : (Int × Int)), m_spread_of v_rows = some r_ ∧ as = [.da ((dL (dP (dU dI) dI)) v_rows)] ∧ m = [] ∧ R = fun c m2 => c = .da ((dP dI dI) r_) ∧ m2 = []
abbrev sm_spread_of : Stmt := topS 9
abbrev N_m_spread_of : List Str := ["rows", "many", "top", "place", "numbers", "squares", "colour", "count"]
theorem sc_m_spread_of : FnScope N_m_spread_of ["rows"] (defScope sm_spread_of) := ⟨rfl, rfl, rfl, by decide +kernel, rfl, by decide +kernel, by decide +kernel⟩
noncomputable def m_sum_of (v_fractions : (List (Int × Int))) : Option ((Int × Int)) :=
  ((forF (fun (s_ : (Option (Int × Int))) => (fun (v_one1 : (Int × Int)) => (fun (v_total2 : (Option (Int × Int))) => ((m_plus_q v_total2 v_one1).bind fun t5 => some (some t5))) s_)) (none : Option (Int × Int)) v_fractions).bind fun v_total7 => ((v_total7).bind fun w8 => some w8))
def pf_m_sum_of : Pf := fun as m R => ∃ (v_fractions : (List (Int × Int))) (r_ : (Int × Int)), m_sum_of v_fractions = some r_ ∧ as = [.da ((dL (dP dI dI)) v_fractions)] ∧ m = [] ∧ R = fun c m2 => c = .da ((dP dI dI) r_) ∧ m2 = []
abbrev sm_sum_of : Stmt := topS 12
abbrev N_m_sum_of : List Str := ["fractions", "total", "one"]
theorem sc_m_sum_of : FnScope N_m_sum_of ["fractions"] (defScope sm_sum_of) := ⟨rfl, rfl, rfl, by decide +kernel, rfl, by decide +kernel, by decide +kernel⟩
noncomputable def m_total_of (v_groups : (List (List ((List Int) × Int)))) : Option ((Int × Int)) :=
  ((lenG (List.length v_groups)).bind fun u4 => ((mapO (fun (v_group1 : (List ((List Int) × Int))) => ((m_spread_of v_group1).bind fun t2 => some t2)) v_groups).bind fun o6 => ((m_sum_of o6).bind fun t8 => some t8)))
def pf_m_total_of : Pf := fun as m R => ∃ (v_groups : (List (List ((List Int) × Int)))) (r_ : (Int × Int)), m_total_of v_groups = some r_ ∧ as = [.da ((dL (dL (dP (dU dI) dI))) v_groups)] ∧ m = [] ∧ R = fun c m2 => c = .da ((dP dI dI) r_) ∧ m2 = []
abbrev sm_total_of : Stmt := topS 13
abbrev N_m_total_of : List Str := ["groups", "group"]
theorem sc_m_total_of : FnScope N_m_total_of ["groups"] (defScope sm_total_of) := ⟨rfl, rfl, rfl, by decide +kernel, rfl, by decide +kernel, by decide +kernel⟩
noncomputable def m_is_better (v_one : ((Int × Int) × (List (List ((List Int) × Int))))) (v_other : ((Int × Int) × (List (List ((List Int) × Int))))) : Option (Bool) :=
  ((m_before (v_one).1 (v_other).1).bind fun t1 => (cond t1 (some true) (some ((decide ((v_one).1 = (v_other).1)) && ((EncO.lt (dL (dL (dP (dU dI) dI)))) (v_one).2 (v_other).2)))))
def pf_m_is_better : Pf := fun as m R => ∃ (v_one : ((Int × Int) × (List (List ((List Int) × Int))))) (v_other : ((Int × Int) × (List (List ((List Int) × Int))))) (r_ : Bool), m_is_better v_one v_other = some r_ ∧ as = [.da ((dP (dP dI dI) (dL (dL (dP (dU dI) dI)))) v_one), .da ((dP (dP dI dI) (dL (dL (dP (dU dI) dI)))) v_other)] ∧ m = [] ∧ R = fun c m2 => c = .da (dB r_) ∧ m2 = []
abbrev sm_is_better : Stmt := topS 14
abbrev N_m_is_better : List Str := ["one", "other"]
theorem sc_m_is_better : FnScope N_m_is_better ["one", "other"] (defScope sm_is_better) := ⟨rfl, rfl, rfl, by decide +kernel, rfl, by decide +kernel, by decide +kernel⟩
noncomputable def m_is_better_i (v_one : ((Int × Int) × (List Int))) (v_other : ((Int × Int) × (List Int))) : Option (Bool) :=
  ((m_before (v_one).1 (v_other).1).bind fun t1 => (cond t1 (some true) (some ((decide ((v_one).1 = (v_other).1)) && ((EncO.lt (dL dI)) (v_one).2 (v_other).2)))))
def pf_m_is_better_i : Pf := fun as m R => ∃ (v_one : ((Int × Int) × (List Int))) (v_other : ((Int × Int) × (List Int))) (r_ : Bool), m_is_better_i v_one v_other = some r_ ∧ as = [.da ((dP (dP dI dI) (dL dI)) v_one), .da ((dP (dP dI dI) (dL dI)) v_other)] ∧ m = [] ∧ R = fun c m2 => c = .da (dB r_) ∧ m2 = []
abbrev sm_is_better_i : Stmt := topS 14
abbrev N_m_is_better_i : List Str := ["one", "other"]
theorem sc_m_is_better_i : FnScope N_m_is_better_i ["one", "other"] (defScope sm_is_better_i) := ⟨rfl, rfl, rfl, by decide +kernel, rfl, by decide +kernel, by decide +kernel⟩
noncomputable def m_Groups_init (v_begun : (List (List ((List Int) × Int)))) (v_spreads : (List (Int × Int))) : Option (((List (List ((List Int) × Int))) × (List (Int × Int)))) :=
  some (v_begun, v_spreads)
def pf_m_Groups_init (C_Groups : Addr) : Pf := fun as m R => ∃ (l_self : Addr) (dx_self : Addr) (v_begun : (List (List ((List Int) × Int)))) (v_spreads : (List (Int × Int))) (w_self : ((List (List ((List Int) × Int))) × (List (Int × Int)))), m_Groups_init v_begun v_spreads = some w_self ∧ as = [.rf l_self, .da ((dL (dL (dP (dU dI) dI))) v_begun), .da ((dL (dP dI dI)) v_spreads)] ∧ m = [(l_self, obj C_Groups dx_self names_Groups [])] ∧ R = fun c m2 => c = .da .none ∧ m2 = [(l_self, obj C_Groups dx_self names_Groups [.da ((dL (dL (dP (dU dI) dI))) w_self.1), .da ((dL (dP dI dI)) w_self.2)])]
abbrev sm_Groups_init : Stmt := inClass (topS 15) 0
abbrev N_m_Groups_init : List Str := ["self", "begun", "spreads"]
theorem sc_m_Groups_init : FnScope N_m_Groups_init ["self", "begun", "spreads"] (defScope sm_Groups_init) := ⟨rfl, rfl, rfl, by decide +kernel, rfl, by decide +kernel, by decide +kernel⟩
noncomputable def m_Groups_so_far (v_self : ((List (List ((List Int) × Int))) × (List (Int × Int)))) : Option ((Int × Int)) :=
  ((m_sum_of v_self.2).bind fun t1 => some t1)
def pf_m_Groups_so_far (C_Groups : Addr) : Pf := fun as m R => ∃ (v_self : ((List (List ((List Int) × Int))) × (List (Int × Int)))) (r_ : (Int × Int)), m_Groups_so_far v_self = some r_ ∧ as = [.pr ((e_Groups C_Groups) v_self)] ∧ m = [] ∧ R = fun c m2 => c = .da ((dP dI dI) r_) ∧ m2 = []
abbrev sm_Groups_so_far : Stmt := inClass (topS 15) 1
abbrev N_m_Groups_so_far : List Str := ["self"]
theorem sc_m_Groups_so_far : FnScope N_m_Groups_so_far ["self"] (defScope sm_Groups_so_far) := ⟨rfl, rfl, rfl, by decide +kernel, rfl, by decide +kernel, by decide +kernel⟩
noncomputable def m_Groups_with_row (v_self : ((List (List ((List Int) × Int))) × (List (Int × Int)))) (v_row : ((List Int) × Int)) (v_place : Int) : Option (((List (List ((List Int) × Int))) × (List (Int × Int)))) :=
  ((lenG (List.length v_self.1)).bind fun u3 => ((repI ([([] : (List ((List Int) × Int)))] : (List (List ((List Int) × Int)))) (b2 (decide (v_place = (List.length v_self.1 : Int))))).bind fun t5 => ((lenG (List.length (List.map (fun (v_group2 : (List ((List Int) × Int))) => v_group2) v_self.1) + List.length t5)).bind fun u7 => ((getI ((List.map (fun (v_group2 : (List ((List Int) × Int))) => v_group2) v_self.1) ++ t5) v_place).bind fun t9 => ((lenG (List.length t9 + List.length ([v_row] : (List ((List Int) × Int))))).bind fun u11 => ((setI ((List.map (fun (v_group2 : (List ((List Int) × Int))) => v_group2) v_self.1) ++ t5) v_place (srt (EncO.lt (dP (dU dI) dI)) (t9 ++ ([v_row] : (List ((List Int) × Int)))))).bind fun c13 => ((repI [(none : Option (Int × Int))] (b2 (decide (v_place = (List.length v_self.1 : Int))))).bind fun z16 => ((lenG (List.length (List.map some v_self.2) + List.length z16)).bind fun u18 => ((getI c13 v_place).bind fun t20 => ((m_spread_of t20).bind fun t22 => ((setI (List.map some v_self.2 ++ z16) v_place (some t22)).bind fun c24 => ((allS c24).bind fun w26 => ((m_Groups_init c13 w26).bind fun c28 => some c28)))))))))))))
def pf_m_Groups_with_row (C_Groups : Addr) : Pf := fun as m R => ∃ (v_self : ((List (List ((List Int) × Int))) × (List (Int × Int)))) (v_row : ((List Int) × Int)) (v_place : Int) (r_ : ((List (List ((List Int) × Int))) × (List (Int × Int)))), m_Groups_with_row v_self v_row v_place = some r_ ∧ as = [.pr ((e_Groups C_Groups) v_self), .da ((dP (dU dI) dI) v_row), .da (dI v_place)] ∧ m = [] ∧ R = fun c m2 => c = .pr ((e_Groups C_Groups) r_) ∧ m2 = []
abbrev sm_Groups_with_row : Stmt := inClass (topS 15) 2
abbrev N_m_Groups_with_row : List Str := ["self", "row", "place", "begun", "spreads", "group"]
theorem sc_m_Groups_with_row : FnScope N_m_Groups_with_row ["self", "row", "place"] (defScope sm_Groups_with_row) := ⟨rfl, rfl, rfl, by decide +kernel, rfl, by decide +kernel, by decide +kernel⟩
noncomputable def m_Groups_ways (v_self : ((List (List ((List Int) × Int))) × (List (Int × Int)))) (v_row : ((List Int) × Int)) (v_many : Int) : Option ((List ((List (List ((List Int) × Int))) × (List (Int × Int))))) :=
  ((some (b2 (decide ((List.length v_self.1 : Int) < v_many)))).bind fun v_more1 => ((rngG 0 ((List.length v_self.1 : Int) + v_more1)).bind fun rg3 => ((lenG (List.length rg3)).bind fun u8 => ((mapO (fun (v_place5 : Int) => ((m_Groups_with_row v_self v_row v_place5).bind fun t6 => some t6)) rg3).bind fun o10 => some o10))))
def pf_m_Groups_ways (C_Groups : Addr) : Pf := fun as m R => ∃ (v_self : ((List (List ((List Int) × Int))) × (List (Int × Int)))) (v_row : ((List Int) × Int)) (v_many : Int) (r_ : (List ((List (List ((List Int) × Int))) × (List (Int × Int))))), m_Groups_ways v_self v_row v_many = some r_ ∧ as = [.pr ((e_Groups C_Groups) v_self), .da ((dP (dU dI) dI) v_row), .da (dI v_many)] ∧ m = [] ∧ R = fun c m2 => c = .pr (mL (List.map (e_Groups C_Groups) r_)) ∧ m2 = []
abbrev sm_Groups_ways : Stmt := inClass (topS 15) 3
abbrev N_m_Groups_ways : List Str := ["self", "row", "many", "more", "place"]
theorem sc_m_Groups_ways : FnScope N_m_Groups_ways ["self", "row", "many"] (defScope sm_Groups_ways) := ⟨rfl, rfl, rfl, by decide +kernel, rfl, by decide +kernel, by decide +kernel⟩
noncomputable def m_better_below : Nat → (List ((List Int) × Int)) → Int → ((List (List ((List Int) × Int))) × (List (Int × Int))) → (Option ((Int × Int) × (List (List ((List Int) × Int))))) → Option ((Option ((Int × Int) × (List (List ((List Int) × Int))))))
  | 0, _, _, _, _ => none
  | n_ + 1, v_rows, v_many, v_groups, v_best =>
  ((cond (v_best).isSome (((v_best).bind fun w1 => ((m_Groups_so_far v_groups).bind fun t3 => ((m_before (w1).1 t3).bind fun t5 => some t5)))) (some false)).bind fun b7 => (cond b7 (some v_best) ((cond (decide ((List.length v_rows : Int) = (0 : Int))) (((m_Groups_so_far v_groups).bind fun t9 => ((some (t9, v_groups.1)).bind fun v_found11 => ((cond (v_best).isNone (some true) (((v_best).bind fun w13 => ((m_is_better v_found11 w13).bind fun t15 => some t15)))).bind fun b17 => some (cond b17 (some v_found11) v_best))))) (((getI v_rows (0 : Int)).bind fun t19 => ((m_Groups_ways v_groups t19 v_many).bind fun t21 => ((forF (fun (s_ : (Option ((Int × Int) × (List (List ((List Int) × Int)))))) => (fun (v_further23 : ((List (List ((List Int) × Int))) × (List (Int × Int)))) => (fun (v_best24 : (Option ((Int × Int) × (List (List ((List Int) × Int)))))) => ((m_better_below n_ (cutI v_rows (some (1 : Int)) none) v_many v_further23 v_best24).bind fun t27 => some t27)) s_)) v_best t21).bind fun v_best29 => some v_best29))))))))
def pf_m_better_below (n_ : Nat) (C_Groups : Addr) : Pf := fun as m R => ∃ (v_rows : (List ((List Int) × Int))) (v_many : Int) (v_groups : ((List (List ((List Int) × Int))) × (List (Int × Int)))) (v_best : (Option ((Int × Int) × (List (List ((List Int) × Int)))))) (r_ : (Option ((Int × Int) × (List (List ((List Int) × Int)))))), m_better_below n_ v_rows v_many v_groups v_best = some r_ ∧ as = [.da ((dL (dP (dU dI) dI)) v_rows), .da (dI v_many), .pr ((e_Groups C_Groups) v_groups), .da ((dO (dP (dP dI dI) (dL (dL (dP (dU dI) dI))))) v_best)] ∧ m = [] ∧ R = fun c m2 => c = .da ((dO (dP (dP dI dI) (dL (dL (dP (dU dI) dI))))) r_) ∧ m2 = []
abbrev sm_better_below : Stmt := topS 16
abbrev N_m_better_below : List Str := ["rows", "many", "groups", "best", "found", "further"]
theorem sc_m_better_below : FnScope N_m_better_below ["rows", "many", "groups", "best"] (defScope sm_better_below) := ⟨rfl, rfl, rfl, by decide +kernel, rfl, by decide +kernel, by decide +kernel⟩
noncomputable def m_best_groups (v_rows : (List ((List Int) × Int))) (v_many : Int) : Option (((Int × Int) × (List (List ((List Int) × Int))))) :=
  ((m_Groups_init ([] : (List (List ((List Int) × Int)))) ([] : (List (Int × Int)))).bind fun c1 => ((m_better_below 12 v_rows v_many c1 (none : (Option ((Int × Int) × (List (List ((List Int) × Int))))))).bind fun t3 => ((t3).bind fun w5 => some w5)))
def pf_m_best_groups : Pf := fun as m R => ∃ (v_rows : (List ((List Int) × Int))) (v_many : Int) (r_ : ((Int × Int) × (List (List ((List Int) × Int))))), m_best_groups v_rows v_many = some r_ ∧ as = [.da ((dL (dP (dU dI) dI)) v_rows), .da (dI v_many)] ∧ m = [] ∧ R = fun c m2 => c = .da ((dP (dP dI dI) (dL (dL (dP (dU dI) dI)))) r_) ∧ m2 = []
abbrev sm_best_groups : Stmt := topS 17
abbrev N_m_best_groups : List Str := ["rows", "many"]
theorem sc_m_best_groups : FnScope N_m_best_groups ["rows", "many"] (defScope sm_best_groups) := ⟨rfl, rfl, rfl, by decide +kernel, rfl, by decide +kernel, by decide +kernel⟩
noncomputable def m_Stretches_init (v_rows : (List ((List Int) × Int))) : Option ((List Int) × (List Int) × (List Int)) :=
  ((onesP v_rows).bind fun w4 => ((forF (fun (s_ : (List Int) × (List Int) × (List Int)) => (fun (p_ : (Int × Int)) => (fun (v_number6 : Int) (v_count7 : Int) => (fun (c30 : (List Int)) (c31 : (List Int)) (c32 : (List Int)) => ((getI c30 (-(1 : Int))).bind fun t51 => ((lenG (List.length c30)).bind fun u53 => ((getI c31 (-(1 : Int))).bind fun t55 => ((mulG v_count7 v_number6).bind fun t57 => ((lenG (List.length c31)).bind fun u59 => ((getI c32 (-(1 : Int))).bind fun t61 => ((mulG v_count7 v_number6).bind fun t63 => ((mulG t63 v_number6).bind fun t65 => ((lenG (List.length c32)).bind fun u67 => some ((c30 ++ [(t51 + v_count7)]), (c31 ++ [(t55 + t57)]), (c32 ++ [(t61 + t65)])))))))))))) s_.1 s_.2.1 s_.2.2) p_.1 p_.2)) (([(0 : Int)] : (List Int)), ([(0 : Int)] : (List Int)), ([(0 : Int)] : (List Int))) w4).bind fun (c69, c70, c71) => some (c69, c70, c71)))
def pf_m_Stretches_init (C_Stretches : Addr) : Pf := fun as m R => ∃ (l_self : Addr) (dx_self : Addr) (v_rows : (List ((List Int) × Int))) (w_own_many : (List Int)) (w_own_numbers : (List Int)) (w_own_squares : (List Int)), m_Stretches_init v_rows = some (w_own_many, w_own_numbers, w_own_squares) ∧ as = [.rf l_self, .da ((dL (dP (dU dI) dI)) v_rows)] ∧ m = [(l_self, obj C_Stretches dx_self names_Stretches [])] ∧ R = fun c m2 => c = .da .none ∧ ∃ n_own_many n_own_numbers n_own_squares, m2 = [(l_self, obj C_Stretches dx_self names_Stretches [.rf n_own_many, .rf n_own_numbers, .rf n_own_squares]), (n_own_many, .ls (List.map dI w_own_many)), (n_own_numbers, .ls (List.map dI w_own_numbers)), (n_own_squares, .ls (List.map dI w_own_squares))]
abbrev sm_Stretches_init : Stmt := inClass (topS 19) 0
abbrev N_m_Stretches_init : List Str := ["self", "rows", "number", "count"]
theorem sc_m_Stretches_init : FnScope N_m_Stretches_init ["self", "rows"] (defScope sm_Stretches_init) := ⟨rfl, rfl, rfl, by decide +kernel, rfl, by decide +kernel, by decide +kernel⟩
noncomputable def m_Stretches_spread_from (v_self_own_many : (List Int)) (v_self_own_numbers : (List Int)) (v_self_own_squares : (List Int)) (v_begin : Int) (v_end : Int) : Option ((Int × Int)) :=
  ((getI v_self_own_many v_end).bind fun t1 => ((getI v_self_own_many v_begin).bind fun t3 => ((some (t1 - t3)).bind fun v_many5 => ((getI v_self_own_numbers v_end).bind fun t7 => ((getI v_self_own_numbers v_begin).bind fun t9 => ((some (t7 - t9)).bind fun v_number11 => ((getI v_self_own_squares v_end).bind fun t13 => ((getI v_self_own_squares v_begin).bind fun t15 => ((mulG (t13 - t15) v_many5).bind fun t17 => ((mulG v_number11 v_number11).bind fun t19 => ((m_part (t17 - t19) v_many5).bind fun t21 => some t21)))))))))))
def pf_m_Stretches_spread_from (C_Stretches : Addr) : Pf := fun as m R => ∃ (l_self : Addr) (dx_self : Addr) (l_self_own_many : Addr) (l_self_own_numbers : Addr) (l_self_own_squares : Addr) (v_self_own_many : (List Int)) (v_self_own_numbers : (List Int)) (v_self_own_squares : (List Int)) (v_begin : Int) (v_end : Int) (r_ : (Int × Int)), m_Stretches_spread_from v_self_own_many v_self_own_numbers v_self_own_squares v_begin v_end = some r_ ∧ as = [.rf l_self, .da (dI v_begin), .da (dI v_end)] ∧ m = [(l_self, obj C_Stretches dx_self names_Stretches [.rf l_self_own_many, .rf l_self_own_numbers, .rf l_self_own_squares]), (l_self_own_many, .ls (List.map dI v_self_own_many)), (l_self_own_numbers, .ls (List.map dI v_self_own_numbers)), (l_self_own_squares, .ls (List.map dI v_self_own_squares))] ∧ R = fun c m2 => c = .da ((dP dI dI) r_) ∧ m2 = [(l_self, obj C_Stretches dx_self names_Stretches [.rf l_self_own_many, .rf l_self_own_numbers, .rf l_self_own_squares]), (l_self_own_many, .ls (List.map dI v_self_own_many)), (l_self_own_numbers, .ls (List.map dI v_self_own_numbers)), (l_self_own_squares, .ls (List.map dI v_self_own_squares))]
abbrev sm_Stretches_spread_from : Stmt := inClass (topS 19) 1
abbrev N_m_Stretches_spread_from : List Str := ["self", "begin", "end", "many", "number"]
theorem sc_m_Stretches_spread_from : FnScope N_m_Stretches_spread_from ["self", "begin", "end"] (defScope sm_Stretches_spread_from) := ⟨rfl, rfl, rfl, by decide +kernel, rfl, by decide +kernel, by decide +kernel⟩
noncomputable def m_with_one_more (v_stretches_own_many : (List Int)) (v_stretches_own_numbers : (List Int)) (v_stretches_own_squares : (List Int)) (v_best : (List (Option ((Int × Int) × (List Int))))) (v_length : Int) : Option ((List (Option ((Int × Int) × (List Int))))) :=
  ((rngG 0 v_length).bind fun rg2 => ((forF (fun (s_ : (List (Option ((Int × Int) × (List Int))))) => (fun (v_begin4 : Int) => (fun (c204 : (List (Option ((Int × Int) × (List Int))))) => ((rngG (v_begin4 + (1 : Int)) (v_length + (1 : Int))).bind fun rg399 => ((forF (fun (s_ : (Option ((Int × Int) × (List Int)))) => (fun (v_end401 : Int) => (fun (v_least468 : (Option ((Int × Int) × (List Int)))) => ((getI v_best v_end401).bind fun t529 => ((cond (t529).isSome (((m_Stretches_spread_from v_stretches_own_many v_stretches_own_numbers v_stretches_own_squares v_begin4 v_end401).bind fun t560 => ((getI v_best v_end401).bind fun t562 => ((t562).bind fun w564 => ((m_plus t560 (w564).1).bind fun t566 => ((getI v_best v_end401).bind fun t568 => ((t568).bind fun w570 => ((lenG (List.length ([v_begin4] : (List Int)) + List.length (w570).2)).bind fun u572 => ((some (t566, (([v_begin4] : (List Int)) ++ (w570).2))).bind fun v_one574 => ((cond (v_least468).isNone (some true) (((v_least468).bind fun w576 => ((m_is_better_i v_one574 w576).bind fun t578 => some t578)))).bind fun b580 => ((cond b580 (((some (some v_one574)).bind fun v_least585 => some v_least585)) (some v_least468)).bind fun v_least584 => some v_least584))))))))))) (some v_least468)).bind fun v_least559 => some v_least559))) s_)) (none : (Option ((Int × Int) × (List Int)))) rg399).bind fun v_least589 => ((lenG (List.length c204)).bind fun u590 => some (c204 ++ [v_least589]))))) s_)) ([] : (List (Option ((Int × Int) × (List Int))))) rg2).bind fun c593 => ((lenG (List.length c593 + List.length ([(some (((0 : Int), (1 : Int)), ([] : (List Int))))] : (List (Option ((Int × Int) × (List Int))))))).bind fun u594 => some (c593 ++ ([(some (((0 : Int), (1 : Int)), ([] : (List Int))))] : (List (Option ((Int × Int) × (List Int)))))))))
def pf_m_with_one_more (C_Stretches : Addr) : Pf := fun as m R => ∃ (l_stretches : Addr) (dx_stretches : Addr) (l_stretches_own_many : Addr) (l_stretches_own_numbers : Addr) (l_stretches_own_squares : Addr) (v_stretches_own_many : (List Int)) (v_stretches_own_numbers : (List Int)) (v_stretches_own_squares : (List Int)) (v_best : (List (Option ((Int × Int) × (List Int))))) (v_length : Int) (r_ : (List (Option ((Int × Int) × (List Int))))), m_with_one_more v_stretches_own_many v_stretches_own_numbers v_stretches_own_squares v_best v_length = some r_ ∧ as = [.rf l_stretches, .da ((dL (dO (dP (dP dI dI) (dL dI)))) v_best), .da (dI v_length)] ∧ m = [(l_stretches, obj C_Stretches dx_stretches names_Stretches [.rf l_stretches_own_many, .rf l_stretches_own_numbers, .rf l_stretches_own_squares]), (l_stretches_own_many, .ls (List.map dI v_stretches_own_many)), (l_stretches_own_numbers, .ls (List.map dI v_stretches_own_numbers)), (l_stretches_own_squares, .ls (List.map dI v_stretches_own_squares))] ∧ R = fun c m2 => c = .da ((dL (dO (dP (dP dI dI) (dL dI)))) r_) ∧ m2 = [(l_stretches, obj C_Stretches dx_stretches names_Stretches [.rf l_stretches_own_many, .rf l_stretches_own_numbers, .rf l_stretches_own_squares]), (l_stretches_own_many, .ls (List.map dI v_stretches_own_many)), (l_stretches_own_numbers, .ls (List.map dI v_stretches_own_numbers)), (l_stretches_own_squares, .ls (List.map dI v_stretches_own_squares))]
abbrev sm_with_one_more : Stmt := topS 20
abbrev N_m_with_one_more : List Str := ["stretches", "best", "length", "found", "begin", "least", "end", "one"]
theorem sc_m_with_one_more : FnScope N_m_with_one_more ["stretches", "best", "length"] (defScope sm_with_one_more) := ⟨rfl, rfl, rfl, by decide +kernel, rfl, by decide +kernel, by decide +kernel⟩
noncomputable def m_best_on_line (v_rows : (List ((List Int) × Int))) (v_many : Int) : Option (((Int × Int) × (List Int))) :=
  ((m_Stretches_init v_rows).bind fun (c1, c2, c3) => ((repI ([(none : (Option ((Int × Int) × (List Int))))] : (List (Option ((Int × Int) × (List Int))))) (List.length v_rows : Int)).bind fun t10 => ((lenG (List.length t10 + List.length ([(some (((0 : Int), (1 : Int)), ([] : (List Int))))] : (List (Option ((Int × Int) × (List Int))))))).bind fun u12 => ((some (t10 ++ ([(some (((0 : Int), (1 : Int)), ([] : (List Int))))] : (List (Option ((Int × Int) × (List Int))))))).bind fun v_best14 => ((rngG 0 v_many).bind fun rg16 => ((forF (fun (s_ : (List (Option ((Int × Int) × (List Int))))) => (fun (v_turn18 : Int) => (fun (v_best26 : (List (Option ((Int × Int) × (List Int))))) => ((m_with_one_more c1 c2 c3 v_best26 (List.length v_rows : Int)).bind fun t29 => some t29)) s_)) v_best14 rg16).bind fun v_best31 => ((getI v_best31 (0 : Int)).bind fun t32 => ((t32).bind fun w34 => some w34))))))))
def pf_m_best_on_line : Pf := fun as m R => ∃ (v_rows : (List ((List Int) × Int))) (v_many : Int) (r_ : ((Int × Int) × (List Int))), m_best_on_line v_rows v_many = some r_ ∧ as = [.da ((dL (dP (dU dI) dI)) v_rows), .da (dI v_many)] ∧ m = [] ∧ R = fun c m2 => c = .da ((dP (dP dI dI) (dL dI)) r_) ∧ m2 = []
abbrev sm_best_on_line : Stmt := topS 21
abbrev N_m_best_on_line : List Str := ["rows", "many", "stretches", "best", "turn"]
theorem sc_m_best_on_line : FnScope N_m_best_on_line ["rows", "many"] (defScope sm_best_on_line) := ⟨rfl, rfl, rfl, by decide +kernel, rfl, by decide +kernel, by decide +kernel⟩
noncomputable def m_nearest_middle (v_middles : (List (List (Int × Int)))) (v_colour : (List Int)) : Option (Int) :=
  ((getI v_middles (0 : Int)).bind fun t1 => ((m_far_of v_colour t1).bind fun t3 => ((forF (fun (s_ : Int × (Int × Int)) => (fun (p_ : (Int × (List (Int × Int)))) => (fun (v_number5 : Int) (v_middle6 : (List (Int × Int))) => (fun (v_found7 : Int) (v_least8 : (Int × Int)) => ((m_far_of v_colour v_middle6).bind fun t16 => ((m_before t16 v_least8).bind fun t18 => ((cond t18 (some (v_number5, t16)) (some (v_found7, v_least8))).bind fun (v_found20, v_least21) => some (v_found20, v_least21))))) s_.1 s_.2) p_.1 p_.2)) ((0 : Int), t3) (enumI v_middles)).bind fun (v_found23, v_least24) => some v_found23)))
def pf_m_nearest_middle : Pf := fun as m R => ∃ (v_middles : (List (List (Int × Int)))) (v_colour : (List Int)) (r_ : Int), m_nearest_middle v_middles v_colour = some r_ ∧ as = [.da ((dL (dU (dP dI dI))) v_middles), .da ((dU dI) v_colour)] ∧ m = [] ∧ R = fun c m2 => c = .da (dI r_) ∧ m2 = []
abbrev sm_nearest_middle : Stmt := topS 23
abbrev N_m_nearest_middle : List Str := ["middles", "colour", "found", "least", "number", "middle", "far"]
theorem sc_m_nearest_middle : FnScope N_m_nearest_middle ["middles", "colour"] (defScope sm_nearest_middle) := ⟨rfl, rfl, rfl, by decide +kernel, rfl, by decide +kernel, by decide +kernel⟩
noncomputable def m_shared_out (v_rows : (List ((List Int) × Int))) (v_middles : (List (List (Int × Int)))) : Option ((List (List ((List Int) × Int)))) :=
  ((lenG (List.length v_middles)).bind fun u3 => ((forF (fun (s_ : (List (List ((List Int) × Int)))) => (fun (p_ : ((List Int) × Int)) => (fun (v_colour5 : (List Int)) (v_count6 : Int) => (fun (c7 : (List (List ((List Int) × Int)))) => ((m_nearest_middle v_middles v_colour5).bind fun t12 => ((napp c7 t12 (v_colour5, v_count6)).bind fun c14 => some c14))) s_) p_.1 p_.2)) (List.map (fun (_ : (List (Int × Int))) => ([] : List ((List Int) × Int))) v_middles) v_rows).bind fun c16 => some c16))
def pf_m_shared_out : Pf := fun as m R => ∃ (v_rows : (List ((List Int) × Int))) (v_middles : (List (List (Int × Int)))) (r_ : (List (List ((List Int) × Int)))), m_shared_out v_rows v_middles = some r_ ∧ as = [.da ((dL (dP (dU dI) dI)) v_rows), .da ((dL (dU (dP dI dI))) v_middles)] ∧ m = [] ∧ R = fun c m2 => c = .da ((dL (dL (dP (dU dI) dI))) r_) ∧ m2 = []
abbrev sm_shared_out : Stmt := topS 25
abbrev N_m_shared_out : List Str := ["rows", "middles", "shares", "colour", "count", "middle"]
theorem sc_m_shared_out : FnScope N_m_shared_out ["rows", "middles"] (defScope sm_shared_out) := ⟨rfl, rfl, rfl, by decide +kernel, rfl, by decide +kernel, by decide +kernel⟩
noncomputable def m_moved_once (v_rows : (List ((List Int) × Int))) (v_middles : (List (List (Int × Int)))) : Option ((List (List (Int × Int)))) :=
  ((m_shared_out v_rows v_middles).bind fun t2 => ((forF (fun (s_ : (List (List (Int × Int)))) => (fun (p_ : ((List (Int × Int)) × (List ((List Int) × Int)))) => (fun (v_middle4 : (List (Int × Int))) (v_share5 : (List ((List Int) × Int))) => (fun (c6 : (List (List (Int × Int)))) => ((cond (decide ((0 : Int) < (List.length v_share5 : Int))) (((m_middle_of v_share5).bind fun t13 => some t13)) (some v_middle4)).bind fun t15 => ((lenG (List.length c6)).bind fun u17 => some (c6 ++ [t15])))) s_) p_.1 p_.2)) ([] : (List (List (Int × Int)))) (List.zip v_middles t2)).bind fun c19 => some c19))
def pf_m_moved_once : Pf := fun as m R => ∃ (v_rows : (List ((List Int) × Int))) (v_middles : (List (List (Int × Int)))) (r_ : (List (List (Int × Int)))), m_moved_once v_rows v_middles = some r_ ∧ as = [.da ((dL (dP (dU dI) dI)) v_rows), .da ((dL (dU (dP dI dI))) v_middles)] ∧ m = [] ∧ R = fun c m2 => c = .da ((dL (dU (dP dI dI))) r_) ∧ m2 = []
abbrev sm_moved_once : Stmt := topS 26
abbrev N_m_moved_once : List Str := ["rows", "middles", "found", "middle", "share"]
theorem sc_m_moved_once : FnScope N_m_moved_once ["rows", "middles"] (defScope sm_moved_once) := ⟨rfl, rfl, rfl, by decide +kernel, rfl, by decide +kernel, by decide +kernel⟩
noncomputable def m_is_resting (v_rows : (List ((List Int) × Int))) (v_middles : (List (List (Int × Int)))) : Option (Bool) :=
  ((m_moved_once v_rows v_middles).bind fun t1 => some (decide (t1 = v_middles)))
def pf_m_is_resting : Pf := fun as m R => ∃ (v_rows : (List ((List Int) × Int))) (v_middles : (List (List (Int × Int)))) (r_ : Bool), m_is_resting v_rows v_middles = some r_ ∧ as = [.da ((dL (dP (dU dI) dI)) v_rows), .da ((dL (dU (dP dI dI))) v_middles)] ∧ m = [] ∧ R = fun c m2 => c = .da (dB r_) ∧ m2 = []
abbrev sm_is_resting : Stmt := topS 27
abbrev N_m_is_resting : List Str := ["rows", "middles"]
theorem sc_m_is_resting : FnScope N_m_is_resting ["rows", "middles"] (defScope sm_is_resting) := ⟨rfl, rfl, rfl, by decide +kernel, rfl, by decide +kernel, by decide +kernel⟩
noncomputable def m_law_mix (v_cell : Int) (v_k : Int) : Option (Int) :=
  ((modG v_cell (2147483629 : Int)).bind fun t1 => ((mulG v_k v_k).bind fun t3 => ((mulG t3 (7919 : Int)).bind fun t5 => ((mulG ((t1 + t5) + (11 : Int)) (48271 : Int)).bind fun t7 => ((modG t7 (2147483647 : Int)).bind fun t9 => ((mulG t9 t9).bind fun t11 => ((modG t11 (1999999973 : Int)).bind fun t13 => some t13)))))))
def pf_m_law_mix : Pf := fun as m R => ∃ (v_cell : Int) (v_k : Int) (r_ : Int), m_law_mix v_cell v_k = some r_ ∧ as = [.da (dI v_cell), .da (dI v_k)] ∧ m = [] ∧ R = fun c m2 => c = .da (dI r_) ∧ m2 = []
abbrev sm_law_mix : Stmt := topS 29
abbrev N_m_law_mix : List Str := ["cell", "k", "m"]
theorem sc_m_law_mix : FnScope N_m_law_mix ["cell", "k"] (defScope sm_law_mix) := ⟨rfl, rfl, rfl, by decide +kernel, rfl, by decide +kernel, by decide +kernel⟩
noncomputable def m_law_left (v_script : (List Int)) (v_k : Int) : Option ((List Int)) :=
  ((cond (decide (v_k < (List.length v_script : Int))) (((getI v_script v_k).bind fun t1 => some t1)) (some (0 : Int))).bind fun t3 => ((mulG (absI t3) (b2 (decide ((1000000000000000000 : Int) ≤ (absI t3))))).bind fun t5 => ((mulG (1000003 : Int) v_k).bind fun t7 => some ([t5, (t3 + t7), (0 : Int)] : (List Int)))))
def pf_m_law_left : Pf := fun as m R => ∃ (l_script : Addr) (v_script : (List Int)) (v_k : Int) (r_ : (List Int)), m_law_left v_script v_k = some r_ ∧ as = [.sl l_script v_script, .da (dI v_k)] ∧ m = [] ∧ R = fun c m2 => ∃ p, c = .rf p ∧ m2 = [(p, .ls (List.map dI r_))]
abbrev sm_law_left : Stmt := topS 30
abbrev N_m_law_left : List Str := ["script", "k", "cell"]
theorem sc_m_law_left : FnScope N_m_law_left ["script", "k"] (defScope sm_law_left) := ⟨rfl, rfl, rfl, by decide +kernel, rfl, by decide +kernel, by decide +kernel⟩
noncomputable def m_law_pick (v_left : (List Int)) (v_many : Int) : Option (Int × (List Int)) :=
  ((getI v_left (2 : Int)).bind fun t1 => ((setI v_left (2 : Int) (t1 + (1 : Int))).bind fun c3 => ((getI c3 (0 : Int)).bind fun t5 => (cond (decide ((0 : Int) < t5)) (((getI c3 (0 : Int)).bind fun t7 => ((modG t7 v_many).bind fun t9 => ((getI c3 (0 : Int)).bind fun t11 => ((fdivG t11 v_many).bind fun t13 => ((setI c3 (0 : Int) t13).bind fun c15 => some (t9, c15))))))) (((getI c3 (1 : Int)).bind fun t17 => ((getI c3 (2 : Int)).bind fun t19 => ((m_law_mix t17 t19).bind fun t21 => ((getI c3 (2 : Int)).bind fun t23 => ((m_law_mix t21 (t23 + (64 : Int))).bind fun t25 => ((fdivG t25 (64 : Int)).bind fun t27 => ((modG t27 v_many).bind fun t29 => some (t29, c3)))))))))))))
def pf_m_law_pick : Pf := fun as m R => ∃ (l_left : Addr) (v_left : (List Int)) (v_many : Int) (r_ : Int) (w_left : (List Int)), m_law_pick v_left v_many = some (r_, w_left) ∧ as = [.rf l_left, .da (dI v_many)] ∧ m = [(l_left, .ls (List.map dI v_left))] ∧ R = fun c m2 => c = .da (dI r_) ∧ m2 = [(l_left, .ls (List.map dI w_left))]
abbrev sm_law_pick : Stmt := topS 31
abbrev N_m_law_pick : List Str := ["left", "many", "digit"]
theorem sc_m_law_pick : FnScope N_m_law_pick ["left", "many"] (defScope sm_law_pick) := ⟨rfl, rfl, rfl, by decide +kernel, rfl, by decide +kernel, by decide +kernel⟩
noncomputable def m_law_less (v_one : (Int × Int)) (v_other : (Int × Int)) : Option (Bool) :=
  ((mulG (v_one).1 (v_other).2).bind fun t1 => ((mulG (v_other).1 (v_one).2).bind fun t3 => some (decide (t1 < t3))))
def pf_m_law_less : Pf := fun as m R => ∃ (v_one : (Int × Int)) (v_other : (Int × Int)) (r_ : Bool), m_law_less v_one v_other = some r_ ∧ as = [.da ((dP dI dI) v_one), .da ((dP dI dI) v_other)] ∧ m = [] ∧ R = fun c m2 => c = .da (dB r_) ∧ m2 = []
abbrev sm_law_less : Stmt := topS 32
abbrev N_m_law_less : List Str := ["one", "other"]
theorem sc_m_law_less : FnScope N_m_law_less ["one", "other"] (defScope sm_law_less) := ⟨rfl, rfl, rfl, by decide +kernel, rfl, by decide +kernel, by decide +kernel⟩
noncomputable def m_law_line (v_left : (List Int)) (v_many : Int) : Option ((List ((List Int) × Int)) × (List Int)) :=
  ((m_law_pick v_left (20 : Int)).bind fun (t1, c2) => ((m_law_pick c2 (4 : Int)).bind fun (t6, c7) => ((getI ([(1 : Int), (1 : Int), (3 : Int), (25 : Int)] : (List Int)) t6).bind fun t9 => ((m_law_pick c7 (4 : Int)).bind fun (t11, c12) => ((getI ([(1 : Int), (1 : Int), (3 : Int), (1000 : Int)] : (List Int)) t11).bind fun t14 => ((rngG 0 v_many).bind fun rg16 => ((forF (fun (s_ : Int × (List Int) × (List ((List Int) × Int))) => (fun (v_k18 : Int) => (fun (v_number19 : Int) (c20 : (List Int)) (c21 : (List ((List Int) × Int))) => ((m_law_pick c20 t14).bind fun (t32, c33) => ((lenG (List.length c21)).bind fun u35 => ((m_law_pick c33 t9).bind fun (t37, c38) => ((some ((v_number19 + (1 : Int)) + t37)).bind fun v_number40 => some (v_number40, c38, (c21 ++ [([v_number19], ((1 : Int) + t32))]))))))) s_.1 s_.2.1 s_.2.2)) (t1, c12, ([] : (List ((List Int) × Int)))) rg16).bind fun (v_number42, c43, c44) => some (c44, c43))))))))
def pf_m_law_line : Pf := fun as m R => ∃ (l_left : Addr) (v_left : (List Int)) (v_many : Int) (r_ : (List ((List Int) × Int))) (w_left : (List Int)), m_law_line v_left v_many = some (r_, w_left) ∧ as = [.rf l_left, .da (dI v_many)] ∧ m = [(l_left, .ls (List.map dI v_left))] ∧ R = fun c m2 => c = .da ((dL (dP (dU dI) dI)) r_) ∧ m2 = [(l_left, .ls (List.map dI w_left))]
abbrev sm_law_line : Stmt := topS 33
abbrev N_m_law_line : List Str := ["left", "many", "number", "rows", "step", "counts", "k"]
theorem sc_m_law_line : FnScope N_m_law_line ["left", "many"] (defScope sm_law_line) := ⟨rfl, rfl, rfl, by decide +kernel, rfl, by decide +kernel, by decide +kernel⟩
noncomputable def m_law_stretches (v_rows : (List ((List Int) × Int))) (v_begins : (List Int)) : Option ((List (List ((List Int) × Int)))) :=
  ((lenG (List.length (cutI v_begins (some (1 : Int)) none) + List.length ([(List.length v_rows : Int)] : (List Int)))).bind fun u1 => ((lenG (List.length (List.zip v_begins ((cutI v_begins (some (1 : Int)) none) ++ ([(List.length v_rows : Int)] : (List Int)))))).bind fun u4 => some (List.map (fun (p_ : (Int × Int)) => (fun (v_begin3 : Int) (v_end3 : Int) => (cutI v_rows (some v_begin3) (some v_end3))) p_.1 p_.2) (List.zip v_begins ((cutI v_begins (some (1 : Int)) none) ++ ([(List.length v_rows : Int)] : (List Int)))))))
def pf_m_law_stretches : Pf := fun as m R => ∃ (v_rows : (List ((List Int) × Int))) (v_begins : (List Int)) (r_ : (List (List ((List Int) × Int)))), m_law_stretches v_rows v_begins = some r_ ∧ as = [.da ((dL (dP (dU dI) dI)) v_rows), .da ((dL dI) v_begins)] ∧ m = [] ∧ R = fun c m2 => c = .da ((dL (dL (dP (dU dI) dI))) r_) ∧ m2 = []
abbrev sm_law_stretches : Stmt := topS 34
abbrev N_m_law_stretches : List Str := ["rows", "begins", "begin", "end"]
theorem sc_m_law_stretches : FnScope N_m_law_stretches ["rows", "begins"] (defScope sm_law_stretches) := ⟨rfl, rfl, rfl, by decide +kernel, rfl, by decide +kernel, by decide +kernel⟩
noncomputable def m_law_some_cuts (v_left : (List Int)) (v_rows : (List ((List Int) × Int))) (v_many : Int) : Option ((List Int) × (List Int)) :=
  ((rngG 0 (v_many - (1 : Int))).bind fun rg1 => ((lenG (List.length rg1)).bind fun u7 => ((mapS (fun (s_ : (List Int)) => (fun (v_k3 : Int) => (fun (s11 : (List Int)) => ((m_law_pick s11 (max2 (1 : Int) ((List.length v_rows : Int) - (1 : Int)))).bind fun (t12, c13) => some (((1 : Int) + t12), c13))) s_)) v_left rg1).bind fun (o10, c9) => ((lenG (List.length ([(0 : Int)] : (List Int)) + List.length o10)).bind fun u16 => ((some (([(0 : Int)] : (List Int)) ++ o10)).bind fun v_some18 => ((lenG (List.length v_some18)).bind fun u21 => ((lenS64 (List.length (List.map (fun (v_place20 : Int) => v_place20) (List.filter (fun (v_place20 : Int) => (decide (v_place20 < (List.length v_rows : Int)))) v_some18)))).bind fun u23 => some ((srtSet (List.map (fun (v_place20 : Int) => v_place20) (List.filter (fun (v_place20 : Int) => (decide (v_place20 < (List.length v_rows : Int)))) v_some18))), c9))))))))
def pf_m_law_some_cuts : Pf := fun as m R => ∃ (l_left : Addr) (v_left : (List Int)) (v_rows : (List ((List Int) × Int))) (v_many : Int) (r_ : (List Int)) (w_left : (List Int)), m_law_some_cuts v_left v_rows v_many = some (r_, w_left) ∧ as = [.rf l_left, .da ((dL (dP (dU dI) dI)) v_rows), .da (dI v_many)] ∧ m = [(l_left, .ls (List.map dI v_left))] ∧ R = fun c m2 => c = .da ((dL dI) r_) ∧ m2 = [(l_left, .ls (List.map dI w_left))]
abbrev sm_law_some_cuts : Stmt := topS 35
abbrev N_m_law_some_cuts : List Str := ["left", "rows", "many", "some", "k", "place"]
theorem sc_m_law_some_cuts : FnScope N_m_law_some_cuts ["left", "rows", "many"] (defScope sm_law_some_cuts) := ⟨rfl, rfl, rfl, by decide +kernel, rfl, by decide +kernel, by decide +kernel⟩
noncomputable def m_law_beside (v_begins : (List Int)) (v_length : Int) : Option ((List (List Int))) :=
  ((rngG (1 : Int) (List.length v_begins : Int)).bind fun rg2 => ((forF (fun (s_ : (List (List Int))) => (fun (v_at4 : Int) => (fun (c5 : (List (List Int))) => ((forF (fun (s_ : (List (List Int))) => (fun (v_more50 : Int) => (fun (c51 : (List (List Int))) => ((getI v_begins v_at4).bind fun t72 => ((lenG (List.length (cutI v_begins none (some v_at4)) + List.length ([(t72 + v_more50)] : (List Int)))).bind fun u74 => ((lenG (List.length ((cutI v_begins none (some v_at4)) ++ ([(t72 + v_more50)] : (List Int))) + List.length (cutI v_begins (some (v_at4 + (1 : Int))) none))).bind fun u76 => ((some (((cutI v_begins none (some v_at4)) ++ ([(t72 + v_more50)] : (List Int))) ++ (cutI v_begins (some (v_at4 + (1 : Int))) none))).bind fun v_other78 => ((lenS64 (List.length v_other78)).bind fun u80 => ((cond (decide ((srtSet v_other78) = v_other78)) (((getI v_other78 (-(1 : Int))).bind fun t82 => some (decide (t82 < v_length)))) (some false)).bind fun b84 => ((cond b84 (((lenG (List.length c51)).bind fun u89 => some (c51 ++ [v_other78]))) (some c51)).bind fun c88 => some c88)))))))) s_)) c5 ([(-(1 : Int)), (1 : Int)] : (List Int))).bind fun c92 => some c92)) s_)) ([] : (List (List Int))) rg2).bind fun c94 => some c94))
def pf_m_law_beside : Pf := fun as m R => ∃ (v_begins : (List Int)) (v_length : Int) (r_ : (List (List Int))), m_law_beside v_begins v_length = some r_ ∧ as = [.da ((dL dI) v_begins), .da (dI v_length)] ∧ m = [] ∧ R = fun c m2 => c = .da ((dL (dL dI)) r_) ∧ m2 = []
abbrev sm_law_beside : Stmt := topS 36
abbrev N_m_law_beside : List Str := ["begins", "length", "found", "at", "more", "other"]
theorem sc_m_law_beside : FnScope N_m_law_beside ["begins", "length"] (defScope sm_law_beside) := ⟨rfl, rfl, rfl, by decide +kernel, rfl, by decide +kernel, by decide +kernel⟩
noncomputable def m_law_many_right (v_left : (List Int)) (v_rows : (List ((List Int) × Int))) (v_many : Int) : Option (Bool × (List Int)) :=
  ((m_best_on_line v_rows v_many).bind fun t1 => ((m_law_stretches v_rows (t1).2).bind fun t3 => ((getI (t1).2 (0 : Int)).bind fun t5 => ((cond (!decide (t5 = (0 : Int))) (some true) (((m_total_of t3).bind fun t7 => some ((!decide (t7 = (t1).1)) || (!decide ((List.length t3 : Int) = (min2 v_many (List.length v_rows : Int)))))))).bind fun b9 => (cond b9 (some (false, v_left)) (((m_law_beside (t1).2 (List.length v_rows : Int)).bind fun t11 => ((rngG 0 (4 : Int)).bind fun rg13 => ((lenG (List.length rg13)).bind fun u19 => ((mapS (fun (s_ : (List Int)) => (fun (v_turn15 : Int) => (fun (s23 : (List Int)) => ((m_law_some_cuts s23 v_rows v_many).bind fun (t24, c25) => some (t24, c25))) s_)) v_left rg13).bind fun (o22, c21) => ((lenG (List.length t11 + List.length o22)).bind fun u28 => ((some (t11 ++ o22)).bind fun v_others30 => ((lenG (List.length v_others30)).bind fun u39 => ((mapO (fun (v_some32 : (List Int)) => ((m_law_stretches v_rows v_some32).bind fun t33 => ((m_total_of t33).bind fun t35 => ((m_law_less t35 (t1).1).bind fun t37 => some t37)))) v_others30).bind fun o41 => (cond (List.any o41 id) (some (false, c21)) (((lenG (List.length t3)).bind fun u46 => ((mapO (fun (v_group43 : (List ((List Int) × Int))) => ((m_middle_of v_group43).bind fun t44 => some t44)) t3).bind fun o48 => ((m_is_resting v_rows o48).bind fun t50 => ((cond (decide (t50 = true)) (((m_shared_out v_rows o48).bind fun t52 => some (decide (t52 = t3)))) (some false)).bind fun b54 => some (b54, c21)))))))))))))))))))))
def pf_m_law_many_right : Pf := fun as m R => ∃ (l_left : Addr) (v_left : (List Int)) (v_rows : (List ((List Int) × Int))) (v_many : Int) (r_ : Bool) (w_left : (List Int)), m_law_many_right v_left v_rows v_many = some (r_, w_left) ∧ as = [.rf l_left, .da ((dL (dP (dU dI) dI)) v_rows), .da (dI v_many)] ∧ m = [(l_left, .ls (List.map dI v_left))] ∧ R = fun c m2 => c = .da (dB r_) ∧ m2 = [(l_left, .ls (List.map dI w_left))]
abbrev sm_law_many_right : Stmt := topS 37
abbrev N_m_law_many_right : List Str := ["left", "rows", "many", "total", "begins", "groups", "others", "middles", "group", "turn", "some"]
theorem sc_m_law_many_right : FnScope N_m_law_many_right ["left", "rows", "many"] (defScope sm_law_many_right) := ⟨rfl, rfl, rfl, by decide +kernel, rfl, by decide +kernel, by decide +kernel⟩
noncomputable def m_law_few_right (v_left : (List Int)) (v_rows : (List ((List Int) × Int))) (v_many : Int) : Option (Bool × (List Int)) :=
  ((m_best_on_line v_rows v_many).bind fun t1 => ((m_best_groups v_rows v_many).bind fun t3 => ((m_law_stretches v_rows (t1).2).bind fun t5 => (cond (!decide (t3 = ((t1).1, t5))) (some (false, v_left)) (((m_law_pick v_left (3 : Int)).bind fun (t7, c8) => ((rngG 0 t7).bind fun rg10 => ((lenG (List.length rg10)).bind fun u16 => ((mapS (fun (s_ : (List Int)) => (fun (v_place12 : Int) => (fun (s20 : (List Int)) => ((m_law_pick s20 (1000 : Int)).bind fun (t21, c22) => some (t21, c22))) s_)) c8 rg10).bind fun (o19, c18) => ((rngG 0 ((2 : Int) - t7)).bind fun rg25 => ((lenG (List.length rg25)).bind fun u31 => ((mapS (fun (s_ : (List Int)) => (fun (v_place27 : Int) => (fun (s35 : (List Int)) => ((m_law_pick s35 (1000 : Int)).bind fun (t36, c37) => some (t36, c37))) s_)) c18 rg25).bind fun (o34, c33) => ((lenG (List.length v_rows)).bind fun u45 => ((mapO (fun (p_ : ((List Int) × Int)) => (fun (v_colour40 : (List Int)) (v_count40 : Int) => ((lenG (List.length o19 + List.length v_colour40)).bind fun u41 => ((lenG (List.length (o19 ++ v_colour40) + List.length o34)).bind fun u43 => some (((o19 ++ v_colour40) ++ o34), v_count40)))) p_.1 p_.2) v_rows).bind fun o47 => ((m_best_groups o47 v_many).bind fun t49 => some ((decide ((t49).1 = (t1).1)), c33))))))))))))))))
def pf_m_law_few_right : Pf := fun as m R => ∃ (l_left : Addr) (v_left : (List Int)) (v_rows : (List ((List Int) × Int))) (v_many : Int) (r_ : Bool) (w_left : (List Int)), m_law_few_right v_left v_rows v_many = some (r_, w_left) ∧ as = [.rf l_left, .da ((dL (dP (dU dI) dI)) v_rows), .da (dI v_many)] ∧ m = [(l_left, .ls (List.map dI v_left))] ∧ R = fun c m2 => c = .da (dB r_) ∧ m2 = [(l_left, .ls (List.map dI w_left))]
abbrev sm_law_few_right : Stmt := topS 38
abbrev N_m_law_few_right : List Str := ["left", "rows", "many", "total", "begins", "at", "ahead", "behind", "wider", "colour", "count", "place"]
theorem sc_m_law_few_right : FnScope N_m_law_few_right ["left", "rows", "many"] (defScope sm_law_few_right) := ⟨rfl, rfl, rfl, by decide +kernel, rfl, by decide +kernel, by decide +kernel⟩
noncomputable def m_law (v_script : (List Int)) : Option (Bool) :=
  ((rngG 0 (max2 (2 : Int) (min2 (List.length v_script : Int) (3 : Int)))).bind fun rg1 => ((forC (R := Bool) (fun (s_ : Unit) => (fun (v_k3 : Int) => ((m_law_left v_script v_k3).bind fun c34 => ((m_law_pick c34 (7 : Int)).bind fun (t36, c37) => ((m_law_line c37 ((1 : Int) + t36)).bind fun (t39, c40) => ((m_law_pick c40 (4 : Int)).bind fun (t42, c43) => ((m_law_few_right c43 t39 ((1 : Int) + t42)).bind fun (t45, c46) => (cond (!t45) (some (Ctl.rt false)) (((getI ([(6 : Int), (21 : Int)] : (List Int)) (b2 (decide (v_k3 = (0 : Int))))).bind fun t48 => ((m_law_pick c46 t48).bind fun (t50, c51) => ((m_law_line c51 ((10 : Int) + t50)).bind fun (t53, c54) => ((m_law_pick c54 (10 : Int)).bind fun (t56, c57) => ((m_law_many_right c57 t53 ((1 : Int) + t56)).bind fun (t59, c60) => (cond (!t59) (some (Ctl.rt false)) (some (Ctl.nx ()))))))))))))))))) () rg1).bind fun k64 => ctlK k64 (fun (_ : Unit) => some true) (fun r_ => some r_)))
def pf_m_law : Pf := fun as m R => ∃ (l_script : Addr) (v_script : (List Int)) (r_ : Bool), m_law v_script = some r_ ∧ as = [.sl l_script v_script] ∧ m = [] ∧ R = fun c m2 => c = .da (dB r_) ∧ m2 = []
abbrev sm_law : Stmt := topS 39
abbrev N_m_law : List Str := ["script", "k", "left", "rows"]
theorem sc_m_law : FnScope N_m_law ["script"] (defScope sm_law) := ⟨rfl, rfl, rfl, by decide +kernel, rfl, by decide +kernel, by decide +kernel⟩
end K88
set_option maxHeartbeats 2000000
namespace K88
open PySem PySem.Spec PyProof.Rows L2 Evl FC
theorem ok_m_in_both {P : Program} {w : World} {K : PySem.W.Frag} {mg : Str → Option Value} {base : Heap} {f : Addr} {fd : FuncData} (FF : Fun K "in_both" "in_both" sm_in_both f fd) (n_abs : mg "abs" = none) : FnOk P w K mg base CX0 1 f fd ["one", "other"] (spOf K (pf_m_in_both)) := by
  refine ok_of (N := N_m_in_both) FF sc_m_in_both (fun as m R hG => ?_) (fun cdv A outer s H E hr => ?_)
  · obtain ⟨v_one, v_other, r_, _, rfl, _⟩ := hG
    rfl
  · have nd : (N_m_in_both : List Str).Nodup := sc_m_in_both.nd
    refine ⟨_, (pss_cons (ps_par (i := 0) (j := 1) rfl nd rfl rfl (by decide) rfl rfl (pa_cons (pe_callB call_abs (by rfl) n_abs (by decide +kernel) (pa_cons (pv 0) pa_nil)) (pa_cons (pe_callB call_abs (by rfl) n_abs (by decide +kernel) (pa_cons (pv 1) pa_nil)) pa_nil)) (by rfl))
      (pss_cons (ps_while PassesOwn.never (pt_cmpR op_gt (pv 1) pe_int (nomark _))
      (pss_cons (ps_par (i := 0) (j := 1) rfl nd rfl rfl (by decide) rfl rfl (pa_cons (pv 1) (pa_cons (pe_op op_mod (pv 0) (pv 1)) pa_nil)) (by rfl))
      pss_nil))
      (pss_cons (ps_ret (pv 0)) pss_nil))), ?_⟩
    rintro as m R ⟨v_one, v_other, r_, h0, rfl, rfl, rfl⟩ F D rfl hk hfin hnx
    unfold m_in_both at h0
    show Wp _ _ _ [.da (dI v_one), .da (dI v_other)] []
    refine wp_par (i := 0) (j := 1) (ea_cons (ev_cb (ea_cons (ev_var (i := 0) rfl) ea_nil) rc_abs) (ea_cons (ev_cb (ea_cons (ev_var (i := 1) rfl) ea_nil) rc_abs) ea_nil)) ?_
    show Wp _ _ _ [.da (dI (absI v_one)), .da (dI (absI v_other))] []
    obtain ⟨⟨v_one7, v_other8⟩, q9, h0⟩ := bindS h0
    refine wp_whiL (fun (s_ : Int × Int) => [.da (dI s_.1), .da (dI s_.2)]) (fun (s_ : Int × Int) => []) q9 (.cons .rfl (.cons .rfl Wks.nil)) rfl ?_ ?_ (fun _ => ?_)
    · rintro ⟨v_one1, v_other2⟩ b_ h_
      have e_ := Option.some.inj h_
      subst e_
      exact (et_test (ev_op (ev_var (i := 1) rfl) (ev_int (i := 0)) (rr_b (f := fun i j => decide (j < i)))))
    · rintro ⟨v_one1, v_other2⟩ s_ hx1 h1 D1 he1 hn1 hct1
      show Wp _ _ _ [.da (dI v_one1), .da (dI v_other2)] []
      obtain ⟨t5, q6, h1⟩ := bindS h1
      refine wp_par (i := 0) (j := 1) (ea_cons (ev_var (i := 1) rfl) (ea_cons (ev_op (ev_var (i := 0) rfl) (ev_var (i := 1) rfl) (rr_mod q6)) ea_nil)) ?_
      show Wp _ _ _ [.da (dI v_other2), .da (dI t5)] []
      cases h1
      exact wp_next fun σ H a => hn1 σ H (at_weak (.cons .rfl (.cons .rfl Wks.nil)) a)
    · show Wp _ _ _ [.da (dI v_one7), .da (dI v_other8)] []
      have e0_ := Option.some.inj h0
      subst e0_
      exact wp_retS (ev_var (i := 0) rfl) hfin ⟨rfl, rfl⟩ (List.nil_sublist _)
end K88
set_option maxHeartbeats 2000000
namespace K88
open PySem PySem.Spec PyProof.Rows L2 Evl FC
theorem ok_m_part {P : Program} {w : World} {K : PySem.W.Frag} {mg : Str → Option Value} {base : Heap} {f : Addr} {fd : FuncData} (FF : Fun K "part" "part" sm_part f fd) {f_m_in_both : Addr} {fd_m_in_both : FuncData} (G_m_in_both : FnOk P w K mg base CX0 1 f_m_in_both fd_m_in_both ["one", "other"] (spOf K (pf_m_in_both))) (g_m_in_both : mg "in_both" = some (.ref f_m_in_both)) (k_m_in_both : PySem.W.keepIn K (.ref f_m_in_both) = true) (b_m_in_both : Binds K fd_m_in_both ["one", "other"] []) : FnOk P w K mg base CX0 2 f fd ["top", "bottom"] (spOf K (pf_m_part)) := by
  refine ok_of (N := N_m_part) FF sc_m_part (fun as m R hG => ?_) (fun cdv A outer s H E hr => ?_)
  · obtain ⟨v_top, v_bottom, r_, _, rfl, _⟩ := hG
    rfl
  · have nd : (N_m_part : List Str).Nodup := sc_m_part.nd
    refine ⟨_, (Evl.pss_cut (ps_if (pt_cmpR op_lt (pv 1) pe_int (nomark _)) (pss_cons (ps_par (i := 0) (j := 1) rfl nd rfl rfl (by decide) rfl rfl (pa_cons (pe_un un_neg (pv 0)) (pa_cons (pe_un un_neg (pv 1)) pa_nil)) (by rfl))
      pss_nil) pss_nil)
      (pss_cons (ps_set (i := 2) nd rfl (Or.inl rfl) (pe_call G_m_in_both (hr.mono (by decide)) (by rfl) g_m_in_both k_m_in_both b_m_in_both .nil pass0 (pa_cons (pv 0) (pa_cons (pv 1) pa_nil))))
      (pss_cons (ps_ret (pe_tup (pa_cons (pe_op op_divA (pv 0) (pv 2)) (pa_cons (pe_op op_divA (pv 1) (pv 2)) pa_nil)))) pss_nil))), ?_⟩
    rintro as m R ⟨v_top, v_bottom, r_, h0, rfl, rfl, rfl⟩ F D rfl hk hfin hnx
    unfold m_part at h0
    show Wp _ _ _ [.da (dI v_top), .da (dI v_bottom), .un] []
    obtain ⟨⟨v_top1, v_bottom2⟩, q3, h0⟩ := bindS h0
    refine wp_cutIf (ds' := [.da (dI v_top1), .da (dI v_bottom2), .un]) (m' := []) ?_ (et_test (ev_op (ev_var (i := 1) rfl) (ev_int (i := 0)) (rr_b (f := fun i j => decide (i < j))))) (fun hc => ?_) (fun hc => ?_)
    · obtain ⟨t4, q5, h0⟩ := bindS h0
      refine wp_asg (i := 2) (ev_call (ea_cons (ev_var (i := 0) rfl) (ea_cons (ev_var (i := 1) rfl) ea_nil)) ⟨_, ⟨_, _, _, q5, rfl, rfl, rfl⟩, fun _ _ h => h⟩) ?_
      show Wp _ _ _ [.da (dI v_top1), .da (dI v_bottom2), .da (dI t4)] []
      obtain ⟨t6, q7, h0⟩ := bindS h0
      obtain ⟨t8, q9, h0⟩ := bindS h0
      have e0_ := Option.some.inj h0
      subst e0_
      exact wp_retS (show Ev _ _ _ _ (.da ((dP dI dI) (t6, t8))) _ from ev_tup (dl := [dI t6, dI t8]) (ea_cons (ev_op (ev_var (i := 0) rfl) (ev_var (i := 2) rfl) (rr_div q7)) (ea_cons (ev_op (ev_var (i := 1) rfl) (ev_var (i := 2) rfl) (rr_div q9)) ea_nil)) (Nat.le_of_ble_eq_true rfl)) hfin ⟨rfl, rfl⟩ (List.nil_sublist _)
    · have h101 := condT hc q3
      refine wp_par (i := 0) (j := 1) (ea_cons (ev_un (ev_var (i := 0) rfl) ru_neg) (ea_cons (ev_un (ev_var (i := 1) rfl) ru_neg) ea_nil)) ?_
      show Wp _ _ _ [.da (dI (-v_top)), .da (dI (-v_bottom)), .un] []
      cases h101
      exact wp_nextW (.cons .rfl (.cons .rfl (.cons .un Wks.nil))) rfl
    · have h101 := condF hc q3
      cases h101
      exact wp_nextW (.cons .rfl (.cons .rfl (.cons .un Wks.nil))) rfl
end K88
set_option maxHeartbeats 2000000
namespace K88
open PySem PySem.Spec PyProof.Rows L2 Evl FC
theorem ok_m_plus {P : Program} {w : World} {K : PySem.W.Frag} {mg : Str → Option Value} {base : Heap} {f : Addr} {fd : FuncData} (FF : Fun K "plus" "plus" sm_plus f fd) {f_m_part : Addr} {fd_m_part : FuncData} (G_m_part : FnOk P w K mg base CX0 2 f_m_part fd_m_part ["top", "bottom"] (spOf K (pf_m_part))) (g_m_part : mg "part" = some (.ref f_m_part)) (k_m_part : PySem.W.keepIn K (.ref f_m_part) = true) (b_m_part : Binds K fd_m_part ["top", "bottom"] []) : FnOk P w K mg base CX0 3 f fd ["one", "other"] (spOf K (pf_m_plus)) := by
  refine ok_of (N := N_m_plus) FF sc_m_plus (fun as m R hG => ?_) (fun cdv A outer s H E hr => ?_)
  · obtain ⟨v_one, v_other, r_, _, rfl, _⟩ := hG
    rfl
  · have nd : (N_m_plus : List Str).Nodup := sc_m_plus.nd
    refine ⟨_, (pss_cons (ps_ret (pe_call G_m_part (hr.mono (by decide)) (by rfl) g_m_part k_m_part b_m_part .nil pass0 (pa_cons (pe_op op_add (pe_op op_mulA (pe_ix (kIx (r := rIxT) (K := K) ix_tup rfl) (pv 0) pe_int (fun _ _ => rfl)) (pe_ix (kIx (r := rIxT) (K := K) ix_tup rfl) (pv 1) pe_int (fun _ _ => rfl))) (pe_op op_mulA (pe_ix (kIx (r := rIxT) (K := K) ix_tup rfl) (pv 1) pe_int (fun _ _ => rfl)) (pe_ix (kIx (r := rIxT) (K := K) ix_tup rfl) (pv 0) pe_int (fun _ _ => rfl)))) (pa_cons (pe_op op_mulA (pe_ix (kIx (r := rIxT) (K := K) ix_tup rfl) (pv 0) pe_int (fun _ _ => rfl)) (pe_ix (kIx (r := rIxT) (K := K) ix_tup rfl) (pv 1) pe_int (fun _ _ => rfl))) pa_nil)))) pss_nil), ?_⟩
    rintro as m R ⟨v_one, v_other, r_, h0, rfl, rfl, rfl⟩ F D rfl hk hfin hnx
    unfold m_plus at h0
    show Wp _ _ _ [.da ((dP dI dI) v_one), .da ((dP dI dI) v_other)] []
    obtain ⟨t1, q2, h0⟩ := bindS h0
    obtain ⟨t3, q4, h0⟩ := bindS h0
    obtain ⟨t5, q6, h0⟩ := bindS h0
    obtain ⟨t7, q8, h0⟩ := bindS h0
    have e0_ := Option.some.inj h0
    subst e0_
    exact wp_retS (ev_call (ea_cons (ev_op (ev_op (ev_op (ev_var (i := 0) rfl) (ev_int (i := 0)) (rr_ixT (dl := [dI (v_one).1, dI (v_one).2]) rfl)) (ev_op (ev_var (i := 1) rfl) (ev_int (i := 1)) (rr_ixT (dl := [dI (v_other).1, dI (v_other).2]) rfl)) (rr_mul q2)) (ev_op (ev_op (ev_var (i := 1) rfl) (ev_int (i := 0)) (rr_ixT (dl := [dI (v_other).1, dI (v_other).2]) rfl)) (ev_op (ev_var (i := 0) rfl) (ev_int (i := 1)) (rr_ixT (dl := [dI (v_one).1, dI (v_one).2]) rfl)) (rr_mul q4)) rr_i) (ea_cons (ev_op (ev_op (ev_var (i := 0) rfl) (ev_int (i := 1)) (rr_ixT (dl := [dI (v_one).1, dI (v_one).2]) rfl)) (ev_op (ev_var (i := 1) rfl) (ev_int (i := 1)) (rr_ixT (dl := [dI (v_other).1, dI (v_other).2]) rfl)) (rr_mul q6)) ea_nil)) ⟨_, ⟨_, _, _, q8, rfl, rfl, rfl⟩, fun _ _ h => h⟩) hfin ⟨rfl, rfl⟩ (List.nil_sublist _)
end K88
set_option maxHeartbeats 2000000
namespace K88
open PySem PySem.Spec PyProof.Rows L2 Evl FC
theorem ok_m_plus_q {P : Program} {w : World} {K : PySem.W.Frag} {mg : Str → Option Value} {base : Heap} {f : Addr} {fd : FuncData} (FF : Fun K "plus" "plus" sm_plus_q f fd) {f_m_part : Addr} {fd_m_part : FuncData} (G_m_part : FnOk P w K mg base CX0 2 f_m_part fd_m_part ["top", "bottom"] (spOf K (pf_m_part))) (g_m_part : mg "part" = some (.ref f_m_part)) (k_m_part : PySem.W.keepIn K (.ref f_m_part) = true) (b_m_part : Binds K fd_m_part ["top", "bottom"] []) : FnOk P w K mg base CX0 3 f fd ["one", "other"] (spOf K (pf_m_plus_q K)) := by
  refine ok_of (N := N_m_plus_q) FF sc_m_plus_q (fun as m R hG => ?_) (fun cdv A outer s H E hr => ?_)
  · obtain ⟨v_one, v_other, r_, _, rfl, _⟩ := hG
    rfl
  · have nd : (N_m_plus_q : List Str).Nodup := sc_m_plus_q.nd
    refine ⟨_, (pss_cons (ps_ret (pe_call G_m_part (hr.mono (by decide)) (by rfl) g_m_part k_m_part b_m_part .nil pass0 (pa_cons (pe_op op_add (pe_op op_mulA (pe_ix (kIx (r := rIxT) (K := K) ix_tup rfl) (pv 0) pe_int (fun _ _ => rfl)) (pe_ix (kIx (r := rIxT) (K := K) ix_tup rfl) (pv 1) pe_int (fun _ _ => rfl))) (pe_op op_mulA (pe_ix (kIx (r := rIxT) (K := K) ix_tup rfl) (pv 1) pe_int (fun _ _ => rfl)) (pe_ix (kIx (r := rIxT) (K := K) ix_tup rfl) (pv 0) pe_int (fun _ _ => rfl)))) (pa_cons (pe_op op_mulA (pe_ix (kIx (r := rIxT) (K := K) ix_tup rfl) (pv 0) pe_int (fun _ _ => rfl)) (pe_ix (kIx (r := rIxT) (K := K) ix_tup rfl) (pv 1) pe_int (fun _ _ => rfl))) pa_nil)))) pss_nil), ?_⟩
    rintro as m R ⟨v_one, v_other, r_, h0, rfl, rfl, rfl⟩ F D rfl hk hfin hnx
    unfold m_plus_q at h0
    show Wp _ _ _ [.pr ((mQ _) v_one), .da ((dP dI dI) v_other)] []
    obtain ⟨t1, q2, h0⟩ := bindS h0
    obtain ⟨t3, q4, h0⟩ := bindS h0
    obtain ⟨t5, q6, h0⟩ := bindS h0
    obtain ⟨t7, q8, h0⟩ := bindS h0
    have e0_ := Option.some.inj h0
    subst e0_
    exact wp_retS (ev_call (ea_cons (ev_op (ev_op (ev_op (ev_varM (i := 0) rfl) (ev_int (i := 0)) (rr_ixQ rfl)) (ev_op (ev_var (i := 1) rfl) (ev_int (i := 1)) (rr_ixT (dl := [dI (v_other).1, dI (v_other).2]) rfl)) (rr_mul q2)) (ev_op (ev_op (ev_var (i := 1) rfl) (ev_int (i := 0)) (rr_ixT (dl := [dI (v_other).1, dI (v_other).2]) rfl)) (ev_op (ev_varM (i := 0) rfl) (ev_int (i := 1)) (rr_ixQ rfl)) (rr_mul q4)) rr_i) (ea_cons (ev_op (ev_op (ev_varM (i := 0) rfl) (ev_int (i := 1)) (rr_ixQ rfl)) (ev_op (ev_var (i := 1) rfl) (ev_int (i := 1)) (rr_ixT (dl := [dI (v_other).1, dI (v_other).2]) rfl)) (rr_mul q6)) ea_nil)) ⟨_, ⟨_, _, _, q8, rfl, rfl, rfl⟩, fun _ _ h => h⟩) hfin ⟨rfl, rfl⟩ (List.nil_sublist _)
end K88
set_option maxHeartbeats 2000000
namespace K88
open PySem PySem.Spec PyProof.Rows L2 Evl FC
theorem ok_m_times {P : Program} {w : World} {K : PySem.W.Frag} {mg : Str → Option Value} {base : Heap} {f : Addr} {fd : FuncData} (FF : Fun K "times" "times" sm_times f fd) {f_m_part : Addr} {fd_m_part : FuncData} (G_m_part : FnOk P w K mg base CX0 2 f_m_part fd_m_part ["top", "bottom"] (spOf K (pf_m_part))) (g_m_part : mg "part" = some (.ref f_m_part)) (k_m_part : PySem.W.keepIn K (.ref f_m_part) = true) (b_m_part : Binds K fd_m_part ["top", "bottom"] []) : FnOk P w K mg base CX0 3 f fd ["one", "other"] (spOf K (pf_m_times)) := by
  refine ok_of (N := N_m_times) FF sc_m_times (fun as m R hG => ?_) (fun cdv A outer s H E hr => ?_)
  · obtain ⟨v_one, v_other, r_, _, rfl, _⟩ := hG
    rfl
  · have nd : (N_m_times : List Str).Nodup := sc_m_times.nd
    refine ⟨_, (pss_cons (ps_ret (pe_call G_m_part (hr.mono (by decide)) (by rfl) g_m_part k_m_part b_m_part .nil pass0 (pa_cons (pe_op op_mulA (pe_ix (kIx (r := rIxT) (K := K) ix_tup rfl) (pv 0) pe_int (fun _ _ => rfl)) (pe_ix (kIx (r := rIxT) (K := K) ix_tup rfl) (pv 1) pe_int (fun _ _ => rfl))) (pa_cons (pe_op op_mulA (pe_ix (kIx (r := rIxT) (K := K) ix_tup rfl) (pv 0) pe_int (fun _ _ => rfl)) (pe_ix (kIx (r := rIxT) (K := K) ix_tup rfl) (pv 1) pe_int (fun _ _ => rfl))) pa_nil)))) pss_nil), ?_⟩
    rintro as m R ⟨v_one, v_other, r_, h0, rfl, rfl, rfl⟩ F D rfl hk hfin hnx
    unfold m_times at h0
    show Wp _ _ _ [.da ((dP dI dI) v_one), .da ((dP dI dI) v_other)] []
    obtain ⟨t1, q2, h0⟩ := bindS h0
    obtain ⟨t3, q4, h0⟩ := bindS h0
    obtain ⟨t5, q6, h0⟩ := bindS h0
    have e0_ := Option.some.inj h0
    subst e0_
    exact wp_retS (ev_call (ea_cons (ev_op (ev_op (ev_var (i := 0) rfl) (ev_int (i := 0)) (rr_ixT (dl := [dI (v_one).1, dI (v_one).2]) rfl)) (ev_op (ev_var (i := 1) rfl) (ev_int (i := 0)) (rr_ixT (dl := [dI (v_other).1, dI (v_other).2]) rfl)) (rr_mul q2)) (ea_cons (ev_op (ev_op (ev_var (i := 0) rfl) (ev_int (i := 1)) (rr_ixT (dl := [dI (v_one).1, dI (v_one).2]) rfl)) (ev_op (ev_var (i := 1) rfl) (ev_int (i := 1)) (rr_ixT (dl := [dI (v_other).1, dI (v_other).2]) rfl)) (rr_mul q4)) ea_nil)) ⟨_, ⟨_, _, _, q6, rfl, rfl, rfl⟩, fun _ _ h => h⟩) hfin ⟨rfl, rfl⟩ (List.nil_sublist _)
end K88
set_option maxHeartbeats 2000000
namespace K88
open PySem PySem.Spec PyProof.Rows L2 Evl FC
theorem ok_m_before {P : Program} {w : World} {K : PySem.W.Frag} {mg : Str → Option Value} {base : Heap} {f : Addr} {fd : FuncData} (FF : Fun K "before" "before" sm_before f fd)  : FnOk P w K mg base CX0 1 f fd ["one", "other"] (spOf K (pf_m_before)) := by
  refine ok_of (N := N_m_before) FF sc_m_before (fun as m R hG => ?_) (fun cdv A outer s H E hr => ?_)
  · obtain ⟨v_one, v_other, r_, _, rfl, _⟩ := hG
    rfl
  · have nd : (N_m_before : List Str).Nodup := sc_m_before.nd
    refine ⟨_, (pss_cons (ps_ret (pe_cmpR op_lt (pe_op op_mulA (pe_ix (kIx (r := rIxT) (K := K) ix_tup rfl) (pv 0) pe_int (fun _ _ => rfl)) (pe_ix (kIx (r := rIxT) (K := K) ix_tup rfl) (pv 1) pe_int (fun _ _ => rfl))) (pe_op op_mulA (pe_ix (kIx (r := rIxT) (K := K) ix_tup rfl) (pv 1) pe_int (fun _ _ => rfl)) (pe_ix (kIx (r := rIxT) (K := K) ix_tup rfl) (pv 0) pe_int (fun _ _ => rfl))) (nomark _))) pss_nil), ?_⟩
    rintro as m R ⟨v_one, v_other, r_, h0, rfl, rfl, rfl⟩ F D rfl hk hfin hnx
    unfold m_before at h0
    show Wp _ _ _ [.da ((dP dI dI) v_one), .da ((dP dI dI) v_other)] []
    obtain ⟨t1, q2, h0⟩ := bindS h0
    obtain ⟨t3, q4, h0⟩ := bindS h0
    have e0_ := Option.some.inj h0
    subst e0_
    exact wp_retS (ev_op (ev_op (ev_op (ev_var (i := 0) rfl) (ev_int (i := 0)) (rr_ixT (dl := [dI (v_one).1, dI (v_one).2]) rfl)) (ev_op (ev_var (i := 1) rfl) (ev_int (i := 1)) (rr_ixT (dl := [dI (v_other).1, dI (v_other).2]) rfl)) (rr_mul q2)) (ev_op (ev_op (ev_var (i := 1) rfl) (ev_int (i := 0)) (rr_ixT (dl := [dI (v_other).1, dI (v_other).2]) rfl)) (ev_op (ev_var (i := 0) rfl) (ev_int (i := 1)) (rr_ixT (dl := [dI (v_one).1, dI (v_one).2]) rfl)) (rr_mul q4)) (rr_b (f := fun i j => decide (i < j)))) hfin ⟨rfl, rfl⟩ (List.nil_sublist _)
end K88
set_option maxHeartbeats 2000000
namespace K88
open PySem PySem.Spec PyProof.Rows L2 Evl FC
theorem ok_m_middle_of {P : Program} {w : World} {K : PySem.W.Frag} {mg : Str → Option Value} {base : Heap} {f : Addr} {fd : FuncData} (FF : Fun K "middle_of" "middle_of" sm_middle_of f fd) {f_m_part : Addr} {fd_m_part : FuncData} (G_m_part : FnOk P w K mg base CX0 2 f_m_part fd_m_part ["top", "bottom"] (spOf K (pf_m_part))) (g_m_part : mg "part" = some (.ref f_m_part)) (k_m_part : PySem.W.keepIn K (.ref f_m_part) = true) (b_m_part : Binds K fd_m_part ["top", "bottom"] []) (n_len : mg "len" = none) (n_list : mg "list" = none) (n_range : mg "range" = none) (n_sum : mg "sum" = none) (n_tuple : mg "tuple" = none) : FnOk P w K mg base CX0 3 f fd ["rows"] (spOf K (pf_m_middle_of)) := by
  refine ok_of (N := N_m_middle_of) FF sc_m_middle_of (fun as m R hG => ?_) (fun cdv A outer s H E hr => ?_)
  · obtain ⟨v_rows, r_, _, rfl, _⟩ := hG
    rfl
  · have nd : (N_m_middle_of : List Str).Nodup := sc_m_middle_of.nd
    refine ⟨_, (pss_cons (ps_set (i := 1) nd rfl (Or.inr rfl) (pe_callB (kCa (r := rSum) (K := K) (cr_sum rfl) rfl) (by rfl) n_sum (by decide +kernel) (pa_cons (pe_lc (own := [("colour", 3), ("count", 4)]) (g := gTup K 2 (gCons (gName 3) (gCons (gName 4) gNil))) (tt := tYes) rfl nd (kPi (r := fun K => iList K _) (K := K) (pi_list (pv 0)) rfl) (blkOk_by (own := [("colour", 3), ("count", 4)]) (N := N_m_middle_of) (sc := (defScope sm_middle_of)) (by decide +kernel)) (fun _ _ _ _ _ => (pg_tup rfl (pgs_cons (pg_name (i := 3) nd rfl (by first | exact Or.inl rfl | exact Or.inr rfl)) (pgs_cons (pg_name (i := 4) nd rfl (by first | exact Or.inl rfl | exact Or.inr rfl)) pgs_nil)))) (fun _ _ _ _ _ => pts_nil) (fun _ _ _ _ _ => (pv 4))) pa_nil)))
      (pss_cons (ps_set (i := 2) nd rfl (Or.inl rfl) (pe_listRg rfl (by rfl) n_list (prg_1 (by rfl) n_range (pe_callB (kCa (r := rLenA) (K := K) call_len_seq rfl) (by rfl) n_len (by decide +kernel) (pa_cons (pe_ix (kIx (r := rIxT) (K := K) ix_tup rfl) (pe_ix (kIx (r := rIxL) (K := K) ix_list rfl) (pv 0) pe_int (fun _ _ => rfl)) pe_int (fun _ _ => rfl)) pa_nil)))))
      (pss_cons (ps_ret (pe_callTy (kCa (r := rTupOf) (K := K) call_tuple_of rfl) (by rfl) n_tuple (by decide +kernel) (pa_cons (pe_lc (own := [("place", 5)]) (g := gName 5) (tt := tYes) rfl nd (kPi (r := fun K => iList K _) (K := K) (pi_list (pv 2)) rfl) (blkOk_by (own := [("place", 5)]) (N := N_m_middle_of) (sc := (defScope sm_middle_of)) (by decide +kernel)) (fun _ _ _ _ _ => (pg_name (i := 5) nd rfl (by first | exact Or.inl rfl | exact Or.inr rfl))) (fun _ _ _ _ _ => pts_nil) (fun _ _ _ _ _ => (pe_call G_m_part (hr.mono (by decide)) (by rfl) g_m_part k_m_part b_m_part .nil pass0 (pa_cons (pe_callB (kCa (r := rSum) (K := K) (cr_sum rfl) rfl) (by rfl) n_sum (by decide +kernel) (pa_cons (pe_lc (own := [("colour", 3), ("count", 4)]) (g := gTup K 2 (gCons (gName 3) (gCons (gName 4) gNil))) (tt := tYes) rfl nd (kPi (r := fun K => iList K _) (K := K) (pi_list (pv 0)) rfl) (blkOk_by (own := [("colour", 3), ("count", 4)]) (N := N_m_middle_of) (sc := (relS ({ kind := .function, names := [(".0", .local), ("place", .cell), ("part", .globalImplicit), ("sum", .globalImplicit), ("many", .free), ("rows", .free)], isGenerator := false, isCoroutine := false, more := [] } : Scope) (defScope sm_middle_of))) (by decide +kernel)) (fun _ _ _ _ _ => (pg_tup rfl (pgs_cons (pg_name (i := 3) nd rfl (by first | exact Or.inl rfl | exact Or.inr rfl)) (pgs_cons (pg_name (i := 4) nd rfl (by first | exact Or.inl rfl | exact Or.inr rfl)) pgs_nil)))) (fun _ _ _ _ _ => pts_nil) (fun _ _ _ _ _ => (pe_op op_mulA (pv 4) (pe_ix (kIx (r := rIxT) (K := K) ix_tup rfl) (pv 3) (pv 5) (fun _ _ => rfl))))) pa_nil)) (pa_cons (pv 1) pa_nil))))) pa_nil))) pss_nil))), ?_⟩
    rintro as m R ⟨v_rows, r_, h0, rfl, rfl, rfl⟩ F D rfl hk hfin hnx
    unfold m_middle_of at h0
    show Wp _ _ _ [.da ((dL (dP (dU dI) dI)) v_rows), .un, .un, .un, .un, .un] []
    obtain ⟨u2, q3, h0⟩ := bindS h0
    obtain ⟨v_many4, q5, h0⟩ := bindS h0
    refine wp_asg (i := 1) (ev_eq (f := dI) (ev_cb (ea_cons (lc_end (lc_map (f2 := dI) (step := fun x => some ((fun (p_ : ((List Int) × Int)) => (fun (v_colour1 : (List Int)) (v_count1 : Int) => v_count1) p_.1 p_.2) x)) (src_LP (f := (dU dI)) (f2 := dI) (j := 3) (k := 4) (ev_var (i := 0) rfl)) (by decide) (fun _ => True.intro) q3 (mapO_pure _) (by rintro ⟨v_colour1, v_count1⟩ y_ hx_ h_; cases h_; exact (ev_var (i := 4) rfl)))) ea_nil) rc_sum) (Option.some.inj q5)) ?_
    show Wp _ _ _ [.da ((dL (dP (dU dI) dI)) v_rows), .da (dI v_many4), .un, .un, .un, .un] []
    obtain ⟨t6, q7, h0⟩ := bindS h0
    obtain ⟨rg8, q9, h0⟩ := bindS h0
    obtain ⟨u10, q11, h0⟩ := bindS h0
    refine wp_asg (i := 2) (ev_listRg1 (ev_cb (ea_cons (ev_op (ev_op (ev_var (i := 0) rfl) (ev_int (i := 0)) (rr_ixL (f := (dP (dU dI) dI)) q7)) (ev_int (i := 0)) (rr_ixT (dl := [(dU dI) (t6).1, dI (t6).2]) rfl)) ea_nil) (rc_lenU (f := dI))) q9 q11) ?_
    show Wp _ _ _ [.da ((dL (dP (dU dI) dI)) v_rows), .da (dI v_many4), .da ((dL dI) rg8), .un, .un, .un] []
    obtain ⟨u24, q25, h0⟩ := bindS h0
    obtain ⟨o26, q27, h0⟩ := bindS h0
    have e0_ := Option.some.inj h0
    subst e0_
    exact wp_retS (ev_cb (ea_cons (lc_end (lc_map (f2 := (dP dI dI)) (src_L (f := dI) (j := 5) (ev_var (i := 2) rfl)) (by decide) (fun _ => True.intro) q25 q27 (by rintro v_place12 y_ hx_ h_; obtain ⟨u18, q19, h_⟩ := bindS h_; obtain ⟨o20, q21, h_⟩ := bindS h_; obtain ⟨t22, q23, h_⟩ := bindS h_; cases h_; exact (ev_call (ea_cons (ev_cb (ea_cons (lc_end (lc_map (f2 := dI) (src_LP (f := (dU dI)) (f2 := dI) (j := 3) (k := 4) (ev_var (i := 0) rfl)) (by decide) (fun _ => True.intro) q19 q21 (by rintro ⟨v_colour13, v_count13⟩ y_ hx_ h_; obtain ⟨t14, q15, h_⟩ := bindS h_; obtain ⟨t16, q17, h_⟩ := bindS h_; cases h_; exact (ev_op (ev_var (i := 4) rfl) (ev_op (ev_var (i := 3) rfl) (ev_var (i := 5) rfl) (rr_ixU (f := dI) q15)) (rr_mul q17))))) ea_nil) rc_sum) (ea_cons (ev_var (i := 1) rfl) ea_nil)) ⟨_, ⟨_, _, _, q23, rfl, rfl, rfl⟩, fun _ _ h => h⟩)))) ea_nil) (rc_tupL (f := (dP dI dI)))) hfin ⟨rfl, rfl⟩ (List.nil_sublist _)
end K88
set_option maxHeartbeats 2000000
namespace K88
open PySem PySem.Spec PyProof.Rows L2 Evl FC
theorem ok_m_far_of {P : Program} {w : World} {K : PySem.W.Frag} {mg : Str → Option Value} {base : Heap} {f : Addr} {fd : FuncData} (FF : Fun K "far_of" "far_of" sm_far_of f fd) {f_m_plus : Addr} {fd_m_plus : FuncData} (G_m_plus : FnOk P w K mg base CX0 3 f_m_plus fd_m_plus ["one", "other"] (spOf K (pf_m_plus))) (g_m_plus : mg "plus" = some (.ref f_m_plus)) (k_m_plus : PySem.W.keepIn K (.ref f_m_plus) = true) (b_m_plus : Binds K fd_m_plus ["one", "other"] []) {f_m_times : Addr} {fd_m_times : FuncData} (G_m_times : FnOk P w K mg base CX0 3 f_m_times fd_m_times ["one", "other"] (spOf K (pf_m_times))) (g_m_times : mg "times" = some (.ref f_m_times)) (k_m_times : PySem.W.keepIn K (.ref f_m_times) = true) (b_m_times : Binds K fd_m_times ["one", "other"] []) (n_zip : mg "zip" = none) : FnOk P w K mg base CX0 4 f fd ["colour", "middle"] (spOf K (pf_m_far_of)) := by
  refine ok_of (N := N_m_far_of) FF sc_m_far_of (fun as m R hG => ?_) (fun cdv A outer s H E hr => ?_)
  · obtain ⟨v_colour, v_middle, r_, _, rfl, _⟩ := hG
    rfl
  · have nd : (N_m_far_of : List Str).Nodup := sc_m_far_of.nd
    refine ⟨_, (pss_cons (ps_set (i := 2) nd rfl (Or.inl rfl) (pe_tup (pa_cons pe_int (pa_cons pe_int pa_nil))))
      (pss_cons (ps_for PassesOwn.never rfl (kPi (r := fun K => RZ.iZipA K _) (K := K) (RZ.pi_zipA (by rfl) n_zip (pa_cons (pv 0) (pa_cons (pv 1) pa_nil))) rfl) (pg_tup rfl (pgs_cons (pg_name (i := 3) nd rfl (by first | exact Or.inl rfl | exact Or.inr rfl)) (pgs_cons (pg_name (i := 4) nd rfl (by first | exact Or.inl rfl | exact Or.inr rfl)) pgs_nil)))
      (pss_cons (ps_set (i := 5) nd rfl (Or.inl rfl) (pe_call G_m_plus (hr.mono (by decide)) (by rfl) g_m_plus k_m_plus b_m_plus .nil pass0 (pa_cons (pe_tup (pa_cons (pv 3) (pa_cons pe_int pa_nil))) (pa_cons (pe_tup (pa_cons (pe_un un_neg (pe_ix (kIx (r := rIxT) (K := K) ix_tup rfl) (pv 4) pe_int (fun _ _ => rfl))) (pa_cons (pe_ix (kIx (r := rIxT) (K := K) ix_tup rfl) (pv 4) pe_int (fun _ _ => rfl)) pa_nil))) pa_nil))))
      (pss_cons (ps_set (i := 2) nd rfl (Or.inl rfl) (pe_call G_m_plus (hr.mono (by decide)) (by rfl) g_m_plus k_m_plus b_m_plus .nil pass0 (pa_cons (pv 2) (pa_cons (pe_call G_m_times (hr.mono (by decide)) (by rfl) g_m_times k_m_times b_m_times .nil pass0 (pa_cons (pv 5) (pa_cons (pv 5) pa_nil))) pa_nil))))
      pss_nil)))
      (pss_cons (ps_ret (pv 2)) pss_nil))), ?_⟩
    rintro as m R ⟨v_colour, v_middle, r_, h0, rfl, rfl, rfl⟩ F D rfl hk hfin hnx
    unfold m_far_of at h0
    show Wp _ _ _ [.da ((dU dI) v_colour), .da ((dU (dP dI dI)) v_middle), .un, .un, .un, .un] []
    obtain ⟨v_far1, q2, h0⟩ := bindS h0
    refine wp_asg (i := 2) (ev_eq (f := (dP dI dI)) (show Ev _ _ _ _ (.da ((dP dI dI) ((0 : Int), (1 : Int)))) _ from ev_tup (dl := [dI (0 : Int), dI (1 : Int)]) (ea_cons (ev_int (i := 0)) (ea_cons (ev_int (i := 1)) ea_nil)) (Nat.le_of_ble_eq_true rfl)) (Option.some.inj q2)) ?_
    show Wp _ _ _ [.da ((dU dI) v_colour), .da ((dU (dP dI dI)) v_middle), .da ((dP dI dI) v_far1), .un, .un, .un] []
    obtain ⟨v_far18, q19, h0⟩ := bindS h0
    refine wp_forF (fun (s_ : (Int × Int)) => [.da ((dU dI) v_colour), .da ((dU (dP dI dI)) v_middle), .da ((dP dI dI) s_), .un, .un, .un]) (fun (s_ : (Int × Int)) => []) (src_ZU (f := dI) (f2 := (dP dI dI)) (j := 3) (k := 4) (ea_cons (ev_var (i := 0) rfl) (ea_cons (ev_var (i := 1) rfl) ea_nil))) q19 (.cons .rfl (.cons .rfl (.cons .rfl (.cons .un (.cons .un (.cons .un Wks.nil)))))) rfl (fun _ => True.intro) ?_ ?_
    · rintro lo1 v_far5 ⟨v_number3, v_here4⟩ s_ hx1 h1 D1 he1 hn1 hct1
      show Wp _ _ _ [.da ((dU dI) v_colour), .da ((dU (dP dI dI)) v_middle), .da ((dP dI dI) v_far5), .da (dI v_number3), .da ((dP dI dI) v_here4), .un] []
      obtain ⟨t12, q13, h1⟩ := bindS h1
      refine wp_asg (i := 5) (ev_call (ea_cons (show Ev _ _ _ _ (.da ((dP dI dI) (v_number3, (1 : Int)))) _ from ev_tup (dl := [dI v_number3, dI (1 : Int)]) (ea_cons (ev_var (i := 3) rfl) (ea_cons (ev_int (i := 1)) ea_nil)) (Nat.le_of_ble_eq_true rfl)) (ea_cons (show Ev _ _ _ _ (.da ((dP dI dI) ((-(v_here4).1), (v_here4).2))) _ from ev_tup (dl := [dI (-(v_here4).1), dI (v_here4).2]) (ea_cons (ev_un (ev_op (ev_var (i := 4) rfl) (ev_int (i := 0)) (rr_ixT (dl := [dI (v_here4).1, dI (v_here4).2]) rfl)) ru_neg) (ea_cons (ev_op (ev_var (i := 4) rfl) (ev_int (i := 1)) (rr_ixT (dl := [dI (v_here4).1, dI (v_here4).2]) rfl)) ea_nil)) (Nat.le_of_ble_eq_true rfl)) ea_nil)) ⟨_, ⟨_, _, _, q13, rfl, rfl, rfl⟩, fun _ _ h => h⟩) ?_
      show Wp _ _ _ [.da ((dU dI) v_colour), .da ((dU (dP dI dI)) v_middle), .da ((dP dI dI) v_far5), .da (dI v_number3), .da ((dP dI dI) v_here4), .da ((dP dI dI) t12)] []
      obtain ⟨t14, q15, h1⟩ := bindS h1
      obtain ⟨t16, q17, h1⟩ := bindS h1
      refine wp_asg (i := 2) (ev_call (ea_cons (ev_var (i := 2) rfl) (ea_cons (ev_call (ea_cons (ev_var (i := 5) rfl) (ea_cons (ev_var (i := 5) rfl) ea_nil)) ⟨_, ⟨_, _, _, q15, rfl, rfl, rfl⟩, fun _ _ h => h⟩) ea_nil)) ⟨_, ⟨_, _, _, q17, rfl, rfl, rfl⟩, fun _ _ h => h⟩) ?_
      show Wp _ _ _ [.da ((dU dI) v_colour), .da ((dU (dP dI dI)) v_middle), .da ((dP dI dI) t16), .da (dI v_number3), .da ((dP dI dI) v_here4), .da ((dP dI dI) t12)] []
      cases h1
      exact wp_next fun σ H a => hn1 σ H (at_weak (.cons .rfl (.cons .rfl (.cons .rfl (.cons .un (.cons .un (.cons .un Wks.nil)))))) a)
    · show Wp _ _ _ [.da ((dU dI) v_colour), .da ((dU (dP dI dI)) v_middle), .da ((dP dI dI) v_far18), .un, .un, .un] []
      have e0_ := Option.some.inj h0
      subst e0_
      exact wp_retS (ev_var (i := 2) rfl) hfin ⟨rfl, rfl⟩ (List.nil_sublist _)
end K88
set_option maxHeartbeats 2000000
namespace K88
open PySem PySem.Spec PyProof.Rows L2 Evl FC
theorem ok_m_spread_of {P : Program} {w : World} {K : PySem.W.Frag} {mg : Str → Option Value} {base : Heap} {f : Addr} {fd : FuncData} (FF : Fun K "spread_of" "spread_of" sm_spread_of f fd) {f_m_part : Addr} {fd_m_part : FuncData} (G_m_part : FnOk P w K mg base CX0 2 f_m_part fd_m_part ["top", "bottom"] (spOf K (pf_m_part))) (g_m_part : mg "part" = some (.ref f_m_part)) (k_m_part : PySem.W.keepIn K (.ref f_m_part) = true) (b_m_part : Binds K fd_m_part ["top", "bottom"] []) (n_len : mg "len" = none) (n_range : mg "range" = none) (n_sum : mg "sum" = none) : FnOk P w K mg base CX0 3 f fd ["rows"] (spOf K (pf_m_spread_of)) := by
  refine ok_of (N := N_m_spread_of) FF sc_m_spread_of (fun as m R hG => ?_) (fun cdv A outer s H E hr => ?_)
  · obtain ⟨v_rows, r_, _, rfl, _⟩ := hG
    rfl
  · have nd : (N_m_spread_of : List Str).Nodup := sc_m_spread_of.nd
    refine ⟨_, (pss_cons (ps_set (i := 1) nd rfl (Or.inl rfl) (pe_callB (kCa (r := rSum) (K := K) (cr_sum rfl) rfl) (by rfl) n_sum (by decide +kernel) (pa_cons (pe_lc (own := [("colour", 6), ("count", 7)]) (g := gTup K 2 (gCons (gName 6) (gCons (gName 7) gNil))) (tt := tYes) rfl nd (kPi (r := fun K => iList K _) (K := K) (pi_list (pv 0)) rfl) (blkOk_by (own := [("colour", 6), ("count", 7)]) (N := N_m_spread_of) (sc := (defScope sm_spread_of)) (by decide +kernel)) (fun _ _ _ _ _ => (pg_tup rfl (pgs_cons (pg_name (i := 6) nd rfl (by first | exact Or.inl rfl | exact Or.inr rfl)) (pgs_cons (pg_name (i := 7) nd rfl (by first | exact Or.inl rfl | exact Or.inr rfl)) pgs_nil)))) (fun _ _ _ _ _ => pts_nil) (fun _ _ _ _ _ => (pv 7))) pa_nil)))
      (pss_cons (ps_set (i := 2) nd rfl (Or.inl rfl) pe_int)
      (pss_cons (ps_for PassesOwn.never rfl (pi_range1 (by rfl) n_range (pa_cons (pe_callB (kCa (r := rLenA) (K := K) call_len_seq rfl) (by rfl) n_len (by decide +kernel) (pa_cons (pe_ix (kIx (r := rIxT) (K := K) ix_tup rfl) (pe_ix (kIx (r := rIxL) (K := K) ix_list rfl) (pv 0) pe_int (fun _ _ => rfl)) pe_int (fun _ _ => rfl)) pa_nil)) pa_nil)) (pg_name (i := 3) nd rfl (by first | exact Or.inl rfl | exact Or.inr rfl))
      (pss_cons (ps_set (i := 4) nd rfl (Or.inl rfl) (pe_callB (kCa (r := rSum) (K := K) (cr_sum rfl) rfl) (by rfl) n_sum (by decide +kernel) (pa_cons (pe_lc (own := [("colour", 6), ("count", 7)]) (g := gTup K 2 (gCons (gName 6) (gCons (gName 7) gNil))) (tt := tYes) rfl nd (kPi (r := fun K => iList K _) (K := K) (pi_list (pv 0)) rfl) (blkOk_by (own := [("colour", 6), ("count", 7)]) (N := N_m_spread_of) (sc := (defScope sm_spread_of)) (by decide +kernel)) (fun _ _ _ _ _ => (pg_tup rfl (pgs_cons (pg_name (i := 6) nd rfl (by first | exact Or.inl rfl | exact Or.inr rfl)) (pgs_cons (pg_name (i := 7) nd rfl (by first | exact Or.inl rfl | exact Or.inr rfl)) pgs_nil)))) (fun _ _ _ _ _ => pts_nil) (fun _ _ _ _ _ => (pe_op op_mulA (pv 7) (pe_ix (kIx (r := rIxT) (K := K) ix_tup rfl) (pv 6) (pv 3) (fun _ _ => rfl))))) pa_nil)))
      (pss_cons (ps_set (i := 5) nd rfl (Or.inl rfl) (pe_callB (kCa (r := rSum) (K := K) (cr_sum rfl) rfl) (by rfl) n_sum (by decide +kernel) (pa_cons (pe_lc (own := [("colour", 6), ("count", 7)]) (g := gTup K 2 (gCons (gName 6) (gCons (gName 7) gNil))) (tt := tYes) rfl nd (kPi (r := fun K => iList K _) (K := K) (pi_list (pv 0)) rfl) (blkOk_by (own := [("colour", 6), ("count", 7)]) (N := N_m_spread_of) (sc := (defScope sm_spread_of)) (by decide +kernel)) (fun _ _ _ _ _ => (pg_tup rfl (pgs_cons (pg_name (i := 6) nd rfl (by first | exact Or.inl rfl | exact Or.inr rfl)) (pgs_cons (pg_name (i := 7) nd rfl (by first | exact Or.inl rfl | exact Or.inr rfl)) pgs_nil)))) (fun _ _ _ _ _ => pts_nil) (fun _ _ _ _ _ => (pe_op op_mulA (pe_op op_mulA (pv 7) (pe_ix (kIx (r := rIxT) (K := K) ix_tup rfl) (pv 6) (pv 3) (fun _ _ => rfl))) (pe_ix (kIx (r := rIxT) (K := K) ix_tup rfl) (pv 6) (pv 3) (fun _ _ => rfl))))) pa_nil)))
      (pss_cons (ps_aug (i := 2) nd rfl (Or.inl rfl) (pe_op op_sub (pe_op op_mulA (pv 5) (pv 1)) (pe_op op_mulA (pv 4) (pv 4))) ip_add)
      pss_nil))))
      (pss_cons (ps_ret (pe_call G_m_part (hr.mono (by decide)) (by rfl) g_m_part k_m_part b_m_part .nil pass0 (pa_cons (pv 2) (pa_cons (pv 1) pa_nil)))) pss_nil)))), ?_⟩
    rintro as m R ⟨v_rows, r_, h0, rfl, rfl, rfl⟩ F D rfl hk hfin hnx
    unfold m_spread_of at h0
    show Wp _ _ _ [.da ((dL (dP (dU dI) dI)) v_rows), .un, .un, .un, .un, .un, .un, .un] []
    obtain ⟨u2, q3, h0⟩ := bindS h0
    obtain ⟨v_many4, q5, h0⟩ := bindS h0
    refine wp_asg (i := 1) (ev_eq (f := dI) (ev_cb (ea_cons (lc_end (lc_map (f2 := dI) (step := fun x => some ((fun (p_ : ((List Int) × Int)) => (fun (v_colour1 : (List Int)) (v_count1 : Int) => v_count1) p_.1 p_.2) x)) (src_LP (f := (dU dI)) (f2 := dI) (j := 6) (k := 7) (ev_var (i := 0) rfl)) (by decide) (fun _ => True.intro) q3 (mapO_pure _) (by rintro ⟨v_colour1, v_count1⟩ y_ hx_ h_; cases h_; exact (ev_var (i := 7) rfl)))) ea_nil) rc_sum) (Option.some.inj q5)) ?_
    show Wp _ _ _ [.da ((dL (dP (dU dI) dI)) v_rows), .da (dI v_many4), .un, .un, .un, .un, .un, .un] []
    refine wp_asg (i := 2) (ev_int (i := 0)) ?_
    show Wp _ _ _ [.da ((dL (dP (dU dI) dI)) v_rows), .da (dI v_many4), .da (dI (0 : Int)), .un, .un, .un, .un, .un] []
    obtain ⟨t6, q7, h0⟩ := bindS h0
    obtain ⟨rg8, q9, h0⟩ := bindS h0
    obtain ⟨v_top72, q75, h0⟩ := bindS h0
    refine wp_forF (fun (s_ : Int) => [.da ((dL (dP (dU dI) dI)) v_rows), .da (dI v_many4), .da (dI s_), .un, .un, .un, .un, .un]) (fun (s_ : Int) => []) (src_R1 (j := 3) (ea_cons (ev_cb (ea_cons (ev_op (ev_op (ev_var (i := 0) rfl) (ev_int (i := 0)) (rr_ixL (f := (dP (dU dI) dI)) q7)) (ev_int (i := 0)) (rr_ixT (dl := [(dU dI) (t6).1, dI (t6).2]) rfl)) ea_nil) (rc_lenU (f := dI))) ea_nil) q9) q75 (.cons .rfl (.cons .rfl (.cons .rfl (.cons .un (.cons .un (.cons .un (.cons .un (.cons .un Wks.nil)))))))) rfl (fun _ => True.intro) ?_ ?_
    · rintro lo1 v_top11 v_place10 s_ hx1 h1 D1 he1 hn1 hct1
      show Wp _ _ _ [.da ((dL (dP (dU dI) dI)) v_rows), .da (dI v_many4), .da (dI v_top11), .da (dI v_place10), .un, .un, .un, .un] []
      obtain ⟨u47, q48, h1⟩ := bindS h1
      obtain ⟨o49, q50, h1⟩ := bindS h1
      obtain ⟨v_numbers51, q52, h1⟩ := bindS h1
      refine wp_asg (i := 4) (ev_eq (f := dI) (ev_cb (ea_cons (lc_end (lc_map (f2 := dI) (src_LP (f := (dU dI)) (f2 := dI) (j := 6) (k := 7) (ev_var (i := 0) rfl)) (by decide) (fun _ => True.intro) q48 q50 (by rintro ⟨v_colour42, v_count42⟩ y_ hx_ h_; obtain ⟨t43, q44, h_⟩ := bindS h_; obtain ⟨t45, q46, h_⟩ := bindS h_; cases h_; exact (ev_op (ev_var (i := 7) rfl) (ev_op (ev_var (i := 6) rfl) (ev_var (i := 3) rfl) (rr_ixU (f := dI) q44)) (rr_mul q46))))) ea_nil) rc_sum) (Option.some.inj q52)) ?_
      show Wp _ _ _ [.da ((dL (dP (dU dI) dI)) v_rows), .da (dI v_many4), .da (dI v_top11), .da (dI v_place10), .da (dI v_numbers51), .un, .un, .un] []
      obtain ⟨u62, q63, h1⟩ := bindS h1
      obtain ⟨o64, q65, h1⟩ := bindS h1
      obtain ⟨v_squares66, q67, h1⟩ := bindS h1
      refine wp_asg (i := 5) (ev_eq (f := dI) (ev_cb (ea_cons (lc_end (lc_map (f2 := dI) (src_LP (f := (dU dI)) (f2 := dI) (j := 6) (k := 7) (ev_var (i := 0) rfl)) (by decide) (fun _ => True.intro) q63 q65 (by rintro ⟨v_colour53, v_count53⟩ y_ hx_ h_; obtain ⟨t54, q55, h_⟩ := bindS h_; obtain ⟨t56, q57, h_⟩ := bindS h_; obtain ⟨t58, q59, h_⟩ := bindS h_; obtain ⟨t60, q61, h_⟩ := bindS h_; cases h_; exact (ev_op (ev_op (ev_var (i := 7) rfl) (ev_op (ev_var (i := 6) rfl) (ev_var (i := 3) rfl) (rr_ixU (f := dI) q55)) (rr_mul q57)) (ev_op (ev_var (i := 6) rfl) (ev_var (i := 3) rfl) (rr_ixU (f := dI) q59)) (rr_mul q61))))) ea_nil) rc_sum) (Option.some.inj q67)) ?_
      show Wp _ _ _ [.da ((dL (dP (dU dI) dI)) v_rows), .da (dI v_many4), .da (dI v_top11), .da (dI v_place10), .da (dI v_numbers51), .da (dI v_squares66), .un, .un] []
      obtain ⟨t68, q69, h1⟩ := bindS h1
      obtain ⟨t70, q71, h1⟩ := bindS h1
      refine wp_aug (i := 2) (a := v_top11) (fi := fun i j => i + j) rfl (ev_op (ev_op (ev_var (i := 5) rfl) (ev_var (i := 1) rfl) (rr_mul q69)) (ev_op (ev_var (i := 4) rfl) (ev_var (i := 4) rfl) (rr_mul q71)) rr_i) ?_
      show Wp _ _ _ [.da ((dL (dP (dU dI) dI)) v_rows), .da (dI v_many4), .da (dI (v_top11 + (t68 - t70))), .da (dI v_place10), .da (dI v_numbers51), .da (dI v_squares66), .un, .un] []
      cases h1
      exact wp_next fun σ H a => hn1 σ H (at_weak (.cons .rfl (.cons .rfl (.cons .rfl (.cons .un (.cons .un (.cons .un (.cons .un (.cons .un Wks.nil)))))))) a)
    · show Wp _ _ _ [.da ((dL (dP (dU dI) dI)) v_rows), .da (dI v_many4), .da (dI v_top72), .un, .un, .un, .un, .un] []
      obtain ⟨t73, q74, h0⟩ := bindS h0
      have e0_ := Option.some.inj h0
      subst e0_
      exact wp_retS (ev_call (ea_cons (ev_var (i := 2) rfl) (ea_cons (ev_var (i := 1) rfl) ea_nil)) ⟨_, ⟨_, _, _, q74, rfl, rfl, rfl⟩, fun _ _ h => h⟩) hfin ⟨rfl, rfl⟩ (List.nil_sublist _)
end K88
set_option maxHeartbeats 2000000
namespace K88
open PySem PySem.Spec PyProof.Rows L2 Evl FC
theorem ok_m_sum_of {P : Program} {w : World} {K : PySem.W.Frag} {mg : Str → Option Value} {base : Heap} {f : Addr} {fd : FuncData} (FF : Fun K "sum_of" "sum_of" sm_sum_of f fd) {f_m_plus_q : Addr} {fd_m_plus_q : FuncData} (G_m_plus_q : FnOk P w K mg base CX0 3 f_m_plus_q fd_m_plus_q ["one", "other"] (spOf K (pf_m_plus_q K))) (g_m_plus_q : mg "plus" = some (.ref f_m_plus_q)) (k_m_plus_q : PySem.W.keepIn K (.ref f_m_plus_q) = true) (b_m_plus_q : Binds K fd_m_plus_q ["one", "other"] []) {a_NOUGHT : Addr} (q_NOUGHT : mg "NOUGHT" = some (.ref a_NOUGHT)) (kt_NOUGHT : KTup K (.ref a_NOUGHT) [.int 0, .int 1]) : FnOk P w K mg base CX0 4 f fd ["fractions"] (spOf K (pf_m_sum_of)) := by
  refine ok_of (N := N_m_sum_of) FF sc_m_sum_of (fun as m R hG => ?_) (fun cdv A outer s H E hr => ?_)
  · obtain ⟨v_fractions, r_, _, rfl, _⟩ := hG
    rfl
  · have nd : (N_m_sum_of : List Str).Nodup := sc_m_sum_of.nd
    refine ⟨_, (pss_cons (ps_set (i := 1) nd rfl (Or.inl rfl) (C8.pe_gc (v := .ref a_NOUGHT) (by rfl) ⟨_, q_NOUGHT, rfl⟩))
      (pss_cons (ps_for PassesOwn.never rfl (kPi (r := fun K => iList K _) (K := K) (pi_list (pv 0)) rfl) (pg_name (i := 2) nd rfl (by first | exact Or.inl rfl | exact Or.inr rfl))
      (pss_cons (ps_set (i := 1) nd rfl (Or.inl rfl) (pe_call G_m_plus_q (hr.mono (by decide)) (by rfl) g_m_plus_q k_m_plus_q b_m_plus_q .nil pass0 (pa_cons (pv 1) (pa_cons (pv 2) pa_nil))))
      pss_nil))
      (pss_cons (ps_ret (pv 1)) pss_nil))), ?_⟩
    rintro as m R ⟨v_fractions, r_, h0, rfl, rfl, rfl⟩ F D rfl hk hfin hnx
    unfold m_sum_of at h0
    show Wp _ _ _ [.da ((dL (dP dI dI)) v_fractions), .un, .un] []
    refine wp_asg (i := 1) (ev_gt kt_NOUGHT) ?_
    show Wp _ _ _ [.da ((dL (dP dI dI)) v_fractions), .pr ((mQ _) (none : Option (Int × Int))), .un] []
    obtain ⟨v_total7, q10, h0⟩ := bindS h0
    refine wp_forF (fun (s_ : (Option (Int × Int))) => [.da ((dL (dP dI dI)) v_fractions), .pr ((mQ _) s_), .un]) (fun (s_ : (Option (Int × Int))) => []) (src_L (f := (dP dI dI)) (j := 2) (ev_var (i := 0) rfl)) q10 (.cons .rfl (.cons .rfl (.cons .un Wks.nil))) rfl (fun _ => True.intro) ?_ ?_
    · rintro lo1 v_total2 v_one1 s_ hx1 h1 D1 he1 hn1 hct1
      show Wp _ _ _ [.da ((dL (dP dI dI)) v_fractions), .pr ((mQ _) v_total2), .da ((dP dI dI) v_one1)] []
      obtain ⟨t5, q6, h1⟩ := bindS h1
      refine wp_asg (i := 1) (ev_qF (ev_call (ea_cons (ev_varM (i := 1) rfl) (ea_cons (ev_var (i := 2) rfl) ea_nil)) ⟨_, ⟨_, _, _, q6, rfl, rfl, rfl⟩, fun _ _ h => h⟩)) ?_
      show Wp _ _ _ [.da ((dL (dP dI dI)) v_fractions), .pr ((mQ _) (some t5)), .da ((dP dI dI) v_one1)] []
      cases h1
      exact wp_next fun σ H a => hn1 σ H (at_weak (.cons .rfl (.cons .rfl (.cons .un Wks.nil))) a)
    · show Wp _ _ _ [.da ((dL (dP dI dI)) v_fractions), .pr ((mQ _) v_total7), .un] []
      obtain ⟨w8, q9, h0⟩ := bindS h0
      have e0_ := Option.some.inj h0
      subst e0_
      exact wp_retS (ev_qT (ev_varM (i := 1) rfl) q9) hfin ⟨rfl, rfl⟩ (List.nil_sublist _)
end K88
set_option maxHeartbeats 2000000
namespace K88
open PySem PySem.Spec PyProof.Rows L2 Evl FC
theorem ok_m_total_of {P : Program} {w : World} {K : PySem.W.Frag} {mg : Str → Option Value} {base : Heap} {f : Addr} {fd : FuncData} (FF : Fun K "total_of" "total_of" sm_total_of f fd) {f_m_spread_of : Addr} {fd_m_spread_of : FuncData} (G_m_spread_of : FnOk P w K mg base CX0 3 f_m_spread_of fd_m_spread_of ["rows"] (spOf K (pf_m_spread_of))) (g_m_spread_of : mg "spread_of" = some (.ref f_m_spread_of)) (k_m_spread_of : PySem.W.keepIn K (.ref f_m_spread_of) = true) (b_m_spread_of : Binds K fd_m_spread_of ["rows"] []) {f_m_sum_of : Addr} {fd_m_sum_of : FuncData} (G_m_sum_of : FnOk P w K mg base CX0 4 f_m_sum_of fd_m_sum_of ["fractions"] (spOf K (pf_m_sum_of))) (g_m_sum_of : mg "sum_of" = some (.ref f_m_sum_of)) (k_m_sum_of : PySem.W.keepIn K (.ref f_m_sum_of) = true) (b_m_sum_of : Binds K fd_m_sum_of ["fractions"] []) : FnOk P w K mg base CX0 5 f fd ["groups"] (spOf K (pf_m_total_of)) := by
  refine ok_of (N := N_m_total_of) FF sc_m_total_of (fun as m R hG => ?_) (fun cdv A outer s H E hr => ?_)
  · obtain ⟨v_groups, r_, _, rfl, _⟩ := hG
    rfl
  · have nd : (N_m_total_of : List Str).Nodup := sc_m_total_of.nd
    refine ⟨_, (pss_cons (ps_ret (pe_call G_m_sum_of (hr.mono (by decide)) (by rfl) g_m_sum_of k_m_sum_of b_m_sum_of .nil pass0 (pa_cons (pe_lc (own := [("group", 1)]) (g := gName 1) (tt := tYes) rfl nd (kPi (r := fun K => iList K _) (K := K) (pi_list (pv 0)) rfl) (blkOk_by (own := [("group", 1)]) (N := N_m_total_of) (sc := (defScope sm_total_of)) (by decide +kernel)) (fun _ _ _ _ _ => (pg_name (i := 1) nd rfl (by first | exact Or.inl rfl | exact Or.inr rfl))) (fun _ _ _ _ _ => pts_nil) (fun _ _ _ _ _ => (pe_call G_m_spread_of (hr.mono (by decide)) (by rfl) g_m_spread_of k_m_spread_of b_m_spread_of .nil pass0 (pa_cons (pv 1) pa_nil)))) pa_nil))) pss_nil), ?_⟩
    rintro as m R ⟨v_groups, r_, h0, rfl, rfl, rfl⟩ F D rfl hk hfin hnx
    unfold m_total_of at h0
    show Wp _ _ _ [.da ((dL (dL (dP (dU dI) dI))) v_groups), .un] []
    obtain ⟨u4, q5, h0⟩ := bindS h0
    obtain ⟨o6, q7, h0⟩ := bindS h0
    obtain ⟨t8, q9, h0⟩ := bindS h0
    have e0_ := Option.some.inj h0
    subst e0_
    exact wp_retS (ev_call (ea_cons (lc_end (lc_map (f2 := (dP dI dI)) (src_L (f := (dL (dP (dU dI) dI))) (j := 1) (ev_var (i := 0) rfl)) (by decide) (fun _ => True.intro) q5 q7 (by rintro v_group1 y_ hx_ h_; obtain ⟨t2, q3, h_⟩ := bindS h_; cases h_; exact (ev_call (ea_cons (ev_var (i := 1) rfl) ea_nil) ⟨_, ⟨_, _, q3, rfl, rfl, rfl⟩, fun _ _ h => h⟩)))) ea_nil) ⟨_, ⟨_, _, q9, rfl, rfl, rfl⟩, fun _ _ h => h⟩) hfin ⟨rfl, rfl⟩ (List.nil_sublist _)
end K88
set_option maxHeartbeats 2000000
namespace K88
open PySem PySem.Spec PyProof.Rows L2 Evl FC
theorem ok_m_is_better {P : Program} {w : World} {K : PySem.W.Frag} {mg : Str → Option Value} {base : Heap} {f : Addr} {fd : FuncData} (FF : Fun K "is_better" "is_better" sm_is_better f fd) {f_m_before : Addr} {fd_m_before : FuncData} (G_m_before : FnOk P w K mg base CX0 1 f_m_before fd_m_before ["one", "other"] (spOf K (pf_m_before))) (g_m_before : mg "before" = some (.ref f_m_before)) (k_m_before : PySem.W.keepIn K (.ref f_m_before) = true) (b_m_before : Binds K fd_m_before ["one", "other"] []) : FnOk P w K mg base CX0 2 f fd ["one", "other"] (spOf K (pf_m_is_better)) := by
  refine ok_of (N := N_m_is_better) FF sc_m_is_better (fun as m R hG => ?_) (fun cdv A outer s H E hr => ?_)
  · obtain ⟨v_one, v_other, r_, _, rfl, _⟩ := hG
    rfl
  · have nd : (N_m_is_better : List Str).Nodup := sc_m_is_better.nd
    refine ⟨_, (pss_cons (ps_if (pt_val (pe_call G_m_before (hr.mono (by decide)) (by rfl) g_m_before k_m_before b_m_before .nil pass0 (pa_cons (pe_ix (kIx (r := rIxT) (K := K) ix_tup rfl) (pv 0) pe_int (fun _ _ => rfl)) (pa_cons (pe_ix (kIx (r := rIxT) (K := K) ix_tup rfl) (pv 1) pe_int (fun _ _ => rfl)) pa_nil)))) (pss_cons (ps_ret pe_bl) pss_nil) pss_nil)
      (pss_cons (ps_ret (pe_and (pe_cmpR (kOp (r := rEqP) (K := K) (op_eqP hr.units) rfl) (pe_ix (kIx (r := rIxT) (K := K) ix_tup rfl) (pv 0) pe_int (fun _ _ => rfl)) (pe_ix (kIx (r := rIxT) (K := K) ix_tup rfl) (pv 1) pe_int (fun _ _ => rfl)) (nomark _)) (pe_one (pe_cmpR (kOp (r := fun K => rCmpP K (fun d e => PySem.W.dataLt d e)) (K := K) (op_ltP hr.units) rfl) (pe_ix (kIx (r := rIxT) (K := K) ix_tup rfl) (pv 0) pe_int (fun _ _ => rfl)) (pe_ix (kIx (r := rIxT) (K := K) ix_tup rfl) (pv 1) pe_int (fun _ _ => rfl)) (nomark _))))) pss_nil)), ?_⟩
    rintro as m R ⟨v_one, v_other, r_, h0, rfl, rfl, rfl⟩ F D rfl hk hfin hnx
    unfold m_is_better at h0
    show Wp _ _ _ [.da ((dP (dP dI dI) (dL (dL (dP (dU dI) dI)))) v_one), .da ((dP (dP dI dI) (dL (dL (dP (dU dI) dI)))) v_other)] []
    obtain ⟨t1, q2, h0⟩ := bindS h0
    refine wp_if (et_val (ev_call (ea_cons (ev_op (ev_var (i := 0) rfl) (ev_int (i := 0)) (rr_ixT (dl := [(dP dI dI) (v_one).1, (dL (dL (dP (dU dI) dI))) (v_one).2]) rfl)) (ea_cons (ev_op (ev_var (i := 1) rfl) (ev_int (i := 0)) (rr_ixT (dl := [(dP dI dI) (v_other).1, (dL (dL (dP (dU dI) dI))) (v_other).2]) rfl)) ea_nil)) ⟨_, ⟨_, _, _, q2, rfl, rfl, rfl⟩, fun _ _ h => h⟩)) (fun hc => ?_) (fun hc => ?_)
    · have h0 := condT hc h0
      have e0_ := Option.some.inj h0
      subst e0_
      exact wp_retS ev_bl hfin ⟨rfl, rfl⟩ (List.nil_sublist _)
    · have h0 := condF hc h0
      refine wp_next ?_
      have e0_ := Option.some.inj h0
      subst e0_
      exact wp_retS (ev_andP (ev_op (ev_op (ev_var (i := 0) rfl) (ev_int (i := 0)) (rr_ixT (dl := [(dP dI dI) (v_one).1, (dL (dL (dP (dU dI) dI))) (v_one).2]) rfl)) (ev_op (ev_var (i := 1) rfl) (ev_int (i := 0)) (rr_ixT (dl := [(dP dI dI) (v_other).1, (dL (dL (dP (dU dI) dI))) (v_other).2]) rfl)) (rr_eq (f := (dP dI dI)) (by decide))) (ev_op (ev_op (ev_var (i := 0) rfl) (ev_int (i := 1)) (rr_ixT (dl := [(dP dI dI) (v_one).1, (dL (dL (dP (dU dI) dI))) (v_one).2]) rfl)) (ev_op (ev_var (i := 1) rfl) (ev_int (i := 1)) (rr_ixT (dl := [(dP dI dI) (v_other).1, (dL (dL (dP (dU dI) dI))) (v_other).2]) rfl)) (rr_lt (f := (dL (dL (dP (dU dI) dI)))) (by decide)))) hfin ⟨rfl, rfl⟩ (List.nil_sublist _)
end K88
set_option maxHeartbeats 2000000
namespace K88
open PySem PySem.Spec PyProof.Rows L2 Evl FC
theorem ok_m_is_better_i {P : Program} {w : World} {K : PySem.W.Frag} {mg : Str → Option Value} {base : Heap} {f : Addr} {fd : FuncData} (FF : Fun K "is_better" "is_better" sm_is_better_i f fd) {f_m_before : Addr} {fd_m_before : FuncData} (G_m_before : FnOk P w K mg base CX0 1 f_m_before fd_m_before ["one", "other"] (spOf K (pf_m_before))) (g_m_before : mg "before" = some (.ref f_m_before)) (k_m_before : PySem.W.keepIn K (.ref f_m_before) = true) (b_m_before : Binds K fd_m_before ["one", "other"] []) : FnOk P w K mg base CX0 2 f fd ["one", "other"] (spOf K (pf_m_is_better_i)) := by
  refine ok_of (N := N_m_is_better_i) FF sc_m_is_better_i (fun as m R hG => ?_) (fun cdv A outer s H E hr => ?_)
  · obtain ⟨v_one, v_other, r_, _, rfl, _⟩ := hG
    rfl
  · have nd : (N_m_is_better_i : List Str).Nodup := sc_m_is_better_i.nd
    refine ⟨_, (pss_cons (ps_if (pt_val (pe_call G_m_before (hr.mono (by decide)) (by rfl) g_m_before k_m_before b_m_before .nil pass0 (pa_cons (pe_ix (kIx (r := rIxT) (K := K) ix_tup rfl) (pv 0) pe_int (fun _ _ => rfl)) (pa_cons (pe_ix (kIx (r := rIxT) (K := K) ix_tup rfl) (pv 1) pe_int (fun _ _ => rfl)) pa_nil)))) (pss_cons (ps_ret pe_bl) pss_nil) pss_nil)
      (pss_cons (ps_ret (pe_and (pe_cmpR (kOp (r := rEqP) (K := K) (op_eqP hr.units) rfl) (pe_ix (kIx (r := rIxT) (K := K) ix_tup rfl) (pv 0) pe_int (fun _ _ => rfl)) (pe_ix (kIx (r := rIxT) (K := K) ix_tup rfl) (pv 1) pe_int (fun _ _ => rfl)) (nomark _)) (pe_one (pe_cmpR (kOp (r := fun K => rCmpP K (fun d e => PySem.W.dataLt d e)) (K := K) (op_ltP hr.units) rfl) (pe_ix (kIx (r := rIxT) (K := K) ix_tup rfl) (pv 0) pe_int (fun _ _ => rfl)) (pe_ix (kIx (r := rIxT) (K := K) ix_tup rfl) (pv 1) pe_int (fun _ _ => rfl)) (nomark _))))) pss_nil)), ?_⟩
    rintro as m R ⟨v_one, v_other, r_, h0, rfl, rfl, rfl⟩ F D rfl hk hfin hnx
    unfold m_is_better_i at h0
    show Wp _ _ _ [.da ((dP (dP dI dI) (dL dI)) v_one), .da ((dP (dP dI dI) (dL dI)) v_other)] []
    obtain ⟨t1, q2, h0⟩ := bindS h0
    refine wp_if (et_val (ev_call (ea_cons (ev_op (ev_var (i := 0) rfl) (ev_int (i := 0)) (rr_ixT (dl := [(dP dI dI) (v_one).1, (dL dI) (v_one).2]) rfl)) (ea_cons (ev_op (ev_var (i := 1) rfl) (ev_int (i := 0)) (rr_ixT (dl := [(dP dI dI) (v_other).1, (dL dI) (v_other).2]) rfl)) ea_nil)) ⟨_, ⟨_, _, _, q2, rfl, rfl, rfl⟩, fun _ _ h => h⟩)) (fun hc => ?_) (fun hc => ?_)
    · have h0 := condT hc h0
      have e0_ := Option.some.inj h0
      subst e0_
      exact wp_retS ev_bl hfin ⟨rfl, rfl⟩ (List.nil_sublist _)
    · have h0 := condF hc h0
      refine wp_next ?_
      have e0_ := Option.some.inj h0
      subst e0_
      exact wp_retS (ev_andP (ev_op (ev_op (ev_var (i := 0) rfl) (ev_int (i := 0)) (rr_ixT (dl := [(dP dI dI) (v_one).1, (dL dI) (v_one).2]) rfl)) (ev_op (ev_var (i := 1) rfl) (ev_int (i := 0)) (rr_ixT (dl := [(dP dI dI) (v_other).1, (dL dI) (v_other).2]) rfl)) (rr_eq (f := (dP dI dI)) (by decide))) (ev_op (ev_op (ev_var (i := 0) rfl) (ev_int (i := 1)) (rr_ixT (dl := [(dP dI dI) (v_one).1, (dL dI) (v_one).2]) rfl)) (ev_op (ev_var (i := 1) rfl) (ev_int (i := 1)) (rr_ixT (dl := [(dP dI dI) (v_other).1, (dL dI) (v_other).2]) rfl)) (rr_lt (f := (dL dI)) (by decide)))) hfin ⟨rfl, rfl⟩ (List.nil_sublist _)
end K88
set_option maxHeartbeats 2000000
namespace K88
open PySem PySem.Spec PyProof.Rows L2 Evl FC
theorem ok_m_Groups_init {P : Program} {w : World} {K : PySem.W.Frag} {mg : Str → Option Value} {base : Heap} {f : Addr} {fd : FuncData} (FF : Fun K "__init__" "Groups.__init__" sm_Groups_init f fd) {C_Groups : Addr} (c_Groups : Cls K C_Groups) (na_Groups_own_begun : NoAttr K C_Groups "own_begun") (na_Groups_own_spreads : NoAttr K C_Groups "own_spreads") : FnOk P w K mg base CX0 1 f fd ["self", "begun", "spreads"] (spOf K (pf_m_Groups_init C_Groups)) := by
  refine ok_of (N := N_m_Groups_init) FF sc_m_Groups_init (fun as m R hG => ?_) (fun cdv A outer s H E hr => ?_)
  · obtain ⟨l_self, dx_self, v_begun, v_spreads, w_self, _, rfl, _⟩ := hG
    rfl
  · have nd : (N_m_Groups_init : List Str).Nodup := sc_m_Groups_init.nd
    refine ⟨_, (pss_cons (ps_fld (pv 0) (pv 1) rfl)
      (pss_cons (ps_fld (pv 0) (pv 2) rfl)
      pss_nil)), ?_⟩
    rintro as m R ⟨l_self, dx_self, v_begun, v_spreads, w_self, h0, rfl, rfl, rfl⟩ F D rfl hk hfin hnx
    unfold m_Groups_init at h0
    show Wp _ _ _ [.rf l_self, .da ((dL (dL (dP (dU dI) dI))) v_begun), .da ((dL (dP dI dI)) v_spreads)] [(l_self, obj C_Groups dx_self names_Groups [])]
    refine wp_fld0 0 (ev_var (i := 1) rfl) (ev_rf (i := 0) rfl) rfl pa_Groups_own_begun (Nat.lt_of_le_of_lt (Nat.le_of_ble_eq_true (m := 100) rfl) (by decide)) c_Groups na_Groups_own_begun ?_
    show Wp _ _ _ [.rf l_self, .da ((dL (dL (dP (dU dI) dI))) v_begun), .da ((dL (dP dI dI)) v_spreads)] [(l_self, obj C_Groups dx_self names_Groups [.da ((dL (dL (dP (dU dI) dI))) v_begun)])]
    refine wp_fld0 0 (ev_var (i := 2) rfl) (ev_rf (i := 0) rfl) rfl pa_Groups_own_spreads (Nat.lt_of_le_of_lt (Nat.le_of_ble_eq_true (m := 100) rfl) (by decide)) c_Groups na_Groups_own_spreads ?_
    show Wp _ _ _ [.rf l_self, .da ((dL (dL (dP (dU dI) dI))) v_begun), .da ((dL (dP dI dI)) v_spreads)] [(l_self, obj C_Groups dx_self names_Groups [.da ((dL (dL (dP (dU dI) dI))) v_begun), .da ((dL (dP dI dI)) v_spreads)])]
    cases h0
    exact wp_fall hfin hnx ⟨rfl, rfl⟩ (List.Sublist.cons₂ _ (List.nil_sublist _))
end K88
set_option maxHeartbeats 2000000
namespace K88
open PySem PySem.Spec PyProof.Rows L2 Evl FC
theorem ok_m_Groups_so_far {P : Program} {w : World} {K : PySem.W.Frag} {mg : Str → Option Value} {base : Heap} {f : Addr} {fd : FuncData} (FF : Fun K "so_far" "Groups.so_far" sm_Groups_so_far f fd) {C_Groups : Addr} (c_Groups : Cls K C_Groups) (na_Groups_own_spreads : NoAttr K C_Groups "own_spreads") {f_m_sum_of : Addr} {fd_m_sum_of : FuncData} (G_m_sum_of : FnOk P w K mg base CX0 4 f_m_sum_of fd_m_sum_of ["fractions"] (spOf K (pf_m_sum_of))) (g_m_sum_of : mg "sum_of" = some (.ref f_m_sum_of)) (k_m_sum_of : PySem.W.keepIn K (.ref f_m_sum_of) = true) (b_m_sum_of : Binds K fd_m_sum_of ["fractions"] []) : FnOk P w K mg base CX0 5 f fd ["self"] (spOf K (pf_m_Groups_so_far C_Groups)) := by
  refine ok_of (N := N_m_Groups_so_far) FF sc_m_Groups_so_far (fun as m R hG => ?_) (fun cdv A outer s H E hr => ?_)
  · obtain ⟨v_self, r_, _, rfl, _⟩ := hG
    rfl
  · have nd : (N_m_Groups_so_far : List Str).Nodup := sc_m_Groups_so_far.nd
    refine ⟨_, (pss_cons (ps_ret (pe_call G_m_sum_of (hr.mono (by decide)) (by rfl) g_m_sum_of k_m_sum_of b_m_sum_of .nil pass0 (pa_cons (kPe (r := fun K => tFld K _ _) (K := K) (pe_fld (pv 0) rfl) rfl) pa_nil))) pss_nil), ?_⟩
    rintro as m R ⟨v_self, r_, h0, rfl, rfl, rfl⟩ F D rfl hk hfin hnx
    unfold m_Groups_so_far at h0
    show Wp _ _ _ [.pr ((e_Groups C_Groups) v_self)] []
    obtain ⟨t1, q2, h0⟩ := bindS h0
    have e0_ := Option.some.inj h0
    subst e0_
    exact wp_retS (ev_call (ea_cons (ev_fldF 1 (ev_varM (i := 0) rfl) rfl pa_Groups_own_spreads c_Groups na_Groups_own_spreads) ea_nil) ⟨_, ⟨_, _, q2, rfl, rfl, rfl⟩, fun _ _ h => h⟩) hfin ⟨rfl, rfl⟩ (List.nil_sublist _)
end K88
set_option maxHeartbeats 2000000
namespace K88
open PySem PySem.Spec PyProof.Rows L2 Evl FC
theorem ok_m_Groups_with_row {P : Program} {w : World} {K : PySem.W.Frag} {mg : Str → Option Value} {base : Heap} {f : Addr} {fd : FuncData} (FF : Fun K "with_row" "Groups.with_row" sm_Groups_with_row f fd) {C_Groups : Addr} (c_Groups : Cls K C_Groups) (na_Groups_own_begun : NoAttr K C_Groups "own_begun") (na_Groups_own_spreads : NoAttr K C_Groups "own_spreads") {f_m_Groups_init : Addr} {fd_m_Groups_init : FuncData} (G_m_Groups_init : FnOk P w K mg base CX0 1 f_m_Groups_init fd_m_Groups_init ["self", "begun", "spreads"] (spOf K (pf_m_Groups_init C_Groups))) (mk_Groups : Mk K C_Groups f_m_Groups_init) (gc_Groups : mg "Groups" = some (.ref C_Groups)) (b_m_Groups_init : Binds K fd_m_Groups_init ["self", "begun", "spreads"] []) {f_m_spread_of : Addr} {fd_m_spread_of : FuncData} (G_m_spread_of : FnOk P w K mg base CX0 3 f_m_spread_of fd_m_spread_of ["rows"] (spOf K (pf_m_spread_of))) (g_m_spread_of : mg "spread_of" = some (.ref f_m_spread_of)) (k_m_spread_of : PySem.W.keepIn K (.ref f_m_spread_of) = true) (b_m_spread_of : Binds K fd_m_spread_of ["rows"] []) {a_NOUGHT : Addr} (q_NOUGHT : mg "NOUGHT" = some (.ref a_NOUGHT)) (kt_NOUGHT : KTup K (.ref a_NOUGHT) [.int 0, .int 1]) (n_int : mg "int" = none) (n_len : mg "len" = none) (n_list : mg "list" = none) (n_sorted : mg "sorted" = none) : FnOk P w K mg base CX0 4 f fd ["self", "row", "place"] (spOf K (pf_m_Groups_with_row C_Groups)) := by
  refine ok_of (N := N_m_Groups_with_row) FF sc_m_Groups_with_row (fun as m R hG => ?_) (fun cdv A outer s H E hr => ?_)
  · obtain ⟨v_self, v_row, v_place, r_, _, rfl, _⟩ := hG
    rfl
  · have nd : (N_m_Groups_with_row : List Str).Nodup := sc_m_Groups_with_row.nd
    refine ⟨_, (pss_cons (ps_set (i := 3) nd rfl (Or.inl rfl) (pe_op op_cat (pe_lc (own := [("group", 5)]) (g := gName 5) (tt := tYes) rfl nd (kPi (r := fun K => iList K _) (K := K) (pi_list (kPe (r := fun K => tFld K _ _) (K := K) (pe_fld (pv 0) rfl) rfl)) rfl) (blkOk_by (own := [("group", 5)]) (N := N_m_Groups_with_row) (sc := (defScope sm_Groups_with_row)) (by decide +kernel)) (fun _ _ _ _ _ => (pg_name (i := 5) nd rfl (by first | exact Or.inl rfl | exact Or.inr rfl))) (fun _ _ _ _ _ => pts_nil) (fun _ _ _ _ _ => (pe_callTy (kCa (r := rListOf) (K := K) call_list_of rfl) (by rfl) n_list (by decide +kernel) (pa_cons (pv 5) pa_nil)))) (pe_op op_rep (pe_lst (pa_cons (pe_lst pa_nil) pa_nil)) (pe_callTy call_int1 (by rfl) n_int (by decide +kernel) (pa_cons (pe_cmpR op_eq (pv 2) (pe_callB (kCa (r := rLenA) (K := K) call_len_seq rfl) (by rfl) n_len (by decide +kernel) (pa_cons (kPe (r := fun K => tFld K _ _) (K := K) (pe_fld (pv 0) rfl) rfl) pa_nil)) (nomark _)) pa_nil)))))
      (pss_cons (ps_asg (pe_callB (kCa (r := rSrtP) (K := K) (cr_srtP hr.units) rfl) (by rfl) n_sorted (by decide +kernel) (pa_cons (pe_op op_cat (pe_ix (kIx (r := rIxL) (K := K) ix_list rfl) (pv 3) (pv 2) (fun _ _ => rfl)) (pe_lst (pa_cons (pv 1) pa_nil))) pa_nil)) (pg_sub (pv 3) (pv 2) set_list))
      (pss_cons (ps_set (i := 4) nd rfl (Or.inl rfl) (pe_op op_cat (pe_callTy (kCa (r := rListOf) (K := K) call_list_of rfl) (by rfl) n_list (by decide +kernel) (pa_cons (kPe (r := fun K => tFld K _ _) (K := K) (pe_fld (pv 0) rfl) rfl) pa_nil)) (pe_op op_rep (pe_lst (pa_cons (C8.pe_gc (v := .ref a_NOUGHT) (by rfl) ⟨_, q_NOUGHT, rfl⟩) pa_nil)) (pe_callTy call_int1 (by rfl) n_int (by decide +kernel) (pa_cons (pe_cmpR op_eq (pv 2) (pe_callB (kCa (r := rLenA) (K := K) call_len_seq rfl) (by rfl) n_len (by decide +kernel) (pa_cons (kPe (r := fun K => tFld K _ _) (K := K) (pe_fld (pv 0) rfl) rfl) pa_nil)) (nomark _)) pa_nil)))))
      (pss_cons (ps_asg (pe_call G_m_spread_of (hr.mono (by decide)) (by rfl) g_m_spread_of k_m_spread_of b_m_spread_of .nil pass0 (pa_cons (pe_ix (kIx (r := rIxL) (K := K) ix_list rfl) (pv 3) (pv 2) (fun _ _ => rfl)) pa_nil)) (pg_sub (pv 4) (pv 2) set_list))
      (pss_cons (ps_ret (pe_make mk_Groups G_m_Groups_init (hr.mono (by decide)) (by rfl) gc_Groups b_m_Groups_init .nil pass0 (pa_cons (pv 3) (pa_cons (pv 4) pa_nil)))) pss_nil))))), ?_⟩
    rintro as m R ⟨v_self, v_row, v_place, r_, h0, rfl, rfl, rfl⟩ F D rfl hk hfin hnx
    unfold m_Groups_with_row at h0
    show Wp _ _ _ [.pr ((e_Groups C_Groups) v_self), .da ((dP (dU dI) dI) v_row), .da (dI v_place), .un, .un, .un] []
    obtain ⟨u3, q4, h0⟩ := bindS h0
    obtain ⟨t5, q6, h0⟩ := bindS h0
    obtain ⟨u7, q8, h0⟩ := bindS h0
    refine wp_asgN (i := 3) (en_cat (f := (dL (dP (dU dI) dI))) (lc_end (lc_map (f2 := (dL (dP (dU dI) dI))) (step := fun x => some ((fun (v_group2 : (List ((List Int) × Int))) => v_group2) x)) (src_L (f := (dL (dP (dU dI) dI))) (j := 5) (ev_fldF 0 (ev_varM (i := 0) rfl) rfl pa_Groups_own_begun c_Groups na_Groups_own_begun)) (by decide) (fun _ => True.intro) q4 (mapO_pure _) (by rintro v_group2 y_ hx_ h_; cases h_; exact (ev_cb (ea_cons (ev_var (i := 5) rfl) ea_nil) (rc_listL (f := (dP (dU dI) dI))))))) (ev_op (show Ev _ _ _ _ (.da ((dL (dL (dP (dU dI) dI))) ([([] : (List ((List Int) × Int)))] : (List (List ((List Int) × Int)))))) _ from ev_lst (dl := [(dL (dP (dU dI) dI)) ([] : (List ((List Int) × Int)))]) (ea_cons (show Ev _ _ _ _ (.da ((dL (dP (dU dI) dI)) ([] : (List ((List Int) × Int))))) _ from ev_lst (dl := []) ea_nil (Nat.le_of_ble_eq_true rfl)) ea_nil) (Nat.le_of_ble_eq_true rfl)) (ev_cb (ea_cons (ev_op (ev_var (i := 2) rfl) (ev_cb (ea_cons (ev_fldF 0 (ev_varM (i := 0) rfl) rfl pa_Groups_own_begun c_Groups na_Groups_own_begun) ea_nil) (rc_lenL (f := (dL (dP (dU dI) dI))))) rr_eqI) ea_nil) rc_intB) (rr_rep (f := (dL (dP (dU dI) dI))) q6)) q8) (fun l_1 nk_l_1 => ?_) rfl
    show Wp _ _ _ [.pr ((e_Groups C_Groups) v_self), .da ((dP (dU dI) dI) v_row), .da (dI v_place), .rf l_1, .un, .un] [(l_1, .ls (List.map (dL (dP (dU dI) dI)) ((List.map (fun (v_group2 : (List ((List Int) × Int))) => v_group2) v_self.1) ++ t5)))]
    obtain ⟨t9, q10, h0⟩ := bindS h0
    obtain ⟨u11, q12, h0⟩ := bindS h0
    obtain ⟨c13, q14, h0⟩ := bindS h0
    refine wp_setL (f := (dL (dP (dU dI) dI))) 0 (ev_cb (ea_cons (ev_op (ev_op (ev_rf (i := 3) rfl) (ev_var (i := 2) rfl) (rr_ixC (f := (dL (dP (dU dI) dI))) 0 rfl q10)) (show Ev _ _ _ _ (.da ((dL (dP (dU dI) dI)) ([v_row] : (List ((List Int) × Int))))) _ from ev_lst (dl := [(dP (dU dI) dI) v_row]) (ea_cons (ev_var (i := 1) rfl) ea_nil) (Nat.le_of_ble_eq_true rfl)) (rr_cat q12)) ea_nil) (rc_srt (f := (dP (dU dI) dI)) (by decide))) (ev_rf (i := 3) rfl) (ev_var (i := 2) rfl) rfl q14 ?_
    show Wp _ _ _ [.pr ((e_Groups C_Groups) v_self), .da ((dP (dU dI) dI) v_row), .da (dI v_place), .rf l_1, .un, .un] [(l_1, .ls (List.map (dL (dP (dU dI) dI)) c13))]
    obtain ⟨z16, q17, h0⟩ := bindS h0
    obtain ⟨u18, q19, h0⟩ := bindS h0
    refine wp_asgN (i := 4) (en_catQ (ev_cb (ea_cons (ev_fldF 1 (ev_varM (i := 0) rfl) rfl pa_Groups_own_spreads c_Groups na_Groups_own_spreads) ea_nil) (rc_listL (f := (dP dI dI)))) (ev_gt kt_NOUGHT) (ev_cb (ea_cons (ev_op (ev_var (i := 2) rfl) (ev_cb (ea_cons (ev_fldF 0 (ev_varM (i := 0) rfl) rfl pa_Groups_own_begun c_Groups na_Groups_own_begun) ea_nil) (rc_lenL (f := (dL (dP (dU dI) dI))))) rr_eqI) ea_nil) rc_intB) q17 q19) (fun l_15 nk_l_15 => ?_) rfl
    show Wp _ _ _ [.pr ((e_Groups C_Groups) v_self), .da ((dP (dU dI) dI) v_row), .da (dI v_place), .rf l_1, .rf l_15, .un] [(l_1, .ls (List.map (dL (dP (dU dI) dI)) c13)), (l_15, .lr (List.map SD.pr (List.map (mQ _) (List.map some v_self.2 ++ z16))))]
    obtain ⟨t20, q21, h0⟩ := bindS h0
    obtain ⟨t22, q23, h0⟩ := bindS h0
    obtain ⟨c24, q25, h0⟩ := bindS h0
    refine wp_setM (es := List.map (mQ _) (List.map some v_self.2 ++ z16)) (fs := List.map (mQ _) c24) (x := mQ _ (some t22)) 1 (ev_qF (ev_call (ea_cons (ev_op (ev_rf (i := 3) rfl) (ev_var (i := 2) rfl) (rr_ixC (f := (dL (dP (dU dI) dI))) 0 rfl q21)) ea_nil) ⟨_, ⟨_, _, q23, rfl, rfl, rfl⟩, fun _ _ h => h⟩)) (ev_rf (i := 4) rfl) (ev_var (i := 2) rfl) rfl (setI_map q25) ?_
    show Wp _ _ _ [.pr ((e_Groups C_Groups) v_self), .da ((dP (dU dI) dI) v_row), .da (dI v_place), .rf l_1, .rf l_15, .un] [(l_1, .ls (List.map (dL (dP (dU dI) dI)) c13)), (l_15, .lr (List.map SD.pr (List.map (mQ _) c24)))]
    refine wp_frz (i := 3) (j := 0) (l := l_1) rfl rfl nk_l_1 ?_
    show Wp _ _ _ [.pr ((e_Groups C_Groups) v_self), .da ((dP (dU dI) dI) v_row), .da (dI v_place), .da ((dL (dL (dP (dU dI) dI))) c13), .rf l_15, .un] [(l_15, .lr (List.map SD.pr (List.map (mQ _) c24)))]
    obtain ⟨w26, q27, h0⟩ := bindS h0
    refine wp_frzM (i := 4) (j := 0) (l := l_15) rfl rfl nk_l_15 (allS_mQ q27) ?_
    show Wp _ _ _ [.pr ((e_Groups C_Groups) v_self), .da ((dP (dU dI) dI) v_row), .da (dI v_place), .da ((dL (dL (dP (dU dI) dI))) c13), .da ((dL (dP dI dI)) w26), .un] []
    obtain ⟨c28, q29, h0⟩ := bindS h0
    have e0_ := Option.some.inj h0
    subst e0_
    exact wp_retS (show Ev _ _ _ _ (.pr (e_Groups C_Groups c28)) _ from ev_makeF (dl := [(dL (dL (dP (dU dI) dI))) c28.1, (dL (dP dI dI)) c28.2]) (ea_cons (ev_var (i := 3) rfl) (ea_cons (ev_var (i := 4) rfl) ea_nil)) rfl (Nat.le_of_ble_eq_true rfl) (fun p_ dx_ => ⟨_, ⟨_, _, _, _, _, q29, rfl, rfl, rfl⟩, fun _ _ hr_ => hr_⟩)) hfin ⟨rfl, rfl⟩ (List.nil_sublist _)
end K88
set_option maxHeartbeats 2000000
namespace K88
open PySem PySem.Spec PyProof.Rows L2 Evl FC
theorem ok_m_Groups_ways {P : Program} {w : World} {K : PySem.W.Frag} {mg : Str → Option Value} {base : Heap} {f : Addr} {fd : FuncData} (FF : Fun K "ways" "Groups.ways" sm_Groups_ways f fd) {C_Groups : Addr} (c_Groups : Cls K C_Groups) (na_Groups_own_begun : NoAttr K C_Groups "own_begun") {f_m_Groups_with_row : Addr} {fd_m_Groups_with_row : FuncData} (G_m_Groups_with_row : FnOk P w K mg base CX0 4 f_m_Groups_with_row fd_m_Groups_with_row ["self", "row", "place"] (spOf K (pf_m_Groups_with_row C_Groups))) (mt_m_Groups_with_row : Meth K C_Groups "with_row" f_m_Groups_with_row) (b_m_Groups_with_row : Binds K fd_m_Groups_with_row ["self", "row", "place"] []) (n_int : mg "int" = none) (n_len : mg "len" = none) (n_range : mg "range" = none) : FnOk P w K mg base CX0 5 f fd ["self", "row", "many"] (spOf K (pf_m_Groups_ways C_Groups)) := by
  refine ok_of (N := N_m_Groups_ways) FF sc_m_Groups_ways (fun as m R hG => ?_) (fun cdv A outer s H E hr => ?_)
  · obtain ⟨v_self, v_row, v_many, r_, _, rfl, _⟩ := hG
    rfl
  · have nd : (N_m_Groups_ways : List Str).Nodup := sc_m_Groups_ways.nd
    refine ⟨_, (pss_cons (ps_set (i := 3) nd rfl (Or.inl rfl) (pe_callTy call_int1 (by rfl) n_int (by decide +kernel) (pa_cons (pe_cmpR op_lt (pe_callB (kCa (r := rLenA) (K := K) call_len_seq rfl) (by rfl) n_len (by decide +kernel) (pa_cons (kPe (r := fun K => tFld K _ _) (K := K) (pe_fld (pv 0) rfl) rfl) pa_nil)) (pv 2) (nomark _)) pa_nil)))
      (pss_cons (ps_ret (pe_lc (own := [("place", 4)]) (g := gName 4) (tt := tYes) rfl nd (pi_range1 (by rfl) n_range (pa_cons (pe_op op_add (pe_callB (kCa (r := rLenA) (K := K) call_len_seq rfl) (by rfl) n_len (by decide +kernel) (pa_cons (kPe (r := fun K => tFld K _ _) (K := K) (pe_fld (pv 0) rfl) rfl) pa_nil)) (pv 3)) pa_nil)) (blkOk_by (own := [("place", 4)]) (N := N_m_Groups_ways) (sc := (defScope sm_Groups_ways)) (by decide +kernel)) (fun _ _ _ _ _ => (pg_name (i := 4) nd rfl (by first | exact Or.inl rfl | exact Or.inr rfl))) (fun _ _ _ _ _ => pts_nil) (fun _ _ _ _ _ => (pe_meth (pv 0) c_Groups mt_m_Groups_with_row G_m_Groups_with_row (hr.mono (by decide)) b_m_Groups_with_row .nil pass0 (pa_cons (pv 1) (pa_cons (pv 4) pa_nil)))))) pss_nil)), ?_⟩
    rintro as m R ⟨v_self, v_row, v_many, r_, h0, rfl, rfl, rfl⟩ F D rfl hk hfin hnx
    unfold m_Groups_ways at h0
    show Wp _ _ _ [.pr ((e_Groups C_Groups) v_self), .da ((dP (dU dI) dI) v_row), .da (dI v_many), .un, .un] []
    obtain ⟨v_more1, q2, h0⟩ := bindS h0
    refine wp_asg (i := 3) (ev_eq (f := dI) (ev_cb (ea_cons (ev_op (ev_cb (ea_cons (ev_fldF 0 (ev_varM (i := 0) rfl) rfl pa_Groups_own_begun c_Groups na_Groups_own_begun) ea_nil) (rc_lenL (f := (dL (dP (dU dI) dI))))) (ev_var (i := 2) rfl) (rr_b (f := fun i j => decide (i < j)))) ea_nil) rc_intB) (Option.some.inj q2)) ?_
    show Wp _ _ _ [.pr ((e_Groups C_Groups) v_self), .da ((dP (dU dI) dI) v_row), .da (dI v_many), .da (dI v_more1), .un] []
    obtain ⟨rg3, q4, h0⟩ := bindS h0
    obtain ⟨u8, q9, h0⟩ := bindS h0
    obtain ⟨o10, q11, h0⟩ := bindS h0
    have e0_ := Option.some.inj h0
    subst e0_
    exact wp_retS (lc_endR (e := (e_Groups C_Groups)) (lc_mapR (g := fun y_ => SD.pr ((e_Groups C_Groups) y_)) (src_R1 (j := 4) (ea_cons (ev_op (ev_cb (ea_cons (ev_fldF 0 (ev_varM (i := 0) rfl) rfl pa_Groups_own_begun c_Groups na_Groups_own_begun) ea_nil) (rc_lenL (f := (dL (dP (dU dI) dI))))) (ev_var (i := 3) rfl) rr_i) ea_nil) q4) (by decide) (fun _ => True.intro) q9 q11 (by rintro v_place5 y_ hx_ h_; obtain ⟨t6, q7, h_⟩ := bindS h_; cases h_; exact (ev_methF (mc := []) (mc' := []) (fr := []) (m' := []) (ev_varM (i := 0) rfl) nm_Groups_with_row (ea_cons (ev_var (i := 1) rfl) (ea_cons (ev_var (i := 4) rfl) ea_nil)) (perm_ix (n := 0) [] rfl (by decide) rfl) (perm_ix (n := 0) [] rfl (by decide) rfl) ⟨_, ⟨_, _, _, _, q7, rfl, rfl, rfl⟩, fun _ _ h => h⟩)))) hfin ⟨rfl, rfl⟩ (List.nil_sublist _)
end K88
set_option maxHeartbeats 2000000
namespace K88
open PySem PySem.Spec PyProof.Rows L2 Evl FC
theorem ok_m_better_below {n_ : Nat} {P : Program} {w : World} {K : PySem.W.Frag} {mg : Str → Option Value} {base : Heap} {f : Addr} {fd : FuncData} (FF : Fun K "better_below" "better_below" sm_better_below f fd) {C_Groups : Addr} (c_Groups : Cls K C_Groups) (na_Groups_own_begun : NoAttr K C_Groups "own_begun") {f_m_Groups_so_far : Addr} {fd_m_Groups_so_far : FuncData} (G_m_Groups_so_far : FnOk P w K mg base CX0 5 f_m_Groups_so_far fd_m_Groups_so_far ["self"] (spOf K (pf_m_Groups_so_far C_Groups))) (mt_m_Groups_so_far : Meth K C_Groups "so_far" f_m_Groups_so_far) (b_m_Groups_so_far : Binds K fd_m_Groups_so_far ["self"] []) {f_m_Groups_ways : Addr} {fd_m_Groups_ways : FuncData} (G_m_Groups_ways : FnOk P w K mg base CX0 5 f_m_Groups_ways fd_m_Groups_ways ["self", "row", "many"] (spOf K (pf_m_Groups_ways C_Groups))) (mt_m_Groups_ways : Meth K C_Groups "ways" f_m_Groups_ways) (b_m_Groups_ways : Binds K fd_m_Groups_ways ["self", "row", "many"] []) {f_m_before : Addr} {fd_m_before : FuncData} (G_m_before : FnOk P w K mg base CX0 1 f_m_before fd_m_before ["one", "other"] (spOf K (pf_m_before))) (g_m_before : mg "before" = some (.ref f_m_before)) (k_m_before : PySem.W.keepIn K (.ref f_m_before) = true) (b_m_before : Binds K fd_m_before ["one", "other"] []) (G_m_better_below : FnOk P w K mg base CX0 (5 + n_) f fd ["rows", "many", "groups", "best"] (spOf K (pf_m_better_below n_ C_Groups))) (g_m_better_below : mg "better_below" = some (.ref f)) (k_m_better_below : PySem.W.keepIn K (.ref f) = true) (b_m_better_below : Binds K fd ["rows", "many", "groups", "best"] []) {f_m_is_better : Addr} {fd_m_is_better : FuncData} (G_m_is_better : FnOk P w K mg base CX0 2 f_m_is_better fd_m_is_better ["one", "other"] (spOf K (pf_m_is_better))) (g_m_is_better : mg "is_better" = some (.ref f_m_is_better)) (k_m_is_better : PySem.W.keepIn K (.ref f_m_is_better) = true) (b_m_is_better : Binds K fd_m_is_better ["one", "other"] []) (n_len : mg "len" = none) : FnOk P w K mg base CX0 (5 + n_ + 1) f fd ["rows", "many", "groups", "best"] (spOf K (pf_m_better_below (n_ + 1) C_Groups)) := by
  refine ok_of (N := N_m_better_below) FF sc_m_better_below (fun as m R hG => ?_) (fun cdv A outer s H E hr => ?_)
  · obtain ⟨v_rows, v_many, v_groups, v_best, r_, _, rfl, _⟩ := hG
    rfl
  · have nd : (N_m_better_below : List Str).Nodup := sc_m_better_below.nd
    refine ⟨_, (pss_cons (ps_if (PW.pt (pw_and (pt_cmpR op_notNo (pv 3) pe_non (nomark _)) (pw_and1 (pt_val (pe_call G_m_before (hr.mono (Nat.le_add_right_of_le (by decide))) (by rfl) g_m_before k_m_before b_m_before .nil pass0 (pa_cons (pe_ix (kIx (r := rIxT) (K := K) ix_tup rfl) (pv 3) pe_int (fun _ _ => rfl)) (pa_cons (pe_meth0 (pv 2) c_Groups mt_m_Groups_so_far G_m_Groups_so_far (hr.mono (Nat.le_add_right_of_le (by decide))) b_m_Groups_so_far .nil pass0) pa_nil))))))) (pss_cons (ps_ret (pv 3)) pss_nil) pss_nil)
      (pss_cons (ps_if (pt_cmpR op_eq (pe_callB (kCa (r := rLenA) (K := K) call_len_seq rfl) (by rfl) n_len (by decide +kernel) (pa_cons (pv 0) pa_nil)) pe_int (nomark _)) (pss_cons (ps_set (i := 4) nd rfl (Or.inl rfl) (pe_tup (pa_cons (pe_meth0 (pv 2) c_Groups mt_m_Groups_so_far G_m_Groups_so_far (hr.mono (Nat.le_add_right_of_le (by decide))) b_m_Groups_so_far .nil pass0) (pa_cons (kPe (r := fun K => tFld K _ _) (K := K) (pe_fld (pv 2) rfl) rfl) pa_nil))))
      (pss_cons (ps_ret (pe_ifExp (PW.pt (pw_or (pt_cmpR op_isNo (pv 3) pe_non (nomark _)) (pw_or1 (pt_val (pe_call G_m_is_better (hr.mono (Nat.le_add_right_of_le (by decide))) (by rfl) g_m_is_better k_m_is_better b_m_is_better .nil pass0 (pa_cons (pv 4) (pa_cons (pv 3) pa_nil))))))) (pv 4) (pv 3))) pss_nil)) pss_nil)
      (pss_cons (ps_for PassesOwn.never rfl (kPi (r := fun K => iList K _) (K := K) (pi_list (pe_meth (pv 2) c_Groups mt_m_Groups_ways G_m_Groups_ways (hr.mono (Nat.le_add_right_of_le (by decide))) b_m_Groups_ways .nil pass0 (pa_cons (pe_ix (kIx (r := rIxL) (K := K) ix_list rfl) (pv 0) pe_int (fun _ _ => rfl)) (pa_cons (pv 1) pa_nil)))) rfl) (pg_name (i := 5) nd rfl (by first | exact Or.inl rfl | exact Or.inr rfl))
      (pss_cons (ps_set (i := 3) nd rfl (Or.inl rfl) (pe_call G_m_better_below (hr.mono (Nat.le_refl _)) (by rfl) g_m_better_below k_m_better_below b_m_better_below .nil pass0 (pa_cons (pe_slice (kSl (r := rSlL) (K := K) sl_list rfl) (pv 0) (po_some pe_int) po_none) (pa_cons (pv 1) (pa_cons (pv 5) (pa_cons (pv 3) pa_nil))))))
      pss_nil))
      (pss_cons (ps_ret (pv 3)) pss_nil)))), ?_⟩
    rintro as m R ⟨v_rows, v_many, v_groups, v_best, r_, h0, rfl, rfl, rfl⟩ F D rfl hk hfin hnx
    unfold m_better_below at h0
    show Wp _ _ _ [.da ((dL (dP (dU dI) dI)) v_rows), .da (dI v_many), .pr ((e_Groups C_Groups) v_groups), .da ((dO (dP (dP dI dI) (dL (dL (dP (dU dI) dI))))) v_best), .un, .un] []
    obtain ⟨b7, q8, h0⟩ := bindS h0
    refine wp_if (et_and (k2 := b7) (m' := []) (et_test (ev_op (ev_var (i := 3) rfl) ev_non (rr_notNo (f := (dP (dP dI dI) (dL (dL (dP (dU dI) dI)))))))) (fun e => by have h_ := condT e q8; obtain ⟨w1, q2, h_⟩ := bindS h_; obtain ⟨t3, q4, h_⟩ := bindS h_; obtain ⟨t5, q6, h_⟩ := bindS h_; have e_ := Option.some.inj h_; subst e_; exact (et_val (ev_call (ea_cons (ev_op (ev_some (f := (dP (dP dI dI) (dL (dL (dP (dU dI) dI))))) (o := v_best) (ev_var (i := 3) rfl) q2) (ev_int (i := 0)) (rr_ixT (dl := [(dP dI dI) (w1).1, (dL (dL (dP (dU dI) dI))) (w1).2]) rfl)) (ea_cons (ev_methF (mc := []) (mc' := []) (fr := []) (m' := []) (ev_varM (i := 2) rfl) nm_Groups_so_far ea_nil (perm_ix (n := 0) [] rfl (by decide) rfl) (perm_ix (n := 0) [] rfl (by decide) rfl) ⟨_, ⟨_, _, q4, rfl, rfl, rfl⟩, fun _ _ h => h⟩) ea_nil)) ⟨_, ⟨_, _, _, q6, rfl, rfl, rfl⟩, fun _ _ h => h⟩))) (fun e => by have h_ := condF e q8; cases h_; exact ⟨rfl, rfl⟩)) (fun hc => ?_) (fun hc => ?_)
    · have h0 := condT hc h0
      have e0_ := Option.some.inj h0
      subst e0_
      exact wp_retS (ev_var (i := 3) rfl) hfin ⟨rfl, rfl⟩ (List.nil_sublist _)
    · have h0 := condF hc h0
      refine wp_next ?_
      refine wp_if (et_test (ev_op (ev_cb (ea_cons (ev_var (i := 0) rfl) ea_nil) (rc_lenL (f := (dP (dU dI) dI)))) (ev_int (i := 0)) rr_eqI)) (fun hc => ?_) (fun hc => ?_)
      · have h0 := condT hc h0
        obtain ⟨t9, q10, h0⟩ := bindS h0
        obtain ⟨v_found11, q12, h0⟩ := bindS h0
        refine wp_asg (i := 4) (ev_eq (f := (dP (dP dI dI) (dL (dL (dP (dU dI) dI))))) (show Ev _ _ _ _ (.da ((dP (dP dI dI) (dL (dL (dP (dU dI) dI)))) (t9, v_groups.1))) _ from ev_tup (dl := [(dP dI dI) t9, (dL (dL (dP (dU dI) dI))) v_groups.1]) (ea_cons (ev_methF (mc := []) (mc' := []) (fr := []) (m' := []) (ev_varM (i := 2) rfl) nm_Groups_so_far ea_nil (perm_ix (n := 0) [] rfl (by decide) rfl) (perm_ix (n := 0) [] rfl (by decide) rfl) ⟨_, ⟨_, _, q10, rfl, rfl, rfl⟩, fun _ _ h => h⟩) (ea_cons (ev_fldF 0 (ev_varM (i := 2) rfl) rfl pa_Groups_own_begun c_Groups na_Groups_own_begun) ea_nil)) (Nat.le_of_ble_eq_true rfl)) (Option.some.inj q12)) ?_
        show Wp _ _ _ [.da ((dL (dP (dU dI) dI)) v_rows), .da (dI v_many), .pr ((e_Groups C_Groups) v_groups), .da ((dO (dP (dP dI dI) (dL (dL (dP (dU dI) dI))))) v_best), .da ((dP (dP dI dI) (dL (dL (dP (dU dI) dI)))) v_found11), .un] []
        obtain ⟨b17, q18, h0⟩ := bindS h0
        have e0_ := Option.some.inj h0
        subst e0_
        exact wp_retS (ev_ifP (f := (dO (dP (dP dI dI) (dL (dL (dP (dU dI) dI)))))) (et_or (k2 := b17) (m' := []) (et_test (ev_op (ev_var (i := 3) rfl) ev_non (rr_isNo (f := (dP (dP dI dI) (dL (dL (dP (dU dI) dI)))))))) (fun e => by have h_ := condF e q18; obtain ⟨w13, q14, h_⟩ := bindS h_; obtain ⟨t15, q16, h_⟩ := bindS h_; have e_ := Option.some.inj h_; subst e_; exact (et_val (ev_call (ea_cons (ev_var (i := 4) rfl) (ea_cons (ev_some (f := (dP (dP dI dI) (dL (dL (dP (dU dI) dI))))) (o := v_best) (ev_var (i := 3) rfl) q14) ea_nil)) ⟨_, ⟨_, _, _, q16, rfl, rfl, rfl⟩, fun _ _ h => h⟩))) (fun e => by have h_ := condT e q18; cases h_; exact ⟨rfl, rfl⟩)) (show Ev _ _ _ _ (.da ((dO (dP (dP dI dI) (dL (dL (dP (dU dI) dI))))) (some v_found11))) _ from (ev_var (i := 4) rfl)) (ev_var (i := 3) rfl)) hfin ⟨rfl, rfl⟩ (List.nil_sublist _)
      · have h0 := condF hc h0
        refine wp_next ?_
        obtain ⟨t19, q20, h0⟩ := bindS h0
        obtain ⟨t21, q22, h0⟩ := bindS h0
        obtain ⟨v_best29, q30, h0⟩ := bindS h0
        refine wp_forF (fun (s_ : (Option ((Int × Int) × (List (List ((List Int) × Int)))))) => [.da ((dL (dP (dU dI) dI)) v_rows), .da (dI v_many), .pr ((e_Groups C_Groups) v_groups), .da ((dO (dP (dP dI dI) (dL (dL (dP (dU dI) dI))))) s_), .un, .un]) (fun (s_ : (Option ((Int × Int) × (List (List ((List Int) × Int)))))) => []) (src_M (e := (e_Groups C_Groups)) (j := 5) (ev_methF (mc := []) (mc' := []) (fr := []) (m' := []) (ev_varM (i := 2) rfl) nm_Groups_ways (ea_cons (ev_op (ev_var (i := 0) rfl) (ev_int (i := 0)) (rr_ixL (f := (dP (dU dI) dI)) q20)) (ea_cons (ev_var (i := 1) rfl) ea_nil)) (perm_ix (n := 0) [] rfl (by decide) rfl) (perm_ix (n := 0) [] rfl (by decide) rfl) ⟨_, ⟨_, _, _, _, q22, rfl, rfl, rfl⟩, fun _ _ h => h⟩)) q30 (.cons .rfl (.cons .rfl (.cons .rfl (.cons .rfl (.cons .un (.cons .un Wks.nil)))))) rfl (fun _ => True.intro) ?_ ?_
        · rintro lo1 v_best24 v_further23 s_ hx1 h1 D1 he1 hn1 hct1
          show Wp _ _ _ [.da ((dL (dP (dU dI) dI)) v_rows), .da (dI v_many), .pr ((e_Groups C_Groups) v_groups), .da ((dO (dP (dP dI dI) (dL (dL (dP (dU dI) dI))))) v_best24), .un, .pr ((e_Groups C_Groups) v_further23)] []
          obtain ⟨t27, q28, h1⟩ := bindS h1
          refine wp_asg (i := 3) (ev_call (ea_cons (ev_sl (ev_var (i := 0) rfl) (eo_some (ev_int (i := 1))) eo_none (rs_L (f := (dP (dU dI) dI)))) (ea_cons (ev_var (i := 1) rfl) (ea_cons (ev_varM (i := 5) rfl) (ea_cons (ev_var (i := 3) rfl) ea_nil)))) ⟨_, ⟨_, _, _, _, _, q28, rfl, rfl, rfl⟩, fun _ _ h => h⟩) ?_
          show Wp _ _ _ [.da ((dL (dP (dU dI) dI)) v_rows), .da (dI v_many), .pr ((e_Groups C_Groups) v_groups), .da ((dO (dP (dP dI dI) (dL (dL (dP (dU dI) dI))))) t27), .un, .pr ((e_Groups C_Groups) v_further23)] []
          cases h1
          exact wp_next fun σ H a => hn1 σ H (at_weak (.cons .rfl (.cons .rfl (.cons .rfl (.cons .rfl (.cons .un (.cons .un Wks.nil)))))) a)
        · show Wp _ _ _ [.da ((dL (dP (dU dI) dI)) v_rows), .da (dI v_many), .pr ((e_Groups C_Groups) v_groups), .da ((dO (dP (dP dI dI) (dL (dL (dP (dU dI) dI))))) v_best29), .un, .un] []
          have e0_ := Option.some.inj h0
          subst e0_
          exact wp_retS (ev_var (i := 3) rfl) hfin ⟨rfl, rfl⟩ (List.nil_sublist _)
end K88
set_option maxHeartbeats 2000000
namespace K88
open PySem PySem.Spec PyProof.Rows L2 Evl FC
theorem ok_m_best_groups {P : Program} {w : World} {K : PySem.W.Frag} {mg : Str → Option Value} {base : Heap} {f : Addr} {fd : FuncData} (FF : Fun K "best_groups" "best_groups" sm_best_groups f fd) {C_Groups : Addr} (c_Groups : Cls K C_Groups) {f_m_Groups_init : Addr} {fd_m_Groups_init : FuncData} (G_m_Groups_init : FnOk P w K mg base CX0 1 f_m_Groups_init fd_m_Groups_init ["self", "begun", "spreads"] (spOf K (pf_m_Groups_init C_Groups))) (mk_Groups : Mk K C_Groups f_m_Groups_init) (gc_Groups : mg "Groups" = some (.ref C_Groups)) (b_m_Groups_init : Binds K fd_m_Groups_init ["self", "begun", "spreads"] []) {f_m_better_below : Addr} {fd_m_better_below : FuncData} (G_m_better_below : FnOk P w K mg base CX0 17 f_m_better_below fd_m_better_below ["rows", "many", "groups", "best"] (spOf K (pf_m_better_below 12 C_Groups))) (g_m_better_below : mg "better_below" = some (.ref f_m_better_below)) (k_m_better_below : PySem.W.keepIn K (.ref f_m_better_below) = true) (b_m_better_below : Binds K fd_m_better_below ["rows", "many", "groups", "best"] []) (n_list : mg "list" = none) : FnOk P w K mg base CX0 18 f fd ["rows", "many"] (spOf K (pf_m_best_groups)) := by
  refine ok_of (N := N_m_best_groups) FF sc_m_best_groups (fun as m R hG => ?_) (fun cdv A outer s H E hr => ?_)
  · obtain ⟨v_rows, v_many, r_, _, rfl, _⟩ := hG
    rfl
  · have nd : (N_m_best_groups : List Str).Nodup := sc_m_best_groups.nd
    refine ⟨_, (pss_cons (ps_ret (pe_call G_m_better_below (hr.mono (by decide)) (by rfl) g_m_better_below k_m_better_below b_m_better_below .nil pass0 (pa_cons (pe_callTy (kCa (r := rListOf) (K := K) call_list_of rfl) (by rfl) n_list (by decide +kernel) (pa_cons (pv 0) pa_nil)) (pa_cons (pv 1) (pa_cons (pe_make mk_Groups G_m_Groups_init (hr.mono (by decide)) (by rfl) gc_Groups b_m_Groups_init .nil pass0 (pa_cons (pe_lst pa_nil) (pa_cons (pe_lst pa_nil) pa_nil))) (pa_cons pe_non pa_nil)))))) pss_nil), ?_⟩
    rintro as m R ⟨v_rows, v_many, r_, h0, rfl, rfl, rfl⟩ F D rfl hk hfin hnx
    unfold m_best_groups at h0
    show Wp _ _ _ [.da ((dL (dP (dU dI) dI)) v_rows), .da (dI v_many)] []
    obtain ⟨c1, q2, h0⟩ := bindS h0
    obtain ⟨t3, q4, h0⟩ := bindS h0
    obtain ⟨w5, q6, h0⟩ := bindS h0
    have e0_ := Option.some.inj h0
    subst e0_
    exact wp_retS (ev_some (f := (dP (dP dI dI) (dL (dL (dP (dU dI) dI))))) (o := t3) (ev_call (ea_cons (ev_cb (ea_cons (ev_var (i := 0) rfl) ea_nil) (rc_listL (f := (dP (dU dI) dI)))) (ea_cons (ev_var (i := 1) rfl) (ea_cons (show Ev _ _ _ _ (.pr (e_Groups C_Groups c1)) _ from ev_makeF (dl := [(dL (dL (dP (dU dI) dI))) c1.1, (dL (dP dI dI)) c1.2]) (ea_cons (show Ev _ _ _ _ (.da ((dL (dL (dP (dU dI) dI))) ([] : (List (List ((List Int) × Int)))))) _ from ev_lst (dl := []) ea_nil (Nat.le_of_ble_eq_true rfl)) (ea_cons (show Ev _ _ _ _ (.da ((dL (dP dI dI)) ([] : (List (Int × Int))))) _ from ev_lst (dl := []) ea_nil (Nat.le_of_ble_eq_true rfl)) ea_nil)) rfl (Nat.le_of_ble_eq_true rfl) (fun p_ dx_ => ⟨_, ⟨_, _, _, _, _, q2, rfl, rfl, rfl⟩, fun _ _ hr_ => hr_⟩)) (ea_cons (show Ev _ _ _ _ (.da ((dO (dP (dP dI dI) (dL (dL (dP (dU dI) dI))))) none)) _ from ev_non) ea_nil)))) ⟨_, ⟨_, _, _, _, _, q4, rfl, rfl, rfl⟩, fun _ _ h => h⟩) q6) hfin ⟨rfl, rfl⟩ (List.nil_sublist _)
end K88
set_option maxHeartbeats 2000000
namespace K88
open PySem PySem.Spec PyProof.Rows L2 Evl FC
theorem ok_m_Stretches_init {P : Program} {w : World} {K : PySem.W.Frag} {mg : Str → Option Value} {base : Heap} {f : Addr} {fd : FuncData} (FF : Fun K "__init__" "Stretches.__init__" sm_Stretches_init f fd) {C_Stretches : Addr} (c_Stretches : Cls K C_Stretches) (na_Stretches_own_many : NoAttr K C_Stretches "own_many") (na_Stretches_own_numbers : NoAttr K C_Stretches "own_numbers") (na_Stretches_own_squares : NoAttr K C_Stretches "own_squares") : FnOk P w K mg base CX0 1 f fd ["self", "rows"] (spOf K (pf_m_Stretches_init C_Stretches)) := by
  refine ok_of (N := N_m_Stretches_init) FF sc_m_Stretches_init (fun as m R hG => ?_) (fun cdv A outer s H E hr => ?_)
  · obtain ⟨l_self, dx_self, v_rows, w_own_many, w_own_numbers, w_own_squares, _, rfl, _⟩ := hG
    rfl
  · have nd : (N_m_Stretches_init : List Str).Nodup := sc_m_Stretches_init.nd
    refine ⟨_, (pss_cons (ps_fld (pv 0) (pe_lst (pa_cons pe_int pa_nil)) rfl)
      (pss_cons (ps_fld (pv 0) (pe_lst (pa_cons pe_int pa_nil)) rfl)
      (pss_cons (ps_fld (pv 0) (pe_lst (pa_cons pe_int pa_nil)) rfl)
      (pss_cons (ps_for PassesOwn.never rfl (kPi (r := fun K => iList K _) (K := K) (pi_list (pv 1)) rfl) (pg_tup rfl (pgs_cons (pg_tup rfl (pgs_cons (pg_name (i := 2) nd rfl (by first | exact Or.inl rfl | exact Or.inr rfl)) pgs_nil)) (pgs_cons (pg_name (i := 3) nd rfl (by first | exact Or.inl rfl | exact Or.inr rfl)) pgs_nil)))
      (pss_cons (ps_expr (pe_bm PySem.F.plainAttrs_list PySem.F.slot_list_append PySem.F.type_list_append mt_append (kPe (r := fun K => tFld K _ _) (K := K) (pe_fld (pv 0) rfl) rfl) (pa_cons (pe_op op_add (pe_ix (kIx (r := rIxL) (K := K) ix_list rfl) (kPe (r := fun K => tFld K _ _) (K := K) (pe_fld (pv 0) rfl) rfl) (pe_un un_neg pe_int) (fun _ _ => rfl)) (pv 3)) pa_nil)))
      (pss_cons (ps_expr (pe_bm PySem.F.plainAttrs_list PySem.F.slot_list_append PySem.F.type_list_append mt_append (kPe (r := fun K => tFld K _ _) (K := K) (pe_fld (pv 0) rfl) rfl) (pa_cons (pe_op op_add (pe_ix (kIx (r := rIxL) (K := K) ix_list rfl) (kPe (r := fun K => tFld K _ _) (K := K) (pe_fld (pv 0) rfl) rfl) (pe_un un_neg pe_int) (fun _ _ => rfl)) (pe_op op_mulA (pv 3) (pv 2))) pa_nil)))
      (pss_cons (ps_expr (pe_bm PySem.F.plainAttrs_list PySem.F.slot_list_append PySem.F.type_list_append mt_append (kPe (r := fun K => tFld K _ _) (K := K) (pe_fld (pv 0) rfl) rfl) (pa_cons (pe_op op_add (pe_ix (kIx (r := rIxL) (K := K) ix_list rfl) (kPe (r := fun K => tFld K _ _) (K := K) (pe_fld (pv 0) rfl) rfl) (pe_un un_neg pe_int) (fun _ _ => rfl)) (pe_op op_mulA (pe_op op_mulA (pv 3) (pv 2)) (pv 2))) pa_nil)))
      pss_nil))))
      pss_nil)))), ?_⟩
    rintro as m R ⟨l_self, dx_self, v_rows, w_own_many, w_own_numbers, w_own_squares, h0, rfl, rfl, rfl⟩ F D rfl hk hfin hnx
    unfold m_Stretches_init at h0
    show Wp _ _ _ [.rf l_self, .da ((dL (dP (dU dI) dI)) v_rows), .un, .un] [(l_self, obj C_Stretches dx_self names_Stretches [])]
    refine wp_fld0N 0 (show EvN _ _ _ _ (.ls (List.map dI ([(0 : Int)] : (List Int)))) _ from en_lst (dl := [dI (0 : Int)]) (ea_cons (ev_int (i := 0)) ea_nil) (Nat.le_of_ble_eq_true rfl)) (fun _ => (ev_rf (i := 0) rfl)) rfl pa_Stretches_own_many (Nat.lt_of_le_of_lt (Nat.le_of_ble_eq_true (m := 100) rfl) (by decide)) c_Stretches na_Stretches_own_many rfl (fun l_1 nk_l_1 => ?_)
    show Wp _ _ _ [.rf l_self, .da ((dL (dP (dU dI) dI)) v_rows), .un, .un] [(l_self, obj C_Stretches dx_self names_Stretches [.rf l_1]), (l_1, .ls (List.map dI ([(0 : Int)] : (List Int))))]
    refine wp_fld0N 0 (show EvN _ _ _ _ (.ls (List.map dI ([(0 : Int)] : (List Int)))) _ from en_lst (dl := [dI (0 : Int)]) (ea_cons (ev_int (i := 0)) ea_nil) (Nat.le_of_ble_eq_true rfl)) (fun _ => (ev_rf (i := 0) rfl)) rfl pa_Stretches_own_numbers (Nat.lt_of_le_of_lt (Nat.le_of_ble_eq_true (m := 100) rfl) (by decide)) c_Stretches na_Stretches_own_numbers rfl (fun l_2 nk_l_2 => ?_)
    show Wp _ _ _ [.rf l_self, .da ((dL (dP (dU dI) dI)) v_rows), .un, .un] [(l_self, obj C_Stretches dx_self names_Stretches [.rf l_1, .rf l_2]), (l_1, .ls (List.map dI ([(0 : Int)] : (List Int)))), (l_2, .ls (List.map dI ([(0 : Int)] : (List Int))))]
    refine wp_fld0N 0 (show EvN _ _ _ _ (.ls (List.map dI ([(0 : Int)] : (List Int)))) _ from en_lst (dl := [dI (0 : Int)]) (ea_cons (ev_int (i := 0)) ea_nil) (Nat.le_of_ble_eq_true rfl)) (fun _ => (ev_rf (i := 0) rfl)) rfl pa_Stretches_own_squares (Nat.lt_of_le_of_lt (Nat.le_of_ble_eq_true (m := 100) rfl) (by decide)) c_Stretches na_Stretches_own_squares rfl (fun l_3 nk_l_3 => ?_)
    show Wp _ _ _ [.rf l_self, .da ((dL (dP (dU dI) dI)) v_rows), .un, .un] [(l_self, obj C_Stretches dx_self names_Stretches [.rf l_1, .rf l_2, .rf l_3]), (l_1, .ls (List.map dI ([(0 : Int)] : (List Int)))), (l_2, .ls (List.map dI ([(0 : Int)] : (List Int)))), (l_3, .ls (List.map dI ([(0 : Int)] : (List Int))))]
    obtain ⟨w4, q5, h0⟩ := bindS h0
    obtain ⟨⟨c69, c70, c71⟩, q72, h0⟩ := bindS h0
    refine wp_forF (fun (s_ : (List Int) × (List Int) × (List Int)) => [.rf l_self, .da ((dL (dP (dU dI) dI)) v_rows), .un, .un]) (fun (s_ : (List Int) × (List Int) × (List Int)) => [(l_self, obj C_Stretches dx_self names_Stretches [.rf l_1, .rf l_2, .rf l_3]), (l_1, .ls (List.map dI s_.1)), (l_2, .ls (List.map dI s_.2.1)), (l_3, .ls (List.map dI s_.2.2))]) (src_1P (f := dI) (f2 := dI) (j := 2) (k := 3) (ev_var (i := 1) rfl) q5) q72 (.cons .rfl (.cons .rfl (.cons .un (.cons .un Wks.nil)))) rfl (fun _ => True.intro) ?_ ?_
    · rintro lo1 ⟨c30, c31, c32⟩ ⟨v_number6, v_count7⟩ s_ hx1 h1 D1 he1 hn1 hct1
      show Wp _ _ _ [.rf l_self, .da ((dL (dP (dU dI) dI)) v_rows), .da (dI v_number6), .da (dI v_count7)] [(l_self, obj C_Stretches dx_self names_Stretches [.rf l_1, .rf l_2, .rf l_3]), (l_1, .ls (List.map dI c30)), (l_2, .ls (List.map dI c31)), (l_3, .ls (List.map dI c32))]
      obtain ⟨t51, q52, h1⟩ := bindS h1
      obtain ⟨u53, q54, h1⟩ := bindS h1
      refine wp_expr (ev_bm (ev_fld 0 0 (ev_rf (i := 0) rfl) rfl rfl pa_Stretches_own_many (Nat.le_of_ble_eq_true rfl) c_Stretches na_Stretches_own_many) (j := 1) rfl (ea_cons (ev_op (ev_op (ev_fld 0 0 (ev_rf (i := 0) rfl) rfl rfl pa_Stretches_own_many (Nat.le_of_ble_eq_true rfl) c_Stretches na_Stretches_own_many) (ev_un (ev_int (i := 1)) ru_neg) (rr_ixC (f := dI) 1 rfl q52)) (ev_var (i := 3) rfl) rr_i) ea_nil) (rm_app (f := dI) 1 rfl q54)) ?_
      show Wp _ _ _ [.rf l_self, .da ((dL (dP (dU dI) dI)) v_rows), .da (dI v_number6), .da (dI v_count7)] [(l_self, obj C_Stretches dx_self names_Stretches [.rf l_1, .rf l_2, .rf l_3]), (l_1, .ls (List.map dI (c30 ++ [(t51 + v_count7)]))), (l_2, .ls (List.map dI c31)), (l_3, .ls (List.map dI c32))]
      obtain ⟨t55, q56, h1⟩ := bindS h1
      obtain ⟨t57, q58, h1⟩ := bindS h1
      obtain ⟨u59, q60, h1⟩ := bindS h1
      refine wp_expr (ev_bm (ev_fld 0 1 (ev_rf (i := 0) rfl) rfl rfl pa_Stretches_own_numbers (Nat.le_of_ble_eq_true rfl) c_Stretches na_Stretches_own_numbers) (j := 2) rfl (ea_cons (ev_op (ev_op (ev_fld 0 1 (ev_rf (i := 0) rfl) rfl rfl pa_Stretches_own_numbers (Nat.le_of_ble_eq_true rfl) c_Stretches na_Stretches_own_numbers) (ev_un (ev_int (i := 1)) ru_neg) (rr_ixC (f := dI) 2 rfl q56)) (ev_op (ev_var (i := 3) rfl) (ev_var (i := 2) rfl) (rr_mul q58)) rr_i) ea_nil) (rm_app (f := dI) 2 rfl q60)) ?_
      show Wp _ _ _ [.rf l_self, .da ((dL (dP (dU dI) dI)) v_rows), .da (dI v_number6), .da (dI v_count7)] [(l_self, obj C_Stretches dx_self names_Stretches [.rf l_1, .rf l_2, .rf l_3]), (l_1, .ls (List.map dI (c30 ++ [(t51 + v_count7)]))), (l_2, .ls (List.map dI (c31 ++ [(t55 + t57)]))), (l_3, .ls (List.map dI c32))]
      obtain ⟨t61, q62, h1⟩ := bindS h1
      obtain ⟨t63, q64, h1⟩ := bindS h1
      obtain ⟨t65, q66, h1⟩ := bindS h1
      obtain ⟨u67, q68, h1⟩ := bindS h1
      refine wp_expr (ev_bm (ev_fld 0 2 (ev_rf (i := 0) rfl) rfl rfl pa_Stretches_own_squares (Nat.le_of_ble_eq_true rfl) c_Stretches na_Stretches_own_squares) (j := 3) rfl (ea_cons (ev_op (ev_op (ev_fld 0 2 (ev_rf (i := 0) rfl) rfl rfl pa_Stretches_own_squares (Nat.le_of_ble_eq_true rfl) c_Stretches na_Stretches_own_squares) (ev_un (ev_int (i := 1)) ru_neg) (rr_ixC (f := dI) 3 rfl q62)) (ev_op (ev_op (ev_var (i := 3) rfl) (ev_var (i := 2) rfl) (rr_mul q64)) (ev_var (i := 2) rfl) (rr_mul q66)) rr_i) ea_nil) (rm_app (f := dI) 3 rfl q68)) ?_
      show Wp _ _ _ [.rf l_self, .da ((dL (dP (dU dI) dI)) v_rows), .da (dI v_number6), .da (dI v_count7)] [(l_self, obj C_Stretches dx_self names_Stretches [.rf l_1, .rf l_2, .rf l_3]), (l_1, .ls (List.map dI (c30 ++ [(t51 + v_count7)]))), (l_2, .ls (List.map dI (c31 ++ [(t55 + t57)]))), (l_3, .ls (List.map dI (c32 ++ [(t61 + t65)])))]
      cases h1
      exact wp_next fun σ H a => hn1 σ H (at_weak (.cons .rfl (.cons .rfl (.cons .un (.cons .un Wks.nil)))) a)
    · show Wp _ _ _ [.rf l_self, .da ((dL (dP (dU dI) dI)) v_rows), .un, .un] [(l_self, obj C_Stretches dx_self names_Stretches [.rf l_1, .rf l_2, .rf l_3]), (l_1, .ls (List.map dI c69)), (l_2, .ls (List.map dI c70)), (l_3, .ls (List.map dI c71))]
      cases h0
      exact wp_fall hfin hnx ⟨rfl, _, _, _, rfl⟩ (List.Sublist.cons₂ _ (List.Sublist.cons₂ _ (List.Sublist.cons₂ _ (List.Sublist.cons₂ _ (List.nil_sublist _)))))
end K88
set_option maxHeartbeats 2000000
namespace K88
open PySem PySem.Spec PyProof.Rows L2 Evl FC
theorem ok_m_Stretches_spread_from {P : Program} {w : World} {K : PySem.W.Frag} {mg : Str → Option Value} {base : Heap} {f : Addr} {fd : FuncData} (FF : Fun K "spread_from" "Stretches.spread_from" sm_Stretches_spread_from f fd) {C_Stretches : Addr} (c_Stretches : Cls K C_Stretches) (na_Stretches_own_many : NoAttr K C_Stretches "own_many") (na_Stretches_own_numbers : NoAttr K C_Stretches "own_numbers") (na_Stretches_own_squares : NoAttr K C_Stretches "own_squares") {f_m_part : Addr} {fd_m_part : FuncData} (G_m_part : FnOk P w K mg base CX0 2 f_m_part fd_m_part ["top", "bottom"] (spOf K (pf_m_part))) (g_m_part : mg "part" = some (.ref f_m_part)) (k_m_part : PySem.W.keepIn K (.ref f_m_part) = true) (b_m_part : Binds K fd_m_part ["top", "bottom"] []) : FnOk P w K mg base CX0 3 f fd ["self", "begin", "end"] (spOf K (pf_m_Stretches_spread_from C_Stretches)) := by
  refine ok_of (N := N_m_Stretches_spread_from) FF sc_m_Stretches_spread_from (fun as m R hG => ?_) (fun cdv A outer s H E hr => ?_)
  · obtain ⟨l_self, dx_self, l_self_own_many, l_self_own_numbers, l_self_own_squares, v_self_own_many, v_self_own_numbers, v_self_own_squares, v_begin, v_end, r_, _, rfl, _⟩ := hG
    rfl
  · have nd : (N_m_Stretches_spread_from : List Str).Nodup := sc_m_Stretches_spread_from.nd
    refine ⟨_, (pss_cons (ps_set (i := 3) nd rfl (Or.inl rfl) (pe_op op_sub (pe_ix (kIx (r := rIxL) (K := K) ix_list rfl) (kPe (r := fun K => tFld K _ _) (K := K) (pe_fld (pv 0) rfl) rfl) (pv 2) (fun _ _ => rfl)) (pe_ix (kIx (r := rIxL) (K := K) ix_list rfl) (kPe (r := fun K => tFld K _ _) (K := K) (pe_fld (pv 0) rfl) rfl) (pv 1) (fun _ _ => rfl))))
      (pss_cons (ps_set (i := 4) nd rfl (Or.inl rfl) (pe_op op_sub (pe_ix (kIx (r := rIxL) (K := K) ix_list rfl) (kPe (r := fun K => tFld K _ _) (K := K) (pe_fld (pv 0) rfl) rfl) (pv 2) (fun _ _ => rfl)) (pe_ix (kIx (r := rIxL) (K := K) ix_list rfl) (kPe (r := fun K => tFld K _ _) (K := K) (pe_fld (pv 0) rfl) rfl) (pv 1) (fun _ _ => rfl))))
      (pss_cons (ps_ret (pe_call G_m_part (hr.mono (by decide)) (by rfl) g_m_part k_m_part b_m_part .nil pass0 (pa_cons (pe_op op_sub (pe_op op_mulA (pe_op op_sub (pe_ix (kIx (r := rIxL) (K := K) ix_list rfl) (kPe (r := fun K => tFld K _ _) (K := K) (pe_fld (pv 0) rfl) rfl) (pv 2) (fun _ _ => rfl)) (pe_ix (kIx (r := rIxL) (K := K) ix_list rfl) (kPe (r := fun K => tFld K _ _) (K := K) (pe_fld (pv 0) rfl) rfl) (pv 1) (fun _ _ => rfl))) (pv 3)) (pe_op op_mulA (pv 4) (pv 4))) (pa_cons (pv 3) pa_nil)))) pss_nil))), ?_⟩
    rintro as m R ⟨l_self, dx_self, l_self_own_many, l_self_own_numbers, l_self_own_squares, v_self_own_many, v_self_own_numbers, v_self_own_squares, v_begin, v_end, r_, h0, rfl, rfl, rfl⟩ F D rfl hk hfin hnx
    unfold m_Stretches_spread_from at h0
    show Wp _ _ _ [.rf l_self, .da (dI v_begin), .da (dI v_end), .un, .un] [(l_self, obj C_Stretches dx_self names_Stretches [.rf l_self_own_many, .rf l_self_own_numbers, .rf l_self_own_squares]), (l_self_own_many, .ls (List.map dI v_self_own_many)), (l_self_own_numbers, .ls (List.map dI v_self_own_numbers)), (l_self_own_squares, .ls (List.map dI v_self_own_squares))]
    obtain ⟨t1, q2, h0⟩ := bindS h0
    obtain ⟨t3, q4, h0⟩ := bindS h0
    obtain ⟨v_many5, q6, h0⟩ := bindS h0
    refine wp_asg (i := 3) (ev_eq (f := dI) (ev_op (ev_op (ev_fld 0 0 (ev_rf (i := 0) rfl) rfl rfl pa_Stretches_own_many (Nat.le_of_ble_eq_true rfl) c_Stretches na_Stretches_own_many) (ev_var (i := 2) rfl) (rr_ixC (f := dI) 1 rfl q2)) (ev_op (ev_fld 0 0 (ev_rf (i := 0) rfl) rfl rfl pa_Stretches_own_many (Nat.le_of_ble_eq_true rfl) c_Stretches na_Stretches_own_many) (ev_var (i := 1) rfl) (rr_ixC (f := dI) 1 rfl q4)) rr_i) (Option.some.inj q6)) ?_
    show Wp _ _ _ [.rf l_self, .da (dI v_begin), .da (dI v_end), .da (dI v_many5), .un] [(l_self, obj C_Stretches dx_self names_Stretches [.rf l_self_own_many, .rf l_self_own_numbers, .rf l_self_own_squares]), (l_self_own_many, .ls (List.map dI v_self_own_many)), (l_self_own_numbers, .ls (List.map dI v_self_own_numbers)), (l_self_own_squares, .ls (List.map dI v_self_own_squares))]
    obtain ⟨t7, q8, h0⟩ := bindS h0
    obtain ⟨t9, q10, h0⟩ := bindS h0
    obtain ⟨v_number11, q12, h0⟩ := bindS h0
    refine wp_asg (i := 4) (ev_eq (f := dI) (ev_op (ev_op (ev_fld 0 1 (ev_rf (i := 0) rfl) rfl rfl pa_Stretches_own_numbers (Nat.le_of_ble_eq_true rfl) c_Stretches na_Stretches_own_numbers) (ev_var (i := 2) rfl) (rr_ixC (f := dI) 2 rfl q8)) (ev_op (ev_fld 0 1 (ev_rf (i := 0) rfl) rfl rfl pa_Stretches_own_numbers (Nat.le_of_ble_eq_true rfl) c_Stretches na_Stretches_own_numbers) (ev_var (i := 1) rfl) (rr_ixC (f := dI) 2 rfl q10)) rr_i) (Option.some.inj q12)) ?_
    show Wp _ _ _ [.rf l_self, .da (dI v_begin), .da (dI v_end), .da (dI v_many5), .da (dI v_number11)] [(l_self, obj C_Stretches dx_self names_Stretches [.rf l_self_own_many, .rf l_self_own_numbers, .rf l_self_own_squares]), (l_self_own_many, .ls (List.map dI v_self_own_many)), (l_self_own_numbers, .ls (List.map dI v_self_own_numbers)), (l_self_own_squares, .ls (List.map dI v_self_own_squares))]
    obtain ⟨t13, q14, h0⟩ := bindS h0
    obtain ⟨t15, q16, h0⟩ := bindS h0
    obtain ⟨t17, q18, h0⟩ := bindS h0
    obtain ⟨t19, q20, h0⟩ := bindS h0
    obtain ⟨t21, q22, h0⟩ := bindS h0
    have e0_ := Option.some.inj h0
    subst e0_
    exact wp_retS (ev_call (ea_cons (ev_op (ev_op (ev_op (ev_op (ev_fld 0 2 (ev_rf (i := 0) rfl) rfl rfl pa_Stretches_own_squares (Nat.le_of_ble_eq_true rfl) c_Stretches na_Stretches_own_squares) (ev_var (i := 2) rfl) (rr_ixC (f := dI) 3 rfl q14)) (ev_op (ev_fld 0 2 (ev_rf (i := 0) rfl) rfl rfl pa_Stretches_own_squares (Nat.le_of_ble_eq_true rfl) c_Stretches na_Stretches_own_squares) (ev_var (i := 1) rfl) (rr_ixC (f := dI) 3 rfl q16)) rr_i) (ev_var (i := 3) rfl) (rr_mul q18)) (ev_op (ev_var (i := 4) rfl) (ev_var (i := 4) rfl) (rr_mul q20)) rr_i) (ea_cons (ev_var (i := 3) rfl) ea_nil)) ⟨_, ⟨_, _, _, q22, rfl, rfl, rfl⟩, fun _ _ h => h⟩) hfin ⟨rfl, rfl⟩ (List.Sublist.cons₂ _ (List.Sublist.cons₂ _ (List.Sublist.cons₂ _ (List.Sublist.cons₂ _ (List.nil_sublist _)))))
end K88
set_option maxHeartbeats 2000000
namespace K88
open PySem PySem.Spec PyProof.Rows L2 Evl FC
theorem ok_m_with_one_more {P : Program} {w : World} {K : PySem.W.Frag} {mg : Str → Option Value} {base : Heap} {f : Addr} {fd : FuncData} (FF : Fun K "with_one_more" "with_one_more" sm_with_one_more f fd) {C_Stretches : Addr} (c_Stretches : Cls K C_Stretches) {f_m_Stretches_spread_from : Addr} {fd_m_Stretches_spread_from : FuncData} (G_m_Stretches_spread_from : FnOk P w K mg base CX0 3 f_m_Stretches_spread_from fd_m_Stretches_spread_from ["self", "begin", "end"] (spOf K (pf_m_Stretches_spread_from C_Stretches))) (mt_m_Stretches_spread_from : Meth K C_Stretches "spread_from" f_m_Stretches_spread_from) (b_m_Stretches_spread_from : Binds K fd_m_Stretches_spread_from ["self", "begin", "end"] []) {f_m_is_better_i : Addr} {fd_m_is_better_i : FuncData} (G_m_is_better_i : FnOk P w K mg base CX0 2 f_m_is_better_i fd_m_is_better_i ["one", "other"] (spOf K (pf_m_is_better_i))) (g_m_is_better_i : mg "is_better" = some (.ref f_m_is_better_i)) (k_m_is_better_i : PySem.W.keepIn K (.ref f_m_is_better_i) = true) (b_m_is_better_i : Binds K fd_m_is_better_i ["one", "other"] []) {f_m_plus : Addr} {fd_m_plus : FuncData} (G_m_plus : FnOk P w K mg base CX0 3 f_m_plus fd_m_plus ["one", "other"] (spOf K (pf_m_plus))) (g_m_plus : mg "plus" = some (.ref f_m_plus)) (k_m_plus : PySem.W.keepIn K (.ref f_m_plus) = true) (b_m_plus : Binds K fd_m_plus ["one", "other"] []) (n_range : mg "range" = none) : FnOk P w K mg base CX0 4 f fd ["stretches", "best", "length"] (spOf K (pf_m_with_one_more C_Stretches)) := by
  refine ok_of (N := N_m_with_one_more) FF sc_m_with_one_more (fun as m R hG => ?_) (fun cdv A outer s H E hr => ?_)
  · obtain ⟨l_stretches, dx_stretches, l_stretches_own_many, l_stretches_own_numbers, l_stretches_own_squares, v_stretches_own_many, v_stretches_own_numbers, v_stretches_own_squares, v_best, v_length, r_, _, rfl, _⟩ := hG
    rfl
  · have nd : (N_m_with_one_more : List Str).Nodup := sc_m_with_one_more.nd
    refine ⟨_, (pss_cons (ps_set (i := 3) nd rfl (Or.inl rfl) (pe_lst pa_nil))
      (pss_cons (ps_for PassesOwn.never rfl (pi_range1 (by rfl) n_range (pa_cons (pv 2) pa_nil)) (pg_name (i := 4) nd rfl (by first | exact Or.inl rfl | exact Or.inr rfl))
      (pss_cons (ps_set (i := 5) nd rfl (Or.inl rfl) pe_non)
      (pss_cons (ps_for PassesOwn.never rfl (pi_range2 (by rfl) n_range (pa_cons (pe_op op_add (pv 4) pe_int) (pa_cons (pe_op op_add (pv 2) pe_int) pa_nil))) (pg_name (i := 6) nd rfl (by first | exact Or.inl rfl | exact Or.inr rfl))
      (Evl.pss_cut (ps_if (pt_cmpR op_notNo (pe_ix (kIx (r := rIxL) (K := K) ix_list rfl) (pv 1) (pv 6) (fun _ _ => rfl)) pe_non (nomark _)) (pss_cons (ps_set (i := 7) nd rfl (Or.inl rfl) (pe_tup (pa_cons (pe_call G_m_plus (hr.mono (by decide)) (by rfl) g_m_plus k_m_plus b_m_plus .nil pass0 (pa_cons (pe_meth (pv 0) c_Stretches mt_m_Stretches_spread_from G_m_Stretches_spread_from (hr.mono (by decide)) b_m_Stretches_spread_from .nil pass0 (pa_cons (pv 4) (pa_cons (pv 6) pa_nil))) (pa_cons (pe_ix (kIx (r := rIxT) (K := K) ix_tup rfl) (pe_ix (kIx (r := rIxL) (K := K) ix_list rfl) (pv 1) (pv 6) (fun _ _ => rfl)) pe_int (fun _ _ => rfl)) pa_nil))) (pa_cons (pe_op op_cat (pe_lst (pa_cons (pv 4) pa_nil)) (pe_ix (kIx (r := rIxT) (K := K) ix_tup rfl) (pe_ix (kIx (r := rIxL) (K := K) ix_list rfl) (pv 1) (pv 6) (fun _ _ => rfl)) pe_int (fun _ _ => rfl))) pa_nil))))
      (Evl.pss_cut (ps_if (PW.pt (pw_or (pt_cmpR op_isNo (pv 5) pe_non (nomark _)) (pw_or1 (pt_val (pe_call G_m_is_better_i (hr.mono (by decide)) (by rfl) g_m_is_better_i k_m_is_better_i b_m_is_better_i .nil pass0 (pa_cons (pv 7) (pa_cons (pv 5) pa_nil))))))) (pss_cons (ps_set (i := 5) nd rfl (Or.inl rfl) (pv 7))
      pss_nil) pss_nil)
      pss_nil)) pss_nil)
      pss_nil))
      (pss_cons (ps_expr (pe_bm PySem.F.plainAttrs_list PySem.F.slot_list_append PySem.F.type_list_append mt_append (pv 3) (pa_cons (pv 5) pa_nil)))
      pss_nil))))
      (pss_cons (ps_ret (pe_op op_cat (pv 3) (pe_lst (pa_cons (pe_tup (pa_cons (pe_tup (pa_cons pe_int (pa_cons pe_int pa_nil))) (pa_cons (pe_lst pa_nil) pa_nil))) pa_nil)))) pss_nil))), ?_⟩
    rintro as m R ⟨l_stretches, dx_stretches, l_stretches_own_many, l_stretches_own_numbers, l_stretches_own_squares, v_stretches_own_many, v_stretches_own_numbers, v_stretches_own_squares, v_best, v_length, r_, h0, rfl, rfl, rfl⟩ F D rfl hk hfin hnx
    unfold m_with_one_more at h0
    show Wp _ _ _ [.rf l_stretches, .da ((dL (dO (dP (dP dI dI) (dL dI)))) v_best), .da (dI v_length), .un, .un, .un, .un, .un] [(l_stretches, obj C_Stretches dx_stretches names_Stretches [.rf l_stretches_own_many, .rf l_stretches_own_numbers, .rf l_stretches_own_squares]), (l_stretches_own_many, .ls (List.map dI v_stretches_own_many)), (l_stretches_own_numbers, .ls (List.map dI v_stretches_own_numbers)), (l_stretches_own_squares, .ls (List.map dI v_stretches_own_squares))]
    refine wp_asgN (i := 3) (show EvN _ _ _ _ (.ls (List.map (dO (dP (dP dI dI) (dL dI))) ([] : (List (Option ((Int × Int) × (List Int))))))) _ from en_lst (dl := []) ea_nil (Nat.le_of_ble_eq_true rfl)) (fun l_1 nk_l_1 => ?_) rfl
    show Wp _ _ _ [.rf l_stretches, .da ((dL (dO (dP (dP dI dI) (dL dI)))) v_best), .da (dI v_length), .rf l_1, .un, .un, .un, .un] [(l_stretches, obj C_Stretches dx_stretches names_Stretches [.rf l_stretches_own_many, .rf l_stretches_own_numbers, .rf l_stretches_own_squares]), (l_stretches_own_many, .ls (List.map dI v_stretches_own_many)), (l_stretches_own_numbers, .ls (List.map dI v_stretches_own_numbers)), (l_stretches_own_squares, .ls (List.map dI v_stretches_own_squares)), (l_1, .ls (List.map (dO (dP (dP dI dI) (dL dI))) ([] : (List (Option ((Int × Int) × (List Int)))))))]
    obtain ⟨rg2, q3, h0⟩ := bindS h0
    obtain ⟨c593, q596, h0⟩ := bindS h0
    refine wp_forF (fun (s_ : (List (Option ((Int × Int) × (List Int))))) => [.rf l_stretches, .da ((dL (dO (dP (dP dI dI) (dL dI)))) v_best), .da (dI v_length), .rf l_1, .un, .un, .un, .un]) (fun (s_ : (List (Option ((Int × Int) × (List Int))))) => [(l_stretches, obj C_Stretches dx_stretches names_Stretches [.rf l_stretches_own_many, .rf l_stretches_own_numbers, .rf l_stretches_own_squares]), (l_stretches_own_many, .ls (List.map dI v_stretches_own_many)), (l_stretches_own_numbers, .ls (List.map dI v_stretches_own_numbers)), (l_stretches_own_squares, .ls (List.map dI v_stretches_own_squares)), (l_1, .ls (List.map (dO (dP (dP dI dI) (dL dI))) s_))]) (src_R1 (j := 4) (ea_cons (ev_var (i := 2) rfl) ea_nil) q3) q596 (.cons .rfl (.cons .rfl (.cons .rfl (.cons .rfl (.cons .un (.cons .un (.cons .un (.cons .un Wks.nil)))))))) rfl (fun _ => True.intro) ?_ ?_
    · rintro lo1 c204 v_begin4 s_ hx1 h1 D1 he1 hn1 hct1
      show Wp _ _ _ [.rf l_stretches, .da ((dL (dO (dP (dP dI dI) (dL dI)))) v_best), .da (dI v_length), .rf l_1, .da (dI v_begin4), .un, .un, .un] [(l_stretches, obj C_Stretches dx_stretches names_Stretches [.rf l_stretches_own_many, .rf l_stretches_own_numbers, .rf l_stretches_own_squares]), (l_stretches_own_many, .ls (List.map dI v_stretches_own_many)), (l_stretches_own_numbers, .ls (List.map dI v_stretches_own_numbers)), (l_stretches_own_squares, .ls (List.map dI v_stretches_own_squares)), (l_1, .ls (List.map (dO (dP (dP dI dI) (dL dI))) c204))]
      refine wp_asg (i := 5) (show Ev _ _ _ _ (.da ((dO (dP (dP dI dI) (dL dI))) none)) _ from ev_non) ?_
      show Wp _ _ _ [.rf l_stretches, .da ((dL (dO (dP (dP dI dI) (dL dI)))) v_best), .da (dI v_length), .rf l_1, .da (dI v_begin4), .da ((dO (dP (dP dI dI) (dL dI))) (none : (Option ((Int × Int) × (List Int))))), .un, .un] [(l_stretches, obj C_Stretches dx_stretches names_Stretches [.rf l_stretches_own_many, .rf l_stretches_own_numbers, .rf l_stretches_own_squares]), (l_stretches_own_many, .ls (List.map dI v_stretches_own_many)), (l_stretches_own_numbers, .ls (List.map dI v_stretches_own_numbers)), (l_stretches_own_squares, .ls (List.map dI v_stretches_own_squares)), (l_1, .ls (List.map (dO (dP (dP dI dI) (dL dI))) c204))]
      obtain ⟨rg399, q400, h1⟩ := bindS h1
      obtain ⟨v_least589, q592, h1⟩ := bindS h1
      refine wp_forF (fun (s_ : (Option ((Int × Int) × (List Int)))) => [.rf l_stretches, .da ((dL (dO (dP (dP dI dI) (dL dI)))) v_best), .da (dI v_length), .rf l_1, .da (dI v_begin4), .da ((dO (dP (dP dI dI) (dL dI))) s_), .un, .un]) (fun (s_ : (Option ((Int × Int) × (List Int)))) => [(l_stretches, obj C_Stretches dx_stretches names_Stretches [.rf l_stretches_own_many, .rf l_stretches_own_numbers, .rf l_stretches_own_squares]), (l_stretches_own_many, .ls (List.map dI v_stretches_own_many)), (l_stretches_own_numbers, .ls (List.map dI v_stretches_own_numbers)), (l_stretches_own_squares, .ls (List.map dI v_stretches_own_squares)), (l_1, .ls (List.map (dO (dP (dP dI dI) (dL dI))) c204))]) (src_R2 (j := 6) (ea_cons (ev_op (ev_var (i := 4) rfl) (ev_int (i := 1)) rr_i) (ea_cons (ev_op (ev_var (i := 2) rfl) (ev_int (i := 1)) rr_i) ea_nil)) q400) q592 (.cons .rfl (.cons .rfl (.cons .rfl (.cons .rfl (.cons .rfl (.cons .rfl (.cons .un (.cons .un Wks.nil)))))))) rfl (fun _ => True.intro) ?_ ?_
      · rintro lo2 v_least468 v_end401 s_ hx2 h2 D2 he2 hn2 hct2
        show Wp _ _ _ [.rf l_stretches, .da ((dL (dO (dP (dP dI dI) (dL dI)))) v_best), .da (dI v_length), .rf l_1, .da (dI v_begin4), .da ((dO (dP (dP dI dI) (dL dI))) v_least468), .da (dI v_end401), .un] [(l_stretches, obj C_Stretches dx_stretches names_Stretches [.rf l_stretches_own_many, .rf l_stretches_own_numbers, .rf l_stretches_own_squares]), (l_stretches_own_many, .ls (List.map dI v_stretches_own_many)), (l_stretches_own_numbers, .ls (List.map dI v_stretches_own_numbers)), (l_stretches_own_squares, .ls (List.map dI v_stretches_own_squares)), (l_1, .ls (List.map (dO (dP (dP dI dI) (dL dI))) c204))]
        obtain ⟨t529, q530, h2⟩ := bindS h2
        obtain ⟨v_least559, q588, h2⟩ := bindS h2
        refine wp_cutIf (ds' := [.rf l_stretches, .da ((dL (dO (dP (dP dI dI) (dL dI)))) v_best), .da (dI v_length), .rf l_1, .da (dI v_begin4), .da ((dO (dP (dP dI dI) (dL dI))) v_least559), .da (dI v_end401), .un]) (m' := [(l_stretches, obj C_Stretches dx_stretches names_Stretches [.rf l_stretches_own_many, .rf l_stretches_own_numbers, .rf l_stretches_own_squares]), (l_stretches_own_many, .ls (List.map dI v_stretches_own_many)), (l_stretches_own_numbers, .ls (List.map dI v_stretches_own_numbers)), (l_stretches_own_squares, .ls (List.map dI v_stretches_own_squares)), (l_1, .ls (List.map (dO (dP (dP dI dI) (dL dI))) c204))]) ?_ (et_test (ev_op (ev_op (ev_var (i := 1) rfl) (ev_var (i := 6) rfl) (rr_ixL (f := (dO (dP (dP dI dI) (dL dI)))) q530)) ev_non (rr_notNo (f := (dP (dP dI dI) (dL dI)))))) (fun hc => ?_) (fun hc => ?_)
        · cases h2
          exact wp_next fun σ H a => hn2 σ H (at_weak (.cons .rfl (.cons .rfl (.cons .rfl (.cons .rfl (.cons .rfl (.cons .rfl (.cons .un (.cons .un Wks.nil)))))))) a)
        · have h126 := condT hc q588
          obtain ⟨t560, q561, h126⟩ := bindS h126
          obtain ⟨t562, q563, h126⟩ := bindS h126
          obtain ⟨w564, q565, h126⟩ := bindS h126
          obtain ⟨t566, q567, h126⟩ := bindS h126
          obtain ⟨t568, q569, h126⟩ := bindS h126
          obtain ⟨w570, q571, h126⟩ := bindS h126
          obtain ⟨u572, q573, h126⟩ := bindS h126
          obtain ⟨v_one574, q575, h126⟩ := bindS h126
          refine wp_asg (i := 7) (ev_eq (f := (dP (dP dI dI) (dL dI))) (show Ev _ _ _ _ (.da ((dP (dP dI dI) (dL dI)) (t566, (([v_begin4] : (List Int)) ++ (w570).2)))) _ from ev_tup (dl := [(dP dI dI) t566, (dL dI) (([v_begin4] : (List Int)) ++ (w570).2)]) (ea_cons (ev_call (ea_cons (ev_methP (mc := [(l_stretches, obj C_Stretches dx_stretches names_Stretches [.rf l_stretches_own_many, .rf l_stretches_own_numbers, .rf l_stretches_own_squares]), (l_stretches_own_many, .ls (List.map dI v_stretches_own_many)), (l_stretches_own_numbers, .ls (List.map dI v_stretches_own_numbers)), (l_stretches_own_squares, .ls (List.map dI v_stretches_own_squares))]) (mc' := [(l_stretches, obj C_Stretches dx_stretches names_Stretches [.rf l_stretches_own_many, .rf l_stretches_own_numbers, .rf l_stretches_own_squares]), (l_stretches_own_many, .ls (List.map dI v_stretches_own_many)), (l_stretches_own_numbers, .ls (List.map dI v_stretches_own_numbers)), (l_stretches_own_squares, .ls (List.map dI v_stretches_own_squares))]) (fr := [(l_1, .ls (List.map (dO (dP (dP dI dI) (dL dI))) c204))]) (m3 := [(l_stretches, obj C_Stretches dx_stretches names_Stretches [.rf l_stretches_own_many, .rf l_stretches_own_numbers, .rf l_stretches_own_squares]), (l_stretches_own_many, .ls (List.map dI v_stretches_own_many)), (l_stretches_own_numbers, .ls (List.map dI v_stretches_own_numbers)), (l_stretches_own_squares, .ls (List.map dI v_stretches_own_squares)), (l_1, .ls (List.map (dO (dP (dP dI dI) (dL dI))) c204))]) 0 (ev_rf (i := 0) rfl) rfl (Nat.le_of_ble_eq_true rfl) nm_Stretches_spread_from (ea_cons (ev_var (i := 4) rfl) (ea_cons (ev_var (i := 6) rfl) ea_nil)) (perm_ix (n := 5) [0, 1, 2, 3, 4] rfl (by decide) rfl) (perm_ix (n := 5) [0, 1, 2, 3, 4] rfl (by decide) rfl) ⟨_, ⟨_, _, _, _, _, _, _, _, _, _, _, q561, rfl, rfl, rfl⟩, fun _ _ h => h⟩) (ea_cons (ev_op (ev_some (f := (dP (dP dI dI) (dL dI))) (o := t562) (ev_op (ev_var (i := 1) rfl) (ev_var (i := 6) rfl) (rr_ixL (f := (dO (dP (dP dI dI) (dL dI)))) q563)) q565) (ev_int (i := 0)) (rr_ixT (dl := [(dP dI dI) (w564).1, (dL dI) (w564).2]) rfl)) ea_nil)) ⟨_, ⟨_, _, _, q567, rfl, rfl, rfl⟩, fun _ _ h => h⟩) (ea_cons (ev_op (show Ev _ _ _ _ (.da ((dL dI) ([v_begin4] : (List Int)))) _ from ev_lst (dl := [dI v_begin4]) (ea_cons (ev_var (i := 4) rfl) ea_nil) (Nat.le_of_ble_eq_true rfl)) (ev_op (ev_some (f := (dP (dP dI dI) (dL dI))) (o := t568) (ev_op (ev_var (i := 1) rfl) (ev_var (i := 6) rfl) (rr_ixL (f := (dO (dP (dP dI dI) (dL dI)))) q569)) q571) (ev_int (i := 1)) (rr_ixT (dl := [(dP dI dI) (w570).1, (dL dI) (w570).2]) rfl)) (rr_cat q573)) ea_nil)) (Nat.le_of_ble_eq_true rfl)) (Option.some.inj q575)) ?_
          show Wp _ _ _ [.rf l_stretches, .da ((dL (dO (dP (dP dI dI) (dL dI)))) v_best), .da (dI v_length), .rf l_1, .da (dI v_begin4), .da ((dO (dP (dP dI dI) (dL dI))) v_least468), .da (dI v_end401), .da ((dP (dP dI dI) (dL dI)) v_one574)] [(l_stretches, obj C_Stretches dx_stretches names_Stretches [.rf l_stretches_own_many, .rf l_stretches_own_numbers, .rf l_stretches_own_squares]), (l_stretches_own_many, .ls (List.map dI v_stretches_own_many)), (l_stretches_own_numbers, .ls (List.map dI v_stretches_own_numbers)), (l_stretches_own_squares, .ls (List.map dI v_stretches_own_squares)), (l_1, .ls (List.map (dO (dP (dP dI dI) (dL dI))) c204))]
          obtain ⟨b580, q581, h126⟩ := bindS h126
          obtain ⟨v_least584, q587, h126⟩ := bindS h126
          refine wp_cutIf (ds' := [.rf l_stretches, .da ((dL (dO (dP (dP dI dI) (dL dI)))) v_best), .da (dI v_length), .rf l_1, .da (dI v_begin4), .da ((dO (dP (dP dI dI) (dL dI))) v_least584), .da (dI v_end401), .da ((dP (dP dI dI) (dL dI)) v_one574)]) (m' := [(l_stretches, obj C_Stretches dx_stretches names_Stretches [.rf l_stretches_own_many, .rf l_stretches_own_numbers, .rf l_stretches_own_squares]), (l_stretches_own_many, .ls (List.map dI v_stretches_own_many)), (l_stretches_own_numbers, .ls (List.map dI v_stretches_own_numbers)), (l_stretches_own_squares, .ls (List.map dI v_stretches_own_squares)), (l_1, .ls (List.map (dO (dP (dP dI dI) (dL dI))) c204))]) ?_ (et_or (k2 := b580) (m' := [(l_stretches, obj C_Stretches dx_stretches names_Stretches [.rf l_stretches_own_many, .rf l_stretches_own_numbers, .rf l_stretches_own_squares]), (l_stretches_own_many, .ls (List.map dI v_stretches_own_many)), (l_stretches_own_numbers, .ls (List.map dI v_stretches_own_numbers)), (l_stretches_own_squares, .ls (List.map dI v_stretches_own_squares)), (l_1, .ls (List.map (dO (dP (dP dI dI) (dL dI))) c204))]) (et_test (ev_op (ev_var (i := 5) rfl) ev_non (rr_isNo (f := (dP (dP dI dI) (dL dI)))))) (fun e => by have h_ := condF e q581; obtain ⟨w576, q577, h_⟩ := bindS h_; obtain ⟨t578, q579, h_⟩ := bindS h_; have e_ := Option.some.inj h_; subst e_; exact (et_val (ev_call (ea_cons (ev_var (i := 7) rfl) (ea_cons (ev_some (f := (dP (dP dI dI) (dL dI))) (o := v_least468) (ev_var (i := 5) rfl) q577) ea_nil)) ⟨_, ⟨_, _, _, q579, rfl, rfl, rfl⟩, fun _ _ h => h⟩))) (fun e => by have h_ := condT e q581; cases h_; exact ⟨rfl, rfl⟩)) (fun hc => ?_) (fun hc => ?_)
          · cases h126
            exact wp_nextW (.cons .rfl (.cons .rfl (.cons .rfl (.cons .rfl (.cons .rfl (.cons .rfl (.cons .rfl (.cons .un Wks.nil)))))))) rfl
          · have h127 := condT hc q587
            obtain ⟨v_least585, q586, h127⟩ := bindS h127
            refine wp_asg (i := 5) (ev_eq (f := (dO (dP (dP dI dI) (dL dI)))) (show Ev _ _ _ _ (.da ((dO (dP (dP dI dI) (dL dI))) (some v_one574))) _ from (ev_var (i := 7) rfl)) (Option.some.inj q586)) ?_
            show Wp _ _ _ [.rf l_stretches, .da ((dL (dO (dP (dP dI dI) (dL dI)))) v_best), .da (dI v_length), .rf l_1, .da (dI v_begin4), .da ((dO (dP (dP dI dI) (dL dI))) v_least585), .da (dI v_end401), .da ((dP (dP dI dI) (dL dI)) v_one574)] [(l_stretches, obj C_Stretches dx_stretches names_Stretches [.rf l_stretches_own_many, .rf l_stretches_own_numbers, .rf l_stretches_own_squares]), (l_stretches_own_many, .ls (List.map dI v_stretches_own_many)), (l_stretches_own_numbers, .ls (List.map dI v_stretches_own_numbers)), (l_stretches_own_squares, .ls (List.map dI v_stretches_own_squares)), (l_1, .ls (List.map (dO (dP (dP dI dI) (dL dI))) c204))]
            cases h127
            exact wp_nextW (.cons .rfl (.cons .rfl (.cons .rfl (.cons .rfl (.cons .rfl (.cons .rfl (.cons .rfl (.cons .rfl Wks.nil)))))))) rfl
          · have h127 := condF hc q587
            cases h127
            exact wp_nextW (.cons .rfl (.cons .rfl (.cons .rfl (.cons .rfl (.cons .rfl (.cons .rfl (.cons .rfl (.cons .rfl Wks.nil)))))))) rfl
        · have h126 := condF hc q588
          cases h126
          exact wp_nextW (.cons .rfl (.cons .rfl (.cons .rfl (.cons .rfl (.cons .rfl (.cons .rfl (.cons .rfl (.cons .un Wks.nil)))))))) rfl
      · show Wp _ _ _ [.rf l_stretches, .da ((dL (dO (dP (dP dI dI) (dL dI)))) v_best), .da (dI v_length), .rf l_1, .da (dI v_begin4), .da ((dO (dP (dP dI dI) (dL dI))) v_least589), .un, .un] [(l_stretches, obj C_Stretches dx_stretches names_Stretches [.rf l_stretches_own_many, .rf l_stretches_own_numbers, .rf l_stretches_own_squares]), (l_stretches_own_many, .ls (List.map dI v_stretches_own_many)), (l_stretches_own_numbers, .ls (List.map dI v_stretches_own_numbers)), (l_stretches_own_squares, .ls (List.map dI v_stretches_own_squares)), (l_1, .ls (List.map (dO (dP (dP dI dI) (dL dI))) c204))]
        obtain ⟨u590, q591, h1⟩ := bindS h1
        refine wp_expr (ev_bm (ev_rf (i := 3) rfl) (j := 4) rfl (ea_cons (ev_var (i := 5) rfl) ea_nil) (rm_app (f := (dO (dP (dP dI dI) (dL dI)))) 4 rfl q591)) ?_
        show Wp _ _ _ [.rf l_stretches, .da ((dL (dO (dP (dP dI dI) (dL dI)))) v_best), .da (dI v_length), .rf l_1, .da (dI v_begin4), .da ((dO (dP (dP dI dI) (dL dI))) v_least589), .un, .un] [(l_stretches, obj C_Stretches dx_stretches names_Stretches [.rf l_stretches_own_many, .rf l_stretches_own_numbers, .rf l_stretches_own_squares]), (l_stretches_own_many, .ls (List.map dI v_stretches_own_many)), (l_stretches_own_numbers, .ls (List.map dI v_stretches_own_numbers)), (l_stretches_own_squares, .ls (List.map dI v_stretches_own_squares)), (l_1, .ls (List.map (dO (dP (dP dI dI) (dL dI))) (c204 ++ [v_least589])))]
        cases h1
        exact wp_next fun σ H a => hn1 σ H (at_weak (.cons .rfl (.cons .rfl (.cons .rfl (.cons .rfl (.cons .un (.cons .un (.cons .un (.cons .un Wks.nil)))))))) a)
    · show Wp _ _ _ [.rf l_stretches, .da ((dL (dO (dP (dP dI dI) (dL dI)))) v_best), .da (dI v_length), .rf l_1, .un, .un, .un, .un] [(l_stretches, obj C_Stretches dx_stretches names_Stretches [.rf l_stretches_own_many, .rf l_stretches_own_numbers, .rf l_stretches_own_squares]), (l_stretches_own_many, .ls (List.map dI v_stretches_own_many)), (l_stretches_own_numbers, .ls (List.map dI v_stretches_own_numbers)), (l_stretches_own_squares, .ls (List.map dI v_stretches_own_squares)), (l_1, .ls (List.map (dO (dP (dP dI dI) (dL dI))) c593))]
      refine wp_frz (i := 3) (j := 4) (l := l_1) rfl rfl nk_l_1 ?_
      show Wp _ _ _ [.rf l_stretches, .da ((dL (dO (dP (dP dI dI) (dL dI)))) v_best), .da (dI v_length), .da ((dL (dO (dP (dP dI dI) (dL dI)))) c593), .un, .un, .un, .un] [(l_stretches, obj C_Stretches dx_stretches names_Stretches [.rf l_stretches_own_many, .rf l_stretches_own_numbers, .rf l_stretches_own_squares]), (l_stretches_own_many, .ls (List.map dI v_stretches_own_many)), (l_stretches_own_numbers, .ls (List.map dI v_stretches_own_numbers)), (l_stretches_own_squares, .ls (List.map dI v_stretches_own_squares))]
      obtain ⟨u594, q595, h0⟩ := bindS h0
      have e0_ := Option.some.inj h0
      subst e0_
      exact wp_retS (ev_op (ev_var (i := 3) rfl) (show Ev _ _ _ _ (.da ((dL (dO (dP (dP dI dI) (dL dI)))) ([(some (((0 : Int), (1 : Int)), ([] : (List Int))))] : (List (Option ((Int × Int) × (List Int))))))) _ from ev_lst (dl := [(dO (dP (dP dI dI) (dL dI))) (some (((0 : Int), (1 : Int)), ([] : (List Int))))]) (ea_cons (show Ev _ _ _ _ (.da ((dO (dP (dP dI dI) (dL dI))) (some (((0 : Int), (1 : Int)), ([] : (List Int)))))) _ from (show Ev _ _ _ _ (.da ((dP (dP dI dI) (dL dI)) (((0 : Int), (1 : Int)), ([] : (List Int))))) _ from ev_tup (dl := [(dP dI dI) ((0 : Int), (1 : Int)), (dL dI) ([] : (List Int))]) (ea_cons (show Ev _ _ _ _ (.da ((dP dI dI) ((0 : Int), (1 : Int)))) _ from ev_tup (dl := [dI (0 : Int), dI (1 : Int)]) (ea_cons (ev_int (i := 0)) (ea_cons (ev_int (i := 1)) ea_nil)) (Nat.le_of_ble_eq_true rfl)) (ea_cons (show Ev _ _ _ _ (.da ((dL dI) ([] : (List Int)))) _ from ev_lst (dl := []) ea_nil (Nat.le_of_ble_eq_true rfl)) ea_nil)) (Nat.le_of_ble_eq_true rfl))) ea_nil) (Nat.le_of_ble_eq_true rfl)) (rr_cat q595)) hfin ⟨rfl, rfl⟩ (List.Sublist.cons₂ _ (List.Sublist.cons₂ _ (List.Sublist.cons₂ _ (List.Sublist.cons₂ _ (List.nil_sublist _)))))
end K88
set_option maxHeartbeats 2000000
namespace K88
open PySem PySem.Spec PyProof.Rows L2 Evl FC
theorem ok_m_best_on_line {P : Program} {w : World} {K : PySem.W.Frag} {mg : Str → Option Value} {base : Heap} {f : Addr} {fd : FuncData} (FF : Fun K "best_on_line" "best_on_line" sm_best_on_line f fd) {C_Stretches : Addr} (c_Stretches : Cls K C_Stretches) {f_m_Stretches_init : Addr} {fd_m_Stretches_init : FuncData} (G_m_Stretches_init : FnOk P w K mg base CX0 1 f_m_Stretches_init fd_m_Stretches_init ["self", "rows"] (spOf K (pf_m_Stretches_init C_Stretches))) (mk_Stretches : Mk K C_Stretches f_m_Stretches_init) (gc_Stretches : mg "Stretches" = some (.ref C_Stretches)) (b_m_Stretches_init : Binds K fd_m_Stretches_init ["self", "rows"] []) {f_m_with_one_more : Addr} {fd_m_with_one_more : FuncData} (G_m_with_one_more : FnOk P w K mg base CX0 4 f_m_with_one_more fd_m_with_one_more ["stretches", "best", "length"] (spOf K (pf_m_with_one_more C_Stretches))) (g_m_with_one_more : mg "with_one_more" = some (.ref f_m_with_one_more)) (k_m_with_one_more : PySem.W.keepIn K (.ref f_m_with_one_more) = true) (b_m_with_one_more : Binds K fd_m_with_one_more ["stretches", "best", "length"] []) (n_len : mg "len" = none) (n_range : mg "range" = none) : FnOk P w K mg base CX0 5 f fd ["rows", "many"] (spOf K (pf_m_best_on_line)) := by
  refine ok_of (N := N_m_best_on_line) FF sc_m_best_on_line (fun as m R hG => ?_) (fun cdv A outer s H E hr => ?_)
  · obtain ⟨v_rows, v_many, r_, _, rfl, _⟩ := hG
    rfl
  · have nd : (N_m_best_on_line : List Str).Nodup := sc_m_best_on_line.nd
    refine ⟨_, (pss_cons (ps_set (i := 2) nd rfl (Or.inl rfl) (pe_make mk_Stretches G_m_Stretches_init (hr.mono (by decide)) (by rfl) gc_Stretches b_m_Stretches_init .nil pass0 (pa_cons (pv 0) pa_nil)))
      (pss_cons (ps_set (i := 3) nd rfl (Or.inl rfl) (pe_op op_cat (pe_op op_rep (pe_lst (pa_cons pe_non pa_nil)) (pe_callB (kCa (r := rLenA) (K := K) call_len_seq rfl) (by rfl) n_len (by decide +kernel) (pa_cons (pv 0) pa_nil))) (pe_lst (pa_cons (pe_tup (pa_cons (pe_tup (pa_cons pe_int (pa_cons pe_int pa_nil))) (pa_cons (pe_lst pa_nil) pa_nil))) pa_nil))))
      (pss_cons (ps_for PassesOwn.never rfl (pi_range1 (by rfl) n_range (pa_cons (pv 1) pa_nil)) (pg_name (i := 4) nd rfl (by first | exact Or.inl rfl | exact Or.inr rfl))
      (pss_cons (ps_set (i := 3) nd rfl (Or.inl rfl) (pe_call G_m_with_one_more (hr.mono (by decide)) (by rfl) g_m_with_one_more k_m_with_one_more b_m_with_one_more .nil pass0 (pa_cons (pv 2) (pa_cons (pv 3) (pa_cons (pe_callB (kCa (r := rLenA) (K := K) call_len_seq rfl) (by rfl) n_len (by decide +kernel) (pa_cons (pv 0) pa_nil)) pa_nil)))))
      pss_nil))
      (pss_cons (ps_ret (pe_ix (kIx (r := rIxL) (K := K) ix_list rfl) (pv 3) pe_int (fun _ _ => rfl))) pss_nil)))), ?_⟩
    rintro as m R ⟨v_rows, v_many, r_, h0, rfl, rfl, rfl⟩ F D rfl hk hfin hnx
    unfold m_best_on_line at h0
    show Wp _ _ _ [.da ((dL (dP (dU dI) dI)) v_rows), .da (dI v_many), .un, .un, .un] []
    obtain ⟨⟨c1, c2, c3⟩, q4, h0⟩ := bindS h0
    refine wp_make (names := names_Stretches) (Good := (fun l_5 dx_6 m2_ => ∃ l_7 l_8 l_9, m2_ = [(l_5, obj C_Stretches dx_6 names_Stretches [.rf l_7, .rf l_8, .rf l_9]), (l_7, .ls (List.map dI c1)), (l_8, .ls (List.map dI c2)), (l_9, .ls (List.map dI c3))])) (i := 2) (ea_cons (ev_var (i := 0) rfl) ea_nil) (fun p_ dx_ => ⟨_, ⟨_, _, _, _, _, _, q4, rfl, rfl, rfl⟩, fun _ _ hr_ => hr_⟩) ?_ rfl
    rintro l_5 dx_6 _ ⟨l_7, l_8, l_9, rfl⟩ nk_l_5
    show Wp _ _ _ [.da ((dL (dP (dU dI) dI)) v_rows), .da (dI v_many), .rf l_5, .un, .un] [(l_5, obj C_Stretches dx_6 names_Stretches [.rf l_7, .rf l_8, .rf l_9]), (l_7, .ls (List.map dI c1)), (l_8, .ls (List.map dI c2)), (l_9, .ls (List.map dI c3))]
    obtain ⟨t10, q11, h0⟩ := bindS h0
    obtain ⟨u12, q13, h0⟩ := bindS h0
    obtain ⟨v_best14, q15, h0⟩ := bindS h0
    refine wp_asg (i := 3) (ev_eq (f := (dL (dO (dP (dP dI dI) (dL dI))))) (ev_op (ev_op (show Ev _ _ _ _ (.da ((dL (dO (dP (dP dI dI) (dL dI)))) ([(none : (Option ((Int × Int) × (List Int))))] : (List (Option ((Int × Int) × (List Int))))))) _ from ev_lst (dl := [(dO (dP (dP dI dI) (dL dI))) (none : (Option ((Int × Int) × (List Int))))]) (ea_cons (show Ev _ _ _ _ (.da ((dO (dP (dP dI dI) (dL dI))) none)) _ from ev_non) ea_nil) (Nat.le_of_ble_eq_true rfl)) (ev_cb (ea_cons (ev_var (i := 0) rfl) ea_nil) (rc_lenL (f := (dP (dU dI) dI)))) (rr_rep (f := (dO (dP (dP dI dI) (dL dI)))) q11)) (show Ev _ _ _ _ (.da ((dL (dO (dP (dP dI dI) (dL dI)))) ([(some (((0 : Int), (1 : Int)), ([] : (List Int))))] : (List (Option ((Int × Int) × (List Int))))))) _ from ev_lst (dl := [(dO (dP (dP dI dI) (dL dI))) (some (((0 : Int), (1 : Int)), ([] : (List Int))))]) (ea_cons (show Ev _ _ _ _ (.da ((dO (dP (dP dI dI) (dL dI))) (some (((0 : Int), (1 : Int)), ([] : (List Int)))))) _ from (show Ev _ _ _ _ (.da ((dP (dP dI dI) (dL dI)) (((0 : Int), (1 : Int)), ([] : (List Int))))) _ from ev_tup (dl := [(dP dI dI) ((0 : Int), (1 : Int)), (dL dI) ([] : (List Int))]) (ea_cons (show Ev _ _ _ _ (.da ((dP dI dI) ((0 : Int), (1 : Int)))) _ from ev_tup (dl := [dI (0 : Int), dI (1 : Int)]) (ea_cons (ev_int (i := 0)) (ea_cons (ev_int (i := 1)) ea_nil)) (Nat.le_of_ble_eq_true rfl)) (ea_cons (show Ev _ _ _ _ (.da ((dL dI) ([] : (List Int)))) _ from ev_lst (dl := []) ea_nil (Nat.le_of_ble_eq_true rfl)) ea_nil)) (Nat.le_of_ble_eq_true rfl))) ea_nil) (Nat.le_of_ble_eq_true rfl)) (rr_cat q13)) (Option.some.inj q15)) ?_
    show Wp _ _ _ [.da ((dL (dP (dU dI) dI)) v_rows), .da (dI v_many), .rf l_5, .da ((dL (dO (dP (dP dI dI) (dL dI)))) v_best14), .un] [(l_5, obj C_Stretches dx_6 names_Stretches [.rf l_7, .rf l_8, .rf l_9]), (l_7, .ls (List.map dI c1)), (l_8, .ls (List.map dI c2)), (l_9, .ls (List.map dI c3))]
    obtain ⟨rg16, q17, h0⟩ := bindS h0
    obtain ⟨v_best31, q36, h0⟩ := bindS h0
    refine wp_forF (fun (s_ : (List (Option ((Int × Int) × (List Int))))) => [.da ((dL (dP (dU dI) dI)) v_rows), .da (dI v_many), .rf l_5, .da ((dL (dO (dP (dP dI dI) (dL dI)))) s_), .un]) (fun (s_ : (List (Option ((Int × Int) × (List Int))))) => [(l_5, obj C_Stretches dx_6 names_Stretches [.rf l_7, .rf l_8, .rf l_9]), (l_7, .ls (List.map dI c1)), (l_8, .ls (List.map dI c2)), (l_9, .ls (List.map dI c3))]) (src_R1 (j := 4) (ea_cons (ev_var (i := 1) rfl) ea_nil) q17) q36 (.cons .rfl (.cons .rfl (.cons .rfl (.cons .rfl (.cons .un Wks.nil))))) rfl (fun _ => True.intro) ?_ ?_
    · rintro lo1 v_best26 v_turn18 s_ hx1 h1 D1 he1 hn1 hct1
      show Wp _ _ _ [.da ((dL (dP (dU dI) dI)) v_rows), .da (dI v_many), .rf l_5, .da ((dL (dO (dP (dP dI dI) (dL dI)))) v_best26), .da (dI v_turn18)] [(l_5, obj C_Stretches dx_6 names_Stretches [.rf l_7, .rf l_8, .rf l_9]), (l_7, .ls (List.map dI c1)), (l_8, .ls (List.map dI c2)), (l_9, .ls (List.map dI c3))]
      obtain ⟨t29, q30, h1⟩ := bindS h1
      refine wp_asg (i := 3) (ev_callP (mc := [(l_5, obj C_Stretches dx_6 names_Stretches [.rf l_7, .rf l_8, .rf l_9]), (l_7, .ls (List.map dI c1)), (l_8, .ls (List.map dI c2)), (l_9, .ls (List.map dI c3))]) (mc' := [(l_5, obj C_Stretches dx_6 names_Stretches [.rf l_7, .rf l_8, .rf l_9]), (l_7, .ls (List.map dI c1)), (l_8, .ls (List.map dI c2)), (l_9, .ls (List.map dI c3))]) (fr := []) (m2 := [(l_5, obj C_Stretches dx_6 names_Stretches [.rf l_7, .rf l_8, .rf l_9]), (l_7, .ls (List.map dI c1)), (l_8, .ls (List.map dI c2)), (l_9, .ls (List.map dI c3))]) (ea_cons (ev_rf (i := 2) rfl) (ea_cons (ev_var (i := 3) rfl) (ea_cons (ev_cb (ea_cons (ev_var (i := 0) rfl) ea_nil) (rc_lenL (f := (dP (dU dI) dI)))) ea_nil))) (perm_ix (n := 4) [0, 1, 2, 3] rfl (by decide) rfl) (perm_ix (n := 4) [0, 1, 2, 3] rfl (by decide) rfl) ⟨_, ⟨_, _, _, _, _, _, _, _, _, _, _, q30, rfl, rfl, rfl⟩, fun _ _ h => h⟩) ?_
      show Wp _ _ _ [.da ((dL (dP (dU dI) dI)) v_rows), .da (dI v_many), .rf l_5, .da ((dL (dO (dP (dP dI dI) (dL dI)))) t29), .da (dI v_turn18)] [(l_5, obj C_Stretches dx_6 names_Stretches [.rf l_7, .rf l_8, .rf l_9]), (l_7, .ls (List.map dI c1)), (l_8, .ls (List.map dI c2)), (l_9, .ls (List.map dI c3))]
      cases h1
      exact wp_next fun σ H a => hn1 σ H (at_weak (.cons .rfl (.cons .rfl (.cons .rfl (.cons .rfl (.cons .un Wks.nil))))) a)
    · show Wp _ _ _ [.da ((dL (dP (dU dI) dI)) v_rows), .da (dI v_many), .rf l_5, .da ((dL (dO (dP (dP dI dI) (dL dI)))) v_best31), .un] [(l_5, obj C_Stretches dx_6 names_Stretches [.rf l_7, .rf l_8, .rf l_9]), (l_7, .ls (List.map dI c1)), (l_8, .ls (List.map dI c2)), (l_9, .ls (List.map dI c3))]
      obtain ⟨t32, q33, h0⟩ := bindS h0
      obtain ⟨w34, q35, h0⟩ := bindS h0
      have e0_ := Option.some.inj h0
      subst e0_
      exact wp_retS (ev_some (f := (dP (dP dI dI) (dL dI))) (o := t32) (ev_op (ev_var (i := 3) rfl) (ev_int (i := 0)) (rr_ixL (f := (dO (dP (dP dI dI) (dL dI)))) q33)) q35) hfin ⟨rfl, rfl⟩ (List.nil_sublist _)
end K88
set_option maxHeartbeats 2000000
namespace K88
open PySem PySem.Spec PyProof.Rows L2 Evl FC
theorem ok_m_nearest_middle {P : Program} {w : World} {K : PySem.W.Frag} {mg : Str → Option Value} {base : Heap} {f : Addr} {fd : FuncData} (FF : Fun K "nearest_middle" "nearest_middle" sm_nearest_middle f fd) {f_m_before : Addr} {fd_m_before : FuncData} (G_m_before : FnOk P w K mg base CX0 1 f_m_before fd_m_before ["one", "other"] (spOf K (pf_m_before))) (g_m_before : mg "before" = some (.ref f_m_before)) (k_m_before : PySem.W.keepIn K (.ref f_m_before) = true) (b_m_before : Binds K fd_m_before ["one", "other"] []) {f_m_far_of : Addr} {fd_m_far_of : FuncData} (G_m_far_of : FnOk P w K mg base CX0 4 f_m_far_of fd_m_far_of ["colour", "middle"] (spOf K (pf_m_far_of))) (g_m_far_of : mg "far_of" = some (.ref f_m_far_of)) (k_m_far_of : PySem.W.keepIn K (.ref f_m_far_of) = true) (b_m_far_of : Binds K fd_m_far_of ["colour", "middle"] []) (n_enumerate : mg "enumerate" = none) : FnOk P w K mg base CX0 5 f fd ["middles", "colour"] (spOf K (pf_m_nearest_middle)) := by
  refine ok_of (N := N_m_nearest_middle) FF sc_m_nearest_middle (fun as m R hG => ?_) (fun cdv A outer s H E hr => ?_)
  · obtain ⟨v_middles, v_colour, r_, _, rfl, _⟩ := hG
    rfl
  · have nd : (N_m_nearest_middle : List Str).Nodup := sc_m_nearest_middle.nd
    refine ⟨_, (pss_cons (ps_set (i := 2) nd rfl (Or.inl rfl) pe_int)
      (pss_cons (ps_set (i := 3) nd rfl (Or.inl rfl) (pe_call G_m_far_of (hr.mono (by decide)) (by rfl) g_m_far_of k_m_far_of b_m_far_of .nil pass0 (pa_cons (pv 1) (pa_cons (pe_ix (kIx (r := rIxL) (K := K) ix_list rfl) (pv 0) pe_int (fun _ _ => rfl)) pa_nil))))
      (pss_cons (ps_for PassesOwn.never rfl (kPi (r := fun K => iEnum K _) (K := K) (pi_enum (by rfl) n_enumerate (pa_cons (pv 0) pa_nil)) rfl) (pg_tup rfl (pgs_cons (pg_name (i := 4) nd rfl (by first | exact Or.inl rfl | exact Or.inr rfl)) (pgs_cons (pg_name (i := 5) nd rfl (by first | exact Or.inl rfl | exact Or.inr rfl)) pgs_nil)))
      (pss_cons (ps_set (i := 6) nd rfl (Or.inl rfl) (pe_call G_m_far_of (hr.mono (by decide)) (by rfl) g_m_far_of k_m_far_of b_m_far_of .nil pass0 (pa_cons (pv 1) (pa_cons (pv 5) pa_nil))))
      (Evl.pss_cut (ps_if (pt_val (pe_call G_m_before (hr.mono (by decide)) (by rfl) g_m_before k_m_before b_m_before .nil pass0 (pa_cons (pv 6) (pa_cons (pv 3) pa_nil)))) (pss_cons (ps_par (i := 2) (j := 3) rfl nd rfl rfl (by decide) rfl rfl (pa_cons (pv 4) (pa_cons (pv 6) pa_nil)) (by rfl))
      pss_nil) pss_nil)
      pss_nil)))
      (pss_cons (ps_ret (pv 2)) pss_nil)))), ?_⟩
    rintro as m R ⟨v_middles, v_colour, r_, h0, rfl, rfl, rfl⟩ F D rfl hk hfin hnx
    unfold m_nearest_middle at h0
    show Wp _ _ _ [.da ((dL (dU (dP dI dI))) v_middles), .da ((dU dI) v_colour), .un, .un, .un, .un, .un] []
    refine wp_asg (i := 2) (ev_int (i := 0)) ?_
    show Wp _ _ _ [.da ((dL (dU (dP dI dI))) v_middles), .da ((dU dI) v_colour), .da (dI (0 : Int)), .un, .un, .un, .un] []
    obtain ⟨t1, q2, h0⟩ := bindS h0
    obtain ⟨t3, q4, h0⟩ := bindS h0
    refine wp_asg (i := 3) (ev_call (ea_cons (ev_var (i := 1) rfl) (ea_cons (ev_op (ev_var (i := 0) rfl) (ev_int (i := 0)) (rr_ixL (f := (dU (dP dI dI))) q2)) ea_nil)) ⟨_, ⟨_, _, _, q4, rfl, rfl, rfl⟩, fun _ _ h => h⟩) ?_
    show Wp _ _ _ [.da ((dL (dU (dP dI dI))) v_middles), .da ((dU dI) v_colour), .da (dI (0 : Int)), .da ((dP dI dI) t3), .un, .un, .un] []
    obtain ⟨⟨v_found23, v_least24⟩, q25, h0⟩ := bindS h0
    refine wp_forF (fun (s_ : Int × (Int × Int)) => [.da ((dL (dU (dP dI dI))) v_middles), .da ((dU dI) v_colour), .da (dI s_.1), .da ((dP dI dI) s_.2), .un, .un, .un]) (fun (s_ : Int × (Int × Int)) => []) (src_En (f := (dU (dP dI dI))) (j := 4) (k := 5) (ea_cons (ev_var (i := 0) rfl) ea_nil)) q25 (.cons .rfl (.cons .rfl (.cons .rfl (.cons .rfl (.cons .un (.cons .un (.cons .un Wks.nil))))))) rfl (fun _ => True.intro) ?_ ?_
    · rintro lo1 ⟨v_found7, v_least8⟩ ⟨v_number5, v_middle6⟩ s_ hx1 h1 D1 he1 hn1 hct1
      show Wp _ _ _ [.da ((dL (dU (dP dI dI))) v_middles), .da ((dU dI) v_colour), .da (dI v_found7), .da ((dP dI dI) v_least8), .da (dI v_number5), .da ((dU (dP dI dI)) v_middle6), .un] []
      obtain ⟨t16, q17, h1⟩ := bindS h1
      refine wp_asg (i := 6) (ev_call (ea_cons (ev_var (i := 1) rfl) (ea_cons (ev_var (i := 5) rfl) ea_nil)) ⟨_, ⟨_, _, _, q17, rfl, rfl, rfl⟩, fun _ _ h => h⟩) ?_
      show Wp _ _ _ [.da ((dL (dU (dP dI dI))) v_middles), .da ((dU dI) v_colour), .da (dI v_found7), .da ((dP dI dI) v_least8), .da (dI v_number5), .da ((dU (dP dI dI)) v_middle6), .da ((dP dI dI) t16)] []
      obtain ⟨t18, q19, h1⟩ := bindS h1
      obtain ⟨⟨v_found20, v_least21⟩, q22, h1⟩ := bindS h1
      refine wp_cutIf (ds' := [.da ((dL (dU (dP dI dI))) v_middles), .da ((dU dI) v_colour), .da (dI v_found20), .da ((dP dI dI) v_least21), .da (dI v_number5), .da ((dU (dP dI dI)) v_middle6), .da ((dP dI dI) t16)]) (m' := []) ?_ (et_val (ev_call (ea_cons (ev_var (i := 6) rfl) (ea_cons (ev_var (i := 3) rfl) ea_nil)) ⟨_, ⟨_, _, _, q19, rfl, rfl, rfl⟩, fun _ _ h => h⟩)) (fun hc => ?_) (fun hc => ?_)
      · cases h1
        exact wp_next fun σ H a => hn1 σ H (at_weak (.cons .rfl (.cons .rfl (.cons .rfl (.cons .rfl (.cons .un (.cons .un (.cons .un Wks.nil))))))) a)
      · have h102 := condT hc q22
        refine wp_par (i := 2) (j := 3) (ea_cons (ev_var (i := 4) rfl) (ea_cons (ev_var (i := 6) rfl) ea_nil)) ?_
        show Wp _ _ _ [.da ((dL (dU (dP dI dI))) v_middles), .da ((dU dI) v_colour), .da (dI v_number5), .da ((dP dI dI) t16), .da (dI v_number5), .da ((dU (dP dI dI)) v_middle6), .da ((dP dI dI) t16)] []
        cases h102
        exact wp_nextW (.cons .rfl (.cons .rfl (.cons .rfl (.cons .rfl (.cons .rfl (.cons .rfl (.cons .rfl Wks.nil))))))) rfl
      · have h102 := condF hc q22
        cases h102
        exact wp_nextW (.cons .rfl (.cons .rfl (.cons .rfl (.cons .rfl (.cons .rfl (.cons .rfl (.cons .rfl Wks.nil))))))) rfl
    · show Wp _ _ _ [.da ((dL (dU (dP dI dI))) v_middles), .da ((dU dI) v_colour), .da (dI v_found23), .da ((dP dI dI) v_least24), .un, .un, .un] []
      have e0_ := Option.some.inj h0
      subst e0_
      exact wp_retS (ev_var (i := 2) rfl) hfin ⟨rfl, rfl⟩ (List.nil_sublist _)
end K88
set_option maxHeartbeats 2000000
namespace K88
open PySem PySem.Spec PyProof.Rows L2 Evl FC
theorem ok_m_shared_out {P : Program} {w : World} {K : PySem.W.Frag} {mg : Str → Option Value} {base : Heap} {f : Addr} {fd : FuncData} (FF : Fun K "shared_out" "shared_out" sm_shared_out f fd) {f_m_nearest_middle : Addr} {fd_m_nearest_middle : FuncData} (G_m_nearest_middle : FnOk P w K mg base CX0 5 f_m_nearest_middle fd_m_nearest_middle ["middles", "colour"] (spOf K (pf_m_nearest_middle))) (g_m_nearest_middle : mg "nearest_middle" = some (.ref f_m_nearest_middle)) (k_m_nearest_middle : PySem.W.keepIn K (.ref f_m_nearest_middle) = true) (b_m_nearest_middle : Binds K fd_m_nearest_middle ["middles", "colour"] []) : FnOk P w K mg base CX0 6 f fd ["rows", "middles"] (spOf K (pf_m_shared_out)) := by
  refine ok_of (N := N_m_shared_out) FF sc_m_shared_out (fun as m R hG => ?_) (fun cdv A outer s H E hr => ?_)
  · obtain ⟨v_rows, v_middles, r_, _, rfl, _⟩ := hG
    rfl
  · have nd : (N_m_shared_out : List Str).Nodup := sc_m_shared_out.nd
    refine ⟨_, (pss_cons (ps_setLc (i := 2) (own := [("middle", 5)]) (g := gName 5) (tt := tYes) rfl nd rfl rfl (sw_true rfl rfl rfl (by decide +kernel)) (kPi (r := fun K => iList K _) (K := K) (pi_list (pv 1)) rfl) (blkOk_by (own := [("middle", 5)]) (N := N_m_shared_out) (sc := (defScope sm_shared_out)) (by decide +kernel)) (fun _ _ _ _ _ => (pg_name (i := 5) nd rfl (by first | exact Or.inl rfl | exact Or.inr rfl))) (fun _ _ _ _ _ => pts_nil) (fun _ _ _ _ _ => (pe_lst pa_nil)))
      (pss_cons (ps_for PassesOwn.never rfl (kPi (r := fun K => iList K _) (K := K) (pi_list (pv 0)) rfl) (pg_tup rfl (pgs_cons (pg_name (i := 3) nd rfl (by first | exact Or.inl rfl | exact Or.inr rfl)) (pgs_cons (pg_name (i := 4) nd rfl (by first | exact Or.inl rfl | exact Or.inr rfl)) pgs_nil)))
      (pss_cons (ps_expr (pe_bm PySem.F.plainAttrs_list PySem.F.slot_list_append PySem.F.type_list_append mt_append (pe_ix (kIx (r := rIxL) (K := K) ix_list rfl) (pv 2) (pe_call G_m_nearest_middle (hr.mono (by decide)) (by rfl) g_m_nearest_middle k_m_nearest_middle b_m_nearest_middle .nil pass0 (pa_cons (pv 1) (pa_cons (pv 3) pa_nil))) (fun _ _ => rfl)) (pa_cons (pe_tup (pa_cons (pv 3) (pa_cons (pv 4) pa_nil))) pa_nil)))
      pss_nil))
      (pss_cons (ps_ret (pv 2)) pss_nil))), ?_⟩
    rintro as m R ⟨v_rows, v_middles, r_, h0, rfl, rfl, rfl⟩ F D rfl hk hfin hnx
    unfold m_shared_out at h0
    show Wp _ _ _ [.da ((dL (dP (dU dI) dI)) v_rows), .da ((dL (dU (dP dI dI))) v_middles), .un, .un, .un, .un] []
    obtain ⟨u3, q4, h0⟩ := bindS h0
    refine wp_asgNest (dP (dU dI) dI) (i := 2) (lcNest (f := (dP (dU dI) dI)) (src_L (f := (dU (dP dI dI))) (j := 5) (ev_var (i := 1) rfl)) (by decide) (fun _ => True.intro) q4 (fun _ _ _ => en_lst (dl := []) ea_nil (Nat.zero_le _))) rfl (fun l_1 ps_l_1 nk_l_1 nks_l_1 => ?_)
    show Wp _ _ _ [.da ((dL (dP (dU dI) dI)) v_rows), .da ((dL (dU (dP dI dI))) v_middles), .rf l_1, .un, .un, .un] (([] : M) ++ nest (dP (dU dI) dI) l_1 ps_l_1 (List.map (fun (_ : (List (Int × Int))) => ([] : List ((List Int) × Int))) v_middles))
    obtain ⟨c16, q17, h0⟩ := bindS h0
    refine wp_forF (fun (s_ : (List (List ((List Int) × Int)))) => [.da ((dL (dP (dU dI) dI)) v_rows), .da ((dL (dU (dP dI dI))) v_middles), .rf l_1, .un, .un, .un]) (fun (s_ : (List (List ((List Int) × Int)))) => (([] : M) ++ nest (dP (dU dI) dI) l_1 ps_l_1 s_)) (src_LP (f := (dU dI)) (f2 := dI) (j := 3) (k := 4) (ev_var (i := 0) rfl)) q17 (.cons .rfl (.cons .rfl (.cons .rfl (.cons .un (.cons .un (.cons .un Wks.nil)))))) rfl (fun _ => True.intro) ?_ ?_
    · rintro lo1 c7 ⟨v_colour5, v_count6⟩ s_ hx1 h1 D1 he1 hn1 hct1
      show Wp _ _ _ [.da ((dL (dP (dU dI) dI)) v_rows), .da ((dL (dU (dP dI dI))) v_middles), .rf l_1, .da ((dU dI) v_colour5), .da (dI v_count6), .un] (([] : M) ++ nest (dP (dU dI) dI) l_1 ps_l_1 c7)
      obtain ⟨t12, q13, h1⟩ := bindS h1
      obtain ⟨c14, q15, h1⟩ := bindS h1
      refine wp_expr (ev_napp (pre := ([] : M)) (ev_rf (i := 2) rfl) (ev_call (ea_cons (ev_var (i := 1) rfl) (ea_cons (ev_var (i := 3) rfl) ea_nil)) ⟨_, ⟨_, _, _, q13, rfl, rfl, rfl⟩, fun _ _ h => h⟩) (ea_cons (show Ev _ _ _ _ (.da ((dP (dU dI) dI) (v_colour5, v_count6))) _ from ev_tup (dl := [(dU dI) v_colour5, dI v_count6]) (ea_cons (ev_var (i := 3) rfl) (ea_cons (ev_var (i := 4) rfl) ea_nil)) (Nat.le_of_ble_eq_true rfl)) ea_nil) q15) ?_
      show Wp _ _ _ [.da ((dL (dP (dU dI) dI)) v_rows), .da ((dL (dU (dP dI dI))) v_middles), .rf l_1, .da ((dU dI) v_colour5), .da (dI v_count6), .un] (([] : M) ++ nest (dP (dU dI) dI) l_1 ps_l_1 c14)
      cases h1
      exact wp_next fun σ H a => hn1 σ H (at_weak (.cons .rfl (.cons .rfl (.cons .rfl (.cons .un (.cons .un (.cons .un Wks.nil)))))) a)
    · show Wp _ _ _ [.da ((dL (dP (dU dI) dI)) v_rows), .da ((dL (dU (dP dI dI))) v_middles), .rf l_1, .un, .un, .un] (([] : M) ++ nest (dP (dU dI) dI) l_1 ps_l_1 c16)
      refine wp_frzN (f := (dP (dU dI) dI)) (i := 2) (pre := ([] : M)) rfl nk_l_1 nks_l_1 ?_
      show Wp _ _ _ [.da ((dL (dP (dU dI) dI)) v_rows), .da ((dL (dU (dP dI dI))) v_middles), .da ((dL (dL (dP (dU dI) dI))) c16), .un, .un, .un] []
      have e0_ := Option.some.inj h0
      subst e0_
      exact wp_retS (ev_var (i := 2) rfl) hfin ⟨rfl, rfl⟩ (List.nil_sublist _)
end K88
set_option maxHeartbeats 2000000
namespace K88
open PySem PySem.Spec PyProof.Rows L2 Evl FC
theorem ok_m_moved_once {P : Program} {w : World} {K : PySem.W.Frag} {mg : Str → Option Value} {base : Heap} {f : Addr} {fd : FuncData} (FF : Fun K "moved_once" "moved_once" sm_moved_once f fd) {f_m_middle_of : Addr} {fd_m_middle_of : FuncData} (G_m_middle_of : FnOk P w K mg base CX0 3 f_m_middle_of fd_m_middle_of ["rows"] (spOf K (pf_m_middle_of))) (g_m_middle_of : mg "middle_of" = some (.ref f_m_middle_of)) (k_m_middle_of : PySem.W.keepIn K (.ref f_m_middle_of) = true) (b_m_middle_of : Binds K fd_m_middle_of ["rows"] []) {f_m_shared_out : Addr} {fd_m_shared_out : FuncData} (G_m_shared_out : FnOk P w K mg base CX0 6 f_m_shared_out fd_m_shared_out ["rows", "middles"] (spOf K (pf_m_shared_out))) (g_m_shared_out : mg "shared_out" = some (.ref f_m_shared_out)) (k_m_shared_out : PySem.W.keepIn K (.ref f_m_shared_out) = true) (b_m_shared_out : Binds K fd_m_shared_out ["rows", "middles"] []) (n_len : mg "len" = none) (n_zip : mg "zip" = none) : FnOk P w K mg base CX0 7 f fd ["rows", "middles"] (spOf K (pf_m_moved_once)) := by
  refine ok_of (N := N_m_moved_once) FF sc_m_moved_once (fun as m R hG => ?_) (fun cdv A outer s H E hr => ?_)
  · obtain ⟨v_rows, v_middles, r_, _, rfl, _⟩ := hG
    rfl
  · have nd : (N_m_moved_once : List Str).Nodup := sc_m_moved_once.nd
    refine ⟨_, (pss_cons (ps_set (i := 2) nd rfl (Or.inl rfl) (pe_lst pa_nil))
      (pss_cons (ps_for PassesOwn.never rfl (kPi (r := fun K => RZ.iZipA K _) (K := K) (RZ.pi_zipA (by rfl) n_zip (pa_cons (pv 1) (pa_cons (pe_call G_m_shared_out (hr.mono (by decide)) (by rfl) g_m_shared_out k_m_shared_out b_m_shared_out .nil pass0 (pa_cons (pv 0) (pa_cons (pv 1) pa_nil))) pa_nil))) rfl) (pg_tup rfl (pgs_cons (pg_name (i := 3) nd rfl (by first | exact Or.inl rfl | exact Or.inr rfl)) (pgs_cons (pg_name (i := 4) nd rfl (by first | exact Or.inl rfl | exact Or.inr rfl)) pgs_nil)))
      (pss_cons (ps_expr (pe_bm PySem.F.plainAttrs_list PySem.F.slot_list_append PySem.F.type_list_append mt_append (pv 2) (pa_cons (pe_ifExp (pt_cmpR op_gt (pe_callB (kCa (r := rLenA) (K := K) call_len_seq rfl) (by rfl) n_len (by decide +kernel) (pa_cons (pv 4) pa_nil)) pe_int (nomark _)) (pe_call G_m_middle_of (hr.mono (by decide)) (by rfl) g_m_middle_of k_m_middle_of b_m_middle_of .nil pass0 (pa_cons (pv 4) pa_nil)) (pv 3)) pa_nil)))
      pss_nil))
      (pss_cons (ps_ret (pv 2)) pss_nil))), ?_⟩
    rintro as m R ⟨v_rows, v_middles, r_, h0, rfl, rfl, rfl⟩ F D rfl hk hfin hnx
    unfold m_moved_once at h0
    show Wp _ _ _ [.da ((dL (dP (dU dI) dI)) v_rows), .da ((dL (dU (dP dI dI))) v_middles), .un, .un, .un] []
    refine wp_asgN (i := 2) (show EvN _ _ _ _ (.ls (List.map (dU (dP dI dI)) ([] : (List (List (Int × Int)))))) _ from en_lst (dl := []) ea_nil (Nat.le_of_ble_eq_true rfl)) (fun l_1 nk_l_1 => ?_) rfl
    show Wp _ _ _ [.da ((dL (dP (dU dI) dI)) v_rows), .da ((dL (dU (dP dI dI))) v_middles), .rf l_1, .un, .un] [(l_1, .ls (List.map (dU (dP dI dI)) ([] : (List (List (Int × Int))))))]
    obtain ⟨t2, q3, h0⟩ := bindS h0
    obtain ⟨c19, q20, h0⟩ := bindS h0
    refine wp_forF (fun (s_ : (List (List (Int × Int)))) => [.da ((dL (dP (dU dI) dI)) v_rows), .da ((dL (dU (dP dI dI))) v_middles), .rf l_1, .un, .un]) (fun (s_ : (List (List (Int × Int)))) => [(l_1, .ls (List.map (dU (dP dI dI)) s_))]) (src_ZL (f := (dU (dP dI dI))) (f2 := (dL (dP (dU dI) dI))) (j := 3) (k := 4) (ea_cons (ev_var (i := 1) rfl) (ea_cons (ev_call (ea_cons (ev_var (i := 0) rfl) (ea_cons (ev_var (i := 1) rfl) ea_nil)) ⟨_, ⟨_, _, _, q3, rfl, rfl, rfl⟩, fun _ _ h => h⟩) ea_nil))) q20 (.cons .rfl (.cons .rfl (.cons .rfl (.cons .un (.cons .un Wks.nil))))) rfl (fun _ => True.intro) ?_ ?_
    · rintro lo1 c6 ⟨v_middle4, v_share5⟩ s_ hx1 h1 D1 he1 hn1 hct1
      show Wp _ _ _ [.da ((dL (dP (dU dI) dI)) v_rows), .da ((dL (dU (dP dI dI))) v_middles), .rf l_1, .da ((dU (dP dI dI)) v_middle4), .da ((dL (dP (dU dI) dI)) v_share5)] [(l_1, .ls (List.map (dU (dP dI dI)) c6))]
      obtain ⟨t15, q16, h1⟩ := bindS h1
      obtain ⟨u17, q18, h1⟩ := bindS h1
      refine wp_expr (ev_bm (ev_rf (i := 2) rfl) (j := 0) rfl (ea_cons (ev_if (r := .da ((dU (dP dI dI)) t15)) (m' := [(l_1, .ls (List.map (dU (dP dI dI)) c6))]) (et_test (ev_op (ev_cb (ea_cons (ev_var (i := 4) rfl) ea_nil) (rc_lenL (f := (dP (dU dI) dI)))) (ev_int (i := 0)) (rr_b (f := fun i j => decide (j < i))))) (fun e => by have h_ := condT e q16; obtain ⟨t13, q14, h_⟩ := bindS h_; cases h_; exact (ev_call (ea_cons (ev_var (i := 4) rfl) ea_nil) ⟨_, ⟨_, _, q14, rfl, rfl, rfl⟩, fun _ _ h => h⟩)) (fun e => by have h_ := condF e q16; cases h_; exact (ev_var (i := 3) rfl))) ea_nil) (rm_app (f := (dU (dP dI dI))) 0 rfl q18)) ?_
      show Wp _ _ _ [.da ((dL (dP (dU dI) dI)) v_rows), .da ((dL (dU (dP dI dI))) v_middles), .rf l_1, .da ((dU (dP dI dI)) v_middle4), .da ((dL (dP (dU dI) dI)) v_share5)] [(l_1, .ls (List.map (dU (dP dI dI)) (c6 ++ [t15])))]
      cases h1
      exact wp_next fun σ H a => hn1 σ H (at_weak (.cons .rfl (.cons .rfl (.cons .rfl (.cons .un (.cons .un Wks.nil))))) a)
    · show Wp _ _ _ [.da ((dL (dP (dU dI) dI)) v_rows), .da ((dL (dU (dP dI dI))) v_middles), .rf l_1, .un, .un] [(l_1, .ls (List.map (dU (dP dI dI)) c19))]
      refine wp_frz (i := 2) (j := 0) (l := l_1) rfl rfl nk_l_1 ?_
      show Wp _ _ _ [.da ((dL (dP (dU dI) dI)) v_rows), .da ((dL (dU (dP dI dI))) v_middles), .da ((dL (dU (dP dI dI))) c19), .un, .un] []
      have e0_ := Option.some.inj h0
      subst e0_
      exact wp_retS (ev_var (i := 2) rfl) hfin ⟨rfl, rfl⟩ (List.nil_sublist _)
end K88
set_option maxHeartbeats 2000000
namespace K88
open PySem PySem.Spec PyProof.Rows L2 Evl FC
theorem ok_m_is_resting {P : Program} {w : World} {K : PySem.W.Frag} {mg : Str → Option Value} {base : Heap} {f : Addr} {fd : FuncData} (FF : Fun K "is_resting" "is_resting" sm_is_resting f fd) {f_m_moved_once : Addr} {fd_m_moved_once : FuncData} (G_m_moved_once : FnOk P w K mg base CX0 7 f_m_moved_once fd_m_moved_once ["rows", "middles"] (spOf K (pf_m_moved_once))) (g_m_moved_once : mg "moved_once" = some (.ref f_m_moved_once)) (k_m_moved_once : PySem.W.keepIn K (.ref f_m_moved_once) = true) (b_m_moved_once : Binds K fd_m_moved_once ["rows", "middles"] []) (n_list : mg "list" = none) : FnOk P w K mg base CX0 8 f fd ["rows", "middles"] (spOf K (pf_m_is_resting)) := by
  refine ok_of (N := N_m_is_resting) FF sc_m_is_resting (fun as m R hG => ?_) (fun cdv A outer s H E hr => ?_)
  · obtain ⟨v_rows, v_middles, r_, _, rfl, _⟩ := hG
    rfl
  · have nd : (N_m_is_resting : List Str).Nodup := sc_m_is_resting.nd
    refine ⟨_, (pss_cons (ps_ret (pe_cmpR (kOp (r := rEqP) (K := K) (op_eqP hr.units) rfl) (pe_call G_m_moved_once (hr.mono (by decide)) (by rfl) g_m_moved_once k_m_moved_once b_m_moved_once .nil pass0 (pa_cons (pv 0) (pa_cons (pv 1) pa_nil))) (pe_callTy (kCa (r := rListOf) (K := K) call_list_of rfl) (by rfl) n_list (by decide +kernel) (pa_cons (pv 1) pa_nil)) (nomark _))) pss_nil), ?_⟩
    rintro as m R ⟨v_rows, v_middles, r_, h0, rfl, rfl, rfl⟩ F D rfl hk hfin hnx
    unfold m_is_resting at h0
    show Wp _ _ _ [.da ((dL (dP (dU dI) dI)) v_rows), .da ((dL (dU (dP dI dI))) v_middles)] []
    obtain ⟨t1, q2, h0⟩ := bindS h0
    have e0_ := Option.some.inj h0
    subst e0_
    exact wp_retS (ev_op (ev_call (ea_cons (ev_var (i := 0) rfl) (ea_cons (ev_var (i := 1) rfl) ea_nil)) ⟨_, ⟨_, _, _, q2, rfl, rfl, rfl⟩, fun _ _ h => h⟩) (ev_cb (ea_cons (ev_var (i := 1) rfl) ea_nil) (rc_listL (f := (dU (dP dI dI))))) (rr_eq (f := (dL (dU (dP dI dI)))) (by decide))) hfin ⟨rfl, rfl⟩ (List.nil_sublist _)
end K88
set_option maxHeartbeats 2000000
namespace K88
open PySem PySem.Spec PyProof.Rows L2 Evl FC
theorem ok_m_law_mix {P : Program} {w : World} {K : PySem.W.Frag} {mg : Str → Option Value} {base : Heap} {f : Addr} {fd : FuncData} (FF : Fun K "_law_mix" "_law_mix" sm_law_mix f fd)  : FnOk P w K mg base CX0 1 f fd ["cell", "k"] (spOf K (pf_m_law_mix)) := by
  refine ok_of (N := N_m_law_mix) FF sc_m_law_mix (fun as m R hG => ?_) (fun cdv A outer s H E hr => ?_)
  · obtain ⟨v_cell, v_k, r_, _, rfl, _⟩ := hG
    rfl
  · have nd : (N_m_law_mix : List Str).Nodup := sc_m_law_mix.nd
    refine ⟨_, (pss_cons (ps_set (i := 2) nd rfl (Or.inl rfl) (pe_op op_mod (pe_op op_mulA (pe_op op_add (pe_op op_add (pe_op op_mod (pv 0) pe_int) (pe_op op_mulA (pe_op op_mulA (pv 1) (pv 1)) pe_int)) pe_int) pe_int) pe_int))
      (pss_cons (ps_ret (pe_op op_mod (pe_op op_mulA (pv 2) (pv 2)) pe_int)) pss_nil)), ?_⟩
    rintro as m R ⟨v_cell, v_k, r_, h0, rfl, rfl, rfl⟩ F D rfl hk hfin hnx
    unfold m_law_mix at h0
    show Wp _ _ _ [.da (dI v_cell), .da (dI v_k), .un] []
    obtain ⟨t1, q2, h0⟩ := bindS h0
    obtain ⟨t3, q4, h0⟩ := bindS h0
    obtain ⟨t5, q6, h0⟩ := bindS h0
    obtain ⟨t7, q8, h0⟩ := bindS h0
    obtain ⟨t9, q10, h0⟩ := bindS h0
    refine wp_asg (i := 2) (ev_op (ev_op (ev_op (ev_op (ev_op (ev_var (i := 0) rfl) (ev_int (i := 2147483629)) (rr_mod q2)) (ev_op (ev_op (ev_var (i := 1) rfl) (ev_var (i := 1) rfl) (rr_mul q4)) (ev_int (i := 7919)) (rr_mul q6)) rr_i) (ev_int (i := 11)) rr_i) (ev_int (i := 48271)) (rr_mul q8)) (ev_int (i := 2147483647)) (rr_mod q10)) ?_
    show Wp _ _ _ [.da (dI v_cell), .da (dI v_k), .da (dI t9)] []
    obtain ⟨t11, q12, h0⟩ := bindS h0
    obtain ⟨t13, q14, h0⟩ := bindS h0
    have e0_ := Option.some.inj h0
    subst e0_
    exact wp_retS (ev_op (ev_op (ev_var (i := 2) rfl) (ev_var (i := 2) rfl) (rr_mul q12)) (ev_int (i := 1999999973)) (rr_mod q14)) hfin ⟨rfl, rfl⟩ (List.nil_sublist _)
end K88
set_option maxHeartbeats 2000000
namespace K88
open PySem PySem.Spec PyProof.Rows L2 Evl FC
theorem ok_m_law_left {P : Program} {w : World} {K : PySem.W.Frag} {mg : Str → Option Value} {base : Heap} {f : Addr} {fd : FuncData} (FF : Fun K "_law_left" "_law_left" sm_law_left f fd) (n_abs : mg "abs" = none) (n_int : mg "int" = none) (n_len : mg "len" = none) : FnOk P w K mg base CX0 1 f fd ["script", "k"] (spOf K (pf_m_law_left)) := by
  refine ok_of (N := N_m_law_left) FF sc_m_law_left (fun as m R hG => ?_) (fun cdv A outer s H E hr => ?_)
  · obtain ⟨l_script, v_script, v_k, r_, _, rfl, _⟩ := hG
    rfl
  · have nd : (N_m_law_left : List Str).Nodup := sc_m_law_left.nd
    refine ⟨_, (pss_cons (ps_set (i := 2) nd rfl (Or.inl rfl) (pe_ifExp (pt_cmpR op_lt (pv 1) (pe_callB (kCa (r := rLenA) (K := K) call_len_seq rfl) (by rfl) n_len (by decide +kernel) (pa_cons (pv 0) pa_nil)) (nomark _)) (pe_ix (kIx (r := rIxL) (K := K) ix_list rfl) (pv 0) (pv 1) (fun _ _ => rfl)) pe_int))
      (pss_cons (ps_ret (pe_lst (pa_cons (pe_op op_mulA (pe_callB call_abs (by rfl) n_abs (by decide +kernel) (pa_cons (pv 2) pa_nil)) (pe_callTy call_int1 (by rfl) n_int (by decide +kernel) (pa_cons (pe_cmpR op_ge (pe_callB call_abs (by rfl) n_abs (by decide +kernel) (pa_cons (pv 2) pa_nil)) (pe_op op_pow pe_int pe_int) (nomark _)) pa_nil))) (pa_cons (pe_op op_add (pv 2) (pe_op op_mulA pe_int (pv 1))) (pa_cons pe_int pa_nil))))) pss_nil)), ?_⟩
    rintro as m R ⟨l_script, v_script, v_k, r_, h0, rfl, rfl, rfl⟩ F D rfl hk hfin hnx
    unfold m_law_left at h0
    show Wp _ _ _ [.sl l_script v_script, .da (dI v_k), .un] []
    obtain ⟨t3, q4, h0⟩ := bindS h0
    refine wp_asg (i := 2) (ev_if (r := .da (dI t3)) (m' := []) (et_test (ev_op (ev_var (i := 1) rfl) (ev_cb (ea_cons (ev_sc (i := 0) rfl) ea_nil) rc_lenSc) (rr_b (f := fun i j => decide (i < j))))) (fun e => by have h_ := condT e q4; obtain ⟨t1, q2, h_⟩ := bindS h_; cases h_; exact (ev_op (ev_sc (i := 0) rfl) (ev_var (i := 1) rfl) (rr_ixSc q2))) (fun e => by have h_ := condF e q4; cases h_; exact (ev_int (i := 0)))) ?_
    show Wp _ _ _ [.sl l_script v_script, .da (dI v_k), .da (dI t3)] []
    obtain ⟨t5, q6, h0⟩ := bindS h0
    obtain ⟨t7, q8, h0⟩ := bindS h0
    have e0_ := Option.some.inj h0
    subst e0_
    exact wp_retNew (mo := []) (show EvN _ _ _ _ (.ls (List.map dI ([t5, (t3 + t7), (0 : Int)] : (List Int)))) _ from en_lst (dl := [dI t5, dI (t3 + t7), dI (0 : Int)]) (ea_cons (ev_op (ev_cb (ea_cons (ev_var (i := 2) rfl) ea_nil) rc_abs) (ev_cb (ea_cons (ev_op (ev_cb (ea_cons (ev_var (i := 2) rfl) ea_nil) rc_abs) (ev_op (ev_int (i := 10)) (ev_int (i := 18)) (rr_pow (k := 1000000000000000000) (by decide) (by decide))) (rr_b (f := fun i j => decide (j ≤ i)))) ea_nil) rc_intB) (rr_mul q6)) (ea_cons (ev_op (ev_var (i := 2) rfl) (ev_op (ev_int (i := 1000003)) (ev_var (i := 1) rfl) (rr_mul q8)) rr_i) (ea_cons (ev_int (i := 0)) ea_nil))) (Nat.le_of_ble_eq_true rfl)) hfin (fun p => ⟨p, rfl, rfl⟩) (List.nil_sublist _)
end K88
set_option maxHeartbeats 2000000
namespace K88
open PySem PySem.Spec PyProof.Rows L2 Evl FC
theorem ok_m_law_pick {P : Program} {w : World} {K : PySem.W.Frag} {mg : Str → Option Value} {base : Heap} {f : Addr} {fd : FuncData} (FF : Fun K "_law_pick" "_law_pick" sm_law_pick f fd) {f_m_law_mix : Addr} {fd_m_law_mix : FuncData} (G_m_law_mix : FnOk P w K mg base CX0 1 f_m_law_mix fd_m_law_mix ["cell", "k"] (spOf K (pf_m_law_mix))) (g_m_law_mix : mg "_law_mix" = some (.ref f_m_law_mix)) (k_m_law_mix : PySem.W.keepIn K (.ref f_m_law_mix) = true) (b_m_law_mix : Binds K fd_m_law_mix ["cell", "k"] []) : FnOk P w K mg base CX0 2 f fd ["left", "many"] (spOf K (pf_m_law_pick)) := by
  refine ok_of (N := N_m_law_pick) FF sc_m_law_pick (fun as m R hG => ?_) (fun cdv A outer s H E hr => ?_)
  · obtain ⟨l_left, v_left, v_many, r_, w_left, _, rfl, _⟩ := hG
    rfl
  · have nd : (N_m_law_pick : List Str).Nodup := sc_m_law_pick.nd
    refine ⟨_, (pss_cons (ps_asg (pe_op op_add (pe_ix (kIx (r := rIxL) (K := K) ix_list rfl) (pv 0) pe_int (fun _ _ => rfl)) pe_int) (pg_sub (pv 0) pe_int set_list))
      (pss_cons (ps_if (pt_cmpR op_gt (pe_ix (kIx (r := rIxL) (K := K) ix_list rfl) (pv 0) pe_int (fun _ _ => rfl)) pe_int (nomark _)) (pss_cons (ps_set (i := 2) nd rfl (Or.inl rfl) (pe_op op_mod (pe_ix (kIx (r := rIxL) (K := K) ix_list rfl) (pv 0) pe_int (fun _ _ => rfl)) (pv 1)))
      (pss_cons (ps_asg (pe_op op_divA (pe_ix (kIx (r := rIxL) (K := K) ix_list rfl) (pv 0) pe_int (fun _ _ => rfl)) (pv 1)) (pg_sub (pv 0) pe_int set_list))
      (pss_cons (ps_ret (pv 2)) pss_nil))) pss_nil)
      (pss_cons (ps_ret (pe_op op_mod (pe_op op_divA (pe_call G_m_law_mix (hr.mono (by decide)) (by rfl) g_m_law_mix k_m_law_mix b_m_law_mix .nil pass0 (pa_cons (pe_call G_m_law_mix (hr.mono (by decide)) (by rfl) g_m_law_mix k_m_law_mix b_m_law_mix .nil pass0 (pa_cons (pe_ix (kIx (r := rIxL) (K := K) ix_list rfl) (pv 0) pe_int (fun _ _ => rfl)) (pa_cons (pe_ix (kIx (r := rIxL) (K := K) ix_list rfl) (pv 0) pe_int (fun _ _ => rfl)) pa_nil))) (pa_cons (pe_op op_add (pe_ix (kIx (r := rIxL) (K := K) ix_list rfl) (pv 0) pe_int (fun _ _ => rfl)) pe_int) pa_nil))) pe_int) (pv 1))) pss_nil))), ?_⟩
    rintro as m R ⟨l_left, v_left, v_many, r_, w_left, h0, rfl, rfl, rfl⟩ F D rfl hk hfin hnx
    unfold m_law_pick at h0
    show Wp _ _ _ [.rf l_left, .da (dI v_many), .un] [(l_left, .ls (List.map dI v_left))]
    obtain ⟨t1, q2, h0⟩ := bindS h0
    obtain ⟨c3, q4, h0⟩ := bindS h0
    refine wp_setL (f := dI) 0 (ev_op (ev_op (ev_rf (i := 0) rfl) (ev_int (i := 2)) (rr_ixC (f := dI) 0 rfl q2)) (ev_int (i := 1)) rr_i) (ev_rf (i := 0) rfl) (ev_int (i := 2)) rfl q4 ?_
    show Wp _ _ _ [.rf l_left, .da (dI v_many), .un] [(l_left, .ls (List.map dI c3))]
    obtain ⟨t5, q6, h0⟩ := bindS h0
    refine wp_if (et_test (ev_op (ev_op (ev_rf (i := 0) rfl) (ev_int (i := 0)) (rr_ixC (f := dI) 0 rfl q6)) (ev_int (i := 0)) (rr_b (f := fun i j => decide (j < i))))) (fun hc => ?_) (fun hc => ?_)
    · have h0 := condT hc h0
      obtain ⟨t7, q8, h0⟩ := bindS h0
      obtain ⟨t9, q10, h0⟩ := bindS h0
      refine wp_asg (i := 2) (ev_op (ev_op (ev_rf (i := 0) rfl) (ev_int (i := 0)) (rr_ixC (f := dI) 0 rfl q8)) (ev_var (i := 1) rfl) (rr_mod q10)) ?_
      show Wp _ _ _ [.rf l_left, .da (dI v_many), .da (dI t9)] [(l_left, .ls (List.map dI c3))]
      obtain ⟨t11, q12, h0⟩ := bindS h0
      obtain ⟨t13, q14, h0⟩ := bindS h0
      obtain ⟨c15, q16, h0⟩ := bindS h0
      refine wp_setL (f := dI) 0 (ev_op (ev_op (ev_rf (i := 0) rfl) (ev_int (i := 0)) (rr_ixC (f := dI) 0 rfl q12)) (ev_var (i := 1) rfl) (rr_div q14)) (ev_rf (i := 0) rfl) (ev_int (i := 0)) rfl q16 ?_
      show Wp _ _ _ [.rf l_left, .da (dI v_many), .da (dI t9)] [(l_left, .ls (List.map dI c15))]
      have z0_ := Option.some.inj h0
      obtain ⟨e0_, e1_⟩ := Prod.mk.inj z0_
      subst e0_
      subst e1_
      exact wp_retS (ev_var (i := 2) rfl) hfin ⟨rfl, rfl⟩ (List.Sublist.cons₂ _ (List.nil_sublist _))
    · have h0 := condF hc h0
      refine wp_next ?_
      obtain ⟨t17, q18, h0⟩ := bindS h0
      obtain ⟨t19, q20, h0⟩ := bindS h0
      obtain ⟨t21, q22, h0⟩ := bindS h0
      obtain ⟨t23, q24, h0⟩ := bindS h0
      obtain ⟨t25, q26, h0⟩ := bindS h0
      obtain ⟨t27, q28, h0⟩ := bindS h0
      obtain ⟨t29, q30, h0⟩ := bindS h0
      have z0_ := Option.some.inj h0
      obtain ⟨e0_, e1_⟩ := Prod.mk.inj z0_
      subst e0_
      subst e1_
      exact wp_retS (ev_op (ev_op (ev_call (ea_cons (ev_call (ea_cons (ev_op (ev_rf (i := 0) rfl) (ev_int (i := 1)) (rr_ixC (f := dI) 0 rfl q18)) (ea_cons (ev_op (ev_rf (i := 0) rfl) (ev_int (i := 2)) (rr_ixC (f := dI) 0 rfl q20)) ea_nil)) ⟨_, ⟨_, _, _, q22, rfl, rfl, rfl⟩, fun _ _ h => h⟩) (ea_cons (ev_op (ev_op (ev_rf (i := 0) rfl) (ev_int (i := 2)) (rr_ixC (f := dI) 0 rfl q24)) (ev_int (i := 64)) rr_i) ea_nil)) ⟨_, ⟨_, _, _, q26, rfl, rfl, rfl⟩, fun _ _ h => h⟩) (ev_int (i := 64)) (rr_div q28)) (ev_var (i := 1) rfl) (rr_mod q30)) hfin ⟨rfl, rfl⟩ (List.Sublist.cons₂ _ (List.nil_sublist _))
end K88
set_option maxHeartbeats 2000000
namespace K88
open PySem PySem.Spec PyProof.Rows L2 Evl FC
theorem ok_m_law_less {P : Program} {w : World} {K : PySem.W.Frag} {mg : Str → Option Value} {base : Heap} {f : Addr} {fd : FuncData} (FF : Fun K "_law_less" "_law_less" sm_law_less f fd)  : FnOk P w K mg base CX0 1 f fd ["one", "other"] (spOf K (pf_m_law_less)) := by
  refine ok_of (N := N_m_law_less) FF sc_m_law_less (fun as m R hG => ?_) (fun cdv A outer s H E hr => ?_)
  · obtain ⟨v_one, v_other, r_, _, rfl, _⟩ := hG
    rfl
  · have nd : (N_m_law_less : List Str).Nodup := sc_m_law_less.nd
    refine ⟨_, (pss_cons (ps_ret (pe_cmpR op_lt (pe_op op_mulA (pe_ix (kIx (r := rIxT) (K := K) ix_tup rfl) (pv 0) pe_int (fun _ _ => rfl)) (pe_ix (kIx (r := rIxT) (K := K) ix_tup rfl) (pv 1) pe_int (fun _ _ => rfl))) (pe_op op_mulA (pe_ix (kIx (r := rIxT) (K := K) ix_tup rfl) (pv 1) pe_int (fun _ _ => rfl)) (pe_ix (kIx (r := rIxT) (K := K) ix_tup rfl) (pv 0) pe_int (fun _ _ => rfl))) (nomark _))) pss_nil), ?_⟩
    rintro as m R ⟨v_one, v_other, r_, h0, rfl, rfl, rfl⟩ F D rfl hk hfin hnx
    unfold m_law_less at h0
    show Wp _ _ _ [.da ((dP dI dI) v_one), .da ((dP dI dI) v_other)] []
    obtain ⟨t1, q2, h0⟩ := bindS h0
    obtain ⟨t3, q4, h0⟩ := bindS h0
    have e0_ := Option.some.inj h0
    subst e0_
    exact wp_retS (ev_op (ev_op (ev_op (ev_var (i := 0) rfl) (ev_int (i := 0)) (rr_ixT (dl := [dI (v_one).1, dI (v_one).2]) rfl)) (ev_op (ev_var (i := 1) rfl) (ev_int (i := 1)) (rr_ixT (dl := [dI (v_other).1, dI (v_other).2]) rfl)) (rr_mul q2)) (ev_op (ev_op (ev_var (i := 1) rfl) (ev_int (i := 0)) (rr_ixT (dl := [dI (v_other).1, dI (v_other).2]) rfl)) (ev_op (ev_var (i := 0) rfl) (ev_int (i := 1)) (rr_ixT (dl := [dI (v_one).1, dI (v_one).2]) rfl)) (rr_mul q4)) (rr_b (f := fun i j => decide (i < j)))) hfin ⟨rfl, rfl⟩ (List.nil_sublist _)
end K88
set_option maxHeartbeats 2000000
namespace K88
open PySem PySem.Spec PyProof.Rows L2 Evl FC
theorem ok_m_law_line {P : Program} {w : World} {K : PySem.W.Frag} {mg : Str → Option Value} {base : Heap} {f : Addr} {fd : FuncData} (FF : Fun K "_law_line" "_law_line" sm_law_line f fd) {f_m_law_pick : Addr} {fd_m_law_pick : FuncData} (G_m_law_pick : FnOk P w K mg base CX0 2 f_m_law_pick fd_m_law_pick ["left", "many"] (spOf K (pf_m_law_pick))) (g_m_law_pick : mg "_law_pick" = some (.ref f_m_law_pick)) (k_m_law_pick : PySem.W.keepIn K (.ref f_m_law_pick) = true) (b_m_law_pick : Binds K fd_m_law_pick ["left", "many"] []) (n_range : mg "range" = none) : FnOk P w K mg base CX0 3 f fd ["left", "many"] (spOf K (pf_m_law_line)) := by
  refine ok_of (N := N_m_law_line) FF sc_m_law_line (fun as m R hG => ?_) (fun cdv A outer s H E hr => ?_)
  · obtain ⟨l_left, v_left, v_many, r_, w_left, _, rfl, _⟩ := hG
    rfl
  · have nd : (N_m_law_line : List Str).Nodup := sc_m_law_line.nd
    refine ⟨_, (pss_cons (ps_par (i := 2) (j := 3) rfl nd rfl rfl (by decide) rfl rfl (pa_cons (pe_call G_m_law_pick (hr.mono (by decide)) (by rfl) g_m_law_pick k_m_law_pick b_m_law_pick .nil pass0 (pa_cons (pv 0) (pa_cons pe_int pa_nil))) (pa_cons (pe_lst pa_nil) pa_nil)) (by rfl))
      (pss_cons (ps_par (i := 4) (j := 5) rfl nd rfl rfl (by decide) rfl rfl (pa_cons (pe_ix (kIx (r := rIxL) (K := K) ix_list rfl) (pe_lst (pa_cons pe_int (pa_cons pe_int (pa_cons pe_int (pa_cons pe_int pa_nil))))) (pe_call G_m_law_pick (hr.mono (by decide)) (by rfl) g_m_law_pick k_m_law_pick b_m_law_pick .nil pass0 (pa_cons (pv 0) (pa_cons pe_int pa_nil))) (fun _ _ => rfl)) (pa_cons (pe_ix (kIx (r := rIxL) (K := K) ix_list rfl) (pe_lst (pa_cons pe_int (pa_cons pe_int (pa_cons pe_int (pa_cons pe_int pa_nil))))) (pe_call G_m_law_pick (hr.mono (by decide)) (by rfl) g_m_law_pick k_m_law_pick b_m_law_pick .nil pass0 (pa_cons (pv 0) (pa_cons pe_int pa_nil))) (fun _ _ => rfl)) pa_nil)) (by rfl))
      (pss_cons (ps_for PassesOwn.never rfl (pi_range1 (by rfl) n_range (pa_cons (pv 1) pa_nil)) (pg_name (i := 6) nd rfl (by first | exact Or.inl rfl | exact Or.inr rfl))
      (pss_cons (ps_expr (pe_bm PySem.F.plainAttrs_list PySem.F.slot_list_append PySem.F.type_list_append mt_append (pv 3) (pa_cons (pe_tup (pa_cons (pe_tup (pa_cons (pv 2) pa_nil)) (pa_cons (pe_op op_add pe_int (pe_call G_m_law_pick (hr.mono (by decide)) (by rfl) g_m_law_pick k_m_law_pick b_m_law_pick .nil pass0 (pa_cons (pv 0) (pa_cons (pv 5) pa_nil)))) pa_nil))) pa_nil)))
      (pss_cons (ps_set (i := 2) nd rfl (Or.inl rfl) (pe_op op_add (pe_op op_add (pv 2) pe_int) (pe_call G_m_law_pick (hr.mono (by decide)) (by rfl) g_m_law_pick k_m_law_pick b_m_law_pick .nil pass0 (pa_cons (pv 0) (pa_cons (pv 4) pa_nil)))))
      pss_nil)))
      (pss_cons (ps_ret (pv 3)) pss_nil)))), ?_⟩
    rintro as m R ⟨l_left, v_left, v_many, r_, w_left, h0, rfl, rfl, rfl⟩ F D rfl hk hfin hnx
    unfold m_law_line at h0
    show Wp _ _ _ [.rf l_left, .da (dI v_many), .un, .un, .un, .un, .un] [(l_left, .ls (List.map dI v_left))]
    obtain ⟨⟨t1, c2⟩, q3, h0⟩ := bindS h0
    refine wp_parDN (i := 2) (j := 3) (ev_call1 0 (ea_cons (ev_rf (i := 0) rfl) (ea_cons (ev_int (i := 20)) ea_nil)) rfl ⟨_, ⟨_, _, _, _, _, q3, rfl, rfl, rfl⟩, fun _ _ h => h⟩) (show EvN _ _ _ _ (.ls (List.map (dP (dU dI) dI) ([] : (List ((List Int) × Int))))) _ from en_lst (dl := []) ea_nil (Nat.le_of_ble_eq_true rfl)) (fun l_4 nk_l_4 => ?_) rfl
    show Wp _ _ _ [.rf l_left, .da (dI v_many), .da (dI t1), .rf l_4, .un, .un, .un] [(l_left, .ls (List.map dI c2)), (l_4, .ls (List.map (dP (dU dI) dI) ([] : (List ((List Int) × Int)))))]
    obtain ⟨⟨t6, c7⟩, q8, h0⟩ := bindS h0
    obtain ⟨t9, q10, h0⟩ := bindS h0
    obtain ⟨⟨t11, c12⟩, q13, h0⟩ := bindS h0
    obtain ⟨t14, q15, h0⟩ := bindS h0
    refine wp_par (i := 4) (j := 5) (ea_cons (ev_op (show Ev _ _ _ _ (.da ((dL dI) ([(1 : Int), (1 : Int), (3 : Int), (25 : Int)] : (List Int)))) _ from ev_lst (dl := [dI (1 : Int), dI (1 : Int), dI (3 : Int), dI (25 : Int)]) (ea_cons (ev_int (i := 1)) (ea_cons (ev_int (i := 1)) (ea_cons (ev_int (i := 3)) (ea_cons (ev_int (i := 25)) ea_nil)))) (Nat.le_of_ble_eq_true rfl)) (ev_call1 0 (ea_cons (ev_rf (i := 0) rfl) (ea_cons (ev_int (i := 4)) ea_nil)) rfl ⟨_, ⟨_, _, _, _, _, q8, rfl, rfl, rfl⟩, fun _ _ h => h⟩) (rr_ixL (f := dI) q10)) (ea_cons (ev_op (show Ev _ _ _ _ (.da ((dL dI) ([(1 : Int), (1 : Int), (3 : Int), (1000 : Int)] : (List Int)))) _ from ev_lst (dl := [dI (1 : Int), dI (1 : Int), dI (3 : Int), dI (1000 : Int)]) (ea_cons (ev_int (i := 1)) (ea_cons (ev_int (i := 1)) (ea_cons (ev_int (i := 3)) (ea_cons (ev_int (i := 1000)) ea_nil)))) (Nat.le_of_ble_eq_true rfl)) (ev_call1 0 (ea_cons (ev_rf (i := 0) rfl) (ea_cons (ev_int (i := 4)) ea_nil)) rfl ⟨_, ⟨_, _, _, _, _, q13, rfl, rfl, rfl⟩, fun _ _ h => h⟩) (rr_ixL (f := dI) q15)) ea_nil)) ?_
    show Wp _ _ _ [.rf l_left, .da (dI v_many), .da (dI t1), .rf l_4, .da (dI t9), .da (dI t14), .un] [(l_left, .ls (List.map dI c12)), (l_4, .ls (List.map (dP (dU dI) dI) ([] : (List ((List Int) × Int)))))]
    obtain ⟨rg16, q17, h0⟩ := bindS h0
    obtain ⟨⟨v_number42, c43, c44⟩, q45, h0⟩ := bindS h0
    refine wp_forF (fun (s_ : Int × (List Int) × (List ((List Int) × Int))) => [.rf l_left, .da (dI v_many), .da (dI s_.1), .rf l_4, .da (dI t9), .da (dI t14), .un]) (fun (s_ : Int × (List Int) × (List ((List Int) × Int))) => [(l_left, .ls (List.map dI s_.2.1)), (l_4, .ls (List.map (dP (dU dI) dI) s_.2.2))]) (src_R1 (j := 6) (ea_cons (ev_var (i := 1) rfl) ea_nil) q17) q45 (.cons .rfl (.cons .rfl (.cons .rfl (.cons .rfl (.cons .rfl (.cons .rfl (.cons .un Wks.nil))))))) rfl (fun _ => True.intro) ?_ ?_
    · rintro lo1 ⟨v_number19, c20, c21⟩ v_k18 s_ hx1 h1 D1 he1 hn1 hct1
      show Wp _ _ _ [.rf l_left, .da (dI v_many), .da (dI v_number19), .rf l_4, .da (dI t9), .da (dI t14), .da (dI v_k18)] [(l_left, .ls (List.map dI c20)), (l_4, .ls (List.map (dP (dU dI) dI) c21))]
      obtain ⟨⟨t32, c33⟩, q34, h1⟩ := bindS h1
      obtain ⟨u35, q36, h1⟩ := bindS h1
      refine wp_expr (ev_bm (ev_rf (i := 3) rfl) (j := 1) rfl (ea_cons (show Ev _ _ _ _ (.da ((dP (dU dI) dI) ([v_number19], ((1 : Int) + t32)))) _ from ev_tup (dl := [(dU dI) [v_number19], dI ((1 : Int) + t32)]) (ea_cons (show Ev _ _ _ _ (.da ((dU dI) [v_number19])) _ from ev_tup (dl := [dI v_number19]) (ea_cons (ev_var (i := 2) rfl) ea_nil) (Nat.le_of_ble_eq_true rfl)) (ea_cons (ev_op (ev_int (i := 1)) (ev_call1 0 (ea_cons (ev_rf (i := 0) rfl) (ea_cons (ev_var (i := 5) rfl) ea_nil)) rfl ⟨_, ⟨_, _, _, _, _, q34, rfl, rfl, rfl⟩, fun _ _ h => h⟩) rr_i) ea_nil)) (Nat.le_of_ble_eq_true rfl)) ea_nil) (rm_app (f := (dP (dU dI) dI)) 1 rfl q36)) ?_
      show Wp _ _ _ [.rf l_left, .da (dI v_many), .da (dI v_number19), .rf l_4, .da (dI t9), .da (dI t14), .da (dI v_k18)] [(l_left, .ls (List.map dI c33)), (l_4, .ls (List.map (dP (dU dI) dI) (c21 ++ [([v_number19], ((1 : Int) + t32))])))]
      obtain ⟨⟨t37, c38⟩, q39, h1⟩ := bindS h1
      obtain ⟨v_number40, q41, h1⟩ := bindS h1
      refine wp_asg (i := 2) (ev_eq (f := dI) (ev_op (ev_op (ev_var (i := 2) rfl) (ev_int (i := 1)) rr_i) (ev_call1 0 (ea_cons (ev_rf (i := 0) rfl) (ea_cons (ev_var (i := 4) rfl) ea_nil)) rfl ⟨_, ⟨_, _, _, _, _, q39, rfl, rfl, rfl⟩, fun _ _ h => h⟩) rr_i) (Option.some.inj q41)) ?_
      show Wp _ _ _ [.rf l_left, .da (dI v_many), .da (dI v_number40), .rf l_4, .da (dI t9), .da (dI t14), .da (dI v_k18)] [(l_left, .ls (List.map dI c38)), (l_4, .ls (List.map (dP (dU dI) dI) (c21 ++ [([v_number19], ((1 : Int) + t32))])))]
      cases h1
      exact wp_next fun σ H a => hn1 σ H (at_weak (.cons .rfl (.cons .rfl (.cons .rfl (.cons .rfl (.cons .rfl (.cons .rfl (.cons .un Wks.nil))))))) a)
    · show Wp _ _ _ [.rf l_left, .da (dI v_many), .da (dI v_number42), .rf l_4, .da (dI t9), .da (dI t14), .un] [(l_left, .ls (List.map dI c43)), (l_4, .ls (List.map (dP (dU dI) dI) c44))]
      refine wp_frz (i := 3) (j := 1) (l := l_4) rfl rfl nk_l_4 ?_
      show Wp _ _ _ [.rf l_left, .da (dI v_many), .da (dI v_number42), .da ((dL (dP (dU dI) dI)) c44), .da (dI t9), .da (dI t14), .un] [(l_left, .ls (List.map dI c43))]
      have z0_ := Option.some.inj h0
      obtain ⟨e0_, e1_⟩ := Prod.mk.inj z0_
      subst e0_
      subst e1_
      exact wp_retS (ev_var (i := 3) rfl) hfin ⟨rfl, rfl⟩ (List.Sublist.cons₂ _ (List.nil_sublist _))
end K88
set_option maxHeartbeats 2000000
namespace K88
open PySem PySem.Spec PyProof.Rows L2 Evl FC
theorem ok_m_law_stretches {P : Program} {w : World} {K : PySem.W.Frag} {mg : Str → Option Value} {base : Heap} {f : Addr} {fd : FuncData} (FF : Fun K "_law_stretches" "_law_stretches" sm_law_stretches f fd) (n_len : mg "len" = none) (n_zip : mg "zip" = none) : FnOk P w K mg base CX0 1 f fd ["rows", "begins"] (spOf K (pf_m_law_stretches)) := by
  refine ok_of (N := N_m_law_stretches) FF sc_m_law_stretches (fun as m R hG => ?_) (fun cdv A outer s H E hr => ?_)
  · obtain ⟨v_rows, v_begins, r_, _, rfl, _⟩ := hG
    rfl
  · have nd : (N_m_law_stretches : List Str).Nodup := sc_m_law_stretches.nd
    refine ⟨_, (pss_cons (ps_ret (pe_lc (own := [("begin", 2), ("end", 3)]) (g := gTup K 2 (gCons (gName 2) (gCons (gName 3) gNil))) (tt := tYes) rfl nd (kPi (r := fun K => RZ.iZipA K _) (K := K) (RZ.pi_zipA (by rfl) n_zip (pa_cons (pv 1) (pa_cons (pe_op op_cat (pe_slice (kSl (r := rSlL) (K := K) sl_list rfl) (pv 1) (po_some pe_int) po_none) (pe_lst (pa_cons (pe_callB (kCa (r := rLenA) (K := K) call_len_seq rfl) (by rfl) n_len (by decide +kernel) (pa_cons (pv 0) pa_nil)) pa_nil))) pa_nil))) rfl) (blkOk_by (own := [("begin", 2), ("end", 3)]) (N := N_m_law_stretches) (sc := (defScope sm_law_stretches)) (by decide +kernel)) (fun _ _ _ _ _ => (pg_tup rfl (pgs_cons (pg_name (i := 2) nd rfl (by first | exact Or.inl rfl | exact Or.inr rfl)) (pgs_cons (pg_name (i := 3) nd rfl (by first | exact Or.inl rfl | exact Or.inr rfl)) pgs_nil)))) (fun _ _ _ _ _ => pts_nil) (fun _ _ _ _ _ => (pe_slice (kSl (r := rSlL) (K := K) sl_list rfl) (pv 0) (po_some (pv 2)) (po_some (pv 3)))))) pss_nil), ?_⟩
    rintro as m R ⟨v_rows, v_begins, r_, h0, rfl, rfl, rfl⟩ F D rfl hk hfin hnx
    unfold m_law_stretches at h0
    show Wp _ _ _ [.da ((dL (dP (dU dI) dI)) v_rows), .da ((dL dI) v_begins), .un, .un] []
    obtain ⟨u1, q2, h0⟩ := bindS h0
    obtain ⟨u4, q5, h0⟩ := bindS h0
    have e0_ := Option.some.inj h0
    subst e0_
    exact wp_retS (lc_end (lc_map (f2 := (dL (dP (dU dI) dI))) (step := fun x => some ((fun (p_ : (Int × Int)) => (fun (v_begin3 : Int) (v_end3 : Int) => (cutI v_rows (some v_begin3) (some v_end3))) p_.1 p_.2) x)) (src_ZL (f := dI) (f2 := dI) (j := 2) (k := 3) (ea_cons (ev_var (i := 1) rfl) (ea_cons (ev_op (ev_sl (ev_var (i := 1) rfl) (eo_some (ev_int (i := 1))) eo_none (rs_L (f := dI))) (show Ev _ _ _ _ (.da ((dL dI) ([(List.length v_rows : Int)] : (List Int)))) _ from ev_lst (dl := [dI (List.length v_rows : Int)]) (ea_cons (ev_cb (ea_cons (ev_var (i := 0) rfl) ea_nil) (rc_lenL (f := (dP (dU dI) dI)))) ea_nil) (Nat.le_of_ble_eq_true rfl)) (rr_cat q2)) ea_nil))) (by decide) (fun _ => True.intro) q5 (mapO_pure _) (by rintro ⟨v_begin3, v_end3⟩ y_ hx_ h_; cases h_; exact (ev_sl (ev_var (i := 0) rfl) (eo_some (ev_var (i := 2) rfl)) (eo_some (ev_var (i := 3) rfl)) (rs_L (f := (dP (dU dI) dI))))))) hfin ⟨rfl, rfl⟩ (List.nil_sublist _)
end K88
set_option maxHeartbeats 2000000
namespace K88
open PySem PySem.Spec PyProof.Rows L2 Evl FC
theorem ok_m_law_some_cuts {P : Program} {w : World} {K : PySem.W.Frag} {mg : Str → Option Value} {base : Heap} {f : Addr} {fd : FuncData} (FF : Fun K "_law_some_cuts" "_law_some_cuts" sm_law_some_cuts f fd) {f_m_law_pick : Addr} {fd_m_law_pick : FuncData} (G_m_law_pick : FnOk P w K mg base CX0 2 f_m_law_pick fd_m_law_pick ["left", "many"] (spOf K (pf_m_law_pick))) (g_m_law_pick : mg "_law_pick" = some (.ref f_m_law_pick)) (k_m_law_pick : PySem.W.keepIn K (.ref f_m_law_pick) = true) (b_m_law_pick : Binds K fd_m_law_pick ["left", "many"] []) (n_len : mg "len" = none) (n_max : mg "max" = none) (n_range : mg "range" = none) (n_set : mg "set" = none) (n_sorted : mg "sorted" = none) : FnOk P w K mg base CX0 3 f fd ["left", "rows", "many"] (spOf K (pf_m_law_some_cuts)) := by
  refine ok_of (N := N_m_law_some_cuts) FF sc_m_law_some_cuts (fun as m R hG => ?_) (fun cdv A outer s H E hr => ?_)
  · obtain ⟨l_left, v_left, v_rows, v_many, r_, w_left, _, rfl, _⟩ := hG
    rfl
  · have nd : (N_m_law_some_cuts : List Str).Nodup := sc_m_law_some_cuts.nd
    refine ⟨_, (pss_cons (ps_set (i := 3) nd rfl (Or.inl rfl) (pe_op op_cat (pe_lst (pa_cons pe_int pa_nil)) (pe_lc (own := [("k", 4)]) (g := gName 4) (tt := tYes) rfl nd (pi_range1 (by rfl) n_range (pa_cons (pe_op op_sub (pv 2) pe_int) pa_nil)) (blkOk_by (own := [("k", 4)]) (N := N_m_law_some_cuts) (sc := (defScope sm_law_some_cuts)) (by decide +kernel)) (fun _ _ _ _ _ => (pg_name (i := 4) nd rfl (by first | exact Or.inl rfl | exact Or.inr rfl))) (fun _ _ _ _ _ => pts_nil) (fun _ _ _ _ _ => (pe_op op_add pe_int (pe_call G_m_law_pick (hr.mono (by decide)) (by rfl) g_m_law_pick k_m_law_pick b_m_law_pick .nil pass0 (pa_cons (pv 0) (pa_cons (pe_callB (call_max2 rfl) (by rfl) n_max (by decide +kernel) (pa_cons pe_int (pa_cons (pe_op op_sub (pe_callB (kCa (r := rLenA) (K := K) call_len_seq rfl) (by rfl) n_len (by decide +kernel) (pa_cons (pv 1) pa_nil)) pe_int) pa_nil))) pa_nil))))))))
      (pss_cons (ps_ret (kPe (r := fun K => tSrtSet K _) (K := K) (pe_srtSet (by rfl) n_sorted (by rfl) n_set (pe_lc (own := [("place", 5)]) (g := gName 5) rfl nd (kPi (r := fun K => iList K _) (K := K) (pi_list (pv 3)) rfl) (blkOk_by (own := [("place", 5)]) (N := N_m_law_some_cuts) (sc := (defScope sm_law_some_cuts)) (by decide +kernel)) (fun _ _ _ _ _ => (pg_name (i := 5) nd rfl (by first | exact Or.inl rfl | exact Or.inr rfl))) (fun _ _ _ _ _ => pts_one (pt_cmpR op_lt (pv 5) (pe_callB (kCa (r := rLenA) (K := K) call_len_seq rfl) (by rfl) n_len (by decide +kernel) (pa_cons (pv 1) pa_nil)) (nomark _))) (fun _ _ _ _ _ => (pv 5)))) rfl)) pss_nil)), ?_⟩
    rintro as m R ⟨l_left, v_left, v_rows, v_many, r_, w_left, h0, rfl, rfl, rfl⟩ F D rfl hk hfin hnx
    unfold m_law_some_cuts at h0
    show Wp _ _ _ [.rf l_left, .da ((dL (dP (dU dI) dI)) v_rows), .da (dI v_many), .un, .un, .un] [(l_left, .ls (List.map dI v_left))]
    obtain ⟨rg1, q2, h0⟩ := bindS h0
    obtain ⟨u7, q8, h0⟩ := bindS h0
    obtain ⟨⟨o10, c9⟩, q15, h0⟩ := bindS h0
    obtain ⟨u16, q17, h0⟩ := bindS h0
    obtain ⟨v_some18, q19, h0⟩ := bindS h0
    refine wp_asg (i := 3) (ev_eq (f := (dL dI)) (ev_op (show Ev _ _ _ _ (.da ((dL dI) ([(0 : Int)] : (List Int)))) _ from ev_lst (dl := [dI (0 : Int)]) (ea_cons (ev_int (i := 0)) ea_nil) (Nat.le_of_ble_eq_true rfl)) (lc_end (lc_mapS (f2 := dI) (fun (s_ : (List Int)) => [(l_left, .ls (List.map dI s_))]) (src_R1 (j := 4) (ea_cons (ev_op (ev_var (i := 2) rfl) (ev_int (i := 1)) rr_i) ea_nil) q2) rfl (by decide) (fun _ => (fun _ => True.intro)) q8 q15 (by rintro s11 v_k3 y_ s_ hx_ h_; obtain ⟨⟨t12, c13⟩, q14, h_⟩ := bindS h_; cases h_; exact (ev_op (ev_int (i := 1)) (ev_call1 0 (ea_cons (ev_rf (i := 0) rfl) (ea_cons (ev_cb (ea_cons (ev_int (i := 1)) (ea_cons (ev_op (ev_cb (ea_cons (ev_var (i := 1) rfl) ea_nil) (rc_lenL (f := (dP (dU dI) dI)))) (ev_int (i := 1)) rr_i) ea_nil)) rc_max2) ea_nil)) rfl ⟨_, ⟨_, _, _, _, _, q14, rfl, rfl, rfl⟩, fun _ _ h => h⟩) rr_i)))) (rr_cat q17)) (Option.some.inj q19)) ?_
    show Wp _ _ _ [.rf l_left, .da ((dL (dP (dU dI) dI)) v_rows), .da (dI v_many), .da ((dL dI) v_some18), .un, .un] [(l_left, .ls (List.map dI c9))]
    obtain ⟨u21, q22, h0⟩ := bindS h0
    obtain ⟨u23, q24, h0⟩ := bindS h0
    have z0_ := Option.some.inj h0
    obtain ⟨e0_, e1_⟩ := Prod.mk.inj z0_
    subst e0_
    subst e1_
    exact wp_retS (ev_srtSet (lc_end (lc_fil (f2 := dI) (test := (fun (v_place20 : Int) => (decide (v_place20 < (List.length v_rows : Int))))) (step := fun x => some ((fun (v_place20 : Int) => v_place20) x)) (src_L (f := dI) (j := 5) (ev_var (i := 3) rfl)) (by decide) (fun _ => True.intro) q22 (filO_pure _) (by rintro v_place20 hx_; exact (et_test (ev_op (ev_var (i := 5) rfl) (ev_cb (ea_cons (ev_var (i := 1) rfl) ea_nil) (rc_lenL (f := (dP (dU dI) dI)))) (rr_b (f := fun i j => decide (i < j)))))) (by rintro v_place20 y_ hx_ hb_ h_; cases h_; exact (ev_var (i := 5) rfl)))) q24) hfin ⟨rfl, rfl⟩ (List.Sublist.cons₂ _ (List.nil_sublist _))
end K88
set_option maxHeartbeats 2000000
namespace K88
open PySem PySem.Spec PyProof.Rows L2 Evl FC
theorem ok_m_law_beside {P : Program} {w : World} {K : PySem.W.Frag} {mg : Str → Option Value} {base : Heap} {f : Addr} {fd : FuncData} (FF : Fun K "_law_beside" "_law_beside" sm_law_beside f fd) (n_len : mg "len" = none) (n_range : mg "range" = none) (n_set : mg "set" = none) (n_sorted : mg "sorted" = none) : FnOk P w K mg base CX0 1 f fd ["begins", "length"] (spOf K (pf_m_law_beside)) := by
  refine ok_of (N := N_m_law_beside) FF sc_m_law_beside (fun as m R hG => ?_) (fun cdv A outer s H E hr => ?_)
  · obtain ⟨v_begins, v_length, r_, _, rfl, _⟩ := hG
    rfl
  · have nd : (N_m_law_beside : List Str).Nodup := sc_m_law_beside.nd
    refine ⟨_, (pss_cons (ps_set (i := 2) nd rfl (Or.inl rfl) (pe_lst pa_nil))
      (pss_cons (ps_for PassesOwn.never rfl (pi_range2 (by rfl) n_range (pa_cons pe_int (pa_cons (pe_callB (kCa (r := rLenA) (K := K) call_len_seq rfl) (by rfl) n_len (by decide +kernel) (pa_cons (pv 0) pa_nil)) pa_nil))) (pg_name (i := 3) nd rfl (by first | exact Or.inl rfl | exact Or.inr rfl))
      (pss_cons (ps_for PassesOwn.never rfl (kPi (r := fun K => iTup K _) (K := K) (pi_tup (pe_tup (pa_cons (pe_un un_neg pe_int) (pa_cons pe_int pa_nil)))) rfl) (pg_name (i := 4) nd rfl (by first | exact Or.inl rfl | exact Or.inr rfl))
      (pss_cons (ps_set (i := 5) nd rfl (Or.inl rfl) (pe_op op_cat (pe_op op_cat (pe_slice (kSl (r := rSlL) (K := K) sl_list rfl) (pv 0) po_none (po_some (pv 3))) (pe_lst (pa_cons (pe_op op_add (pe_ix (kIx (r := rIxL) (K := K) ix_list rfl) (pv 0) (pv 3) (fun _ _ => rfl)) (pv 4)) pa_nil))) (pe_slice (kSl (r := rSlL) (K := K) sl_list rfl) (pv 0) (po_some (pe_op op_add (pv 3) pe_int)) po_none)))
      (Evl.pss_cut (ps_if (PW.pt (pw_and (pt_cmpR (kOp (r := rEqP) (K := K) (op_eqP hr.units) rfl) (kPe (r := fun K => tSrtSet K _) (K := K) (pe_srtSet (by rfl) n_sorted (by rfl) n_set (pv 5)) rfl) (pv 5) (nomark _)) (pw_and1 (pt_cmpR op_lt (pe_ix (kIx (r := rIxL) (K := K) ix_list rfl) (pv 5) (pe_un un_neg pe_int) (fun _ _ => rfl)) (pv 1) (nomark _))))) (pss_cons (ps_expr (pe_bm PySem.F.plainAttrs_list PySem.F.slot_list_append PySem.F.type_list_append mt_append (pv 2) (pa_cons (pv 5) pa_nil)))
      pss_nil) pss_nil)
      pss_nil)))
      pss_nil))
      (pss_cons (ps_ret (pv 2)) pss_nil))), ?_⟩
    rintro as m R ⟨v_begins, v_length, r_, h0, rfl, rfl, rfl⟩ F D rfl hk hfin hnx
    unfold m_law_beside at h0
    show Wp _ _ _ [.da ((dL dI) v_begins), .da (dI v_length), .un, .un, .un, .un] []
    refine wp_asgN (i := 2) (show EvN _ _ _ _ (.ls (List.map (dL dI) ([] : (List (List Int))))) _ from en_lst (dl := []) ea_nil (Nat.le_of_ble_eq_true rfl)) (fun l_1 nk_l_1 => ?_) rfl
    show Wp _ _ _ [.da ((dL dI) v_begins), .da (dI v_length), .rf l_1, .un, .un, .un] [(l_1, .ls (List.map (dL dI) ([] : (List (List Int)))))]
    obtain ⟨rg2, q3, h0⟩ := bindS h0
    obtain ⟨c94, q95, h0⟩ := bindS h0
    refine wp_forF (fun (s_ : (List (List Int))) => [.da ((dL dI) v_begins), .da (dI v_length), .rf l_1, .un, .un, .un]) (fun (s_ : (List (List Int))) => [(l_1, .ls (List.map (dL dI) s_))]) (src_R2 (j := 3) (ea_cons (ev_int (i := 1)) (ea_cons (ev_cb (ea_cons (ev_var (i := 0) rfl) ea_nil) (rc_lenL (f := dI))) ea_nil)) q3) q95 (.cons .rfl (.cons .rfl (.cons .rfl (.cons .un (.cons .un (.cons .un Wks.nil)))))) rfl (fun _ => True.intro) ?_ ?_
    · rintro lo1 c5 v_at4 s_ hx1 h1 D1 he1 hn1 hct1
      show Wp _ _ _ [.da ((dL dI) v_begins), .da (dI v_length), .rf l_1, .da (dI v_at4), .un, .un] [(l_1, .ls (List.map (dL dI) c5))]
      obtain ⟨c92, q93, h1⟩ := bindS h1
      refine wp_forF (fun (s_ : (List (List Int))) => [.da ((dL dI) v_begins), .da (dI v_length), .rf l_1, .da (dI v_at4), .un, .un]) (fun (s_ : (List (List Int))) => [(l_1, .ls (List.map (dL dI) s_))]) (src_U (f := dI) (j := 4) (show Ev _ _ _ _ (.da (dU dI ([(-(1 : Int)), (1 : Int)] : (List Int)))) _ from ev_tup (dl := [dI (-(1 : Int)), dI (1 : Int)]) (ea_cons (ev_un (ev_int (i := 1)) ru_neg) (ea_cons (ev_int (i := 1)) ea_nil)) (Nat.le_of_ble_eq_true rfl))) q93 (.cons .rfl (.cons .rfl (.cons .rfl (.cons .rfl (.cons .un (.cons .un Wks.nil)))))) rfl (fun _ => True.intro) ?_ ?_
      · rintro lo2 c51 v_more50 s_ hx2 h2 D2 he2 hn2 hct2
        show Wp _ _ _ [.da ((dL dI) v_begins), .da (dI v_length), .rf l_1, .da (dI v_at4), .da (dI v_more50), .un] [(l_1, .ls (List.map (dL dI) c51))]
        obtain ⟨t72, q73, h2⟩ := bindS h2
        obtain ⟨u74, q75, h2⟩ := bindS h2
        obtain ⟨u76, q77, h2⟩ := bindS h2
        obtain ⟨v_other78, q79, h2⟩ := bindS h2
        refine wp_asg (i := 5) (ev_eq (f := (dL dI)) (ev_op (ev_op (ev_sl (ev_var (i := 0) rfl) eo_none (eo_some (ev_var (i := 3) rfl)) (rs_L (f := dI))) (show Ev _ _ _ _ (.da ((dL dI) ([(t72 + v_more50)] : (List Int)))) _ from ev_lst (dl := [dI (t72 + v_more50)]) (ea_cons (ev_op (ev_op (ev_var (i := 0) rfl) (ev_var (i := 3) rfl) (rr_ixL (f := dI) q73)) (ev_var (i := 4) rfl) rr_i) ea_nil) (Nat.le_of_ble_eq_true rfl)) (rr_cat q75)) (ev_sl (ev_var (i := 0) rfl) (eo_some (ev_op (ev_var (i := 3) rfl) (ev_int (i := 1)) rr_i)) eo_none (rs_L (f := dI))) (rr_cat q77)) (Option.some.inj q79)) ?_
        show Wp _ _ _ [.da ((dL dI) v_begins), .da (dI v_length), .rf l_1, .da (dI v_at4), .da (dI v_more50), .da ((dL dI) v_other78)] [(l_1, .ls (List.map (dL dI) c51))]
        obtain ⟨u80, q81, h2⟩ := bindS h2
        obtain ⟨b84, q85, h2⟩ := bindS h2
        obtain ⟨c88, q91, h2⟩ := bindS h2
        refine wp_cutIf (ds' := [.da ((dL dI) v_begins), .da (dI v_length), .rf l_1, .da (dI v_at4), .da (dI v_more50), .da ((dL dI) v_other78)]) (m' := [(l_1, .ls (List.map (dL dI) c88))]) ?_ (et_and (k2 := b84) (m' := [(l_1, .ls (List.map (dL dI) c51))]) (et_test (ev_op (ev_srtSet (ev_var (i := 5) rfl) q81) (ev_var (i := 5) rfl) (rr_eq (f := (dL dI)) (by decide)))) (fun e => by have h_ := condT e q85; obtain ⟨t82, q83, h_⟩ := bindS h_; cases h_; exact (et_test (ev_op (ev_op (ev_var (i := 5) rfl) (ev_un (ev_int (i := 1)) ru_neg) (rr_ixL (f := dI) q83)) (ev_var (i := 1) rfl) (rr_b (f := fun i j => decide (i < j)))))) (fun e => by have h_ := condF e q85; cases h_; exact ⟨rfl, rfl⟩)) (fun hc => ?_) (fun hc => ?_)
        · cases h2
          exact wp_next fun σ H a => hn2 σ H (at_weak (.cons .rfl (.cons .rfl (.cons .rfl (.cons .rfl (.cons .un (.cons .un Wks.nil)))))) a)
        · have h104 := condT hc q91
          obtain ⟨u89, q90, h104⟩ := bindS h104
          refine wp_expr (ev_bm (ev_rf (i := 2) rfl) (j := 0) rfl (ea_cons (ev_var (i := 5) rfl) ea_nil) (rm_app (f := (dL dI)) 0 rfl q90)) ?_
          show Wp _ _ _ [.da ((dL dI) v_begins), .da (dI v_length), .rf l_1, .da (dI v_at4), .da (dI v_more50), .da ((dL dI) v_other78)] [(l_1, .ls (List.map (dL dI) (c51 ++ [v_other78])))]
          cases h104
          exact wp_nextW (.cons .rfl (.cons .rfl (.cons .rfl (.cons .rfl (.cons .rfl (.cons .rfl Wks.nil)))))) rfl
        · have h104 := condF hc q91
          cases h104
          exact wp_nextW (.cons .rfl (.cons .rfl (.cons .rfl (.cons .rfl (.cons .rfl (.cons .rfl Wks.nil)))))) rfl
      · show Wp _ _ _ [.da ((dL dI) v_begins), .da (dI v_length), .rf l_1, .da (dI v_at4), .un, .un] [(l_1, .ls (List.map (dL dI) c92))]
        cases h1
        exact wp_next fun σ H a => hn1 σ H (at_weak (.cons .rfl (.cons .rfl (.cons .rfl (.cons .un (.cons .un (.cons .un Wks.nil)))))) a)
    · show Wp _ _ _ [.da ((dL dI) v_begins), .da (dI v_length), .rf l_1, .un, .un, .un] [(l_1, .ls (List.map (dL dI) c94))]
      refine wp_frz (i := 2) (j := 0) (l := l_1) rfl rfl nk_l_1 ?_
      show Wp _ _ _ [.da ((dL dI) v_begins), .da (dI v_length), .da ((dL (dL dI)) c94), .un, .un, .un] []
      have e0_ := Option.some.inj h0
      subst e0_
      exact wp_retS (ev_var (i := 2) rfl) hfin ⟨rfl, rfl⟩ (List.nil_sublist _)
end K88
set_option maxHeartbeats 2000000
namespace K88
open PySem PySem.Spec PyProof.Rows L2 Evl FC
theorem ok_m_law_many_right {P : Program} {w : World} {K : PySem.W.Frag} {mg : Str → Option Value} {base : Heap} {f : Addr} {fd : FuncData} (FF : Fun K "_law_many_right" "_law_many_right" sm_law_many_right f fd) {f_m_law_beside : Addr} {fd_m_law_beside : FuncData} (G_m_law_beside : FnOk P w K mg base CX0 1 f_m_law_beside fd_m_law_beside ["begins", "length"] (spOf K (pf_m_law_beside))) (g_m_law_beside : mg "_law_beside" = some (.ref f_m_law_beside)) (k_m_law_beside : PySem.W.keepIn K (.ref f_m_law_beside) = true) (b_m_law_beside : Binds K fd_m_law_beside ["begins", "length"] []) {f_m_law_less : Addr} {fd_m_law_less : FuncData} (G_m_law_less : FnOk P w K mg base CX0 1 f_m_law_less fd_m_law_less ["one", "other"] (spOf K (pf_m_law_less))) (g_m_law_less : mg "_law_less" = some (.ref f_m_law_less)) (k_m_law_less : PySem.W.keepIn K (.ref f_m_law_less) = true) (b_m_law_less : Binds K fd_m_law_less ["one", "other"] []) {f_m_law_some_cuts : Addr} {fd_m_law_some_cuts : FuncData} (G_m_law_some_cuts : FnOk P w K mg base CX0 3 f_m_law_some_cuts fd_m_law_some_cuts ["left", "rows", "many"] (spOf K (pf_m_law_some_cuts))) (g_m_law_some_cuts : mg "_law_some_cuts" = some (.ref f_m_law_some_cuts)) (k_m_law_some_cuts : PySem.W.keepIn K (.ref f_m_law_some_cuts) = true) (b_m_law_some_cuts : Binds K fd_m_law_some_cuts ["left", "rows", "many"] []) {f_m_law_stretches : Addr} {fd_m_law_stretches : FuncData} (G_m_law_stretches : FnOk P w K mg base CX0 1 f_m_law_stretches fd_m_law_stretches ["rows", "begins"] (spOf K (pf_m_law_stretches))) (g_m_law_stretches : mg "_law_stretches" = some (.ref f_m_law_stretches)) (k_m_law_stretches : PySem.W.keepIn K (.ref f_m_law_stretches) = true) (b_m_law_stretches : Binds K fd_m_law_stretches ["rows", "begins"] []) {f_m_best_on_line : Addr} {fd_m_best_on_line : FuncData} (G_m_best_on_line : FnOk P w K mg base CX0 5 f_m_best_on_line fd_m_best_on_line ["rows", "many"] (spOf K (pf_m_best_on_line))) (g_m_best_on_line : mg "best_on_line" = some (.ref f_m_best_on_line)) (k_m_best_on_line : PySem.W.keepIn K (.ref f_m_best_on_line) = true) (b_m_best_on_line : Binds K fd_m_best_on_line ["rows", "many"] []) {f_m_is_resting : Addr} {fd_m_is_resting : FuncData} (G_m_is_resting : FnOk P w K mg base CX0 8 f_m_is_resting fd_m_is_resting ["rows", "middles"] (spOf K (pf_m_is_resting))) (g_m_is_resting : mg "is_resting" = some (.ref f_m_is_resting)) (k_m_is_resting : PySem.W.keepIn K (.ref f_m_is_resting) = true) (b_m_is_resting : Binds K fd_m_is_resting ["rows", "middles"] []) {f_m_middle_of : Addr} {fd_m_middle_of : FuncData} (G_m_middle_of : FnOk P w K mg base CX0 3 f_m_middle_of fd_m_middle_of ["rows"] (spOf K (pf_m_middle_of))) (g_m_middle_of : mg "middle_of" = some (.ref f_m_middle_of)) (k_m_middle_of : PySem.W.keepIn K (.ref f_m_middle_of) = true) (b_m_middle_of : Binds K fd_m_middle_of ["rows"] []) {f_m_shared_out : Addr} {fd_m_shared_out : FuncData} (G_m_shared_out : FnOk P w K mg base CX0 6 f_m_shared_out fd_m_shared_out ["rows", "middles"] (spOf K (pf_m_shared_out))) (g_m_shared_out : mg "shared_out" = some (.ref f_m_shared_out)) (k_m_shared_out : PySem.W.keepIn K (.ref f_m_shared_out) = true) (b_m_shared_out : Binds K fd_m_shared_out ["rows", "middles"] []) {f_m_total_of : Addr} {fd_m_total_of : FuncData} (G_m_total_of : FnOk P w K mg base CX0 5 f_m_total_of fd_m_total_of ["groups"] (spOf K (pf_m_total_of))) (g_m_total_of : mg "total_of" = some (.ref f_m_total_of)) (k_m_total_of : PySem.W.keepIn K (.ref f_m_total_of) = true) (b_m_total_of : Binds K fd_m_total_of ["groups"] []) (n_any : mg "any" = none) (n_len : mg "len" = none) (n_min : mg "min" = none) (n_range : mg "range" = none) : FnOk P w K mg base CX0 9 f fd ["left", "rows", "many"] (spOf K (pf_m_law_many_right)) := by
  refine ok_of (N := N_m_law_many_right) FF sc_m_law_many_right (fun as m R hG => ?_) (fun cdv A outer s H E hr => ?_)
  · obtain ⟨l_left, v_left, v_rows, v_many, r_, w_left, _, rfl, _⟩ := hG
    rfl
  · have nd : (N_m_law_many_right : List Str).Nodup := sc_m_law_many_right.nd
    refine ⟨_, (pss_cons (ps_asg (pe_call G_m_best_on_line (hr.mono (by decide)) (by rfl) g_m_best_on_line k_m_best_on_line b_m_best_on_line .nil pass0 (pa_cons (pv 1) (pa_cons (pv 2) pa_nil))) (pg_tup rfl (pgs_cons (pg_name (i := 3) nd rfl (Or.inr rfl)) (pgs_cons (pg_name (i := 4) nd rfl (Or.inl rfl)) pgs_nil))))
      (pss_cons (ps_set (i := 5) nd rfl (Or.inl rfl) (pe_call G_m_law_stretches (hr.mono (by decide)) (by rfl) g_m_law_stretches k_m_law_stretches b_m_law_stretches .nil pass0 (pa_cons (pv 1) (pa_cons (pv 4) pa_nil))))
      (pss_cons (ps_if (PW.pt (pw_or (pt_cmpR op_ne (pe_ix (kIx (r := rIxL) (K := K) ix_list rfl) (pv 4) pe_int (fun _ _ => rfl)) pe_int (nomark _)) (pw_or (pt_cmpR (kOp (r := rNeP) (K := K) (op_neP hr.units) rfl) (pe_call G_m_total_of (hr.mono (by decide)) (by rfl) g_m_total_of k_m_total_of b_m_total_of .nil pass0 (pa_cons (pv 5) pa_nil)) (pv 3) (nomark _)) (pw_or1 (pt_cmpR op_ne (pe_callB (kCa (r := rLenA) (K := K) call_len_seq rfl) (by rfl) n_len (by decide +kernel) (pa_cons (pv 5) pa_nil)) (pe_callB (call_min2 rfl) (by rfl) n_min (by decide +kernel) (pa_cons (pv 2) (pa_cons (pe_callB (kCa (r := rLenA) (K := K) call_len_seq rfl) (by rfl) n_len (by decide +kernel) (pa_cons (pv 1) pa_nil)) pa_nil))) (nomark _)))))) (pss_cons (ps_ret pe_bl) pss_nil) pss_nil)
      (pss_cons (ps_set (i := 6) nd rfl (Or.inl rfl) (pe_op op_cat (pe_call G_m_law_beside (hr.mono (by decide)) (by rfl) g_m_law_beside k_m_law_beside b_m_law_beside .nil pass0 (pa_cons (pv 4) (pa_cons (pe_callB (kCa (r := rLenA) (K := K) call_len_seq rfl) (by rfl) n_len (by decide +kernel) (pa_cons (pv 1) pa_nil)) pa_nil))) (pe_lc (own := [("turn", 9)]) (g := gName 9) (tt := tYes) rfl nd (pi_range1 (by rfl) n_range (pa_cons pe_int pa_nil)) (blkOk_by (own := [("turn", 9)]) (N := N_m_law_many_right) (sc := (defScope sm_law_many_right)) (by decide +kernel)) (fun _ _ _ _ _ => (pg_name (i := 9) nd rfl (by first | exact Or.inl rfl | exact Or.inr rfl))) (fun _ _ _ _ _ => pts_nil) (fun _ _ _ _ _ => (pe_call G_m_law_some_cuts (hr.mono (by decide)) (by rfl) g_m_law_some_cuts k_m_law_some_cuts b_m_law_some_cuts .nil pass0 (pa_cons (pv 0) (pa_cons (pv 1) (pa_cons (pv 2) pa_nil))))))))
      (pss_cons (ps_if (pt_val (pe_callB (kCa (r := rAny) (K := K) (cr_any rfl) rfl) (by rfl) n_any (by decide +kernel) (pa_cons (pe_lc (own := [("some", 10)]) (g := gName 10) (tt := tYes) rfl nd (kPi (r := fun K => iList K _) (K := K) (pi_list (pv 6)) rfl) (blkOk_by (own := [("some", 10)]) (N := N_m_law_many_right) (sc := (defScope sm_law_many_right)) (by decide +kernel)) (fun _ _ _ _ _ => (pg_name (i := 10) nd rfl (by first | exact Or.inl rfl | exact Or.inr rfl))) (fun _ _ _ _ _ => pts_nil) (fun _ _ _ _ _ => (pe_call G_m_law_less (hr.mono (by decide)) (by rfl) g_m_law_less k_m_law_less b_m_law_less .nil pass0 (pa_cons (pe_call G_m_total_of (hr.mono (by decide)) (by rfl) g_m_total_of k_m_total_of b_m_total_of .nil pass0 (pa_cons (pe_call G_m_law_stretches (hr.mono (by decide)) (by rfl) g_m_law_stretches k_m_law_stretches b_m_law_stretches .nil pass0 (pa_cons (pv 1) (pa_cons (pv 10) pa_nil))) pa_nil)) (pa_cons (pv 3) pa_nil))))) pa_nil))) (pss_cons (ps_ret pe_bl) pss_nil) pss_nil)
      (pss_cons (ps_setLc (i := 7) (own := [("group", 8)]) (g := gName 8) (tt := tYes) rfl nd rfl rfl (sw_true rfl rfl rfl (by decide +kernel)) (kPi (r := fun K => iList K _) (K := K) (pi_list (pv 5)) rfl) (blkOk_by (own := [("group", 8)]) (N := N_m_law_many_right) (sc := (defScope sm_law_many_right)) (by decide +kernel)) (fun _ _ _ _ _ => (pg_name (i := 8) nd rfl (by first | exact Or.inl rfl | exact Or.inr rfl))) (fun _ _ _ _ _ => pts_nil) (fun _ _ _ _ _ => (pe_call G_m_middle_of (hr.mono (by decide)) (by rfl) g_m_middle_of k_m_middle_of b_m_middle_of .nil pass0 (pa_cons (pv 8) pa_nil))))
      (pss_cons (ps_ret (pe_and (pe_cmpR op_is_bl (pe_call G_m_is_resting (hr.mono (by decide)) (by rfl) g_m_is_resting k_m_is_resting b_m_is_resting .nil pass0 (pa_cons (pv 1) (pa_cons (pv 7) pa_nil))) pe_bl (nomark _)) (pe_one (pe_cmpR (kOp (r := rEqP) (K := K) (op_eqP hr.units) rfl) (pe_call G_m_shared_out (hr.mono (by decide)) (by rfl) g_m_shared_out k_m_shared_out b_m_shared_out .nil pass0 (pa_cons (pv 1) (pa_cons (pv 7) pa_nil))) (pv 5) (nomark _))))) pss_nil))))))), ?_⟩
    rintro as m R ⟨l_left, v_left, v_rows, v_many, r_, w_left, h0, rfl, rfl, rfl⟩ F D rfl hk hfin hnx
    unfold m_law_many_right at h0
    show Wp _ _ _ [.rf l_left, .da ((dL (dP (dU dI) dI)) v_rows), .da (dI v_many), .un, .un, .un, .un, .un, .un, .un, .un] [(l_left, .ls (List.map dI v_left))]
    obtain ⟨t1, q2, h0⟩ := bindS h0
    refine wp_unp2 (f := (dP dI dI)) (g := (dL dI)) (i := 3) (j := 4) (ev_call (ea_cons (ev_var (i := 1) rfl) (ea_cons (ev_var (i := 2) rfl) ea_nil)) ⟨_, ⟨_, _, _, q2, rfl, rfl, rfl⟩, fun _ _ h => h⟩) ?_
    show Wp _ _ _ [.rf l_left, .da ((dL (dP (dU dI) dI)) v_rows), .da (dI v_many), .da ((dP dI dI) (t1).1), .da ((dL dI) (t1).2), .un, .un, .un, .un, .un, .un] [(l_left, .ls (List.map dI v_left))]
    obtain ⟨t3, q4, h0⟩ := bindS h0
    refine wp_asg (i := 5) (ev_call (ea_cons (ev_var (i := 1) rfl) (ea_cons (ev_var (i := 4) rfl) ea_nil)) ⟨_, ⟨_, _, _, q4, rfl, rfl, rfl⟩, fun _ _ h => h⟩) ?_
    show Wp _ _ _ [.rf l_left, .da ((dL (dP (dU dI) dI)) v_rows), .da (dI v_many), .da ((dP dI dI) (t1).1), .da ((dL dI) (t1).2), .da ((dL (dL (dP (dU dI) dI))) t3), .un, .un, .un, .un, .un] [(l_left, .ls (List.map dI v_left))]
    obtain ⟨t5, q6, h0⟩ := bindS h0
    obtain ⟨b9, q10, h0⟩ := bindS h0
    refine wp_if (et_or (k2 := b9) (m' := [(l_left, .ls (List.map dI v_left))]) (et_test (ev_op (ev_op (ev_var (i := 4) rfl) (ev_int (i := 0)) (rr_ixL (f := dI) q6)) (ev_int (i := 0)) rr_neI)) (fun e => by have h_ := condF e q10; obtain ⟨t7, q8, h_⟩ := bindS h_; cases h_; exact (et_orP (et_test (ev_op (ev_call (ea_cons (ev_var (i := 5) rfl) ea_nil) ⟨_, ⟨_, _, q8, rfl, rfl, rfl⟩, fun _ _ h => h⟩) (ev_var (i := 3) rfl) (rr_ne (f := (dP dI dI)) (by decide)))) (et_test (ev_op (ev_cb (ea_cons (ev_var (i := 5) rfl) ea_nil) (rc_lenL (f := (dL (dP (dU dI) dI))))) (ev_cb (ea_cons (ev_var (i := 2) rfl) (ea_cons (ev_cb (ea_cons (ev_var (i := 1) rfl) ea_nil) (rc_lenL (f := (dP (dU dI) dI)))) ea_nil)) rc_min2) rr_neI)))) (fun e => by have h_ := condT e q10; cases h_; exact ⟨rfl, rfl⟩)) (fun hc => ?_) (fun hc => ?_)
    · have h0 := condT hc h0
      have z0_ := Option.some.inj h0
      obtain ⟨e0_, e1_⟩ := Prod.mk.inj z0_
      subst e0_
      subst e1_
      exact wp_retS ev_bl hfin ⟨rfl, rfl⟩ (List.Sublist.cons₂ _ (List.nil_sublist _))
    · have h0 := condF hc h0
      refine wp_next ?_
      obtain ⟨t11, q12, h0⟩ := bindS h0
      obtain ⟨rg13, q14, h0⟩ := bindS h0
      obtain ⟨u19, q20, h0⟩ := bindS h0
      obtain ⟨⟨o22, c21⟩, q27, h0⟩ := bindS h0
      obtain ⟨u28, q29, h0⟩ := bindS h0
      obtain ⟨v_others30, q31, h0⟩ := bindS h0
      refine wp_asg (i := 6) (ev_eq (f := (dL (dL dI))) (ev_op (ev_call (ea_cons (ev_var (i := 4) rfl) (ea_cons (ev_cb (ea_cons (ev_var (i := 1) rfl) ea_nil) (rc_lenL (f := (dP (dU dI) dI)))) ea_nil)) ⟨_, ⟨_, _, _, q12, rfl, rfl, rfl⟩, fun _ _ h => h⟩) (lc_end (lc_mapS (f2 := (dL dI)) (fun (s_ : (List Int)) => [(l_left, .ls (List.map dI s_))]) (src_R1 (j := 9) (ea_cons (ev_int (i := 4)) ea_nil) q14) rfl (by decide) (fun _ => (fun _ => True.intro)) q20 q27 (by rintro s23 v_turn15 y_ s_ hx_ h_; obtain ⟨⟨t24, c25⟩, q26, h_⟩ := bindS h_; cases h_; exact (ev_call1 0 (ea_cons (ev_rf (i := 0) rfl) (ea_cons (ev_var (i := 1) rfl) (ea_cons (ev_var (i := 2) rfl) ea_nil))) rfl ⟨_, ⟨_, _, _, _, _, _, q26, rfl, rfl, rfl⟩, fun _ _ h => h⟩)))) (rr_cat q29)) (Option.some.inj q31)) ?_
      show Wp _ _ _ [.rf l_left, .da ((dL (dP (dU dI) dI)) v_rows), .da (dI v_many), .da ((dP dI dI) (t1).1), .da ((dL dI) (t1).2), .da ((dL (dL (dP (dU dI) dI))) t3), .da ((dL (dL dI)) v_others30), .un, .un, .un, .un] [(l_left, .ls (List.map dI c21))]
      obtain ⟨u39, q40, h0⟩ := bindS h0
      obtain ⟨o41, q42, h0⟩ := bindS h0
      refine wp_if (et_val (ev_cb (ea_cons (lc_end (lc_map (f2 := dB) (src_L (f := (dL dI)) (j := 10) (ev_var (i := 6) rfl)) (by decide) (fun _ => True.intro) q40 q42 (by rintro v_some32 y_ hx_ h_; obtain ⟨t33, q34, h_⟩ := bindS h_; obtain ⟨t35, q36, h_⟩ := bindS h_; obtain ⟨t37, q38, h_⟩ := bindS h_; cases h_; exact (ev_call (ea_cons (ev_call (ea_cons (ev_call (ea_cons (ev_var (i := 1) rfl) (ea_cons (ev_var (i := 10) rfl) ea_nil)) ⟨_, ⟨_, _, _, q34, rfl, rfl, rfl⟩, fun _ _ h => h⟩) ea_nil) ⟨_, ⟨_, _, q36, rfl, rfl, rfl⟩, fun _ _ h => h⟩) (ea_cons (ev_var (i := 3) rfl) ea_nil)) ⟨_, ⟨_, _, _, q38, rfl, rfl, rfl⟩, fun _ _ h => h⟩)))) ea_nil) rc_any)) (fun hc => ?_) (fun hc => ?_)
      · have h0 := condT hc h0
        have z0_ := Option.some.inj h0
        obtain ⟨e0_, e1_⟩ := Prod.mk.inj z0_
        subst e0_
        subst e1_
        exact wp_retS ev_bl hfin ⟨rfl, rfl⟩ (List.Sublist.cons₂ _ (List.nil_sublist _))
      · have h0 := condF hc h0
        refine wp_next ?_
        obtain ⟨u46, q47, h0⟩ := bindS h0
        obtain ⟨o48, q49, h0⟩ := bindS h0
        refine wp_asg (i := 7) (lc_end (lc_map (f2 := (dU (dP dI dI))) (src_L (f := (dL (dP (dU dI) dI))) (j := 8) (ev_var (i := 5) rfl)) (by decide) (fun _ => True.intro) q47 q49 (by rintro v_group43 y_ hx_ h_; obtain ⟨t44, q45, h_⟩ := bindS h_; cases h_; exact (ev_call (ea_cons (ev_var (i := 8) rfl) ea_nil) ⟨_, ⟨_, _, q45, rfl, rfl, rfl⟩, fun _ _ h => h⟩)))) ?_
        show Wp _ _ _ [.rf l_left, .da ((dL (dP (dU dI) dI)) v_rows), .da (dI v_many), .da ((dP dI dI) (t1).1), .da ((dL dI) (t1).2), .da ((dL (dL (dP (dU dI) dI))) t3), .da ((dL (dL dI)) v_others30), .da ((dL (dU (dP dI dI))) o48), .un, .un, .un] [(l_left, .ls (List.map dI c21))]
        obtain ⟨t50, q51, h0⟩ := bindS h0
        obtain ⟨b54, q55, h0⟩ := bindS h0
        have z0_ := Option.some.inj h0
        obtain ⟨e0_, e1_⟩ := Prod.mk.inj z0_
        subst e0_
        subst e1_
        exact wp_retS (ev_andV (k2 := b54) (m' := [(l_left, .ls (List.map dI c21))]) (ev_op (ev_call (ea_cons (ev_var (i := 1) rfl) (ea_cons (ev_var (i := 7) rfl) ea_nil)) ⟨_, ⟨_, _, _, q51, rfl, rfl, rfl⟩, fun _ _ h => h⟩) ev_bl rr_isB) (fun e => by have h_ := condT e q55; obtain ⟨t52, q53, h_⟩ := bindS h_; cases h_; exact (ev_op (ev_call (ea_cons (ev_var (i := 1) rfl) (ea_cons (ev_var (i := 7) rfl) ea_nil)) ⟨_, ⟨_, _, _, q53, rfl, rfl, rfl⟩, fun _ _ h => h⟩) (ev_var (i := 5) rfl) (rr_eq (f := (dL (dL (dP (dU dI) dI)))) (by decide)))) (fun e => by have h_ := condF e q55; cases h_; exact ⟨rfl, rfl⟩)) hfin ⟨rfl, rfl⟩ (List.Sublist.cons₂ _ (List.nil_sublist _))
end K88
set_option maxHeartbeats 2000000
namespace K88
open PySem PySem.Spec PyProof.Rows L2 Evl FC
theorem ok_m_law_few_right {P : Program} {w : World} {K : PySem.W.Frag} {mg : Str → Option Value} {base : Heap} {f : Addr} {fd : FuncData} (FF : Fun K "_law_few_right" "_law_few_right" sm_law_few_right f fd) {f_m_law_pick : Addr} {fd_m_law_pick : FuncData} (G_m_law_pick : FnOk P w K mg base CX0 2 f_m_law_pick fd_m_law_pick ["left", "many"] (spOf K (pf_m_law_pick))) (g_m_law_pick : mg "_law_pick" = some (.ref f_m_law_pick)) (k_m_law_pick : PySem.W.keepIn K (.ref f_m_law_pick) = true) (b_m_law_pick : Binds K fd_m_law_pick ["left", "many"] []) {f_m_law_stretches : Addr} {fd_m_law_stretches : FuncData} (G_m_law_stretches : FnOk P w K mg base CX0 1 f_m_law_stretches fd_m_law_stretches ["rows", "begins"] (spOf K (pf_m_law_stretches))) (g_m_law_stretches : mg "_law_stretches" = some (.ref f_m_law_stretches)) (k_m_law_stretches : PySem.W.keepIn K (.ref f_m_law_stretches) = true) (b_m_law_stretches : Binds K fd_m_law_stretches ["rows", "begins"] []) {f_m_best_groups : Addr} {fd_m_best_groups : FuncData} (G_m_best_groups : FnOk P w K mg base CX0 18 f_m_best_groups fd_m_best_groups ["rows", "many"] (spOf K (pf_m_best_groups))) (g_m_best_groups : mg "best_groups" = some (.ref f_m_best_groups)) (k_m_best_groups : PySem.W.keepIn K (.ref f_m_best_groups) = true) (b_m_best_groups : Binds K fd_m_best_groups ["rows", "many"] []) {f_m_best_on_line : Addr} {fd_m_best_on_line : FuncData} (G_m_best_on_line : FnOk P w K mg base CX0 5 f_m_best_on_line fd_m_best_on_line ["rows", "many"] (spOf K (pf_m_best_on_line))) (g_m_best_on_line : mg "best_on_line" = some (.ref f_m_best_on_line)) (k_m_best_on_line : PySem.W.keepIn K (.ref f_m_best_on_line) = true) (b_m_best_on_line : Binds K fd_m_best_on_line ["rows", "many"] []) (n_range : mg "range" = none) (n_tuple : mg "tuple" = none) : FnOk P w K mg base CX0 19 f fd ["left", "rows", "many"] (spOf K (pf_m_law_few_right)) := by
  refine ok_of (N := N_m_law_few_right) FF sc_m_law_few_right (fun as m R hG => ?_) (fun cdv A outer s H E hr => ?_)
  · obtain ⟨l_left, v_left, v_rows, v_many, r_, w_left, _, rfl, _⟩ := hG
    rfl
  · have nd : (N_m_law_few_right : List Str).Nodup := sc_m_law_few_right.nd
    refine ⟨_, (pss_cons (ps_asg (pe_call G_m_best_on_line (hr.mono (by decide)) (by rfl) g_m_best_on_line k_m_best_on_line b_m_best_on_line .nil pass0 (pa_cons (pv 1) (pa_cons (pv 2) pa_nil))) (pg_tup rfl (pgs_cons (pg_name (i := 3) nd rfl (Or.inl rfl)) (pgs_cons (pg_name (i := 4) nd rfl (Or.inl rfl)) pgs_nil))))
      (pss_cons (ps_if (pt_cmpR (kOp (r := rNeP) (K := K) (op_neP hr.units) rfl) (pe_call G_m_best_groups (hr.mono (by decide)) (by rfl) g_m_best_groups k_m_best_groups b_m_best_groups .nil pass0 (pa_cons (pv 1) (pa_cons (pv 2) pa_nil))) (pe_tup (pa_cons (pv 3) (pa_cons (pe_call G_m_law_stretches (hr.mono (by decide)) (by rfl) g_m_law_stretches k_m_law_stretches b_m_law_stretches .nil pass0 (pa_cons (pv 1) (pa_cons (pv 4) pa_nil))) pa_nil))) (nomark _)) (pss_cons (ps_ret pe_bl) pss_nil) pss_nil)
      (pss_cons (ps_set (i := 5) nd rfl (Or.inl rfl) (pe_call G_m_law_pick (hr.mono (by decide)) (by rfl) g_m_law_pick k_m_law_pick b_m_law_pick .nil pass0 (pa_cons (pv 0) (pa_cons pe_int pa_nil))))
      (pss_cons (ps_set (i := 6) nd rfl (Or.inr rfl) (pe_callTy (kCa (r := rTupOf) (K := K) call_tuple_of rfl) (by rfl) n_tuple (by decide +kernel) (pa_cons (pe_lc (own := [("place", 11)]) (g := gName 11) (tt := tYes) rfl nd (pi_range1 (by rfl) n_range (pa_cons (pv 5) pa_nil)) (blkOk_by (own := [("place", 11)]) (N := N_m_law_few_right) (sc := (defScope sm_law_few_right)) (by decide +kernel)) (fun _ _ _ _ _ => (pg_name (i := 11) nd rfl (by first | exact Or.inl rfl | exact Or.inr rfl))) (fun _ _ _ _ _ => pts_nil) (fun _ _ _ _ _ => (pe_call G_m_law_pick (hr.mono (by decide)) (by rfl) g_m_law_pick k_m_law_pick b_m_law_pick .nil pass0 (pa_cons (pv 0) (pa_cons pe_int pa_nil))))) pa_nil)))
      (pss_cons (ps_set (i := 7) nd rfl (Or.inr rfl) (pe_callTy (kCa (r := rTupOf) (K := K) call_tuple_of rfl) (by rfl) n_tuple (by decide +kernel) (pa_cons (pe_lc (own := [("place", 11)]) (g := gName 11) (tt := tYes) rfl nd (pi_range1 (by rfl) n_range (pa_cons (pe_op op_sub pe_int (pv 5)) pa_nil)) (blkOk_by (own := [("place", 11)]) (N := N_m_law_few_right) (sc := (defScope sm_law_few_right)) (by decide +kernel)) (fun _ _ _ _ _ => (pg_name (i := 11) nd rfl (by first | exact Or.inl rfl | exact Or.inr rfl))) (fun _ _ _ _ _ => pts_nil) (fun _ _ _ _ _ => (pe_call G_m_law_pick (hr.mono (by decide)) (by rfl) g_m_law_pick k_m_law_pick b_m_law_pick .nil pass0 (pa_cons (pv 0) (pa_cons pe_int pa_nil))))) pa_nil)))
      (pss_cons (ps_setLc (i := 8) (own := [("colour", 9), ("count", 10)]) (g := gTup K 2 (gCons (gName 9) (gCons (gName 10) gNil))) (tt := tYes) rfl nd rfl rfl (sw_true rfl rfl rfl (by decide +kernel)) (kPi (r := fun K => iList K _) (K := K) (pi_list (pv 1)) rfl) (blkOk_by (own := [("colour", 9), ("count", 10)]) (N := N_m_law_few_right) (sc := (defScope sm_law_few_right)) (by decide +kernel)) (fun _ _ _ _ _ => (pg_tup rfl (pgs_cons (pg_name (i := 9) nd rfl (by first | exact Or.inl rfl | exact Or.inr rfl)) (pgs_cons (pg_name (i := 10) nd rfl (by first | exact Or.inl rfl | exact Or.inr rfl)) pgs_nil)))) (fun _ _ _ _ _ => pts_nil) (fun _ _ _ _ _ => (pe_tup (pa_cons (pe_op (kOp (r := fun K => rCatA K) (K := K) op_catA rfl) (pe_op (kOp (r := fun K => rCatA K) (K := K) op_catA rfl) (pv 6) (pv 9)) (pv 7)) (pa_cons (pv 10) pa_nil)))))
      (pss_cons (ps_ret (pe_cmpR (kOp (r := rEqP) (K := K) (op_eqP hr.units) rfl) (pe_ix (kIx (r := rIxT) (K := K) ix_tup rfl) (pe_call G_m_best_groups (hr.mono (by decide)) (by rfl) g_m_best_groups k_m_best_groups b_m_best_groups .nil pass0 (pa_cons (pv 8) (pa_cons (pv 2) pa_nil))) pe_int (fun _ _ => rfl)) (pv 3) (nomark _))) pss_nil))))))), ?_⟩
    rintro as m R ⟨l_left, v_left, v_rows, v_many, r_, w_left, h0, rfl, rfl, rfl⟩ F D rfl hk hfin hnx
    unfold m_law_few_right at h0
    show Wp _ _ _ [.rf l_left, .da ((dL (dP (dU dI) dI)) v_rows), .da (dI v_many), .un, .un, .un, .un, .un, .un, .un, .un, .un] [(l_left, .ls (List.map dI v_left))]
    obtain ⟨t1, q2, h0⟩ := bindS h0
    refine wp_unp2 (f := (dP dI dI)) (g := (dL dI)) (i := 3) (j := 4) (ev_call (ea_cons (ev_var (i := 1) rfl) (ea_cons (ev_var (i := 2) rfl) ea_nil)) ⟨_, ⟨_, _, _, q2, rfl, rfl, rfl⟩, fun _ _ h => h⟩) ?_
    show Wp _ _ _ [.rf l_left, .da ((dL (dP (dU dI) dI)) v_rows), .da (dI v_many), .da ((dP dI dI) (t1).1), .da ((dL dI) (t1).2), .un, .un, .un, .un, .un, .un, .un] [(l_left, .ls (List.map dI v_left))]
    obtain ⟨t3, q4, h0⟩ := bindS h0
    obtain ⟨t5, q6, h0⟩ := bindS h0
    refine wp_if (et_test (ev_op (ev_call (ea_cons (ev_var (i := 1) rfl) (ea_cons (ev_var (i := 2) rfl) ea_nil)) ⟨_, ⟨_, _, _, q4, rfl, rfl, rfl⟩, fun _ _ h => h⟩) (show Ev _ _ _ _ (.da ((dP (dP dI dI) (dL (dL (dP (dU dI) dI)))) ((t1).1, t5))) _ from ev_tup (dl := [(dP dI dI) (t1).1, (dL (dL (dP (dU dI) dI))) t5]) (ea_cons (ev_var (i := 3) rfl) (ea_cons (ev_call (ea_cons (ev_var (i := 1) rfl) (ea_cons (ev_var (i := 4) rfl) ea_nil)) ⟨_, ⟨_, _, _, q6, rfl, rfl, rfl⟩, fun _ _ h => h⟩) ea_nil)) (Nat.le_of_ble_eq_true rfl)) (rr_ne (f := (dP (dP dI dI) (dL (dL (dP (dU dI) dI))))) (by decide)))) (fun hc => ?_) (fun hc => ?_)
    · have h0 := condT hc h0
      have z0_ := Option.some.inj h0
      obtain ⟨e0_, e1_⟩ := Prod.mk.inj z0_
      subst e0_
      subst e1_
      exact wp_retS ev_bl hfin ⟨rfl, rfl⟩ (List.Sublist.cons₂ _ (List.nil_sublist _))
    · have h0 := condF hc h0
      refine wp_next ?_
      obtain ⟨⟨t7, c8⟩, q9, h0⟩ := bindS h0
      refine wp_asg (i := 5) (ev_call1 0 (ea_cons (ev_rf (i := 0) rfl) (ea_cons (ev_int (i := 3)) ea_nil)) rfl ⟨_, ⟨_, _, _, _, _, q9, rfl, rfl, rfl⟩, fun _ _ h => h⟩) ?_
      show Wp _ _ _ [.rf l_left, .da ((dL (dP (dU dI) dI)) v_rows), .da (dI v_many), .da ((dP dI dI) (t1).1), .da ((dL dI) (t1).2), .da (dI t7), .un, .un, .un, .un, .un, .un] [(l_left, .ls (List.map dI c8))]
      obtain ⟨rg10, q11, h0⟩ := bindS h0
      obtain ⟨u16, q17, h0⟩ := bindS h0
      obtain ⟨⟨o19, c18⟩, q24, h0⟩ := bindS h0
      refine wp_asg (i := 6) (ev_cb (ea_cons (lc_end (lc_mapS (f2 := dI) (fun (s_ : (List Int)) => [(l_left, .ls (List.map dI s_))]) (src_R1 (j := 11) (ea_cons (ev_var (i := 5) rfl) ea_nil) q11) rfl (by decide) (fun _ => (fun _ => True.intro)) q17 q24 (by rintro s20 v_place12 y_ s_ hx_ h_; obtain ⟨⟨t21, c22⟩, q23, h_⟩ := bindS h_; cases h_; exact (ev_call1 0 (ea_cons (ev_rf (i := 0) rfl) (ea_cons (ev_int (i := 1000)) ea_nil)) rfl ⟨_, ⟨_, _, _, _, _, q23, rfl, rfl, rfl⟩, fun _ _ h => h⟩)))) ea_nil) (rc_tupL (f := dI))) ?_
      show Wp _ _ _ [.rf l_left, .da ((dL (dP (dU dI) dI)) v_rows), .da (dI v_many), .da ((dP dI dI) (t1).1), .da ((dL dI) (t1).2), .da (dI t7), .da ((dU dI) o19), .un, .un, .un, .un, .un] [(l_left, .ls (List.map dI c18))]
      obtain ⟨rg25, q26, h0⟩ := bindS h0
      obtain ⟨u31, q32, h0⟩ := bindS h0
      obtain ⟨⟨o34, c33⟩, q39, h0⟩ := bindS h0
      refine wp_asg (i := 7) (ev_cb (ea_cons (lc_end (lc_mapS (f2 := dI) (fun (s_ : (List Int)) => [(l_left, .ls (List.map dI s_))]) (src_R1 (j := 11) (ea_cons (ev_op (ev_int (i := 2)) (ev_var (i := 5) rfl) rr_i) ea_nil) q26) rfl (by decide) (fun _ => (fun _ => True.intro)) q32 q39 (by rintro s35 v_place27 y_ s_ hx_ h_; obtain ⟨⟨t36, c37⟩, q38, h_⟩ := bindS h_; cases h_; exact (ev_call1 0 (ea_cons (ev_rf (i := 0) rfl) (ea_cons (ev_int (i := 1000)) ea_nil)) rfl ⟨_, ⟨_, _, _, _, _, q38, rfl, rfl, rfl⟩, fun _ _ h => h⟩)))) ea_nil) (rc_tupL (f := dI))) ?_
      show Wp _ _ _ [.rf l_left, .da ((dL (dP (dU dI) dI)) v_rows), .da (dI v_many), .da ((dP dI dI) (t1).1), .da ((dL dI) (t1).2), .da (dI t7), .da ((dU dI) o19), .da ((dU dI) o34), .un, .un, .un, .un] [(l_left, .ls (List.map dI c33))]
      obtain ⟨u45, q46, h0⟩ := bindS h0
      obtain ⟨o47, q48, h0⟩ := bindS h0
      refine wp_asg (i := 8) (lc_end (lc_map (f2 := (dP (dU dI) dI)) (src_LP (f := (dU dI)) (f2 := dI) (j := 9) (k := 10) (ev_var (i := 1) rfl)) (by decide) (fun _ => True.intro) q46 q48 (by rintro ⟨v_colour40, v_count40⟩ y_ hx_ h_; obtain ⟨u41, q42, h_⟩ := bindS h_; obtain ⟨u43, q44, h_⟩ := bindS h_; cases h_; exact (show Ev _ _ _ _ (.da ((dP (dU dI) dI) (((o19 ++ v_colour40) ++ o34), v_count40))) _ from ev_tup (dl := [(dU dI) ((o19 ++ v_colour40) ++ o34), dI v_count40]) (ea_cons (ev_op (ev_op (ev_var (i := 6) rfl) (ev_var (i := 9) rfl) (rr_catU (f := dI) q42)) (ev_var (i := 7) rfl) (rr_catU (f := dI) q44)) (ea_cons (ev_var (i := 10) rfl) ea_nil)) (Nat.le_of_ble_eq_true rfl))))) ?_
      show Wp _ _ _ [.rf l_left, .da ((dL (dP (dU dI) dI)) v_rows), .da (dI v_many), .da ((dP dI dI) (t1).1), .da ((dL dI) (t1).2), .da (dI t7), .da ((dU dI) o19), .da ((dU dI) o34), .da ((dL (dP (dU dI) dI)) o47), .un, .un, .un] [(l_left, .ls (List.map dI c33))]
      obtain ⟨t49, q50, h0⟩ := bindS h0
      have z0_ := Option.some.inj h0
      obtain ⟨e0_, e1_⟩ := Prod.mk.inj z0_
      subst e0_
      subst e1_
      exact wp_retS (ev_op (ev_op (ev_call (ea_cons (ev_var (i := 8) rfl) (ea_cons (ev_var (i := 2) rfl) ea_nil)) ⟨_, ⟨_, _, _, q50, rfl, rfl, rfl⟩, fun _ _ h => h⟩) (ev_int (i := 0)) (rr_ixT (dl := [(dP dI dI) (t49).1, (dL (dL (dP (dU dI) dI))) (t49).2]) rfl)) (ev_var (i := 3) rfl) (rr_eq (f := (dP dI dI)) (by decide))) hfin ⟨rfl, rfl⟩ (List.Sublist.cons₂ _ (List.nil_sublist _))
end K88
set_option maxHeartbeats 2000000
namespace K88
open PySem PySem.Spec PyProof.Rows L2 Evl FC
theorem ok_m_law {P : Program} {w : World} {K : PySem.W.Frag} {mg : Str → Option Value} {base : Heap} {f : Addr} {fd : FuncData} (FF : Fun K "law" "law" sm_law f fd) {f_m_law_few_right : Addr} {fd_m_law_few_right : FuncData} (G_m_law_few_right : FnOk P w K mg base CX0 19 f_m_law_few_right fd_m_law_few_right ["left", "rows", "many"] (spOf K (pf_m_law_few_right))) (g_m_law_few_right : mg "_law_few_right" = some (.ref f_m_law_few_right)) (k_m_law_few_right : PySem.W.keepIn K (.ref f_m_law_few_right) = true) (b_m_law_few_right : Binds K fd_m_law_few_right ["left", "rows", "many"] []) {f_m_law_left : Addr} {fd_m_law_left : FuncData} (G_m_law_left : FnOk P w K mg base CX0 1 f_m_law_left fd_m_law_left ["script", "k"] (spOf K (pf_m_law_left))) (g_m_law_left : mg "_law_left" = some (.ref f_m_law_left)) (k_m_law_left : PySem.W.keepIn K (.ref f_m_law_left) = true) (b_m_law_left : Binds K fd_m_law_left ["script", "k"] []) {f_m_law_line : Addr} {fd_m_law_line : FuncData} (G_m_law_line : FnOk P w K mg base CX0 3 f_m_law_line fd_m_law_line ["left", "many"] (spOf K (pf_m_law_line))) (g_m_law_line : mg "_law_line" = some (.ref f_m_law_line)) (k_m_law_line : PySem.W.keepIn K (.ref f_m_law_line) = true) (b_m_law_line : Binds K fd_m_law_line ["left", "many"] []) {f_m_law_many_right : Addr} {fd_m_law_many_right : FuncData} (G_m_law_many_right : FnOk P w K mg base CX0 9 f_m_law_many_right fd_m_law_many_right ["left", "rows", "many"] (spOf K (pf_m_law_many_right))) (g_m_law_many_right : mg "_law_many_right" = some (.ref f_m_law_many_right)) (k_m_law_many_right : PySem.W.keepIn K (.ref f_m_law_many_right) = true) (b_m_law_many_right : Binds K fd_m_law_many_right ["left", "rows", "many"] []) {f_m_law_pick : Addr} {fd_m_law_pick : FuncData} (G_m_law_pick : FnOk P w K mg base CX0 2 f_m_law_pick fd_m_law_pick ["left", "many"] (spOf K (pf_m_law_pick))) (g_m_law_pick : mg "_law_pick" = some (.ref f_m_law_pick)) (k_m_law_pick : PySem.W.keepIn K (.ref f_m_law_pick) = true) (b_m_law_pick : Binds K fd_m_law_pick ["left", "many"] []) (n_int : mg "int" = none) (n_len : mg "len" = none) (n_max : mg "max" = none) (n_min : mg "min" = none) (n_range : mg "range" = none) : FnOk P w K mg base CX0 20 f fd ["script"] (spOf K (pf_m_law)) := by
  refine ok_of (N := N_m_law) FF sc_m_law (fun as m R hG => ?_) (fun cdv A outer s H E hr => ?_)
  · obtain ⟨l_script, v_script, r_, _, rfl, _⟩ := hG
    rfl
  · have nd : (N_m_law : List Str).Nodup := sc_m_law.nd
    refine ⟨_, (pss_cons (ps_for PassesOwn.never rfl (pi_range1 (by rfl) n_range (pa_cons (pe_callB (call_max2 rfl) (by rfl) n_max (by decide +kernel) (pa_cons pe_int (pa_cons (pe_callB (call_min2 rfl) (by rfl) n_min (by decide +kernel) (pa_cons (pe_callB (kCa (r := rLenA) (K := K) call_len_seq rfl) (by rfl) n_len (by decide +kernel) (pa_cons (pv 0) pa_nil)) (pa_cons pe_int pa_nil))) pa_nil))) pa_nil)) (pg_name (i := 1) nd rfl (by first | exact Or.inl rfl | exact Or.inr rfl))
      (pss_cons (ps_set (i := 2) nd rfl (Or.inl rfl) (pe_call G_m_law_left (hr.mono (by decide)) (by rfl) g_m_law_left k_m_law_left b_m_law_left .nil pass0 (pa_cons (pv 0) (pa_cons (pv 1) pa_nil))))
      (pss_cons (ps_if (pt_not (pt_val (pe_call G_m_law_few_right (hr.mono (by decide)) (by rfl) g_m_law_few_right k_m_law_few_right b_m_law_few_right .nil pass0 (pa_cons (pv 2) (pa_cons (pe_call G_m_law_line (hr.mono (by decide)) (by rfl) g_m_law_line k_m_law_line b_m_law_line .nil pass0 (pa_cons (pv 2) (pa_cons (pe_op op_add pe_int (pe_call G_m_law_pick (hr.mono (by decide)) (by rfl) g_m_law_pick k_m_law_pick b_m_law_pick .nil pass0 (pa_cons (pv 2) (pa_cons pe_int pa_nil)))) pa_nil))) (pa_cons (pe_op op_add pe_int (pe_call G_m_law_pick (hr.mono (by decide)) (by rfl) g_m_law_pick k_m_law_pick b_m_law_pick .nil pass0 (pa_cons (pv 2) (pa_cons pe_int pa_nil)))) pa_nil)))))) (pss_cons (ps_ret pe_bl) pss_nil) pss_nil)
      (pss_cons (ps_set (i := 3) nd rfl (Or.inl rfl) (pe_call G_m_law_line (hr.mono (by decide)) (by rfl) g_m_law_line k_m_law_line b_m_law_line .nil pass0 (pa_cons (pv 2) (pa_cons (pe_op op_add pe_int (pe_call G_m_law_pick (hr.mono (by decide)) (by rfl) g_m_law_pick k_m_law_pick b_m_law_pick .nil pass0 (pa_cons (pv 2) (pa_cons (pe_ix (kIx (r := rIxL) (K := K) ix_list rfl) (pe_lst (pa_cons pe_int (pa_cons pe_int pa_nil))) (pe_callTy call_int1 (by rfl) n_int (by decide +kernel) (pa_cons (pe_cmpR op_eq (pv 1) pe_int (nomark _)) pa_nil)) (fun _ _ => rfl)) pa_nil)))) pa_nil))))
      (pss_cons (ps_if (pt_not (pt_val (pe_call G_m_law_many_right (hr.mono (by decide)) (by rfl) g_m_law_many_right k_m_law_many_right b_m_law_many_right .nil pass0 (pa_cons (pv 2) (pa_cons (pv 3) (pa_cons (pe_op op_add pe_int (pe_call G_m_law_pick (hr.mono (by decide)) (by rfl) g_m_law_pick k_m_law_pick b_m_law_pick .nil pass0 (pa_cons (pv 2) (pa_cons pe_int pa_nil)))) pa_nil)))))) (pss_cons (ps_ret pe_bl) pss_nil) pss_nil)
      pss_nil)))))
      (pss_cons (ps_ret pe_bl) pss_nil)), ?_⟩
    rintro as m R ⟨l_script, v_script, r_, h0, rfl, rfl, rfl⟩ F D rfl hk hfin hnx
    unfold m_law at h0
    show Wp _ _ _ [.sl l_script v_script, .un, .un, .un] []
    obtain ⟨rg1, q2, h0⟩ := bindS h0
    obtain ⟨k64, q63, h0⟩ := bindS h0
    refine wp_forC (fun (s_ : Unit) => [.sl l_script v_script, .un, .un, .un]) (fun (s_ : Unit) => []) (src_R1 (j := 1) (ea_cons (ev_cb (ea_cons (ev_int (i := 2)) (ea_cons (ev_cb (ea_cons (ev_cb (ea_cons (ev_sc (i := 0) rfl) ea_nil) rc_lenSc) (ea_cons (ev_int (i := 3)) ea_nil)) rc_min2) ea_nil)) rc_max2) ea_nil) q2) q63 (.cons .rfl (.cons .un (.cons .un (.cons .un Wks.nil)))) rfl (fun _ => True.intro) ?_ ?_
    · rintro lo1 ⟨⟩ v_k3 c_ hx1 h1 D1 he1 hn1 hct1 hbk1 hret1
      show Wp _ _ _ [.sl l_script v_script, .da (dI v_k3), .un, .un] []
      obtain ⟨c34, q35, h1⟩ := bindS h1
      refine wp_asgN (i := 2) (en_callP (mc := []) (mc' := []) (fr := []) (cd := .ls (List.map dI c34)) (m2 := []) (ea_cons (ev_sc (i := 0) rfl) (ea_cons (ev_var (i := 1) rfl) ea_nil)) (perm_ix (n := 0) [] rfl (by decide) rfl) (perm_ix (n := 0) [] rfl (by decide) rfl) ⟨_, ⟨_, _, _, _, q35, rfl, rfl, rfl⟩, fun _ _ h => h⟩) (fun l_33 nk_l_33 => ?_) rfl
      show Wp _ _ _ [.sl l_script v_script, .da (dI v_k3), .rf l_33, .un] [(l_33, .ls (List.map dI c34))]
      obtain ⟨⟨t36, c37⟩, q38, h1⟩ := bindS h1
      obtain ⟨⟨t39, c40⟩, q41, h1⟩ := bindS h1
      obtain ⟨⟨t42, c43⟩, q44, h1⟩ := bindS h1
      obtain ⟨⟨t45, c46⟩, q47, h1⟩ := bindS h1
      refine wp_if (et_not (et_val (ev_call1 0 (ea_cons (ev_rf (i := 2) rfl) (ea_cons (ev_call1 0 (ea_cons (ev_rf (i := 2) rfl) (ea_cons (ev_op (ev_int (i := 1)) (ev_call1 0 (ea_cons (ev_rf (i := 2) rfl) (ea_cons (ev_int (i := 7)) ea_nil)) rfl ⟨_, ⟨_, _, _, _, _, q38, rfl, rfl, rfl⟩, fun _ _ h => h⟩) rr_i) ea_nil)) rfl ⟨_, ⟨_, _, _, _, _, q41, rfl, rfl, rfl⟩, fun _ _ h => h⟩) (ea_cons (ev_op (ev_int (i := 1)) (ev_call1 0 (ea_cons (ev_rf (i := 2) rfl) (ea_cons (ev_int (i := 4)) ea_nil)) rfl ⟨_, ⟨_, _, _, _, _, q44, rfl, rfl, rfl⟩, fun _ _ h => h⟩) rr_i) ea_nil))) rfl ⟨_, ⟨_, _, _, _, _, _, q47, rfl, rfl, rfl⟩, fun _ _ h => h⟩))) (fun hc => ?_) (fun hc => ?_)
      · have h1 := condT hc h1
        cases h1
        have g1 := ctlK_rt (hret1 _ rfl) h0
        have e0_ := Option.some.inj g1
        subst e0_
        exact wp_retS ev_bl (fin_at hfin he1) ⟨rfl, rfl⟩ (List.nil_sublist _)
      · have h1 := condF hc h1
        refine wp_next ?_
        obtain ⟨t48, q49, h1⟩ := bindS h1
        obtain ⟨⟨t50, c51⟩, q52, h1⟩ := bindS h1
        obtain ⟨⟨t53, c54⟩, q55, h1⟩ := bindS h1
        refine wp_asg (i := 3) (ev_call1 0 (ea_cons (ev_rf (i := 2) rfl) (ea_cons (ev_op (ev_int (i := 10)) (ev_call1 0 (ea_cons (ev_rf (i := 2) rfl) (ea_cons (ev_op (show Ev _ _ _ _ (.da ((dL dI) ([(6 : Int), (21 : Int)] : (List Int)))) _ from ev_lst (dl := [dI (6 : Int), dI (21 : Int)]) (ea_cons (ev_int (i := 6)) (ea_cons (ev_int (i := 21)) ea_nil)) (Nat.le_of_ble_eq_true rfl)) (ev_cb (ea_cons (ev_op (ev_var (i := 1) rfl) (ev_int (i := 0)) rr_eqI) ea_nil) rc_intB) (rr_ixL (f := dI) q49)) ea_nil)) rfl ⟨_, ⟨_, _, _, _, _, q52, rfl, rfl, rfl⟩, fun _ _ h => h⟩) rr_i) ea_nil)) rfl ⟨_, ⟨_, _, _, _, _, q55, rfl, rfl, rfl⟩, fun _ _ h => h⟩) ?_
        show Wp _ _ _ [.sl l_script v_script, .da (dI v_k3), .rf l_33, .da ((dL (dP (dU dI) dI)) t53)] [(l_33, .ls (List.map dI c54))]
        obtain ⟨⟨t56, c57⟩, q58, h1⟩ := bindS h1
        obtain ⟨⟨t59, c60⟩, q61, h1⟩ := bindS h1
        refine wp_if (et_not (et_val (ev_call1 0 (ea_cons (ev_rf (i := 2) rfl) (ea_cons (ev_var (i := 3) rfl) (ea_cons (ev_op (ev_int (i := 1)) (ev_call1 0 (ea_cons (ev_rf (i := 2) rfl) (ea_cons (ev_int (i := 10)) ea_nil)) rfl ⟨_, ⟨_, _, _, _, _, q58, rfl, rfl, rfl⟩, fun _ _ h => h⟩) rr_i) ea_nil))) rfl ⟨_, ⟨_, _, _, _, _, _, q61, rfl, rfl, rfl⟩, fun _ _ h => h⟩))) (fun hc => ?_) (fun hc => ?_)
        · have h1 := condT hc h1
          cases h1
          have g1 := ctlK_rt (hret1 _ rfl) h0
          have e0_ := Option.some.inj g1
          subst e0_
          exact wp_retS ev_bl (fin_at hfin he1) ⟨rfl, rfl⟩ (List.nil_sublist _)
        · have h1 := condF hc h1
          refine wp_next ?_
          refine wp_drop 0 ?_
          cases h1
          exact wp_next fun σ H a => (hn1 _ rfl) σ H (at_weak (.cons .rfl (.cons .un (.cons .un (.cons .un Wks.nil)))) a)
    · rintro ⟨⟩ hk_
      have h0 := ctlK_go hk_ h0
      show Wp _ _ _ [.sl l_script v_script, .un, .un, .un] []
      have e0_ := Option.some.inj h0
      subst e0_
      exact wp_retS ev_bl hfin ⟨rfl, rfl⟩ (List.nil_sublist _)
end K88
set_option maxHeartbeats 400000
namespace K88
open PySem PySem.Spec PyProof.Rows L2 Evl FC
/-! ### pick -/
theorem mix_ok (cell k : Int) (hk : 0 ≤ k ∧ k < 2 ^ 61) : Ok (m_law_mix cell k) fun _ => True := by
  unfold m_law_mix
  have p61 : (2 : Int) ^ 61 < 2 ^ 64 := by decide
  refine ok_mod (by omega) fun _ _ => ok_mul (mulOk_l ⟨by omega, by omega⟩) (ok_mul (mulOk_r (by decide)) (ok_mul (mulOk_r (by decide)) (ok_mod (by omega) fun h1 h2 => ok_mul (mulOk_l ⟨by omega, by omega⟩) (ok_mod (by omega) fun _ _ => Ok.mk True.intro))))
theorem pick_ok {n : Nat} {left : List Int} {many : Int} (h : Lk n left) (hn : n ≤ 1000000000) (h0 : 0 < many) (h1 : many < 1000000000) : Ok (m_law_pick left many) fun r => 0 ≤ r.1 ∧ r.1 < many ∧ Lk (n + 1) r.2 := by
  obtain ⟨a, b, c, rfl, hc0, hcn⟩ := h
  have p61 : (1000000000 : Int) + 100 < 2 ^ 61 := by decide
  unfold m_law_pick
  refine Ok.of (a := c) rfl (Ok.of (a := [a, b, c + 1]) rfl (Ok.of (a := a) rfl (ok_cond (fun _ => ?_) fun _ => ?_)))
  · refine Ok.of (a := a) rfl (ok_mod h0 fun m1 m2 => Ok.of (a := a) rfl (ok_div h0 (by omega) (Ok.of (a := [a / many, b, c + 1]) rfl (Ok.mk ⟨m1, m2, _, _, _, rfl, by omega, by omega⟩))))
  · refine Ok.of (a := b) rfl (Ok.of (a := c + 1) rfl (Ok.bind (mix_ok b (c + 1) ⟨by omega, by omega⟩) fun t _ => Ok.of (a := c + 1) rfl (Ok.bind (mix_ok t (c + 1 + 64) ⟨by omega, by omega⟩) fun t2 _ => ok_div (by omega) (by omega) (ok_mod h0 fun m1 m2 => Ok.mk ⟨m1, m2, _, _, _, rfl, by omega, by omega⟩))))
/-! ### left -/
theorem left_ok {ns : List Int} {k : Int} (hk : 0 ≤ k ∧ k ≤ 3) : Ok (m_law_left ns k) fun l => ∃ a b, l = [a, b, 0] := by
  unfold m_law_left
  refine Ok.bind (P := fun _ => True) (ok_cond (fun h => ?_) fun _ => Ok.mk True.intro) fun t _ => ?_
  · have h2 := of_decide_eq_true h
    exact ok_get hk.1 h2 fun x _ _ => Ok.mk True.intro
  · have hb := b2_ix (decide ((1000000000000000000 : Int) ≤ absI t))
    refine ok_mul (mulOk_r ⟨by omega, by omega⟩) (ok_mul (mulOk_l (by decide)) (Ok.mk ⟨_, _, rfl⟩))
/-! ### frac -/
theorem both_eq (i j : Int) : m_in_both i j = some ((Int.gcd i j : Nat) : Int) := by
  obtain ⟨r, h⟩ := gcd_whi i j
  exact Ok.eq (Ok.of h (Ok.mk rfl))
theorem part_eq {a b : Int} {n : Nat} (hb : 0 < b) (h2 : Bt n b) (hn : n < 9000 := by omega) : m_part a b = some (fr ((a : Rat) / (b : Rat))) := by
  refine Ok.eq ?_
  have hg0 : 0 < ((Int.gcd a b : Nat) : Int) := by
    have := Int.gcd_pos_of_ne_zero_right a (show b ≠ 0 by omega)
    omega
  have hg : Bt n ((Int.gcd a b : Nat) : Int) := by
    unfold Bt at *
    have := Nat.le_of_dvd (by omega) (Int.gcd_dvd_natAbs_right a b)
    omega
  unfold m_part
  refine Ok.of (a := (a, b)) (by rw [decide_eq_false (by omega)]; rfl) (Ok.of (both_eq a b) (Ok.of (divB hg0 hg hn) (Ok.of (divB hg0 hg hn) (Ok.mk (fr_div hb)))))
theorem plus_eq {x y : Rat} {a b : Nat} (hx : Sz a x) (hy : Sz b y) (h : a + b < 8999 := by omega) : m_plus (fr x) (fr y) = some (fr (x + y)) := by
  refine Ok.eq ?_
  unfold m_plus
  refine ok_mulB hx.num hy.den (ok_mulB hy.num hx.den (ok_mulB hx.den hy.den (Ok.of (part_eq (n := a + b) (Int.mul_pos (den_pos' x) (den_pos' y)) (hx.den.mul hy.den)) (Ok.mk ?_))))
  rw [add_eq]
  rfl
theorem times_eq {x y : Rat} {a b : Nat} (hx : Sz a x) (hy : Sz b y) (h : a + b < 8999 := by omega) : m_times (fr x) (fr y) = some (fr (x * y)) := by
  refine Ok.eq ?_
  unfold m_times
  refine ok_mulB hx.num hy.num (ok_mulB hx.den hy.den (Ok.of (part_eq (n := a + b) (Int.mul_pos (den_pos' x) (den_pos' y)) (hx.den.mul hy.den)) (Ok.mk ?_)))
  rw [mul_eq]
  rfl
theorem before_eq {x y : Rat} {a b : Nat} (hx : Sz a x) (hy : Sz b y) (h : a + b < 1000000 := by omega) : m_before (fr x) (fr y) = some (decide (x < y)) := by
  refine Ok.eq ?_
  unfold m_before
  exact ok_mulB hx.num hy.den (ok_mulB hy.num hx.den (Ok.mk (lt_fr x y)))
theorem plusq_eq {o : Option (Int × Int)} {x y : Rat} {a b : Nat} (ho : qv o = fr x) (hx : Sz a x) (hy : Sz b y) (h : a + b < 8999 := by omega) : m_plus_q o (fr y) = some (fr (x + y)) := by
  refine Ok.eq ?_
  unfold m_plus_q
  rw [ho]
  refine ok_mulB hx.num hy.den (ok_mulB hy.num hx.den (ok_mulB hx.den hy.den (Ok.of (part_eq (n := a + b) (Int.mul_pos (den_pos' x) (den_pos' y)) (hx.den.mul hy.den)) (Ok.mk ?_))))
  rw [add_eq]
  rfl
theorem sz_sum {k : Nat} : ∀ {l : List Rat}, (∀ x ∈ l, Sz k x) → Sz ((k + 1) * l.length + 1) (FQ.Sm (fun x => x) l)
  | [], _ => ⟨by show (0 : Int).natAbs < _; exact Nat.two_pow_pos _, by show (1 : Int).natAbs < 2 ^ 1; decide⟩
  | x :: l, h => by
    have h1 := h x List.mem_cons_self
    have h2 := sz_sum (l := l) fun y hy => h y (List.mem_cons_of_mem _ hy)
    rw [FQ.Sm_cons]
    refine (h1.add h2).mono ?_
    rw [List.length_cons, Nat.mul_succ]
    omega
/-- the sum of fractions, the state a nought that may be the module's own -/
theorem sum_loop {k : Nat} {l : List Rat} (hk : ∀ x ∈ l, Sz k x) (hl : (k + 1) * (l.length + 1) < 8990) :
    Ok (forF (fun (s_ : (Option (Int × Int))) => (fun (v_one1 : (Int × Int)) => (fun (v_total2 : (Option (Int × Int))) => ((m_plus_q v_total2 v_one1).bind fun t5 => some (some t5))) s_)) (none : Option (Int × Int)) (l.map fr)) fun o => qv o = fr (FQ.Sm (fun x => x) l) ∧ (l ≠ [] → o = some (fr (FQ.Sm (fun x => x) l))) := by
  rw [forF_map]
  refine ok_for (fun q o => qv o = fr (FQ.Sm (fun x => x) q) ∧ (q ≠ [] → o = some (fr (FQ.Sm (fun x => x) q)))) ⟨rfl, fun h => absurd rfl h⟩ ?_
  rintro q x r o e ⟨h1, _⟩
  have hq : ∀ y ∈ q, Sz k y := fun y hy => hk y (by rw [e]; simp [hy])
  have hlen : (k + 1) * q.length + (k + 1) ≤ (k + 1) * (l.length + 1) := by
    rw [← Nat.mul_succ]
    refine Nat.mul_le_mul_left _ ?_
    rw [e, List.length_append, List.length_cons]
    omega
  refine Ok.of (plusq_eq h1 (sz_sum hq) (hk x (by rw [e]; simp)) (by omega)) (Ok.mk ?_)
  have e2 : FQ.Sm (fun x => x) (q ++ [x]) = FQ.Sm (fun x => x) q + x := by
    rw [FQ.Sm_app]
    show _ + (x + 0) = _
    rw [Rat.add_zero]
  rw [e2]
  exact ⟨rfl, fun _ => rfl⟩
theorem sum_eq {k : Nat} {l : List Rat} (h0 : l ≠ []) (hk : ∀ x ∈ l, Sz k x) (hl : (k + 1) * (l.length + 1) < 8990) : m_sum_of (l.map fr) = some (fr (FQ.Sm (fun x => x) l)) := by
  refine Ok.eq ?_
  unfold m_sum_of
  refine Ok.bind (sum_loop hk hl) ?_
  rintro o ⟨_, h⟩
  rw [h h0]
  exact Ok.mk rfl
/-! ### spread -/
abbrev Rw := FQ.Row
open FQ (co sp mn fa vf S1 S2 W Wi)
/-- a row of counts -/
structure Rb (w : Nat) (r : Rw) : Prop where
  good : Good w r.1
  pos : 0 < r.2
  most : r.2 ≤ 1000
def sN (s : List Rw) (p : Nat) : Int := (s.map fun r => r.2 * co r.1 p).sum
def sQ (s : List Rw) (p : Nat) : Int := (s.map fun r => r.2 * co r.1 p * co r.1 p).sum
theorem S2_int (s : List Rw) (p : Nat) : S2 s p = (sQ s p : Rat) := by
  induction s with
  | nil => rfl
  | cons r s ih =>
    have e : S2 (r :: s) p = (r.2 : Rat) * ((co r.1 p : Rat) * (co r.1 p : Rat)) + S2 s p := rfl
    have e2 : sQ (r :: s) p = r.2 * co r.1 p * co r.1 p + sQ s p := rfl
    rw [e, ih, e2, Rat.intCast_add, Rat.intCast_mul, Rat.intCast_mul]
    grind
theorem lsum_in {α : Type} {g : α → Int} {b : Int} : ∀ {l : List α}, (∀ x ∈ l, 0 ≤ g x ∧ g x ≤ b) → 0 ≤ (l.map g).sum ∧ (l.map g).sum ≤ b * l.length
  | [], _ => ⟨Int.le_refl _, by show (0 : Int) ≤ b * 0; omega⟩
  | x :: l, h => by
    have h1 := h x List.mem_cons_self
    have h2 := lsum_in (l := l) fun y hy => h y (List.mem_cons_of_mem _ hy)
    rw [List.map_cons, List.sum_cons, List.length_cons]
    have e : b * ((l.length + 1 : Nat) : Int) = b * l.length + b := by
      rw [Int.natCast_add, Int.mul_add]
      show _ + b * 1 = _
      rw [Int.mul_one]
    rw [e]
    omega
theorem co_in {w : Nat} {r : Rw} (h : Rb w r) (p : Nat) : 0 ≤ co r.1 p ∧ co r.1 p ≤ 999 := by
  unfold co
  by_cases hp : p < r.1.length
  · rw [List.getElem?_eq_getElem hp]
    have := h.good.2 _ (List.getElem_mem hp)
    show 0 ≤ r.1[p] ∧ r.1[p] ≤ 999
    omega
  · rw [List.getElem?_eq_none (by omega)]
    show (0 : Int) ≤ 0 ∧ (0 : Int) ≤ 999
    omega
structure Rs (w : Nat) (s : List Rw) : Prop where
  ok : ∀ r ∈ s, Rb w r
  len : s.length ≤ 60
theorem Rs.pos {w : Nat} {s : List Rw} (h : Rs w s) : ∀ r ∈ s, 0 < r.2 := fun r hr => (h.ok r hr).pos
theorem Rs.sub {w : Nat} {s t : List Rw} (h : Rs w s) (hs : t.Sublist s) : Rs w t := ⟨fun r hr => h.ok r (hs.subset hr), Nat.le_trans hs.length_le h.len⟩
theorem n60 {b c : Int} {n : Nat} (h : c ≤ b * n) (hn : n ≤ 60) (hb : 0 ≤ b) : c ≤ b * 60 := Int.le_trans h (Int.mul_le_mul_of_nonneg_left (by omega) hb)
theorem Wi_in {w : Nat} {s : List Rw} (h : Rs w s) : 0 ≤ Wi s ∧ Wi s ≤ 60000 := by
  have h1 := lsum_in (g := fun r : Rw => r.2) (b := 1000) (l := s) fun r hr => ⟨Int.le_of_lt (h.ok r hr).pos, (h.ok r hr).most⟩
  have := n60 h1.2 h.len (by omega)
  exact ⟨h1.1, by show (s.map fun r => r.2).sum ≤ _; omega⟩
theorem sN_in {w : Nat} {s : List Rw} (h : Rs w s) (p : Nat) : 0 ≤ sN s p ∧ sN s p ≤ 60000000 := by
  have h1 := lsum_in (g := fun r : Rw => r.2 * co r.1 p) (b := 1000000) (l := s) fun r hr => by
    have h2 := (h.ok r hr).pos
    have h3 := (h.ok r hr).most
    have h4 := co_in (h.ok r hr) p
    refine ⟨Int.mul_nonneg (by omega) h4.1, ?_⟩
    have := Int.mul_le_mul h3 h4.2 h4.1 (by omega)
    omega
  have := n60 h1.2 h.len (by omega)
  exact ⟨h1.1, by show (s.map fun r : Rw => r.2 * co r.1 p).sum ≤ _; omega⟩
theorem sQ_in {w : Nat} {s : List Rw} (h : Rs w s) (p : Nat) : 0 ≤ sQ s p ∧ sQ s p ≤ 60000000000 := by
  have h1 := lsum_in (g := fun r : Rw => r.2 * co r.1 p * co r.1 p) (b := 1000000000) (l := s) fun r hr => by
    have h2 := (h.ok r hr).pos
    have h3 := (h.ok r hr).most
    have h4 := co_in (h.ok r hr) p
    have h5 : 0 ≤ r.2 * co r.1 p := Int.mul_nonneg (by omega) h4.1
    have h6 := Int.mul_le_mul h3 h4.2 h4.1 (by omega)
    refine ⟨Int.mul_nonneg h5 h4.1, ?_⟩
    have h7 : r.2 * co r.1 p ≤ 999000 := by omega
    have := Int.mul_le_mul h7 h4.2 h4.1 (by omega)
    omega
  have := n60 h1.2 h.len (by omega)
  exact ⟨h1.1, by show (s.map fun r : Rw => r.2 * co r.1 p * co r.1 p).sum ≤ _; omega⟩
theorem get_co {w : Nat} {r : Rw} (h : Rb w r) {p : Int} (h0 : 0 ≤ p) (hp : p < w) : getI r.1 p = some (co r.1 p.toNat) := by
  have hl := h.good.1
  have hp2 : p.toNat < r.1.length := by omega
  rw [getI_nat h0 (List.getElem?_eq_getElem hp2)]
  unfold co
  rw [List.getElem?_eq_getElem hp2]
  rfl
theorem bt_co {w : Nat} {r : Rw} (h : Rb w r) (p : Nat) : Bt 10 (co r.1 p) := Bt.of (b := 999) (by have := co_in h p; omega) (by decide)
theorem bt_ct {w : Nat} {r : Rw} (h : Rb w r) : Bt 10 r.2 := Bt.of (b := 1000) (by have := h.pos; have := h.most; omega) (by decide)
theorem numbers_mapO {w : Nat} {s : List Rw} (h : Rs w s) {p : Int} (h0 : 0 ≤ p) (hp : p < w) :
    mapO (fun (p_ : ((List Int) × Int)) => (fun (v_colour13 : (List Int)) (v_count13 : Int) => ((getI v_colour13 p).bind fun t14 => ((mulG v_count13 t14).bind fun t16 => some t16))) p_.1 p_.2) s = some (s.map fun r => r.2 * co r.1 p.toNat) :=
  mapO_of fun r hr => Ok.eq (Ok.of (get_co (h.ok r hr) h0 hp) (ok_mulB (bt_ct (h.ok r hr)) (bt_co (h.ok r hr) _) (Ok.mk rfl)))
theorem squares_mapO {w : Nat} {s : List Rw} (h : Rs w s) {p : Int} (h0 : 0 ≤ p) (hp : p < w) :
    mapO (fun (p_ : ((List Int) × Int)) => (fun (v_colour53 : (List Int)) (v_count53 : Int) => ((getI v_colour53 p).bind fun t54 => ((mulG v_count53 t54).bind fun t56 => ((getI v_colour53 p).bind fun t58 => ((mulG t56 t58).bind fun t60 => some t60))))) p_.1 p_.2) s = some (s.map fun r => r.2 * co r.1 p.toNat * co r.1 p.toNat) :=
  mapO_of fun r hr => Ok.eq (Ok.of (get_co (h.ok r hr) h0 hp) (ok_mulB (bt_ct (h.ok r hr)) (bt_co (h.ok r hr) _) (Ok.of (get_co (h.ok r hr) h0 hp) (ok_mulB ((bt_ct (h.ok r hr)).mul (bt_co (h.ok r hr) _)) (bt_co (h.ok r hr) _) (Ok.mk rfl)))))
/-- the top of a spread -/
def sTop (s : List Rw) (l : List Int) : Int := (l.map fun p => sQ s p.toNat * Wi s - sN s p.toNat * sN s p.toNat).sum
theorem sTop_in {w : Nat} {s : List Rw} (h : Rs w s) : ∀ l : List Int, l.length ≤ 5 → Bt 60 (sTop s l) := fun l hl => by
  have h1 : ∀ (l : List Int), -(3600000000000000 * (l.length : Int)) ≤ sTop s l ∧ sTop s l ≤ 3600000000000000 * (l.length : Int) := by
    intro l
    induction l with
    | nil => exact ⟨Int.le_refl _, Int.le_refl _⟩
    | cons p l ih =>
      have a := sQ_in h p.toNat
      have b := sN_in h p.toNat
      have c := Wi_in h
      have d := Int.mul_nonneg a.1 c.1
      have e := Int.mul_le_mul a.2 c.2 c.1 (by omega)
      have f := Int.mul_nonneg b.1 b.1
      have g := Int.mul_le_mul b.2 b.2 b.1 (by omega)
      have e2 : sTop s (p :: l) = (sQ s p.toNat * Wi s - sN s p.toNat * sN s p.toNat) + sTop s l := rfl
      rw [e2, List.length_cons]
      omega
  have h2 := h1 l
  refine Bt.of (b := 18000000000000000) ?_ (by decide)
  omega
theorem sp_top {w : Nat} {s : List Rw} (h : Rs w s) (h0 : s ≠ []) : sp w s = (sTop s (rng 0 w) : Rat) / (Wi s : Rat) := by
  have hW : W s ≠ 0 := Rat.ne_of_gt (FQ.W_pos h.pos h0)
  have hW2 := hW
  rw [FQ.W_int] at hW2
  have key : ∀ l : List Nat, ((sTop s (l.map fun (i : Nat) => (i : Int)) : Int) : Rat) = FQ.Sm (fun p => S2 s p - S1 s p * S1 s p / W s) l * (Wi s : Rat) := by
    intro l
    induction l with
    | nil =>
      show ((0 : Int) : Rat) = 0 * _
      rw [Rat.zero_mul]
      rfl
    | cons p l ih =>
      have e2 : sTop s ((p :: l).map fun (i : Nat) => (i : Int)) = (sQ s p * Wi s - sN s p * sN s p) + sTop s (l.map fun (i : Nat) => (i : Int)) := rfl
      rw [e2, FQ.Sm_cons, Rat.intCast_add, Rat.intCast_sub, Rat.intCast_mul, Rat.intCast_mul, ih, S2_int, FQ.S1_int, FQ.W_int]
      have e3 : ((s.map fun r => r.2 * co r.1 p).sum : Int) = sN s p := rfl
      rw [e3]
      have e4 := Rat.div_mul_cancel (a := (sN s p : Rat) * (sN s p : Rat)) hW2
      grind
  have e : rng 0 (w : Int) = (List.range w).map fun (i : Nat) => (i : Int) := by
    unfold rng
    rw [show ((w : Int) - 0).toNat = w by omega]
    exact List.map_congr_left fun i _ => Int.zero_add _
  rw [e, key]
  unfold sp
  generalize FQ.Sm (fun p => S2 s p - S1 s p * S1 s p / W s) (List.range w) = X
  have := Rat.div_mul_cancel (a := X * (Wi s : Rat)) hW2
  have h3 := Rat.mul_eq_zero (a := X * (Wi s : Rat) / (Wi s : Rat) - X) (b := (Wi s : Rat))
  have h4 : (X * (Wi s : Rat) / (Wi s : Rat) - X) * (Wi s : Rat) = 0 := by grind
  rcases h3.mp h4 with z | z
  · grind
  · exact absurd z hW2
theorem bt_Wi {w : Nat} {s : List Rw} (h : Rs w s) : Bt 60 (Wi s) := Bt.of (b := 60000) (by have := Wi_in h; omega) (by decide)
theorem sz_sp {w : Nat} {s : List Rw} (h : Rs w s) (h0 : s ≠ []) (hw : w ≤ 5) : Sz 60 (sp w s) := by
  rw [sp_top h h0]
  exact sz_div (FQ.Wi_pos h.pos h0) (sTop_in h _ (by rw [rng_len]; omega)) (bt_Wi h)
theorem many_sum (s : List Rw) : List.sum (List.map (fun (p_ : ((List Int) × Int)) => (fun (v_colour1 : (List Int)) (v_count1 : Int) => v_count1) p_.1 p_.2) s) = Wi s := rfl
theorem first_wide {w : Nat} {s : List Rw} (h : Rs w s) (h0 : s ≠ []) : ∃ r, getI s (0 : Int) = some r ∧ r.1.length = w := by
  cases s with
  | nil => exact absurd rfl h0
  | cons r s => exact ⟨r, getI_nat (by omega) rfl, (h.ok r List.mem_cons_self).good.1⟩
theorem spread_eq {w : Nat} {s : List Rw} (h : Rs w s) (h0 : s ≠ []) (hw : w ≤ 5) : m_spread_of s = some (fr (sp w s)) := by
  refine Ok.eq ?_
  obtain ⟨r0, g1, g2⟩ := first_wide h h0
  have hlen := h.len
  unfold m_spread_of
  refine ok_len (by omega) (Ok.of rfl (Ok.of g1 ?_))
  rw [g2, many_sum]
  refine ok_rng (by omega) (by omega) (Ok.bind (ok_for (fun q t => t = sTop s q) rfl ?_) ?_)
  · rintro q p r t e rfl
    have hp : p ∈ rng 0 (w : Int) := by rw [e]; simp
    obtain ⟨p0, p1⟩ := mem_rng.mp hp
    have a := sQ_in h p.toNat
    have b := sN_in h p.toNat
    refine ok_len (by omega) (Ok.of (numbers_mapO h p0 p1) (Ok.of rfl (ok_len (by omega) (Ok.of (squares_mapO h p0 p1) (Ok.of rfl ?_)))))
    refine ok_mulB (n := 60) (m := 60) (i := sQ s p.toNat) (Bt.of (b := 60000000000) (by omega) (by decide)) (bt_Wi h) (ok_mulB (n := 60) (m := 60) (i := sN s p.toNat) (j := sN s p.toNat) (Bt.of (b := 60000000) (by omega) (by decide)) (Bt.of (b := 60000000) (by omega) (by decide)) (Ok.mk ?_))
    unfold sTop
    rw [List.map_append, List.sum_append]
    simp
  · rintro t rfl
    refine Ok.of (part_eq (n := 60) (FQ.Wi_pos h.pos h0) (bt_Wi h)) (Ok.mk ?_)
    rw [sp_top h h0]
theorem middle_eq {w : Nat} {s : List Rw} (h : Rs w s) (h0 : s ≠ []) (hw : w ≤ 5) : m_middle_of s = some (((List.range w).map (mn s)).map fr) := by
  refine Ok.eq ?_
  obtain ⟨r0, g1, g2⟩ := first_wide h h0
  have hlen := h.len
  unfold m_middle_of
  refine ok_len (by omega) (Ok.of rfl (Ok.of g1 ?_))
  rw [g2, many_sum]
  have lr : (rng 0 (w : Int)).length = w := by rw [rng_len]; omega
  refine ok_rng (by omega) (by omega) (ok_len (by omega) (ok_len (by omega) (Ok.of (mapO_of (g := fun p : Int => fr (mn s p.toNat)) fun p hp => Ok.eq ?_) (Ok.mk ?_))))
  · obtain ⟨p0, p1⟩ := mem_rng.mp hp
    refine ok_len (by omega) (Ok.of (numbers_mapO h p0 p1) (Ok.of (part_eq (n := 60) (FQ.Wi_pos h.pos h0) (bt_Wi h)) (Ok.mk ?_)))
    unfold mn
    rw [FQ.S1_int, FQ.W_int]
  · unfold rng
    rw [List.map_map, List.map_map, show ((w : Int) - 0).toNat = w by omega]
    refine List.map_congr_left fun i _ => ?_
    show fr (mn s (0 + (i : Int)).toNat) = fr (mn s i)
    rw [show (0 + (i : Int)).toNat = i by omega]
theorem sz_mn {w : Nat} {s : List Rw} (h : Rs w s) (h0 : s ≠ []) (p : Nat) : Sz 30 (mn s p) := by
  unfold mn
  rw [FQ.S1_int, FQ.W_int]
  have e3 : ((s.map fun r => r.2 * co r.1 p).sum : Int) = sN s p := rfl
  rw [e3]
  exact sz_div (FQ.Wi_pos h.pos h0) (Bt.of (b := 60000000) (by have := sN_in h p; omega) (by decide)) (Bt.of (b := 60000) (by have := Wi_in h; omega) (by decide))
/-! ### mids -/
open FQ (near share mv mvk at' Wide nr Vec)
/-- middles, their fractions no longer than so many bits -/
structure Ms (w k : Nat) (ms : List Vec) : Prop where
  wide : Wide w ms
  sz : ∀ m ∈ ms, ∀ x ∈ m, Sz k x
abbrev vF (m : Vec) : List (Int × Int) := m.map fr
abbrev mF (ms : List Vec) : List (List (Int × Int)) := ms.map vF
theorem fa_zip {w : Nat} {c : List Int} {v : Vec} (hc : c.length = w) (hv : v.length = w) : fa w c (vf v) = FQ.Sm (fun p : Int × Rat => ((p.1 : Rat) - p.2) * ((p.1 : Rat) - p.2)) (List.zip c v) := by
  have e : List.zip c v = (List.range w).map fun p => (co c p, vf v p) := by
    refine List.ext_getElem (by rw [List.length_zip, List.length_map, List.length_range]; omega) fun i h1 h2 => ?_
    have hi : i < w := by rw [List.length_map, List.length_range] at h2; exact h2
    rw [List.getElem_zip, List.getElem_map, List.getElem_range]
    unfold co vf
    rw [List.getElem?_eq_getElem (by omega), List.getElem?_eq_getElem (by omega)]
    rfl
  rw [e, FQ.Sm_map]
  rfl
theorem sz_fa {w k : Nat} {c : List Int} {v : Vec} (hg : Good w c) (hv : v.length = w) (hz : ∀ x ∈ v, Sz k x) (hw : w ≤ 5) : Sz ((2 * k + 23) * 5 + 1) (fa w c (vf v)) := by
  rw [fa_zip hg.1 hv]
  have key : ∀ l : List (Int × Rat), (∀ p ∈ l, Bt 10 p.1 ∧ Sz k p.2) → Sz ((2 * k + 23) * l.length + 1) (FQ.Sm (fun p : Int × Rat => ((p.1 : Rat) - p.2) * ((p.1 : Rat) - p.2)) l) := by
    intro l
    induction l with
    | nil => intro _; exact sz_sum (k := 2 * k + 22) (l := []) fun _ h => nomatch h
    | cons p l ih =>
      intro h
      obtain ⟨h1, h2⟩ := h p List.mem_cons_self
      rw [FQ.Sm_cons, Rat.sub_eq_add_neg]
      have h3 := (Sz.int h1 (by omega)).add h2.neg
      refine ((h3.mul h3).add (ih fun q hq => h q (List.mem_cons_of_mem _ hq))).mono ?_
      rw [List.length_cons, Nat.mul_succ]
      omega
  refine (key _ fun p hp => ?_).mono ?_
  · have h1 := hg.2 _ (List.of_mem_zip hp).1
    exact ⟨Bt.of (b := 1000) (by omega) (by decide), hz _ (List.of_mem_zip hp).2⟩
  · rw [List.length_zip]
    have : min c.length v.length ≤ 5 := by have := hg.1; omega
    have := Nat.mul_le_mul_left (2 * k + 23) this
    omega
theorem far_eq {w k : Nat} {c : List Int} {v : Vec} (hg : Good w c) (hv : v.length = w) (hz : ∀ x ∈ v, Sz k x) (hw : w ≤ 5) (hk : k ≤ 300) : m_far_of c (vF v) = some (fr (fa w c (vf v))) := by
  refine Ok.eq ?_
  rw [fa_zip hg.1 hv]
  unfold m_far_of
  refine Ok.of rfl ?_
  have e : List.zip c (vF v) = (List.zip c v).map fun p => (p.1, fr p.2) := by
    show List.zip c (v.map fr) = _
    rw [List.zip_map_right]
    rfl
  rw [e, forF_map]
  refine Ok.bind (ok_for (fun q t => t = fr (FQ.Sm (fun p : Int × Rat => ((p.1 : Rat) - p.2) * ((p.1 : Rat) - p.2)) q) ∧ Sz ((2 * k + 23) * q.length + 1) (FQ.Sm (fun p : Int × Rat => ((p.1 : Rat) - p.2) * ((p.1 : Rat) - p.2)) q)) ⟨rfl, sz_sum (k := 2 * k + 22) (l := []) fun _ h => nomatch h⟩ ?_) ?_
  · rintro q p r t hq ⟨rfl, hs⟩
    have hp : p ∈ List.zip c v := by rw [hq]; simp
    have h1 := hg.2 _ (List.of_mem_zip hp).1
    have hz2 := hz _ (List.of_mem_zip hp).2
    have hb : Sz 10 (p.1 : Rat) := Sz.int (Bt.of (b := 1000) (by omega) (by decide)) (by omega)
    have hlen : q.length ≤ 4 := by
      have := congrArg List.length hq
      rw [List.length_zip, List.length_append, List.length_cons] at this
      have := hg.1
      omega
    have hlen2 := Nat.mul_le_mul_left (2 * k + 23) hlen
    have s1 := hb.add hz2.neg
    refine Ok.of (a := fr ((p.1 : Rat) + -p.2)) (plus_eq hb hz2.neg (by omega)) (Ok.of (times_eq s1 s1 (by omega)) (Ok.of (plus_eq hs (s1.mul s1) (by omega)) (Ok.mk ?_)))
    have e2 : FQ.Sm (fun p : Int × Rat => ((p.1 : Rat) - p.2) * ((p.1 : Rat) - p.2)) (q ++ [p]) = FQ.Sm (fun p : Int × Rat => ((p.1 : Rat) - p.2) * ((p.1 : Rat) - p.2)) q + ((p.1 : Rat) + -p.2) * ((p.1 : Rat) + -p.2) := by
      rw [FQ.Sm_app, ← Rat.sub_eq_add_neg]
      show _ + (((p.1 : Rat) - p.2) * ((p.1 : Rat) - p.2) + 0) = _
      rw [Rat.add_zero]
    rw [e2]
    refine ⟨rfl, (hs.add (s1.mul s1)).mono ?_⟩
    rw [List.length_append, List.length_singleton, Nat.mul_add]
    omega
  · rintro t ⟨rfl, _⟩
    exact Ok.mk rfl
theorem at_get {ms : List Vec} {k : Nat} (h : k < ms.length) : ms[k]? = some (at' ms k) := by
  unfold FQ.at'
  rw [List.getElem?_eq_getElem h]
  rfl
theorem near_eq {w k : Nat} {c : List Int} {ms : List Vec} (hg : Good w c) (hm : Ms w k ms) (h0 : ms ≠ []) (hl : ms.length ≤ 60) (hw : w ≤ 5) (hk : k ≤ 300) : m_nearest_middle (mF ms) c = some (near w ms c : Int) := by
  refine Ok.eq ?_
  have hd : ∀ j, j < ms.length → m_far_of c (vF (at' ms j)) = some (fr (fa w c (vf (at' ms j)))) ∧ Sz ((2 * k + 23) * 5 + 1) (fa w c (vf (at' ms j))) := fun j hj => by
    have hmem := FQ.at_mem hj
    exact ⟨far_eq hg (hm.wide _ hmem) (hm.sz _ hmem) hw hk, sz_fa hg (hm.wide _ hmem) (hm.sz _ hmem) hw⟩
  have hpos : 0 < ms.length := List.length_pos_iff.mpr h0
  have e0 : getI (mF ms) (0 : Int) = some (vF (at' ms 0)) := getI_nat (by omega) (by show (ms.map vF)[0]? = _; rw [List.getElem?_map, at_get hpos]; rfl)
  unfold m_nearest_middle
  refine Ok.of e0 (Ok.of (hd 0 hpos).1 ?_)
  have en : enumI (mF ms) = (List.range ms.length).map fun j : Nat => ((j : Int), vF (at' ms j)) := by
    rw [enumI_eq ([] : List (Int × Int)), show (mF ms).length = ms.length from List.length_map _]
    unfold rng
    rw [List.map_map, show ((ms.length : Int) - 0).toNat = ms.length by omega]
    refine List.map_congr_left fun j hj => ?_
    have hj := List.mem_range.mp hj
    show (0 + (j : Int), (mF ms)[(0 + (j : Int)).toNat]?.getD []) = _
    rw [show (0 + (j : Int)).toNat = j by omega, show (mF ms)[j]? = some (vF (at' ms j)) by show (ms.map vF)[j]? = _; rw [List.getElem?_map, at_get hj]; rfl, Int.zero_add]
    rfl
  rw [en, forF_map]
  refine Ok.bind (ok_for (fun q s => q = List.range q.length ∧ s = ((nr (fun j => fa w c (vf (at' ms j))) q.length : Int), fr (fa w c (vf (at' ms (nr (fun j => fa w c (vf (at' ms j))) q.length)))))) ⟨rfl, rfl⟩ ?_) ?_
  · rintro q j r s e ⟨hq, rfl⟩
    have hjq : j = q.length ∧ q.length < ms.length := by
      have h1 : (List.range ms.length)[q.length]? = some j := by rw [e, List.getElem?_append_right (Nat.le_refl _), Nat.sub_self]; rfl
      obtain ⟨h2, h3⟩ := List.getElem?_eq_some_iff.mp h1
      rw [List.getElem_range] at h3
      rw [List.length_range] at h2
      exact ⟨h3.symm, h2⟩
    obtain ⟨rfl, hj⟩ := hjq
    have hn : nr (fun j => fa w c (vf (at' ms j))) q.length < ms.length := by
      cases hz : q.length with
      | zero => exact hpos
      | succ n =>
        have := (FQ.nr_spec (fun j => fa w c (vf (at' ms j))) n).1
        omega
    refine Ok.of (hd _ hj).1 (Ok.of (before_eq (hd _ hj).2 (hd _ hn).2 (by omega)) ?_)
    refine Ok.of (a := ((nr (fun j => fa w c (vf (at' ms j))) (q.length + 1) : Int), fr (fa w c (vf (at' ms (nr (fun j => fa w c (vf (at' ms j))) (q.length + 1))))))) ?_ (Ok.mk ⟨?_, ?_⟩)
    · show cond _ _ _ = _
      have e3 : nr (fun j => fa w c (vf (at' ms j))) (q.length + 1) = if fa w c (vf (at' ms q.length)) < fa w c (vf (at' ms (nr (fun j => fa w c (vf (at' ms j))) q.length))) then q.length else nr (fun j => fa w c (vf (at' ms j))) q.length := rfl
      rw [e3]
      split
      · rename_i h
        rw [decide_eq_true h]
        rfl
      · rename_i h
        rw [decide_eq_false h]
        rfl
    · rw [List.length_append, List.length_singleton, List.range_succ, ← hq]
    · rw [List.length_append, List.length_singleton]
  · rintro s ⟨_, rfl⟩
    rw [List.length_range]
    exact Ok.mk rfl
theorem napp_eq {α : Type} {dss : List (List α)} {i : Nat} {x : α} (hi : i < dss.length) (hl : dss[i].length ≤ 16000000) : napp dss (i : Int) x = some (dss.set i (dss[i] ++ [x])) := by
  unfold napp
  refine Ok.eq (Ok.of (a := i) ?_ (Ok.of (List.getElem?_eq_getElem hi) (ok_len hl (Ok.mk rfl))))
  have h1 := getI_ix (getI_nat (xs := dss) (i := (i : Int)) (by omega) (by rw [Int.toNat_natCast]; exact List.getElem?_eq_getElem hi))
  obtain ⟨k, h2, h3⟩ := h1
  rw [h2]
  unfold ixN at h2
  split at h2
  · split at h2 <;> first | (cases h2; rw [Int.toNat_natCast]) | cases h2
  · omega
theorem shared_eq {w k : Nat} {rows : List Rw} {ms : List Vec} (h : Rs w rows) (hm : Ms w k ms) (h0 : ms ≠ []) (hl : ms.length ≤ 60) (hw : w ≤ 5) (hk : k ≤ 300) : m_shared_out rows (mF ms) = some ((List.range ms.length).map (share w rows ms)) := by
  refine Ok.eq ?_
  have hlen := h.len
  unfold m_shared_out
  refine ok_len (by show (mF ms).length ≤ _; rw [show (mF ms).length = ms.length from List.length_map _]; omega) (Ok.bind (ok_for (fun q s => s = (List.range ms.length).map (share w q ms)) ?_ ?_) ?_)
  · show List.map (fun _ => ([] : List Rw)) (ms.map vF) = _
    rw [List.map_map]
    refine List.ext_getElem (by rw [List.length_map, List.length_map, List.length_range]) fun i h1 h2 => ?_
    rw [List.getElem_map, List.getElem_map]
    rfl
  · rintro q r t s e rfl
    have hr : r ∈ rows := by rw [e]; simp
    have hn := (FQ.near_spec (w := w) h0 r.1).1
    have hq : q.length ≤ 60 := by
      have := congrArg List.length e
      rw [List.length_append, List.length_cons] at this
      omega
    refine Ok.of (near_eq (h.ok r hr).good hm h0 hl hw hk) ?_
    have hlen2 : ((List.range ms.length).map (share w q ms)).length = ms.length := by rw [List.length_map, List.length_range]
    refine Ok.of (napp_eq (by rw [hlen2]; exact hn) ?_) (Ok.mk ?_)
    · rw [List.getElem_map]
      exact Nat.le_trans (List.length_filter_le _ _) (by omega)
    · refine List.ext_getElem (by rw [List.length_set, List.length_map, List.length_map]) fun i h1 h2 => ?_
      have hi : i < ms.length := by rw [List.length_map, List.length_range] at h2; exact h2
      rw [List.getElem_set]
      by_cases hi2 : near w ms r.1 = i
      · subst hi2
        rw [if_pos rfl, List.getElem_map, List.getElem_map, List.getElem_range]
        unfold share
        rw [List.filter_append]
        congr 1
        simp
      · rw [if_neg hi2]
        simp only [List.getElem_map, List.getElem_range]
        unfold share
        rw [List.filter_append]
        simp [hi2]
  · rintro s rfl
    exact Ok.mk rfl
theorem moved_eq {w k : Nat} {rows : List Rw} {ms : List Vec} (h : Rs w rows) (hm : Ms w k ms) (h0 : ms ≠ []) (hl : ms.length ≤ 60) (hw : w ≤ 5) (hk : k ≤ 300) : m_moved_once rows (mF ms) = some (mF (mv w rows ms)) := by
  refine Ok.eq ?_
  unfold m_moved_once
  refine Ok.of (shared_eq h hm h0 hl hw hk) ?_
  have ez : List.zip (mF ms) ((List.range ms.length).map (share w rows ms)) = (List.range ms.length).map fun j => (vF (at' ms j), share w rows ms j) := by
    refine List.ext_getElem (by rw [List.length_zip, List.length_map, List.length_map, List.length_map, List.length_range, Nat.min_self]) fun i h1 h2 => ?_
    have hi : i < ms.length := by rw [List.length_map, List.length_range] at h2; exact h2
    rw [List.getElem_zip, List.getElem_map, List.getElem_map, List.getElem_map, List.getElem_range]
    congr 1
    have := at_get hi
    rw [List.getElem?_eq_getElem hi] at this
    rw [Option.some.inj this]
  rw [ez, forF_map]
  refine Ok.bind (ok_for (fun q s => s = q.map fun j => vF (mvk w rows ms j)) rfl ?_) ?_
  · rintro q j r s e rfl
    have hj : j < ms.length := List.mem_range.mp (by rw [e]; simp)
    have hq : q.length ≤ 60 := by
      have := congrArg List.length e
      rw [List.length_range, List.length_append, List.length_cons] at this
      omega
    refine Ok.of (a := vF (mvk w rows ms j)) ?_ (ok_len (by rw [List.length_map]; omega) (Ok.mk (by rw [List.map_append]; rfl)))
    unfold mvk
    by_cases hs : share w rows ms j = []
    · rw [if_neg (fun z => z hs)]
      show cond (decide ((0 : Int) < ((share w rows ms j).length : Int))) _ _ = _
      rw [hs, decide_eq_false (by show ¬ ((0 : Int) < 0); omega)]
      rfl
    · rw [if_pos hs]
      have hp := List.length_pos_iff.mpr hs
      show cond (decide ((0 : Int) < ((share w rows ms j).length : Int))) _ _ = _
      rw [decide_eq_true (by omega)]
      exact Ok.eq (Ok.of (middle_eq (h.sub List.filter_sublist) hs hw) (Ok.mk rfl))
  · rintro s rfl
    unfold mv
    exact Ok.mk (by show _ = ((List.range ms.length).map (mvk w rows ms)).map vF; rw [List.map_map]; rfl)
theorem vF_inj {a b : Vec} (h : vF a = vF b) : a = b := by
  have h1 := congrArg List.length h
  rw [List.length_map, List.length_map] at h1
  refine List.ext_getElem h1 fun i g1 g2 => fr_inj ?_
  have := congrArg (fun l => l[i]?) h
  simp only [vF, List.getElem?_map, List.getElem?_eq_getElem g1, List.getElem?_eq_getElem g2, Option.map_some] at this
  exact Option.some.inj this
theorem mF_inj {a b : List Vec} (h : mF a = mF b) : a = b := by
  have h1 := congrArg List.length h
  rw [List.length_map, List.length_map] at h1
  refine List.ext_getElem h1 fun i g1 g2 => vF_inj ?_
  have := congrArg (fun l => l[i]?) h
  simp only [mF, List.getElem?_map, List.getElem?_eq_getElem g1, List.getElem?_eq_getElem g2, Option.map_some] at this
  exact Option.some.inj this
theorem resting_eq {w k : Nat} {rows : List Rw} {ms : List Vec} (h : Rs w rows) (hm : Ms w k ms) (h0 : ms ≠ []) (hl : ms.length ≤ 60) (hw : w ≤ 5) (hk : k ≤ 300) : m_is_resting rows (mF ms) = some (decide (mv w rows ms = ms)) := by
  refine Ok.eq ?_
  unfold m_is_resting
  refine Ok.of (moved_eq h hm h0 hl hw hk) (Ok.mk ?_)
  exact decide_eq_decide.mpr ⟨mF_inj, fun e => by rw [e]⟩
/-! ### search -/
open GR (Gp tot put ways allG ltG ltK upd search Opt)
def stG (w : Nat) (g : Gp) : Gp × List (Int × Int) := (g, g.map fun s => fr (sp w s))
def encK (o : Option (Rat × Gp)) : Option ((Int × Int) × Gp) := o.map fun p => (fr p.1, p.2)
theorem cut_from {α : Type} {xs : List α} {a : Nat} (h : a ≤ xs.length) : cutI xs (some (a : Int)) none = xs.drop a := by
  unfold cutI
  rw [show HT.sIx xs.length xs.length none = xs.length from rfl, show HT.sIx xs.length 0 (some (a : Int)) = min a xs.length from HT.sIx_nat xs.length 0 a, Nat.min_eq_left h]
  exact List.take_of_length_le (by rw [List.length_drop]; omega)
theorem cut_ab {α : Type} {xs : List α} {a b : Nat} (h : a ≤ b) (hb : b ≤ xs.length) : cutI xs (some (a : Int)) (some (b : Int)) = (xs.drop a).take (b - a) := by
  unfold cutI
  rw [show HT.sIx xs.length xs.length (some (b : Int)) = min b xs.length from HT.sIx_nat xs.length xs.length b, show HT.sIx xs.length 0 (some (a : Int)) = min a xs.length from HT.sIx_nat xs.length 0 a, Nat.min_eq_left hb, Nat.min_eq_left (by omega)]
structure Gm (pre : List Rw) (g : Gp) : Prop where
  sub : ∀ s ∈ g, s.Sublist pre
  ne : ∀ s ∈ g, s ≠ []
theorem sum_sp {w : Nat} {g : Gp} (hr : ∀ s ∈ g, Rs w s ∧ s ≠ []) (h0 : g ≠ []) (hl : g.length ≤ 60) (hw : w ≤ 5) : m_sum_of (g.map fun s => fr (sp w s)) = some (fr (tot w g)) := by
  have h := sum_eq (k := 60) (l := g.map (sp w)) (by simpa using h0) (fun x hx => by
    obtain ⟨s, hs, rfl⟩ := List.mem_map.mp hx
    exact sz_sp (hr s hs).1 (hr s hs).2 hw) (by rw [List.length_map]; omega)
  rw [List.map_map, FQ.Sm_map] at h
  exact h
theorem sz_tot {w : Nat} {g : Gp} (hr : ∀ s ∈ g, Rs w s ∧ s ≠ []) (hl : g.length ≤ 60) (hw : w ≤ 5) : Sz 3700 (tot w g) := by
  have h := sz_sum (k := 60) (l := g.map (sp w)) fun x hx => by
    obtain ⟨s, hs, rfl⟩ := List.mem_map.mp hx
    exact sz_sp (hr s hs).1 (hr s hs).2 hw
  rw [FQ.Sm_map, List.length_map] at h
  exact Sz.mono h (by omega)
theorem total_eq {w : Nat} {g : Gp} (hr : ∀ s ∈ g, Rs w s ∧ s ≠ []) (h0 : g ≠ []) (hl : g.length ≤ 60) (hw : w ≤ 5) : m_total_of g = some (fr (tot w g)) := by
  refine Ok.eq ?_
  unfold m_total_of
  exact ok_len (by omega) (Ok.of (mapO_of (g := fun s => fr (sp w s)) fun s hs => Ok.eq (Ok.of (spread_eq (hr s hs).1 (hr s hs).2 hw) (Ok.mk rfl))) (Ok.of (sum_sp hr h0 hl hw) (Ok.mk rfl)))
theorem rep_b2 {α : Type} (x : α) (b : Bool) : repI [x] (b2 b) = some (cond b [x] []) := by
  cases b <;> rfl
theorem ltRow_eq : EncO.lt (dP (dU dI) dI) = GR.ltRow := rfl
theorem srt_app {s : List Rw} {r : Rw} (h : (s ++ [r]).Pairwise fun a b => GR.ltRow a b = true) : srt (EncO.lt (dP (dU dI) dI)) (s ++ [r]) = s ++ [r] :=
  srt_uniq (lt := GR.ltRow) (List.Perm.refl _) (h.imp fun h => Tot.asym (lt := GR.ltRow) inferInstance h)
theorem put_set {g : Gp} {r : Rw} {i : Nat} (hi : i < g.length) : put g r i = g.set i (g[i] ++ [r]) := by
  unfold GR.put
  rw [if_pos hi]
  refine List.ext_getElem? fun k => ?_
  rw [List.getElem?_modify, List.getElem?_set]
  by_cases hk : i = k
  · subst hk
    rw [if_pos rfl, if_pos hi, List.getElem?_eq_getElem hi, Option.map_eq_map, Option.map_some, if_pos rfl]
  · rw [if_neg hk]
    cases g[k]? with
    | none => rfl
    | some a => rw [Option.map_eq_map, Option.map_some, if_neg hk]
theorem setI_nat {α : Type} {xs : List α} {i : Nat} {x : α} (h : i < xs.length) : setI xs (i : Int) x = some (xs.set i x) := by
  unfold setI
  obtain ⟨k, h2, h3⟩ := getI_ix (getI_nat (xs := xs) (i := (i : Int)) (by omega) (by rw [Int.toNat_natCast]; exact List.getElem?_eq_getElem h))
  rw [h2]
  unfold ixN at h2
  split at h2
  · split at h2 <;> first | (cases h2; rw [Int.toNat_natCast]; rfl) | cases h2
  · omega
theorem allS_map {α : Type} : ∀ xs : List α, allS (xs.map some) = some xs
  | [] => rfl
  | x :: xs => by
    show (some x).bind (fun y => (allS (xs.map some)).bind fun ys => some (y :: ys)) = _
    rw [allS_map xs]
    rfl
theorem put_ne {pre : List Rw} {g : Gp} {r : Rw} {i : Nat} (m : Gm pre g) : Gm (pre ++ [r]) (put g r i) := by
  refine ⟨fun s hs => ?_, fun s hs => ?_⟩
  · unfold GR.put at hs
    split at hs
    · rcases GR.mem_modify hs with z | ⟨t, ht, rfl⟩
      · exact (m.sub s z).trans (List.sublist_append_left _ _)
      · exact (m.sub t ht).append (List.Sublist.refl _)
    · rcases List.mem_append.mp hs with z | z
      · exact (m.sub s z).trans (List.sublist_append_left _ _)
      · rw [List.mem_singleton.mp z]
        exact List.sublist_append_right _ _
  · unfold GR.put at hs
    split at hs
    · rcases GR.mem_modify hs with z | ⟨t, ht, rfl⟩
      · exact m.ne s z
      · simp
    · rcases List.mem_append.mp hs with z | z
      · exact m.ne s z
      · rw [List.mem_singleton.mp z]
        simp
theorem with_row_eq {w : Nat} {pre : List Rw} {g : Gp} {r : Rw} {i : Nat} (hr : Rs w (pre ++ [r])) (pw : (pre ++ [r]).Pairwise fun a b => GR.ltRow a b = true) (m : Gm pre g) (hl : g.length ≤ 60) (hi : i ≤ g.length) (hw : w ≤ 5) : m_Groups_with_row (stG w g) r (i : Int) = some (stG w (put g r i)) := by
  refine Ok.eq ?_
  have small : ∀ s ∈ g, s.length ≤ 60 := fun s hs => Nat.le_trans (m.sub s hs).length_le (Nat.le_trans (by rw [List.length_append]; omega) hr.len)
  have m2 := put_ne (r := r) (i := i) m
  unfold m_Groups_with_row
  show Ok ((lenG g.length).bind _) _
  refine ok_len (by omega) ?_
  rw [show List.map (fun (v_group2 : List Rw) => v_group2) (stG w g).1 = g from List.map_id' _]
  show Ok ((repI [([] : List Rw)] (b2 (decide ((i : Int) = (g.length : Int))))).bind _) _
  refine Ok.of (rep_b2 _ _) ?_
  by_cases h : i < g.length
  · rw [decide_eq_false (show ¬ (i : Int) = (g.length : Int) by omega)]
    show Ok ((lenG (g.length + 0)).bind _) _
    rw [show g ++ cond false [([] : List Rw)] [] = g from List.append_nil _]
    have hsub : (g[i] ++ [r]).Sublist (pre ++ [r]) := (m.sub _ (List.getElem_mem h)).append (List.Sublist.refl _)
    refine ok_len (by omega) (Ok.of (getI_nat (by omega) (by rw [Int.toNat_natCast]; exact List.getElem?_eq_getElem h)) (ok_len (by have := small _ (List.getElem_mem h); show _ + 1 ≤ _; omega) ?_))
    rw [srt_app (pw.sublist hsub)]
    refine Ok.of (setI_nat h) ?_
    show Ok ((repI [(none : Option (Int × Int))] (b2 (decide ((i : Int) = (g.length : Int))))).bind _) _
    refine Ok.of (rep_b2 _ _) ?_
    rw [decide_eq_false (show ¬ (i : Int) = (g.length : Int) by omega)]
    have e1 : getI (g.set i (g[i] ++ [r])) (i : Int) = some (g[i] ++ [r]) := getI_nat (by omega) (by rw [Int.toNat_natCast, List.getElem?_set_self h])
    refine ok_len (by show (List.map some (g.map _)).length + 0 ≤ _; rw [List.length_map, List.length_map]; omega) (Ok.of e1 (Ok.of (spread_eq (hr.sub hsub) (by simp) hw) (Ok.of (setI_nat (by show _ < (List.map some (g.map _) ++ []).length; rw [List.append_nil, List.length_map, List.length_map]; exact h)) ?_)))
    have e2 : (List.map some (stG w g).2 ++ cond false [(none : Option (Int × Int))] []).set i (some (fr (sp w (g[i] ++ [r])))) = ((put g r i).map fun s => fr (sp w s)).map some := by
      rw [show List.map some (stG w g).2 ++ cond false [(none : Option (Int × Int))] [] = List.map some (g.map fun s => fr (sp w s)) from List.append_nil _, ← List.map_set, ← List.map_set (f := fun s => fr (sp w s)) (a := g[i] ++ [r]), put_set h]
    rw [e2]
    refine Ok.of (allS_map _) (Ok.of rfl (Ok.mk ?_))
    rw [← put_set h]
    rfl
  · have hi2 : i = g.length := by omega
    subst hi2
    rw [decide_eq_true rfl]
    show Ok ((lenG (g.length + 1)).bind _) _
    have h2 : g.length < (g ++ [([] : List Rw)]).length := by rw [List.length_append]; exact Nat.lt_succ_self _
    have e0 : getI (g ++ [([] : List Rw)]) (g.length : Int) = some [] := getI_nat (by omega) (by rw [Int.toNat_natCast, List.getElem?_append_right (Nat.le_refl _), Nat.sub_self]; rfl)
    have ep : (g ++ [([] : List Rw)]).set g.length [r] = put g r g.length := by
      unfold GR.put
      rw [if_neg (by omega), List.set_append_right _ _ (Nat.le_refl _), Nat.sub_self]
      rfl
    refine ok_len (by omega) (Ok.of e0 (ok_len (by show 0 + 1 ≤ _; omega) ?_))
    rw [srt_app (s := []) (List.pairwise_singleton _ _)]
    refine Ok.of (setI_nat h2) ?_
    show Ok ((repI [(none : Option (Int × Int))] (b2 (decide ((g.length : Int) = (g.length : Int))))).bind _) _
    refine Ok.of (rep_b2 _ _) ?_
    rw [decide_eq_true rfl]
    have e1 : getI ((g ++ [([] : List Rw)]).set g.length ([] ++ [r])) (g.length : Int) = some [r] := getI_nat (by omega) (by rw [Int.toNat_natCast, List.getElem?_set_self h2]; rfl)
    refine ok_len (by show (List.map some (g.map _)).length + 1 ≤ _; rw [List.length_map, List.length_map]; omega) (Ok.of e1 (Ok.of (spread_eq (hr.sub (List.sublist_append_right _ _)) (by simp) hw) (Ok.of (setI_nat (by show _ < (List.map some (g.map _) ++ [none]).length; rw [List.length_append, List.length_map, List.length_map]; exact Nat.lt_succ_self _)) ?_)))
    have e2 : (List.map some (stG w g).2 ++ cond true [(none : Option (Int × Int))] []).set g.length (some (fr (sp w [r]))) = ((put g r g.length).map fun s => fr (sp w s)).map some := by
      show (List.map some (g.map fun s => fr (sp w s)) ++ [none]).set g.length _ = _
      rw [List.set_append_right _ _ (by rw [List.length_map, List.length_map]; exact Nat.le_refl _), List.length_map, List.length_map, Nat.sub_self]
      unfold GR.put
      rw [if_neg (by omega), List.map_append, List.map_append]
      rfl
    rw [e2]
    refine Ok.of (allS_map _) (Ok.of rfl (Ok.mk ?_))
    show ((g ++ [([] : List Rw)]).set g.length [r], _) = _
    rw [ep]
    rfl
theorem ways_eq {w many : Nat} {pre : List Rw} {g : Gp} {r : Rw} (hr : Rs w (pre ++ [r])) (pw : (pre ++ [r]).Pairwise fun a b => GR.ltRow a b = true) (m : Gm pre g) (hl : g.length ≤ 60) (hw : w ≤ 5) : m_Groups_ways (stG w g) r (many : Int) = some ((ways many g r).map (stG w)) := by
  refine Ok.eq ?_
  unfold m_Groups_ways
  have e : (g.length : Int) + b2 (decide ((g.length : Int) < (many : Int))) = ((g.length + if g.length < many then 1 else 0 : Nat) : Int) := by
    by_cases h : g.length < many
    · rw [decide_eq_true (by omega), if_pos h]; rfl
    · rw [decide_eq_false (by omega), if_neg h]; rfl
  refine Ok.of rfl ?_
  show Ok ((rngG 0 ((g.length : Int) + b2 (decide ((g.length : Int) < (many : Int))))).bind _) _
  rw [e]
  have hle : (g.length + if g.length < many then 1 else 0) ≤ 61 := by split <;> omega
  refine ok_rng (by omega) (by omega) (ok_len (by rw [rng_len]; omega) (Ok.of (mapO_of (g := fun i : Int => stG w (put g r i.toNat)) fun i hi => ?_) (Ok.mk ?_)))
  · obtain ⟨h0, h1⟩ := mem_rng.mp hi
    have h2 : i.toNat ≤ g.length := by split at h1 <;> omega
    have := with_row_eq hr pw m hl h2 hw
    rw [Int.toNat_of_nonneg h0] at this
    exact Ok.eq (Ok.of this (Ok.mk rfl))
  · unfold rng GR.ways
    rw [List.map_map, List.map_map, Int.sub_zero, Int.toNat_natCast]
    refine List.map_congr_left fun i _ => ?_
    show stG w (put g r (0 + (i : Int)).toNat) = _
    rw [show (0 + (i : Int)).toNat = i by omega]
    rfl
theorem better_eq {x y : Rat} {g h : Gp} {a b : Nat} (hx : Sz a x) (hy : Sz b y) (hab : a + b < 1000000) : m_is_better (fr x, g) (fr y, h) = some (ltK (x, g) (y, h)) := by
  refine Ok.eq ?_
  unfold m_is_better
  refine Ok.of (before_eq hx hy hab) ?_
  unfold GR.ltK ltP
  show Ok (cond (decide (x < y)) (some true) (some (decide (fr x = fr y) && GR.ltG g h))) fun b => b = if x = y then GR.ltG g h else decide (x < y)
  by_cases e : x = y
  · subst e
    rw [decide_eq_false Rat.lt_irrefl, if_pos rfl, decide_eq_true rfl]
    exact Ok.mk rfl
  · rw [if_neg e, decide_eq_false (show ¬ fr x = fr y from fun z => e (fr_inj z))]
    cases decide (x < y) <;> exact Ok.mk rfl
theorem below_eq {w many : Nat} {rows : List Rw} (h : Rs w rows) (pw : rows.Pairwise fun a b => GR.ltRow a b = true) (hmany : many ≤ 50) (hw : w ≤ 5) : ∀ (n : Nat) (rs pre : List Rw) (g : Gp) (o : Option (Rat × Gp)), rows = pre ++ rs → rs.length < n → Gm pre g → g.length ≤ 50 → (g ≠ [] ∨ (o = none ∧ rs ≠ [])) → (∀ b, o = some b → Sz 3700 b.1) →
    m_better_below n rs (many : Int) (stG w g) (encK o) = some (encK (search w o (allG many rs g))) ∧ ∀ b, search w o (allG many rs g) = some b → Sz 3700 b.1
  | 0, _, _, _, _, _, hn, _, _, _, _ => by omega
  | n + 1, rs, pre, g, o, hr, hn, m, hl, h0, ho => by
    have hsub : ∀ s ∈ g, s.Sublist rows := fun s hs => (m.sub s hs).trans (by rw [hr]; exact List.sublist_append_left _ _)
    have hok : ∀ s ∈ g, Rs w s ∧ s ≠ [] := fun s hs => ⟨h.sub (hsub s hs), m.ne s hs⟩
    have hpos : GR.Pos g := fun s hs r hr2 => h.pos r ((hsub s hs).subset hr2)
    have hrp : ∀ r ∈ rs, 0 < r.2 := fun r hr2 => h.pos r (by rw [hr]; exact List.mem_append_right _ hr2)
    have hsz := sz_tot hok (by omega) hw
    -- the pruned
    have prune : ∀ b : Rat × Gp, o = some b → b.1 < tot w g → search w o (allG many rs g) = o := fun b e hlt => by
      rw [e]
      refine GR.search_prune fun g' hg' => ?_
      have := GR.allG_ge (w := w) hrp hpos hg'
      grind
    have far : ∀ b : Rat × Gp, o = some b → g ≠ [] := fun b e => h0.resolve_right fun z => by rw [e] at z; cases z.1
    -- the rest
    have rest : ∀ c : Bool, (c = true → ∃ b, o = some b ∧ b.1 < tot w g) → Ok (cond c (some (encK o)) ((cond (decide ((List.length rs : Int) = (0 : Int))) (((m_Groups_so_far (stG w g)).bind fun t9 => ((some (t9, (stG w g).1)).bind fun v_found11 => ((cond (encK o).isNone (some true) (((encK o).bind fun w13 => ((m_is_better v_found11 w13).bind fun t15 => some t15)))).bind fun b17 => some (cond b17 (some v_found11) (encK o)))))) (((getI rs (0 : Int)).bind fun t19 => ((m_Groups_ways (stG w g) t19 (many : Int)).bind fun t21 => ((forF (fun (s_ : (Option ((Int × Int) × (List (List ((List Int) × Int)))))) => (fun (v_further23 : ((List (List ((List Int) × Int))) × (List (Int × Int)))) => (fun (v_best24 : (Option ((Int × Int) × (List (List ((List Int) × Int)))))) => ((m_better_below n (cutI rs (some (1 : Int)) none) (many : Int) v_further23 v_best24).bind fun t27 => some t27)) s_)) (encK o) t21).bind fun v_best29 => some v_best29))))))) fun r => r = encK (search w o (allG many rs g)) ∧ ∀ b, search w o (allG many rs g) = some b → Sz 3700 b.1 := fun c hc => by
      refine ok_cond (fun e => ?_) fun _ => ?_
      · obtain ⟨b, e1, e2⟩ := hc e
        rw [prune b e1 e2]
        exact Ok.mk ⟨rfl, ho⟩
      · cases rs with
        | nil =>
          have hg : g ≠ [] := h0.resolve_right fun z => z.2 rfl
          have hs := sum_sp hok hg (by omega) hw
          have eq2 : search w o (allG many [] g) = upd w o g := rfl
          rw [eq2]
          show Ok ((m_Groups_so_far (stG w g)).bind _) _
          refine Ok.of (a := fr (tot w g)) (by unfold m_Groups_so_far; exact Ok.eq (Ok.of hs (Ok.mk rfl))) (Ok.of rfl ?_)
          cases o with
          | none =>
            exact Ok.mk ⟨rfl, fun b e => by rw [← Option.some.inj (show some (tot w g, g) = some b from e)]; exact hsz⟩
          | some b =>
            show Ok (((m_is_better (fr (tot w g), g) (fr b.1, b.2)).bind fun t15 => some t15).bind _) _
            rw [better_eq hsz (ho b rfl) (by omega)]
            show Ok (some (cond (ltK (tot w g, g) b) (some (fr (tot w g), g)) (encK (some b)))) _
            have eu : upd w (some b) g = if ltK (tot w g, g) b = true then some (tot w g, g) else some b := rfl
            rw [eu]
            cases ltK (tot w g, g) b with
            | true => exact Ok.mk ⟨rfl, fun b e => by rw [← Option.some.inj (show some (tot w g, g) = some b from e)]; exact hsz⟩
            | false => exact Ok.mk ⟨rfl, ho⟩
        | cons r rs =>
          rw [decide_eq_false (show ¬ (((r :: rs).length : Int) = 0) by rw [List.length_cons]; omega)]
          show Ok ((getI (r :: rs) (0 : Int)).bind _) _
          have hr2 : rows = (pre ++ [r]) ++ rs := by rw [hr, List.append_assoc]; rfl
          have hsb : (pre ++ [r]).Sublist rows := by rw [hr2]; exact List.sublist_append_left _ _
          refine Ok.of (a := r) (getI_nat (by omega) rfl) (Ok.of (ways_eq (h.sub hsb) (pw.sublist hsb) m (by omega) hw) ?_)
          rw [forF_map]
          have ecut : cutI (r :: rs) (some (1 : Int)) none = rs := cut_from (xs := r :: rs) (a := 1) (by rw [List.length_cons]; omega)
          rw [ecut]
          have eall : search w o (allG many (r :: rs) g) = (ways many g r).foldl (fun o g1 => search w o (allG many rs g1)) o := GR.search_flat
          rw [eall]
          refine Ok.bind (ok_for (fun q s => s = encK (q.foldl (fun o g1 => search w o (allG many rs g1)) o) ∧ ∀ b, q.foldl (fun o g1 => search w o (allG many rs g1)) o = some b → Sz 3700 b.1) ⟨rfl, ho⟩ ?_) (fun s hs => Ok.mk hs)
          rintro q g1 r1 s e ⟨rfl, hs⟩
          have hg1 : g1 ∈ ways many g r := by rw [e]; simp
          have hlen1 : g1.length ≤ 50 := by
            have := (GR.ways_len (many := many) (g := g) (r := r)).2 g1 hg1
            omega
          obtain ⟨i, _, eg⟩ := GR.mem_ways.mp hg1
          subst eg
          have hne : put g r i ≠ [] := by
            unfold GR.put
            split
            · intro z
              have := congrArg List.length z
              rw [List.length_modify] at this
              rw [List.length_nil] at this
              omega
            · simp
          obtain ⟨k1, k2⟩ := below_eq h pw hmany hw n rs (pre ++ [r]) (put g r i) (q.foldl (fun o g1 => search w o (allG many rs g1)) o) hr2 (by rw [List.length_cons] at hn; omega) (put_ne m) hlen1 (.inl hne) hs
          refine Ok.of k1 (Ok.mk ?_)
          rw [List.foldl_append]
          exact ⟨rfl, k2⟩
    have key : Ok (m_better_below (n + 1) rs (many : Int) (stG w g) (encK o)) fun r => r = encK (search w o (allG many rs g)) ∧ ∀ b, search w o (allG many rs g) = some b → Sz 3700 b.1 := by
      unfold m_better_below
      cases o with
      | none => exact rest false fun e => by cases e
      | some b =>
        have hs := sum_sp hok (far b rfl) (by omega) hw
        have hs2 : m_Groups_so_far (stG w g) = some (fr (tot w g)) := by unfold m_Groups_so_far; exact Ok.eq (Ok.of hs (Ok.mk rfl))
        refine Ok.of (a := decide (b.1 < tot w g)) (Ok.eq (o := (some (fr b.1, b.2)).bind fun w1 => (m_Groups_so_far (stG w g)).bind fun t3 => (m_before w1.1 t3).bind fun t5 => some t5) (Ok.of rfl (Ok.of hs2 (Ok.of (before_eq (ho b rfl) hsz (by omega)) (Ok.mk rfl))))) ?_
        exact rest (decide (b.1 < tot w g)) fun e => ⟨b, rfl, of_decide_eq_true e⟩
    obtain ⟨r, e, rfl, k2⟩ := key
    exact ⟨e, k2⟩
theorem groups_eq {w many : Nat} {rows : List Rw} (h : Rs w rows) (pw : rows.Pairwise fun a b => GR.ltRow a b = true) (h0 : rows ≠ []) (hl : rows.length ≤ 11) (hm : 0 < many) (hmany : many ≤ 50) (hw : w ≤ 5) : ∃ g, m_best_groups rows (many : Int) = some (fr (tot w g), g) ∧ Opt w many rows g ∧ ∀ t ∈ allG many rows [], tot w t = tot w g → ltG t g = false := by
  obtain ⟨g, h1, h2, h3⟩ := GR.search_none (w := w) (GR.allG_ne (many := many) (rs := rows) (g := []) hm)
  have hb := below_eq h pw hmany hw 12 rows [] [] none rfl (by omega) ⟨(fun _ h => nomatch h), (fun _ h => nomatch h)⟩ (Nat.zero_le _) (.inr ⟨rfl, h0⟩) fun _ h => nomatch h
  refine ⟨g, Ok.eq ?_, ⟨h1, fun g' hg' => GR.ltK_le (h3 g' hg')⟩, fun t ht e => GR.ltK_tie (h3 t ht) e⟩
  unfold m_best_groups
  refine Ok.of (a := stG w []) rfl (Ok.of (a := some (fr (tot w g), g)) ?_ (Ok.mk rfl))
  have := hb.1
  rw [h2] at this
  exact this
/-! ### line -/
open GR (Cut LeastCut bg ltD ltB Line)
/-! the sums so far -/
def upto (F : List Rw → Int) (q : List Rw) : List Int := (List.range (q.length + 1)).map fun i => F (q.take i)
theorem upto_app (F : List Rw → Int) (q : List Rw) (x : Rw) : upto F (q ++ [x]) = upto F q ++ [F (q ++ [x])] := by
  unfold upto
  rw [List.length_append, List.length_singleton, List.range_succ, List.map_append]
  congr 1
  · refine List.map_congr_left fun i hi => ?_
    have := List.mem_range.mp hi
    rw [List.take_append_of_le_length (by omega)]
  · show [F ((q ++ [x]).take (q.length + 1))] = _
    rw [List.take_of_length_le (by rw [List.length_append]; exact Nat.le_refl _)]
theorem upto_len (F : List Rw → Int) (q : List Rw) : (upto F q).length = q.length + 1 := by
  unfold upto
  rw [List.length_map, List.length_range]
theorem upto_at (F : List Rw → Int) {q : List Rw} {i : Nat} (h : i ≤ q.length) : getI (upto F q) (i : Int) = some (F (q.take i)) := by
  refine getI_nat (by omega) ?_
  unfold upto
  rw [Int.toNat_natCast, List.getElem?_map, List.getElem?_range (by omega)]
  rfl
theorem getI_last {α : Type} {xs : List α} {x : α} : getI (xs ++ [x]) (-(1 : Int)) = some x := by
  unfold getI atI ixN
  rw [List.length_append, List.length_singleton, if_neg (by omega), if_pos (by omega)]
  show (xs ++ [x])[_]? = _
  rw [show (-1 + ((xs.length + 1 : Nat) : Int)).toNat = xs.length by omega, List.getElem?_append_right (Nat.le_refl _), Nat.sub_self]
  rfl
theorem upto_last (F : List Rw → Int) (q : List Rw) : getI (upto F q) (-(1 : Int)) = some (F q) := by
  have : upto F q = (List.range q.length).map (fun i => F (q.take i)) ++ [F q] := by
    unfold upto
    rw [List.range_succ, List.map_append]
    show _ ++ [F (q.take q.length)] = _
    rw [List.take_length]
  rw [this]
  exact getI_last
def nums (rows : List Rw) : List (Int × Int) := rows.map fun r => (co r.1 0, r.2)
theorem ones_eq {rows : List Rw} (h : Rs 1 rows) : onesP rows = some (nums rows) := by
  unfold onesP nums
  refine mapO_of fun r hr => ?_
  obtain ⟨c, n⟩ := r
  have hl := (h.ok _ hr).good.1
  match c, hl with
  | [x], _ => rfl
theorem Wi_app (a b : List Rw) : Wi (a ++ b) = Wi a + Wi b := by
  unfold FQ.Wi
  rw [List.map_append, List.sum_append]
theorem sN_app (a b : List Rw) (p : Nat) : sN (a ++ b) p = sN a p + sN b p := by
  unfold sN
  rw [List.map_append, List.sum_append]
theorem sQ_app (a b : List Rw) (p : Nat) : sQ (a ++ b) p = sQ a p + sQ b p := by
  unfold sQ
  rw [List.map_append, List.sum_append]
theorem stretches_eq {rows : List Rw} (h : Rs 1 rows) : m_Stretches_init rows = some (upto Wi rows, upto (sN · 0) rows, upto (sQ · 0) rows) := by
  refine Ok.eq ?_
  have hlen := h.len
  unfold m_Stretches_init
  refine Ok.of (ones_eq h) ?_
  unfold nums
  rw [forF_map]
  refine Ok.bind (ok_for (fun q s => s = (upto Wi q, upto (sN · 0) q, upto (sQ · 0) q)) rfl ?_) ?_
  · rintro q r r2 s e rfl
    have hr : r ∈ rows := by rw [e]; simp
    have hb := h.ok r hr
    have hq : q.length ≤ 60 := by
      have := congrArg List.length e
      rw [List.length_append, List.length_cons] at this
      omega
    have m1 := bt_ct hb
    have m2 := bt_co hb 0
    have l1 := upto_len Wi q
    have l2 := upto_len (fun s => sN s 0) q
    have l3 := upto_len (fun s => sQ s 0) q
    refine Ok.of (upto_last Wi q) (ok_len (by show (upto Wi q).length ≤ _; omega) ?_)
    refine Ok.of (upto_last (fun s => sN s 0) q) (ok_mulB m1 m2 (ok_len (by show (upto (fun s => sN s 0) q).length ≤ _; omega) ?_))
    refine Ok.of (upto_last (fun s => sQ s 0) q) (ok_mulB m1 m2 (ok_mulB (m1.mul m2) m2 (ok_len (by show (upto (fun s => sQ s 0) q).length ≤ _; omega) (Ok.mk ?_))))
    rw [upto_app, upto_app, upto_app, Wi_app, sN_app, sQ_app]
    have e1 : Wi [r] = r.2 := by show r.2 + 0 = _; omega
    have e2 : sN [r] 0 = r.2 * co r.1 0 := by show r.2 * co r.1 0 + 0 = _; omega
    have e3 : sQ [r] 0 = r.2 * co r.1 0 * co r.1 0 := by show r.2 * co r.1 0 * co r.1 0 + 0 = _; omega
    rw [e1, e2, e3]
  · rintro s rfl
    exact Ok.mk rfl
/-- rows from b to before e -/
def seg (rows : List Rw) (b e : Nat) : List Rw := (rows.drop b).take (e - b)
theorem take_seg {rows : List Rw} {b e : Nat} (h : b ≤ e) : rows.take e = rows.take b ++ seg rows b e := by
  unfold seg
  have h2 := List.take_append_drop b (rows.take e)
  rw [List.take_take, Nat.min_eq_left h] at h2
  rw [← List.drop_take, h2]
theorem seg_ne {rows : List Rw} {b e : Nat} (h : b < e) (he : e ≤ rows.length) : seg rows b e ≠ [] := fun z => by
  have := congrArg List.length z
  unfold seg at this
  rw [List.length_take, List.length_drop, List.length_nil] at this
  omega
theorem seg_len {rows : List Rw} {b e : Nat} (h : b ≤ e) (he : e ≤ rows.length) : (seg rows b e).length = e - b := by
  unfold seg
  rw [List.length_take, List.length_drop]
  omega
theorem seg_sub (rows : List Rw) (b e : Nat) : (seg rows b e).Sublist rows := (List.take_sublist _ _).trans (List.drop_sublist _ _)
theorem from_eq {rows : List Rw} (h : Rs 1 rows) {b e : Nat} (hb : b < e) (he : e ≤ rows.length) : m_Stretches_spread_from (upto Wi rows) (upto (sN · 0) rows) (upto (sQ · 0) rows) (b : Int) (e : Int) = some (fr (sp 1 (seg rows b e))) := by
  refine Ok.eq ?_
  have hs := h.sub (seg_sub rows b e)
  have h0 := seg_ne hb he
  have d1 : Wi (rows.take e) - Wi (rows.take b) = Wi (seg rows b e) := by rw [take_seg (Nat.le_of_lt hb), Wi_app]; omega
  have d2 : sN (rows.take e) 0 - sN (rows.take b) 0 = sN (seg rows b e) 0 := by rw [take_seg (Nat.le_of_lt hb), sN_app]; omega
  have d3 : sQ (rows.take e) 0 - sQ (rows.take b) 0 = sQ (seg rows b e) 0 := by rw [take_seg (Nat.le_of_lt hb), sQ_app]; omega
  have a := sQ_in hs 0
  have c := sN_in hs 0
  unfold m_Stretches_spread_from
  refine Ok.of (upto_at _ he) (Ok.of (upto_at _ (by omega)) (Ok.of (a := Wi (seg rows b e)) (by rw [d1]) (Ok.of (upto_at _ he) (Ok.of (upto_at _ (by omega)) (Ok.of (a := sN (seg rows b e) 0) (by rw [d2]) (Ok.of (upto_at _ he) (Ok.of (upto_at _ (by omega)) ?_)))))))
  rw [d3]
  refine ok_mulB (n := 60) (m := 60) (Bt.of (b := 60000000000) (by omega) (by decide)) (bt_Wi hs) (ok_mulB (n := 60) (m := 60) (Bt.of (b := 60000000) (by omega) (by decide)) (Bt.of (b := 60000000) (by omega) (by decide)) ?_)
  refine Ok.of (part_eq (n := 60) (FQ.Wi_pos hs.pos h0) (bt_Wi hs)) (Ok.mk ?_)
  rw [sp_top hs h0]
  have e9 : sTop (seg rows b e) (rng 0 ((1 : Nat) : Int)) = sQ (seg rows b e) 0 * Wi (seg rows b e) - sN (seg rows b e) 0 * sN (seg rows b e) 0 := by
    show (sQ (seg rows b e) 0 * Wi (seg rows b e) - sN (seg rows b e) 0 * sN (seg rows b e) 0) + 0 = _
    omega
  rw [e9]
/-! the least from each begin -/
abbrev Pr := (Int × Int) × List Int
/-- what is told of begin b with so many stretches -/
def St (rows : List Rw) (k b : Nat) (o : Option Pr) : Prop :=
  match o with
  | none => ∀ g, Cut (rows.drop b) g → ¬ g.length ≤ k
  | some p => ∃ g, LeastCut k (b : Int) (rows.drop b) g ∧ p = (fr (tot 1 g), bg (b : Int) g)
theorem betterI_eq {x y : Rat} {g h : List Int} {a b : Nat} (hx : Sz a x) (hy : Sz b y) (hab : a + b < 1000000) : m_is_better_i (fr x, g) (fr y, h) = some (ltD (x, g) (y, h)) := by
  refine Ok.eq ?_
  unfold m_is_better_i
  refine Ok.of (before_eq hx hy hab) ?_
  unfold GR.ltD ltP
  show Ok (cond (decide (x < y)) (some true) (some (decide (fr x = fr y) && GR.ltB g h))) fun b => b = if x = y then GR.ltB g h else decide (x < y)
  by_cases e : x = y
  · subst e
    rw [decide_eq_false Rat.lt_irrefl, if_pos rfl, decide_eq_true rfl]
    exact Ok.mk rfl
  · rw [if_neg e, decide_eq_false (show ¬ fr x = fr y from fun z => e (fr_inj z))]
    cases decide (x < y) <;> exact Ok.mk rfl
theorem cut_ok {w : Nat} {rows : List Rw} {b : Nat} {g : Gp} (h : Rs w rows) (c : Cut (rows.drop b) g) : (∀ s ∈ g, Rs w s ∧ s ≠ []) ∧ g.length ≤ 60 := by
  refine ⟨fun s hs => ⟨h.sub ?_, c.ne s hs⟩, ?_⟩
  · have : s.Sublist g.flatten := List.sublist_flatten_of_mem hs
    rw [c.flat] at this
    exact this.trans (List.drop_sublist _ _)
  · have h1 := GR.flat_ge c.ne
    rw [c.flat, List.length_drop] at h1
    have := h.len
    omega
/-- the least one with its first stretch ending at one of these -/
def Ls (rows : List Rw) (k b : Nat) (q : List Nat) (o : Option Pr) : Prop :=
  match o with
  | none => ∀ s g, Cut (rows.drop b) (s :: g) → b + s.length ∈ q → ¬ (s :: g).length ≤ k + 1
  | some p => ∃ g, Cut (rows.drop b) g ∧ g.length ≤ k + 1 ∧ p = (fr (tot 1 g), bg (b : Int) g) ∧ ∀ s g', Cut (rows.drop b) (s :: g') → b + s.length ∈ q → (s :: g').length ≤ k + 1 → ltD (tot 1 (s :: g'), bg (b : Int) (s :: g')) (tot 1 g, bg (b : Int) g) = false
theorem cut_tail {rows : List Rw} {b : Nat} {s : List Rw} {g : Gp} (c : Cut (rows.drop b) (s :: g)) : s = seg rows b (b + s.length) ∧ Cut (rows.drop (b + s.length)) g ∧ b + s.length ≤ rows.length ∧ 0 < s.length := by
  have hf : s ++ g.flatten = rows.drop b := c.flat
  have h1 := congrArg List.length hf
  have h0 := List.length_pos_iff.mpr (c.ne s List.mem_cons_self)
  rw [List.length_append, List.length_drop] at h1
  refine ⟨?_, ⟨?_, fun t ht => c.ne t (List.mem_cons_of_mem _ ht)⟩, by omega, h0⟩
  · unfold seg
    rw [← hf, show b + s.length - b = s.length by omega, List.take_left]
  · rw [← List.drop_drop, ← hf, List.drop_left]
theorem cut_cons {rows : List Rw} {b e : Nat} {g : Gp} (hb : b < e) (he : e ≤ rows.length) (c : Cut (rows.drop e) g) : Cut (rows.drop b) (seg rows b e :: g) := by
  refine ⟨?_, fun t ht => ?_⟩
  · show seg rows b e ++ g.flatten = _
    rw [c.flat]
    unfold seg
    have : rows.drop e = (rows.drop b).drop (e - b) := by rw [List.drop_drop, show b + (e - b) = e by omega]
    rw [this, List.take_append_drop]
  · rcases List.mem_cons.mp ht with z | z
    · rw [z]
      exact seg_ne hb he
    · exact c.ne t z
theorem ltD_cons {x y z : Rat} {l l' : List Int} {b : Int} (h : ltD (x, l) (y, l') = false) : ltD (z + x, b :: l) (z + y, b :: l') = false := by
  unfold GR.ltD ltP at h ⊢
  show (if z + x = z + y then ltB (b :: l) (b :: l') else GR.ltR (z + x) (z + y)) = false
  by_cases e : x = y
  · subst e
    rw [if_pos rfl] at h ⊢
    show (if b = b then ltB l l' else _) = false
    rw [if_pos rfl]
    exact h
  · rw [if_neg (show ¬ (x, l).1 = (y, l').1 from e)] at h
    rw [if_neg (show ¬ z + x = z + y by grind)]
    have h1 := of_decide_eq_false h
    refine decide_eq_false fun u => h1 ?_
    show x < y
    have u' : z + x < z + y := u
    grind
theorem step_eq {rows : List Rw} (h : Rs 1 rows) {k b e : Nat} (hb : b < e) (he : e ≤ rows.length) {best : List (Option Pr)} {o : Option Pr} (hbest : getI best (e : Int) = some o) (so : St rows k e o) {q : List Nat} {least : Option Pr} (hl : Ls rows k b q least) :
    Ok ((cond o.isSome (((m_Stretches_spread_from (upto Wi rows) (upto (sN · 0) rows) (upto (sQ · 0) rows) (b : Int) (e : Int)).bind fun t560 => ((getI best (e : Int)).bind fun t562 => ((t562).bind fun w564 => ((m_plus t560 (w564).1).bind fun t566 => ((getI best (e : Int)).bind fun t568 => ((t568).bind fun w570 => ((lenG (List.length ([(b : Int)] : (List Int)) + List.length (w570).2)).bind fun u572 => ((some (t566, (([(b : Int)] : (List Int)) ++ (w570).2))).bind fun v_one574 => ((cond (least).isNone (some true) (((least).bind fun w576 => ((m_is_better_i v_one574 w576).bind fun t578 => some t578)))).bind fun b580 => ((cond b580 (((some (some v_one574)).bind fun v_least585 => some v_least585)) (some least)).bind fun v_least584 => some v_least584))))))))))) (some least)).bind fun v_least559 => some v_least559) (Ls rows k b (q ++ [e])) := by
  cases o with
  | none =>
    refine Ok.mk ?_
    have so' : ∀ g, Cut (rows.drop e) g → ¬ g.length ≤ k := so
    have no : ∀ s g, Cut (rows.drop b) (s :: g) → b + s.length = e → ¬ (s :: g).length ≤ k + 1 := fun s g c hs hlen => by
      obtain ⟨_, c2, _⟩ := cut_tail c
      rw [hs] at c2
      rw [List.length_cons] at hlen
      exact so' g c2 (by omega)
    cases least with
    | none =>
      intro s g c hm
      rcases List.mem_append.mp hm with z | z
      · exact hl s g c z
      · exact no s g c (List.mem_singleton.mp z)
    | some p =>
      obtain ⟨g, c, a1, a2, a3⟩ := hl
      refine ⟨g, c, a1, a2, fun s g' c' hm hlen => ?_⟩
      rcases List.mem_append.mp hm with z | z
      · exact a3 s g' c' z hlen
      · exact absurd hlen (no s g' c' (List.mem_singleton.mp z))
  | some p =>
    obtain ⟨ge, ⟨c1, c2, c3⟩, rfl⟩ := so
    obtain ⟨ok1, ok2⟩ := cut_ok h c1
    have hs := h.sub (seg_sub rows b e)
    have s1 := sz_sp hs (seg_ne hb he) (by omega : 1 ≤ 5)
    have s2 := sz_tot ok1 ok2 (by omega : 1 ≤ 5)
    have cc := cut_cons hb he c1
    obtain ⟨ok3, ok4⟩ := cut_ok h cc
    have hlen0 : ge.length + 1 ≤ 60 := ok4
    have s3 := sz_tot ok3 ok4 (by omega : 1 ≤ 5)
    have et : tot 1 (seg rows b e :: ge) = sp 1 (seg rows b e) + tot 1 ge := FQ.Sm_cons _ _ _
    have eb : bg (b : Int) (seg rows b e :: ge) = (b : Int) :: bg (e : Int) ge := by
      show (b : Int) :: bg ((b : Int) + ((seg rows b e).length : Int)) ge = _
      rw [seg_len (Nat.le_of_lt hb) he, show (b : Int) + ((e - b : Nat) : Int) = (e : Int) by omega]
    -- against those that end here
    have here : ∀ s g', Cut (rows.drop b) (s :: g') → b + s.length = e → (s :: g').length ≤ k + 1 → ltD (tot 1 (s :: g'), bg (b : Int) (s :: g')) (tot 1 (seg rows b e :: ge), bg (b : Int) (seg rows b e :: ge)) = false := fun s g' c' hse hlen => by
      obtain ⟨e1, e2, _⟩ := cut_tail c'
      rw [hse] at e1 e2
      rw [List.length_cons] at hlen
      have h5 := c3 g' e2 (by omega)
      have et' : tot 1 (s :: g') = sp 1 (seg rows b e) + tot 1 g' := by rw [← e1]; exact FQ.Sm_cons _ _ _
      have eb' : bg (b : Int) (s :: g') = (b : Int) :: bg (e : Int) g' := by
        show (b : Int) :: bg ((b : Int) + (s.length : Int)) g' = _
        rw [show (b : Int) + (s.length : Int) = (e : Int) by omega]
      rw [et, eb, et', eb']
      exact ltD_cons h5
    have new : Ls rows k b (q ++ [e]) (some (fr (tot 1 (seg rows b e :: ge)), bg (b : Int) (seg rows b e :: ge))) ∨ ∃ g, least = some (fr (tot 1 g), bg (b : Int) g) := by
      cases least with
      | none =>
        refine .inl ⟨_, cc, by rw [List.length_cons]; omega, rfl, fun s g' c' hm hlen => ?_⟩
        rcases List.mem_append.mp hm with z | z
        · exact absurd hlen (hl s g' c' z)
        · exact here s g' c' (List.mem_singleton.mp z) hlen
      | some p =>
        obtain ⟨g, c, a1, a2, a3⟩ := hl
        exact .inr ⟨g, by rw [a2]⟩
    refine Ok.bind (P := Ls rows k b (q ++ [e])) ?_ fun r hr => Ok.mk hr
    refine Ok.of (from_eq h hb he) (Ok.of hbest (Ok.of rfl (Ok.of (plus_eq s1 s2 (by omega)) (Ok.of hbest (Ok.of rfl (ok_len (by show 1 + (bg _ _).length ≤ _; rw [GR.bg_len]; omega) (Ok.of rfl ?_)))))))
    rw [← et]
    show Ok ((cond least.isNone (some true) (least.bind fun w576 => (m_is_better_i (fr (tot 1 (seg rows b e :: ge)), (b : Int) :: bg (e : Int) ge) w576).bind fun t578 => some t578)).bind _) _
    show Ok ((cond least.isNone (some true) (least.bind fun w576 => (m_is_better_i (fr (tot 1 (seg rows b e :: ge)), (b : Int) :: bg (e : Int) ge) w576).bind fun t578 => some t578)).bind fun b580 => (cond b580 ((some (some (fr (tot 1 (seg rows b e :: ge)), (b : Int) :: bg (e : Int) ge))).bind fun v_least585 => some v_least585) (some least)).bind fun v_least584 => some v_least584) _
    rw [← eb]
    cases least with
    | none =>
      exact Ok.mk (new.resolve_right fun ⟨g, z⟩ => by cases z)
    | some p =>
      obtain ⟨g, c, a1, rfl, a3⟩ := hl
      obtain ⟨ok5, ok6⟩ := cut_ok h c
      have s4 := sz_tot ok5 ok6 (by omega : 1 ≤ 5)
      refine Ok.of (a := ltD (tot 1 (seg rows b e :: ge), bg (b : Int) (seg rows b e :: ge)) (tot 1 g, bg (b : Int) g)) ?_ ?_
      · show ((some (fr (tot 1 g), bg (b : Int) g)).bind fun w576 => (m_is_better_i (fr (tot 1 (seg rows b e :: ge)), bg (b : Int) (seg rows b e :: ge)) w576).bind fun t578 => some t578) = _
        exact Ok.eq (Ok.of rfl (Ok.of (betterI_eq s3 s4 (by omega)) (Ok.mk rfl)))
      · cases hlt : ltD (tot 1 (seg rows b e :: ge), bg (b : Int) (seg rows b e :: ge)) (tot 1 g, bg (b : Int) g) with
        | true =>
          refine Ok.mk ⟨_, cc, by rw [List.length_cons]; omega, rfl, fun s g' c' hm hlen => ?_⟩
          rcases List.mem_append.mp hm with z | z
          · have h7 := a3 s g' c' z hlen
            exact Tot.ntr (lt := ltD) inferInstance (Tot.asym (lt := ltD) inferInstance hlt) h7
          · exact here s g' c' (List.mem_singleton.mp z) hlen
        | false =>
          refine Ok.mk ⟨g, c, a1, rfl, fun s g' c' hm hlen => ?_⟩
          rcases List.mem_append.mp hm with z | z
          · exact a3 s g' c' z hlen
          · exact Tot.ntr (lt := ltD) inferInstance hlt (here s g' c' (List.mem_singleton.mp z) hlen)
theorem rng_ab (a b : Nat) : rng (a : Int) (b : Int) = (List.range (b - a)).map fun i => (((a + i : Nat)) : Int) := by
  unfold rng
  rw [show ((b : Int) - (a : Int)).toNat = b - a by omega]
  refine List.map_congr_left fun i _ => ?_
  show (a : Int) + (i : Int) = _
  omega
theorem Ls.close {rows : List Rw} {k b : Nat} (hb : b < rows.length) {o : Option Pr} (h : Ls rows k b ((List.range (rows.length + 1 - (b + 1))).map fun i => b + 1 + i) o) : St rows (k + 1) b o := by
  have memq : ∀ s g, Cut (rows.drop b) (s :: g) → b + s.length ∈ (List.range (rows.length + 1 - (b + 1))).map fun i => b + 1 + i := fun s g c => by
    obtain ⟨_, _, h1, h2⟩ := cut_tail c
    exact List.mem_map.mpr ⟨s.length - 1, List.mem_range.mpr (by omega), by omega⟩
  have notnil : ∀ g, Cut (rows.drop b) g → ∃ s g', g = s :: g' := fun g c => by
    cases g with
    | cons s g' => exact ⟨s, g', rfl⟩
    | nil =>
      have := congrArg List.length c.flat
      rw [List.length_drop] at this
      have h3 : 0 = rows.length - b := this
      omega
  cases o with
  | none =>
    intro g c
    obtain ⟨s, g', rfl⟩ := notnil g c
    exact h s g' c (memq s g' c)
  | some p =>
    obtain ⟨g, c, a1, a2, a3⟩ := h
    refine ⟨g, ⟨c, a1, fun g' c' hlen => ?_⟩, a2⟩
    obtain ⟨s, g'', rfl⟩ := notnil g' c'
    exact a3 s g'' c' (memq s g'' c') hlen
theorem St.last (rows : List Rw) (k : Nat) : St rows k rows.length (some (((0 : Int), (1 : Int)), ([] : List Int))) := by
  refine ⟨[], ⟨⟨by rw [List.drop_length]; rfl, fun _ h => nomatch h⟩, Nat.zero_le _, fun g' c _ => ?_⟩, rfl⟩
  have : g' = [] := by
    cases g' with
    | nil => rfl
    | cons s g =>
      obtain ⟨_, _, h1, h2⟩ := cut_tail c
      omega
  rw [this]
  rfl
/-- the list of what is told of each begin -/
def Tl (rows : List Rw) (k : Nat) (best : List (Option Pr)) : Prop := best.length = rows.length + 1 ∧ ∀ b, b ≤ rows.length → ∃ o, best[b]? = some o ∧ St rows k b o
theorem more_eq {rows : List Rw} (h : Rs 1 rows) {k : Nat} {best : List (Option Pr)} (t : Tl rows k best) : Ok (m_with_one_more (upto Wi rows) (upto (sN · 0) rows) (upto (sQ · 0) rows) best (rows.length : Int)) (Tl rows (k + 1)) := by
  have hlen := h.len
  unfold m_with_one_more
  refine ok_rng (by omega) (by omega) ?_
  have e0 : rng 0 (rows.length : Int) = (List.range rows.length).map fun (i : Nat) => (i : Int) := by
    have := rng_ab 0 rows.length
    rw [Nat.sub_zero] at this
    rw [show (0 : Int) = ((0 : Nat) : Int) from rfl, this]
    exact List.map_congr_left fun i _ => by rw [Nat.zero_add]
  rw [e0, forF_map]
  refine Ok.bind (ok_for (fun q s => q = List.range q.length ∧ s.length = q.length ∧ ∀ b, b < q.length → ∃ o, s[b]? = some o ∧ St rows (k + 1) b o) ⟨rfl, rfl, fun b hb => absurd hb (Nat.not_lt_zero _)⟩ ?_) ?_
  · rintro q b r s e ⟨hq, hs1, hs2⟩
    have hjq : b = q.length ∧ q.length < rows.length := by
      have h1 : (List.range rows.length)[q.length]? = some b := by rw [e, List.getElem?_append_right (Nat.le_refl _), Nat.sub_self]; rfl
      obtain ⟨h2, h3⟩ := List.getElem?_eq_some_iff.mp h1
      rw [List.getElem_range] at h3
      rw [List.length_range] at h2
      exact ⟨h3.symm, h2⟩
    obtain ⟨rfl, hj⟩ := hjq
    refine ok_rng (by omega) (by omega) ?_
    have e1 : rng ((q.length : Int) + 1) ((rows.length : Int) + 1) = ((List.range (rows.length + 1 - (q.length + 1))).map fun i => q.length + 1 + i).map fun (i : Nat) => (i : Int) := by
      have := rng_ab (q.length + 1) (rows.length + 1)
      rw [List.map_map]
      exact this
    rw [e1, forF_map]
    refine Ok.bind (ok_for (fun q2 s => Ls rows k q.length q2 s) (fun s g c hm => nomatch hm) ?_) ?_
    · intro q2 en r2 least e2 hl
      have hen : en ∈ (List.range (rows.length + 1 - (q.length + 1))).map fun i => q.length + 1 + i := by rw [e2]; simp
      obtain ⟨i, hi, rfl⟩ := List.mem_map.mp hen
      have hi := List.mem_range.mp hi
      obtain ⟨o, o1, o2⟩ := t.2 (q.length + 1 + i) (by omega)
      have hg : getI best ((q.length + 1 + i : Nat) : Int) = some o := getI_nat (by omega) (by rw [Int.toNat_natCast]; exact o1)
      refine Ok.of hg ?_
      exact step_eq h (by omega) (by omega) hg o2 hl
    · intro least hl
      refine ok_len (by omega) (Ok.mk ⟨?_, ?_, fun b hb => ?_⟩)
      · rw [List.length_append, List.length_singleton, List.range_succ, ← hq]
      · rw [List.length_append, List.length_append, hs1]; rfl
      · rw [List.length_append, List.length_singleton] at hb
        by_cases hb2 : b < q.length
        · obtain ⟨o, o1, o2⟩ := hs2 b hb2
          exact ⟨o, by rw [List.getElem?_append_left (by omega)]; exact o1, o2⟩
        · have : b = q.length := by omega
          subst this
          exact ⟨least, by rw [List.getElem?_append_right (by omega), hs1, Nat.sub_self]; rfl, hl.close hj⟩
  · rintro s ⟨_, hs1, hs2⟩
    rw [List.length_range] at hs1 hs2
    refine ok_len (by show s.length + 1 ≤ _; omega) (Ok.mk ⟨by rw [List.length_append, hs1]; rfl, fun b hb => ?_⟩)
    by_cases hb2 : b < rows.length
    · obtain ⟨o, o1, o2⟩ := hs2 b hb2
      exact ⟨o, by rw [List.getElem?_append_left (by omega)]; exact o1, o2⟩
    · have : b = rows.length := by omega
      subst this
      exact ⟨_, by rw [List.getElem?_append_right (by omega), hs1, Nat.sub_self]; rfl, St.last rows (k + 1)⟩
theorem line_eq {rows : List Rw} (h : Rs 1 rows) (h0 : rows ≠ []) {many : Nat} (hm : 0 < many) (hmany : many ≤ 50) : ∃ g, m_best_on_line rows (many : Int) = some (fr (tot 1 g), bg 0 g) ∧ LeastCut many 0 rows g := by
  have hlen := h.len
  have hpos := List.length_pos_iff.mpr h0
  suffices key : Ok (m_best_on_line rows (many : Int)) fun p => ∃ g, p = (fr (tot 1 g), bg 0 g) ∧ LeastCut many 0 rows g by
    obtain ⟨p, e, g, rfl, hg⟩ := key
    exact ⟨g, e, hg⟩
  unfold m_best_on_line
  refine Ok.of (stretches_eq h) ?_
  show Ok ((repI [(none : Option Pr)] (rows.length : Int)).bind _) _
  have er : repI [(none : Option Pr)] (rows.length : Int) = some (List.replicate rows.length none) := by
    unfold repI
    rw [if_pos ⟨by omega, by omega, by rw [Int.toNat_natCast, List.length_singleton]; omega⟩, Int.toNat_natCast]
    congr 1
    induction rows.length with
    | zero => rfl
    | succ n ih => rw [List.replicate_succ, List.flatten_cons, ih, List.replicate_succ]; rfl
  refine Ok.of er (ok_len (by rw [List.length_replicate]; show _ + 1 ≤ _; omega) (Ok.of rfl (ok_rng (by omega) (by omega) ?_)))
  have t0 : Tl rows 0 (List.replicate rows.length none ++ [some (((0 : Int), (1 : Int)), ([] : List Int))]) := by
    refine ⟨by rw [List.length_append, List.length_replicate]; rfl, fun b hb => ?_⟩
    by_cases hb2 : b < rows.length
    · refine ⟨none, by rw [List.getElem?_append_left (by rw [List.length_replicate]; exact hb2), List.getElem?_replicate, if_pos hb2], fun g c hg => ?_⟩
      have : g = [] := List.length_eq_zero_iff.mp (by omega)
      have h3 := congrArg List.length c.flat
      rw [this, List.length_drop] at h3
      have h4 : 0 = rows.length - b := h3
      omega
    · have : b = rows.length := by omega
      subst this
      exact ⟨_, by rw [List.getElem?_append_right (by rw [List.length_replicate]; exact Nat.le_refl _), List.length_replicate, Nat.sub_self]; rfl, St.last rows 0⟩
  refine Ok.bind (ok_forN (fun n s => Tl rows n s) t0 ?_) ?_
  · intro n x s _ _ ht
    exact Ok.bind (more_eq h ht) fun r hr => Ok.mk hr
  · intro s ht
    rw [rng_len, show ((many : Int) - 0).toNat = many by omega] at ht
    obtain ⟨o, o1, o2⟩ := ht.2 0 (by omega)
    refine Ok.of (getI_nat (by omega) o1) ?_
    cases o with
    | none =>
      have := o2 [rows] ⟨by rw [List.drop_zero]; simp, fun s hs => by rw [List.mem_singleton.mp hs]; exact h0⟩
      exact absurd hm (by simpa using this)
    | some p =>
      obtain ⟨g, g1, rfl⟩ := o2
      rw [List.drop_zero] at g1
      exact Ok.mk ⟨g, rfl, g1⟩
open GR (mapG)
structure Ln (rows : List Rw) : Prop where
  rs : Rs 1 rows
  line : Line rows
  ne : rows ≠ []
theorem ltRow_of {a b : Rw} (ha : a.1.length = 1) (hb : b.1.length = 1) (h : co a.1 0 < co b.1 0) : GR.ltRow a b = true := by
  obtain ⟨c, n⟩ := a
  obtain ⟨d, k⟩ := b
  match c, d, ha, hb with
  | [x], [y], _, _ =>
    have h' : x < y := h
    show (if ([x] : List Int) = [y] then ltI n k else ltL ltI [x] [y]) = true
    rw [if_neg (fun z => by cases z; omega)]
    show (if x = y then _ else ltI x y) = true
    rw [if_neg (by omega)]
    exact decide_eq_true h'
theorem Ln.pw {rows : List Rw} (h : Ln rows) : rows.Pairwise fun a b => GR.ltRow a b = true :=
  List.Pairwise.imp_of_mem (fun ha hb hab => ltRow_of (h.rs.ok _ ha).good.1 (h.rs.ok _ hb).good.1 hab) h.line
theorem Ln.rk {rows : List Rw} (h : Ln rows) : GR.Rk 1 rows := by
  refine ⟨h.rs.pos, ?_, fun r hr => (h.rs.ok r hr).good.1⟩
  refine List.pairwise_map.mpr (h.line.imp fun {a b} hab e => ?_)
  rw [e] at hab
  omega
theorem line_ok {n m : Nat} {left : List Int} (h : Lk n left) (hn : n ≤ 1000000) (hm0 : 0 < m) (hm : m ≤ 31) : Ok (m_law_line left (m : Int)) fun r => Ln r.1 ∧ r.1.length = m ∧ Lk (n + 100) r.2 := by
  unfold m_law_line
  refine Ok.bind (pick_ok h (by omega) (by omega) (by omega)) ?_
  rintro ⟨t, c⟩ ⟨a1, a2, a3⟩
  refine Ok.bind (pick_ok a3 (by omega) (by omega) (by omega)) ?_
  rintro ⟨t2, c2⟩ ⟨b1, b2, b3⟩
  dsimp only at a1 a2 b1 b2 b3 ⊢
  refine ok_get b1 b2 fun step _ hstep => ?_
  have hst : 1 ≤ step ∧ step ≤ 25 := by
    simp only [List.mem_cons, List.not_mem_nil, or_false] at hstep
    omega
  refine Ok.bind (pick_ok b3 (by omega) (by omega) (by omega)) ?_
  rintro ⟨t3, c3⟩ ⟨d1, d2, d3⟩
  dsimp only at d1 d2 d3 ⊢
  refine ok_get d1 d2 fun counts _ hcounts => ?_
  have hct : 1 ≤ counts ∧ counts ≤ 1000 := by
    simp only [List.mem_cons, List.not_mem_nil, or_false] at hcounts
    omega
  have lr : (rng 0 (m : Int)).length = m := by rw [rng_len]; omega
  refine ok_rng (by omega) (by omega) (Ok.bind (ok_forN (fun k (s : Int × List Int × List Rw) => 0 ≤ s.1 ∧ s.1 ≤ 19 + 26 * k ∧ Lk (n + 3 + 2 * k) s.2.1 ∧ s.2.2.length = k ∧ (∀ r ∈ s.2.2, Rb 1 r ∧ co r.1 0 < s.1) ∧ Line s.2.2) ⟨a1, by show t ≤ _; omega, d3, rfl, (fun _ h => nomatch h), List.Pairwise.nil⟩ ?_) ?_)
  · rintro k x ⟨num, cc, rows⟩ _ hk ⟨i1, i2, i3, i4, i5, i6⟩
    rw [lr] at hk
    dsimp only at i1 i2 i3 i4 i5 i6 ⊢
    refine Ok.bind (pick_ok i3 (by omega) (by omega) (by omega)) ?_
    rintro ⟨t4, c4⟩ ⟨e1, e2, e3⟩
    dsimp only at e1 e2 e3 ⊢
    refine ok_len (by omega) (Ok.bind (pick_ok e3 (by omega) (by omega) (by omega)) ?_)
    rintro ⟨t5, c5⟩ ⟨f1, f2, f3⟩
    dsimp only at f1 f2 f3 ⊢
    refine Ok.of rfl (Ok.mk ⟨by show 0 ≤ num + 1 + t5; omega, by show num + 1 + t5 ≤ _; omega, f3.mono (by omega), by show (rows ++ [_]).length = _; rw [List.length_append, i4]; rfl, ?_, ?_⟩)
    · intro r hr
      rcases List.mem_append.mp hr with z | z
      · exact ⟨(i5 r z).1, by have := (i5 r z).2; show _ < num + 1 + t5; omega⟩
      · rw [List.mem_singleton.mp z]
        refine ⟨⟨⟨rfl, fun x hx => ?_⟩, by show 0 < 1 + t4; omega, by show 1 + t4 ≤ 1000; omega⟩, by show num < num + 1 + t5; omega⟩
        rw [List.mem_singleton.mp hx]
        omega
    · refine List.pairwise_append.mpr ⟨i6, List.pairwise_singleton _ _, fun a ha b hb => ?_⟩
      rw [List.mem_singleton.mp hb]
      exact (i5 a ha).2
  · rintro ⟨num, cc, rows⟩ ⟨i1, i2, i3, i4, i5, i6⟩
    rw [lr] at i4
    rw [lr] at i3
    dsimp only at i3 i4 i5 i6 ⊢
    refine Ok.mk ⟨⟨⟨fun r hr => (i5 r hr).1, by show rows.length ≤ 60; omega⟩, i6, fun z => ?_⟩, i4, i3.mono (by omega)⟩
    rw [show rows = [] from z] at i4
    have : 0 = m := i4
    omega
/-! ### begins and stretches -/
theorem bg_nn : ∀ {g : Gp} {b : Int}, 0 ≤ b → ∀ x ∈ bg b g, 0 ≤ x
  | [], _, _, _, h => nomatch h
  | s :: g, b, hb, x, h => by
    rcases List.mem_cons.mp (show x ∈ b :: bg (b + s.length) g from h) with z | z
    · omega
    · exact bg_nn (by omega) x z
theorem stretch_aux {rows : List Rw} : ∀ {g : Gp} {b : Nat}, Cut (rows.drop b) g → g ≠ [] → List.map (fun (p_ : (Int × Int)) => (fun (v_begin3 : Int) (v_end3 : Int) => (cutI rows (some v_begin3) (some v_end3))) p_.1 p_.2) (List.zip (bg (b : Int) g) ((bg (b : Int) g).drop 1 ++ [(rows.length : Int)])) = g
  | [], _, _, h => absurd rfl h
  | s :: g, b, c, _ => by
    obtain ⟨e1, e2, e3, e4⟩ := cut_tail c
    have eb : bg (b : Int) (s :: g) = (b : Int) :: bg ((b + s.length : Nat) : Int) g := by
      show (b : Int) :: bg ((b : Int) + (s.length : Int)) g = _
      rw [show (b : Int) + (s.length : Int) = ((b + s.length : Nat) : Int) by omega]
    rw [eb]
    cases g with
    | nil =>
      have hlen : b + s.length = rows.length := by
        have := congrArg List.length e2.flat
        rw [List.length_drop] at this
        have h0 : 0 = rows.length - (b + s.length) := this
        omega
      show [cutI rows (some (b : Int)) (some (rows.length : Int))] = _
      rw [cut_ab (by omega) (Nat.le_refl _), ← hlen]
      exact congrArg (fun x => [x]) e1.symm
    | cons t g =>
      have ih := stretch_aux (g := t :: g) e2 (by simp)
      have e5 : bg ((b + s.length : Nat) : Int) (t :: g) = ((b + s.length : Nat) : Int) :: bg (((b + s.length : Nat) : Int) + t.length) g := rfl
      show List.map _ (List.zip ((b : Int) :: bg ((b + s.length : Nat) : Int) (t :: g)) (bg ((b + s.length : Nat) : Int) (t :: g) ++ [(rows.length : Int)])) = _
      conv => lhs; rw [e5]
      rw [List.cons_append, List.zip_cons_cons, List.map_cons]
      rw [e5] at ih
      congr 1
      show cutI rows (some (b : Int)) (some ((b + s.length : Nat) : Int)) = s
      rw [cut_ab (by omega) e3]
      exact e1.symm
theorem stretches_law {rows : List Rw} (h : Rs 1 rows) {g : Gp} (c : Cut rows g) (h0 : g ≠ []) : m_law_stretches rows (bg 0 g) = some g := by
  have hlen := h.len
  have hg := (cut_ok (b := 0) h (by rw [List.drop_zero]; exact c)).2
  have hb : (bg 0 g).length = g.length := GR.bg_len g 0
  have hcut : cutI (bg 0 g) (some (1 : Int)) none = (bg 0 g).drop 1 := cut_from (xs := bg 0 g) (a := 1) (by
    have := List.length_pos_iff.mpr h0
    omega)
  refine Ok.eq ?_
  unfold m_law_stretches
  rw [hcut]
  have ln : (List.zip (bg 0 g) ((bg 0 g).drop 1 ++ [(rows.length : Int)])).length ≤ 60 := by
    rw [List.length_zip]
    omega
  refine ok_len (by rw [List.length_drop]; show _ + 1 ≤ _; omega) (ok_len (by omega) (Ok.mk ?_))
  exact stretch_aux (b := 0) (by rw [List.drop_zero]; exact c) h0
/-- a list that can stand as begins -/
structure Bgs (n k : Nat) (l : List Int) : Prop where
  up : l.Pairwise (· < ·)
  head : l.head? = some 0
  lt : ∀ x ∈ l, x < n
  len : l.length ≤ k
theorem begins_aux {rows : List Rw} : ∀ {l : List Int} {b : Int}, (b :: l).Pairwise (· < ·) → 0 ≤ b → (∀ x ∈ b :: l, x < rows.length) → ∃ g, Cut (rows.drop b.toNat) g ∧ bg b g = b :: l
  | [], b, _, h0, h1 => by
    have hb := h1 b List.mem_cons_self
    refine ⟨[rows.drop b.toNat], ⟨by simp, fun s hs => ?_⟩, rfl⟩
    rw [List.mem_singleton.mp hs]
    intro z
    have := congrArg List.length z
    rw [List.length_drop, List.length_nil] at this
    omega
  | c :: l, b, pw, h0, h1 => by
    have p := List.pairwise_cons.mp pw
    have hbc := p.1 c List.mem_cons_self
    obtain ⟨g, g1, g2⟩ := begins_aux (l := l) (b := c) p.2 (by omega) fun x hx => h1 x (List.mem_cons_of_mem _ hx)
    have hc := h1 c (by simp)
    have hlt : b.toNat < c.toNat := by omega
    have hle : c.toNat ≤ rows.length := by omega
    refine ⟨seg rows b.toNat c.toNat :: g, cut_cons hlt hle g1, ?_⟩
    show b :: bg (b + ((seg rows b.toNat c.toNat).length : Int)) g = _
    rw [seg_len (Nat.le_of_lt hlt) hle, show b + ((c.toNat - b.toNat : Nat) : Int) = c by omega, g2]
theorem Bgs.cut {rows : List Rw} {k : Nat} {l : List Int} (h : Bgs rows.length k l) : ∃ g, Cut rows g ∧ bg 0 g = l ∧ g ≠ [] ∧ g.length ≤ k := by
  cases l with
  | nil => cases h.head
  | cons b l =>
    cases Option.some.inj h.head
    obtain ⟨g, g1, g2⟩ := begins_aux h.up (by omega) h.lt
    refine ⟨g, g1, g2, fun z => ?_, ?_⟩
    · rw [z] at g2
      cases g2
    · have := congrArg List.length g2
      rw [GR.bg_len] at this
      have := h.len
      omega
theorem up_len {xs ys : List Int} (h : ys.Pairwise (· < ·)) (hm : ∀ x ∈ ys, x ∈ xs) : ys.length ≤ xs.length := by
  have nd : ys.Nodup := h.imp fun h e => by omega
  exact nd.length_le_of_subset hm
theorem up_head {ys : List Int} (h : ys.Pairwise (· < ·)) (h0 : (0 : Int) ∈ ys) (hn : ∀ x ∈ ys, 0 ≤ x) : ys.head? = some 0 := by
  cases ys with
  | nil => cases h0
  | cons y ys =>
    rcases List.mem_cons.mp h0 with z | z
    · rw [← z]; rfl
    · have h1 := (List.pairwise_cons.mp h).1 0 z
      have h2 := hn y List.mem_cons_self
      omega
theorem cuts_ok {n many : Nat} {left : List Int} {rows : List Rw} (h : Lk n left) (hn : n ≤ 1000000) (hr : rows.length ≤ 60) (h0 : rows ≠ []) (hm : 0 < many) (hmany : many ≤ 10) : Ok (m_law_some_cuts left rows (many : Int)) fun r => Bgs rows.length many r.1 ∧ Lk (n + 10) r.2 := by
  have hpos := List.length_pos_iff.mpr h0
  have hmax : 0 < max2 (1 : Int) ((rows.length : Int) - 1) ∧ max2 (1 : Int) ((rows.length : Int) - 1) < 100 := by
    unfold max2
    split <;> omega
  have lr : (rng 0 ((many : Int) - 1)).length = many - 1 := by rw [rng_len]; omega
  unfold m_law_some_cuts
  refine ok_rng (by omega) (by omega) (ok_len (by omega) (Ok.bind (ok_mapSN (fun k s => Lk (n + k) s) (fun x => 1 ≤ x) (k := 0) h ?_) ?_))
  · intro j x s _ hj hs
    refine Ok.bind (pick_ok hs (by omega) hmax.1 (by omega)) ?_
    rintro ⟨t, c⟩ ⟨h1, h2, h3⟩
    exact Ok.mk ⟨by show 1 ≤ 1 + t; have : 0 ≤ t := h1; omega, h3⟩
  · rintro ⟨o, c⟩ ⟨h1, h2, h3⟩
    dsimp only at h1 h2 h3 ⊢
    rw [lr] at h1 h3
    have hl : ([(0 : Int)] ++ o).length = many := by rw [List.length_append, h1]; show 1 + (many - 1) = _; omega
    have hfl : (List.map (fun (v_place20 : Int) => v_place20) (List.filter (fun (v_place20 : Int) => (decide (v_place20 < (rows.length : Int)))) ([(0 : Int)] ++ o))).length ≤ many := by
      rw [List.length_map, ← hl]
      exact List.length_filter_le _ _
    refine ok_len (by show 1 + o.length ≤ _; omega) (Ok.of rfl (ok_len (by omega) (Ok.of (a := ()) (by unfold lenS64; rw [if_pos (by omega)]) (Ok.mk ?_))))
    rw [List.map_id'] at hfl ⊢
    have hup := srtSet_lt (List.filter (fun (v_place20 : Int) => (decide (v_place20 < (rows.length : Int)))) ([(0 : Int)] ++ o))
    have hmem : ∀ x, x ∈ srtSet (List.filter (fun (v_place20 : Int) => (decide (v_place20 < (rows.length : Int)))) ([(0 : Int)] ++ o)) ↔ x ∈ List.filter (fun (v_place20 : Int) => (decide (v_place20 < (rows.length : Int)))) ([(0 : Int)] ++ o) := fun x => srtSet_mem
    have hnn : ∀ x ∈ [(0 : Int)] ++ o, 0 ≤ x := fun x hx => by
      rcases List.mem_append.mp hx with z | z
      · rw [List.mem_singleton.mp z]; omega
      · have := h2 x z; omega
    refine ⟨⟨hup, up_head hup ((hmem 0).mpr (List.mem_filter.mpr ⟨by simp, decide_eq_true (by omega)⟩)) fun x hx => hnn x (List.mem_filter.mp ((hmem x).mp hx)).1, fun x hx => of_decide_eq_true (List.mem_filter.mp ((hmem x).mp hx)).2, ?_⟩, h3.mono (by omega)⟩
    exact Nat.le_trans (up_len hup fun x hx => (hmem x).mp hx) hfl
theorem beside_ok {n k : Nat} {begins : List Int} (h : Bgs n k begins) (hk : k ≤ 10) (hn : n ≤ 60) : Ok (m_law_beside begins (n : Int)) fun r => r.length ≤ 20 ∧ ∀ o ∈ r, Bgs n k o := by
  have hlen := h.len
  have lr : (rng 1 (begins.length : Int)).length ≤ 9 := by rw [rng_len]; omega
  unfold m_law_beside
  refine ok_rng (by omega) (by omega) (Ok.bind (ok_for (fun q (s : List (List Int)) => s.length ≤ 2 * q.length ∧ ∀ o ∈ s, Bgs n k o) ⟨Nat.zero_le _, fun _ h => nomatch h⟩ ?_) ?_)
  · rintro q at_ r s e ⟨hs1, hs2⟩
    have hat : at_ ∈ rng 1 (begins.length : Int) := by rw [e]; simp
    obtain ⟨a0, a1⟩ := mem_rng.mp hat
    have hq : q.length ≤ 9 := by
      have := congrArg List.length e
      rw [List.length_append, List.length_cons] at this
      omega
    obtain ⟨i, rfl⟩ := Int.eq_ofNat_of_zero_le (show 0 ≤ at_ by omega)
    have hi : i < begins.length := by omega
    refine Ok.bind (ok_for (fun q2 (s : List (List Int)) => s.length ≤ 2 * q.length + q2.length ∧ ∀ o ∈ s, Bgs n k o) ⟨hs1, hs2⟩ ?_) ?_
    · rintro q2 more r2 s2 e2 ⟨j1, j2⟩
      have hq2 : q2.length ≤ 1 := by
        have := congrArg List.length e2
        rw [List.length_append, List.length_cons] at this
        have h2 : 2 = q2.length + (r2.length + 1) := this
        omega
      refine Ok.of (getI_nat (by omega) (by rw [Int.toNat_natCast]; exact List.getElem?_eq_getElem hi)) ?_
      have e3 : cutI begins none (some (i : Int)) = begins.take i := by rw [cutI_take _ _ (by omega), Int.toNat_natCast]
      have e4 : cutI begins (some ((i : Int) + 1)) none = begins.drop (i + 1) := cut_from (xs := begins) (a := i + 1) (by omega)
      rw [e3, e4]
      have hl3 : ((begins.take i ++ [begins[i] + more]) ++ begins.drop (i + 1)).length = begins.length := by
        rw [List.length_append, List.length_append, List.length_take, List.length_drop, List.length_singleton]
        omega
      refine ok_len (by rw [List.length_take]; show _ + 1 ≤ _; omega) (ok_len (by rw [List.length_append, List.length_take, List.length_drop]; show _ + 1 + _ ≤ _; omega) (Ok.of rfl (Ok.of (a := ()) (by unfold lenS64; rw [if_pos (by omega)]) ?_)))
      generalize hoo : (begins.take i ++ [begins[i] + more]) ++ begins.drop (i + 1) = oo at hl3
      refine Ok.bind (P := fun b => b = true → Bgs n k oo) (ok_cond (fun hd => ?_) fun _ => Ok.mk fun z => by cases z) fun b hb => Ok.bind (P := fun s : List (List Int) => s.length ≤ 2 * q.length + (q2 ++ [more]).length ∧ ∀ o ∈ s, Bgs n k o) (ok_cond (fun hbt => ?_) fun _ => Ok.mk ⟨by rw [List.length_append]; omega, j2⟩) fun s hs => Ok.mk hs
      · have es : srtSet oo = oo := of_decide_eq_true hd
        have hup : oo.Pairwise (· < ·) := by
          have := srtSet_lt oo
          rw [es] at this
          exact this
        obtain ⟨xs, x, hx⟩ : ∃ xs x, oo = xs ++ [x] := by
          have hne : oo ≠ [] := fun z => by rw [z] at hl3; rw [List.length_nil] at hl3; omega
          exact ⟨oo.dropLast, oo.getLast hne, (List.dropLast_concat_getLast hne).symm⟩
        subst hx
        refine Ok.of getI_last (Ok.mk fun hlt => ⟨hup, ?_, ?_, by omega⟩)
        · -- the head
          rw [← hoo]
          have hh := h.head
          cases begins with
          | nil => cases hh
          | cons y ys =>
            cases i with
            | zero => omega
            | succ i => exact hh
        · have hx := of_decide_eq_true hlt
          intro y hy
          rcases List.mem_append.mp hy with z | z
          · have := (List.pairwise_append.mp hup).2.2 y z x (by simp)
            omega
          · rw [List.mem_singleton.mp z]
            exact hx
      · refine ok_len (by omega) (Ok.mk ⟨by rw [List.length_append, List.length_append]; show _ + 1 ≤ _ + (_ + 1); omega, fun o ho => ?_⟩)
        rcases List.mem_append.mp ho with z | z
        · exact j2 o z
        · rw [List.mem_singleton.mp z]
          exact hb hbt
    · rintro s2 ⟨j1, j2⟩
      exact Ok.mk ⟨by rw [List.length_append]; show _ ≤ 2 * (_ + 1); have : s2.length ≤ 2 * q.length + 2 := j1; omega, j2⟩
  · rintro s ⟨hs1, hs2⟩
    exact Ok.mk ⟨by omega, hs2⟩
theorem less_eq {x y : Rat} {a b : Nat} (hx : Sz a x) (hy : Sz b y) (h : a + b < 1000000 := by omega) : m_law_less (fr x) (fr y) = some (decide (x < y)) := by
  refine Ok.eq ?_
  unfold m_law_less
  exact ok_mulB hx.num hy.den (ok_mulB hy.num hx.den (Ok.mk (lt_fr x y)))
theorem mids_ms {w : Nat} {g : Gp} (hok : ∀ s ∈ g, Rs w s ∧ s ≠ []) : Ms w 30 (GR.mids w g) := by
  refine ⟨GR.mids_wide w g, fun m hm x hx => ?_⟩
  obtain ⟨s, hs, rfl⟩ := List.mem_map.mp hm
  obtain ⟨p, _, rfl⟩ := List.mem_map.mp hx
  exact sz_mn (hok s hs).1 (hok s hs).2 p
theorem many_right {n many : Nat} {left : List Int} {rows : List Rw} (h : Ln rows) (hl : Lk n left) (hn : n ≤ 900000) (hm : 0 < many) (hmany : many ≤ 10) : Ok (m_law_many_right left rows (many : Int)) fun r => r.1 = true ∧ Lk (n + 40) r.2 := by
  have hlen := h.rs.len
  obtain ⟨g, g1, g2⟩ := line_eq h.rs h.ne hm (by omega)
  have o := g2.opt h.rk h.line hm h.ne
  have hg0 : g ≠ [] := GR.allG_nil h.ne o.1
  obtain ⟨ok1, ok2⟩ := cut_ok (b := 0) h.rs (by rw [List.drop_zero]; exact g2.1)
  have hlg := GR.opt_len h.rk hm o g2.1
  have st := sz_tot ok1 ok2 (by omega : 1 ≤ 5)
  have hb0 : getI (bg 0 g) (0 : Int) = some 0 := by
    cases g with
    | nil => exact absurd rfl hg0
    | cons s g => exact getI_nat (by omega) rfl
  have hbgs : Bgs rows.length many (bg 0 g) := by
    refine ⟨?_, ?_, ?_, by rw [GR.bg_len]; exact g2.2.1⟩
    · have key : ∀ (g : Gp) (b : Nat), Cut (rows.drop b) g → (bg (b : Int) g).Pairwise (· < ·) ∧ ∀ x ∈ bg (b : Int) g, (b : Int) ≤ x ∧ x < rows.length := by
        intro g
        induction g with
        | nil => exact fun b _ => ⟨List.Pairwise.nil, fun _ h => nomatch h⟩
        | cons s g ih =>
          intro b c
          obtain ⟨c1, c2, c3, c4⟩ := cut_tail c
          have eb : bg (b : Int) (s :: g) = (b : Int) :: bg ((b + s.length : Nat) : Int) g := by
            show (b : Int) :: bg ((b : Int) + (s.length : Int)) g = _
            rw [show (b : Int) + (s.length : Int) = ((b + s.length : Nat) : Int) by omega]
          obtain ⟨i1, i2⟩ := ih (b + s.length) c2
          rw [eb]
          refine ⟨List.pairwise_cons.mpr ⟨fun x hx => ?_, i1⟩, fun x hx => ?_⟩
          · have := i2 x hx
            omega
          · rcases List.mem_cons.mp hx with z | z
            · omega
            · have := i2 x z
              omega
      exact (key g 0 (by rw [List.drop_zero]; exact g2.1)).1
    · cases g with
      | nil => exact absurd rfl hg0
      | cons s g => rfl
    · have key : ∀ (g : Gp) (b : Nat), Cut (rows.drop b) g → ∀ x ∈ bg (b : Int) g, x < rows.length := by
        intro g
        induction g with
        | nil => exact fun b _ _ h => nomatch h
        | cons s g ih =>
          intro b c x hx
          obtain ⟨c1, c2, c3, c4⟩ := cut_tail c
          have eb : bg (b : Int) (s :: g) = (b : Int) :: bg ((b + s.length : Nat) : Int) g := by
            show (b : Int) :: bg ((b : Int) + (s.length : Int)) g = _
            rw [show (b : Int) + (s.length : Int) = ((b + s.length : Nat) : Int) by omega]
          rw [eb] at hx
          rcases List.mem_cons.mp hx with z | z
          · omega
          · exact ih _ c2 x z
      exact key g 0 (by rw [List.drop_zero]; exact g2.1)
  unfold m_law_many_right
  refine Ok.of g1 (Ok.of (stretches_law h.rs g2.1 hg0) (Ok.of hb0 (Ok.of (a := false) ?_ ?_)))
  · rw [decide_eq_true (rfl : (0 : Int) = 0)]
    refine Ok.eq (Ok.of (total_eq ok1 hg0 ok2 (by omega)) (Ok.mk ?_))
    have hmn : (g.length : Int) = min2 (many : Int) (rows.length : Int) := by
      unfold min2
      split <;> omega
    show ((!decide (fr (tot 1 g) = fr (tot 1 g))) || (!decide ((g.length : Int) = min2 (many : Int) (rows.length : Int)))) = false
    rw [decide_eq_true rfl, decide_eq_true hmn]
    rfl
  · refine ok_cond (fun z => by cases z) fun _ => ?_
    refine Ok.bind (beside_ok hbgs hmany hlen) ?_
    rintro bs ⟨b1, b2⟩
    have l4 : (rng 0 4).length = 4 := by rw [rng_len]; rfl
    refine ok_rng (by omega) (by omega) (ok_len (by omega) (Ok.bind (ok_mapSN (fun k s => Lk (n + 10 * k) s) (fun o => Bgs rows.length many o) (k := 0) hl ?_) ?_))
    · intro j x s _ hj hs
      refine Ok.bind (cuts_ok hs (by omega) hlen h.ne hm hmany) ?_
      rintro ⟨o, c⟩ ⟨h1, h2⟩
      exact Ok.mk ⟨h1, h2.mono (by show n + 10 * j + 10 ≤ n + 10 * (j + 1); omega)⟩
    · rintro ⟨os, c⟩ ⟨h1, h2, h3⟩
      dsimp only at h1 h2 h3 ⊢
      rw [l4] at h1 h3
      refine ok_len (by omega) (Ok.of rfl (ok_len (by rw [List.length_append]; omega) (Ok.of (mapO_of (g := fun _ => false) fun l hl => ?_) ?_)))
      · have hB : Bgs rows.length many l := (List.mem_append.mp hl).elim (b2 l) (h2 l)
        obtain ⟨g', c1, rfl, c3, c4⟩ := hB.cut
        obtain ⟨ok3, ok4⟩ := cut_ok (b := 0) h.rs (by rw [List.drop_zero]; exact c1)
        have h9 := o.2 g' (c1.mem h.ne c4)
        refine Ok.eq (Ok.of (stretches_law h.rs c1 c3) (Ok.of (total_eq ok3 c3 ok4 (by omega)) (Ok.of (less_eq (sz_tot ok3 ok4 (by omega)) st (by omega)) (Ok.mk ?_))))
        exact decide_eq_false (Rat.not_lt.mpr h9)
      · have hany : List.any (List.map (fun _ => false) (bs ++ os)) id = false := by
          rw [List.any_eq_false]
          intro x hx
          obtain ⟨y, _, rfl⟩ := List.mem_map.mp hx
          simp
        rw [hany]
        refine ok_cond (fun z => by cases z) fun _ => ok_len (by omega) (Ok.of (mapO_of (g := fun s => vF ((List.range 1).map (mn s))) fun s hs => Ok.eq (Ok.of (middle_eq (ok1 s hs).1 (ok1 s hs).2 (by omega)) (Ok.mk rfl))) ?_)
        have em : g.map (fun s => vF ((List.range 1).map (mn s))) = mF (GR.mids 1 g) := by
          show _ = (g.map fun s => (List.range 1).map (mn s)).map vF
          rw [List.map_map]
          rfl
        rw [em]
        obtain ⟨f, m, le, hlen2⟩ := o.least h.rk hm
        obtain ⟨r1, r2, _⟩ := GR.rest_own h.rk hm m le hlen2
        have ms := mids_ms ok1
        have hne : GR.mids 1 g ≠ [] := fun z => by
          have := congrArg List.length z
          rw [GR.mids_len] at this
          exact hg0 (List.length_eq_zero_iff.mp this)
        have hle : (GR.mids 1 g).length ≤ 60 := by rw [GR.mids_len]; exact ok2
        refine Ok.of (resting_eq h.rs ms hne hle (by omega) (by omega)) ?_
        rw [r1, decide_eq_true rfl]
        refine Ok.of (a := true) ?_ (Ok.mk ⟨rfl, h3.mono (by omega)⟩)
        rw [decide_eq_true rfl]
        refine Ok.eq (Ok.of (shared_eq h.rs ms hne hle (by omega) (by omega)) (Ok.mk ?_))
        rw [GR.mids_len, r2]
        exact decide_eq_true rfl
theorem ltRow_wide {a b : Rw} {u v : List Int} (ha : a.1.length = 1) (hb : b.1.length = 1) (h : co a.1 0 < co b.1 0) : GR.ltRow ((u ++ a.1) ++ v, a.2) ((u ++ b.1) ++ v, b.2) = true := by
  obtain ⟨c, n⟩ := a
  obtain ⟨d, k⟩ := b
  match c, d, ha, hb with
  | [x], [y], _, _ =>
    have h' : x < y := h
    have key : ∀ u : List Int, ltL ltI ((u ++ [x]) ++ v) ((u ++ [y]) ++ v) = true ∧ (u ++ [x]) ++ v ≠ (u ++ [y]) ++ v := by
      intro u
      induction u with
      | nil =>
        refine ⟨?_, fun z => ?_⟩
        · show (if x = y then _ else ltI x y) = true
          rw [if_neg (by omega)]
          exact decide_eq_true h'
        · have := (List.cons.inj z).1
          omega
      | cons z u ih =>
        refine ⟨?_, fun q => ih.2 (List.cons.inj q).2⟩
        show (if z = z then ltL ltI ((u ++ [x]) ++ v) ((u ++ [y]) ++ v) else _) = true
        rw [if_pos rfl]
        exact ih.1
    show (if ((u ++ [x]) ++ v : List Int) = (u ++ [y]) ++ v then ltI n k else ltL ltI ((u ++ [x]) ++ v) ((u ++ [y]) ++ v)) = true
    rw [if_neg (key u).2]
    exact (key u).1
theorem co_wide {u v c : List Int} (hc : c.length = 1) : co ((u ++ c) ++ v) u.length = co c 0 ∧ ∀ p, p ≠ u.length → co ((u ++ c) ++ v) p = co ((u ++ [0]) ++ v) p := by
  match c, hc with
  | [x], _ =>
    unfold FQ.co
    refine ⟨?_, fun p hp => ?_⟩
    · rw [List.getElem?_append_left (by rw [List.length_append]; exact Nat.lt_succ_self _), List.getElem?_append_right (Nat.le_refl _), Nat.sub_self]
    · congr 1
      by_cases h1 : p < u.length
      · rw [List.getElem?_append_left (by rw [List.length_append]; omega), List.getElem?_append_left h1, List.getElem?_append_left (by rw [List.length_append]; omega), List.getElem?_append_left h1]
      · rw [List.getElem?_append_right (by rw [List.length_append]; show u.length + 1 ≤ p; omega), List.getElem?_append_right (by rw [List.length_append]; show u.length + 1 ≤ p; omega), List.length_append, List.length_append]
        rfl
theorem few_right {n many : Nat} {left : List Int} {rows : List Rw} (h : Ln rows) (h7 : rows.length ≤ 7) (hl : Lk n left) (hn : n ≤ 1000000) (hm : 0 < many) (hmany : many ≤ 4) : Ok (m_law_few_right left rows (many : Int)) fun r => r.1 = true ∧ Lk (n + 10) r.2 := by
  have hlen := h.rs.len
  obtain ⟨g, g1, g2⟩ := line_eq h.rs h.ne hm (by omega)
  obtain ⟨g', k1, k2, k3⟩ := groups_eq h.rs h.pw h.ne (by omega) hm (by omega) (by omega)
  obtain ⟨e1, e2⟩ := GR.same_found h.rk h.line hm h.ne g2 k2 k3
  subst e1
  have hg0 : g ≠ [] := GR.allG_nil h.ne k2.1
  unfold m_law_few_right
  refine Ok.of g1 (Ok.of k1 (Ok.of (stretches_law h.rs g2.1 hg0) (ok_cond (fun z => ?_) fun _ => ?_)))
  · have z' : (!decide ((fr (tot 1 g), g) = (fr (tot 1 g), g))) = true := z
    rw [decide_eq_true rfl] at z'
    cases z'
  refine Ok.bind (pick_ok hl (by omega) (by omega) (by omega)) ?_
  rintro ⟨at_, c⟩ ⟨a1, a2, a3⟩
  dsimp only at a1 a2 a3 ⊢
  obtain ⟨i, rfl⟩ := Int.eq_ofNat_of_zero_le a1
  have hi : i < 3 := by omega
  have l1 : (rng 0 (i : Int)).length = i := by rw [rng_len]; omega
  have l2 : (rng 0 (2 - (i : Int))).length = 2 - i := by rw [rng_len]; omega
  refine ok_rng (by omega) (by omega) (ok_len (by omega) (Ok.bind (ok_mapSN (fun k s => Lk (n + 1 + k) s) (fun x => 0 ≤ x ∧ x < 1000) (k := 0) a3 ?_) ?_))
  · intro j x s _ hj hs
    refine Ok.bind (pick_ok hs (by omega) (by omega) (by omega)) ?_
    rintro ⟨t, c⟩ ⟨h1, h2, h3⟩
    exact Ok.mk ⟨⟨h1, h2⟩, h3⟩
  rintro ⟨ahead, c2⟩ ⟨b1, b2, b3⟩
  dsimp only at b1 b2 b3 ⊢
  rw [l1] at b1 b3
  refine ok_rng (by omega) (by omega) (ok_len (by omega) (Ok.bind (ok_mapSN (fun k s => Lk (n + 1 + i + k) s) (fun x => 0 ≤ x ∧ x < 1000) (k := 0) (b3.mono (by omega)) ?_) ?_))
  · intro j x s _ hj hs
    refine Ok.bind (pick_ok hs (by omega) (by omega) (by omega)) ?_
    rintro ⟨t, c⟩ ⟨h1, h2, h3⟩
    exact Ok.mk ⟨⟨h1, h2⟩, h3⟩
  rintro ⟨behind, c3⟩ ⟨d1, d2, d3⟩
  dsimp only at d1 d2 d3 ⊢
  rw [l2] at d1 d3
  refine ok_len (by omega) (Ok.of (mapO_of (g := fun r : Rw => ((ahead ++ r.1) ++ behind, r.2)) fun r hr => ?_) ?_)
  · have hw := (h.rs.ok r hr).good.1
    exact Ok.eq (ok_len (by rw [b1, hw]; omega) (ok_len (by rw [List.length_append, b1, hw, d1]; omega) (Ok.mk rfl)))
  have rs3 : Rs 3 (rows.map fun r : Rw => ((ahead ++ r.1) ++ behind, r.2)) := by
    refine ⟨fun r hr => ?_, by rw [List.length_map]; exact hlen⟩
    obtain ⟨x, hx, rfl⟩ := List.mem_map.mp hr
    have hb := h.rs.ok x hx
    refine ⟨⟨by rw [List.length_append, List.length_append, b1, d1, hb.good.1]; omega, fun y hy => ?_⟩, hb.pos, hb.most⟩
    rcases List.mem_append.mp hy with z | z
    · rcases List.mem_append.mp z with z | z
      · exact b2 y z
      · exact hb.good.2 y z
    · exact d2 y z
  have pw3 : (rows.map fun r : Rw => ((ahead ++ r.1) ++ behind, r.2)).Pairwise fun a b => GR.ltRow a b = true :=
    List.pairwise_map.mpr (List.Pairwise.imp_of_mem (fun ha hb hab => ltRow_wide (h.rs.ok _ ha).good.1 (h.rs.ok _ hb).good.1 hab) h.line)
  obtain ⟨g3, w1, w2, _⟩ := groups_eq rs3 pw3 (by simpa using h.ne) (by rw [List.length_map]; omega) hm (by omega) (by omega)
  have et : tot 3 g3 = tot 1 g := by
    refine GR.opt_map (fun s hs => ?_) k2 w2
    refine GR.sp_wide (at_ := i) hi (fun r hr => (h.rs.ok r (hs r hr)).pos) (fun r hr => rfl) (fun r hr => ?_) fun p hp hne => ⟨co ((ahead ++ [0]) ++ behind) p, fun r hr => ?_⟩
    · have := (co_wide (u := ahead) (v := behind) (h.rs.ok r (hs r hr)).good.1).1
      rw [b1] at this
      exact this
    · exact (co_wide (u := ahead) (v := behind) (h.rs.ok r (hs r hr)).good.1).2 p (by omega)
  refine Ok.of w1 (Ok.mk ⟨?_, d3.mono (by omega)⟩)
  show decide (fr (tot 3 g3) = fr (tot 1 g)) = true
  rw [et]
  exact decide_eq_true rfl
theorem law_plain (ns : List Int) (hl : ns.length ≤ 63) : m_law ns = some true := by
  refine Ok.eq ?_
  unfold m_law
  have hm : 0 ≤ max2 (2 : Int) (min2 (ns.length : Int) (3 : Int)) ∧ max2 (2 : Int) (min2 (ns.length : Int) (3 : Int)) ≤ 3 := by
    unfold max2 min2
    split <;> split <;> omega
  refine ok_rng (by omega) (by omega) (Ok.of (ok_forC0 fun k hk => ?_) (Ok.mk rfl))
  have hk2 := mem_rng.mp hk
  refine Ok.eq (Ok.bind (left_ok (ns := ns) (k := k) (by omega)) ?_)
  rintro l ⟨a, b, rfl⟩
  have l0 : Lk 0 [a, b, 0] := ⟨_, _, _, rfl, by omega, by omega⟩
  refine Ok.bind (pick_ok l0 (by omega) (by omega) (by omega)) ?_
  rintro ⟨t, c⟩ ⟨a1, a2, a3⟩
  dsimp only at a1 a2 a3 ⊢
  obtain ⟨i, rfl⟩ := Int.eq_ofNat_of_zero_le a1
  have li := line_ok (m := 1 + i) a3 (by omega) (by omega) (by omega)
  refine Ok.bind (show Ok (m_law_line c ((1 : Int) + (i : Int))) _ from (show ((1 + i : Nat) : Int) = (1 : Int) + (i : Int) by omega) ▸ li) ?_
  rintro ⟨rows, c2⟩ ⟨b1, b2, b3⟩
  dsimp only at b1 b2 b3 ⊢
  refine Ok.bind (pick_ok b3 (by omega) (by omega) (by omega)) ?_
  rintro ⟨t2, c3⟩ ⟨d1, d2, d3⟩
  dsimp only at d1 d2 d3 ⊢
  obtain ⟨j, rfl⟩ := Int.eq_ofNat_of_zero_le d1
  have fe := few_right (many := 1 + j) b1 (by omega) d3 (by omega) (by omega) (by omega)
  refine Ok.bind (show Ok (m_law_few_right c3 rows ((1 : Int) + (j : Int))) _ from (show ((1 + j : Nat) : Int) = (1 : Int) + (j : Int) by omega) ▸ fe) ?_
  rintro ⟨r, c4⟩ ⟨rfl, e1⟩
  dsimp only at e1 ⊢
  refine ok_cond (fun z => by cases z) fun _ => ?_
  have hb := b2_ix (decide (k = 0))
  refine ok_get hb.1 hb.2 fun y _ hy => ?_
  have hy2 : 0 < y ∧ y ≤ 21 := by
    simp only [List.mem_cons, List.not_mem_nil, or_false] at hy
    omega
  refine Ok.bind (pick_ok e1 (by omega) hy2.1 (by omega)) ?_
  rintro ⟨t3, c5⟩ ⟨f1, f2, f3⟩
  dsimp only at f1 f2 f3 ⊢
  obtain ⟨i2, rfl⟩ := Int.eq_ofNat_of_zero_le f1
  have li2 := line_ok (m := 10 + i2) f3 (by omega) (by omega) (by omega)
  refine Ok.bind (show Ok (m_law_line c5 ((10 : Int) + (i2 : Int))) _ from (show ((10 + i2 : Nat) : Int) = (10 : Int) + (i2 : Int) by omega) ▸ li2) ?_
  rintro ⟨rows2, c6⟩ ⟨p1, p2, p3⟩
  dsimp only at p1 p2 p3 ⊢
  refine Ok.bind (pick_ok p3 (by omega) (by omega) (by omega)) ?_
  rintro ⟨t4, c7⟩ ⟨q1, q2, q3⟩
  dsimp only at q1 q2 q3 ⊢
  obtain ⟨j2, rfl⟩ := Int.eq_ofNat_of_zero_le q1
  have mr := many_right (many := 1 + j2) p1 q3 (by omega) (by omega) (by omega)
  refine Ok.bind (show Ok (m_law_many_right c7 rows2 ((1 : Int) + (j2 : Int))) _ from (show ((1 + j2 : Nat) : Int) = (1 : Int) + (j2 : Int) by omega) ▸ mr) ?_
  rintro ⟨r2, c8⟩ ⟨rfl, _⟩
  exact ok_cond (fun z => by cases z) fun _ => Ok.mk rfl
end K88
set_option maxHeartbeats 2000000
namespace K88
open PySem PySem.Spec PyProof.Rows L2 Evl FC
theorem all_mk {l : PySem.W.OpenLaw} {w : World} {K : PySem.W.Frag} {h : Heap} {mg : Str → Option Value} {fa f1 f2 f3 f4 f5 f6 f7 f8 f9 f10 f11 f12 f13 f14 f15 f16 f17 f18 f19 f20 f21 f22 f23 f24 f25 f26 f27 f28 f29 f30 f31 f32 f33 f34 f35 f36 f37 f38 C_Groups C_Stretches : Addr} (X : K.In h) (G : h.Ns mainGlobals mg) (hfa : mg "law" = some (.ref fa))
    {od1 an1 od2 an2 od3 an3 od4 an4 od5 an5 od6 an6 od7 an7 od8 an8 od9 an9 od10 an10 od11 an11 od12 an12 od13 an13 od14 an14 od15 an15 od16 an16 od17 an17 od18 an18 od19 an19 od20 an20 od21 an21 od22 an22 od23 an23 od24 an24 od25 an25 od26 an26 od27 an27 od28 an28 od29 an29 od30 an30 od31 an31 od32 an32 od33 an33 od34 an34 od35 an35 od36 an36 od37 an37 od38 an38 : Option Addr} {sl1 sl2 sl3 sl4 sl5 sl6 sl7 sl8 sl9 sl10 sl11 sl12 sl13 sl14 sl15 sl16 sl17 sl18 sl19 sl20 sl21 sl22 sl23 sl24 sl25 sl26 sl27 sl28 sl29 sl30 sl31 sl32 sl33 sl34 sl35 sl36 sl37 sl38 : Array (Option Value)} {oc1 kV1 dc1 pm1 cd1 ct1 oc2 kV2 dc2 pm2 cd2 ct2 oc3 kV3 dc3 pm3 cd3 ct3 oc4 kV4 dc4 pm4 cd4 ct4 oc5 kV5 dc5 pm5 cd5 ct5 oc6 kV6 dc6 pm6 cd6 ct6 oc7 kV7 dc7 pm7 cd7 ct7 oc8 kV8 dc8 pm8 cd8 ct8 oc9 kV9 dc9 pm9 cd9 ct9 oc10 kV10 dc10 pm10 cd10 ct10 oc11 kV11 dc11 pm11 cd11 ct11 oc12 kV12 dc12 pm12 cd12 ct12 oc13 kV13 dc13 pm13 cd13 ct13 oc14 kV14 dc14 pm14 cd14 ct14 oc15 kV15 dc15 pm15 cd15 ct15 oc16 kV16 dc16 pm16 cd16 ct16 oc17 kV17 dc17 pm17 cd17 ct17 oc18 kV18 dc18 pm18 cd18 ct18 oc19 kV19 dc19 pm19 cd19 ct19 oc20 kV20 dc20 pm20 cd20 ct20 oc21 kV21 dc21 pm21 cd21 ct21 oc22 kV22 dc22 pm22 cd22 ct22 oc23 kV23 dc23 pm23 cd23 ct23 oc24 kV24 dc24 pm24 cd24 ct24 oc25 kV25 dc25 pm25 cd25 ct25 oc26 kV26 dc26 pm26 cd26 ct26 oc27 kV27 dc27 pm27 cd27 ct27 oc28 kV28 dc28 pm28 cd28 ct28 oc29 kV29 dc29 pm29 cd29 ct29 oc30 kV30 dc30 pm30 cd30 ct30 oc31 kV31 dc31 pm31 cd31 ct31 oc32 kV32 dc32 pm32 cd32 ct32 oc33 kV33 dc33 pm33 cd33 ct33 oc34 kV34 dc34 pm34 cd34 ct34 oc35 kV35 dc35 pm35 cd35 ct35 oc36 kV36 dc36 pm36 cd36 ct36 oc37 kV37 dc37 pm37 cd37 ct37 oc38 kV38 dc38 pm38 cd38 ct38 : Value} {a_NOUGHT : Addr} {od_NOUGHT : Option Addr} {sl_NOUGHT : Array (Option Value)} {n_NOUGHT : Nat} {t_NOUGHT u_NOUGHT : Tok}
    (aC_Groups : PySem.W.nsIn K mainGlobals "Groups" = some (some (.ref C_Groups)))
    (pg_Groups : PySem.W.plainGet K C_Groups Str.empty = true)
    (hd_Groups : PySem.W.hasDictIn K C_Groups = true)
    (po_Groups : PySem.W.plainOver K C_Groups = true)
    (sa_Groups : PySem.W.findIn K (.ref C_Groups) "__setattr__" = some (some (.builtin "object.__setattr__")))
    (mk_Groups : PySem.W.makesIn K C_Groups = true)
    (kc_Groups : PySem.W.keepIn K (.ref C_Groups) = true)
    (aC_Stretches : PySem.W.nsIn K mainGlobals "Stretches" = some (some (.ref C_Stretches)))
    (pg_Stretches : PySem.W.plainGet K C_Stretches Str.empty = true)
    (hd_Stretches : PySem.W.hasDictIn K C_Stretches = true)
    (po_Stretches : PySem.W.plainOver K C_Stretches = true)
    (sa_Stretches : PySem.W.findIn K (.ref C_Stretches) "__setattr__" = some (some (.builtin "object.__setattr__")))
    (mk_Stretches : PySem.W.makesIn K C_Stretches = true)
    (kc_Stretches : PySem.W.keepIn K (.ref C_Stretches) = true)
    (na_Groups_own_begun : PySem.W.findIn K (.ref C_Groups) "own_begun" = some none)
    (na_Groups_own_spreads : PySem.W.findIn K (.ref C_Groups) "own_spreads" = some none)
    (na_Stretches_own_many : PySem.W.findIn K (.ref C_Stretches) "own_many" = some none)
    (na_Stretches_own_numbers : PySem.W.findIn K (.ref C_Stretches) "own_numbers" = some none)
    (na_Stretches_own_squares : PySem.W.findIn K (.ref C_Stretches) "own_squares" = some none)
    (a1 : PySem.W.nsIn K mainGlobals "in_both" = some (some (.ref f1)))
    (l1 : K.lookup f1 = some ⟨oc1, od1, .func (PySem.W.fnOf "in_both" "in_both" (defArgs sm_in_both) (defBody sm_in_both) (defScope sm_in_both) .none kV1 dc1 pm1 an1 cd1 ct1), sl1⟩)
    (c1 : PySem.W.codeIn K cd1 "in_both" = true)
    (k1 : PySem.W.keepIn K (.ref f1) = true)
    (a2 : PySem.W.nsIn K mainGlobals "part" = some (some (.ref f2)))
    (l2 : K.lookup f2 = some ⟨oc2, od2, .func (PySem.W.fnOf "part" "part" (defArgs sm_part) (defBody sm_part) (defScope sm_part) .none kV2 dc2 pm2 an2 cd2 ct2), sl2⟩)
    (c2 : PySem.W.codeIn K cd2 "part" = true)
    (k2 : PySem.W.keepIn K (.ref f2) = true)
    (a3 : PySem.W.nsIn K mainGlobals "plus" = some (some (.ref f3)))
    (l3 : K.lookup f3 = some ⟨oc3, od3, .func (PySem.W.fnOf "plus" "plus" (defArgs sm_plus) (defBody sm_plus) (defScope sm_plus) .none kV3 dc3 pm3 an3 cd3 ct3), sl3⟩)
    (c3 : PySem.W.codeIn K cd3 "plus" = true)
    (k3 : PySem.W.keepIn K (.ref f3) = true)
    (a4 : PySem.W.nsIn K mainGlobals "plus" = some (some (.ref f4)))
    (l4 : K.lookup f4 = some ⟨oc4, od4, .func (PySem.W.fnOf "plus" "plus" (defArgs sm_plus_q) (defBody sm_plus_q) (defScope sm_plus_q) .none kV4 dc4 pm4 an4 cd4 ct4), sl4⟩)
    (c4 : PySem.W.codeIn K cd4 "plus" = true)
    (k4 : PySem.W.keepIn K (.ref f4) = true)
    (a5 : PySem.W.nsIn K mainGlobals "times" = some (some (.ref f5)))
    (l5 : K.lookup f5 = some ⟨oc5, od5, .func (PySem.W.fnOf "times" "times" (defArgs sm_times) (defBody sm_times) (defScope sm_times) .none kV5 dc5 pm5 an5 cd5 ct5), sl5⟩)
    (c5 : PySem.W.codeIn K cd5 "times" = true)
    (k5 : PySem.W.keepIn K (.ref f5) = true)
    (a6 : PySem.W.nsIn K mainGlobals "before" = some (some (.ref f6)))
    (l6 : K.lookup f6 = some ⟨oc6, od6, .func (PySem.W.fnOf "before" "before" (defArgs sm_before) (defBody sm_before) (defScope sm_before) .none kV6 dc6 pm6 an6 cd6 ct6), sl6⟩)
    (c6 : PySem.W.codeIn K cd6 "before" = true)
    (k6 : PySem.W.keepIn K (.ref f6) = true)
    (a7 : PySem.W.nsIn K mainGlobals "middle_of" = some (some (.ref f7)))
    (l7 : K.lookup f7 = some ⟨oc7, od7, .func (PySem.W.fnOf "middle_of" "middle_of" (defArgs sm_middle_of) (defBody sm_middle_of) (defScope sm_middle_of) .none kV7 dc7 pm7 an7 cd7 ct7), sl7⟩)
    (c7 : PySem.W.codeIn K cd7 "middle_of" = true)
    (k7 : PySem.W.keepIn K (.ref f7) = true)
    (a8 : PySem.W.nsIn K mainGlobals "far_of" = some (some (.ref f8)))
    (l8 : K.lookup f8 = some ⟨oc8, od8, .func (PySem.W.fnOf "far_of" "far_of" (defArgs sm_far_of) (defBody sm_far_of) (defScope sm_far_of) .none kV8 dc8 pm8 an8 cd8 ct8), sl8⟩)
    (c8 : PySem.W.codeIn K cd8 "far_of" = true)
    (k8 : PySem.W.keepIn K (.ref f8) = true)
    (a9 : PySem.W.nsIn K mainGlobals "spread_of" = some (some (.ref f9)))
    (l9 : K.lookup f9 = some ⟨oc9, od9, .func (PySem.W.fnOf "spread_of" "spread_of" (defArgs sm_spread_of) (defBody sm_spread_of) (defScope sm_spread_of) .none kV9 dc9 pm9 an9 cd9 ct9), sl9⟩)
    (c9 : PySem.W.codeIn K cd9 "spread_of" = true)
    (k9 : PySem.W.keepIn K (.ref f9) = true)
    (a10 : PySem.W.nsIn K mainGlobals "sum_of" = some (some (.ref f10)))
    (l10 : K.lookup f10 = some ⟨oc10, od10, .func (PySem.W.fnOf "sum_of" "sum_of" (defArgs sm_sum_of) (defBody sm_sum_of) (defScope sm_sum_of) .none kV10 dc10 pm10 an10 cd10 ct10), sl10⟩)
    (c10 : PySem.W.codeIn K cd10 "sum_of" = true)
    (k10 : PySem.W.keepIn K (.ref f10) = true)
    (a11 : PySem.W.nsIn K mainGlobals "total_of" = some (some (.ref f11)))
    (l11 : K.lookup f11 = some ⟨oc11, od11, .func (PySem.W.fnOf "total_of" "total_of" (defArgs sm_total_of) (defBody sm_total_of) (defScope sm_total_of) .none kV11 dc11 pm11 an11 cd11 ct11), sl11⟩)
    (c11 : PySem.W.codeIn K cd11 "total_of" = true)
    (k11 : PySem.W.keepIn K (.ref f11) = true)
    (a12 : PySem.W.nsIn K mainGlobals "is_better" = some (some (.ref f12)))
    (l12 : K.lookup f12 = some ⟨oc12, od12, .func (PySem.W.fnOf "is_better" "is_better" (defArgs sm_is_better) (defBody sm_is_better) (defScope sm_is_better) .none kV12 dc12 pm12 an12 cd12 ct12), sl12⟩)
    (c12 : PySem.W.codeIn K cd12 "is_better" = true)
    (k12 : PySem.W.keepIn K (.ref f12) = true)
    (a13 : PySem.W.nsIn K mainGlobals "is_better" = some (some (.ref f13)))
    (l13 : K.lookup f13 = some ⟨oc13, od13, .func (PySem.W.fnOf "is_better" "is_better" (defArgs sm_is_better_i) (defBody sm_is_better_i) (defScope sm_is_better_i) .none kV13 dc13 pm13 an13 cd13 ct13), sl13⟩)
    (c13 : PySem.W.codeIn K cd13 "is_better" = true)
    (k13 : PySem.W.keepIn K (.ref f13) = true)
    (a14 : PySem.W.findIn K (.ref C_Groups) "__init__" = some (some (.ref f14)))
    (i14 : PySem.W.isFn K (.ref f14) = true)
    (l14 : K.lookup f14 = some ⟨oc14, od14, .func (PySem.W.fnOf "__init__" "Groups.__init__" (defArgs sm_Groups_init) (defBody sm_Groups_init) (defScope sm_Groups_init) .none kV14 dc14 pm14 an14 cd14 ct14), sl14⟩)
    (c14 : PySem.W.codeIn K cd14 "Groups.__init__" = true)
    (k14 : PySem.W.keepIn K (.ref f14) = true)
    (a15 : PySem.W.findIn K (.ref C_Groups) "so_far" = some (some (.ref f15)))
    (i15 : PySem.W.isFn K (.ref f15) = true)
    (l15 : K.lookup f15 = some ⟨oc15, od15, .func (PySem.W.fnOf "so_far" "Groups.so_far" (defArgs sm_Groups_so_far) (defBody sm_Groups_so_far) (defScope sm_Groups_so_far) .none kV15 dc15 pm15 an15 cd15 ct15), sl15⟩)
    (c15 : PySem.W.codeIn K cd15 "Groups.so_far" = true)
    (k15 : PySem.W.keepIn K (.ref f15) = true)
    (a16 : PySem.W.findIn K (.ref C_Groups) "with_row" = some (some (.ref f16)))
    (i16 : PySem.W.isFn K (.ref f16) = true)
    (l16 : K.lookup f16 = some ⟨oc16, od16, .func (PySem.W.fnOf "with_row" "Groups.with_row" (defArgs sm_Groups_with_row) (defBody sm_Groups_with_row) (defScope sm_Groups_with_row) .none kV16 dc16 pm16 an16 cd16 ct16), sl16⟩)
    (c16 : PySem.W.codeIn K cd16 "Groups.with_row" = true)
    (k16 : PySem.W.keepIn K (.ref f16) = true)
    (a17 : PySem.W.findIn K (.ref C_Groups) "ways" = some (some (.ref f17)))
    (i17 : PySem.W.isFn K (.ref f17) = true)
    (l17 : K.lookup f17 = some ⟨oc17, od17, .func (PySem.W.fnOf "ways" "Groups.ways" (defArgs sm_Groups_ways) (defBody sm_Groups_ways) (defScope sm_Groups_ways) .none kV17 dc17 pm17 an17 cd17 ct17), sl17⟩)
    (c17 : PySem.W.codeIn K cd17 "Groups.ways" = true)
    (k17 : PySem.W.keepIn K (.ref f17) = true)
    (a18 : PySem.W.nsIn K mainGlobals "better_below" = some (some (.ref f18)))
    (l18 : K.lookup f18 = some ⟨oc18, od18, .func (PySem.W.fnOf "better_below" "better_below" (defArgs sm_better_below) (defBody sm_better_below) (defScope sm_better_below) .none kV18 dc18 pm18 an18 cd18 ct18), sl18⟩)
    (c18 : PySem.W.codeIn K cd18 "better_below" = true)
    (k18 : PySem.W.keepIn K (.ref f18) = true)
    (a19 : PySem.W.nsIn K mainGlobals "best_groups" = some (some (.ref f19)))
    (l19 : K.lookup f19 = some ⟨oc19, od19, .func (PySem.W.fnOf "best_groups" "best_groups" (defArgs sm_best_groups) (defBody sm_best_groups) (defScope sm_best_groups) .none kV19 dc19 pm19 an19 cd19 ct19), sl19⟩)
    (c19 : PySem.W.codeIn K cd19 "best_groups" = true)
    (k19 : PySem.W.keepIn K (.ref f19) = true)
    (a20 : PySem.W.findIn K (.ref C_Stretches) "__init__" = some (some (.ref f20)))
    (i20 : PySem.W.isFn K (.ref f20) = true)
    (l20 : K.lookup f20 = some ⟨oc20, od20, .func (PySem.W.fnOf "__init__" "Stretches.__init__" (defArgs sm_Stretches_init) (defBody sm_Stretches_init) (defScope sm_Stretches_init) .none kV20 dc20 pm20 an20 cd20 ct20), sl20⟩)
    (c20 : PySem.W.codeIn K cd20 "Stretches.__init__" = true)
    (k20 : PySem.W.keepIn K (.ref f20) = true)
    (a21 : PySem.W.findIn K (.ref C_Stretches) "spread_from" = some (some (.ref f21)))
    (i21 : PySem.W.isFn K (.ref f21) = true)
    (l21 : K.lookup f21 = some ⟨oc21, od21, .func (PySem.W.fnOf "spread_from" "Stretches.spread_from" (defArgs sm_Stretches_spread_from) (defBody sm_Stretches_spread_from) (defScope sm_Stretches_spread_from) .none kV21 dc21 pm21 an21 cd21 ct21), sl21⟩)
    (c21 : PySem.W.codeIn K cd21 "Stretches.spread_from" = true)
    (k21 : PySem.W.keepIn K (.ref f21) = true)
    (a22 : PySem.W.nsIn K mainGlobals "with_one_more" = some (some (.ref f22)))
    (l22 : K.lookup f22 = some ⟨oc22, od22, .func (PySem.W.fnOf "with_one_more" "with_one_more" (defArgs sm_with_one_more) (defBody sm_with_one_more) (defScope sm_with_one_more) .none kV22 dc22 pm22 an22 cd22 ct22), sl22⟩)
    (c22 : PySem.W.codeIn K cd22 "with_one_more" = true)
    (k22 : PySem.W.keepIn K (.ref f22) = true)
    (a23 : PySem.W.nsIn K mainGlobals "best_on_line" = some (some (.ref f23)))
    (l23 : K.lookup f23 = some ⟨oc23, od23, .func (PySem.W.fnOf "best_on_line" "best_on_line" (defArgs sm_best_on_line) (defBody sm_best_on_line) (defScope sm_best_on_line) .none kV23 dc23 pm23 an23 cd23 ct23), sl23⟩)
    (c23 : PySem.W.codeIn K cd23 "best_on_line" = true)
    (k23 : PySem.W.keepIn K (.ref f23) = true)
    (a24 : PySem.W.nsIn K mainGlobals "nearest_middle" = some (some (.ref f24)))
    (l24 : K.lookup f24 = some ⟨oc24, od24, .func (PySem.W.fnOf "nearest_middle" "nearest_middle" (defArgs sm_nearest_middle) (defBody sm_nearest_middle) (defScope sm_nearest_middle) .none kV24 dc24 pm24 an24 cd24 ct24), sl24⟩)
    (c24 : PySem.W.codeIn K cd24 "nearest_middle" = true)
    (k24 : PySem.W.keepIn K (.ref f24) = true)
    (a25 : PySem.W.nsIn K mainGlobals "shared_out" = some (some (.ref f25)))
    (l25 : K.lookup f25 = some ⟨oc25, od25, .func (PySem.W.fnOf "shared_out" "shared_out" (defArgs sm_shared_out) (defBody sm_shared_out) (defScope sm_shared_out) .none kV25 dc25 pm25 an25 cd25 ct25), sl25⟩)
    (c25 : PySem.W.codeIn K cd25 "shared_out" = true)
    (k25 : PySem.W.keepIn K (.ref f25) = true)
    (a26 : PySem.W.nsIn K mainGlobals "moved_once" = some (some (.ref f26)))
    (l26 : K.lookup f26 = some ⟨oc26, od26, .func (PySem.W.fnOf "moved_once" "moved_once" (defArgs sm_moved_once) (defBody sm_moved_once) (defScope sm_moved_once) .none kV26 dc26 pm26 an26 cd26 ct26), sl26⟩)
    (c26 : PySem.W.codeIn K cd26 "moved_once" = true)
    (k26 : PySem.W.keepIn K (.ref f26) = true)
    (a27 : PySem.W.nsIn K mainGlobals "is_resting" = some (some (.ref f27)))
    (l27 : K.lookup f27 = some ⟨oc27, od27, .func (PySem.W.fnOf "is_resting" "is_resting" (defArgs sm_is_resting) (defBody sm_is_resting) (defScope sm_is_resting) .none kV27 dc27 pm27 an27 cd27 ct27), sl27⟩)
    (c27 : PySem.W.codeIn K cd27 "is_resting" = true)
    (k27 : PySem.W.keepIn K (.ref f27) = true)
    (a28 : PySem.W.nsIn K mainGlobals "_law_mix" = some (some (.ref f28)))
    (l28 : K.lookup f28 = some ⟨oc28, od28, .func (PySem.W.fnOf "_law_mix" "_law_mix" (defArgs sm_law_mix) (defBody sm_law_mix) (defScope sm_law_mix) .none kV28 dc28 pm28 an28 cd28 ct28), sl28⟩)
    (c28 : PySem.W.codeIn K cd28 "_law_mix" = true)
    (k28 : PySem.W.keepIn K (.ref f28) = true)
    (a29 : PySem.W.nsIn K mainGlobals "_law_left" = some (some (.ref f29)))
    (l29 : K.lookup f29 = some ⟨oc29, od29, .func (PySem.W.fnOf "_law_left" "_law_left" (defArgs sm_law_left) (defBody sm_law_left) (defScope sm_law_left) .none kV29 dc29 pm29 an29 cd29 ct29), sl29⟩)
    (c29 : PySem.W.codeIn K cd29 "_law_left" = true)
    (k29 : PySem.W.keepIn K (.ref f29) = true)
    (a30 : PySem.W.nsIn K mainGlobals "_law_pick" = some (some (.ref f30)))
    (l30 : K.lookup f30 = some ⟨oc30, od30, .func (PySem.W.fnOf "_law_pick" "_law_pick" (defArgs sm_law_pick) (defBody sm_law_pick) (defScope sm_law_pick) .none kV30 dc30 pm30 an30 cd30 ct30), sl30⟩)
    (c30 : PySem.W.codeIn K cd30 "_law_pick" = true)
    (k30 : PySem.W.keepIn K (.ref f30) = true)
    (a31 : PySem.W.nsIn K mainGlobals "_law_less" = some (some (.ref f31)))
    (l31 : K.lookup f31 = some ⟨oc31, od31, .func (PySem.W.fnOf "_law_less" "_law_less" (defArgs sm_law_less) (defBody sm_law_less) (defScope sm_law_less) .none kV31 dc31 pm31 an31 cd31 ct31), sl31⟩)
    (c31 : PySem.W.codeIn K cd31 "_law_less" = true)
    (k31 : PySem.W.keepIn K (.ref f31) = true)
    (a32 : PySem.W.nsIn K mainGlobals "_law_line" = some (some (.ref f32)))
    (l32 : K.lookup f32 = some ⟨oc32, od32, .func (PySem.W.fnOf "_law_line" "_law_line" (defArgs sm_law_line) (defBody sm_law_line) (defScope sm_law_line) .none kV32 dc32 pm32 an32 cd32 ct32), sl32⟩)
    (c32 : PySem.W.codeIn K cd32 "_law_line" = true)
    (k32 : PySem.W.keepIn K (.ref f32) = true)
    (a33 : PySem.W.nsIn K mainGlobals "_law_stretches" = some (some (.ref f33)))
    (l33 : K.lookup f33 = some ⟨oc33, od33, .func (PySem.W.fnOf "_law_stretches" "_law_stretches" (defArgs sm_law_stretches) (defBody sm_law_stretches) (defScope sm_law_stretches) .none kV33 dc33 pm33 an33 cd33 ct33), sl33⟩)
    (c33 : PySem.W.codeIn K cd33 "_law_stretches" = true)
    (k33 : PySem.W.keepIn K (.ref f33) = true)
    (a34 : PySem.W.nsIn K mainGlobals "_law_some_cuts" = some (some (.ref f34)))
    (l34 : K.lookup f34 = some ⟨oc34, od34, .func (PySem.W.fnOf "_law_some_cuts" "_law_some_cuts" (defArgs sm_law_some_cuts) (defBody sm_law_some_cuts) (defScope sm_law_some_cuts) .none kV34 dc34 pm34 an34 cd34 ct34), sl34⟩)
    (c34 : PySem.W.codeIn K cd34 "_law_some_cuts" = true)
    (k34 : PySem.W.keepIn K (.ref f34) = true)
    (a35 : PySem.W.nsIn K mainGlobals "_law_beside" = some (some (.ref f35)))
    (l35 : K.lookup f35 = some ⟨oc35, od35, .func (PySem.W.fnOf "_law_beside" "_law_beside" (defArgs sm_law_beside) (defBody sm_law_beside) (defScope sm_law_beside) .none kV35 dc35 pm35 an35 cd35 ct35), sl35⟩)
    (c35 : PySem.W.codeIn K cd35 "_law_beside" = true)
    (k35 : PySem.W.keepIn K (.ref f35) = true)
    (a36 : PySem.W.nsIn K mainGlobals "_law_many_right" = some (some (.ref f36)))
    (l36 : K.lookup f36 = some ⟨oc36, od36, .func (PySem.W.fnOf "_law_many_right" "_law_many_right" (defArgs sm_law_many_right) (defBody sm_law_many_right) (defScope sm_law_many_right) .none kV36 dc36 pm36 an36 cd36 ct36), sl36⟩)
    (c36 : PySem.W.codeIn K cd36 "_law_many_right" = true)
    (k36 : PySem.W.keepIn K (.ref f36) = true)
    (a37 : PySem.W.nsIn K mainGlobals "_law_few_right" = some (some (.ref f37)))
    (l37 : K.lookup f37 = some ⟨oc37, od37, .func (PySem.W.fnOf "_law_few_right" "_law_few_right" (defArgs sm_law_few_right) (defBody sm_law_few_right) (defScope sm_law_few_right) .none kV37 dc37 pm37 an37 cd37 ct37), sl37⟩)
    (c37 : PySem.W.codeIn K cd37 "_law_few_right" = true)
    (k37 : PySem.W.keepIn K (.ref f37) = true)
    (a38 : PySem.W.nsIn K mainGlobals "law" = some (some (.ref f38)))
    (l38 : K.lookup f38 = some ⟨oc38, od38, .func (PySem.W.fnOf "law" "law" (defArgs sm_law) (defBody sm_law) (defScope sm_law) .none kV38 dc38 pm38 an38 cd38 ct38), sl38⟩)
    (c38 : PySem.W.codeIn K cd38 "law" = true)
    (k38 : PySem.W.keepIn K (.ref f38) = true)
    (aq_NOUGHT : PySem.W.nsIn K mainGlobals "NOUGHT" = some (some (.ref a_NOUGHT)))
    (lq_NOUGHT : K.lookup a_NOUGHT = some ⟨.type "tuple", od_NOUGHT, .seq #[.int 0 t_NOUGHT, .int 1 u_NOUGHT] n_NOUGHT, sl_NOUGHT⟩)
    (z_abs : PySem.W.nsIn K mainGlobals "abs" = some none)
    (z_any : PySem.W.nsIn K mainGlobals "any" = some none)
    (z_enumerate : PySem.W.nsIn K mainGlobals "enumerate" = some none)
    (z_int : PySem.W.nsIn K mainGlobals "int" = some none)
    (z_len : PySem.W.nsIn K mainGlobals "len" = some none)
    (z_list : PySem.W.nsIn K mainGlobals "list" = some none)
    (z_max : PySem.W.nsIn K mainGlobals "max" = some none)
    (z_min : PySem.W.nsIn K mainGlobals "min" = some none)
    (z_range : PySem.W.nsIn K mainGlobals "range" = some none)
    (z_set : PySem.W.nsIn K mainGlobals "set" = some none)
    (z_sorted : PySem.W.nsIn K mainGlobals "sorted" = some none)
    (z_sum : PySem.W.nsIn K mainGlobals "sum" = some none)
    (z_tuple : PySem.W.nsIn K mainGlobals "tuple" = some none)
    (z_zip : PySem.W.nsIn K mainGlobals "zip" = some none) :
    ∃ fd : FuncData, (∀ (s : Shared) (v : Value), BindsTo s fd ⟨[v], []⟩ [("script", v)]) ∧ ∀ base : Heap, K.In base → base.Ns mainGlobals mg → FnOk l.prog w K mg base CX0 20 fa fd ["script"] (spOf K pf_m_law) := by
  have e := hfa.symm.trans (PySem.W.mg_of X G a38)
  cases e
  have cc_Groups : Cls K C_Groups := ⟨pg_Groups, hd_Groups, po_Groups, sa_Groups⟩
  have cc_Stretches : Cls K C_Stretches := ⟨pg_Stretches, hd_Stretches, po_Stretches, sa_Stretches⟩
  have F1 := fun_mk (st := sm_in_both) l1 c1 k1
  have b1 := F1.binds (ps := ["one", "other"]) fun _ _ _ _ _ _ us hl => match us, hl with | [_, _], _ => rfl
  have F2 := fun_mk (st := sm_part) l2 c2 k2
  have b2 := F2.binds (ps := ["top", "bottom"]) fun _ _ _ _ _ _ us hl => match us, hl with | [_, _], _ => rfl
  have F3 := fun_mk (st := sm_plus) l3 c3 k3
  have b3 := F3.binds (ps := ["one", "other"]) fun _ _ _ _ _ _ us hl => match us, hl with | [_, _], _ => rfl
  have F4 := fun_mk (st := sm_plus_q) l4 c4 k4
  have b4 := F4.binds (ps := ["one", "other"]) fun _ _ _ _ _ _ us hl => match us, hl with | [_, _], _ => rfl
  have F5 := fun_mk (st := sm_times) l5 c5 k5
  have b5 := F5.binds (ps := ["one", "other"]) fun _ _ _ _ _ _ us hl => match us, hl with | [_, _], _ => rfl
  have F6 := fun_mk (st := sm_before) l6 c6 k6
  have b6 := F6.binds (ps := ["one", "other"]) fun _ _ _ _ _ _ us hl => match us, hl with | [_, _], _ => rfl
  have F7 := fun_mk (st := sm_middle_of) l7 c7 k7
  have b7 := F7.binds (ps := ["rows"]) fun _ _ _ _ _ _ us hl => match us, hl with | [_], _ => rfl
  have F8 := fun_mk (st := sm_far_of) l8 c8 k8
  have b8 := F8.binds (ps := ["colour", "middle"]) fun _ _ _ _ _ _ us hl => match us, hl with | [_, _], _ => rfl
  have F9 := fun_mk (st := sm_spread_of) l9 c9 k9
  have b9 := F9.binds (ps := ["rows"]) fun _ _ _ _ _ _ us hl => match us, hl with | [_], _ => rfl
  have F10 := fun_mk (st := sm_sum_of) l10 c10 k10
  have b10 := F10.binds (ps := ["fractions"]) fun _ _ _ _ _ _ us hl => match us, hl with | [_], _ => rfl
  have F11 := fun_mk (st := sm_total_of) l11 c11 k11
  have b11 := F11.binds (ps := ["groups"]) fun _ _ _ _ _ _ us hl => match us, hl with | [_], _ => rfl
  have F12 := fun_mk (st := sm_is_better) l12 c12 k12
  have b12 := F12.binds (ps := ["one", "other"]) fun _ _ _ _ _ _ us hl => match us, hl with | [_, _], _ => rfl
  have F13 := fun_mk (st := sm_is_better_i) l13 c13 k13
  have b13 := F13.binds (ps := ["one", "other"]) fun _ _ _ _ _ _ us hl => match us, hl with | [_, _], _ => rfl
  have F14 := fun_mk (st := sm_Groups_init) l14 c14 k14
  have b14 := F14.binds (ps := ["self", "begun", "spreads"]) fun _ _ _ _ _ _ us hl => match us, hl with | [_, _, _], _ => rfl
  have F15 := fun_mk (st := sm_Groups_so_far) l15 c15 k15
  have b15 := F15.binds (ps := ["self"]) fun _ _ _ _ _ _ us hl => match us, hl with | [_], _ => rfl
  have F16 := fun_mk (st := sm_Groups_with_row) l16 c16 k16
  have b16 := F16.binds (ps := ["self", "row", "place"]) fun _ _ _ _ _ _ us hl => match us, hl with | [_, _, _], _ => rfl
  have F17 := fun_mk (st := sm_Groups_ways) l17 c17 k17
  have b17 := F17.binds (ps := ["self", "row", "many"]) fun _ _ _ _ _ _ us hl => match us, hl with | [_, _, _], _ => rfl
  have F18 := fun_mk (st := sm_better_below) l18 c18 k18
  have b18 := F18.binds (ps := ["rows", "many", "groups", "best"]) fun _ _ _ _ _ _ us hl => match us, hl with | [_, _, _, _], _ => rfl
  have F19 := fun_mk (st := sm_best_groups) l19 c19 k19
  have b19 := F19.binds (ps := ["rows", "many"]) fun _ _ _ _ _ _ us hl => match us, hl with | [_, _], _ => rfl
  have F20 := fun_mk (st := sm_Stretches_init) l20 c20 k20
  have b20 := F20.binds (ps := ["self", "rows"]) fun _ _ _ _ _ _ us hl => match us, hl with | [_, _], _ => rfl
  have F21 := fun_mk (st := sm_Stretches_spread_from) l21 c21 k21
  have b21 := F21.binds (ps := ["self", "begin", "end"]) fun _ _ _ _ _ _ us hl => match us, hl with | [_, _, _], _ => rfl
  have F22 := fun_mk (st := sm_with_one_more) l22 c22 k22
  have b22 := F22.binds (ps := ["stretches", "best", "length"]) fun _ _ _ _ _ _ us hl => match us, hl with | [_, _, _], _ => rfl
  have F23 := fun_mk (st := sm_best_on_line) l23 c23 k23
  have b23 := F23.binds (ps := ["rows", "many"]) fun _ _ _ _ _ _ us hl => match us, hl with | [_, _], _ => rfl
  have F24 := fun_mk (st := sm_nearest_middle) l24 c24 k24
  have b24 := F24.binds (ps := ["middles", "colour"]) fun _ _ _ _ _ _ us hl => match us, hl with | [_, _], _ => rfl
  have F25 := fun_mk (st := sm_shared_out) l25 c25 k25
  have b25 := F25.binds (ps := ["rows", "middles"]) fun _ _ _ _ _ _ us hl => match us, hl with | [_, _], _ => rfl
  have F26 := fun_mk (st := sm_moved_once) l26 c26 k26
  have b26 := F26.binds (ps := ["rows", "middles"]) fun _ _ _ _ _ _ us hl => match us, hl with | [_, _], _ => rfl
  have F27 := fun_mk (st := sm_is_resting) l27 c27 k27
  have b27 := F27.binds (ps := ["rows", "middles"]) fun _ _ _ _ _ _ us hl => match us, hl with | [_, _], _ => rfl
  have F28 := fun_mk (st := sm_law_mix) l28 c28 k28
  have b28 := F28.binds (ps := ["cell", "k"]) fun _ _ _ _ _ _ us hl => match us, hl with | [_, _], _ => rfl
  have F29 := fun_mk (st := sm_law_left) l29 c29 k29
  have b29 := F29.binds (ps := ["script", "k"]) fun _ _ _ _ _ _ us hl => match us, hl with | [_, _], _ => rfl
  have F30 := fun_mk (st := sm_law_pick) l30 c30 k30
  have b30 := F30.binds (ps := ["left", "many"]) fun _ _ _ _ _ _ us hl => match us, hl with | [_, _], _ => rfl
  have F31 := fun_mk (st := sm_law_less) l31 c31 k31
  have b31 := F31.binds (ps := ["one", "other"]) fun _ _ _ _ _ _ us hl => match us, hl with | [_, _], _ => rfl
  have F32 := fun_mk (st := sm_law_line) l32 c32 k32
  have b32 := F32.binds (ps := ["left", "many"]) fun _ _ _ _ _ _ us hl => match us, hl with | [_, _], _ => rfl
  have F33 := fun_mk (st := sm_law_stretches) l33 c33 k33
  have b33 := F33.binds (ps := ["rows", "begins"]) fun _ _ _ _ _ _ us hl => match us, hl with | [_, _], _ => rfl
  have F34 := fun_mk (st := sm_law_some_cuts) l34 c34 k34
  have b34 := F34.binds (ps := ["left", "rows", "many"]) fun _ _ _ _ _ _ us hl => match us, hl with | [_, _, _], _ => rfl
  have F35 := fun_mk (st := sm_law_beside) l35 c35 k35
  have b35 := F35.binds (ps := ["begins", "length"]) fun _ _ _ _ _ _ us hl => match us, hl with | [_, _], _ => rfl
  have F36 := fun_mk (st := sm_law_many_right) l36 c36 k36
  have b36 := F36.binds (ps := ["left", "rows", "many"]) fun _ _ _ _ _ _ us hl => match us, hl with | [_, _, _], _ => rfl
  have F37 := fun_mk (st := sm_law_few_right) l37 c37 k37
  have b37 := F37.binds (ps := ["left", "rows", "many"]) fun _ _ _ _ _ _ us hl => match us, hl with | [_, _, _], _ => rfl
  have F38 := fun_mk (st := sm_law) l38 c38 k38
  refine ⟨PySem.W.fnOf "law" "law" (defArgs sm_law) (defBody sm_law) (defScope sm_law) .none kV38 dc38 pm38 an38 cd38 ct38, fun s v => .of_eq rfl, fun base _ _ => ?_⟩
  have G1 : FnOk l.prog w K mg base CX0 1 f1 _ ["one", "other"] (spOf K (pf_m_in_both)) := ok_m_in_both F1 (PySem.W.mg_none_of X G z_abs)
  have G2 : FnOk l.prog w K mg base CX0 2 f2 _ ["top", "bottom"] (spOf K (pf_m_part)) := ok_m_part F2 G1 (PySem.W.mg_of X G a1) k1 b1
  have G3 : FnOk l.prog w K mg base CX0 3 f3 _ ["one", "other"] (spOf K (pf_m_plus)) := ok_m_plus F3 G2 (PySem.W.mg_of X G a2) k2 b2
  have G4 : FnOk l.prog w K mg base CX0 3 f4 _ ["one", "other"] (spOf K (pf_m_plus_q K)) := ok_m_plus_q F4 G2 (PySem.W.mg_of X G a2) k2 b2
  have G5 : FnOk l.prog w K mg base CX0 3 f5 _ ["one", "other"] (spOf K (pf_m_times)) := ok_m_times F5 G2 (PySem.W.mg_of X G a2) k2 b2
  have G6 : FnOk l.prog w K mg base CX0 1 f6 _ ["one", "other"] (spOf K (pf_m_before)) := ok_m_before F6 
  have G7 : FnOk l.prog w K mg base CX0 3 f7 _ ["rows"] (spOf K (pf_m_middle_of)) := ok_m_middle_of F7 G2 (PySem.W.mg_of X G a2) k2 b2 (PySem.W.mg_none_of X G z_len) (PySem.W.mg_none_of X G z_list) (PySem.W.mg_none_of X G z_range) (PySem.W.mg_none_of X G z_sum) (PySem.W.mg_none_of X G z_tuple)
  have G8 : FnOk l.prog w K mg base CX0 4 f8 _ ["colour", "middle"] (spOf K (pf_m_far_of)) := ok_m_far_of F8 G3 (PySem.W.mg_of X G a3) k3 b3 G5 (PySem.W.mg_of X G a5) k5 b5 (PySem.W.mg_none_of X G z_zip)
  have G9 : FnOk l.prog w K mg base CX0 3 f9 _ ["rows"] (spOf K (pf_m_spread_of)) := ok_m_spread_of F9 G2 (PySem.W.mg_of X G a2) k2 b2 (PySem.W.mg_none_of X G z_len) (PySem.W.mg_none_of X G z_range) (PySem.W.mg_none_of X G z_sum)
  have G10 : FnOk l.prog w K mg base CX0 4 f10 _ ["fractions"] (spOf K (pf_m_sum_of)) := ok_m_sum_of F10 G4 (PySem.W.mg_of X G a4) k4 b4 (PySem.W.mg_of X G aq_NOUGHT) ⟨_, rfl, _, _, _, lq_NOUGHT, rfl, rfl, (by rw [sizeLine_eq]; show 2 ≤ 16777216; omega), .cons ⟨_, rfl⟩ (.cons ⟨_, rfl⟩ .nil)⟩
  have G11 : FnOk l.prog w K mg base CX0 5 f11 _ ["groups"] (spOf K (pf_m_total_of)) := ok_m_total_of F11 G9 (PySem.W.mg_of X G a9) k9 b9 G10 (PySem.W.mg_of X G a10) k10 b10
  have G12 : FnOk l.prog w K mg base CX0 2 f12 _ ["one", "other"] (spOf K (pf_m_is_better)) := ok_m_is_better F12 G6 (PySem.W.mg_of X G a6) k6 b6
  have G13 : FnOk l.prog w K mg base CX0 2 f13 _ ["one", "other"] (spOf K (pf_m_is_better_i)) := ok_m_is_better_i F13 G6 (PySem.W.mg_of X G a6) k6 b6
  have G14 : FnOk l.prog w K mg base CX0 1 f14 _ ["self", "begun", "spreads"] (spOf K (pf_m_Groups_init C_Groups)) := ok_m_Groups_init F14 cc_Groups na_Groups_own_begun na_Groups_own_spreads
  have G15 : FnOk l.prog w K mg base CX0 5 f15 _ ["self"] (spOf K (pf_m_Groups_so_far C_Groups)) := ok_m_Groups_so_far F15 cc_Groups na_Groups_own_spreads G10 (PySem.W.mg_of X G a10) k10 b10
  have G16 : FnOk l.prog w K mg base CX0 4 f16 _ ["self", "row", "place"] (spOf K (pf_m_Groups_with_row C_Groups)) := ok_m_Groups_with_row F16 cc_Groups na_Groups_own_begun na_Groups_own_spreads G14 ⟨mk_Groups, a14, i14, kc_Groups⟩ (PySem.W.mg_of X G aC_Groups) b14 G9 (PySem.W.mg_of X G a9) k9 b9 (PySem.W.mg_of X G aq_NOUGHT) ⟨_, rfl, _, _, _, lq_NOUGHT, rfl, rfl, (by rw [sizeLine_eq]; show 2 ≤ 16777216; omega), .cons ⟨_, rfl⟩ (.cons ⟨_, rfl⟩ .nil)⟩ (PySem.W.mg_none_of X G z_int) (PySem.W.mg_none_of X G z_len) (PySem.W.mg_none_of X G z_list) (PySem.W.mg_none_of X G z_sorted)
  have G17 : FnOk l.prog w K mg base CX0 5 f17 _ ["self", "row", "many"] (spOf K (pf_m_Groups_ways C_Groups)) := ok_m_Groups_ways F17 cc_Groups na_Groups_own_begun G16 ⟨a16, i16, k16⟩ b16 (PySem.W.mg_none_of X G z_int) (PySem.W.mg_none_of X G z_len) (PySem.W.mg_none_of X G z_range)
  obtain ⟨fd18, efd18⟩ : ∃ fd_, fd_ = PySem.W.fnOf "better_below" "better_below" (defArgs sm_better_below) (defBody sm_better_below) (defScope sm_better_below) .none kV18 dc18 pm18 an18 cd18 ct18 := ⟨_, rfl⟩
  rw [← efd18] at F18 b18
  have R_below : ∀ n_ : Nat, FnOk l.prog w K mg base CX0 (5 + n_) f18 fd18 ["rows", "many", "groups", "best"] (spOf K (pf_m_better_below n_ C_Groups)) := fun n_ => by
    induction n_ with
    | zero => exact fnok_no (by rintro _ _ _ ⟨_, _, _, _, _, h_, _⟩; cases h_)
    | succ n_ ih_ => exact ok_m_better_below F18 cc_Groups na_Groups_own_begun G15 ⟨a15, i15, k15⟩ b15 G17 ⟨a17, i17, k17⟩ b17 G6 (PySem.W.mg_of X G a6) k6 b6 (ih_) (PySem.W.mg_of X G a18) k18 b18 G12 (PySem.W.mg_of X G a12) k12 b12 (PySem.W.mg_none_of X G z_len)
  have G18 := (R_below 12)
  have G19 : FnOk l.prog w K mg base CX0 18 f19 _ ["rows", "many"] (spOf K (pf_m_best_groups)) := ok_m_best_groups F19 cc_Groups G14 ⟨mk_Groups, a14, i14, kc_Groups⟩ (PySem.W.mg_of X G aC_Groups) b14 G18 (PySem.W.mg_of X G a18) k18 b18 (PySem.W.mg_none_of X G z_list)
  have G20 : FnOk l.prog w K mg base CX0 1 f20 _ ["self", "rows"] (spOf K (pf_m_Stretches_init C_Stretches)) := ok_m_Stretches_init F20 cc_Stretches na_Stretches_own_many na_Stretches_own_numbers na_Stretches_own_squares
  have G21 : FnOk l.prog w K mg base CX0 3 f21 _ ["self", "begin", "end"] (spOf K (pf_m_Stretches_spread_from C_Stretches)) := ok_m_Stretches_spread_from F21 cc_Stretches na_Stretches_own_many na_Stretches_own_numbers na_Stretches_own_squares G2 (PySem.W.mg_of X G a2) k2 b2
  have G22 : FnOk l.prog w K mg base CX0 4 f22 _ ["stretches", "best", "length"] (spOf K (pf_m_with_one_more C_Stretches)) := ok_m_with_one_more F22 cc_Stretches G21 ⟨a21, i21, k21⟩ b21 G13 (PySem.W.mg_of X G a13) k13 b13 G3 (PySem.W.mg_of X G a3) k3 b3 (PySem.W.mg_none_of X G z_range)
  have G23 : FnOk l.prog w K mg base CX0 5 f23 _ ["rows", "many"] (spOf K (pf_m_best_on_line)) := ok_m_best_on_line F23 cc_Stretches G20 ⟨mk_Stretches, a20, i20, kc_Stretches⟩ (PySem.W.mg_of X G aC_Stretches) b20 G22 (PySem.W.mg_of X G a22) k22 b22 (PySem.W.mg_none_of X G z_len) (PySem.W.mg_none_of X G z_range)
  have G24 : FnOk l.prog w K mg base CX0 5 f24 _ ["middles", "colour"] (spOf K (pf_m_nearest_middle)) := ok_m_nearest_middle F24 G6 (PySem.W.mg_of X G a6) k6 b6 G8 (PySem.W.mg_of X G a8) k8 b8 (PySem.W.mg_none_of X G z_enumerate)
  have G25 : FnOk l.prog w K mg base CX0 6 f25 _ ["rows", "middles"] (spOf K (pf_m_shared_out)) := ok_m_shared_out F25 G24 (PySem.W.mg_of X G a24) k24 b24
  have G26 : FnOk l.prog w K mg base CX0 7 f26 _ ["rows", "middles"] (spOf K (pf_m_moved_once)) := ok_m_moved_once F26 G7 (PySem.W.mg_of X G a7) k7 b7 G25 (PySem.W.mg_of X G a25) k25 b25 (PySem.W.mg_none_of X G z_len) (PySem.W.mg_none_of X G z_zip)
  have G27 : FnOk l.prog w K mg base CX0 8 f27 _ ["rows", "middles"] (spOf K (pf_m_is_resting)) := ok_m_is_resting F27 G26 (PySem.W.mg_of X G a26) k26 b26 (PySem.W.mg_none_of X G z_list)
  have G28 : FnOk l.prog w K mg base CX0 1 f28 _ ["cell", "k"] (spOf K (pf_m_law_mix)) := ok_m_law_mix F28 
  have G29 : FnOk l.prog w K mg base CX0 1 f29 _ ["script", "k"] (spOf K (pf_m_law_left)) := ok_m_law_left F29 (PySem.W.mg_none_of X G z_abs) (PySem.W.mg_none_of X G z_int) (PySem.W.mg_none_of X G z_len)
  have G30 : FnOk l.prog w K mg base CX0 2 f30 _ ["left", "many"] (spOf K (pf_m_law_pick)) := ok_m_law_pick F30 G28 (PySem.W.mg_of X G a28) k28 b28
  have G31 : FnOk l.prog w K mg base CX0 1 f31 _ ["one", "other"] (spOf K (pf_m_law_less)) := ok_m_law_less F31 
  have G32 : FnOk l.prog w K mg base CX0 3 f32 _ ["left", "many"] (spOf K (pf_m_law_line)) := ok_m_law_line F32 G30 (PySem.W.mg_of X G a30) k30 b30 (PySem.W.mg_none_of X G z_range)
  have G33 : FnOk l.prog w K mg base CX0 1 f33 _ ["rows", "begins"] (spOf K (pf_m_law_stretches)) := ok_m_law_stretches F33 (PySem.W.mg_none_of X G z_len) (PySem.W.mg_none_of X G z_zip)
  have G34 : FnOk l.prog w K mg base CX0 3 f34 _ ["left", "rows", "many"] (spOf K (pf_m_law_some_cuts)) := ok_m_law_some_cuts F34 G30 (PySem.W.mg_of X G a30) k30 b30 (PySem.W.mg_none_of X G z_len) (PySem.W.mg_none_of X G z_max) (PySem.W.mg_none_of X G z_range) (PySem.W.mg_none_of X G z_set) (PySem.W.mg_none_of X G z_sorted)
  have G35 : FnOk l.prog w K mg base CX0 1 f35 _ ["begins", "length"] (spOf K (pf_m_law_beside)) := ok_m_law_beside F35 (PySem.W.mg_none_of X G z_len) (PySem.W.mg_none_of X G z_range) (PySem.W.mg_none_of X G z_set) (PySem.W.mg_none_of X G z_sorted)
  have G36 : FnOk l.prog w K mg base CX0 9 f36 _ ["left", "rows", "many"] (spOf K (pf_m_law_many_right)) := ok_m_law_many_right F36 G35 (PySem.W.mg_of X G a35) k35 b35 G31 (PySem.W.mg_of X G a31) k31 b31 G34 (PySem.W.mg_of X G a34) k34 b34 G33 (PySem.W.mg_of X G a33) k33 b33 G23 (PySem.W.mg_of X G a23) k23 b23 G27 (PySem.W.mg_of X G a27) k27 b27 G7 (PySem.W.mg_of X G a7) k7 b7 G25 (PySem.W.mg_of X G a25) k25 b25 G11 (PySem.W.mg_of X G a11) k11 b11 (PySem.W.mg_none_of X G z_any) (PySem.W.mg_none_of X G z_len) (PySem.W.mg_none_of X G z_min) (PySem.W.mg_none_of X G z_range)
  have G37 : FnOk l.prog w K mg base CX0 19 f37 _ ["left", "rows", "many"] (spOf K (pf_m_law_few_right)) := ok_m_law_few_right F37 G30 (PySem.W.mg_of X G a30) k30 b30 G33 (PySem.W.mg_of X G a33) k33 b33 G19 (PySem.W.mg_of X G a19) k19 b19 G23 (PySem.W.mg_of X G a23) k23 b23 (PySem.W.mg_none_of X G z_range) (PySem.W.mg_none_of X G z_tuple)
  exact ok_m_law F38 G37 (PySem.W.mg_of X G a37) k37 b37 G29 (PySem.W.mg_of X G a29) k29 b29 G32 (PySem.W.mg_of X G a32) k32 b32 G36 (PySem.W.mg_of X G a36) k36 b36 G30 (PySem.W.mg_of X G a30) k30 b30 (PySem.W.mg_none_of X G z_int) (PySem.W.mg_none_of X G z_len) (PySem.W.mg_none_of X G z_max) (PySem.W.mg_none_of X G z_min) (PySem.W.mg_none_of X G z_range)
end K88
open PySem PySem.W PyProof.Rows
set_option maxHeartbeats 0 in
theorem PySem.Challenge.cw_fewcolours_k88_whole_lines_beside_all_gr_holds : PySem.Challenge.rw_fewcolours_k88_whole_lines_beside_all_gr.Holds := by
  w_on; o_law; k_head; (case hw => w_witness2)
  k_fill
  refine L2.walk_of (l := PySem.Challenge.rw_fewcolours_k88_whole_lines_beside_all_gr) (n := 63) (k := 20) (x := "script") (CX := fun _ => L2.CX0) (sp := fun w => FC.spOf _ K88.pf_m_law) rfl (by decide) rfl ⟨rfl, by decide, by decide⟩ (fun w h Y => PySem.W.kIn_of Y) ?F (fun _ _ a ns hl _ hS => FC.law_start ⟨_, ⟨a, ns, true, K88.law_plain ns hl, rfl, rfl, rfl⟩, fun r m2 h => h.1⟩ hS) (fun _ _ _ _ _ h => h)
  case F =>
    intro w mg fa h KX G hmg
    refine' K88.all_mk KX G hmg ?aC_Groups ?pg_Groups ?hd_Groups ?po_Groups ?sa_Groups ?mk_Groups ?kc_Groups ?aC_Stretches ?pg_Stretches ?hd_Stretches ?po_Stretches ?sa_Stretches ?mk_Stretches ?kc_Stretches ?na_Groups_own_begun ?na_Groups_own_spreads ?na_Stretches_own_many ?na_Stretches_own_numbers ?na_Stretches_own_squares ?a1 ?l1 ?c1 ?k1 ?a2 ?l2 ?c2 ?k2 ?a3 ?l3 ?c3 ?k3 ?a4 ?l4 ?c4 ?k4 ?a5 ?l5 ?c5 ?k5 ?a6 ?l6 ?c6 ?k6 ?a7 ?l7 ?c7 ?k7 ?a8 ?l8 ?c8 ?k8 ?a9 ?l9 ?c9 ?k9 ?a10 ?l10 ?c10 ?k10 ?a11 ?l11 ?c11 ?k11 ?a12 ?l12 ?c12 ?k12 ?a13 ?l13 ?c13 ?k13 ?a14 ?i14 ?l14 ?c14 ?k14 ?a15 ?i15 ?l15 ?c15 ?k15 ?a16 ?i16 ?l16 ?c16 ?k16 ?a17 ?i17 ?l17 ?c17 ?k17 ?a18 ?l18 ?c18 ?k18 ?a19 ?l19 ?c19 ?k19 ?a20 ?i20 ?l20 ?c20 ?k20 ?a21 ?i21 ?l21 ?c21 ?k21 ?a22 ?l22 ?c22 ?k22 ?a23 ?l23 ?c23 ?k23 ?a24 ?l24 ?c24 ?k24 ?a25 ?l25 ?c25 ?k25 ?a26 ?l26 ?c26 ?k26 ?a27 ?l27 ?c27 ?k27 ?a28 ?l28 ?c28 ?k28 ?a29 ?l29 ?c29 ?k29 ?a30 ?l30 ?c30 ?k30 ?a31 ?l31 ?c31 ?k31 ?a32 ?l32 ?c32 ?k32 ?a33 ?l33 ?c33 ?k33 ?a34 ?l34 ?c34 ?k34 ?a35 ?l35 ?c35 ?k35 ?a36 ?l36 ?c36 ?k36 ?a37 ?l37 ?c37 ?k37 ?a38 ?l38 ?c38 ?k38 ?aq_NOUGHT ?lq_NOUGHT ?z_abs ?z_any ?z_enumerate ?z_int ?z_len ?z_list ?z_max ?z_min ?z_range ?z_set ?z_sorted ?z_sum ?z_tuple ?z_zip
    (case aC_Groups => k_is); (case pg_Groups => k_is); (case hd_Groups => k_is); (case po_Groups => k_is); (case sa_Groups => k_is); (case mk_Groups => k_is); (case kc_Groups => k_is); (case aC_Stretches => k_is); (case pg_Stretches => k_is); (case hd_Stretches => k_is); (case po_Stretches => k_is); (case sa_Stretches => k_is); (case mk_Stretches => k_is); (case kc_Stretches => k_is); (case na_Groups_own_begun => k_is); (case na_Groups_own_spreads => k_is); (case na_Stretches_own_many => k_is); (case na_Stretches_own_numbers => k_is); (case na_Stretches_own_squares => k_is); (case a1 => k_is); (case l1 => k_is); (case c1 => k_is); (case k1 => k_is); (case a2 => k_is); (case l2 => k_is); (case c2 => k_is); (case k2 => k_is); (case a3 => k_is); (case l3 => k_is); (case c3 => k_is); (case k3 => k_is); (case a4 => k_is); (case l4 => k_is); (case c4 => k_is); (case k4 => k_is); (case a5 => k_is); (case l5 => k_is); (case c5 => k_is); (case k5 => k_is); (case a6 => k_is); (case l6 => k_is); (case c6 => k_is); (case k6 => k_is); (case a7 => k_is); (case l7 => k_is); (case c7 => k_is); (case k7 => k_is); (case a8 => k_is); (case l8 => k_is); (case c8 => k_is); (case k8 => k_is); (case a9 => k_is); (case l9 => k_is); (case c9 => k_is); (case k9 => k_is); (case a10 => k_is); (case l10 => k_is); (case c10 => k_is); (case k10 => k_is); (case a11 => k_is); (case l11 => k_is); (case c11 => k_is); (case k11 => k_is); (case a12 => k_is); (case l12 => k_is); (case c12 => k_is); (case k12 => k_is); (case a13 => k_is); (case l13 => k_is); (case c13 => k_is); (case k13 => k_is); (case a14 => k_is); (case i14 => k_is); (case l14 => k_is); (case c14 => k_is); (case k14 => k_is); (case a15 => k_is); (case i15 => k_is); (case l15 => k_is); (case c15 => k_is); (case k15 => k_is); (case a16 => k_is); (case i16 => k_is); (case l16 => k_is); (case c16 => k_is); (case k16 => k_is); (case a17 => k_is); (case i17 => k_is); (case l17 => k_is); (case c17 => k_is); (case k17 => k_is); (case a18 => k_is); (case l18 => k_is); (case c18 => k_is); (case k18 => k_is); (case a19 => k_is); (case l19 => k_is); (case c19 => k_is); (case k19 => k_is); (case a20 => k_is); (case i20 => k_is); (case l20 => k_is); (case c20 => k_is); (case k20 => k_is); (case a21 => k_is); (case i21 => k_is); (case l21 => k_is); (case c21 => k_is); (case k21 => k_is); (case a22 => k_is); (case l22 => k_is); (case c22 => k_is); (case k22 => k_is); (case a23 => k_is); (case l23 => k_is); (case c23 => k_is); (case k23 => k_is); (case a24 => k_is); (case l24 => k_is); (case c24 => k_is); (case k24 => k_is); (case a25 => k_is); (case l25 => k_is); (case c25 => k_is); (case k25 => k_is); (case a26 => k_is); (case l26 => k_is); (case c26 => k_is); (case k26 => k_is); (case a27 => k_is); (case l27 => k_is); (case c27 => k_is); (case k27 => k_is); (case a28 => k_is); (case l28 => k_is); (case c28 => k_is); (case k28 => k_is); (case a29 => k_is); (case l29 => k_is); (case c29 => k_is); (case k29 => k_is); (case a30 => k_is); (case l30 => k_is); (case c30 => k_is); (case k30 => k_is); (case a31 => k_is); (case l31 => k_is); (case c31 => k_is); (case k31 => k_is); (case a32 => k_is); (case l32 => k_is); (case c32 => k_is); (case k32 => k_is); (case a33 => k_is); (case l33 => k_is); (case c33 => k_is); (case k33 => k_is); (case a34 => k_is); (case l34 => k_is); (case c34 => k_is); (case k34 => k_is); (case a35 => k_is); (case l35 => k_is); (case c35 => k_is); (case k35 => k_is); (case a36 => k_is); (case l36 => k_is); (case c36 => k_is); (case k36 => k_is); (case a37 => k_is); (case l37 => k_is); (case c37 => k_is); (case k37 => k_is); (case a38 => k_is); (case l38 => k_is); (case c38 => k_is); (case k38 => k_is); (case aq_NOUGHT => k_is); (case lq_NOUGHT => k_is); (case z_abs => k_is); (case z_any => k_is); (case z_enumerate => k_is); (case z_int => k_is); (case z_len => k_is); (case z_list => k_is); (case z_max => k_is); (case z_min => k_is); (case z_range => k_is); (case z_set => k_is); (case z_sorted => k_is); (case z_sum => k_is); (case z_tuple => k_is); (case z_zip => k_is)
