import PyProof.Rows.All
import Wide.All
import OpenK.AllK
import Wide.FinOn
import HandS.ForMost
import HandS.IsInst
import HandS.TupAny
import HandS.Style
import HandS.Zip
import HandS.More
import HandS.SortInts
import HandS.WideBits
import HandS.Conv
import KE.GoesEnum
import KE.GoesZip
import KE.DatumOrd
import KE.OsArith
import PySem.Challenge.RW_wishweather_k68_fewest_rounds
set_option Elab.async false
set_option linter.all false
set_option maxRecDepth 100000
set_option maxHeartbeats 4000000
namespace Mi
open PySem PySem.Spec PyProof.Rows L2

/-! ## data -/
inductive D where
  | non | bl (b : Bool) | int (i : Int) | str (x : Str) | adr (a : Addr) | ref (n : Nat)
  | tup (ds : List D) | lst (ds : List D)
  | dK (ks : List Key) (ds : List D) | dT (ks : List (List Key)) (ds : List D)
  | obj (C : Addr) (fs : List Str) (ds : List D)
  /-- the script -/
  | scr (ns : List Int)

structure Cell where
  lk : Bool
  c : D
abbrev Mem := List Cell
abbrev Rho := List (Option D)

/-- the addresses of memory's cells; those that no value may lie at (a caller's cells); those that are locked for a while, with what stands there -/
structure Ms where
  l : List Addr
  hid : List Addr
  ov : List (Addr × Obj × HO)
def Ms.push (m : Ms) (p : Addr) : Ms := { m with l := m.l ++ [p] }
def Ms.no (m : Ms) (a : Addr) : Prop := a ∉ m.l ∧ a ∉ m.hid

/-! ## heaps that grow -/
def Plain : HO → Prop
  | .frz _ _ => False
  | _ => True
structure Ext (m : Ms) (H : Hp) (m' : Ms) (H' : Hp) : Prop where
  pre : ∃ l, m'.l = m.l ++ l ∧ ∀ a ∈ l, H a = none
  hid : ∃ l, m'.hid = l ++ m.hid ∧ ∀ a ∈ l, H a = none
  ov : m'.ov = m.ov
  exact : ∀ a u, a ∉ m.l → H a = some u → H' a = some u
  live : ∀ a, H a ≠ none → H' a ≠ none
def At (m : Ms) (H : Hp) (a : Addr) (u : HO) : Prop := m.no a ∧ Rd H a u
def TupAt (m : Ms) (H : Hp) (a : Addr) (xs : List V) : Prop := m.no a ∧ H a = some (.tup xs)
theorem rdLive {H : Hp} {a : Addr} {u : HO} (h : Rd H a u) : H a ≠ none := by
  rcases h with h | ⟨o, h⟩ <;> (rw [h]; exact fun z => by cases z)
theorem liveSome {H : Hp} {a : Addr} {u : HO} (h : H a = some u) : H a ≠ none := by rw [h]; exact fun z => by cases z
section
variable {m m' m'' : Ms} {H H' H'' : Hp}
theorem Ext.frame (e : Ext m H m' H') (a : Addr) (u : HO) (h : a ∉ m.l) (r : Rd H a u) : Rd H' a u := by
  rcases r with r | ⟨o, r⟩
  · exact .inl (e.exact a _ h r)
  · exact .inr ⟨o, e.exact a _ h r⟩
theorem Ext.refl : Ext m H m H := ⟨⟨[], by simp, fun _ h => by cases h⟩, ⟨[], by simp, fun _ h => by cases h⟩, rfl, fun _ _ _ h => h, fun _ h => h⟩
theorem Ext.mem (e : Ext m H m' H') {a : Addr} (h : a ∉ m.l) (hl : H a ≠ none) : a ∉ m'.l := by
  obtain ⟨l, hl', hf⟩ := e.pre
  rw [hl']
  intro q
  rcases List.mem_append.mp q with q | q
  · exact h q
  · exact hl (hf a q)
theorem Ext.memh (e : Ext m H m' H') {a : Addr} (h : a ∉ m.hid) (hl : H a ≠ none) : a ∉ m'.hid := by
  obtain ⟨l, hl', hf⟩ := e.hid
  rw [hl']
  intro q
  rcases List.mem_append.mp q with q | q
  · exact hl (hf a q)
  · exact h q
theorem Ext.no (e : Ext m H m' H') {a : Addr} (h : m.no a) (hl : H a ≠ none) : m'.no a := ⟨e.mem h.1 hl, e.memh h.2 hl⟩
theorem Ext.trans (e : Ext m H m' H') (f : Ext m' H' m'' H'') : Ext m H m'' H'' := by
  obtain ⟨l, hl, hf⟩ := e.pre
  obtain ⟨l', hl', hf'⟩ := f.pre
  obtain ⟨w, hw, hg⟩ := e.hid
  obtain ⟨w', hw', hg'⟩ := f.hid
  refine ⟨⟨l ++ l', by rw [hl', hl, List.append_assoc], fun a ha => ?_⟩, ⟨w' ++ w, by rw [hw', hw, List.append_assoc], fun a ha => ?_⟩, f.ov.trans e.ov, fun a u ha hr => ?_, fun a h => f.live a (e.live a h)⟩
  · rcases List.mem_append.mp ha with h | h
    · exact hf a h
    · have q := hf' a h
      exact Classical.byContradiction fun z => e.live a z q
  · rcases List.mem_append.mp ha with h | h
    · have q := hg' a h
      exact Classical.byContradiction fun z => e.live a z q
    · exact hg a h
  · exact f.exact a u (e.mem ha (liveSome hr)) (e.exact a u ha hr)
theorem Ext.at (e : Ext m H m' H') {a : Addr} {u : HO} (hu : Plain u) (h : At m H a u) : At m' H' a u :=
  ⟨e.no h.1 (rdLive h.2), e.frame a u h.1.1 h.2⟩
theorem Ext.get (e : Ext m H m' H') {n : Nat} {a : Addr} (h : m.l[n]? = some a) : m'.l[n]? = some a := by
  obtain ⟨l, hl, _⟩ := e.pre
  rw [hl, List.getElem?_append_left (List.getElem?_eq_some_iff.mp h).1]
  exact h
theorem rd_upd {a p : Addr} {u o : HO} (ne : a ≠ p) (h : Rd H a u) : Rd (upd H p o) a u := by
  unfold Rd; rw [upd_ne ne]; exact h
theorem upd_live {a p : Addr} {o : HO} (ha : H a ≠ none) : upd H p o a ≠ none := by
  by_cases e : a = p
  · rw [e, upd_same]; exact fun z => by cases z
  · rw [upd_ne e]; exact ha
theorem ne_new {a p : Addr} (h : H p = none) (ha : H a ≠ none) : a ≠ p := fun e => ha (by rw [e]; exact h)
/-- a thing that was not there at the start is written -/
theorem Ext.upd {p : Addr} {o : HO} (e : Ext m H m' H') (h : H p = none) : Ext m H m' (upd H' p o) :=
  ⟨e.pre, e.hid, e.ov, fun a u ha hr => by rw [upd_ne (ne_new h (liveSome hr))]; exact e.exact a u ha hr, fun a ha => upd_live (e.live a ha)⟩
/-- a new thing that memory does not know -/
theorem Ext.new {p : Addr} {o : HO} (h : H p = none) : Ext m H m (L2.upd H p o) := Ext.refl.upd h
/-- .. that memory knows -/
theorem Ext.add {p : Addr} (e : Ext m H m' H') (h : H p = none) : Ext m H (m'.push p) H' := by
  obtain ⟨l, hl, hf⟩ := e.pre
  refine ⟨⟨l ++ [p], by show m'.l ++ [p] = _; rw [hl, List.append_assoc], fun a ha => ?_⟩, e.hid, e.ov, e.exact, e.live⟩
  rcases List.mem_append.mp ha with q | q
  · exact hf a q
  · simp at q; rw [q]; exact h
/-- a thing of memory is written -/
theorem Ext.set {p : Addr} {o : HO} (h : p ∈ m.l) : Ext m H m (L2.upd H p o) := by
  have ne : ∀ a, a ∉ m.l → a ≠ p := fun a h1 e => h1 (e ▸ h)
  exact ⟨⟨[], by simp, fun _ h => by cases h⟩, ⟨[], by simp, fun _ h => by cases h⟩, rfl, fun a u ha hr => by rw [upd_ne (ne a ha)]; exact hr, fun a ha => upd_live ha⟩
theorem Ext.free (e : Ext m H m' H') {p : Addr} (h : H' p = none) : H p = none := Classical.byContradiction fun z => e.live p z h
end

/-- what is known of values goes over -/
structure Go (m : Ms) (H : Hp) (m' : Ms) (H' : Hp) : Prop where
  at' : ∀ a u, Plain u → At m H a u → At m' H' a u
  tup : ∀ a xs, TupAt m H a xs → TupAt m' H' a xs
  get : ∀ (n : Nat) a, m.l[n]? = some a → m'.l[n]? = some a
theorem Ext.go {m m' : Ms} {H H' : Hp} (e : Ext m H m' H') : Go m H m' H' := ⟨fun _ _ hu h => e.at hu h, fun a xs h => ⟨e.no h.1 (liveSome h.2), e.exact a _ h.1.1 h.2⟩, fun _ _ h => e.get h⟩
/-- p hidden: no value lies at it -/
def Ms.hide (m : Ms) (p : Addr) : Ms := { m with hid := p :: m.hid }
theorem Ms.hide_no {m : Ms} {a p : Addr} (h : m.no a) (ne : a ≠ p) : (m.hide p).no a := ⟨h.1, fun z => (List.mem_cons.mp z).elim ne h.2⟩
theorem Ms.unhide_no {m : Ms} {a p : Addr} (h : (m.hide p).no a) : m.no a ∧ a ≠ p := ⟨⟨h.1, fun z => h.2 (List.mem_cons_of_mem _ z)⟩, fun e => h.2 (by rw [e]; exact List.mem_cons_self)⟩
theorem Go.hide {m : Ms} {H : Hp} {p : Addr} {o : HO} (h : H p = none) : Go m H (m.hide p) (upd H p o) :=
  ⟨fun a u _ q => ⟨Ms.hide_no q.1 (ne_new h (rdLive q.2)), rd_upd (ne_new h (rdLive q.2)) q.2⟩,
    fun a xs q => ⟨Ms.hide_no q.1 (ne_new h (liveSome q.2)), by rw [upd_ne (ne_new h (liveSome q.2))]; exact q.2⟩, fun _ _ q => q⟩
theorem Ext.hide {m m' : Ms} {H H' : Hp} {p : Addr} (e : Ext m H m' H') (h : H p = none) : Ext m H (m'.hide p) H' := by
  obtain ⟨l, hl, hf⟩ := e.hid
  refine ⟨e.pre, ⟨p :: l, by show p :: m'.hid = _; rw [hl]; rfl, fun a ha => ?_⟩, e.ov, e.exact, e.live⟩
  rcases List.mem_cons.mp ha with q | q
  · rw [q]; exact h
  · exact hf a q
/-- fewer are hidden -/
theorem Go.less {m : Ms} {H : Hp} {l : List Addr} (h : ∀ a ∈ l, a ∈ m.hid) : Go m H { m with hid := l } H :=
  ⟨fun a u _ q => ⟨⟨q.1.1, fun z => q.1.2 (h a z)⟩, q.2⟩, fun a xs q => ⟨⟨q.1.1, fun z => q.1.2 (h a z)⟩, q.2⟩, fun _ _ q => q⟩
theorem Go.unhide {m : Ms} {H : Hp} {p : Addr} : Go (m.hide p) H m H := ⟨fun a u _ q => ⟨(Ms.unhide_no q.1).1, q.2⟩, fun a xs q => ⟨(Ms.unhide_no q.1).1, q.2⟩, fun _ _ q => q⟩
/-- a hidden thing is written -/
theorem Go.updHid {m : Ms} {H : Hp} {p : Addr} {o : HO} (h : p ∈ m.hid) : Go m H m (upd H p o) :=
  have ne : ∀ a, m.no a → a ≠ p := fun a q e => q.2 (e ▸ h)
  ⟨fun a u _ q => ⟨q.1, rd_upd (ne a q.1) q.2⟩, fun a xs q => ⟨q.1, by rw [upd_ne (ne a q.1)]; exact q.2⟩, fun _ _ q => q⟩
theorem Go.push {m : Ms} {H : Hp} {p : Addr} : Go (m.hide p) H (m.push p) H := by
  have no : ∀ a, (m.hide p).no a → (m.push p).no a := fun a q => by
    obtain ⟨q1, q2⟩ := Ms.unhide_no q
    exact ⟨fun z => (List.mem_append.mp z).elim q1.1 fun e => q2 (by simpa using e), q1.2⟩
  exact ⟨fun a u _ q => ⟨no a q.1, q.2⟩, fun a xs q => ⟨no a q.1, q.2⟩,
    fun n a q => by
      show (m.l ++ [p])[n]? = some a
      have q' : m.l[n]? = some a := q
      rw [List.getElem?_append_left (List.getElem?_eq_some_iff.mp q').1]; exact q'⟩

/-! ## what a value of the heap is -/
def ScrAt (K : PySem.W.Frag) (m : Ms) (H : Hp) (a : Addr) (xs : List V) : Prop :=
  At m H a (.lst xs) ∨ ∃ (o : Obj) (its : Array Value) (n : Nat), K.lookup a = some o ∧ o.cls = .type "list" ∧ o.dict = none ∧ o.data = .seq its n ∧ its.size ≤ sizeLine ∧ Vals xs its.toList
theorem ScrAt.sq {K : PySem.W.Frag} {m : Ms} {H : Hp} {a : Addr} {xs : List V} (h : ScrAt K m H a xs) : SqL K H a xs := by
  rcases h with h | h
  · exact .inl h.2
  · exact .inr h
def LstAt (K : PySem.W.Frag) (m : Ms) (H : Hp) (a : Addr) (xs : List V) : Prop := At m H a (.lst xs)
theorem TupAt.sq {K : PySem.W.Frag} {m : Ms} {H : Hp} {a : Addr} {xs : List V} (h : TupAt m H a xs) : SqT K H a xs := .inl (.inl h.2)
theorem LstAt.sq {K : PySem.W.Frag} {m : Ms} {H : Hp} {a : Addr} {xs : List V} (h : LstAt K m H a xs) : SqL K H a xs := .inl h.2

mutual
def DV (K : PySem.W.Frag) (m : Ms) (H : Hp) : D → V → Prop
  | .non, v => v = .non
  | .bl b, v => v = .bl b
  | .int i, v => v = .int i
  | .str x, v => v = .str x
  | .adr a, v => v = .ref a
  | .ref n, v => ∃ a, v = .ref a ∧ m.l[n]? = some a
  | .tup ds, v => ∃ a xs, v = .ref a ∧ TupAt m H a xs ∧ DVs K m H ds xs
  | .lst ds, v => ∃ a xs, v = .ref a ∧ LstAt K m H a xs ∧ DVs K m H ds xs
  | .dK ks ds, v => ∃ a kvs, v = .ref a ∧ At m H a (.dK kvs) ∧ kvs.map (·.1) = ks ∧ DVs K m H ds (kvs.map (·.2))
  | .dT ks ds, v => ∃ a kvs, v = .ref a ∧ At m H a (.dT kvs) ∧ kvs.map (·.1) = ks ∧ DVs K m H ds (kvs.map (·.2))
  | .obj C fs ds, v => ∃ a dx kvs, v = .ref a ∧ At m H a (.ins C dx kvs) ∧ kvs.map (·.1) = fs ∧ DVs K m H ds (kvs.map (·.2))
  | .scr ns, v => ∃ a, v = .ref a ∧ ScrAt K m H a (ns.map V.int)
def DVs (K : PySem.W.Frag) (m : Ms) (H : Hp) : List D → List V → Prop
  | [], vs => vs = []
  | d :: ds, vs => ∃ x xs, vs = x :: xs ∧ DV K m H d x ∧ DVs K m H ds xs
end
/-- what an object is -/
def HV (K : PySem.W.Frag) (m : Ms) (H : Hp) : D → HO → Prop
  | .lst ds, u => ∃ xs, u = .lst xs ∧ DVs K m H ds xs
  | .dK ks ds, u => ∃ kvs, u = .dK kvs ∧ kvs.map (·.1) = ks ∧ DVs K m H ds (kvs.map (·.2))
  | .dT ks ds, u => ∃ kvs, u = .dT kvs ∧ kvs.map (·.1) = ks ∧ DVs K m H ds (kvs.map (·.2))
  | .obj C fs ds, u => ∃ dx kvs, u = .ins C dx kvs ∧ kvs.map (·.1) = fs ∧ DVs K m H ds (kvs.map (·.2))
  | _, _ => False
def CV (K : PySem.W.Frag) (m : Ms) (H : Hp) (c : Cell) (a : Addr) : Prop := ∃ u, Rd H a u ∧ (c.lk = false → H a = some u) ∧ HV K m H c.c u
/-- a hidden thing is no tuple -/
def NT (o : HO) : Prop := Plain o ∧ ∀ xs, o ≠ .tup xs
def HidOk (H : Hp) (a : Addr) : Prop := ∃ u, NT u ∧ Rd H a u
theorem HidOk.live {H : Hp} {a : Addr} (h : HidOk H a) : H a ≠ none := let ⟨_, _, r⟩ := h; rdLive r
theorem HidOk.notup {H : Hp} {a : Addr} (h : HidOk H a) (xs : List V) : H a ≠ some (.tup xs) := fun e => by
  obtain ⟨u, ⟨p, n⟩, r | ⟨o, r⟩⟩ := h
  · rw [e] at r; cases r; exact n xs rfl
  · rw [e] at r; cases r
structure Rel (K : PySem.W.Frag) (m : Ms) (H : Hp) (μ : Mem) : Prop where
  len : m.l.length = μ.length
  nd : m.l.Nodup
  hid : ∀ a ∈ m.hid, HidOk H a
  ov : ∀ t ∈ m.ov, H t.1 = some (.frz t.2.1 t.2.2)
  cell : ∀ (n : Nat) c, μ[n]? = some c → ∃ a, m.l[n]? = some a ∧ CV K m H c a
structure EnvR (K : PySem.W.Frag) (m : Ms) (H : Hp) (ρ : Rho) (σ : L2.St) : Prop where
  len : σ.length = ρ.length
  get : ∀ (i : Nat) d, ρ[i]? = some (some d) → ∃ v, σ[i]? = some (some v) ∧ DV K m H d v

section
variable {K : PySem.W.Frag} {m m' : Ms} {H H' : Hp}
mutual
theorem DV.go (e : Go m H m' H') : ∀ {d : D} {v : V}, DV K m H d v → DV K m' H' d v
  | .non, _, h => h
  | .bl _, _, h => h
  | .int _, _, h => h
  | .str _, _, h => h
  | .adr _, _, h => h
  | .ref _, _, h => by
    obtain ⟨a, h1, h2⟩ := h
    exact ⟨a, h1, e.get _ _ h2⟩
  | .tup ds, _, h => by
    obtain ⟨a, xs, h1, h2, h3⟩ := h
    exact ⟨a, xs, h1, e.tup _ _ h2, DVs.go e h3⟩
  | .lst ds, _, h => by
    obtain ⟨a, xs, h1, h2, h3⟩ := h
    exact ⟨a, xs, h1, e.at' _ _ trivial h2, DVs.go e h3⟩
  | .dK ks ds, _, h => by
    obtain ⟨a, xs, h1, h2, h3, h4⟩ := h
    exact ⟨a, xs, h1, e.at' _ _ trivial h2, h3, DVs.go e h4⟩
  | .dT ks ds, _, h => by
    obtain ⟨a, xs, h1, h2, h3, h4⟩ := h
    exact ⟨a, xs, h1, e.at' _ _ trivial h2, h3, DVs.go e h4⟩
  | .obj C fs ds, _, h => by
    obtain ⟨a, dx, xs, h1, h2, h3, h4⟩ := h
    exact ⟨a, dx, xs, h1, e.at' _ _ trivial h2, h3, DVs.go e h4⟩
  | .scr ns, _, h => by
    obtain ⟨a, h1, h2⟩ := h
    exact ⟨a, h1, h2.imp (fun z => e.at' _ _ trivial z) fun z => z⟩
theorem DVs.go (e : Go m H m' H') : ∀ {ds : List D} {vs : List V}, DVs K m H ds vs → DVs K m' H' ds vs
  | [], _, h => h
  | d :: ds, _, h => by
    obtain ⟨x, xs, h1, h2, h3⟩ := h
    exact ⟨x, xs, h1, DV.go e h2, DVs.go e h3⟩
end
theorem HV.go (e : Go m H m' H') {d : D} {u : HO} (h : HV K m H d u) : HV K m' H' d u := by
  cases d <;> first | exact h | skip
  · obtain ⟨xs, h1, h2⟩ := h
    exact ⟨xs, h1, DVs.go e h2⟩
  · obtain ⟨xs, h1, h2, h3⟩ := h
    exact ⟨xs, h1, h2, DVs.go e h3⟩
  · obtain ⟨xs, h1, h2, h3⟩ := h
    exact ⟨xs, h1, h2, DVs.go e h3⟩
  · obtain ⟨dx, xs, h1, h2, h3⟩ := h
    exact ⟨dx, xs, h1, h2, DVs.go e h3⟩
theorem DV.ext (e : Ext m H m' H') {d : D} {v : V} (h : DV K m H d v) : DV K m' H' d v := DV.go e.go h
theorem DVs.ext (e : Ext m H m' H') {d : List D} {v : List V} (h : DVs K m H d v) : DVs K m' H' d v := DVs.go e.go h
theorem HV.ext (e : Ext m H m' H') {d : D} {u : HO} (h : HV K m H d u) : HV K m' H' d u := HV.go e.go h
theorem EnvR.ext (e : Ext m H m' H') {ρ : Rho} {σ : L2.St} (h : EnvR K m H ρ σ) : EnvR K m' H' ρ σ :=
  ⟨h.len, fun i d q => let ⟨v, a, b⟩ := h.get i d q; ⟨v, a, DV.ext e b⟩⟩
theorem DVs.length : ∀ {ds : List D} {vs : List V}, DVs K m H ds vs → vs.length = ds.length
  | [], _, h => by rw [show _ = [] from h]; rfl
  | d :: ds, _, h => by
    obtain ⟨x, xs, h1, h2, h3⟩ := h
    rw [h1, List.length_cons, List.length_cons, DVs.length h3]
theorem DVs.get : ∀ {ds : List D} {vs : List V} {i : Nat} {d : D}, DVs K m H ds vs → ds[i]? = some d → ∃ v, vs[i]? = some v ∧ DV K m H d v
  | [], _, _, _, h, e => by simp at e
  | d :: ds, _, 0, _, h, e => by
    obtain ⟨x, xs, h1, h2, h3⟩ := h
    simp at e; subst e
    exact ⟨x, by rw [h1]; rfl, h2⟩
  | d :: ds, _, i + 1, _, h, e => by
    obtain ⟨x, xs, h1, h2, h3⟩ := h
    obtain ⟨v, a, b⟩ := DVs.get h3 (i := i) (by simpa using e)
    exact ⟨v, by rw [h1]; simpa using a, b⟩
theorem DVs.append : ∀ {ds es : List D} {vs us : List V}, DVs K m H ds vs → DVs K m H es us → DVs K m H (ds ++ es) (vs ++ us)
  | [], _, _, _, h, g => by rw [show _ = [] from h]; exact g
  | d :: ds, _, _, _, h, g => by
    obtain ⟨x, xs, h1, h2, h3⟩ := h
    rw [h1]
    exact ⟨x, _, rfl, h2, DVs.append h3 g⟩
theorem DVs.one {d : D} {v : V} (h : DV K m H d v) : DVs K m H [d] [v] := ⟨v, [], rfl, h, rfl⟩
theorem DVs.nil : DVs K m H [] [] := rfl
theorem DVs.cons {d : D} {v : V} {ds : List D} {vs : List V} (h : DV K m H d v) (g : DVs K m H ds vs) : DVs K m H (d :: ds) (v :: vs) := ⟨v, vs, rfl, h, g⟩
theorem DVs.take : ∀ {ds : List D} {vs : List V} (n : Nat), DVs K m H ds vs → DVs K m H (ds.take n) (vs.take n)
  | [], _, n, h => by rw [show _ = [] from h]; simp only [List.take_nil]; exact rfl
  | d :: ds, _, 0, h => by simp only [List.take_zero]; exact rfl
  | d :: ds, _, n + 1, h => by
    obtain ⟨x, xs, h1, h2, h3⟩ := h
    rw [h1]
    exact ⟨x, _, rfl, h2, DVs.take n h3⟩
theorem DVs.drop : ∀ {ds : List D} {vs : List V} (n : Nat), DVs K m H ds vs → DVs K m H (ds.drop n) (vs.drop n)
  | [], _, n, h => by rw [show _ = [] from h]; simp only [List.drop_nil]; exact rfl
  | d :: ds, _, 0, h => by simpa using h
  | d :: ds, _, n + 1, h => by
    obtain ⟨x, xs, h1, h2, h3⟩ := h
    rw [h1]
    exact DVs.drop n h3
theorem DVs.set : ∀ {ds : List D} {vs : List V} (n : Nat) {d : D} {v : V}, DVs K m H ds vs → DV K m H d v → DVs K m H (ds.set n d) (vs.set n v)
  | [], _, n, _, _, h, g => by rw [show _ = [] from h]; exact rfl
  | d :: ds, _, 0, _, _, h, g => by
    obtain ⟨x, xs, h1, h2, h3⟩ := h
    rw [h1]
    exact ⟨_, _, rfl, g, h3⟩
  | d :: ds, _, n + 1, _, _, h, g => by
    obtain ⟨x, xs, h1, h2, h3⟩ := h
    rw [h1]
    exact ⟨_, _, rfl, h2, DVs.set n h3 g⟩
theorem DVs.reverse : ∀ {ds : List D} {vs : List V}, DVs K m H ds vs → DVs K m H ds.reverse vs.reverse
  | [], _, h => by rw [show _ = [] from h]; exact rfl
  | d :: ds, _, h => by
    obtain ⟨x, xs, h1, h2, h3⟩ := h
    rw [h1, List.reverse_cons, List.reverse_cons]
    exact DVs.append (DVs.reverse h3) (.one h2)
/-- by places -/
theorem DVs.of_get : ∀ {ds : List D} {vs : List V}, ds.length = vs.length → (∀ (i : Nat) d v, ds[i]? = some d → vs[i]? = some v → DV K m H d v) → DVs K m H ds vs
  | [], [], _, _ => rfl
  | [], _ :: _, h, _ => by cases h
  | _ :: _, [], h, _ => by cases h
  | d :: ds, v :: vs, h, g => ⟨v, vs, rfl, g 0 d v rfl rfl, DVs.of_get (by simpa using h) fun i d' v' a b => g (i + 1) d' v' (by simpa using a) (by simpa using b)⟩
theorem Rel.live {μ : Mem} (R : Rel K m H μ) {a : Addr} (h : a ∈ m.l) : H a ≠ none := by
  obtain ⟨n, hn, e⟩ := List.getElem_of_mem h
  have hlt : n < μ.length := by rw [← R.len]; exact hn
  obtain ⟨b, hb, u, hr, _⟩ := R.cell n μ[n] (List.getElem?_eq_getElem hlt)
  rw [List.getElem?_eq_getElem hn] at hb
  cases hb
  rw [← e]
  exact rdLive hr
theorem Rel.fresh {μ : Mem} (R : Rel K m H μ) {a : Addr} (h : H a = none) : m.no a := ⟨fun z => R.live z h, fun z => (R.hid a z).live h⟩
theorem HV.plain {d : D} {u : HO} (hv : HV K m H d u) : Plain u := by
  cases d <;> first | exact hv.elim | skip
  · obtain ⟨_, rfl, _⟩ := hv; trivial
  · obtain ⟨_, rfl, _⟩ := hv; trivial
  · obtain ⟨_, rfl, _⟩ := hv; trivial
  · obtain ⟨_, _, rfl, _⟩ := hv; trivial
theorem HV.nt {d : D} {u : HO} (hv : HV K m H d u) : NT u := by
  refine ⟨HV.plain hv, fun xs e => ?_⟩
  subst e
  cases d <;> first | exact hv.elim | skip
  · obtain ⟨_, z, _⟩ := hv; cases z
  · obtain ⟨_, z, _⟩ := hv; cases z
  · obtain ⟨_, z, _⟩ := hv; cases z
  · obtain ⟨_, _, z, _⟩ := hv; cases z
theorem ov_ne {p : Addr} {u : HO} (h : ∀ t ∈ m.ov, H t.1 = some (.frz t.2.1 t.2.2)) (hp : ∀ o v, H p ≠ some (.frz o v)) : ∀ t ∈ m.ov, t.1 ≠ p := fun t ht e => hp _ _ (e ▸ h t ht)
/-- a new thing that memory does not know -/
theorem Rel.new {μ : Mem} (R : Rel K m H μ) {p : Addr} {o : HO} (h : H p = none) : Rel K m (upd H p o) μ := by
  refine ⟨R.len, R.nd, fun a ha => ?_, fun t ht => ?_, fun n c hc => ?_⟩
  · obtain ⟨u, hn, hr⟩ := R.hid a ha
    exact ⟨u, hn, rd_upd (ne_new h (rdLive hr)) hr⟩
  · have q := R.ov t ht
    rw [upd_ne (ne_new h (liveSome q))]; exact q
  · obtain ⟨a, ha, u, hr, hl, hv⟩ := R.cell n c hc
    exact ⟨a, ha, u, rd_upd (ne_new h (rdLive hr)) hr, fun z => by rw [upd_ne (ne_new h (rdLive hr))]; exact hl z, HV.ext (Ext.new h) hv⟩
/-- a new thing that is hidden -/
theorem Rel.hide {μ : Mem} (R : Rel K m H μ) {p : Addr} {o : HO} (h : H p = none) (ho : NT o) : Rel K (m.hide p) (upd H p o) μ := by
  refine ⟨R.len, R.nd, fun a ha => ?_, fun t ht => (by have q := R.ov t ht; rw [upd_ne (ne_new h (liveSome q))]; exact q), fun n c hc => ?_⟩
  · rcases List.mem_cons.mp ha with e | q
    · rw [e]; exact ⟨o, ho, .inl upd_same⟩
    · obtain ⟨u, hn, hr⟩ := R.hid a q
      exact ⟨u, hn, rd_upd (ne_new h (rdLive hr)) hr⟩
  · obtain ⟨a, ha, u, hr, hl, hv⟩ := R.cell n c hc
    have ne := ne_new h (rdLive hr)
    exact ⟨a, ha, u, rd_upd ne hr, fun z => by rw [upd_ne ne]; exact hl z, HV.go (Go.hide h) hv⟩
theorem Rel.unhide {μ : Mem} {p : Addr} (R : Rel K (m.hide p) H μ) : Rel K m H μ :=
  ⟨R.len, R.nd, fun a ha => R.hid a (List.mem_cons_of_mem _ ha), R.ov, fun n c hc => let ⟨a, ha, u, hr, hl, hv⟩ := R.cell n c hc; ⟨a, ha, u, hr, hl, HV.go Go.unhide hv⟩⟩
theorem Rel.less {μ : Mem} {l : List Addr} (R : Rel K m H μ) (h : ∀ a ∈ l, a ∈ m.hid) : Rel K { m with hid := l } H μ :=
  ⟨R.len, R.nd, fun a ha => R.hid a (h a ha), R.ov, fun n c hc => let ⟨a, ha, u, hr, hl, hv⟩ := R.cell n c hc; ⟨a, ha, u, hr, hl, HV.go (Go.less h) hv⟩⟩
theorem Rel.updHid {μ : Mem} {p : Addr} {o : HO} (R : Rel K m H μ) {u0 : HO} (h : p ∈ m.hid) (h' : p ∉ m.l) (h0 : H p = some u0) (p0 : Plain u0) (ho : NT o) : Rel K m (upd H p o) μ :=
  ⟨R.len, R.nd, fun a ha => by
    obtain ⟨u, hn, hr⟩ := R.hid a ha
    by_cases e : a = p
    · rw [e]; exact ⟨o, ho, .inl upd_same⟩
    · exact ⟨u, hn, rd_upd e hr⟩, fun t ht => (by
    have q := R.ov t ht
    have ne : t.1 ≠ p := fun e => by rw [e, h0] at q; cases q; exact p0
    rw [upd_ne ne]; exact q), fun n c hc => by
    obtain ⟨a, ha, u, hr, hl, hv⟩ := R.cell n c hc
    have ne : a ≠ p := fun e => h' (e ▸ List.mem_of_getElem? ha)
    exact ⟨a, ha, u, rd_upd ne hr, fun z => by rw [upd_ne ne]; exact hl z, HV.go (Go.updHid h) hv⟩⟩
/-- a hidden thing becomes a cell -/
theorem Rel.push {μ : Mem} {p : Addr} (R : Rel K (m.hide p) H μ) {o : HO} {c : D} (h : p ∉ m.l) (hp : H p = some o) (hv : HV K (m.hide p) H c o) : Rel K (m.push p) H (μ ++ [⟨false, c⟩]) := by
  have hlen : m.l.length = μ.length := R.len
  refine ⟨by simp [hlen, Ms.push], ?_, fun a ha => R.hid a (List.mem_cons_of_mem _ ha), R.ov, fun n c' hc => ?_⟩
  · show (m.l ++ [p]).Nodup
    rw [List.nodup_append]
    refine ⟨R.nd, by simp, fun a ha b hb => ?_⟩
    simp at hb
    rw [hb]
    exact fun z => h (z ▸ ha)
  · by_cases hn : n < μ.length
    · rw [List.getElem?_append_left hn] at hc
      obtain ⟨a, ha, u, hr, hl, hv'⟩ := R.cell n c' hc
      exact ⟨a, (Go.push (H := H)).get n a ha, u, hr, hl, HV.go Go.push hv'⟩
    · rw [List.getElem?_append_right (by omega)] at hc
      have h0 : n - μ.length = 0 := by
        have := (List.getElem?_eq_some_iff.mp hc).1
        simp at this
        omega
      have hn' : n = μ.length := by omega
      rw [h0] at hc
      simp at hc
      subst hc
      refine ⟨p, ?_, o, .inl hp, fun _ => hp, HV.go Go.push hv⟩
      show (m.l ++ [p])[n]? = some p
      rw [hn', ← hlen]; simp
theorem Rel.at {μ : Mem} (R : Rel K m H μ) {n : Nat} {c : Cell} (h : μ[n]? = some c) : ∃ a u, m.l[n]? = some a ∧ a ∈ m.l ∧ Rd H a u ∧ (c.lk = false → H a = some u) ∧ HV K m H c.c u := by
  obtain ⟨a, ha, u, hr, hl, hv⟩ := R.cell n c h
  exact ⟨a, u, ha, List.mem_of_getElem? ha, hr, hl, hv⟩
/-- a cell is written -/
theorem Rel.set {μ : Mem} (R : Rel K m H μ) {n : Nat} {a : Addr} {o u0 : HO} {c : Cell} (ha : m.l[n]? = some a) (h0 : H a = some u0) (p0 : Plain u0) (hv : HV K m H c.c o) : Rel K m (upd H a o) (μ.set n c) := by
  have hm : a ∈ m.l := List.mem_of_getElem? ha
  have e1 : Ext m H m (upd H a o) := Ext.set hm
  refine ⟨by simp [R.len], R.nd, fun b hb => ?_, fun t ht => ?_, fun k c' hc => ?_⟩
  · obtain ⟨u, hn, hr⟩ := R.hid b hb
    by_cases e : b = a
    · rw [e]; exact ⟨o, HV.nt hv, .inl upd_same⟩
    · exact ⟨u, hn, rd_upd e hr⟩
  · have q := R.ov t ht
    have ne : t.1 ≠ a := fun e => by rw [e, h0] at q; cases q; exact p0
    rw [upd_ne ne]; exact q
  by_cases hk : k = n
  · subst hk
    have hlt : k < μ.length := by
      have := (List.getElem?_eq_some_iff.mp hc).1
      simpa using this
    rw [List.getElem?_set_self hlt] at hc
    cases hc
    exact ⟨a, ha, o, .inl upd_same, fun _ => upd_same, HV.ext e1 hv⟩
  · rw [List.getElem?_set_ne (Ne.symm hk)] at hc
    obtain ⟨b, hb, u, hr, hl, hv'⟩ := R.cell k c' hc
    have ne : b ≠ a := fun z => by
      subst z
      have h1 := (List.getElem?_eq_some_iff.mp hb)
      have h2 := (List.getElem?_eq_some_iff.mp ha)
      exact hk ((List.getElem_inj R.nd).mp (h1.2.trans h2.2.symm))
    exact ⟨b, hb, u, rd_upd ne hr, fun z => by rw [upd_ne ne]; exact hl z, HV.ext e1 hv'⟩
end
end Mi
namespace Mi
open PySem PySem.Spec PyProof.Rows L2

/-! ## what a piece of code does -/
abbrev FX (α : Type) := Rho → Mem → Option (α × Mem)
abbrev FE := FX D
abbrev FT := FX Bool
abbrev FA := FX (List D)
inductive Out where
  | nx (ρ : Rho) (μ : Mem) | rt (d : D) (μ : Mem) | bk (ρ : Rho) (μ : Mem) | ct (ρ : Rho) (μ : Mem)
abbrev FS := Rho → Mem → Option Out
abbrev FG := D → Rho → Mem → Option (Rho × Mem)

def bnd {α β : Type} (f : FX α) (k : α → FX β) : FX β := fun ρ μ => match f ρ μ with
  | some (a, μ1) => k a ρ μ1
  | none => none
def ret {α : Type} (a : α) : FX α := fun _ μ => some (a, μ)
def fail {α : Type} : FX α := fun _ _ => none

/-- the reading of an f whose answers a are what R says of the heap's b -/
def lgm {α β : Type} (R : Ms → Hp → α → β → Prop) (K : PySem.W.Frag) (m : Ms) (f : FX α) (σ : L2.St) (H : Hp) (Q : β → Hp → Prop) : Prop :=
  ∃ ρ μ a μ', Rel K m H μ ∧ EnvR K m H ρ σ ∧ f ρ μ = some (a, μ') ∧ ∀ b H' m', Ext m H m' H' → Rel K m' H' μ' → R m' H' a b → Q b H'
def lg {α β : Type} (R : Ms → Hp → α → β → Prop) (K : PySem.W.Frag) (f : FX α) : L2.St → Hp → (β → Hp → Prop) → Prop := fun σ H Q => ∃ m, lgm R K m f σ H Q
abbrev rE (K : PySem.W.Frag) : Ms → Hp → D → V → Prop := DV K
abbrev rT : Ms → Hp → Bool → Bool → Prop := fun _ _ a b => b = a
abbrev rA (K : PySem.W.Frag) : Ms → Hp → List D → List V → Prop := DVs K
abbrev lE (K : PySem.W.Frag) (f : FE) : TE := lg (rE K) K f
abbrev lT (K : PySem.W.Frag) (f : FT) : TT := lg rT K f
abbrev lA (K : PySem.W.Frag) (f : FA) : TA := lg (rA K) K f
def OutOk (K : PySem.W.Frag) (E : Ends) (m : Ms) (H : Hp) : Out → Prop
  | .nx ρ' μ' => ∀ σ' H' m', Ext m H m' H' → Rel K m' H' μ' → EnvR K m' H' ρ' σ' → E.nx σ' H'
  | .bk ρ' μ' => ∀ σ' H' m', Ext m H m' H' → Rel K m' H' μ' → EnvR K m' H' ρ' σ' → E.bk σ' H'
  | .ct ρ' μ' => ∀ σ' H' m', Ext m H m' H' → Rel K m' H' μ' → EnvR K m' H' ρ' σ' → E.ct σ' H'
  | .rt d μ' => ∀ v H' m', Ext m H m' H' → Rel K m' H' μ' → DV K m' H' d v → E.rt v H'
def lSm (K : PySem.W.Frag) (m : Ms) (f : FS) (E : Ends) (σ : L2.St) (H : Hp) : Prop :=
  ∃ ρ μ o, Rel K m H μ ∧ EnvR K m H ρ σ ∧ f ρ μ = some o ∧ OutOk K E m H o
def lS (K : PySem.W.Frag) (f : FS) : TS := fun E σ H => ∃ m, lSm K m f E σ H
def lGm (K : PySem.W.Frag) (m : Ms) (g : FG) (v : V) (σ : L2.St) (H : Hp) (Q : L2.St → Hp → Prop) : Prop :=
  ∃ ρ μ d ρ' μ', Rel K m H μ ∧ EnvR K m H ρ σ ∧ DV K m H d v ∧ g d ρ μ = some (ρ', μ') ∧ ∀ σ' H' m', Ext m H m' H' → Rel K m' H' μ' → EnvR K m' H' ρ' σ' → Q σ' H'
def lG (K : PySem.W.Frag) (g : FG) : TG := fun v σ H Q => ∃ m, lGm K m g v σ H Q

theorem OutOk.ext {K : PySem.W.Frag} {E : Ends} {m m1 : Ms} {H H1 : Hp} {o : Out} (e : Ext m H m1 H1) (h : OutOk K E m H o) : OutOk K E m1 H1 o := by
  cases o with
  | nx => exact fun σ' H' m' x => h σ' H' m' (e.trans x)
  | bk => exact fun σ' H' m' x => h σ' H' m' (e.trans x)
  | ct => exact fun σ' H' m' x => h σ' H' m' (e.trans x)
  | rt => exact fun σ' H' m' x => h σ' H' m' (e.trans x)

section
variable {K : PySem.W.Frag} {m : Ms} {σ : L2.St} {H : Hp} {α β γ δ : Type} {R : Ms → Hp → α → β → Prop} {R' : Ms → Hp → γ → δ → Prop} {f : FX α} {k : α → FX γ} {Q : δ → Hp → Prop}
theorem lgm.mono {f : FX α} {Q Q' : β → Hp → Prop} (h : lgm R K m f σ H Q) (q : ∀ b H', Q b H' → Q' b H') : lgm R K m f σ H Q' := by
  obtain ⟨ρ, μ, a, μ', h1, h2, h3, h4⟩ := h
  exact ⟨ρ, μ, a, μ', h1, h2, h3, fun b H' m' x y z => q _ _ (h4 b H' m' x y z)⟩
theorem lgm_bnd (h : lgm R' K m (bnd f k) σ H Q) : lgm R K m f σ H (fun b H1 => ∃ a m1, Ext m H m1 H1 ∧ R m1 H1 a b ∧ lgm R' K m1 (k a) σ H1 Q) := by
  obtain ⟨ρ, μ, a, μ', h1, h2, h3, h4⟩ := h
  unfold bnd at h3
  split at h3
  · rename_i a1 μ1 e
    exact ⟨ρ, μ, a1, μ1, h1, h2, e, fun b H' m' x y z => ⟨a1, m', x, z, ρ, μ1, a, μ', y, h2.ext x, h3, fun b2 H2 m2 x2 => h4 b2 H2 m2 (x.trans x2)⟩⟩
  · cases h3
theorem lg_bnd (h : lg R' K (bnd f k) σ H Q) : lg R K f σ H (fun b H1 => ∃ a m1, R m1 H1 a b ∧ lgm R' K m1 (k a) σ H1 Q) := by
  obtain ⟨m, h⟩ := h
  exact ⟨m, (lgm_bnd h).mono fun b H' ⟨a, m1, _, x, y⟩ => ⟨a, m1, x, y⟩⟩
theorem lgm_bnd' (h : lgm R' K m (bnd f k) σ H Q) : lg R K f σ H (fun b H1 => ∃ a m1, Ext m H m1 H1 ∧ R m1 H1 a b ∧ lgm R' K m1 (k a) σ H1 Q) := ⟨m, lgm_bnd h⟩
theorem lgm_ret {a : α} {Q : β → Hp → Prop} (h : lgm R K m (ret a) σ H Q) : ∃ μ, Rel K m H μ ∧ ∀ b H' m', Ext m H m' H' → Rel K m' H' μ → R m' H' a b → Q b H' := by
  obtain ⟨ρ, μ, a', μ', h1, h2, h3, h4⟩ := h
  cases h3
  exact ⟨μ, h1, h4⟩
end

/-! ## judgements -/
section
variable {X : Cx}
abbrev ME (X : Cx) (e : Expr) (f : FE) : Prop := PE X e (lE X.K f)
abbrev MT (X : Cx) (e : Expr) (f : FT) : Prop := PT X e (lT X.K f)
abbrev MW (X : Cx) (e : Expr) (f : FT) : Prop := PW X e (lT X.K f)
abbrev MA (X : Cx) (es : List Expr) (f : FA) : Prop := PA X es (lA X.K f)
abbrev MS (X : Cx) (s : Stmt) (f : FS) : Prop := PS X s (lS X.K f)
abbrev MSs (X : Cx) (s : List Stmt) (f : FS) : Prop := PSs X s (lS X.K f)
abbrev MG (X : Cx) (e : Expr) (g : FG) : Prop := PG X e (lG X.K g)
theorem peM {e : Expr} {t t' : TE} (h : PE X e t) (q : ∀ σ H Q, t' σ H Q → t σ H Q) : PE X e t' := ⟨fun pins s σ H Q I w => h.run pins s σ H Q I (q σ H Q w)⟩
theorem ptM {e : Expr} {t t' : TT} (h : PT X e t) (q : ∀ σ H Q, t' σ H Q → t σ H Q) : PT X e t' := ⟨fun pins s σ H Q I w => h.run pins s σ H Q I (q σ H Q w)⟩
theorem pwM {e : Expr} {t t' : TT} (h : PW X e t) (q : ∀ σ H Q, t' σ H Q → t σ H Q) : PW X e t' := ⟨fun wh pins s σ H Q I w => h.run wh pins s σ H Q I (q σ H Q w)⟩
theorem paM {es : List Expr} {t t' : TA} (h : PA X es t) (q : ∀ σ H Q, t' σ H Q → t σ H Q) : PA X es t' := ⟨fun pos pins s σ H Q I w => h.run pos pins s σ H Q I (q σ H Q w)⟩
theorem psM {e : Stmt} {t t' : TS} (h : PS X e t) (q : ∀ E σ H, t' E σ H → t E σ H) : PS X e t' := ⟨fun pins s σ H E I w => h.run pins s σ H E I (q E σ H w)⟩
theorem pssM {e : List Stmt} {t t' : TS} (h : PSs X e t) (q : ∀ E σ H, t' E σ H → t E σ H) : PSs X e t' := ⟨fun pins s σ H E I w => h.run pins s σ H E I (q E σ H w)⟩
theorem pgM {e : Expr} {t t' : TG} (h : PG X e t) (q : ∀ v σ H Q, t' v σ H Q → t v σ H Q) : PG X e t' := ⟨fun pins s σ H v u Q I r w => h.run pins s σ H v u Q I r (q v σ H Q w)⟩

/-! ## names, constants -/
def fVar (i : Nat) : FE := fun ρ μ => match ρ[i]? with
  | some (some d) => some (d, μ)
  | _ => none
theorem me_var (i : Nat) {x : Str} {pos : Pos} (hN : X.N[i]? = some x := by rfl) (hv : Vis X.env.scope x := by first | exact Or.inl rfl | exact Or.inr (Or.inl rfl) | exact Or.inr (Or.inr rfl))
    (hd : (x == ("__debug__" : Str)) = false := by decide) (hcd : (x == ("__classdict__" : Str)) = false := by decide) : ME X (.Name x pos) (fVar i) :=
  peM (pe_var hN hv hd hcd) fun σ H Q ⟨m, ρ, μ, a, μ', h1, h2, h3, h4⟩ => by
    unfold fVar at h3
    split at h3
    · rename_i d e
      cases h3
      obtain ⟨v, e1, e2⟩ := h2.get i _ e
      exact ⟨v, e1, h4 v H m Ext.refl h1 e2⟩
    · cases h3
theorem lE_ret {d : D} {v : V} (hv : ∀ K m H, DV K m H d v) (K : PySem.W.Frag) : ∀ σ H Q, lE K (ret d) σ H Q → tC v σ H Q := fun σ H Q ⟨m, h⟩ => by
  obtain ⟨μ, h1, h2⟩ := lgm_ret h
  exact h2 v H m Ext.refl h1 (hv _ _ _)
theorem me_int {i j pos} : ME X (.Constant (.int i) j pos) (ret (.int i)) := peM pe_int (lE_ret (d := .int i) (v := .int i) (fun _ _ _ => rfl) _)
theorem me_bl {b j pos} : ME X (.Constant (.bool b) j pos) (ret (.bl b)) := peM pe_bl (lE_ret (d := .bl b) (v := .bl b) (fun _ _ _ => rfl) _)
theorem me_non {j pos} : ME X (.Constant .none j pos) (ret .non) := peM pe_non (lE_ret (d := .non) (v := .non) (fun _ _ _ => rfl) _)
theorem me_str {x j pos} : ME X (.Constant (.str x) j pos) (ret (.str x)) := peM pe_str (lE_ret (d := .str x) (v := .str x) (fun _ _ _ => rfl) _)
theorem me_gint {x : Str} {i : Int} {t : Tok} {pos : Pos} (hg : Gl X x) (hm : X.mg x = some (.int i t)) (hd : (x == ("__debug__" : Str)) = false := by decide) : ME X (.Name x pos) (ret (.int i)) :=
  peM (pe_glob (v := .int i) hg hm ⟨t, rfl⟩ hd) (lE_ret (d := .int i) (v := .int i) (fun _ _ _ => rfl) _)

/-! ## operators on two values -/
def fBin (g : D → D → Mem → Option (D × Mem)) (fa fb : FE) : FE := bnd fa fun a => bnd fb fun b => fun _ μ => g a b μ
def Snd2 (K : PySem.W.Frag) (r : R2) (g : D → D → Mem → Option (D × Mem)) : Prop :=
  ∀ (m : Ms) (H : Hp) (μ : Mem) (x y : V) (d e r' : D) (μ' : Mem) (Q : VK), Rel K m H μ → DV K m H d x → DV K m H e y → g d e μ = some (r', μ') →
    (∀ v H' m', Ext m H m' H' → Rel K m' H' μ' → DV K m' H' r' v → Q v H') → r x y H Q
theorem lE_bin {K : PySem.W.Frag} {g : D → D → Mem → Option (D × Mem)} {r : R2} {fa fb : FE} (s : Snd2 K r g) : ∀ σ H Q, lE K (fBin g fa fb) σ H Q → tOp r (lE K fa) (lE K fb) σ H Q := fun σ H Q h => by
  obtain ⟨m, h⟩ := h
  refine ⟨m, (lgm_bnd (R := rE K) h).mono fun x H1 h1 => ?_⟩
  obtain ⟨a, m1, e1, r1, h1⟩ := h1
  refine ⟨m1, (lgm_bnd (R := rE K) h1).mono fun y H2 h2 => ?_⟩
  obtain ⟨b, m2, e2, r2, ρ, μ, d, μ', h3, h4, h5, h6⟩ := h2
  exact s m2 H2 μ x y a b d μ' Q h3 (DV.ext e2 r1) r2 h5 h6
/-- a pure operation -/
def pu2 (g : D → D → Option D) : D → D → Mem → Option (D × Mem) := fun a b μ => match g a b with
  | some d => some (d, μ)
  | none => none
theorem Snd2.pu {K : PySem.W.Frag} {r : R2} {g : D → D → Option D} (h : ∀ m H μ x y d e r' (Q : VK), Rel K m H μ → DV K m H d x → DV K m H e y → g d e = some r' → (∀ v, DV K m H r' v → Q v H) → r x y H Q) : Snd2 K r (pu2 g) := by
  intro m H μ x y d e r' μ' Q R hx hy hg q
  unfold pu2 at hg
  split at hg
  · rename_i d' e'
    cases hg
    exact h m H μ x y d e _ Q R hx hy e' fun v hv => q v H m Ext.refl R hv
  · cases hg
theorem me_op {op : Operator} {r : R2} {g : D → D → Mem → Option (D × Mem)} {a b : Expr} {fa fb : FE} {pos : Pos} (ho : OpR X (binaryOp op) r) (s : Snd2 X.K r g) (ha : ME X a fa) (hb : ME X b fb) : ME X (.BinOp a op b pos) (fBin g fa fb) :=
  peM (pe_op ho ha hb) (lE_bin s)
theorem me_cmp {op : CmpOp} {r : R2} {g : D → D → Mem → Option (D × Mem)} {a b : Expr} {fa fb : FE} {pos : Pos} (ho : OpR X (compareOp op) r) (s : Snd2 X.K r g) (hm : behindInMarks op b = false) (ha : ME X a fa) (hb : ME X b fb) : ME X (.Compare a [op] [b] pos) (fBin g fa fb) :=
  peM (pe_cmpR ho ha hb hm) (lE_bin s)
/-- a value as a test -/
def asB : D → FT
  | .bl b => ret b
  | _ => fail
def fB (f : FE) : FT := bnd f asB
theorem lT_B {K : PySem.W.Frag} {f : FE} {t : TE} (h : ∀ σ H Q, lE K f σ H Q → t σ H Q) : ∀ σ H Q, lT K (fB f) σ H Q → t σ H fun x H1 => ∃ c, x = .bl c ∧ Q c H1 := fun σ H Q ⟨m, q⟩ => by
  refine h σ H _ ⟨m, (lgm_bnd (R := rE K) q).mono fun x H1 h1 => ?_⟩
  obtain ⟨a, m1, e1, r1, h1⟩ := h1
  cases a with
  | bl b =>
    obtain ⟨μ, h2, h3⟩ := lgm_ret h1
    exact ⟨b, r1, h3 b H1 m1 Ext.refl h2 rfl⟩
  | _ => obtain ⟨_, _, _, _, _, _, z, _⟩ := h1; cases z
theorem mt_cmp {op : CmpOp} {r : R2} {g : D → D → Mem → Option (D × Mem)} {a b : Expr} {fa fb : FE} {pos : Pos} (ho : OpR X (compareOp op) r) (s : Snd2 X.K r g) (hm : behindInMarks op b = false) (ha : ME X a fa) (hb : ME X b fb) : MT X (.Compare a [op] [b] pos) (fB (fBin g fa fb)) :=
  ptM (pt_cmpR ho ha hb hm) fun σ H Q h => lT_B (lE_bin s) σ H Q h
theorem mt_val {e : Expr} {f : FE} (h : ME X e f) (he : ∀ whole, isTrue e X.env whole = (do let v ← whole; standAt e.pos; holding [v] (truthy v)) := by intro _; rfl) : MT X e (fB f) :=
  ptM (pt_val h he) fun σ H Q q => lT_B (fun _ _ _ z => z) σ H Q q

/-- ints -/
def i2 (g : Int → Int → D) : D → D → Option D
  | .int i, .int j => some (g i j)
  | _, _ => none
def i2c (C : Int → Int → Prop) [∀ i j, Decidable (C i j)] (g : Int → Int → D) : D → D → Option D
  | .int i, .int j => if C i j then some (g i j) else none
  | _, _ => none
/-- flat answers: an int or a bool -/
def flatD : D → V
  | .int i => .int i
  | .bl b => .bl b
  | _ => .non
theorem snd_i2 {K : PySem.W.Frag} {g : Int → Int → D} {g' : Int → Int → V} (hg : ∀ i j m H v, DV K m H (g i j) v ↔ v = g' i j) : Snd2 K (rI0 g') (pu2 (i2 g)) := Snd2.pu fun m H μ x y d e r' Q R hx hy h q => by
  cases d with
  | int i =>
    cases e with
    | int j =>
      cases h
      exact ⟨i, j, hx, hy, q _ ((hg i j m H _).mpr rfl)⟩
    | _ => cases h
  | _ => cases h
theorem snd_i2c {K : PySem.W.Frag} {C : Int → Int → Prop} [∀ i j, Decidable (C i j)] {C' : Int → Int → Prop} {g : Int → Int → D} {g' : Int → Int → V} (hC : ∀ i j, C i j → C' i j) (hg : ∀ i j m H v, DV K m H (g i j) v ↔ v = g' i j) : Snd2 K (rI C' g') (pu2 (i2c C g)) := Snd2.pu fun m H μ x y d e r' Q R hx hy h q => by
  cases d with
  | int i =>
    cases e with
    | int j =>
      by_cases hc : C i j
      · simp only [i2c, if_pos hc, Option.some.injEq] at h
        subst h
        exact ⟨i, j, hx, hy, hC i j hc, q _ ((hg i j m H _).mpr rfl)⟩
      · simp only [i2c, if_neg hc] at h
        cases h
    | _ => simp only [i2c] at h; cases h
  | _ => simp only [i2c] at h; cases h
section
variable {a b : Expr} {fa fb : FE} {pos : Pos}
abbrev gAdd := pu2 (i2 fun i j => .int (i + j))
abbrev gSub := pu2 (i2 fun i j => .int (i - j))
abbrev gMul := pu2 (i2c (fun i j => (-(2 ^ 64) < i ∧ i < 2 ^ 64) ∨ (-(2 ^ 64) < j ∧ j < 2 ^ 64)) fun i j => .int (i * j))
abbrev gMod := pu2 (i2c (fun _ j => j ≠ 0) fun i j => .int (i.fmod j))
abbrev gDiv := pu2 (i2c (fun _ j => j ≠ 0 ∧ j.natAbs < 1073741824) fun i j => .int (i.fdiv j))
abbrev gPow := pu2 (i2c (fun i j => 0 ≤ j ∧ j ≤ 1000000 ∧ i.natAbs < 2 ^ 64) fun i j => .int (i ^ j.toNat))
abbrev gShl := pu2 (i2c (fun i j => 0 ≤ j ∧ j ≤ 1000000 ∧ i.natAbs < 2 ^ 64) fun i j => .int (i * 2 ^ j.toNat))
abbrev gShr := pu2 (i2c (fun _ j => 0 ≤ j) fun i j => .int (i / 2 ^ j.toNat))
abbrev gAnd := pu2 (i2 fun i j => .int (Builtin.bitAnd i j))
abbrev gOr := pu2 (i2 fun i j => .int (Builtin.bitOr i j))
abbrev gXor := pu2 (i2 fun i j => .int (Builtin.bitXor i j))
abbrev gLt := pu2 (i2 fun i j => .bl (decide (i < j)))
abbrev gLe := pu2 (i2 fun i j => .bl (decide (i ≤ j)))
abbrev gGt := pu2 (i2 fun i j => .bl (decide (j < i)))
abbrev gGe := pu2 (i2 fun i j => .bl (decide (j ≤ i)))
theorem me_add (ha : ME X a fa) (hb : ME X b fb) : ME X (.BinOp a .Add b pos) (fBin gAdd fa fb) := me_op op_add (snd_i2 fun _ _ _ _ _ => Iff.rfl) ha hb
theorem me_sub (ha : ME X a fa) (hb : ME X b fb) : ME X (.BinOp a .Sub b pos) (fBin gSub fa fb) := me_op op_sub (snd_i2 fun _ _ _ _ _ => Iff.rfl) ha hb
theorem me_mul (ha : ME X a fa) (hb : ME X b fb) : ME X (.BinOp a .Mult b pos) (fBin gMul fa fb) := me_op op_mul (snd_i2c (fun _ _ h => h) fun _ _ _ _ _ => Iff.rfl) ha hb
theorem me_mod (ha : ME X a fa) (hb : ME X b fb) : ME X (.BinOp a .Mod b pos) (fBin gMod fa fb) := me_op op_modN (snd_i2c (fun _ _ h => h) fun _ _ _ _ _ => Iff.rfl) ha hb
theorem me_div (ha : ME X a fa) (hb : ME X b fb) : ME X (.BinOp a .FloorDiv b pos) (fBin gDiv fa fb) := me_op op_fdivN (snd_i2c (fun _ _ h => h) fun _ _ _ _ _ => Iff.rfl) ha hb
theorem me_pow (ha : ME X a fa) (hb : ME X b fb) : ME X (.BinOp a .Pow b pos) (fBin gPow fa fb) := me_op op_pow (snd_i2c (fun _ _ h => h) fun _ _ _ _ _ => Iff.rfl) ha hb
theorem me_shl (ha : ME X a fa) (hb : ME X b fb) : ME X (.BinOp a .LShift b pos) (fBin gShl fa fb) := me_op op_shl (snd_i2c (fun _ _ h => h) fun _ _ _ _ _ => Iff.rfl) ha hb
theorem me_shr (ha : ME X a fa) (hb : ME X b fb) : ME X (.BinOp a .RShift b pos) (fBin gShr fa fb) := me_op op_shr (snd_i2c (fun _ _ h => h) fun _ _ _ _ _ => Iff.rfl) ha hb
theorem me_and (ha : ME X a fa) (hb : ME X b fb) : ME X (.BinOp a .BitAnd b pos) (fBin gAnd fa fb) := me_op op_and (snd_i2 fun _ _ _ _ _ => Iff.rfl) ha hb
theorem me_or (ha : ME X a fa) (hb : ME X b fb) : ME X (.BinOp a .BitOr b pos) (fBin gOr fa fb) := me_op op_or (snd_i2 fun _ _ _ _ _ => Iff.rfl) ha hb
theorem me_xor (ha : ME X a fa) (hb : ME X b fb) : ME X (.BinOp a .BitXor b pos) (fBin gXor fa fb) := me_op op_xor (snd_i2 fun _ _ _ _ _ => Iff.rfl) ha hb
theorem me_lt (ha : ME X a fa) (hb : ME X b fb) : ME X (.Compare a [.Lt] [b] pos) (fBin gLt fa fb) := me_cmp op_lt (snd_i2 fun _ _ _ _ _ => Iff.rfl) (nomark _) ha hb
theorem me_le (ha : ME X a fa) (hb : ME X b fb) : ME X (.Compare a [.LtE] [b] pos) (fBin gLe fa fb) := me_cmp op_le (snd_i2 fun _ _ _ _ _ => Iff.rfl) (nomark _) ha hb
theorem me_gt (ha : ME X a fa) (hb : ME X b fb) : ME X (.Compare a [.Gt] [b] pos) (fBin gGt fa fb) := me_cmp op_gt (snd_i2 fun _ _ _ _ _ => Iff.rfl) (nomark _) ha hb
theorem me_ge (ha : ME X a fa) (hb : ME X b fb) : ME X (.Compare a [.GtE] [b] pos) (fBin gGe fa fb) := me_cmp op_ge (snd_i2 fun _ _ _ _ _ => Iff.rfl) (nomark _) ha hb
theorem mt_lt (ha : ME X a fa) (hb : ME X b fb) : MT X (.Compare a [.Lt] [b] pos) (fB (fBin gLt fa fb)) := mt_cmp op_lt (snd_i2 fun _ _ _ _ _ => Iff.rfl) (nomark _) ha hb
theorem mt_le (ha : ME X a fa) (hb : ME X b fb) : MT X (.Compare a [.LtE] [b] pos) (fB (fBin gLe fa fb)) := mt_cmp op_le (snd_i2 fun _ _ _ _ _ => Iff.rfl) (nomark _) ha hb
theorem mt_gt (ha : ME X a fa) (hb : ME X b fb) : MT X (.Compare a [.Gt] [b] pos) (fB (fBin gGt fa fb)) := mt_cmp op_gt (snd_i2 fun _ _ _ _ _ => Iff.rfl) (nomark _) ha hb
theorem mt_ge (ha : ME X a fa) (hb : ME X b fb) : MT X (.Compare a [.GtE] [b] pos) (fB (fBin gGe fa fb)) := mt_cmp op_ge (snd_i2 fun _ _ _ _ _ => Iff.rfl) (nomark _) ha hb
end
end
end Mi
namespace Mi
open PySem PySem.Spec PyProof.Rows L2

/-! ## what is seen behind a reference -/
def see (μ : Mem) : D → D
  | .ref n => match μ[n]? with
    | some c => c.c
    | none => .ref n
  | d => d
def SV (K : PySem.W.Frag) (m : Ms) (H : Hp) : D → V → Prop
  | .tup ds, v => ∃ a xs, v = .ref a ∧ H a = some (.tup xs) ∧ DVs K m H ds xs
  | .lst ds, v => ∃ a xs, v = .ref a ∧ Rd H a (.lst xs) ∧ DVs K m H ds xs
  | .dK ks ds, v => ∃ a kvs, v = .ref a ∧ Rd H a (.dK kvs) ∧ kvs.map (·.1) = ks ∧ DVs K m H ds (kvs.map (·.2))
  | .dT ks ds, v => ∃ a kvs, v = .ref a ∧ Rd H a (.dT kvs) ∧ kvs.map (·.1) = ks ∧ DVs K m H ds (kvs.map (·.2))
  | .obj C fs ds, v => ∃ a dx kvs, v = .ref a ∧ Rd H a (.ins C dx kvs) ∧ kvs.map (·.1) = fs ∧ DVs K m H ds (kvs.map (·.2))
  | .scr ns, v => ∃ a, v = .ref a ∧ SqL K H a (ns.map V.int)
  | .ref n, v => ∃ a, v = .ref a ∧ m.l[n]? = some a
  | .non, v => v = .non
  | .bl b, v => v = .bl b
  | .int i, v => v = .int i
  | .str x, v => v = .str x
  | .adr a, v => v = .ref a
section
variable {K : PySem.W.Frag} {m m' : Ms} {H H' : Hp} {μ : Mem}
theorem see_ok (R : Rel K m H μ) {d : D} {v : V} (h : DV K m H d v) : SV K m H (see μ d) v := by
  cases d with
  | non => exact h
  | bl b => exact h
  | int i => exact h
  | str x => exact h
  | adr a => exact h
  | tup ds => obtain ⟨a, xs, h1, h2, h3⟩ := h; exact ⟨a, xs, h1, h2.2, h3⟩
  | lst ds => obtain ⟨a, xs, h1, h2, h3⟩ := h; exact ⟨a, xs, h1, h2.2, h3⟩
  | dK ks ds => obtain ⟨a, xs, h1, h2, h3⟩ := h; exact ⟨a, xs, h1, h2.2, h3⟩
  | dT ks ds => obtain ⟨a, xs, h1, h2, h3⟩ := h; exact ⟨a, xs, h1, h2.2, h3⟩
  | obj C fs ds => obtain ⟨a, dx, xs, h1, h2, h3⟩ := h; exact ⟨a, dx, xs, h1, h2.2, h3⟩
  | scr ns => obtain ⟨a, h1, h2⟩ := h; exact ⟨a, h1, h2.sq⟩
  | ref n =>
    obtain ⟨a, rfl, ha⟩ := h
    cases e : μ[n]? with
    | none => simp only [see, e]; exact ⟨a, rfl, ha⟩
    | some c =>
      simp only [see, e]
      obtain ⟨b, hb, u, hr, _, hv⟩ := R.cell n c e
      rw [ha] at hb; cases hb
      cases hc : c.c with
      | lst ds => rw [hc] at hv; obtain ⟨xs, rfl, h2⟩ := hv; exact ⟨a, xs, rfl, hr, h2⟩
      | dK ks ds => rw [hc] at hv; obtain ⟨xs, rfl, h2, h3⟩ := hv; exact ⟨a, xs, rfl, hr, h2, h3⟩
      | dT ks ds => rw [hc] at hv; obtain ⟨xs, rfl, h2, h3⟩ := hv; exact ⟨a, xs, rfl, hr, h2, h3⟩
      | obj C fs ds => rw [hc] at hv; obtain ⟨dx, xs, rfl, h2, h3⟩ := hv; exact ⟨a, dx, xs, rfl, hr, h2, h3⟩
      | _ => rw [hc] at hv; exact hv.elim
/-- reading, both seen -/
def rd2 (g : D → D → Option D) : D → D → Mem → Option (D × Mem) := fun a b μ => pu2 g (see μ a) (see μ b) μ
theorem Snd2.rd {r : R2} {g : D → D → Option D} (h : ∀ m H μ x y d e r' (Q : VK), Rel K m H μ → SV K m H d x → SV K m H e y → g d e = some r' → (∀ v, DV K m H r' v → Q v H) → r x y H Q) : Snd2 K r (rd2 g) := by
  intro m H μ x y d e r' μ' Q R hx hy hg q
  unfold rd2 pu2 at hg
  split at hg
  · rename_i d' e'
    cases hg
    exact h m H μ x y _ _ _ Q R (see_ok R hx) (see_ok R hy) e' fun v hv => q v H m Ext.refl R hv
  · cases hg
end

/-! ## equality of data -/
mutual
def eqD : D → D → Bool
  | .non, .non => true
  | .bl a, .bl b => a == b
  | .bl a, .int j => (if a then 1 else 0) == j
  | .int i, .bl b => i == (if b then 1 else 0)
  | .int i, .int j => i == j
  | .str x, .str y => x == y
  | .tup xs, .tup ys => eqDs xs ys
  | .lst xs, .lst ys => eqDs xs ys
  | _, _ => false
def eqDs : List D → List D → Bool
  | [], [] => true
  | x :: xs, y :: ys => eqD x y && eqDs xs ys
  | _, _ => false
end
mutual
def toP : D → PyData
  | .bl b => .bool b
  | .int i => .int i
  | .str x => .str x
  | .tup ds => .tuple (toPs ds)
  | .lst ds => .list (toPs ds)
  | _ => .none
def toPs : List D → List PyData
  | [] => []
  | d :: ds => toP d :: toPs ds
end
mutual
def okD : Nat → D → Bool
  | _, .non => true
  | _, .bl _ => true
  | _, .int _ => true
  | _, .str x => PyData.strOk x
  | 0, _ => false
  | n + 1, .tup ds => okDs n ds
  | n + 1, .lst ds => okDs n ds
  | _, _ => false
def okDs : Nat → List D → Bool
  | _, [] => true
  | n, d :: ds => okD n d && okDs n ds
end
mutual
theorem ok_lay : ∀ (d : D) (n : Nat), okD n d = true → (toP d).canLay0 = true ∧ (toP d).depth ≤ n
  | .non, n, h => ⟨rfl, Nat.zero_le _⟩
  | .bl _, n, h => ⟨rfl, Nat.zero_le _⟩
  | .int _, n, h => ⟨rfl, Nat.zero_le _⟩
  | .str x, n, h => ⟨by unfold toP PyData.canLay0; cases n <;> exact h, Nat.zero_le _⟩
  | .tup ds, 0, h => by simp [okD] at h
  | .tup ds, n + 1, h => by
    obtain ⟨a, b⟩ := oks_lay ds n (by simpa [okD] using h)
    exact ⟨a, Nat.succ_le_succ b⟩
  | .lst ds, 0, h => by simp [okD] at h
  | .lst ds, n + 1, h => by
    obtain ⟨a, b⟩ := oks_lay ds n (by simpa [okD] using h)
    exact ⟨a, Nat.succ_le_succ b⟩
  | .adr _, n, h => by cases n <;> simp [okD] at h
  | .ref _, n, h => by cases n <;> simp [okD] at h
  | .dK _ _, n, h => by cases n <;> simp [okD] at h
  | .dT _ _, n, h => by cases n <;> simp [okD] at h
  | .obj _ _ _, n, h => by cases n <;> simp [okD] at h
  | .scr _, n, h => by cases n <;> simp [okD] at h
theorem oks_lay : ∀ (ds : List D) (n : Nat), okDs n ds = true → PyData.canLayAll0 (toPs ds) = true ∧ PyData.depthAll (toPs ds) ≤ n
  | [], n, h => ⟨rfl, Nat.zero_le _⟩
  | d :: ds, n, h => by
    simp only [okDs, Bool.and_eq_true] at h
    obtain ⟨a, b⟩ := ok_lay d n h.1
    obtain ⟨a', b'⟩ := oks_lay ds n h.2
    refine ⟨?_, ?_⟩
    · simp only [toPs, PyData.canLayAll0, a, a', Bool.and_self]
    · simp only [toPs, PyData.depthAll]
      omega
end
section
variable {K : PySem.W.Frag} {m m' : Ms} {H H' : Hp} {μ : Mem}
mutual
theorem dv_dp : ∀ (d : D) (n : Nat) (v : V), okD n d = true → DV K m H d v → Dp K H v (toP d)
  | .non, n, v, _, h => by rw [show v = .non from h]; exact .non
  | .bl b, n, v, _, h => by rw [show v = .bl b from h]; exact .bl b
  | .int i, n, v, _, h => by rw [show v = .int i from h]; exact .int i
  | .str i, n, v, _, h => by rw [show v = .str i from h]; exact .str i
  | .tup ds, 0, _, h, _ => by simp [okD] at h
  | .tup ds, n + 1, v, o, h => by
    obtain ⟨a, xs, rfl, h2, h3⟩ := h
    exact .tup h2.sq (dvs_dp ds n xs (by simpa [okD] using o) h3)
  | .lst ds, 0, _, h, _ => by simp [okD] at h
  | .lst ds, n + 1, v, o, h => by
    obtain ⟨a, xs, rfl, h2, h3⟩ := h
    exact .lst h2.sq (dvs_dp ds n xs (by simpa [okD] using o) h3)
  | .adr _, n, _, h, _ => by cases n <;> simp [okD] at h
  | .ref _, n, _, h, _ => by cases n <;> simp [okD] at h
  | .dK _ _, n, _, h, _ => by cases n <;> simp [okD] at h
  | .dT _ _, n, _, h, _ => by cases n <;> simp [okD] at h
  | .obj _ _ _, n, _, h, _ => by cases n <;> simp [okD] at h
  | .scr _, n, _, h, _ => by cases n <;> simp [okD] at h
theorem dvs_dp : ∀ (ds : List D) (n : Nat) (vs : List V), okDs n ds = true → DVs K m H ds vs → DpAll K H vs (toPs ds)
  | [], n, vs, _, h => by rw [show vs = [] from h]; exact .nil
  | d :: ds, n, vs, o, h => by
    obtain ⟨x, xs, rfl, h2, h3⟩ := h
    simp only [okDs, Bool.and_eq_true] at o
    exact .cons (dv_dp d n x o.1 h2) (dvs_dp ds n xs o.2 h3)
end
theorem sv_dp (d : D) (n : Nat) (v : V) (o : okD n d = true) (h : SV K m H d v) : Dp K H v (toP d) := by
  cases d with
  | non => exact dv_dp (K := K) (m := m) (H := H) _ n v o h
  | bl b => exact dv_dp (K := K) (m := m) (H := H) _ n v o h
  | int i => exact dv_dp (K := K) (m := m) (H := H) _ n v o h
  | str i => exact dv_dp (K := K) (m := m) (H := H) _ n v o h
  | tup ds =>
    obtain ⟨a, xs, rfl, h2, h3⟩ := h
    cases n with
    | zero => simp [okD] at o
    | succ n => exact .tup (.inl (.inl h2)) (dvs_dp ds n xs (by simpa [okD] using o) h3)
  | lst ds =>
    obtain ⟨a, xs, rfl, h2, h3⟩ := h
    cases n with
    | zero => simp [okD] at o
    | succ n => exact .lst (.inl h2) (dvs_dp ds n xs (by simpa [okD] using o) h3)
  | _ => cases n <;> simp [okD] at o
mutual
theorem eq_eqv : ∀ (d e : D) (n : Nat), okD n d = true → okD n e = true → PyData.eqv (toP d) (toP e) = eqD d e
  | .non, e, n, _, o => by cases e <;> first | rfl | (cases n <;> simp [okD] at o)
  | .bl _, e, n, _, o => by cases e <;> first | rfl | (cases n <;> simp [okD] at o)
  | .int _, e, n, _, o => by cases e <;> first | rfl | (cases n <;> simp [okD] at o)
  | .str _, e, n, _, o => by cases e <;> first | rfl | (cases n <;> simp [okD] at o)
  | .tup ds, e, 0, o, _ => by simp [okD] at o
  | .tup ds, e, n + 1, o, o' => by
    cases e with
    | tup es =>
      simp only [okD] at o o'
      simp only [toP, PyData.eqv, eqD]
      exact eqs_eqv ds es n o o'
    | _ => first | rfl | simp [okD] at o'
  | .lst ds, e, 0, o, _ => by simp [okD] at o
  | .lst ds, e, n + 1, o, o' => by
    cases e with
    | lst es =>
      simp only [okD] at o o'
      simp only [toP, PyData.eqv, eqD]
      exact eqs_eqv ds es n o o'
    | _ => first | rfl | simp [okD] at o'
  | .adr _, _, n, h, _ => by cases n <;> simp [okD] at h
  | .ref _, _, n, h, _ => by cases n <;> simp [okD] at h
  | .dK _ _, _, n, h, _ => by cases n <;> simp [okD] at h
  | .dT _ _, _, n, h, _ => by cases n <;> simp [okD] at h
  | .obj _ _ _, _, n, h, _ => by cases n <;> simp [okD] at h
  | .scr _, _, n, h, _ => by cases n <;> simp [okD] at h
theorem eqs_eqv : ∀ (ds es : List D) (n : Nat), okDs n ds = true → okDs n es = true → PyData.eqvAll (toPs ds) (toPs es) = eqDs ds es
  | [], [], _, _, _ => rfl
  | [], _ :: _, _, _, _ => rfl
  | _ :: _, [], _, _, _ => rfl
  | d :: ds, e :: es, n, o, o' => by
    simp only [okDs, Bool.and_eq_true] at o o'
    simp only [toPs, PyData.eqvAll, eqDs, eq_eqv d e n o.1 o'.1, eqs_eqv ds es n o.2 o'.2]
end
end
def gEqO (d e : D) : Option Bool := if okD 60 d && okD 60 e then some (eqD d e) else none
abbrev gEq := rd2 fun d e => match gEqO d e with
  | some b => some (.bl b)
  | none => none
abbrev gNe := rd2 fun d e => match gEqO d e with
  | some b => some (.bl (!b))
  | none => none
theorem gEqO_ok {K : PySem.W.Frag} {m : Ms} {H : Hp} {d e : D} {x y : V} {b : Bool} (hx : SV K m H d x) (hy : SV K m H e y) (h : gEqO d e = some b) :
    Dp K H x (toP d) ∧ Dp K H y (toP e) ∧ SeqAt.shaped (toP d) = true ∧ SeqAt.shaped (toP e) = true ∧ PyData.eqv (toP d) (toP e) = b := by
  unfold gEqO at h
  split at h
  · rename_i o
    simp only [Bool.and_eq_true] at o
    cases h
    obtain ⟨a1, a2⟩ := ok_lay d 60 o.1
    obtain ⟨b1, b2⟩ := ok_lay e 60 o.2
    refine ⟨sv_dp d 60 x o.1 hx, sv_dp e 60 y o.2 hy, ?_, ?_, eq_eqv d e 60 o.1 o.2⟩
    · unfold SeqAt.shaped; rw [a1, Bool.true_and]; exact decide_eq_true (by omega)
    · unfold SeqAt.shaped; rw [b1, Bool.true_and]; exact decide_eq_true (by omega)
  · cases h
theorem snd_eq {K : PySem.W.Frag} : Snd2 K (rEqD K) gEq := Snd2.rd fun m H μ x y d e r' Q R hx hy h q => by
  split at h
  · rename_i b hb
    cases h
    obtain ⟨h1, h2, h3, h4, h5⟩ := gEqO_ok hx hy hb
    exact ⟨_, _, h1, h2, h3, h4, by rw [h5]; exact q _ rfl⟩
  · cases h
theorem snd_ne {K : PySem.W.Frag} : Snd2 K (rNeD K) gNe := Snd2.rd fun m H μ x y d e r' Q R hx hy h q => by
  split at h
  · rename_i b hb
    cases h
    obtain ⟨h1, h2, h3, h4, h5⟩ := gEqO_ok hx hy hb
    exact ⟨_, _, h1, h2, h3, h4, by rw [h5]; exact q _ rfl⟩
  · cases h
section
variable {X : Cx} {a b : Expr} {fa fb : FE} {pos : Pos}
theorem me_eq (hu : X.A.units + 64 < cLine) (ha : ME X a fa) (hb : ME X b fb) : ME X (.Compare a [.Eq] [b] pos) (fBin gEq fa fb) := me_cmp (op_eqD hu) snd_eq (nomark _) ha hb
theorem me_ne (hu : X.A.units + 64 < cLine) (ha : ME X a fa) (hb : ME X b fb) : ME X (.Compare a [.NotEq] [b] pos) (fBin gNe fa fb) := me_cmp (op_neD hu) snd_ne (nomark _) ha hb
theorem mt_eq (hu : X.A.units + 64 < cLine) (ha : ME X a fa) (hb : ME X b fb) : MT X (.Compare a [.Eq] [b] pos) (fB (fBin gEq fa fb)) := mt_cmp (op_eqD hu) snd_eq (nomark _) ha hb
theorem mt_ne (hu : X.A.units + 64 < cLine) (ha : ME X a fa) (hb : ME X b fb) : MT X (.Compare a [.NotEq] [b] pos) (fB (fBin gNe fa fb)) := mt_cmp (op_neD hu) snd_ne (nomark _) ha hb
end
/-! ## is, is not: of bools, of None -/
def isD : D → D → Option Bool
  | .non, .non => some true
  | .bl _, .non => some false
  | .int _, .non => some false
  | .str _, .non => some false
  | .tup _, .non => some false
  | .lst _, .non => some false
  | .dK _ _, .non => some false
  | .dT _ _, .non => some false
  | .obj _ _ _, .non => some false
  | .bl a, .bl b => some (decide (a = b))
  | _, _ => none
abbrev gIs := rd2 fun d e => match isD d e with
  | some b => some (.bl b)
  | none => none
abbrev gIsNot := rd2 fun d e => match isD d e with
  | some b => some (.bl (!b))
  | none => none
def rIs : R2 := fun x y H Q => (y = .non ∧ Q (.bl (decide (x = .non))) H) ∨ rIsB x y H Q
def rIsNot : R2 := fun x y H Q => (y = .non ∧ Q (.bl (!decide (x = .non))) H) ∨ rNotB x y H Q
theorem OpR.or {X : Cx} {f : Value → Value → Sem Value} {r r' : R2} (h : OpR X f r) (h' : OpR X f r') : OpR X f (fun x y H Q => r x y H Q ∨ r' x y H Q) := by
  intro pins s σ H x y v u Q I rx ry q
  rcases q with q | q
  · exact h pins s σ H x y v u Q I rx ry q
  · exact h' pins s σ H x y v u Q I rx ry q
theorem isD_ok {K : PySem.W.Frag} {m : Ms} {H : Hp} {d e : D} {x y : V} {b : Bool} (hx : SV K m H d x) (hy : SV K m H e y) (h : isD d e = some b) :
    (y = .non ∧ b = decide (x = .non)) ∨ ∃ p q, x = .bl p ∧ y = .bl q ∧ b = decide (p = q) := by
  cases d <;> cases e <;> first | (simp only [isD] at h; cases h; done) | skip
  case bl.bl p q => exact .inr ⟨p, q, hx, hy, by cases h; rfl⟩
  all_goals
    refine .inl ⟨hy, ?_⟩
    cases h
    first
      | (rw [show x = _ from hx]; rfl)
      | (obtain ⟨a, xs, rfl, _⟩ := hx; rfl)
      | (obtain ⟨a, dx, xs, rfl, _⟩ := hx; rfl)
theorem snd_is {K : PySem.W.Frag} : Snd2 K rIs gIs := Snd2.rd fun m H μ x y d e r' Q R hx hy h q => by
  split at h
  · rename_i b hb
    cases h
    rcases isD_ok hx hy hb with ⟨h1, rfl⟩ | ⟨p, q', h1, h2, rfl⟩
    · exact .inl ⟨h1, q _ rfl⟩
    · exact .inr ⟨p, q', h1, h2, q _ rfl⟩
  · cases h
theorem snd_isnot {K : PySem.W.Frag} : Snd2 K rIsNot gIsNot := Snd2.rd fun m H μ x y d e r' Q R hx hy h q => by
  split at h
  · rename_i b hb
    cases h
    rcases isD_ok hx hy hb with ⟨h1, rfl⟩ | ⟨p, q', h1, h2, rfl⟩
    · exact .inl ⟨h1, q _ rfl⟩
    · exact .inr ⟨p, q', h1, h2, q _ rfl⟩
  · cases h
section
variable {X : Cx} {a b : Expr} {fa fb : FE} {pos : Pos}
theorem me_is (ha : ME X a fa) (hb : ME X b fb) : ME X (.Compare a [.Is] [b] pos) (fBin gIs fa fb) := me_cmp (OpR.or op_isN op_isBl) snd_is (nomark _) ha hb
theorem me_isnot (ha : ME X a fa) (hb : ME X b fb) : ME X (.Compare a [.IsNot] [b] pos) (fBin gIsNot fa fb) := me_cmp (OpR.or op_notN op_notBl) snd_isnot (nomark _) ha hb
theorem mt_is (ha : ME X a fa) (hb : ME X b fb) : MT X (.Compare a [.Is] [b] pos) (fB (fBin gIs fa fb)) := mt_cmp (OpR.or op_isN op_isBl) snd_is (nomark _) ha hb
theorem mt_isnot (ha : ME X a fa) (hb : ME X b fb) : MT X (.Compare a [.IsNot] [b] pos) (fB (fBin gIsNot fa fb)) := mt_cmp (OpR.or op_notN op_notBl) snd_isnot (nomark _) ha hb
end
end Mi
namespace Mi
open PySem PySem.Spec PyProof.Rows L2

/-! ## new objects -/
def lF (K : PySem.W.Frag) (f : FE) : TE := fun σ H Q => ∃ m ρ μ c μ', Rel K m H μ ∧ EnvR K m H ρ σ ∧ f ρ μ = some (c, μ') ∧
  ∀ p H' m' o, Ext m H m' H' → Rel K (m'.hide p) H' μ' → H p = none → m'.no p → H' p = some o → HV K (m'.hide p) H' c o → Q (.ref p) H'
abbrev MF (X : Cx) (e : Expr) (f : FE) : Prop := PE X e (lF X.K f)
def fMut (f : FE) : FE := fun ρ μ => match f ρ μ with
  | some (c, μ1) => some (.ref μ1.length, μ1 ++ [⟨false, c⟩])
  | none => none
theorem hv_dv {K : PySem.W.Frag} {m : Ms} {H : Hp} {p : Addr} {c : D} {o : HO} (h : m.no p) (hp : H p = some o) (hv : HV K m H c o) : DV K m H c (.ref p) := by
  cases c <;> first | exact hv.elim | skip
  · obtain ⟨xs, rfl, h2⟩ := hv; exact ⟨p, xs, rfl, ⟨h, .inl hp⟩, h2⟩
  · obtain ⟨xs, rfl, h2, h3⟩ := hv; exact ⟨p, xs, rfl, ⟨h, .inl hp⟩, h2, h3⟩
  · obtain ⟨xs, rfl, h2, h3⟩ := hv; exact ⟨p, xs, rfl, ⟨h, .inl hp⟩, h2, h3⟩
  · obtain ⟨dx, xs, rfl, h2, h3⟩ := hv; exact ⟨p, dx, xs, rfl, ⟨h, .inl hp⟩, h2, h3⟩
theorem mf_frz {X : Cx} {e : Expr} {f : FE} (h : MF X e f) : ME X e f := peM h fun σ H Q ⟨m, ρ, μ, c, μ', h1, h2, h3, h4⟩ =>
  ⟨m, ρ, μ, c, μ', h1, h2, h3, fun p H' m' o e R hn hl hp hv => h4 _ _ m' e R.unhide (hv_dv hl hp (HV.go Go.unhide hv))⟩
theorem mf_mut {X : Cx} {e : Expr} {f : FE} (h : MF X e f) : ME X e (fMut f) := peM h fun σ H Q ⟨m, ρ, μ, d, μ', h1, h2, h3, h4⟩ => by
  unfold fMut at h3
  split at h3
  · rename_i c μ1 e
    cases h3
    refine ⟨m, ρ, μ, c, μ1, h1, h2, e, fun p H' m' o e R hn hl hp hv => h4 _ _ (m'.push p) (e.add hn) (R.push hl.1 hp hv) ⟨p, rfl, ?_⟩⟩
    have hlen : m'.l.length = μ1.length := R.len
    show (m'.l ++ [p])[μ1.length]? = some p
    rw [← hlen]; simp
  · cases h3
theorem alloc {K : PySem.W.Frag} {m m1 : Ms} {H H1 : Hp} {μ' : Mem} {c : D} {o : HO} {Q : VK} (e : Ext m H m1 H1) (R : Rel K m1 H1 μ') (hv : HV K m1 H1 c o)
    (q : ∀ p H' m' o, Ext m H m' H' → Rel K (m'.hide p) H' μ' → H p = none → m'.no p → H' p = some o → HV K (m'.hide p) H' c o → Q (.ref p) H') : ∀ p, H1 p = none → Q (.ref p) (upd H1 p o) :=
  fun p h => q p _ m1 o (e.trans (Ext.new h)) (R.hide h hv.nt) (e.free h) (R.fresh h) upd_same (HV.go (Go.hide h) hv)
/-- a tuple is laid -/
theorem allocT {K : PySem.W.Frag} {m1 : Ms} {H1 : Hp} {μ' : Mem} {ds : List D} {xs : List V} {Q : VK} (R : Rel K m1 H1 μ') (hv : DVs K m1 H1 ds xs)
    (q : ∀ v H' m', Ext m1 H1 m' H' → Rel K m' H' μ' → DV K m' H' (.tup ds) v → Q v H') : ∀ p, H1 p = none → Q (.ref p) (upd H1 p (.tup xs)) :=
  fun p h => q _ _ m1 (Ext.new h) (R.new h) ⟨p, xs, rfl, ⟨R.fresh h, upd_same⟩, DVs.ext (Ext.new h) hv⟩

/-! ## arguments, displays -/
def fNil : FA := ret []
def fCons (fa : FE) (fr : FA) : FA := bnd fa fun d => bnd fr fun ds => ret (d :: ds)
def fTup (f : FA) : FE := bnd f fun ds => if ds.length ≤ 16777216 then ret (.tup ds) else fail
def fLst (f : FA) : FE := bnd f fun ds => if ds.length ≤ 16777216 then ret (.lst ds) else fail
section
variable {X : Cx}
theorem ma_nil : MA X [] fNil := paM pa_nil fun σ H Q ⟨m, h⟩ => by
  obtain ⟨μ, h1, h2⟩ := lgm_ret h
  exact h2 [] H m Ext.refl h1 rfl
theorem ma_cons {e : Expr} {es : List Expr} {fa : FE} {fr : FA} (ha : ME X e fa) (hr : MA X es fr) (hs : starEach (e :: es) X.env = (false, eval e X.env) :: starEach es X.env := by rfl) : MA X (e :: es) (fCons fa fr) :=
  paM (pa_cons ha hr hs) fun σ H Q ⟨m, h⟩ => ⟨m, (lgm_bnd (R := rE X.K) h).mono fun x H1 ⟨a, m1, e1, r1, h1⟩ => ⟨m1, (lgm_bnd (R := rA X.K) h1).mono fun xs H2 ⟨b, m2, e2, r2, h2⟩ => by
    obtain ⟨μ, h3, h4⟩ := lgm_ret h2
    exact h4 _ H2 m2 Ext.refl h3 (.cons (DV.ext e2 r1) r2)⟩⟩
theorem size_le {n : Nat} (h : n ≤ 16777216) : n ≤ sizeLine := by rw [sizeLine_eq]; exact h
theorem size_lt {n : Nat} (h : n < 16777216) : n < sizeLine := by rw [sizeLine_eq]; exact h
theorem lgm_fail {K : PySem.W.Frag} {m : Ms} {σ : L2.St} {H : Hp} {α β : Type} {R : Ms → Hp → α → β → Prop} {Q : β → Hp → Prop} {p : Prop} (h : lgm R K m fail σ H Q) : p := by
  obtain ⟨_, _, _, _, _, _, z, _⟩ := h; cases z
theorem me_tup {es : List Expr} {f : FA} {x1} {pos : Pos} (h : MA X es f) : ME X (.Tuple es x1 pos) (fTup f) :=
  peM (pe_tup h) fun σ H Q ⟨m, h⟩ => ⟨m, (lgm_bnd (R := rA X.K) h).mono fun xs H1 ⟨ds, m1, e1, r1, h1⟩ => by
    by_cases hz : ds.length ≤ 16777216
    · rw [if_pos hz] at h1
      obtain ⟨μ, h3, h4⟩ := lgm_ret h1
      exact ⟨size_le (by rw [r1.length]; exact hz), allocT h3 r1 h4⟩
    · rw [if_neg hz] at h1
      exact lgm_fail h1⟩
theorem mf_lst {es : List Expr} {f : FA} {pos : Pos} (h : MA X es f) : MF X (.List es pos) (fLst f) :=
  peM (pe_lst h) fun σ H Q ⟨m, ρ, μ, c, μ', h1, h2, h3, h4⟩ => by
    unfold fLst bnd at h3
    split at h3
    · rename_i ds μ1 e
      have h3' : (if ds.length ≤ 16777216 then (ret (.lst ds) : FE) else fail) ρ μ1 = some (c, μ') := h3
      clear h3
      by_cases hz : ds.length ≤ 16777216
      · rw [if_pos hz] at h3'
        cases h3'
        exact ⟨m, ρ, μ, ds, μ', h1, h2, e, fun xs H' m' e2 R r => ⟨size_le (by rw [r.length]; exact hz), alloc (c := .lst ds) e2 R ⟨xs, rfl, r⟩ h4⟩⟩
      · rw [if_neg hz] at h3'; cases h3'
    · cases h3
theorem mf_dnewK {pos : Pos} : MF X (.Dict [] [] pos) (ret (.dK [] [])) := peM pe_dnewK fun σ H Q ⟨m, ρ, μ, c, μ', h1, h2, h3, h4⟩ => by
  cases h3
  exact alloc (c := .dK [] []) Ext.refl h1 ⟨[], rfl, rfl, rfl⟩ h4
theorem mf_dnewT {pos : Pos} : MF X (.Dict [] [] pos) (ret (.dT [] [])) := peM pe_dnewT fun σ H Q ⟨m, ρ, μ, c, μ', h1, h2, h3, h4⟩ => by
  cases h3
  exact alloc (c := .dT [] []) Ext.refl h1 ⟨[], rfl, rfl, rfl⟩ h4
end

/-! ## tests -/
def truD : D → Option Bool
  | .non => some false
  | .bl b => some b
  | .int i => some (i != 0)
  | .str x => if x.length ≤ 16777216 then some ((x.length : Int) != 0) else none
  | .tup ds => some (!ds.isEmpty)
  | .lst ds => some (!ds.isEmpty)
  | _ => none
def fTru (f : FE) : FT := bnd f fun d _ μ => match truD (see μ d) with
  | some b => some (b, μ)
  | none => none
theorem DVs.isEmpty {K : PySem.W.Frag} {m : Ms} {H : Hp} {ds : List D} {xs : List V} (h : DVs K m H ds xs) : xs.isEmpty = ds.isEmpty := by
  cases ds with
  | nil => rw [show xs = [] from h]; rfl
  | cons d ds => obtain ⟨x, xs, rfl, _⟩ := h; rfl
def fIf {α : Type} (t : FT) (a b : FX α) : FX α := bnd t fun c => match c with
  | true => a
  | false => b
def fAnd (a b : FT) : FT := fIf a b (ret false)
def fOr (a b : FT) : FT := fIf a (ret true) b
def fNot (a : FT) : FT := bnd a fun c => ret (!c)
section
variable {X : Cx}
theorem mt_tru {e : Expr} {f : FE} (h : ME X e f) (he : ∀ whole, isTrue e X.env whole = (do let v ← whole; standAt e.pos; holding [v] (truthy v)) := by intro _; rfl) : MT X e (fTru f) :=
  ptM (pt_truth h he) fun σ H Q ⟨m, h⟩ => ⟨m, (lgm_bnd (R := rE X.K) h).mono fun x H1 ⟨d, m1, e1, r1, ρ, μ, b, μ', h1, h2, h3, h4⟩ => by
    have sv := see_ok h1 r1
    dsimp only at h3
    split at h3
    · rename_i b' hb
      cases h3
      refine ⟨b, ?_, h4 b H1 m1 Ext.refl h1 rfl⟩
      cases hd : see μ d with
      | non => rw [hd] at sv hb; cases hb; rw [show x = .non from sv]; exact rfl
      | bl k => rw [hd] at sv hb; cases hb; rw [show x = .bl b from sv]; exact rfl
      | int i => rw [hd] at sv hb; cases hb; rw [show x = .int i from sv]; exact rfl
      | str y =>
        rw [hd] at sv hb; rw [show x = .str y from sv]
        simp only [truD] at hb
        split at hb
        · rename_i hz
          cases hb
          exact ⟨size_le hz, rfl⟩
        · cases hb
      | tup ds => rw [hd] at sv hb; cases hb; obtain ⟨a, xs, rfl, hq, r⟩ := sv; exact .inr (.inl ⟨xs, .inl (.inl hq), by rw [r.isEmpty]⟩)
      | lst ds => rw [hd] at sv hb; cases hb; obtain ⟨a, xs, rfl, hq, r⟩ := sv; exact .inl ⟨xs, .inl hq, by rw [r.isEmpty]⟩
      | _ => rw [hd] at hb; cases hb
    · cases h3⟩
theorem lg_if {K : PySem.W.Frag} {m : Ms} {σ : L2.St} {H : Hp} {α β : Type} {R : Ms → Hp → α → β → Prop} {Q : β → Hp → Prop} {t : FT} {a b : FX α} (h : lgm R K m (fIf t a b) σ H Q) :
    lgm rT K m t σ H fun c H1 => if c = true then lg R K a σ H1 Q else lg R K b σ H1 Q :=
  (lgm_bnd (R := rT) h).mono fun c H1 ⟨a', m1, e1, r1, h1⟩ => by
    cases r1
    cases c with
    | true => exact ⟨m1, h1⟩
    | false => exact ⟨m1, h1⟩
theorem me_if {c a b : Expr} {t : FT} {fa fb : FE} {pos : Pos} (hc : MT X c t) (ha : ME X a fa) (hb : ME X b fb) : ME X (.IfExp c a b pos) (fIf t fa fb) :=
  peM (pe_ifExp hc ha hb) fun σ H Q ⟨m, h⟩ => ⟨m, lg_if h⟩
theorem mw_and {a b : Expr} {rest : List Expr} {fa fb : FT} {pos : Pos} (ha : MT X a fa) (hb : MW X (.BoolOp .And (b :: rest) pos) fb) : MW X (.BoolOp .And (a :: b :: rest) pos) (fAnd fa fb) :=
  pwM (pw_and ha hb) fun σ H Q ⟨m, h⟩ => ⟨m, (lg_if h).mono fun c H1 q => by
    cases c with
    | true => exact q
    | false =>
      obtain ⟨m1, q⟩ := q
      obtain ⟨μ, h3, h4⟩ := lgm_ret q
      exact h4 _ H1 m1 Ext.refl h3 rfl⟩
theorem mw_or {a b : Expr} {rest : List Expr} {fa fb : FT} {pos : Pos} (ha : MT X a fa) (hb : MW X (.BoolOp .Or (b :: rest) pos) fb) : MW X (.BoolOp .Or (a :: b :: rest) pos) (fOr fa fb) :=
  pwM (pw_or ha hb) fun σ H Q ⟨m, h⟩ => ⟨m, (lg_if h).mono fun c H1 q => by
    cases c with
    | false => exact q
    | true =>
      obtain ⟨m1, q⟩ := q
      obtain ⟨μ, h3, h4⟩ := lgm_ret q
      exact h4 _ H1 m1 Ext.refl h3 rfl⟩
theorem mw_and1 {a : Expr} {fa : FT} {pos : Pos} (ha : MT X a fa) : MW X (.BoolOp .And [a] pos) fa := pw_and1 ha
theorem mw_or1 {a : Expr} {fa : FT} {pos : Pos} (ha : MT X a fa) : MW X (.BoolOp .Or [a] pos) fa := pw_or1 ha
theorem mt_not {a : Expr} {fa : FT} {pos : Pos} (ha : MT X a fa) : MT X (.UnaryOp .Not a pos) (fNot fa) :=
  ptM (pt_not ha) fun σ H Q ⟨m, h⟩ => ⟨m, (lgm_bnd (R := rT) h).mono fun c H1 ⟨a', m1, e1, r1, h1⟩ => by
    cases r1
    obtain ⟨μ, h3, h4⟩ := lgm_ret h1
    exact h4 _ H1 m1 Ext.refl h3 rfl⟩
/-- and, or, not as values of bools -/
def fAndV (a b : FE) : FE := fIf (fB a) b (ret (.bl false))
def fOrV (a b : FE) : FE := fIf (fB a) (ret (.bl true)) b
def fNotV (a : FE) : FE := bnd (fB a) fun c => ret (.bl (!c))
theorem lB_if {K : PySem.W.Frag} {m : Ms} {σ : L2.St} {H : Hp} {Q : VK} {f a b : FE} (h : lgm (rE K) K m (fIf (fB f) a b) σ H Q) :
    lE K f σ H fun x H1 => ∃ c, x = .bl c ∧ if c = true then lE K a σ H1 Q else lE K b σ H1 Q :=
  lT_B (K := K) (f := f) (t := lE K f) (fun _ _ _ z => z) σ H _ ⟨m, lg_if h⟩
theorem me_and1 {a : Expr} {op} {fa : FE} {pos : Pos} (ha : ME X a fa) : ME X (.BoolOp op [a] pos) fa := pe_one ha
theorem me_andV {a b : Expr} {rest : List Expr} {fa fb : FE} {pos : Pos} (ha : ME X a fa) (hb : ME X (.BoolOp .And (b :: rest) pos) fb) : ME X (.BoolOp .And (a :: b :: rest) pos) (fAndV fa fb) :=
  peM (pe_and ha hb) fun σ H Q ⟨m, h⟩ => by
    obtain ⟨m', q⟩ := lB_if h
    refine ⟨m', q.mono fun x H1 ⟨c, e, q1⟩ => ⟨c, e, ?_⟩⟩
    cases c with
    | true => exact q1
    | false =>
      obtain ⟨m1, q1⟩ := q1
      obtain ⟨μ, h3, h4⟩ := lgm_ret q1
      exact h4 _ H1 m1 Ext.refl h3 rfl
theorem me_orV {a b : Expr} {rest : List Expr} {fa fb : FE} {pos : Pos} (ha : ME X a fa) (hb : ME X (.BoolOp .Or (b :: rest) pos) fb) : ME X (.BoolOp .Or (a :: b :: rest) pos) (fOrV fa fb) :=
  peM (pe_or ha hb) fun σ H Q ⟨m, h⟩ => by
    obtain ⟨m', q⟩ := lB_if h
    refine ⟨m', q.mono fun x H1 ⟨c, e, q1⟩ => ⟨c, e, ?_⟩⟩
    cases c with
    | false => exact q1
    | true =>
      obtain ⟨m1, q1⟩ := q1
      obtain ⟨μ, h3, h4⟩ := lgm_ret q1
      exact h4 _ H1 m1 Ext.refl h3 rfl
theorem me_notV {a : Expr} {fa : FE} {pos : Pos} (ha : ME X a fa) : ME X (.UnaryOp .Not a pos) (fNotV fa) :=
  peM (pe_not ha) fun σ H Q ⟨m, h⟩ => by
    refine lT_B (K := X.K) (f := fa) (t := lE X.K fa) (fun _ _ _ z => z) σ H _ ⟨m, (lgm_bnd (R := rT) h).mono fun c H1 ⟨a', m1, e1, r1, h1⟩ => ?_⟩
    cases r1
    obtain ⟨μ, h3, h4⟩ := lgm_ret h1
    exact h4 _ H1 m1 Ext.refl h3 rfl
/-- a op b op' c -/
def fChain (g g' : D → D → Mem → Option (D × Mem)) (fa fb fc : FE) : FE :=
  bnd fa fun a => bnd fb fun b => bnd (fun _ μ => g a b μ) fun k => match k with
    | .bl true => bnd fc fun c => fun _ μ => g' b c μ
    | .bl false => ret (.bl false)
    | _ => fail
theorem me_chain {op op' : CmpOp} {r r' : R2} {g g' : D → D → Mem → Option (D × Mem)} {a b c : Expr} {fa fb fc : FE} {pos : Pos} (ho : OpR X (compareOp op) r) (ho' : OpR X (compareOp op') r') (s : Snd2 X.K r g) (s' : Snd2 X.K r' g')
    (ha : ME X a fa) (hb : ME X b fb) (hc : ME X c fc) (hm : lastMarks [op, op'] [b, c] = false := by with_unfolding_all rfl) : ME X (.Compare a [op, op'] [b, c] pos) (fChain g g' fa fb fc) :=
  peM (pe_chain ho ho' ha hb hc hm) fun σ H Q ⟨m, h⟩ => by
    refine ⟨m, (lgm_bnd (R := rE X.K) h).mono fun x H1 ⟨d, m1, e1, r1, h1⟩ => ⟨m1, (lgm_bnd (R := rE X.K) h1).mono fun y H2 ⟨e, m2, e2, r2, h2⟩ => ?_⟩⟩
    obtain ⟨ρ, μ, dd, μ', h3, h4, h5, h6⟩ := h2
    unfold bnd at h5
    split at h5
    · rename_i k μ1 hk
      refine s m2 H2 μ x y d e k μ1 _ h3 (DV.ext e2 r1) r2 hk fun v H3 m3 e3 R3 dv => ?_
      cases k with
      | bl kb =>
        refine ⟨kb, dv, ?_⟩
        cases kb with
        | true =>
          refine ⟨m3, ?_⟩
          have h7 : lgm (rE X.K) X.K m3 (bnd fc fun c => fun _ μ => g' e c μ) σ H3 Q := ⟨ρ, μ1, dd, μ', R3, h4.ext e3, h5, fun b H' m' x => h6 b H' m' (e3.trans x)⟩
          refine (lgm_bnd (R := rE X.K) h7).mono fun z H4 ⟨f, m4, e4, r4, h8⟩ => ?_
          obtain ⟨ρ', μ2, d2, μ2', h9, h10, h11, h12⟩ := h8
          exact s' m4 H4 μ2 y z e f d2 μ2' Q h9 (DV.ext (e3.trans e4) r2) r4 h11 h12
        | false =>
          cases h5
          exact h6 _ H3 m3 e3 R3 rfl
      | _ => cases h5
    · cases h5
theorem me_lele {a b c : Expr} {fa fb fc : FE} {pos : Pos} (ha : ME X a fa) (hb : ME X b fb) (hc : ME X c fc) (hm : lastMarks [.LtE, .LtE] [b, c] = false := by with_unfolding_all rfl) : ME X (.Compare a [.LtE, .LtE] [b, c] pos) (fChain gLe gLe fa fb fc) :=
  me_chain op_le op_le (snd_i2 fun _ _ _ _ _ => Iff.rfl) (snd_i2 fun _ _ _ _ _ => Iff.rfl) ha hb hc hm
theorem me_lelt {a b c : Expr} {fa fb fc : FE} {pos : Pos} (ha : ME X a fa) (hb : ME X b fb) (hc : ME X c fc) (hm : lastMarks [.LtE, .Lt] [b, c] = false := by with_unfolding_all rfl) : ME X (.Compare a [.LtE, .Lt] [b, c] pos) (fChain gLe gLt fa fb fc) :=
  me_chain op_le op_lt (snd_i2 fun _ _ _ _ _ => Iff.rfl) (snd_i2 fun _ _ _ _ _ => Iff.rfl) ha hb hc hm
/-- minus -/
def fNeg (a : FE) : FE := bnd a fun d => match d with
  | .int i => ret (.int (-i))
  | _ => fail
theorem me_neg {a : Expr} {fa : FE} {pos : Pos} (ha : ME X a fa) : ME X (.UnaryOp .USub a pos) (fNeg fa) :=
  peM (pe_un un_neg ha) fun σ H Q ⟨m, h⟩ => ⟨m, (lgm_bnd (R := rE X.K) h).mono fun x H1 ⟨d, m1, e1, r1, h1⟩ => by
    cases d with
    | int i =>
      obtain ⟨μ, h3, h4⟩ := lgm_ret h1
      exact ⟨i, r1, h4 _ H1 m1 Ext.refl h3 rfl⟩
    | _ => exact lgm_fail h1⟩
end

/-! ## calls -/
/-- what a def does: the arguments and memory, the answer and memory -/
abbrev FF := List D → Mem → Option (D × Mem)
def spF (K : PySem.W.Frag) (F : FF) : Sp := fun vs H Q _ => ∃ m μ ds d μ', Rel K m H μ ∧ DVs K m H ds vs ∧ F ds μ = some (d, μ') ∧
  ∀ v H' m', Ext m H m' H' → Rel K m' H' μ' → DV K m' H' d v → Q v H'
def fCall (F : FF) (fa : FA) : FE := bnd fa fun ds => fun _ μ => F ds μ
/-- by values, of a list of arguments -/
def SndN (K : PySem.W.Frag) (r : List V → Hp → VK → Prop) (g : FF) : Prop :=
  ∀ (m : Ms) (H : Hp) (μ : Mem) (vs : List V) (ds : List D) (d : D) (μ' : Mem) (Q : VK), Rel K m H μ → DVs K m H ds vs → g ds μ = some (d, μ') →
    (∀ v H' m', Ext m H m' H' → Rel K m' H' μ' → DV K m' H' d v → Q v H') → r vs H Q
def SndNF (K : PySem.W.Frag) (r : List V → Hp → VK → Prop) (g : FF) : Prop :=
  ∀ (m : Ms) (H : Hp) (μ : Mem) (vs : List V) (ds : List D) (d : D) (μ' : Mem) (Q : VK), Rel K m H μ → DVs K m H ds vs → g ds μ = some (d, μ') →
    (∀ p H' m' o, Ext m H m' H' → Rel K (m'.hide p) H' μ' → H p = none → m'.no p → H' p = some o → HV K (m'.hide p) H' d o → Q (.ref p) H') → r vs H Q
section
variable {X : Cx}
theorem lE_call {K : PySem.W.Frag} {g : FF} {r : List V → Hp → VK → Prop} {fa : FA} (s : SndN K r g) : ∀ σ H Q, lE K (fCall g fa) σ H Q → lA K fa σ H fun vs H1 => r vs H1 Q := fun σ H Q ⟨m, h⟩ =>
  ⟨m, (lgm_bnd (R := rA K) h).mono fun vs H1 ⟨ds, m1, e1, r1, ρ, μ, d, μ', h3, h4, h5, h6⟩ => s m1 H1 μ vs ds d μ' Q h3 r1 h5 h6⟩
theorem lF_call {K : PySem.W.Frag} {g : FF} {r : List V → Hp → VK → Prop} {fa : FA} (s : SndNF K r g) : ∀ σ H Q, lF K (fCall g fa) σ H Q → lA K fa σ H fun vs H1 => r vs H1 Q := fun σ H Q ⟨m, ρ, μ, c, μ', h1, h2, h3, h4⟩ => by
  unfold fCall bnd at h3
  split at h3
  · rename_i ds μ1 e
    refine ⟨m, ρ, μ, ds, μ1, h1, h2, e, fun vs H1 m1 e1 R1 r1 => ?_⟩
    exact s m1 H1 μ1 vs ds c μ' Q R1 r1 h3 fun p H' m' o e2 R hn => h4 p H' m' o (e1.trans e2) R (e1.free hn)
  · cases h3
theorem me_call {k : Nat} {f : Addr} {fd : FuncData} {ps : List Str} {F : FF} {x : Str} {p pos : Pos} {e : Expr} {es : List Expr} {fa : FA} (G : FnOk X.prog X.w X.K X.mg X.base CX0 k f fd ps (spF X.K F)) (hr : Room k X.A) (hg : Gl X x) (hm : X.mg x = some (.ref f))
    (hk : PySem.W.keepIn X.K (.ref f) = true) (hb : Binds X.K fd ps []) (ha : MA X (e :: es) fa) (hdb : (x == ("__debug__" : Str)) = false := by decide) (he : starEach (e :: es) X.env = (false, eval e X.env) :: starEach es X.env := by rfl)
    (hpl : (backTo pos (starEach es X.env)).any (·.1) = false := by rfl) : ME X (.Call (.Name x p) (e :: es) [] pos) (fCall F fa) :=
  peM (pe_call G hr hg hm hk hb .nil pass0 ha hdb he hpl) fun σ H Q h => by
    have q := lE_call (K := X.K) (g := F) (r := fun vs H1 Q => spF X.K F vs H1 Q E0) (fun m H μ vs ds d μ' Q R r h q => ⟨m, μ, ds, d, μ', R, r, h, q⟩) σ H Q h
    obtain ⟨m, q⟩ := q
    exact ⟨m, q.mono fun vs H1 z => by rw [List.append_nil]; exact z⟩
theorem me_callB {r : List V → Hp → VK → Prop} {g : FF} {id : String} {x : Str} {p pos : Pos} {e : Expr} {es : List Expr} {fa : FA} (hc : CallR X (.builtin id) r) (s : SndN X.K r g) (hg : Gl X x) (hm : X.mg x = none) (hv : bootBuiltins x = some (.builtin id)) (ha : MA X (e :: es) fa)
    (hn : x ≠ "__name__" := by decide) (hdb : (x == ("__debug__" : Str)) = false := by decide) (he : starEach (e :: es) X.env = (false, eval e X.env) :: starEach es X.env := by rfl)
    (hpl : (backTo pos (starEach es X.env)).any (·.1) = false := by rfl) : ME X (.Call (.Name x p) (e :: es) [] pos) (fCall g fa) := peM (pe_callB hc hg hm hv ha hn hdb he hpl) (lE_call s)
theorem mf_callB {r : List V → Hp → VK → Prop} {g : FF} {id : String} {x : Str} {p pos : Pos} {e : Expr} {es : List Expr} {fa : FA} (hc : CallR X (.builtin id) r) (s : SndNF X.K r g) (hg : Gl X x) (hm : X.mg x = none) (hv : bootBuiltins x = some (.builtin id)) (ha : MA X (e :: es) fa)
    (hn : x ≠ "__name__" := by decide) (hdb : (x == ("__debug__" : Str)) = false := by decide) (he : starEach (e :: es) X.env = (false, eval e X.env) :: starEach es X.env := by rfl)
    (hpl : (backTo pos (starEach es X.env)).any (·.1) = false := by rfl) : MF X (.Call (.Name x p) (e :: es) [] pos) (fCall g fa) := peM (pe_callB hc hg hm hv ha hn hdb he hpl) (lF_call s)
theorem me_callT {r : List V → Hp → VK → Prop} {g : FF} {T : String} {x : Str} {p pos : Pos} {e : Expr} {es : List Expr} {fa : FA} (hc : CallR X (.type T) r) (s : SndN X.K r g) (hg : Gl X x) (hm : X.mg x = none) (hv : bootBuiltins x = some (.type T)) (ha : MA X (e :: es) fa)
    (hn : x ≠ "__name__" := by decide) (hdb : (x == ("__debug__" : Str)) = false := by decide) (he : starEach (e :: es) X.env = (false, eval e X.env) :: starEach es X.env := by rfl)
    (hpl : (backTo pos (starEach es X.env)).any (·.1) = false := by rfl) : ME X (.Call (.Name x p) (e :: es) [] pos) (fCall g fa) := peM (pe_callTy hc hg hm hv ha hn hdb he hpl) (lE_call s)
theorem mf_callT {r : List V → Hp → VK → Prop} {g : FF} {T : String} {x : Str} {p pos : Pos} {e : Expr} {es : List Expr} {fa : FA} (hc : CallR X (.type T) r) (s : SndNF X.K r g) (hg : Gl X x) (hm : X.mg x = none) (hv : bootBuiltins x = some (.type T)) (ha : MA X (e :: es) fa)
    (hn : x ≠ "__name__" := by decide) (hdb : (x == ("__debug__" : Str)) = false := by decide) (he : starEach (e :: es) X.env = (false, eval e X.env) :: starEach es X.env := by rfl)
    (hpl : (backTo pos (starEach es X.env)).any (·.1) = false := by rfl) : MF X (.Call (.Name x p) (e :: es) [] pos) (fCall g fa) := peM (pe_callTy hc hg hm hv ha hn hdb he hpl) (lF_call s)
end
end Mi
namespace Mi
open PySem PySem.Spec PyProof.Rows L2

/-! ## ways to choose by what is there -/
def orG (g g' : D → D → Mem → Option (D × Mem)) : D → D → Mem → Option (D × Mem) := fun a b μ => match g a b μ with
  | some r => some r
  | none => g' a b μ
theorem Snd2.or {K : PySem.W.Frag} {r r' : R2} {g g' : D → D → Mem → Option (D × Mem)} (h : Snd2 K r g) (h' : Snd2 K r' g') : Snd2 K (fun x y H Q => r x y H Q ∨ r' x y H Q) (orG g g') := by
  intro m H μ x y d e r0 μ' Q R hx hy hg q
  unfold orG at hg
  split at hg
  · rename_i z hz
    exact .inl (h m H μ x y d e r0 μ' Q R hx hy (hz.trans hg) q)
  · exact .inr (h' m H μ x y d e r0 μ' Q R hx hy hg q)
theorem lE_or {K : PySem.W.Frag} {g g' : D → D → Mem → Option (D × Mem)} {fa fb : FE} {σ : L2.St} {H : Hp} {Q : VK} (h : lE K (fBin (orG g g') fa fb) σ H Q) : lE K (fBin g fa fb) σ H Q ∨ lE K (fBin g' fa fb) σ H Q := by
  obtain ⟨m, ρ, μ, d, μ', h1, h2, h3, h4⟩ := h
  unfold fBin bnd at h3
  split at h3
  · rename_i a μ1 ea
    dsimp only at h3
    split at h3
    · rename_i b μ2 eb
      unfold orG at h3
      split at h3
      · rename_i z hz
        exact .inl ⟨m, ρ, μ, d, μ', h1, h2, by simp only [fBin, bnd, ea, eb, hz, h3], h4⟩
      · exact .inr ⟨m, ρ, μ, d, μ', h1, h2, by simp only [fBin, bnd, ea, eb, h3], h4⟩
    · cases h3
  · cases h3
theorem pe_or2 {X : Cx} {e : Expr} {t t' : TE} (h : PE X e t) (h' : PE X e t') : PE X e (fun σ H Q => t σ H Q ∨ t' σ H Q) :=
  ⟨fun pins s σ H Q I q => q.elim (h.run pins s σ H Q I) (h'.run pins s σ H Q I)⟩
theorem pt_or2 {X : Cx} {e : Expr} {t t' : TT} (h : PT X e t) (h' : PT X e t') : PT X e (fun σ H Q => t σ H Q ∨ t' σ H Q) :=
  ⟨fun pins s σ H Q I q => q.elim (h.run pins s σ H Q I) (h'.run pins s σ H Q I)⟩

/-! ## one argument -/
theorem DVs.one' {K : PySem.W.Frag} {m : Ms} {H : Hp} {d : D} {vs : List V} (h : DVs K m H [d] vs) : ∃ v, vs = [v] ∧ DV K m H d v := by
  obtain ⟨x, xs, rfl, h1, h2⟩ := h
  rw [show xs = [] from h2]
  exact ⟨x, rfl, h1⟩
theorem DVs.two' {K : PySem.W.Frag} {m : Ms} {H : Hp} {d e : D} {vs : List V} (h : DVs K m H [d, e] vs) : ∃ v u, vs = [v, u] ∧ DV K m H d v ∧ DV K m H e u := by
  obtain ⟨x, xs, rfl, h1, h2⟩ := h
  obtain ⟨y, rfl, h3⟩ := DVs.one' h2
  exact ⟨x, y, rfl, h1, h3⟩
def g1 (g : D → Option D) : FF
  | [a], μ => match g (see μ a) with
    | some d => some (d, μ)
    | none => none
  | _, _ => none
theorem SndN.one {K : PySem.W.Frag} {r : List V → Hp → VK → Prop} {g : D → Option D} (h : ∀ m H μ x d r' (Q : VK), Rel K m H μ → SV K m H d x → g d = some r' → (∀ v, DV K m H r' v → Q v H) → r [x] H Q) : SndN K r (g1 g) := by
  intro m H μ vs ds d μ' Q R hv hg q
  unfold g1 at hg
  split at hg
  · rename_i a
    split at hg
    · rename_i d' e
      cases hg
      obtain ⟨x, rfl, hx⟩ := DVs.one' hv
      exact h m H μ x _ _ Q R (see_ok R hx) e fun v hv => q v H m Ext.refl R hv
    · cases hg
  · cases hg
theorem SndNF.one {K : PySem.W.Frag} {r : List V → Hp → VK → Prop} {g : D → Option D} (h : ∀ m H μ x d r' (Q : VK), Rel K m H μ → SV K m H d x → g d = some r' → (∀ o, HV K m H r' o → ∀ p, H p = none → Q (.ref p) (upd H p o)) → r [x] H Q) : SndNF K r (g1 g) := by
  intro m H μ vs ds d μ' Q R hv hg q
  unfold g1 at hg
  split at hg
  · rename_i a
    split at hg
    · rename_i d' e
      cases hg
      obtain ⟨x, rfl, hx⟩ := DVs.one' hv
      exact h m H μ x _ _ Q R (see_ok R hx) e fun o ho => alloc Ext.refl R ho q
    · cases hg
  · cases hg

/-! ## ints of a list -/
def intsOf : List D → Option (List Int)
  | [] => some []
  | .int i :: ds => match intsOf ds with
    | some l => some (i :: l)
    | none => none
  | _ :: _ => none
theorem intsOf_map (ns : List Int) : intsOf (ns.map D.int) = some ns := by
  induction ns with
  | nil => rfl
  | cons n r ih => simp only [List.map_cons, intsOf, ih]
theorem intsOf_ok : ∀ {ds : List D} {ns : List Int}, intsOf ds = some ns → ds = ns.map D.int
  | [], ns, h => by cases h; rfl
  | d :: ds, ns, h => by
    cases d <;> first | (simp only [intsOf] at h; cases h; done) | skip
    simp only [intsOf] at h
    split at h
    · rename_i l e
      cases h
      rw [intsOf_ok e]; rfl
    · cases h
theorem DVs.ints {K : PySem.W.Frag} {m : Ms} {H : Hp} : ∀ {ns : List Int} {xs : List V}, DVs K m H (ns.map D.int) xs → xs = ns.map V.int
  | [], xs, h => h
  | n :: ns, xs, h => by
    obtain ⟨x, xs, rfl, h1, h2⟩ := h
    rw [show x = .int n from h1, DVs.ints h2]; rfl
theorem ints_DVs {K : PySem.W.Frag} {m : Ms} {H : Hp} : ∀ (ns : List Int), DVs K m H (ns.map D.int) (ns.map V.int)
  | [] => rfl
  | n :: ns => ⟨_, _, rfl, rfl, ints_DVs ns⟩
/-- in order -/
def srt (ns : List Int) : List Int := ns.mergeSort (fun a b => decide (a ≤ b))
theorem srt_perm (ns : List Int) : (srt ns).Perm ns := List.mergeSort_perm ns _
theorem srt_le (ns : List Int) : (srt ns).Pairwise (· ≤ ·) := by
  have h := List.pairwise_mergeSort (le := fun a b : Int => decide (a ≤ b)) (fun a b c => by simp; omega) (fun a b => by simp; omega) ns
  exact h.imp fun x => by simpa using x
theorem srt_eq {ns ms : List Int} (h : ms.Perm ns) (hs : ms.Pairwise (· ≤ ·)) : ms = srt ns :=
  PySem.W.ksm_same (h.trans (srt_perm ns).symm) hs (srt_le ns)

/-! ## built-ins -/
def dLen : D → Option D
  | .tup ds => some (.int ds.length)
  | .lst ds => some (.int ds.length)
  | .str x => if x.length ≤ 16777216 then some (.int x.length) else none
  | _ => none
def dInt : D → Option D
  | .int i => some (.int i)
  | .bl b => some (.int (if b then 1 else 0))
  | _ => none
def gMax2 : FF
  | [.int i, .int j], μ => some (.int (if j > i then j else i), μ)
  | _, _ => none
def gMin2 : FF
  | [.int i, .int j], μ => some (.int (if j < i then j else i), μ)
  | _, _ => none
def dSum : D → Option D
  | .lst ds => match intsOf ds with
    | some ns => some (.int ns.sum)
    | none => none
  | _ => none
def dMax : D → Option D
  | .lst ds => match intsOf ds with
    | some (n :: ns) => some (.int (ns.foldl max n))
    | _ => none
  | _ => none
def dMin : D → Option D
  | .lst ds => match intsOf ds with
    | some (n :: ns) => some (.int (ns.foldl min n))
    | _ => none
  | _ => none
def dTuple : FF
  | [a], μ => match a with
    | .tup ds => some (.tup ds, μ)
    | _ => match see μ a with
      | .lst ds => some (.tup ds, μ)
      | _ => none
  | _, _ => none
def dList : D → Option D
  | .tup ds => some (.lst ds)
  | .lst ds => some (.lst ds)
  | _ => none
def keysI : List Key → Option (List Int)
  | [] => some []
  | .inl i :: ks => match keysI ks with
    | some l => some (i :: l)
    | none => none
  | _ :: _ => none
theorem keysI_ok : ∀ {ks : List Key} {ns : List Int}, keysI ks = some ns → ks = ns.map Sum.inl
  | [], ns, h => by cases h; rfl
  | k :: ks, ns, h => by
    cases k with
    | inl i =>
      simp only [keysI] at h
      split at h
      · rename_i l e
        cases h
        rw [keysI_ok e]; rfl
      · cases h
    | inr x => simp only [keysI] at h; cases h
theorem keysI_map (ns : List Int) : keysI (ns.map Sum.inl) = some ns := by
  induction ns with
  | nil => rfl
  | cons n r ih => simp only [List.map_cons, keysI, ih]
/-- sorted of ints; of a dict's int keys -/
def dSorted : D → Option D
  | .lst ds => match intsOf ds with
    | some ns => some (.lst ((srt ns).map D.int))
    | none => none
  | .dK ks _ => match keysI ks with
    | some ns => if ns.length < 64 then some (.lst ((srt ns).map D.int)) else none
    | none => none
  | _ => none
def rSortedAny (K : PySem.W.Frag) : List V → Hp → VK → Prop := fun vs H Q => rSortedI K vs H Q ∨ ∃ (a : Addr) (kvs : List (Key × V)) (ks : List Int), vs = [.ref a] ∧ Rd H a (.dK kvs) ∧ kvs.map (·.1) = ks.map Sum.inl ∧ ks.length < 64 ∧
    ∀ (ys : List Int) (p : Addr), ys.Perm ks → ys.Pairwise (· ≤ ·) → H p = none → Q (.ref p) (upd H p (.lst (ys.map V.int)))
/-- the type's name -/
def tyD : D → Option String
  | .non => some "NoneType"
  | .bl _ => some "bool"
  | .int _ => some "int"
  | .str _ => some "str"
  | .tup _ => some "tuple"
  | .lst _ => some "list"
  | .dK _ _ => some "dict"
  | _ => none
section
variable {X : Cx}
theorem CallR.or {f : Value} {r r' : List V → Hp → VK → Prop} (h : CallR X f r) (h' : CallR X f r') : CallR X f (fun vs H Q => r vs H Q ∨ r' vs H Q) := by
  intro pins s σ H xs us Q I rv q
  rcases q with q | q
  · exact h pins s σ H xs us Q I rv q
  · exact h' pins s σ H xs us Q I rv q
variable {x : Str} {p pos : Pos} {e : Expr} {es : List Expr} {fa : FA}
theorem me_len (hg : Gl X "len") (hm : X.mg "len" = none) (ha : MA X [e] fa) (he : starEach [e] X.env = (false, eval e X.env) :: starEach [] X.env := by rfl) (hpl : (backTo pos (starEach [] X.env)).any (·.1) = false := by rfl) :
    ME X (.Call (.Name "len" p) [e] [] pos) (fCall (g1 dLen) fa) :=
  me_callB call_len (SndN.one fun m H μ x d r' Q R hx h q => by
    cases d with
    | tup ds => cases h; obtain ⟨a, xs, rfl, hq, r⟩ := hx; exact ⟨_, xs.length, rfl, .inr ⟨xs, .inl (.inl hq), rfl⟩, by rw [r.length]; exact q _ rfl⟩
    | lst ds => cases h; obtain ⟨a, xs, rfl, hq, r⟩ := hx; exact ⟨_, xs.length, rfl, .inl ⟨xs, .inl hq, rfl⟩, by rw [r.length]; exact q _ rfl⟩
    | str y =>
      simp only [dLen] at h
      split at h
      · rename_i hz
        cases h
        rw [show x = .str y from hx]
        exact ⟨_, y.length, rfl, ⟨size_le hz, rfl⟩, q _ rfl⟩
      · cases h
    | _ => cases h) hg hm PySem.boot_len ha (by decide) (by decide) he hpl
theorem me_int1 (hg : Gl X "int") (hm : X.mg "int" = none) (ha : MA X [e] fa) (he : starEach [e] X.env = (false, eval e X.env) :: starEach [] X.env := by rfl) (hpl : (backTo pos (starEach [] X.env)).any (·.1) = false := by rfl) :
    ME X (.Call (.Name "int" p) [e] [] pos) (fCall (g1 dInt) fa) :=
  me_callT call_int1 (SndN.one fun m H μ x d r' Q R hx h q => by
    cases d with
    | int i => cases h; rw [show x = .int i from hx]; exact .inl ⟨i, rfl, q _ rfl⟩
    | bl b => cases h; rw [show x = .bl b from hx]; exact .inr ⟨b, rfl, q _ rfl⟩
    | _ => cases h) hg hm (by decide +kernel) ha (by decide) (by decide) he hpl
theorem me_max2 {e' : Expr} (hc : X.calm = true) (hg : Gl X "max") (hm : X.mg "max" = none) (ha : MA X [e, e'] fa) (he : starEach [e, e'] X.env = (false, eval e X.env) :: starEach [e'] X.env := by rfl) (hpl : (backTo pos (starEach [e'] X.env)).any (·.1) = false := by rfl) :
    ME X (.Call (.Name "max" p) [e, e'] [] pos) (fCall gMax2 fa) :=
  me_callB (call_max2 hc) (fun m H μ vs ds d μ' Q R hv hg q => by
    unfold gMax2 at hg
    split at hg
    · rename_i i j
      cases hg
      obtain ⟨a, b, rfl, h1, h2⟩ := DVs.two' hv
      exact ⟨i, j, by rw [show a = .int i from h1, show b = .int j from h2], q _ H m Ext.refl R rfl⟩
    · cases hg) hg hm (by decide +kernel) ha (by decide) (by decide) he hpl
theorem me_min2 {e' : Expr} (hc : X.calm = true) (hg : Gl X "min") (hm : X.mg "min" = none) (ha : MA X [e, e'] fa) (he : starEach [e, e'] X.env = (false, eval e X.env) :: starEach [e'] X.env := by rfl) (hpl : (backTo pos (starEach [e'] X.env)).any (·.1) = false := by rfl) :
    ME X (.Call (.Name "min" p) [e, e'] [] pos) (fCall gMin2 fa) :=
  me_callB (call_min2 hc) (fun m H μ vs ds d μ' Q R hv hg q => by
    unfold gMin2 at hg
    split at hg
    · rename_i i j
      cases hg
      obtain ⟨a, b, rfl, h1, h2⟩ := DVs.two' hv
      exact ⟨i, j, by rw [show a = .int i from h1, show b = .int j from h2], q _ H m Ext.refl R rfl⟩
    · cases hg) hg hm (by decide +kernel) ha (by decide) (by decide) he hpl
theorem me_sum (hc : X.calm = true) (hg : Gl X "sum") (hm : X.mg "sum" = none) (ha : MA X [e] fa) (he : starEach [e] X.env = (false, eval e X.env) :: starEach [] X.env := by rfl) (hpl : (backTo pos (starEach [] X.env)).any (·.1) = false := by rfl) :
    ME X (.Call (.Name "sum" p) [e] [] pos) (fCall (g1 dSum) fa) :=
  me_callB (cr_sum hc) (SndN.one fun m H μ x d r' Q R hx h q => by
    cases d with
    | lst ds =>
      obtain ⟨a, xs, rfl, hq, r⟩ := hx
      simp only [dSum] at h
      split at h
      · rename_i ns hn
        cases h
        have e1 := intsOf_ok hn
        subst e1
        exact ⟨a, ns, rfl, by rw [← r.ints]; exact .inl hq, q _ rfl⟩
      · cases h
    | _ => cases h) hg hm (by decide +kernel) ha (by decide) (by decide) he hpl
theorem foldl_max_spec : ∀ (ns : List Int) (n : Int), (ns.foldl max n = n ∨ ns.foldl max n ∈ ns) ∧ n ≤ ns.foldl max n ∧ ∀ y ∈ ns, y ≤ ns.foldl max n
  | [], n => ⟨.inl rfl, Int.le_refl _, fun _ h => by cases h⟩
  | a :: r, n => by
    obtain ⟨h1, h2, h3⟩ := foldl_max_spec r (max n a)
    show (r.foldl max (max n a) = n ∨ _) ∧ n ≤ r.foldl max (max n a) ∧ _
    refine ⟨?_, by omega, fun y hy => ?_⟩
    · rcases h1 with h1 | h1
      · rcases Int.le_total n a with q | q
        · right; show r.foldl max (max n a) ∈ a :: r; rw [h1]; rw [Int.max_eq_right q]; exact List.mem_cons_self
        · left; rw [h1]; exact Int.max_eq_left q
      · exact .inr (List.mem_cons_of_mem _ h1)
    · rcases List.mem_cons.mp hy with rfl | hy
      · show y ≤ r.foldl max (max n y); omega
      · exact h3 y hy
theorem foldl_min_spec : ∀ (ns : List Int) (n : Int), (ns.foldl min n = n ∨ ns.foldl min n ∈ ns) ∧ ns.foldl min n ≤ n ∧ ∀ y ∈ ns, ns.foldl min n ≤ y
  | [], n => ⟨.inl rfl, Int.le_refl _, fun _ h => by cases h⟩
  | a :: r, n => by
    obtain ⟨h1, h2, h3⟩ := foldl_min_spec r (min n a)
    show (r.foldl min (min n a) = n ∨ _) ∧ r.foldl min (min n a) ≤ n ∧ _
    refine ⟨?_, by omega, fun y hy => ?_⟩
    · rcases h1 with h1 | h1
      · rcases Int.le_total n a with q | q
        · left; rw [h1]; exact Int.min_eq_left q
        · right; show r.foldl min (min n a) ∈ a :: r; rw [h1]; rw [Int.min_eq_right q]; exact List.mem_cons_self
      · exact .inr (List.mem_cons_of_mem _ h1)
    · rcases List.mem_cons.mp hy with rfl | hy
      · show r.foldl min (min n y) ≤ y; omega
      · exact h3 y hy
theorem me_max (hc : X.calm = true) (hg : Gl X "max") (hm : X.mg "max" = none) (ha : MA X [e] fa) (he : starEach [e] X.env = (false, eval e X.env) :: starEach [] X.env := by rfl) (hpl : (backTo pos (starEach [] X.env)).any (·.1) = false := by rfl) :
    ME X (.Call (.Name "max" p) [e] [] pos) (fCall (g1 dMax) fa) :=
  me_callB (cr_max hc) (SndN.one fun m H μ x d r' Q R hx h q => by
    cases d with
    | lst ds =>
      obtain ⟨a, xs, rfl, hq, r⟩ := hx
      simp only [dMax] at h
      split at h
      · rename_i n ns hn
        cases h
        have e1 := intsOf_ok hn
        subst e1
        refine ⟨a, n :: ns, rfl, by rw [← r.ints]; exact .inl hq, Nat.succ_pos _, fun z hz hle => ?_⟩
        obtain ⟨s1, s2, s3⟩ := foldl_max_spec ns n
        have e2 : z = ns.foldl max n := by
          have l1 : z ≤ ns.foldl max n := (List.mem_cons.mp hz).elim (fun q => by rw [q]; exact s2) (s3 z)
          have l2 : ns.foldl max n ≤ z := by
            rcases s1 with s1 | s1
            · rw [s1]; exact hle n List.mem_cons_self
            · exact hle _ (List.mem_cons_of_mem _ s1)
          omega
        rw [e2]
        exact q _ rfl
      · cases h
    | _ => cases h) hg hm (by decide +kernel) ha (by decide) (by decide) he hpl
theorem me_min (hc : X.calm = true) (hg : Gl X "min") (hm : X.mg "min" = none) (ha : MA X [e] fa) (he : starEach [e] X.env = (false, eval e X.env) :: starEach [] X.env := by rfl) (hpl : (backTo pos (starEach [] X.env)).any (·.1) = false := by rfl) :
    ME X (.Call (.Name "min" p) [e] [] pos) (fCall (g1 dMin) fa) :=
  me_callB (cr_min hc) (SndN.one fun m H μ x d r' Q R hx h q => by
    cases d with
    | lst ds =>
      obtain ⟨a, xs, rfl, hq, r⟩ := hx
      simp only [dMin] at h
      split at h
      · rename_i n ns hn
        cases h
        have e1 := intsOf_ok hn
        subst e1
        refine ⟨a, n :: ns, rfl, by rw [← r.ints]; exact .inl hq, Nat.succ_pos _, fun z hz hle => ?_⟩
        obtain ⟨s1, s2, s3⟩ := foldl_min_spec ns n
        have e2 : z = ns.foldl min n := by
          have l1 : ns.foldl min n ≤ z := (List.mem_cons.mp hz).elim (fun q => by rw [q]; exact s2) (s3 z)
          have l2 : z ≤ ns.foldl min n := by
            rcases s1 with s1 | s1
            · rw [s1]; exact hle n List.mem_cons_self
            · exact hle _ (List.mem_cons_of_mem _ s1)
          omega
        rw [e2]
        exact q _ rfl
      · cases h
    | _ => cases h) hg hm (by decide +kernel) ha (by decide) (by decide) he hpl
theorem me_tuple (hg : Gl X "tuple") (hm : X.mg "tuple" = none) (ha : MA X [e] fa) (he : starEach [e] X.env = (false, eval e X.env) :: starEach [] X.env := by rfl) (hpl : (backTo pos (starEach [] X.env)).any (·.1) = false := by rfl) :
    ME X (.Call (.Name "tuple" p) [e] [] pos) (fCall dTuple fa) :=
  me_callT call_tuple_of (fun m H μ vs ds d μ' Q R hv hg q => by
    unfold dTuple at hg
    split at hg
    · rename_i a
      obtain ⟨x, rfl, hx⟩ := DVs.one' hv
      split at hg
      · rename_i ds
        cases hg
        obtain ⟨b, xs, rfl, h1, h2⟩ := id hx
        exact ⟨b, xs, rfl, .inr ⟨h1.sq, q _ H m Ext.refl R hx⟩⟩
      · have sv := see_ok R hx
        split at hg
        · rename_i ds hd
          cases hg
          rw [hd] at sv
          obtain ⟨b, xs, rfl, h1, h2⟩ := sv
          exact ⟨b, xs, rfl, .inl ⟨.inl h1, allocT R h2 q⟩⟩
        · cases hg
    · cases hg) hg hm (by decide +kernel) ha (by decide) (by decide) he hpl
theorem mf_list (hg : Gl X "list") (hm : X.mg "list" = none) (ha : MA X [e] fa) (he : starEach [e] X.env = (false, eval e X.env) :: starEach [] X.env := by rfl) (hpl : (backTo pos (starEach [] X.env)).any (·.1) = false := by rfl) :
    MF X (.Call (.Name "list" p) [e] [] pos) (fCall (g1 dList) fa) :=
  mf_callT call_list_of (SndNF.one fun m H μ x d r' Q R hx h q => by
    cases d with
    | tup ds => cases h; obtain ⟨a, xs, rfl, hq, r⟩ := hx; exact ⟨a, xs, rfl, .inr (.inl (.inl hq)), q (.lst xs) ⟨xs, rfl, r⟩⟩
    | lst ds => cases h; obtain ⟨a, xs, rfl, hq, r⟩ := hx; exact ⟨a, xs, rfl, .inl (.inl hq), q (.lst xs) ⟨xs, rfl, r⟩⟩
    | _ => cases h) hg hm (by decide +kernel) ha (by decide) (by decide) he hpl
theorem mf_sorted (hc : X.calm = true) (hg : Gl X "sorted") (hm : X.mg "sorted" = none) (ha : MA X [e] fa) (he : starEach [e] X.env = (false, eval e X.env) :: starEach [] X.env := by rfl) (hpl : (backTo pos (starEach [] X.env)).any (·.1) = false := by rfl) :
    MF X (.Call (.Name "sorted" p) [e] [] pos) (fCall (g1 dSorted) fa) :=
  mf_callB (r := rSortedAny X.K) (CallR.or cr_sortedI (call_sortedDI hc)) (SndNF.one fun m H μ x d r' Q R hx h q => by
    cases d with
    | lst ds =>
      obtain ⟨a, xs, rfl, hq, r⟩ := hx
      simp only [dSorted] at h
      split at h
      · rename_i ns hn
        cases h
        have e1 := intsOf_ok hn
        subst e1
        refine .inl ⟨a, ns, rfl, by rw [← r.ints]; exact .inl hq, fun ns' p h1 h2 h3 => ?_⟩
        rw [srt_eq h1 h2]
        exact q (.lst ((srt ns).map V.int)) ⟨_, rfl, ints_DVs _⟩ p h3
      · cases h
    | dK ks ds =>
      obtain ⟨a, kvs, rfl, hq, hk, r⟩ := hx
      simp only [dSorted] at h
      split at h
      · rename_i ns hn
        split at h
        · rename_i hl
          cases h
          refine .inr ⟨a, kvs, ns, rfl, hq, hk.trans (keysI_ok hn), hl, fun ns' p h1 h2 h3 => ?_⟩
          rw [srt_eq h1 h2]
          exact q (.lst ((srt ns).map V.int)) ⟨_, rfl, ints_DVs _⟩ p h3
        · cases h
      · cases h
    | _ => cases h) hg hm (by decide +kernel) ha (by decide) (by decide) he hpl
end

/-! ## isinstance -/
def isiTab (t T : String) : Option Bool := kitB t T
def dIsi (T : String) : D → Option D := fun d => match tyD d with
  | some t => match kitB t T with
    | some b => some (.bl b)
    | none => none
  | none => none
def fIsi (T : String) (f : FE) : FE := bnd f fun d => fun _ μ => match dIsi T (see μ d) with
  | some d => some (d, μ)
  | none => none
theorem sv_ty {K : PySem.W.Frag} {m : Ms} {H : Hp} {d : D} {x : V} {t : String} (h : SV K m H d x) (e : tyD d = some t) : TyX K H x (.type t) := by
  cases d with
  | non => cases e; rw [show x = .non from h]; exact .base .non
  | bl b => cases e; rw [show x = .bl b from h]; exact .base (.bl b)
  | int b => cases e; rw [show x = .int b from h]; exact .base (.int b)
  | str b => cases e; rw [show x = .str b from h]; exact .base (.str b)
  | tup ds =>
    cases e
    obtain ⟨a, xs, rfl, hq, _⟩ := h
    exact .base (.tup hq)
  | lst ds =>
    cases e
    obtain ⟨a, xs, rfl, hq, _⟩ := h
    rcases hq with hq | ⟨o, hq⟩
    · exact .base (.lst hq)
    · exact .base (.frz hq)
  | dK ks ds =>
    cases e
    obtain ⟨a, xs, rfl, hq, _⟩ := h
    rcases hq with hq | ⟨o, hq⟩
    · exact .base (.dK hq)
    · exact .fDict hq
  | _ => cases e
section
variable {X : Cx} {p pos p2 : Pos} {e : Expr} {fa : FE}
theorem me_isi {T : Str} {Tn : String} (hg : Gl X "isinstance") (hm : X.mg "isinstance" = none) (ha : ME X e fa) (hgT : Gl X T) (hmT : X.mg T = none) (hvT : bootBuiltins T = some (.type Tn)) (hnT : T ≠ "__name__" := by decide) (hdT : (T == ("__debug__" : Str)) = false := by decide)
    (hs1 : starEach [e, .Name T p2] X.env = (false, eval e X.env) :: starEach [.Name T p2] X.env := by rfl) (hs2 : starEach [.Name T p2] X.env = (false, eval (.Name T p2) X.env) :: starEach [] X.env := by rfl)
    (hpl : (backTo pos (starEach [.Name T p2] X.env)).any (·.1) = false := by rfl) :
    ME X (.Call (.Name "isinstance" p) [e, .Name T p2] [] pos) (fIsi Tn fa) :=
  peM (pe_callB call_isi hg hm (by decide +kernel) (pa_cons ha (pa_cons (pe_bltn (v := .ty Tn) hgT hmT hvT rfl hnT hdT) pa_nil hs2) hs1) (by decide) (by decide) hs1 hpl) fun σ H Q ⟨m, h⟩ =>
    ⟨m, (lgm_bnd (R := rE X.K) h).mono fun x H1 ⟨d, m1, e1, r1, ρ, μ, dd, μ', h1, h2, h3, h4⟩ => by
      have sv := see_ok h1 r1
      dsimp only at h3
      split at h3
      · rename_i d' hd
        cases h3
        unfold dIsi at hd
        split at hd
        · rename_i t ht
          split at hd
          · rename_i b hb
            cases hd
            exact ⟨x, .ty Tn, .type t, .type Tn, b, rfl, .ty Tn, sv_ty sv ht, kit_ty hb, h4 _ H1 m1 Ext.refl h1 rfl⟩
          · cases hd
        · cases hd
      · cases h3⟩
end

/-! ## subscripts -/
def atD : D → D → Option D
  | .lst ds, .int i => atI ds i
  | .tup ds, .int i => atI ds i
  | .str z, .int i => if z.length ≤ 16777216 then (match atI z.cps.toList i with
    | some c => some (.str ⟨#[c]⟩)
    | none => none) else none
  | _, _ => none
def keyD : D → Option Key
  | .int i => some (.inl i)
  | .str x => some (.inr x)
  | _ => none
def keysD : List D → Option (List Key)
  | [] => some []
  | d :: ds => match keyD d, keysD ds with
    | some k, some ks => some (k :: ks)
    | _, _ => none
def dget {κ : Type} [DecidableEq κ] : List κ → List D → κ → Option D
  | k' :: ks, d :: ds, k => if k' = k then some d else dget ks ds k
  | _, _, _ => none
def drep {κ : Type} [DecidableEq κ] : List κ → List D → κ → D → List D
  | k' :: ks, d' :: ds, k, d => (if k' = k then d else d') :: drep ks ds k d
  | _, _, _, _ => []
def hasK {κ : Type} [DecidableEq κ] : List κ → κ → Bool
  | k' :: ks, k => decide (k' = k) || hasK ks k
  | [], _ => false
def dput {κ : Type} [DecidableEq κ] (ks : List κ) (ds : List D) (k : κ) (d : D) : List κ × List D :=
  if hasK ks k then (ks, drep ks ds k d) else (ks ++ [k], ds ++ [d])
/-- d[k] of a dict, if it is there; k in d -/
def lookD : D → D → Option (Option D)
  | .dK ks ds, k => match keyD k with
    | some k => some (dget ks ds k)
    | none => none
  | .dT ks ds, .tup k => match keysD k with
    | some k => some (dget ks ds k)
    | none => none
  | _, _ => none
theorem atI_DVs {K : PySem.W.Frag} {m : Ms} {H : Hp} {ds : List D} {xs : List V} {i : Int} {d : D} (h : DVs K m H ds xs) (e : atI ds i = some d) : ∃ v, atI xs i = some v ∧ DV K m H d v := by
  unfold atI at e ⊢
  rw [h.length]
  cases q : ixN ds.length i with
  | none => rw [q] at e; cases e
  | some j =>
    rw [q] at e
    exact h.get e
theorem keyD_ok {K : PySem.W.Frag} {m : Ms} {H : Hp} {d : D} {k : Key} {x : V} (e : keyD d = some k) (h : DV K m H d x) : x = kV k := by
  cases d <;> first | (cases e; done) | skip
  · cases e; exact h
  · cases e; exact h
theorem keysD_ok {K : PySem.W.Frag} {m : Ms} {H : Hp} : ∀ {ds : List D} {ks : List Key} {xs : List V}, keysD ds = some ks → DVs K m H ds xs → xs = ks.map kV
  | [], ks, xs, e, h => by cases e; exact h
  | d :: ds, ks, xs, e, h => by
    obtain ⟨x, xs, rfl, h1, h2⟩ := h
    simp only [keysD] at e
    split at e
    · rename_i k ks' e1 e2
      cases e
      rw [keyD_ok e1 h1, keysD_ok e2 h2]; rfl
    · cases e
theorem valV_dget {K : PySem.W.Frag} {m : Ms} {H : Hp} {κ : Type} [DecidableEq κ] (k : κ) : ∀ {kvs : List (κ × V)} {ds : List D}, DVs K m H ds (kvs.map (·.2)) →
    (∀ d, dget (kvs.map (·.1)) ds k = some d → ∃ v, valV kvs k = some v ∧ DV K m H d v) ∧ (dget (kvs.map (·.1)) ds k = none → valV kvs k = none)
  | [], [], h => ⟨fun d e => (by cases e), fun _ => rfl⟩
  | [], d :: ds, h => by
    obtain ⟨x, xs, e, _⟩ := h
    cases e
  | p :: kvs, [], h => by
    have h' : (p :: kvs).map (·.2) = [] := h
    cases h'
  | p :: kvs, d :: ds, h => by
    obtain ⟨x, xs, e, h1, h2⟩ := h
    injection e with e1 e2
    have e1 : p.2 = x := e1
    subst e2
    obtain ⟨a, b⟩ := valV_dget k h2
    simp only [List.map_cons, dget]
    by_cases hk : p.1 = k
    · rw [if_pos hk]
      exact ⟨fun d' e' => ⟨x, by rw [valV_pos hk, e1], by cases e'; exact h1⟩, fun e' => by cases e'⟩
    · rw [if_neg hk, valV_neg hk]
      exact ⟨a, b⟩
theorem look_ok {K : PySem.W.Frag} {m : Ms} {H : Hp} {d k : D} {x y : V} {r : Option D} (hx : SV K m H d x) (hy : DV K m H k y) (e : lookD d k = some r) :
    ∃ a o, x = .ref a ∧ DGet H a y o ∧ (∀ d', r = some d' → ∃ v, o = some v ∧ DV K m H d' v) ∧ (r = none → o = none) := by
  unfold lookD at e
  split at e
  · split at e
    · rename_i ks ds k' kk hk
      cases e
      obtain ⟨a, kvs, rfl, hr, rfl, hd⟩ := hx
      obtain ⟨h1, h2⟩ := valV_dget kk hd
      exact ⟨a, _, rfl, .inl ⟨kvs, kk, hr, keyD_ok hk hy, rfl⟩, h1, h2⟩
    · cases e
  · split at e
    · rename_i ks ds k' kk hk
      cases e
      obtain ⟨a, kvs, rfl, hr, rfl, hd⟩ := hx
      obtain ⟨b, xs, rfl, ht, hxs⟩ := hy
      obtain ⟨h1, h2⟩ := valV_dget kk hd
      have e2 := keysD_ok hk hxs
      subst e2
      exact ⟨a, _, rfl, .inr ⟨kvs, kk, b, hr, rfl, ht.2, rfl⟩, h1, h2⟩
    · cases e
  · cases e
end Mi
namespace Mi
open PySem PySem.Spec PyProof.Rows L2

/-! ## x[i] -/
abbrev gIxS := rd2 atD
def gIxD : D → D → Mem → Option (D × Mem) := fun a k μ => match lookD (see μ a) k with
  | some (some d) => some (d, μ)
  | _ => none
abbrev gIx := orG gIxS gIxD
def rDGet : R2 := fun x y H Q => ∃ a v, x = .ref a ∧ DGet H a y (some v) ∧ Q v H
theorem snd_ixS {K : PySem.W.Frag} : Snd2 K (rIx K) gIxS := Snd2.rd fun m H μ x y d e r' Q R hx hy h q => by
  unfold atD at h
  split at h
  · obtain ⟨a, xs, rfl, hq, r⟩ := hx
    obtain ⟨v, h1, h2⟩ := atI_DVs r h
    exact .inl ⟨a, xs, _, v, rfl, hy, .inl hq, h1, q v h2⟩
  · obtain ⟨a, xs, rfl, hq, r⟩ := hx
    obtain ⟨v, h1, h2⟩ := atI_DVs r h
    exact .inr (.inl ⟨a, xs, _, v, rfl, hy, .inl (.inl hq), h1, q v h2⟩)
  · split at h
    · rename_i z i hz
      split at h
      · rename_i c hc
        cases h
        exact .inr (.inr ⟨z, i, c, hx, hy, size_le hz, hc, q _ rfl⟩)
      · cases h
    · cases h
  · cases h
theorem snd_ixD {K : PySem.W.Frag} : Snd2 K rDGet gIxD := by
  intro m H μ x y d e r' μ' Q R hx hy h q
  unfold gIxD at h
  split at h
  · rename_i d' hd
    cases h
    obtain ⟨a, o, rfl, h1, h2, _⟩ := look_ok (see_ok R hx) hy hd
    obtain ⟨v, rfl, h3⟩ := h2 _ rfl
    exact ⟨a, v, rfl, h1, q v H m Ext.refl R h3⟩
  · cases h
section
variable {X : Cx} {a b : Expr} {fa fb : FE} {pos : Pos}
theorem me_ix (hu : X.A.units + 1 < cLine) (ha : ME X a fa) (hb : ME X b fb) (hs : ∀ o i, subscripted b false o i = operate [o, i] (getItem o i) := by intros; rfl)
    (hs2 : ∀ ov iv, subscripted b false ov iv = operate [ov, iv] (getItem ov iv) := by intros; rfl) : ME X (.Subscript a b pos) (fBin gIx fa fb) :=
  peM (pe_or2 (pe_ix ix_seq ha hb hs) (pe_dget hu ha hb hs2)) fun σ H Q h => (lE_or h).imp (lE_bin snd_ixS σ H Q) fun h => lE_bin snd_ixD σ H Q h
end

/-! ## in, not in -/
def flD : D → Bool
  | .non => true
  | .bl _ => true
  | .int _ => true
  | .str _ => true
  | _ => false
def flDs : List D → Bool
  | [] => true
  | d :: ds => flD d && flDs ds
def inD (x : D) : List D → Bool
  | [] => false
  | d :: ds => eqD d x || inD x ds
def dIn : D → D → Option Bool
  | x, .lst ds => if flD x && flDs ds then some (inD x ds) else none
  | x, .tup ds => if flD x && flDs ds then some (inD x ds) else none
  | _, _ => none
def gInS : D → D → Mem → Option (D × Mem) := fun x c μ => match dIn x (see μ c) with
  | some b => some (.bl b, μ)
  | none => none
def gInD : D → D → Mem → Option (D × Mem) := fun k c μ => match lookD (see μ c) k with
  | some o => some (.bl o.isSome, μ)
  | none => none
def gNinS : D → D → Mem → Option (D × Mem) := fun x c μ => match dIn x (see μ c) with
  | some b => some (.bl (!b), μ)
  | none => none
def gNinD : D → D → Mem → Option (D × Mem) := fun k c μ => match lookD (see μ c) k with
  | some o => some (.bl (!o.isSome), μ)
  | none => none
abbrev gIn := orG gInS gInD
abbrev gNin := orG gNinS gNinD
def rDIn : R2 := fun y x H Q => ∃ a o, x = .ref a ∧ DGet H a y o ∧ Q (.bl o.isSome) H
def rDNin : R2 := fun y x H Q => ∃ a o, x = .ref a ∧ DGet H a y o ∧ Q (.bl (!o.isSome)) H
section
variable {K : PySem.W.Frag} {m : Ms} {H : Hp}
theorem flD_ok {d : D} {x : V} (h : DV K m H d x) (f : flD d = true) : flatV x = true := by
  cases d <;> first | (cases f; done) | skip
  · rw [show x = _ from h]; rfl
  · rw [show x = _ from h]; rfl
  · rw [show x = _ from h]; rfl
  · rw [show x = _ from h]; rfl
theorem eqD_flat {d e : D} {x y : V} (h : DV K m H d x) (h' : DV K m H e y) (f : flD d = true) (f' : flD e = true) : eqV x y = eqD d e := by
  cases d <;> first | (cases f; done) | skip
  all_goals
    cases e <;> first | (cases f'; done) | skip
    all_goals
      rw [show x = _ from h, show y = _ from h']
      rfl
theorem inD_ok {d : D} {x : V} (h : DV K m H d x) (f : flD d = true) : ∀ {ds : List D} {xs : List V}, DVs K m H ds xs → flDs ds = true → xs.all flatV = true ∧ inV x xs = inD d ds
  | [], xs, r, _ => by rw [show xs = [] from r]; exact ⟨rfl, rfl⟩
  | e :: ds, xs, r, g => by
    obtain ⟨y, ys, rfl, h1, h2⟩ := r
    simp only [flDs, Bool.and_eq_true] at g
    obtain ⟨a, b⟩ := inD_ok h f h2 g.2
    refine ⟨by rw [List.all_cons, flD_ok h1 g.1, a]; rfl, ?_⟩
    unfold inV at b ⊢
    rw [List.any_cons, b, eqD_flat h1 h g.1 f]
    rfl
theorem snd_inS {neg : Bool} {g : D → D → Mem → Option (D × Mem)} (hg : ∀ x c μ, g x c μ = match dIn x (see μ c) with
  | some b => some (.bl (if neg then !b else b), μ)
  | none => none) : Snd2 K (rIn K neg) g := by
  intro m H μ x y d e r' μ' Q R hx hy h q
  rw [hg] at h
  split at h
  · rename_i b hb
    cases h
    have sv := see_ok R hy
    unfold dIn at hb
    split at hb
    · rename_i ds hds
      rw [hds] at sv
      split at hb
      · rename_i f
        cases hb
        simp only [Bool.and_eq_true] at f
        obtain ⟨a, xs, rfl, hq, r⟩ := sv
        obtain ⟨h1, h2⟩ := inD_ok hx f.1 r f.2
        exact ⟨a, xs, rfl, .inl (.inl hq), flD_ok hx f.1, h1, by rw [h2]; exact q _ H m Ext.refl R rfl⟩
      · cases hb
    · rename_i ds hds
      rw [hds] at sv
      split at hb
      · rename_i f
        cases hb
        simp only [Bool.and_eq_true] at f
        obtain ⟨a, xs, rfl, hq, r⟩ := sv
        obtain ⟨h1, h2⟩ := inD_ok hx f.1 r f.2
        exact ⟨a, xs, rfl, .inr (.inl (.inl hq)), flD_ok hx f.1, h1, by rw [h2]; exact q _ H m Ext.refl R rfl⟩
      · cases hb
    · cases hb
  · cases h
theorem snd_inD {k : Bool → Bool} {r : R2} (hr : ∀ y x H Q, (∃ a o, x = .ref a ∧ DGet H a y o ∧ Q (.bl (k o.isSome)) H) → r y x H Q) {g : D → D → Mem → Option (D × Mem)} (hg : ∀ x c μ, g x c μ = match lookD (see μ c) x with
  | some o => some (.bl (k o.isSome), μ)
  | none => none) : Snd2 K r g := by
  intro m H μ x y d e r' μ' Q R hx hy h q
  rw [hg] at h
  split at h
  · rename_i o ho
    cases h
    obtain ⟨a, o', rfl, h1, h2, h3⟩ := look_ok (see_ok R hy) hx ho
    refine hr _ _ _ _ ⟨a, o', rfl, h1, ?_⟩
    have e : o'.isSome = o.isSome := by
      cases o with
      | none => rw [h3 rfl]; rfl
      | some d => obtain ⟨v, rfl, _⟩ := h2 d rfl; rfl
    rw [e]
    exact q _ H m Ext.refl R rfl
  · cases h
end
section
variable {X : Cx} {a b : Expr} {fa fb : FE} {pos : Pos}
theorem pe_in (hu : X.A.units + 1 < cLine) (ha : ME X a fa) (hb : ME X b fb) (hm : behindInMarks .In b = false := by rfl) : ME X (.Compare a [.In] [b] pos) (fBin gIn fa fb) :=
  peM (pe_or2 (pe_cmpR op_in_seq ha hb hm) (pe_cmp (pc_din hu ha hb) hm)) fun σ H Q h => (lE_or h).imp (lE_bin (snd_inS (neg := false) fun _ _ _ => rfl) σ H Q) fun h => lE_bin (r := rDIn) (snd_inD (k := fun x => x) (fun _ _ _ _ q => q) fun _ _ _ => rfl) σ H Q h
theorem pe_nin (hu : X.A.units + 1 < cLine) (ha : ME X a fa) (hb : ME X b fb) (hm : behindInMarks .NotIn b = false := by rfl) : ME X (.Compare a [.NotIn] [b] pos) (fBin gNin fa fb) :=
  peM (pe_or2 (pe_cmpR op_notIn_seq ha hb hm) (pe_cmp (pc_dnotin hu ha hb) hm)) fun σ H Q h => (lE_or h).imp (lE_bin (snd_inS (neg := true) fun _ _ _ => rfl) σ H Q) fun h => lE_bin (r := rDNin) (snd_inD (k := fun x => !x) (fun _ _ _ _ q => q) fun _ _ _ => rfl) σ H Q h
theorem lT_or {K : PySem.W.Frag} {g g' : D → D → Mem → Option (D × Mem)} {fa fb : FE} {σ : L2.St} {H : Hp} {Q : Bool → Hp → Prop} (h : lT K (fB (fBin (orG g g') fa fb)) σ H Q) : lT K (fB (fBin g fa fb)) σ H Q ∨ lT K (fB (fBin g' fa fb)) σ H Q := by
  obtain ⟨m, ρ, μ, d, μ', h1, h2, h3, h4⟩ := h
  unfold fB bnd at h3
  split at h3
  · rename_i v μ1 ev
    unfold fBin bnd at ev
    split at ev
    · rename_i a μ2 ea
      dsimp only at ev
      split at ev
      · rename_i b μ3 eb
        unfold orG at ev
        split at ev
        · rename_i z hz
          exact .inl ⟨m, ρ, μ, d, μ', h1, h2, by simp only [fB, fBin, bnd, ea, eb, hz, ev]; exact h3, h4⟩
        · exact .inr ⟨m, ρ, μ, d, μ', h1, h2, by simp only [fB, fBin, bnd, ea, eb, ev]; exact h3, h4⟩
      · cases ev
    · cases ev
  · cases h3
theorem mt_in (hu : X.A.units + 1 < cLine) (ha : ME X a fa) (hb : ME X b fb) (hm : behindInMarks .In b = false := by rfl) : MT X (.Compare a [.In] [b] pos) (fB (fBin gIn fa fb)) :=
  ptM (pt_or2 (pt_cmpR op_in_seq ha hb hm) (pt_cmp (pc_din hu ha hb) hm)) fun σ H Q h => (lT_or h).imp (lT_B (lE_bin (snd_inS (neg := false) fun _ _ _ => rfl)) σ H Q)
    fun h => lT_B (t := tOp rDIn (lE X.K fa) (lE X.K fb)) (lE_bin (snd_inD (k := fun x => x) (fun _ _ _ _ q => q) fun _ _ _ => rfl)) σ H Q h
theorem mt_nin (hu : X.A.units + 1 < cLine) (ha : ME X a fa) (hb : ME X b fb) (hm : behindInMarks .NotIn b = false := by rfl) : MT X (.Compare a [.NotIn] [b] pos) (fB (fBin gNin fa fb)) :=
  ptM (pt_or2 (pt_cmpR op_notIn_seq ha hb hm) (pt_cmp (pc_dnotin hu ha hb) hm)) fun σ H Q h => (lT_or h).imp (lT_B (lE_bin (snd_inS (neg := true) fun _ _ _ => rfl)) σ H Q)
    fun h => lT_B (t := tOp rDNin (lE X.K fa) (lE X.K fb)) (lE_bin (snd_inD (k := fun x => !x) (fun _ _ _ _ q => q) fun _ _ _ => rfl)) σ H Q h
end

/-! ## d.get(k), d.get(k, x) -/
def isDict : D → Bool
  | .dK _ _ => true
  | .dT _ _ => true
  | _ => false
def fGet2 (fd fk fx : FE) : FE := bnd fd fun d => bnd (fun _ μ => if isDict (see μ d) then some ((), μ) else none) fun _ => bnd fk fun k => bnd fx fun x => fun _ μ => match lookD (see μ d) k with
  | some o => some (o.getD x, μ)
  | none => none
def fGet1 (fd fk : FE) : FE := bnd fd fun d => bnd (fun _ μ => if isDict (see μ d) then some ((), μ) else none) fun _ => bnd fk fun k => fun _ μ => match lookD (see μ d) k with
  | some o => some (o.getD .non, μ)
  | none => none
section
variable {X : Cx} {o e f : Expr} {fo fe ff : FE} {apos cpos : Pos}
theorem isDict_ok {K : PySem.W.Frag} {m : Ms} {H : Hp} {d : D} {x : V} (h : SV K m H d x) (i : isDict d = true) : ∃ a, x = .ref a ∧ IsD H a := by
  cases d <;> first | (cases i; done) | skip
  · obtain ⟨a, kvs, rfl, hr, _⟩ := h; exact ⟨a, rfl, .inl ⟨kvs, hr⟩⟩
  · obtain ⟨a, kvs, rfl, hr, _⟩ := h; exact ⟨a, rfl, .inr ⟨kvs, hr⟩⟩
theorem bnd_chk {K : PySem.W.Frag} {m : Ms} {σ : L2.St} {H : Hp} {α β : Type} {R : Ms → Hp → α → β → Prop} {Q : β → Hp → Prop} {c : Mem → Bool} {k : Unit → FX α} (h : lgm R K m (bnd (fun _ μ => if c μ then some ((), μ) else none) k) σ H Q) :
    (∃ μ, Rel K m H μ ∧ c μ = true) ∧ lgm R K m (k ()) σ H Q := by
  obtain ⟨ρ, μ, a, μ', h1, h2, h3, h4⟩ := h
  unfold bnd at h3
  split at h3
  · rename_i u μ1 e
    dsimp only at e
    split at e
    · rename_i hc
      cases e
      exact ⟨⟨μ, h1, hc⟩, ρ, μ, a, μ', h1, h2, h3, h4⟩
    · cases e
  · cases h3
theorem me_get2 (hu : X.A.units + 1 < cLine) (ho : ME X o fo) (he : ME X e fe) (hf : ME X f ff) (m : M2 X o "get" apos e f cpos := by exact ⟨rfl, rfl, rfl, rfl⟩) : ME X (.Call (.Attribute o "get" apos) [e, f] [] cpos) (fGet2 fo fe ff) :=
  peM (pe_dget2 hu ho he hf m) fun σ H Q ⟨m, h⟩ => ⟨m, (lgm_bnd (R := rE X.K) h).mono fun x H1 ⟨d, m1, e1, r1, h1⟩ => by
    obtain ⟨⟨μ1, R1, hc⟩, h1⟩ := bnd_chk h1
    obtain ⟨a, rfl, hd⟩ := isDict_ok (see_ok R1 r1) hc
    refine ⟨a, rfl, hd, m1, (lgm_bnd (R := rE X.K) h1).mono fun y H2 ⟨k, m2, e2, r2, h2⟩ => ⟨m2, (lgm_bnd (R := rE X.K) h2).mono fun z H3 ⟨w, m3, e3, r3, h3⟩ => ?_⟩⟩
    obtain ⟨ρ, μ, dd, μ', h4, h5, h6, h7⟩ := h3
    dsimp only at h6
    split at h6
    · rename_i oo ho
      cases h6
      obtain ⟨a', o', ea, g1, g2, g3⟩ := look_ok (see_ok h4 (DV.ext (e2.trans e3) r1)) (DV.ext e3 r2) ho
      cases ea
      refine ⟨o', g1, h7 _ H3 m3 Ext.refl h4 ?_⟩
      cases oo with
      | none => rw [g3 rfl]; exact r3
      | some d' => obtain ⟨v, rfl, hv⟩ := g2 d' rfl; exact hv
    · cases h6⟩
theorem me_get1 (hu : X.A.units + 1 < cLine) (ho : ME X o fo) (he : ME X e fe) (m : M1 X o "get" apos e cpos := by exact ⟨rfl, rfl, rfl, rfl⟩) : ME X (.Call (.Attribute o "get" apos) [e] [] cpos) (fGet1 fo fe) :=
  peM (pe_dget1 hu ho he m) fun σ H Q ⟨m, h⟩ => ⟨m, (lgm_bnd (R := rE X.K) h).mono fun x H1 ⟨d, m1, e1, r1, h1⟩ => by
    obtain ⟨⟨μ1, R1, hc⟩, h1⟩ := bnd_chk h1
    obtain ⟨a, rfl, hd⟩ := isDict_ok (see_ok R1 r1) hc
    refine ⟨a, rfl, hd, m1, (lgm_bnd (R := rE X.K) h1).mono fun y H2 ⟨k, m2, e2, r2, h2⟩ => ?_⟩
    obtain ⟨ρ, μ, dd, μ', h4, h5, h6, h7⟩ := h2
    dsimp only at h6
    split at h6
    · rename_i oo ho
      cases h6
      obtain ⟨a', o', ea, g1, g2, g3⟩ := look_ok (see_ok h4 (DV.ext e2 r1)) r2 ho
      cases ea
      refine ⟨o', g1, h7 _ H2 m2 Ext.refl h4 ?_⟩
      cases oo with
      | none => rw [g3 rfl]; rfl
      | some d' => obtain ⟨v, rfl, hv⟩ := g2 d' rfl; exact hv
    · cases h6⟩
end

/-! ## slices -/
def cutD (xs : List D) (lo hi : Option Int) : List D := (xs.drop (HT.sIx xs.length 0 lo)).take (HT.sIx xs.length xs.length hi - HT.sIx xs.length 0 lo)
abbrev FO := FX (Option Int)
abbrev rO : Ms → Hp → Option Int → Option Int → Prop := fun _ _ a b => b = a
def fPart (f : FE) : FO := bnd f fun d => match d with
  | .int i => ret (some i)
  | _ => fail
abbrev MO (X : Cx) (e : Option Expr) (f : FO) : Prop := PO X e (lg rO X.K f)
theorem poM {X : Cx} {e : Option Expr} {t t' : TO} (h : PO X e t) (q : ∀ σ H Q, t' σ H Q → t σ H Q) : PO X e t' := ⟨fun pins s σ H Q I w => h.run pins s σ H Q I (q σ H Q w)⟩
def fSl (g : D → Option Int → Option Int → Mem → Option (D × Mem)) (f : FE) (fl fh : FO) : FE := bnd f fun d => bnd fl fun l => bnd fh fun h => fun _ μ => g d l h μ
def gSlT : D → Option Int → Option Int → Mem → Option (D × Mem)
  | .tup ds, lo, hi, μ => some (.tup (cutD ds lo hi), μ)
  | _, _, _, _ => none
def gSlL : D → Option Int → Option Int → Mem → Option (D × Mem) := fun d lo hi μ => match see μ d with
  | .lst ds => some (.lst (cutD ds lo hi), μ)
  | .scr ns => some (.lst (cutD (ns.map D.int) lo hi), μ)
  | _ => none
theorem cut_DVs {K : PySem.W.Frag} {m : Ms} {H : Hp} {ds : List D} {xs : List V} (h : DVs K m H ds xs) (lo hi : Option Int) : DVs K m H (cutD ds lo hi) (cutV xs lo hi) := by
  unfold cutD cutV
  rw [h.length]
  exact (h.drop _).take _
theorem cutD_whole {xs : List D} {lo hi : Option Int} (h : HT.sIx xs.length 0 lo = 0 ∧ HT.sIx xs.length xs.length hi = xs.length) : cutD xs lo hi = xs := by
  unfold cutD
  rw [h.1, h.2]
  simp
section
variable {X : Cx} {e : Expr} {lo hi : Option Expr} {f : FE} {fl fh : FO} {pos p2 : Pos}
theorem mo_none : MO X none (ret none) := poM po_none fun σ H Q ⟨m, h⟩ => by
  obtain ⟨μ, h1, h2⟩ := lgm_ret h
  exact h2 _ H m Ext.refl h1 rfl
theorem mo_some (h : ME X e f) : MO X (some e) (fPart f) := poM (po_some h) fun σ H Q ⟨m, h⟩ => ⟨m, (lgm_bnd (R := rE X.K) h).mono fun x H1 ⟨d, m1, e1, r1, h1⟩ => by
  cases d with
  | int i =>
    obtain ⟨μ, h3, h4⟩ := lgm_ret h1
    exact ⟨i, r1, h4 _ H1 m1 Ext.refl h3 rfl⟩
  | _ => exact lgm_fail h1⟩
theorem me_slT (h : ME X e f) (hl : MO X lo fl) (hh : MO X hi fh) : ME X (.Subscript e (.Slice lo hi none p2) pos) (fSl gSlT f fl fh) :=
  peM (pe_slice sl_tupA h hl hh) fun σ H Q ⟨m, h⟩ => ⟨m, (lgm_bnd (R := rE X.K) h).mono fun x H1 ⟨d, m1, e1, r1, h1⟩ => ⟨m1, (lgm_bnd (R := rO) h1).mono fun l H2 ⟨l', m2, e2, r2, h2⟩ => ⟨m2, (lgm_bnd (R := rO) h2).mono fun u H3 ⟨u', m3, e3, r3, h3⟩ => by
    cases r2
    cases r3
    obtain ⟨ρ, μ, dd, μ', h4, h5, h6, h7⟩ := h3
    cases d with
    | tup ds =>
      cases h6
      have dv : DV X.K m3 H3 (.tup ds) x := DV.ext (e2.trans e3) r1
      obtain ⟨a, xs, rfl, ht, hx⟩ := id dv
      have hlen := hx.length
      refine ⟨a, xs, rfl, ht.sq, fun hw => ?_, fun _ => allocT h4 (cut_DVs hx l u) h7⟩
      rw [hlen] at hw
      rw [cutD_whole hw] at h7
      exact h7 _ H3 m3 Ext.refl h4 dv
    | _ => cases h6⟩⟩⟩
theorem mf_slL (h : ME X e f) (hl : MO X lo fl) (hh : MO X hi fh) : MF X (.Subscript e (.Slice lo hi none p2) pos) (fSl gSlL f fl fh) :=
  peM (pe_slice sl_list h hl hh) fun σ H Q ⟨m, ρ, μ, c, μ', h1, h2, h3, h4⟩ => by
    unfold fSl bnd at h3
    split at h3
    · rename_i d μ1 ed
      dsimp only at h3
      split at h3
      · rename_i l μ2 el
        split at h3
        · rename_i u μ3 eu
          unfold gSlL at h3
          split at h3
          · rename_i ds hds
            cases h3
            refine ⟨m, ρ, μ, d, μ1, h1, h2, ed, fun x H1 m1 e1 R1 r1 => ⟨m1, ρ, μ1, l, μ2, R1, h2.ext e1, el, fun l' H2 m2 e2 R2 r2 => ⟨m2, ρ, μ2, u, _, R2, h2.ext (e1.trans e2), eu, fun u' H3 m3 e3 R3 r3 => ?_⟩⟩⟩
            cases r2
            cases r3
            have sv := see_ok R3 (DV.ext (e2.trans e3) r1)
            rw [hds] at sv
            obtain ⟨a, xs, rfl, hq, r⟩ := sv
            exact ⟨a, xs, rfl, .inl hq, alloc (c := .lst (cutD ds l u)) ((e1.trans e2).trans e3) R3 ⟨_, rfl, cut_DVs r l u⟩ h4⟩
          · rename_i ns hds
            cases h3
            refine ⟨m, ρ, μ, d, μ1, h1, h2, ed, fun x H1 m1 e1 R1 r1 => ⟨m1, ρ, μ1, l, μ2, R1, h2.ext e1, el, fun l' H2 m2 e2 R2 r2 => ⟨m2, ρ, μ2, u, _, R2, h2.ext (e1.trans e2), eu, fun u' H3 m3 e3 R3 r3 => ?_⟩⟩⟩
            cases r2
            cases r3
            have sv := see_ok R3 (DV.ext (e2.trans e3) r1)
            rw [hds] at sv
            obtain ⟨a, rfl, hq⟩ := sv
            exact ⟨a, _, rfl, hq, alloc (c := .lst (cutD (ns.map D.int) l u)) ((e1.trans e2).trans e3) R3 ⟨_, rfl, cut_DVs (ints_DVs ns) l u⟩ h4⟩
          · cases h3
        · cases h3
      · cases h3
    · cases h3
def fRev (f : FE) : FE := bnd f fun d => fun _ μ => match see μ d with
  | .lst ds => some (.lst ds.reverse, μ)
  | _ => none
theorem mf_rev {k : Nat} {p1 p2 p3 pos : Pos} (h : ME X e f) : MF X (.Subscript e (.Slice none none (some (.UnaryOp .USub (.Constant (.int 1) k p1) p2)) p3) pos) (fRev f) :=
  peM (pe_revL h) fun σ H Q ⟨m, ρ, μ, c, μ', h1, h2, h3, h4⟩ => by
    unfold fRev bnd at h3
    split at h3
    · rename_i d μ1 ed
      dsimp only at h3
      split at h3
      · rename_i ds hds
        cases h3
        refine ⟨m, ρ, μ, d, _, h1, h2, ed, fun x H1 m1 e1 R1 r1 => ?_⟩
        have sv := see_ok R1 r1
        rw [hds] at sv
        obtain ⟨a, xs, rfl, hq, r⟩ := sv
        exact ⟨a, xs, rfl, .inl hq, alloc (c := .lst ds.reverse) e1 R1 ⟨_, rfl, r.reverse⟩ h4⟩
      · cases h3
    · cases h3
end

/-! ## + of any kind -/
def rCatL : R2 := fun x y H Q => ∃ l b xs zs, x = .ref l ∧ y = .ref b ∧ Rd H l (.lst xs) ∧ Rd H b (.lst zs) ∧ xs.length + zs.length ≤ sizeLine ∧ ∀ p, H p = none → Q (.ref p) (upd H p (.lst (xs ++ zs)))
theorem op_catL {X : Cx} : OpR X (binaryOp .Add) rCatL := by
  intro pins s σ H x y v u Q I rx ry h
  obtain ⟨l, b, xs, zs, rfl, rfl, hH, hB, hz, q⟩ := h
  cases rx
  cases ry
  obtain ⟨z, its, n, r, e⟩ := hH.ok I.hok
  obtain ⟨z2, its2, n2, r2, e2⟩ := hB.ok I.hok
  have hl := r.length
  have hl2 := r2.length
  refine PySem.P.add_list e e2 ?_ (by rw [List.size_toArray, List.size_toArray]; omega)
  have ea : its.toArray ++ its2.toArray = (its ++ its2).toArray := by simp
  rw [ea]
  exact ⟨.ref _, _, I.laid (t' := s.toks) (o := .lst (xs ++ zs)) (fun b ob q => Heap.get?_push_of_some _ q) (Nat.le_refl _) ⟨by rw [List.length_append]; omega, _, 0, r.append r2, Heap.get?_push_size _ rfl⟩, rfl, q _ (I.hok.fresh (Nat.le_refl _))⟩
def gCatT : D → D → Mem → Option (D × Mem)
  | .tup a, .tup b, μ => if a.length + b.length ≤ 16777216 then some (.tup (a ++ b), μ) else none
  | _, _, _ => none
def gCatL : D → D → Mem → Option (D × Mem) := fun a b μ => match see μ a, see μ b with
  | .lst a, .lst b => if a.length + b.length ≤ 16777216 then some (.lst (a ++ b), μ) else none
  | _, _ => none
def gCatS : D → D → Mem → Option (D × Mem)
  | .str a, .str b, μ => if a.length + b.length ≤ 16777216 then some (.str (a ++ b), μ) else none
  | _, _, _ => none
abbrev gPlus := orG gAdd (orG gCatT (orG gCatL gCatS))
theorem snd_catT {K : PySem.W.Frag} : Snd2 K (rCatA K) gCatT := by
  intro m H μ x y d e r' μ' Q R hx hy h q
  unfold gCatT at h
  split at h
  · rename_i ds es
    split at h
    · rename_i hz
      cases h
      obtain ⟨a, xs, rfl, h1, h2⟩ := id hx
      obtain ⟨b, ys, rfl, g1, g2⟩ := id hy
      refine ⟨a, b, xs, ys, rfl, rfl, h1.sq, g1.sq, size_le (by rw [h2.length, g2.length]; exact hz), fun e => ?_, fun _ e => ?_, fun _ _ => allocT R (h2.append g2) q⟩
      · have : ds = [] := by
          cases ds with
          | nil => rfl
          | cons d ds => obtain ⟨x, xs', e', _⟩ := h2; rw [e] at e'; cases e'
        subst this
        exact q _ H m Ext.refl R hy
      · have : es = [] := by
          cases es with
          | nil => rfl
          | cons d ds => obtain ⟨x, xs', e', _⟩ := g2; rw [e] at e'; cases e'
        subst this
        rw [List.append_nil] at q
        exact q _ H m Ext.refl R hx
    · cases h
  · cases h
theorem snd_catL {K : PySem.W.Frag} : Snd2 K rCatL gCatL := by
  intro m H μ x y d e r' μ' Q R hx hy h q
  unfold gCatL at h
  split at h
  · rename_i ds es hds hes
    split at h
    · rename_i hz
      cases h
      have s1 := see_ok R hx
      have s2 := see_ok R hy
      rw [hds] at s1
      rw [hes] at s2
      obtain ⟨a, xs, rfl, h1, h2⟩ := s1
      obtain ⟨b, ys, rfl, g1, g2⟩ := s2
      exact ⟨a, b, xs, ys, rfl, rfl, h1, g1, size_le (by rw [h2.length, g2.length]; exact hz), fun p hp => q _ _ m (Ext.new hp) (R.new hp) ⟨p, _, rfl, ⟨R.fresh hp, .inl upd_same⟩, DVs.ext (Ext.new hp) (h2.append g2)⟩⟩
    · cases h
  · cases h
def rCatS : R2 := fun x y H Q => ∃ i j, x = .str i ∧ y = .str j ∧ i.length + j.length ≤ sizeLine ∧ Q (.str (i ++ j)) H
theorem snd_catS {K : PySem.W.Frag} : Snd2 K rCatS gCatS := by
  intro m H μ x y d e r' μ' Q R hx hy h q
  unfold gCatS at h
  split at h
  · rename_i a b
    split at h
    · rename_i hz
      cases h
      exact ⟨a, b, hx, hy, size_le hz, q _ H m Ext.refl R rfl⟩
    · cases h
  · cases h
section
variable {X : Cx} {a b : Expr} {fa fb : FE} {pos : Pos}
theorem me_plus (ha : ME X a fa) (hb : ME X b fb) : ME X (.BinOp a .Add b pos) (fBin gPlus fa fb) :=
  me_op (OpR.or op_add (OpR.or op_catA (OpR.or op_catL op_add_str))) (Snd2.or (snd_i2 fun _ _ _ _ _ => Iff.rfl) (Snd2.or snd_catT (Snd2.or snd_catL snd_catS))) ha hb
end

/-! ## list methods -/
def isLst : D → Bool
  | .lst _ => true
  | _ => false
/-- o.m(args), the receiver checked ahead of the arguments -/
def fMeth (c : D → Bool) (g : D → List D → Mem → Option (D × Mem)) (fo : FE) (fa : FA) : FE :=
  bnd fo fun o => bnd (fun _ μ => if c (see μ o) then some ((), μ) else none) fun _ => bnd fa fun ds => fun _ μ => g o ds μ
def SndM (K : PySem.W.Frag) (r : V → List V → Hp → VK → Prop) (g : D → List D → Mem → Option (D × Mem)) : Prop :=
  ∀ (m : Ms) (H : Hp) (μ : Mem) (x : V) (vs : List V) (o : D) (ds : List D) (d : D) (μ' : Mem) (Q : VK), Rel K m H μ → DV K m H o x → DVs K m H ds vs → g o ds μ = some (d, μ') →
    (∀ v H' m', Ext m H m' H' → Rel K m' H' μ' → DV K m' H' d v → Q v H') → r x vs H Q
section
variable {X : Cx} {o e : Expr} {es : List Expr} {fo : FE} {fa : FA} {apos cpos : Pos}
theorem lE_meth {K : PySem.W.Frag} {c : D → Bool} {T : String} {r : V → List V → Hp → VK → Prop} {g : D → List D → Mem → Option (D × Mem)} (hc : ∀ m H d x, SV K m H d x → c d = true → tyV K T x H) (s : SndM K r g) :
    ∀ σ H Q, lE K (fMeth c g fo fa) σ H Q → tBM K T r (lE K fo) (lA K fa) σ H Q := fun σ H Q ⟨m, h⟩ => ⟨m, (lgm_bnd (R := rE K) h).mono fun x H1 ⟨d, m1, e1, r1, h1⟩ => by
    obtain ⟨⟨μ1, R1, hcc⟩, h1⟩ := bnd_chk h1
    refine ⟨hc m1 H1 _ x (see_ok R1 r1) hcc, m1, (lgm_bnd (R := rA K) h1).mono fun vs H2 ⟨ds, m2, e2, r2, ρ, μ, dd, μ', h3, h4, h5, h6⟩ => ?_⟩
    exact s m2 H2 μ x vs d ds dd μ' Q h3 (DV.ext e2 r1) r2 h5 h6⟩
theorem isLst_ok {K : PySem.W.Frag} : ∀ m H d x, SV K m H d x → isLst d = true → tyV K "list" x H := fun m H d x h c => by
  cases d <;> first | (cases c; done) | skip
  obtain ⟨a, xs, rfl, hr, _⟩ := h
  exact .inl ⟨rfl, xs, .inl hr⟩
/-- a cell that may be written -/
theorem Rel.open' {K : PySem.W.Frag} {m : Ms} {H : Hp} {μ : Mem} (R : Rel K m H μ) {n : Nat} {ds : List D} {x : V} (e : μ[n]? = some ⟨false, .lst ds⟩) (h : DV K m H (.ref n) x) :
    ∃ a xs, x = .ref a ∧ m.l[n]? = some a ∧ H a = some (.lst xs) ∧ DVs K m H ds xs := by
  obtain ⟨a, rfl, ha⟩ := h
  obtain ⟨b, u, hb, hm, hr, hl, hv⟩ := R.at e
  rw [ha] at hb; cases hb
  obtain ⟨xs, rfl, h2⟩ := hv
  exact ⟨a, xs, rfl, ha, hl rfl, h2⟩
def gAppend : D → List D → Mem → Option (D × Mem)
  | .ref n, [d], μ => match μ[n]? with
    | some ⟨false, .lst ds⟩ => if ds.length < 16777216 then some (.non, μ.set n ⟨false, .lst (ds ++ [d])⟩) else none
    | _ => none
  | _, _, _ => none
theorem snd_append {K : PySem.W.Frag} : SndM K rAppend gAppend := by
  intro m H μ x vs o ds d μ' Q R ho hv h q
  unfold gAppend at h
  split at h
  · rename_i n d1
    split at h
    · rename_i es e
      split at h
      · rename_i hz
        cases h
        obtain ⟨y, rfl, hy⟩ := DVs.one' hv
        obtain ⟨a, xs, rfl, ha, hH, hx⟩ := R.open' e ho
        refine ⟨a, xs, y, rfl, rfl, hH, by rw [hx.length]; exact size_lt hz, ?_⟩
        exact q _ _ m (Ext.set (List.mem_of_getElem? ha)) (R.set ha hH trivial ⟨_, rfl, hx.append (.one hy)⟩) rfl
      · cases h
    · cases h
  · cases h
theorem me_append (ho : ME X o fo) (ha : MA X [e] fa)
    (hbase : attributeBase o "append" X.env (eval o X.env) = eval o X.env := by rfl)
    (hfew : ((backTo cpos (starEach (e :: []) X.env)).all (fun x => !x.1) && (backToKw cpos (keywordEach [] X.env)).all (fun x => x.1.isSome)
      && decide ((e :: []).length + ([] : List Keyword).length + (if ([] : List Keyword).isEmpty then 0 else 1) < 30)) = true := by rfl)
    (hline : (apos.endLine == cpos.line) = true := by rfl) (hs : starEach (e :: []) X.env = (false, eval e X.env) :: starEach [] X.env := by rfl) (hplain : (backTo cpos (starEach [] X.env)).any (·.1) = false := by rfl) :
    ME X (.Call (.Attribute o "append" apos) [e] [] cpos) (fMeth isLst gAppend fo fa) :=
  peM (pe_bm PySem.F.plainAttrs_list PySem.F.slot_list_append PySem.F.type_list_append mt_append ho ha hbase hfew hline hs hplain) (lE_meth isLst_ok snd_append)
/-- xs.extend(ys) -/
def rExtendR : V → List V → Hp → VK → Prop := fun x vs H Q => ∃ l b xs zs, x = .ref l ∧ vs = [.ref b] ∧ H l = some (.lst xs) ∧ Rd H b (.lst zs) ∧ xs.length + zs.length ≤ sizeLine ∧ Q .non (upd H l (.lst (xs ++ zs)))
theorem mt_extendR : MtM X "list.extend" rExtendR := by
  intro pins s σ H x vs v us Q I rx rv h
  obtain ⟨l, b, xs, zs, rfl, rfl, hH, hB, hz, q⟩ := h
  cases rx
  obtain ⟨u, rfl, ru⟩ := rv.one
  cases ru
  obtain ⟨z, its, n, r, hl, e⟩ := I.lstM hH
  obtain ⟨z2, its2, n2, r2, e2⟩ := hB.ok I.hok
  have hl2 := r2.length
  have hsz : its.toArray.size + its2.toArray.size ≤ sizeLine := by rw [List.size_toArray, List.size_toArray]; omega
  have hlong : ¬ (!its.toArray.isEmpty && Builtin.List.listTooLong (its.toArray.size + its2.toArray.size)) = true := by
    rw [notLongL hsz, Bool.and_false]
    exact Bool.false_ne_true
  refine call_meets F.slot_list_extend ⟨_, e, rfl⟩ F.entry_list_extend (F.args_list_extend_2 _ _)
    (AutoSeq1.list_extend_list_list_0 l its.toArray n b its2.toArray n2 hlong (by rw [List.size_toArray]; omega) (by omega)) ⟨e, e2, ?_⟩
  refine ⟨.non, _, I.lset (its' := its ++ its2) hH e (by simp) (r.append r2) ?_, rfl, q⟩
  rw [List.length_append]
  omega
def gExtend : D → List D → Mem → Option (D × Mem)
  | .ref n, [d], μ => match μ[n]?, see μ d with
    | some ⟨false, .lst ds⟩, .lst es => if ds.length + es.length ≤ 16777216 then some (.non, μ.set n ⟨false, .lst (ds ++ es)⟩) else none
    | _, _ => none
  | _, _, _ => none
theorem snd_extend {K : PySem.W.Frag} : SndM K rExtendR gExtend := by
  intro m H μ x vs o ds d μ' Q R ho hv h q
  unfold gExtend at h
  split at h
  · rename_i n d1
    split at h
    · rename_i es fs e e'
      split at h
      · rename_i hz
        cases h
        obtain ⟨y, rfl, hy⟩ := DVs.one' hv
        obtain ⟨a, xs, rfl, ha, hH, hx⟩ := R.open' e ho
        have sv := see_ok R hy
        rw [e'] at sv
        obtain ⟨b, zs, rfl, hb, hz'⟩ := sv
        refine ⟨a, b, xs, zs, rfl, rfl, hH, hb, by rw [hx.length, hz'.length]; exact size_le hz, ?_⟩
        exact q _ _ m (Ext.set (List.mem_of_getElem? ha)) (R.set ha hH trivial ⟨_, rfl, hx.append hz'⟩) rfl
      · cases h
    · cases h
  · cases h
theorem me_extend (ho : ME X o fo) (ha : MA X [e] fa)
    (hbase : attributeBase o "extend" X.env (eval o X.env) = eval o X.env := by rfl)
    (hfew : ((backTo cpos (starEach (e :: []) X.env)).all (fun x => !x.1) && (backToKw cpos (keywordEach [] X.env)).all (fun x => x.1.isSome)
      && decide ((e :: []).length + ([] : List Keyword).length + (if ([] : List Keyword).isEmpty then 0 else 1) < 30)) = true := by rfl)
    (hline : (apos.endLine == cpos.line) = true := by rfl) (hs : starEach (e :: []) X.env = (false, eval e X.env) :: starEach [] X.env := by rfl) (hplain : (backTo cpos (starEach [] X.env)).any (·.1) = false := by rfl) :
    ME X (.Call (.Attribute o "extend" apos) [e] [] cpos) (fMeth isLst gExtend fo fa) :=
  peM (pe_bm PySem.F.plainAttrs_list PySem.F.slot_list_extend PySem.F.type_list_extend mt_extendR ho ha hbase hfew hline hs hplain) (lE_meth isLst_ok snd_extend)
def gPop : D → Mem → Option (D × Mem)
  | .ref n, μ => match μ[n]? with
    | some ⟨false, .lst ds⟩ => match ds[ds.length - 1]? with
      | some d => some (d, μ.set n ⟨false, .lst ds.dropLast⟩)
      | none => none
    | _ => none
  | _, _ => none
def fPop (fo : FE) : FE := bnd fo fun o => fun _ μ => gPop o μ
theorem DVs.dropLast {K : PySem.W.Frag} {m : Ms} {H : Hp} {ds : List D} {xs : List V} (h : DVs K m H ds xs) : DVs K m H ds.dropLast xs.dropLast := by
  rw [List.dropLast_eq_take, List.dropLast_eq_take, h.length]
  exact h.take _
theorem me_pop (ho : ME X o fo) (hbase : attributeBase o "pop" X.env (eval o X.env) = eval o X.env := by rfl) (hline : (apos.endLine == cpos.line) = true := by rfl) :
    ME X (.Call (.Attribute o "pop" apos) [] [] cpos) (fPop fo) :=
  peM (pe_bm0 PySem.F.plainAttrs_list PySem.F.slot_list_pop PySem.F.type_list_pop mt_pop ho hbase hline) fun σ H Q ⟨m, h⟩ => ⟨m, (lgm_bnd (R := rE X.K) h).mono fun x H1 ⟨d, m1, e1, r1, ρ, μ, dd, μ', h1, h2, h3, h4⟩ => by
    have h3 : gPop d μ = some (dd, μ') := h3
    unfold gPop at h3
    split at h3
    · rename_i n
      split at h3
      · rename_i ds e
        split at h3
        · rename_i d1 e'
          cases h3
          obtain ⟨a, xs, rfl, ha, hH, hx⟩ := h1.open' e r1
          obtain ⟨v, hv, hd⟩ := hx.get e'
          have e2 : Ext m1 H1 m1 (upd H1 a (.lst xs.dropLast)) := Ext.set (List.mem_of_getElem? ha)
          exact ⟨.inl ⟨rfl, xs, .inl (.inl hH)⟩, a, xs, v, rfl, rfl, hH, by rw [hx.length]; exact hv, h4 _ _ m1 e2 (h1.set ha hH trivial ⟨_, rfl, hx.dropLast⟩) (DV.ext e2 hd)⟩
        · cases h3
      · cases h3
    · cases h3⟩
def fBits (fo : FE) : FE := bnd fo fun o => match o with
  | .int i => ret (.int (Builtin.Int.intBits i : Nat))
  | _ => fail
theorem me_bits (ho : ME X o fo) (hbase : attributeBase o "bit_length" X.env (eval o X.env) = eval o X.env := by rfl) (hline : (apos.endLine == cpos.line) = true := by rfl) : ME X (.Call (.Attribute o "bit_length" apos) [] [] cpos) (fBits fo) :=
  peM (pe_bits ho hbase hline) fun σ H Q ⟨m, h⟩ => ⟨m, (lgm_bnd (R := rE X.K) h).mono fun x H1 ⟨d, m1, e1, r1, h1⟩ => by
    cases d with
    | int i =>
      obtain ⟨μ, h3, h4⟩ := lgm_ret h1
      exact ⟨i, r1, h4 _ H1 m1 Ext.refl h3 rfl⟩
    | _ => exact lgm_fail h1⟩
end
end Mi
namespace Mi
open PySem PySem.Spec PyProof.Rows L2

/-! ## statements -/
def sSeq (f g : FS) : FS := fun ρ μ => match f ρ μ with
  | some (.nx ρ1 μ1) => g ρ1 μ1
  | o => o
def sNext : FS := fun ρ μ => some (.nx ρ μ)
def sBreak : FS := fun ρ μ => some (.bk ρ μ)
def sCont : FS := fun ρ μ => some (.ct ρ μ)
def sNever : FS := fun _ _ => none
def sSet (i : Nat) (f : FE) : FS := fun ρ μ => match f ρ μ with
  | some (d, μ1) => some (.nx (ρ.set i (some d)) μ1)
  | none => none
def sRet (f : FE) : FS := fun ρ μ => match f ρ μ with
  | some (d, μ1) => some (.rt d μ1)
  | none => none
def sRetN : FS := fun _ μ => some (.rt .non μ)
def sExpr (f : FE) : FS := fun ρ μ => match f ρ μ with
  | some (_, μ1) => some (.nx ρ μ1)
  | none => none
def sIf (t : FT) (f g : FS) : FS := fun ρ μ => match t ρ μ with
  | some (true, μ1) => f ρ μ1
  | some (false, μ1) => g ρ μ1
  | none => none
/-- targets -/
def fgName (i : Nat) : FG := fun d ρ μ => some (ρ.set i (some d), μ)
abbrev FGs := List D → Rho → Mem → Option (Rho × Mem)
def fgNil : FGs := fun ds ρ μ => match ds with
  | [] => some (ρ, μ)
  | _ => none
def fgCons (g : FG) (gs : FGs) : FGs := fun ds ρ μ => match ds with
  | d :: ds => match g d ρ μ with
    | some (ρ1, μ1) => gs ds ρ1 μ1
    | none => none
  | [] => none
def fgTup (n : Nat) (gs : FGs) : FG := fun d ρ μ => match d with
  | .tup ds => if ds.length = n then gs ds ρ μ else none
  | _ => none
def sAsg (f : FE) (g : FG) : FS := fun ρ μ => match f ρ μ with
  | some (d, μ1) => match g d ρ μ1 with
    | some (ρ2, μ2) => some (.nx ρ2 μ2)
    | none => none
  | none => none
/-- o[i] = v -/
def gStore : D → D → D → Mem → Option Mem
  | .ref n, i, v, μ => match μ[n]? with
    | some ⟨false, .lst ds⟩ => match i with
      | .int k => match ixN ds.length k with
        | some j => some (μ.set n ⟨false, .lst (ds.set j v)⟩)
        | none => none
      | _ => none
    | some ⟨false, .dK ks ds⟩ => match keyD i with
      | some k => if ks.length < 16777216 then some (μ.set n ⟨false, .dK (dput ks ds k v).1 (dput ks ds k v).2⟩) else none
      | none => none
    | some ⟨false, .dT ks ds⟩ => match i with
      | .tup k => match keysD k with
        | some k => if ks.length < 16777216 then some (μ.set n ⟨false, .dT (dput ks ds k v).1 (dput ks ds k v).2⟩) else none
        | none => none
      | _ => none
    | _ => none
  | _, _, _, _ => none
def sStore (fv fo fi : FE) : FS := fun ρ μ => match fv ρ μ with
  | some (v, μ1) => match fo ρ μ1 with
    | some (o, μ2) => match fi ρ μ2 with
      | some (i, μ3) => match gStore o i v μ3 with
        | some μ4 => some (.nx ρ μ4)
        | none => none
      | none => none
    | none => none
  | none => none

section
variable {K : PySem.W.Frag} {m : Ms} {H : Hp} {σ : L2.St} {μ : Mem} {ρ : Rho}
theorem EnvR.set (E : EnvR K m H ρ σ) {d : D} {v : V} (h : DV K m H d v) (i : Nat) : EnvR K m H (ρ.set i (some d)) (σ.set i (some v)) := by
  refine ⟨by rw [List.length_set, List.length_set]; exact E.len, fun j d' e => ?_⟩
  by_cases hj : j = i
  · subst hj
    have hlt : j < ρ.length := by
      have := (List.getElem?_eq_some_iff.mp e).1
      simpa using this
    rw [List.getElem?_set_self hlt] at e
    cases e
    exact ⟨v, by rw [List.getElem?_set_self (by rw [E.len]; exact hlt)], h⟩
  · rw [List.getElem?_set_ne (Ne.symm hj)] at e
    rw [List.getElem?_set_ne (Ne.symm hj)]
    exact E.get j d' e
theorem EnvR.drop (E : EnvR K m H ρ σ) (i : Nat) : EnvR K m H (ρ.set i none) σ := by
  refine ⟨by rw [List.length_set]; exact E.len, fun j d' e => ?_⟩
  by_cases hj : j = i
  · subst hj
    have hlt : j < ρ.length := by
      have := (List.getElem?_eq_some_iff.mp e).1
      simpa using this
    rw [List.getElem?_set_self hlt] at e
    cases e
  · rw [List.getElem?_set_ne (Ne.symm hj)] at e
    exact E.get j d' e
def forget : List Nat → Rho → Rho
  | [], ρ => ρ
  | i :: l, ρ => forget l (ρ.set i none)
theorem EnvR.forget : ∀ (l : List Nat) {ρ : Rho}, EnvR K m H ρ σ → EnvR K m H (forget l ρ) σ
  | [], _, E => E
  | i :: l, _, E => EnvR.forget l (E.drop i)
end
section
variable {X : Cx} {pos : Pos}
theorem ms_nil : MSs X [] sNext := pssM pss_nil fun E σ H ⟨m, ρ, μ, o, h1, h2, h3, h4⟩ => by
  cases h3
  exact h4 σ H m Ext.refl h1 h2
theorem ms_pass : MS X (.Pass pos) sNext := psM ps_pass fun E σ H ⟨m, ρ, μ, o, h1, h2, h3, h4⟩ => by
  cases h3
  exact h4 σ H m Ext.refl h1 h2
theorem ms_break : MS X (.Break pos) sBreak := psM ps_break fun E σ H ⟨m, ρ, μ, o, h1, h2, h3, h4⟩ => by
  cases h3
  exact h4 σ H m Ext.refl h1 h2
theorem ms_cont : MS X (.Continue pos) sCont := psM ps_continue fun E σ H ⟨m, ρ, μ, o, h1, h2, h3, h4⟩ => by
  cases h3
  exact h4 σ H m Ext.refl h1 h2
theorem ms_never {st : Stmt} : MS X st sNever := psM ps_never fun E σ H ⟨m, ρ, μ, o, h1, h2, h3, h4⟩ => by cases h3
theorem ms_cons {st : Stmt} {rest : List Stmt} {f g : FS} (h : MS X st f) (h' : MSs X rest g) : MSs X (st :: rest) (sSeq f g) :=
  pssM (pss_cons h h') fun E σ H ⟨m, ρ, μ, o, h1, h2, h3, h4⟩ => by
    unfold sSeq at h3
    split at h3
    · rename_i ρ1 μ1 e
      exact ⟨m, ρ, μ, _, h1, h2, e, fun σ' H' m' e' R' E' => ⟨m', ρ1, μ1, o, R', E', h3, h4.ext e'⟩⟩
    · rename_i x hx
      refine ⟨m, ρ, μ, o, h1, h2, h3, ?_⟩
      cases o with
      | nx ρ' μ' => exact absurd h3 (hx ρ' μ')
      | _ => exact h4
theorem ms_one {st : Stmt} {f : FS} (h : MS X st f) : MSs X [st] f := pss_one h
theorem ms_set {i : Nat} {x : Str} {e : Expr} {f : FE} {pos' : Pos} (hN : X.N.Nodup) (hi : X.N[i]? = some x) (hx : Loc X.env.scope x) (he : ME X e f) (hs : swapsWith e (some (.Name x pos')) pos.line X.env = pure false := by rfl)
    (hf : X.fn x = true ∨ X.env.scope.names.lookup x = some .local := by first | exact .inl rfl | exact .inr rfl | assumption) : MS X (.Assign [.Name x pos'] e pos) (sSet i f) :=
  psM (ps_set hN hi hx he hs hf) fun E σ H ⟨m, ρ, μ, o, h1, h2, h3, h4⟩ => by
    unfold sSet at h3
    split at h3
    · rename_i d μ1 e
      cases h3
      exact ⟨m, ρ, μ, d, μ1, h1, h2, e, fun v H' m' e' R' dv => h4 _ H' m' e' R' ((h2.ext e').set dv i)⟩
    · cases h3
theorem ms_ret {e : Expr} {f : FE} (he : ME X e f) : MS X (.Return (some e) pos) (sRet f) :=
  psM (ps_ret he) fun E σ H ⟨m, ρ, μ, o, h1, h2, h3, h4⟩ => by
    unfold sRet at h3
    split at h3
    · rename_i d μ1 e
      cases h3
      exact ⟨m, ρ, μ, d, μ1, h1, h2, e, h4⟩
    · cases h3
theorem ms_retN : MS X (.Return none pos) sRetN := psM ps_retN fun E σ H ⟨m, ρ, μ, o, h1, h2, h3, h4⟩ => by
  cases h3
  exact h4 _ H m Ext.refl h1 rfl
theorem ms_expr {e : Expr} {f : FE} (he : ME X e f) (hs : swapsWith e none pos.line X.env = pure false := by rfl) : MS X (.Expr e pos) (sExpr f) :=
  psM (ps_expr he hs) fun E σ H ⟨m, ρ, μ, o, h1, h2, h3, h4⟩ => by
    unfold sExpr at h3
    split at h3
    · rename_i d μ1 e
      cases h3
      exact ⟨m, ρ, μ, d, μ1, h1, h2, e, fun v H' m' e' R' dv => h4 _ H' m' e' R' (h2.ext e')⟩
    · cases h3
theorem ms_if {c : Expr} {a b : List Stmt} {t : FT} {f g : FS} (hc : MT X c t) (ha : MSs X a f) (hb : MSs X b g) : MS X (.If c a b pos) (sIf t f g) :=
  psM (ps_if hc ha hb) fun E σ H ⟨m, ρ, μ, o, h1, h2, h3, h4⟩ => by
    unfold sIf at h3
    split at h3
    · rename_i μ1 e
      exact ⟨m, ρ, μ, true, μ1, h1, h2, e, fun b H' m' e' R' hb => by cases hb; exact ⟨m', ρ, μ1, o, R', h2.ext e', h3, h4.ext e'⟩⟩
    · rename_i μ1 e
      exact ⟨m, ρ, μ, false, μ1, h1, h2, e, fun b H' m' e' R' hb => by cases hb; exact ⟨m', ρ, μ1, o, R', h2.ext e', h3, h4.ext e'⟩⟩
    · cases h3

/-! ## targets -/
/-- what comprehensions want of a target too: it stores into vs alone -/
structure TgOk (K : PySem.W.Frag) (vs : List Nat) (g : TG) (f : FG) : Prop where
  mono : ∀ v σ H Q, lG K f v σ H Q → g v σ H Q
  only : ∀ v σ H Q, g v σ H Q → g v σ H fun σ' H' => Q σ' H' ∧ wipe σ' vs = wipe σ vs
  mon : ∀ v σ H Q Q', (∀ σ' H', Q σ' H' → Q' σ' H') → g v σ H Q → g v σ H Q'
structure TgsOk (K : PySem.W.Frag) (vs : List Nat) (g : TGs) (f : FGs) : Prop where
  mono : ∀ (m : Ms) (ρ : Rho) (μ : Mem) (ds : List D) (xs : List V) (ρ' : Rho) (μ' : Mem) σ H (Q : L2.St → Hp → Prop), Rel K m H μ → EnvR K m H ρ σ → DVs K m H ds xs → f ds ρ μ = some (ρ', μ') →
    (∀ σ' H' m', Ext m H m' H' → Rel K m' H' μ' → EnvR K m' H' ρ' σ' → Q σ' H') → g xs σ H Q
  only : ∀ v σ H Q, g v σ H Q → g v σ H fun σ' H' => Q σ' H' ∧ wipe σ' vs = wipe σ vs
  mon : ∀ v σ H Q Q', (∀ σ' H', Q σ' H' → Q' σ' H') → g v σ H Q → g v σ H Q'
theorem wipe_none {σ : L2.St} {j : Nat} {vs : List Nat} (h : j ∈ vs) : (wipe σ vs)[j]? = if j < σ.length then some none else none := by
  by_cases hj : j < σ.length
  · rw [if_pos hj]
    have hl : j < (wipe σ vs).length := by rw [wipe_length]; exact hj
    cases e : (wipe σ vs)[j]? with
    | none => rw [List.getElem?_eq_getElem hl] at e; cases e
    | some o =>
      cases o with
      | none => rfl
      | some v => exact absurd h (wipe_some e).2
  · rw [if_neg hj]
    exact List.getElem?_eq_none_iff.mpr (by rw [wipe_length]; omega)
theorem wipe_set {σ : L2.St} {i : Nat} {o : Option V} {vs : List Nat} (h : i ∈ vs) : wipe (σ.set i o) vs = wipe σ vs := by
  apply List.ext_getElem?
  intro j
  by_cases hj : j ∈ vs
  · rw [wipe_none hj, wipe_none hj, List.length_set]
  · have ne : i ≠ j := fun e => hj (e ▸ h)
    rw [wipe_out hj, wipe_out hj, List.getElem?_set_ne ne]
theorem tg_name {K : PySem.W.Frag} {vs : List Nat} (i : Nat) (h : i ∈ vs := by decide) : TgOk K vs (gName i) (fgName i) :=
  ⟨fun v σ H Q ⟨m, ρ, μ, d, ρ', μ', h1, h2, h3, h4, h5⟩ => by
    cases h4
    exact h5 _ H m Ext.refl h1 (h2.set h3 i), fun v σ H Q q => ⟨q, wipe_set h⟩, fun _ _ _ _ _ h q => h _ _ q⟩
theorem tg_nil {K : PySem.W.Frag} {vs : List Nat} : TgsOk K vs gNil fgNil := by
  refine ⟨fun m ρ μ ds xs ρ' μ' σ H Q R E r h q => ?_, fun v σ H Q q => ⟨q.1, q.2, rfl⟩, fun _ _ _ _ _ h q => ⟨q.1, h _ _ q.2⟩⟩
  cases ds with
  | nil => cases h; exact ⟨r, q σ H m Ext.refl R E⟩
  | cons d ds => cases h
theorem tg_cons {K : PySem.W.Frag} {vs : List Nat} {g : TG} {gs : TGs} {f : FG} {fs : FGs} (h : TgOk K vs g f) (h' : TgsOk K vs gs fs) : TgsOk K vs (gCons g gs) (fgCons f fs) := by
  refine ⟨fun m ρ μ ds xs ρ' μ' σ H Q R E r h0 q => ?_, fun v σ H Q q => ?_, fun _ _ _ _ _ hq ⟨x, r, e, q⟩ => ⟨x, r, e, h.mon _ _ _ _ _ (fun _ _ z => h'.mon _ _ _ _ _ hq z) q⟩⟩
  · cases ds with
    | nil => cases h0
    | cons d ds =>
      obtain ⟨x, xs, rfl, r1, r2⟩ := r
      unfold fgCons at h0
      dsimp only at h0
      split at h0
      · rename_i ρ1 μ1 e
        exact ⟨x, xs, rfl, h.mono x σ H _ ⟨m, ρ, μ, d, ρ1, μ1, R, E, r1, e, fun σ' H' m' e' R' E' => h'.mono m' ρ1 μ1 ds xs ρ' μ' σ' H' Q R' E' (DVs.ext e' r2) h0 fun σ2 H2 m2 e2 => q σ2 H2 m2 (e'.trans e2)⟩⟩
      · cases h0
  · obtain ⟨x, r, e, q⟩ := q
    refine ⟨x, r, e, h.mon _ _ _ _ _ (fun σ' H' q' => ?_) (h.only _ _ _ _ q)⟩
    obtain ⟨q1, q2⟩ := q'
    have q3 := h'.only _ _ _ _ q1
    rw [q2] at q3
    exact q3
theorem tg_tup {K : PySem.W.Frag} {vs : List Nat} {gs : TGs} {fs : FGs} {n : Nat} (h : TgsOk K vs gs fs) : TgOk K vs (gTup K n gs) (fgTup n fs) := by
  refine ⟨fun v σ H Q ⟨m, ρ, μ, d, ρ', μ', h1, h2, h3, h4, h5⟩ => ?_, fun v σ H Q ⟨a, xs, h1, h2, h3, h4⟩ => ⟨a, xs, h1, h2, h3, h.only _ _ _ _ h4⟩, fun _ _ _ _ _ hq ⟨a, xs, h3, h4, h5, q⟩ => ⟨a, xs, h3, h4, h5, h.mon _ _ _ _ _ hq q⟩⟩
  unfold fgTup at h4
  split at h4
  · rename_i ds
    obtain ⟨a, xs, rfl, ht, hx⟩ := h3
    split at h4
    · rename_i hn
      exact ⟨a, xs, rfl, ht.sq, by rw [hx.length]; exact hn, h.mono m ρ μ ds xs ρ' μ' σ H Q h1 h2 hx h4 h5⟩
    · cases h4
  · cases h4
theorem ms_asg {tg e : Expr} {f : FE} {g : TG} {fg : FG} (he : ME X e f) (hg : PG X tg g) (ok : TgOk X.K [] g fg ∨ ∃ vs, TgOk X.K vs g fg) (hs : swapsWithSole [tg] e pos.line X.env = pure false := by rfl) (hw : swappedStores [tg] e X.env = pure none := by rfl)
    (h1 : (assignEach [tg] X.env).map (·.2) = [assign tg X.env] := by rfl) : MS X (.Assign [tg] e pos) (sAsg f fg) := by
  have mono : ∀ v σ H Q, lG X.K fg v σ H Q → g v σ H Q := ok.elim (·.mono) fun ⟨_, k⟩ => k.mono
  refine psM (ps_asg he hg hs hw h1) fun E σ H ⟨m, ρ, μ, o, h1, h2, h3, h4⟩ => ?_
  unfold sAsg at h3
  split at h3
  · rename_i d μ1 e
    split at h3
    · rename_i ρ2 μ2 e2
      cases h3
      exact ⟨m, ρ, μ, d, μ1, h1, h2, e, fun v H' m' e' R' dv => mono _ _ _ _ ⟨m', ρ, μ1, d, ρ2, μ2, R', h2.ext e', dv, e2, fun σ3 H3 m3 e3 => h4 σ3 H3 m3 (e'.trans e3)⟩⟩
    · cases h3
  · cases h3
end
end Mi
namespace PySem
open Sem (wp)
set_option maxHeartbeats 1000000 in
theorem meets_enumerate_new1 {v : Value} {o : Obj} {H : Heap → Prop} (B : Begins v o H) :
    Meets (Builtin.«enumerate.__new__» ⟨[.type "enumerate", v], []⟩) (fun _ R s => H s.heap ∧
      R (.ok (.ret (.ref (s.heap.push o).objs.size))) { s with heap := (s.heap.push o).push { cls := .type "enumerate", data := .fields #[.none, .bool false, .ref s.heap.objs.size, rawInt 0, .none, .none] } }) :=
  .of_wp fun prog w A R s h => by
    obtain ⟨hp, g, d, tk, os⟩ := s; obtain ⟨h1, h⟩ := h
    have hsub := sub_enumerate
    have q1 : ∀ {A' : Around} {E : Value → Shared → Prop} {Q : Value → Shared → Prop}, Q (.ref hp.objs.size) ⟨hp.push o, g, d, tk, os⟩ → wpAny (model prog w) A' (pyIter v) Q E ⟨hp, g, d, tk, os⟩ :=
      fun q => B.iter prog w _ _ ⟨hp, g, d, tk, os⟩ _ h1 q
    wp_walk using q1
    refine wpAny_stack_any fun st => wpAny_pure ?_
    split
    · rename_i c _ _ _ _ _
      cases (c == Value.type "enumerate")
      · wp_walk using q1
        exact ⟨_, rfl, h⟩
      · wp_walk using q1
        exact ⟨_, rfl, h⟩
    · wp_walk using q1
      exact ⟨_, rfl, h⟩
section
variable {prog : Program} {w : World} {A : Around} {E : Value → Shared → Prop} {s : Shared}
theorem enum_begins1 {v : Value} {o : Obj} {H : Heap → Prop} {Q : Value → Shared → Prop} (B : Begins v o H) (h1 : H s.heap)
    (h : ∀ h', IsEnum h' (s.heap.objs.size + 1) s.heap.objs.size 0 .none → h'.get? s.heap.objs.size = some o → h'.objs.size = s.heap.objs.size + 2 →
      (∀ b o, s.heap.get? b = some o → h'.get? b = some o) → Q (.ref (s.heap.objs.size + 1)) { s with heap := h' }) :
    wpAny (model prog w) A (call (.type "enumerate") [v]) Q E s := by
  refine callType_new F.called_enumerate (by decide) (F.typeCall_enumerate_1 _) (F.newCall_enumerate_1 _) (fun obj => F.args_object_init_2 obj _) F.entry_enumerate_new
    (meets_enumerate_new1 B) ⟨h1, ?_⟩
  have hz : (s.heap.push o).objs.size = s.heap.objs.size + 1 := Heap.size_push ..
  show _ ∧ _
  rw [hz]
  have he : IsEnum ((s.heap.push o).push { cls := .type "enumerate", data := .fields #[.none, .bool false, .ref s.heap.objs.size, rawInt 0, .none, .none] }) (s.heap.objs.size + 1) s.heap.objs.size 0 .none := by
    have := Heap.get?_push_size (s.heap.push o) (o := { cls := .type "enumerate", data := .fields #[.none, .bool false, .ref s.heap.objs.size, rawInt 0, .none, .none] }) rfl
    rw [hz] at this; exact this
  exact ⟨⟨_, he, rfl⟩, h _ he (Heap.get?_push_of_some _ (Heap.get?_push_size _ B.free)) (by rw [Heap.size_push, hz]) fun b o x => Heap.get?_push_of_some _ (Heap.get?_push_of_some _ x)⟩
end
end PySem
namespace Mi
open PySem PySem.Spec PyProof.Rows L2

/-! ## a list or a tuple -/
def IsSq (b : Bool) (h : Heap) (a : Addr) (its : Array Value) : Prop := match b with
  | true => h.IsList a its
  | false => h.IsTuple a its
def IsSqIt (b : Bool) (h : Heap) (it a : Addr) (i : Nat) : Prop := match b with
  | true => h.IsListIter it a i
  | false => h.IsTupleIter it a i
def SqB (b : Bool) (H : Hp) (a : Addr) (xs : List V) : Prop := match b with
  | true => Rd H a (.lst xs)
  | false => H a = some (.tup xs)
theorem rd_inj {H : Hp} {a : Addr} {u u' : HO} (h : Rd H a u) (h' : Rd H a u') (p : Plain u) (p' : Plain u') : u = u' := by
  rcases h with h | ⟨o, h⟩ <;> rcases h' with h' | ⟨o', h'⟩ <;> rw [h] at h'
  · cases h'; rfl
  · cases h'; exact p.elim
  · cases h'; exact p'.elim
  · cases h'; rfl
theorem SqB.inj {b : Bool} {H : Hp} {a : Addr} {xs ys : List V} (h : SqB b H a xs) (h' : SqB b H a ys) : xs = ys := by
  cases b with
  | true => exact HO.lst.inj (rd_inj h h' trivial trivial)
  | false =>
    have h1 : H a = some (.tup xs) := h
    have h2 : H a = some (.tup ys) := h'
    rw [h1] at h2; cases h2; rfl
def itObj (b : Bool) (a : Addr) : Obj := match b with
  | true => { cls := .type "list_iterator", data := .fields #[.ref a, .int 0 0] }
  | false => { cls := .type "tuple_iterator", data := .fields #[.ref a, .int 0 0] }
theorem begins_b (b : Bool) (a : Addr) (items : Array Value) : Begins (.ref a) (itObj b a) fun h => IsSq b h a items := by
  cases b
  · exact begins_tuple a items
  · exact begins_list a items
theorem draws_b (b : Bool) {prog : Program} {w : World} {A : Around} (hh : A.handled = none) (it a : Addr) (hne : a ≠ it) (items : Array Value) :
    Draws prog w A it [it, a] items.size (fun i v => items[i]? = some v) (fun i h => IsSqIt b h it a i ∧ IsSq b h a items) := by
  cases b
  · exact Draws.tuple hh it a hne items
  · exact Draws.list hh it a hne items
theorem sqIt_obj {b : Bool} {h : Heap} {it a : Addr} {i : Nat} (x : IsSqIt b h it a i) : ∃ o, h.get? it = some o ∧ (∃ n, o.cls = .type n ∧ n ≠ "list" ∧ n ≠ "tuple") ∧ ∃ vs, o.data = .fields vs := by
  cases b
  · obtain ⟨o, e, c, d⟩ := x; exact ⟨o, e, ⟨_, c, by decide, by decide⟩, _, d⟩
  · obtain ⟨o, e, c, d⟩ := x; exact ⟨o, e, ⟨_, c, by decide, by decide⟩, _, d⟩
theorem sqIt_at {b : Bool} {h h' : Heap} {it a : Addr} {i : Nat} (x : IsSqIt b h it a i) (k : ∀ o, h.get? it = some o → h'.get? it = some o) : IsSqIt b h' it a i := by
  cases b
  · exact Heap.IsTupleIter.at x k
  · exact Heap.IsListIter.at x k
theorem sqIt_new {b : Bool} {h : Heap} {it a : Addr} (x : h.get? it = some (itObj b a)) : IsSqIt b h it a 0 := by
  cases b
  · exact ⟨_, x, rfl, rfl⟩
  · exact ⟨_, x, rfl, rfl⟩
theorem sq_obj {b : Bool} {h : Heap} {a : Addr} {its : Array Value} (x : IsSq b h a its) : ∃ o, h.get? a = some o ∧ (o.cls = .type "list" ∨ o.cls = .type "tuple") := by
  cases b
  · obtain ⟨o, e, c, d⟩ := x; exact ⟨o, e, .inr c⟩
  · obtain ⟨o, e, c, d⟩ := x; exact ⟨o, e, .inl c⟩
section
variable {X : Cx} {pins : List (Addr × Obj)} {σ : L2.St} {H : Hp} {s : Shared}
theorem inv_sq {b : Bool} {a : Addr} {xs : List V} (I : L2.Inv X pins σ H s) (h : SqB b H a xs) : ∃ its : List Value, Vals xs its ∧ IsSq b s.heap a its.toArray := by
  cases b
  · obtain ⟨its, r, p, _⟩ := I.tuple (.inl (.inl h))
    exact ⟨its, r, p⟩
  · obtain ⟨its, r, p, _⟩ := I.list (.inl h)
    exact ⟨its, r, p.isList⟩
end
/-! ## enumerate -/
def IteB (b : Bool) (a : Addr) : It :=
  ⟨fun i H => ∃ (xs : List V) (x : V), SqB b H a xs ∧ xs[i]? = some x, fun i H v H' => ∃ T x, v = .ref T ∧ H T = none ∧ H' = upd H T (.tup [.int (i : Nat), x]) ∧ ∀ xs, SqB b H a xs → xs[i]? = some x, fun i H => ∃ xs : List V, SqB b H a xs ∧ xs.length = i⟩
theorem turn_enumB {P : Program} {w : World} {K : PySem.W.Frag} {b : Bool} {elts : List Expr} {kk : Nat} {tpos : Pos} (a e it : Addr) :
    Turn P w K (.Tuple elts kk tpos) (IteB b a) [e, it] e (fun i h => (∃ old, IsEnum h e it ((i : Nat) : Int) old) ∧ IsSqIt b h it a i ∧ e ≠ it) where
  mem := by simp
  obj := fun i h st c hc => by
    obtain ⟨⟨old, he⟩, hi, _⟩ := st
    obtain ⟨o, ho, _, vs, hd⟩ := sqIt_obj hi
    have e' : c = e ∨ c = it := by simpa using hc
    rcases e' with z | z
    · rw [z]; exact ⟨_, he, fun v q => nomatch q⟩
    · rw [z]; exact ⟨o, ho, fun v q => by rw [hd] at q; cases q⟩
  keep := fun i h h' st k => let ⟨⟨old, he⟩, hi, hne⟩ := st; ⟨⟨old, k e (by simp) _ he⟩, sqIt_at hi fun o q => k it (by simp) o q, hne⟩
  item := by
    intro X hP hw hK hc i pins s σ H E I hf st hg
    subst hP hw hK
    obtain ⟨⟨old, he⟩, hit, hne⟩ := st
    obtain ⟨xs, x, hq, hx⟩ := hg
    obtain ⟨its, rv, p⟩ := inv_sq I hq
    obtain ⟨u, hu, ru⟩ := rv.get hx
    have hel : e < s.heap.objs.size := Heap.lt_size he
    obtain ⟨oi, hoi, ⟨n, hn, n1, n2⟩, vs, hvs⟩ := sqIt_obj hit
    have hil : it < s.heap.objs.size := Heap.lt_size hoi
    obtain ⟨oa, hoa, hca⟩ := sq_obj p
    have hai : a ≠ it := fun z => by
      subst z; rw [hoi] at hoa; cases hoa
      rw [hn] at hca
      rcases hca with q | q
      · exact n1 (Value.type.inj q)
      · exact n2 (Value.type.inj q)
    have hea : e ≠ a := fun z => by
      subst z; rw [he] at hoa; cases hoa
      rcases hca with q | q <;> simp at q
    have D := draws_b b (prog := X.prog) (w := X.w) (A := X.A.in1) (I.ok.hd hc) it a hai its.toArray
    have hlt : i < its.toArray.size := by
      have := (List.getElem?_eq_some_iff.mp hu).1
      simpa using this
    refine wpAny_pyNext_enum_itemD D he ⟨hit, p⟩ hlt hne (by simp [hne, hea]) fun v h' tk hv ho hst' hT hsz hk => ?_
    have ev : v = u := by
      have q : its[i]? = some v := by simpa using hv
      rw [hu] at q; cases q; rfl
    subst ev
    refine ⟨_, rfl, wpAny_letOwnedTupleGo_enum (s := { s with heap := h', toks := tk + 1 }) ho fun h'' he' sb => ?_⟩
    have hT2 : h''.get? s.heap.objs.size = some { cls := .type "tuple", data := .seq #[.int i tk, v] } := (sb.2 _ (Nat.ne_of_gt hel)).trans hT
    have new : ObjOk X.prog X.w (upd H s.heap.objs.size (.tup [.int (i : Nat), x])) h'' s.heap.objs.size (.tup [.int (i : Nat), x]) :=
      ⟨by show 2 ≤ sizeLine; decide, [.int i tk, v], .cons ⟨_, rfl⟩ (.cons ru .nil), ⟨_, hT2, rfl, _, rfl⟩⟩
    have I1 : L2.Inv X pins σ (upd H s.heap.objs.size (.tup [.int (i : Nat), x])) { s with heap := h'', toks := tk + 1 } :=
      I.turnedNew (ch := [e, it]) (fun c ob hb q => (sb.2 c (fun z => hb (by simp [z]))).trans (hk c ob (fun z => hb (by simp [z])) (fun z => hb (by simp [z])) q)) hf (Nat.le_refl _) new
    refine ⟨.ref s.heap.objs.size, _, I1, rfl, ⟨_, x, rfl, I.hok.fresh (Nat.le_refl _), rfl, fun ys hy => by rw [hy.inj hq]; exact hx⟩, ⟨⟨v, ?_⟩, sqIt_at hst'.1 fun o q => (sb.2 it (Ne.symm hne)).trans q, hne⟩, fun c hb => ?_⟩
    · have e1 : ((i + 1 : Nat) : Int) = (i : Int) + 1 := by omega
      rw [e1]; exact he'
    · have hb' : c < s.heap.objs.size := by
        have e' : c = e ∨ c = it := by simpa using hb
        rcases e' with z | z
        · rw [z]; exact hel
        · rw [z]; exact hil
      rw [upd_ne (Nat.ne_of_lt hb')]
      exact (hf c hb).1
  done := by
    intro X hP hw hK hc i pins s σ H E I hf st hg
    subst hP hw hK
    obtain ⟨⟨old, he⟩, hit, hne⟩ := st
    obtain ⟨xs, hq, hx⟩ := hg
    obtain ⟨its, rv, p⟩ := inv_sq I hq
    obtain ⟨f0, f1, f2, f3, f4, f5⟩ := hf it (by simp)
    have hl := rv.length
    obtain ⟨oi, hoi, ⟨n, hn, n1, n2⟩, vs, hvs⟩ := sqIt_obj hit
    obtain ⟨oa, hoa, hca⟩ := sq_obj p
    have hai : a ≠ it := fun z => by
      subst z; rw [hoi] at hoa; cases hoa
      rw [hn] at hca
      rcases hca with q | q
      · exact n1 (Value.type.inj q)
      · exact n2 (Value.type.inj q)
    have D := draws_b b (prog := X.prog) (w := X.w) (A := X.A.in1) (I.ok.hd hc) it a hai its.toArray
    have e1 : its.toArray.size = i := by rw [List.size_toArray]; omega
    exact wpAny_pyNext_enum_endD D he (by rw [e1]; exact ⟨hit, p⟩) fun h' eb => ⟨rfl, I.turned (t' := s.toks) (fun c o hb q => eb c o hb q) f0 f1 f3 f4 f5⟩
  self := fun A i s Q E st h => let ⟨⟨_, he⟩, _⟩ := st; wpAny_pyIter_enum he h
def iEnumB (ta : TA) : TI := fun σ H R => ta σ H fun vs H1 => ∃ b a xs, vs = [.ref a] ∧ SqB b H1 a xs ∧ R (IteB b a) H1
theorem pi_enumB {X : Cx} {e : Expr} {ta : TA} {p pos tpos : Pos} {elts : List Expr} {kk : Nat} (hg : Gl X "enumerate") (hm : X.mg "enumerate" = none) (ha : PA X [e] ta) (hs : starEach [e] X.env = [(false, eval e X.env)] := by rfl) :
    PI X (.Tuple elts kk tpos) (.Call (.Name "enumerate" p) [e] [] pos) (iEnumB ta) := by
  refine ⟨fun pins s σ H R I h => ?_⟩
  refine Call_ (ld_blt I hg hm boot_enumerate (PyProof.Rows.callWith_type1 (thn (ha.run pos pins s σ H _ I h) fun us s1 ⟨vs, H1, I1, r1, q1⟩ => ?_) hs rfl))
  obtain ⟨b, a, xs, ex, hq, q⟩ := q1
  subst ex
  cases r1 with
  | cons r rr =>
    cases rr
    cases r
    obtain ⟨its, rv, p'⟩ := inv_sq I1 hq
    refine enum_begins1 (begins_b b a its.toArray) p' fun h' he hit hsz hk => wpAny_pyIter_enum he ?_
    have I2 : L2.Inv X pins σ H1 { s1 with heap := h' } := I1.kept (t' := s1.toks) hk
    refine ⟨s1.heap.objs.size + 1, [s1.heap.objs.size + 1, s1.heap.objs.size], _, _, H1, rfl, I2, turn_enumB a (s1.heap.objs.size + 1) s1.heap.objs.size, ⟨⟨.none, he⟩, sqIt_new hit, Nat.succ_ne_self _⟩, fun c hb => ?_, q⟩
    have e' : c = s1.heap.objs.size + 1 ∨ c = s1.heap.objs.size := by simpa using hb
    have hle : s1.heap.objs.size ≤ c := by
      rcases e' with z | z
      · rw [z]; exact Nat.le_add_right _ _
      · rw [z]; exact Nat.le_refl _
    exact I1.fpOk hle (I1.hok.fresh hle)
end Mi
namespace Mi
open PySem PySem.Spec PyProof.Rows L2
/-! ## zip of two -/
def ItzB (b c : Bool) (a a' : Addr) : It :=
  ⟨fun i H => ∃ (xs ys : List V) (x y : V), SqB b H a xs ∧ SqB c H a' ys ∧ xs[i]? = some x ∧ ys[i]? = some y,
    fun i H v H' => ∃ T x y, v = .ref T ∧ H T = none ∧ H' = upd H T (.tup [x, y]) ∧ (∀ xs, SqB b H a xs → xs[i]? = some x) ∧ ∀ ys, SqB c H a' ys → ys[i]? = some y,
    fun i H => ∃ xs ys : List V, SqB b H a xs ∧ SqB c H a' ys ∧ min xs.length ys.length = i⟩
theorem it_ne {b c : Bool} {h : Heap} {it a a' : Addr} {i : Nat} {its : Array Value} (x : IsSqIt b h it a i) (y : IsSq c h a' its) : a' ≠ it := by
  obtain ⟨oi, hoi, ⟨n, hn, n1, n2⟩, vs, hvs⟩ := sqIt_obj x
  obtain ⟨oa, hoa, hca⟩ := sq_obj y
  intro z
  subst z; rw [hoi] at hoa; cases hoa
  rw [hn] at hca
  rcases hca with q | q
  · exact n1 (Value.type.inj q)
  · exact n2 (Value.type.inj q)
theorem zip_ne {c : Bool} {h : Heap} {z TI TO a' : Addr} {v : Value} {its : Array Value} (x : IsZip h z TI TO v) (y : IsSq c h a' its) : z ≠ a' := by
  obtain ⟨oa, hoa, hca⟩ := sq_obj y
  intro e
  subst e
  have x' := x
  unfold IsZip at x'
  rw [x'] at hoa; cases hoa
  rcases hca with q | q <;> simp at q
theorem sqB_live {b : Bool} {H : Hp} {a : Addr} {xs : List V} (h : SqB b H a xs) : H a ≠ none := by
  cases b
  · exact liveSome h
  · exact rdLive h
structure Apart2 (z TI TO i1 i2 : Addr) : Prop where
  h1 : TI ≠ z
  h2 : TO ≠ z
  h3 : TI ≠ TO
  h4 : TI ≠ i1
  h5 : TI ≠ i2
  h6 : z ≠ i1
  h7 : z ≠ i2
  h8 : TO ≠ i1
  h9 : TO ≠ i2
  h10 : i1 ≠ i2
theorem turn_zipB {P : Program} {w : World} {K : PySem.W.Frag} {b c : Bool} {elts : List Expr} {kk : Nat} {tpos : Pos} {a a' z TI TO i1 i2 : Addr} (S : Apart2 z TI TO i1 i2) :
    Turn P w K (.Tuple elts kk tpos) (ItzB b c a a') [z, TI, TO, i1, i2] z (fun i h => IsZip h z TI TO .none ∧ IsTupOf2 h TI (.ref i1) (.ref i2) ∧ (∃ x y, IsTupOf2 h TO x y) ∧ IsSqIt b h i1 a i ∧ IsSqIt c h i2 a' i) where
  mem := by simp
  obj := fun i h st d hc => by
    obtain ⟨hz, hTI, ⟨x, y, hTO⟩, s1, s2⟩ := st
    obtain ⟨o1, e1, _, _, d1⟩ := sqIt_obj s1
    obtain ⟨o2, e2, _, _, d2⟩ := sqIt_obj s2
    have e' : d = z ∨ d = TI ∨ d = TO ∨ d = i1 ∨ d = i2 := by simpa using hc
    rcases e' with q | q | q | q | q
    · rw [q]; exact ⟨_, hz, fun v q => nomatch q⟩
    · rw [q]; exact ⟨_, hTI, fun v q => nomatch q⟩
    · rw [q]; exact ⟨_, hTO, fun v q => nomatch q⟩
    · rw [q]; exact ⟨o1, e1, fun v q => by rw [d1] at q; cases q⟩
    · rw [q]; exact ⟨o2, e2, fun v q => by rw [d2] at q; cases q⟩
  keep := fun i h h' st k => by
    obtain ⟨hz, hTI, ⟨x, y, hTO⟩, h1, h2⟩ := st
    exact ⟨k z (by simp) _ hz, k TI (by simp) _ hTI, ⟨x, y, k TO (by simp) _ hTO⟩, sqIt_at h1 fun o q => k i1 (by simp) o q, sqIt_at h2 fun o q => k i2 (by simp) o q⟩
  item := by
    intro X hP hw hK hc i pins s σ H E I hf st hg
    subst hP hw hK
    obtain ⟨hz, hTI, ⟨x0, y0, hTO⟩, h1, h2⟩ := st
    obtain ⟨xs, ys, x, y, hqx, hqy, hx, hy⟩ := hg
    obtain ⟨its, rv, p⟩ := inv_sq I hqx
    obtain ⟨its2, rv2, p2⟩ := inv_sq I hqy
    obtain ⟨u, hu, ru⟩ := rv.get hx
    obtain ⟨u2, hu2, ru2⟩ := rv2.get hy
    have hzl : z < s.heap.objs.size := Heap.lt_size hz
    have ne11 := it_ne h1 p
    have ne12 := it_ne h1 p2
    have ne21 := it_ne h2 p
    have ne22 := it_ne h2 p2
    have nz1 := zip_ne hz p
    have nz2 := zip_ne hz p2
    have T1 : TO ≠ a := fun e => sqB_live hqx (e ▸ (hf TO (by simp)).1)
    have T2 : TO ≠ a' := fun e => sqB_live hqy (e ▸ (hf TO (by simp)).1)
    have D1 := draws_b b (prog := X.prog) (w := X.w) (A := X.A.in1) (I.ok.hd hc) i1 a ne11 its.toArray
    have D2 := draws_b c (prog := X.prog) (w := X.w) (A := X.A.in1) (I.ok.hd hc) i2 a' ne22 its2.toArray
    have Z : ZipSep2 z TI TO i1 i2 [i1, a] [i2, a'] := ⟨S.h1, S.h2, S.h3, S.h4, by simp, by simp [S.h6, nz1], by simp [S.h8, T1], S.h5, by simp, by simp [S.h7, nz2], by simp [S.h9, T2], by simp [S.h10, ne12.symm], by simp [S.h10.symm, ne21.symm]⟩
    have hlt1 : i < its.toArray.size := by
      have := (List.getElem?_eq_some_iff.mp hu).1
      simpa using this
    have hlt2 : i < its2.toArray.size := by
      have := (List.getElem?_eq_some_iff.mp hu2).1
      simpa using this
    refine wpAny_pyNext_zipD2_item Z D1 D2 hz hTI hTO ⟨h1, p⟩ ⟨h2, p2⟩ hlt1 hlt2 fun v v2 h' tk hv hv2 z' TO' st1' st2' hT hsz hk => ?_
    have ev : v = u := by
      have q : its[i]? = some v := by simpa using hv
      rw [hu] at q; cases q; rfl
    have ev2 : v2 = u2 := by
      have q : its2[i]? = some v2 := by simpa using hv2
      rw [hu2] at q; cases q; rfl
    subst ev ev2
    refine ⟨_, rfl, wpAny_letOwnedTupleGo_zip (s := { s with heap := h', toks := tk }) z' fun h'' z'' sb => ?_⟩
    have hT2 : h''.get? s.heap.objs.size = some { cls := .type "tuple", data := .seq #[v, v2] } := (sb.2 _ (Nat.ne_of_gt hzl)).trans hT
    have new : ObjOk X.prog X.w (upd H s.heap.objs.size (.tup [x, y])) h'' s.heap.objs.size (.tup [x, y]) :=
      ⟨by show 2 ≤ sizeLine; decide, [v, v2], .cons ru (.cons ru2 .nil), ⟨_, hT2, rfl, _, rfl⟩⟩
    have I1 : L2.Inv X pins σ (upd H s.heap.objs.size (.tup [x, y])) { s with heap := h'', toks := tk } :=
      I.turnedNew (ch := [z, TI, TO, i1, i2]) (fun d o hb q => (sb.2 d (fun q' => hb (by simp [q']))).trans (hk d o (fun q' => hb (by simp [q'])) (fun q' => hb (by simp [q'])) (fun q' => hb (by simp [q'])) (fun q' => hb (by simp [q'])) q)) hf (Nat.le_refl _) new
    refine ⟨.ref s.heap.objs.size, _, I1, rfl, ⟨_, x, y, rfl, I.hok.fresh (Nat.le_refl _), rfl, fun l hl => by rw [hl.inj hqx]; exact hx, fun l hl => by rw [hl.inj hqy]; exact hy⟩, ⟨z'', ?_, ⟨v, v2, ?_⟩, ?_, ?_⟩, fun d hcm => ?_⟩
    · exact (sb.2 _ S.h1).trans (hk _ _ S.h1 S.h3 S.h4 S.h5 hTI)
    · exact (sb.2 _ S.h2).trans TO'
    · exact sqIt_at st1'.1 fun o q => (sb.2 _ S.h6.symm).trans q
    · exact sqIt_at st2'.1 fun o q => (sb.2 _ S.h7.symm).trans q
    · have hd : d < s.heap.objs.size := by
        obtain ⟨o1, e1, _⟩ := sqIt_obj h1
        obtain ⟨o2, e2, _⟩ := sqIt_obj h2
        have e' : d = z ∨ d = TI ∨ d = TO ∨ d = i1 ∨ d = i2 := by simpa using hcm
        rcases e' with q | q | q | q | q
        · rw [q]; exact hzl
        · rw [q]; exact Heap.lt_size hTI
        · rw [q]; exact Heap.lt_size hTO
        · rw [q]; exact Heap.lt_size e1
        · rw [q]; exact Heap.lt_size e2
      rw [upd_ne (Nat.ne_of_lt hd)]
      exact (hf d hcm).1
  done := by
    intro X hP hw hK hc i pins s σ H E I hf st hg
    subst hP hw hK
    obtain ⟨hz, hTI, ⟨x0, y0, hTO⟩, h1, h2⟩ := st
    obtain ⟨xs, ys, hqx, hqy, hx⟩ := hg
    obtain ⟨its, rv, p⟩ := inv_sq I hqx
    obtain ⟨its2, rv2, p2⟩ := inv_sq I hqy
    have hl := rv.length
    have hl2 := rv2.length
    have ne11 := it_ne h1 p
    have ne12 := it_ne h1 p2
    have ne21 := it_ne h2 p
    have ne22 := it_ne h2 p2
    have nz1 := zip_ne hz p
    have nz2 := zip_ne hz p2
    have T1 : TO ≠ a := fun e => sqB_live hqx (e ▸ (hf TO (by simp)).1)
    have T2 : TO ≠ a' := fun e => sqB_live hqy (e ▸ (hf TO (by simp)).1)
    have D1 := draws_b b (prog := X.prog) (w := X.w) (A := X.A.in1) (I.ok.hd hc) i1 a ne11 its.toArray
    have D2 := draws_b c (prog := X.prog) (w := X.w) (A := X.A.in1) (I.ok.hd hc) i2 a' ne22 its2.toArray
    have Z : ZipSep2 z TI TO i1 i2 [i1, a] [i2, a'] := ⟨S.h1, S.h2, S.h3, S.h4, by simp, by simp [S.h6, nz1], by simp [S.h8, T1], S.h5, by simp, by simp [S.h7, nz2], by simp [S.h9, T2], by simp [S.h10, ne12.symm], by simp [S.h10.symm, ne21.symm]⟩
    exact wpAny_pyNext_zipD2_end Z D1 D2 hz hTI hTO ⟨h1, p⟩ ⟨h2, p2⟩ (by rw [List.size_toArray]; omega) (by rw [List.size_toArray]; omega) (by rw [List.size_toArray, List.size_toArray]; omega) fun h' tk hk => ⟨rfl,
      I.turnedL (t' := tk) (ch := [z, TI, TO, i1, i2]) (fun d o hb q => hk d o (fun q' => hb (by simp [q'])) (fun q' => hb (by simp [q'])) (fun q' => hb (by simp [q'])) (fun q' => hb (by simp [q'])) q) hf⟩
  self := fun A i s Q E st h => wpAny_pyIter_zip st.1 h
def iZipB (ta : TA) : TI := fun σ H R => ta σ H fun vs H1 => ∃ b c a a' xs ys, vs = [.ref a, .ref a'] ∧ SqB b H1 a xs ∧ SqB c H1 a' ys ∧ R (ItzB b c a a') H1
theorem pi_zipB {X : Cx} {e e2 : Expr} {ta : TA} {p pos tpos : Pos} {elts : List Expr} {kk : Nat} (hg : Gl X "zip") (hm : X.mg "zip" = none) (ha : PA X [e, e2] ta) (hs : starEach [e, e2] X.env = (false, eval e X.env) :: starEach [e2] X.env := by rfl)
    (hpl : (backTo pos (starEach [e2] X.env)).any (·.1) = false := by rfl) :
    PI X (.Tuple elts kk tpos) (.Call (.Name "zip" p) [e, e2] [] pos) (iZipB ta) := by
  refine ⟨fun pins s σ H R I h => ?_⟩
  refine Call_ (ld_blt I hg hm (by decide +kernel : bootBuiltins "zip" = some (.type "zip")) (PyProof.Rows.callWith_type1 (thn (ha.run pos pins s σ H _ I h) fun us s1 ⟨vs, H1, I1, r1, q1⟩ => ?_) hs hpl))
  obtain ⟨b, c, a, a', xs, ys, ex, hq, hq2, q⟩ := q1
  subst ex
  cases r1 with
  | cons r rr =>
    cases rr with
    | cons r' rr =>
      cases rr
      cases r
      cases r'
      obtain ⟨its, rv, p'⟩ := inv_sq I1 hq
      obtain ⟨its2, rv2, p2⟩ := inv_sq I1 hq2
      refine zip_begins2 (begins_b b a its.toArray) (begins_b c a' its2.toArray) p' p2 fun h' hz hTI hTO h1 h2 hsz hk => wpAny_pyIter_zip hz ?_
      have I2 : L2.Inv X pins σ H1 { s1 with heap := h' } := I1.kept (t' := s1.toks) hk
      have A : Apart2 (s1.heap.objs.size + 4) (s1.heap.objs.size + 2) (s1.heap.objs.size + 3) s1.heap.objs.size (s1.heap.objs.size + 1) := by
        have ne : ∀ n i j : Nat, i ≠ j → n + i ≠ n + j := fun n i j h => by omega
        have n0 : ∀ n i : Nat, 0 < i → n + i ≠ n := fun n i h => by omega
        exact ⟨ne _ 2 4 (by decide), ne _ 3 4 (by decide), ne _ 2 3 (by decide), n0 _ 2 (by decide), ne _ 2 1 (by decide), n0 _ 4 (by decide), ne _ 4 1 (by decide), n0 _ 3 (by decide), ne _ 3 1 (by decide), (n0 _ 1 (by decide)).symm⟩
      refine ⟨s1.heap.objs.size + 4, [s1.heap.objs.size + 4, s1.heap.objs.size + 2, s1.heap.objs.size + 3, s1.heap.objs.size, s1.heap.objs.size + 1], _, _, H1, rfl, I2, turn_zipB A, ⟨hz, hTI, ⟨_, _, hTO⟩, sqIt_new h1, sqIt_new h2⟩, fun d hb => ?_, q⟩
      have hle : s1.heap.objs.size ≤ d := by
        have e' : d = s1.heap.objs.size + 4 ∨ d = s1.heap.objs.size + 2 ∨ d = s1.heap.objs.size + 3 ∨ d = s1.heap.objs.size ∨ d = s1.heap.objs.size + 1 := by simpa using hb
        rcases e' with z | z | z | z | z <;> rw [z] <;> first | exact Nat.le_add_right _ _ | exact Nat.le_refl _
      exact I1.fpOk hle (I1.hok.fresh hle)
end Mi
namespace Mi
open PySem PySem.Spec PyProof.Rows L2

/-! ## the same data -/
mutual
def beqD : D → D → Bool
  | .non, .non => true
  | .bl a, .bl b => decide (a = b)
  | .int i, .int j => decide (i = j)
  | .str x, .str y => decide (x = y)
  | .adr a, .adr b => decide (a = b)
  | .ref a, .ref b => decide (a = b)
  | .tup a, .tup b => beqDs a b
  | .lst a, .lst b => beqDs a b
  | .dK ks a, .dK ks' b => decide (ks = ks') && beqDs a b
  | .dT ks a, .dT ks' b => decide (ks = ks') && beqDs a b
  | .obj C fs a, .obj C' fs' b => decide (C = C') && decide (fs = fs') && beqDs a b
  | .scr a, .scr b => decide (a = b)
  | _, _ => false
def beqDs : List D → List D → Bool
  | [], [] => true
  | a :: as, b :: bs => beqD a b && beqDs as bs
  | _, _ => false
end
mutual
theorem beqD_eq : ∀ {a b : D}, beqD a b = true → a = b
  | .non, b, h => by cases b <;> first | rfl | cases h
  | .bl a, b, h => by cases b <;> first | (cases h; done) | (simp only [beqD, decide_eq_true_eq] at h; rw [h])
  | .int a, b, h => by cases b <;> first | (cases h; done) | (simp only [beqD, decide_eq_true_eq] at h; rw [h])
  | .str a, b, h => by cases b <;> first | (cases h; done) | (simp only [beqD, decide_eq_true_eq] at h; rw [h])
  | .adr a, b, h => by cases b <;> first | (cases h; done) | (simp only [beqD, decide_eq_true_eq] at h; rw [h])
  | .ref a, b, h => by cases b <;> first | (cases h; done) | (simp only [beqD, decide_eq_true_eq] at h; rw [h])
  | .tup a, b, h => by cases b <;> first | (cases h; done) | (simp only [beqD] at h; rw [beqDs_eq h])
  | .lst a, b, h => by cases b <;> first | (cases h; done) | (simp only [beqD] at h; rw [beqDs_eq h])
  | .dK ks a, b, h => by cases b <;> first | (cases h; done) | (simp only [beqD, Bool.and_eq_true, decide_eq_true_eq] at h; rw [h.1, beqDs_eq h.2])
  | .dT ks a, b, h => by cases b <;> first | (cases h; done) | (simp only [beqD, Bool.and_eq_true, decide_eq_true_eq] at h; rw [h.1, beqDs_eq h.2])
  | .obj C fs a, b, h => by cases b <;> first | (cases h; done) | (simp only [beqD, Bool.and_eq_true, decide_eq_true_eq] at h; rw [h.1.1, h.1.2, beqDs_eq h.2])
  | .scr a, b, h => by cases b <;> first | (cases h; done) | (simp only [beqD, decide_eq_true_eq] at h; rw [h])
theorem beqDs_eq : ∀ {a b : List D}, beqDs a b = true → a = b
  | [], [], _ => rfl
  | [], _ :: _, h => by cases h
  | _ :: _, [], h => by cases h
  | a :: as, b :: bs, h => by
    simp only [beqDs, Bool.and_eq_true] at h
    rw [beqD_eq h.1, beqDs_eq h.2]
end
mutual
theorem beqD_refl : ∀ (a : D), beqD a a = true
  | .non => rfl
  | .bl a => by simp [beqD]
  | .int a => by simp [beqD]
  | .str a => by simp [beqD]
  | .adr a => by simp [beqD]
  | .ref a => by simp [beqD]
  | .tup a => by simp [beqD, beqDs_refl a]
  | .lst a => by simp [beqD, beqDs_refl a]
  | .dK ks a => by simp [beqD, beqDs_refl a]
  | .dT ks a => by simp [beqD, beqDs_refl a]
  | .obj C fs a => by simp [beqD, beqDs_refl a]
  | .scr a => by simp [beqD]
theorem beqDs_refl : ∀ (a : List D), beqDs a a = true
  | [] => rfl
  | a :: as => by simp [beqDs, beqD_refl a, beqDs_refl as]
end

/-! ## what is walked -/
abbrev FI := FX (List D × (Mem → Bool))
structure Good (K : PySem.W.Frag) (J : It) (m1 : Ms) (H1 : Hp) (items : List D) (gd : Mem → Bool) : Prop where
  stop : ∀ m H μ, Ext m1 H1 m H → Rel K m H μ → gd μ = true → J.stop items.length H
  turn : ∀ m H μ (i : Nat) d, Ext m1 H1 m H → Rel K m H μ → gd μ = true → items[i]? = some d → J.go i H ∧ ∀ x H', J.yld i H x H' → Ext m H m H' ∧ Rel K m H' μ ∧ DV K m H' d x
def lI (K : PySem.W.Frag) (fi : FI) : TI := fun σ H R => ∃ m ρ μ items gd μ', Rel K m H μ ∧ EnvR K m H ρ σ ∧ fi ρ μ = some ((items, gd), μ') ∧
  ∀ J H1 m1, Ext m H m1 H1 → Rel K m1 H1 μ' → Good K J m1 H1 items gd → R J H1
abbrev MI (X : Cx) (tg iter : Expr) (fi : FI) : Prop := PI X tg iter (lI X.K fi)
theorem piM {X : Cx} {tg e : Expr} {t t' : TI} (h : PI X tg e t) (q : ∀ σ H R, t' σ H R → t σ H R) : PI X tg e t' := ⟨fun pins s σ H R I w => h.run pins s σ H R I (q σ H R w)⟩
theorem pi_or2 {X : Cx} {tg e : Expr} {t t' : TI} (h : PI X tg e t) (h' : PI X tg e t') : PI X tg e (fun σ H R => t σ H R ∨ t' σ H R) :=
  ⟨fun pins s σ H R I q => q.elim (h.run pins s σ H R I) (h'.run pins s σ H R I)⟩
def sameL (ds : List D) (n : Nat) (μ : Mem) : Bool := match μ[n]? with
  | some ⟨_, .lst es⟩ => beqDs es ds
  | _ => false
/-- a list's or a tuple's items, and that they stay -/
def seqOf (μ : Mem) : D → Option (List D × (Mem → Bool))
  | .tup ds => some (ds, fun _ => true)
  | .lst ds => some (ds, fun _ => true)
  | .ref n => match μ[n]? with
    | some ⟨_, .lst ds⟩ => some (ds, sameL ds n)
    | _ => none
  | _ => none
def bOf : D → Bool
  | .tup _ => false
  | _ => true
theorem seqOf_ok {K : PySem.W.Frag} {m1 : Ms} {H1 : Hp} {μ1 : Mem} (R : Rel K m1 H1 μ1) {d : D} {x : V} (h : DV K m1 H1 d x) {ds : List D} {gd : Mem → Bool} (e : seqOf μ1 d = some (ds, gd)) :
    ∃ a, x = .ref a ∧ gd μ1 = true ∧ ∀ m H μ, Ext m1 H1 m H → Rel K m H μ → gd μ = true → ∃ xs, SqB (bOf d) H a xs ∧ DVs K m H ds xs := by
  cases d with
  | tup es =>
    cases e
    obtain ⟨a, xs, rfl, h1, h2⟩ := h
    exact ⟨a, rfl, rfl, fun m H μ e R _ => ⟨xs, (e.go.tup _ _ h1).2, DVs.ext e h2⟩⟩
  | lst es =>
    cases e
    obtain ⟨a, xs, rfl, h1, h2⟩ := h
    exact ⟨a, rfl, rfl, fun m H μ e R _ => ⟨xs, (e.at (u := .lst xs) trivial h1).2, DVs.ext e h2⟩⟩
  | ref n =>
    obtain ⟨a, rfl, ha⟩ := h
    simp only [seqOf] at e
    split at e
    · rename_i lk es hc
      cases e
      refine ⟨a, rfl, by simp only [sameL, hc, beqDs_refl], fun m H μ e R hg => ?_⟩
      unfold sameL at hg
      split at hg
      · rename_i lk' es' hc'
        have e2 := beqDs_eq hg
        subst e2
        obtain ⟨b, u, hb, _, hr, _, hv⟩ := R.at hc'
        rw [e.get ha] at hb; cases hb
        obtain ⟨xs, rfl, h2⟩ := hv
        exact ⟨xs, hr, h2⟩
      · cases hg
    · cases e
  | _ => cases e
def fiSeq (f : FE) : FI := bnd f fun d => fun _ μ => match seqOf μ d with
  | some p => some (p, μ)
  | none => none
def rangeL (lo : Int) (n : Nat) : List D := (List.range n).map fun k => .int (lo + (k : Nat))
def rangeDn (lo : Int) (n : Nat) : List D := (List.range n).map fun k => .int (lo + (k : Nat) * (-1))
def okR (i : Int) : Bool := decide (-(2 ^ 62) ≤ i) && decide (i < 2 ^ 62)
def fiRange1 (f : FA) : FI := bnd f fun ds => match ds with
  | [.int j] => if okR j then ret (rangeL 0 j.toNat, fun _ => true) else fail
  | _ => fail
def fiRange2 (f : FA) : FI := bnd f fun ds => match ds with
  | [.int i, .int j] => if okR i && okR j then ret (rangeL i (j - i).toNat, fun _ => true) else fail
  | _ => fail
def fiRange3 (f : FA) : FI := bnd f fun ds => match ds with
  | [.int i, .int j, .int c] => if okR i && okR j && decide (c = -1) then ret (rangeDn i (i - j).toNat, fun _ => true) else fail
  | _ => fail
def enumD : Nat → List D → List D
  | _, [] => []
  | i, d :: ds => .tup [.int (i : Nat), d] :: enumD (i + 1) ds
def fiEnum (f : FA) : FI := bnd f fun ds => match ds with
  | [d] => fun _ μ => match seqOf μ d with
    | some (es, gd) => some ((enumD 0 es, gd), μ)
    | none => none
  | _ => fail
def zipD : List D → List D → List D
  | a :: as, b :: bs => .tup [a, b] :: zipD as bs
  | _, _ => []
def fiZip (f : FA) : FI := bnd f fun ds => match ds with
  | [d, d'] => fun _ μ => match seqOf μ d, seqOf μ d' with
    | some (es, gd), some (es', gd') => some ((zipD es es', fun μ => gd μ && gd' μ), μ)
    | _, _ => none
  | _ => fail
theorem enumD_get : ∀ (ds : List D) (k i : Nat), (enumD k ds)[i]? = (ds[i]?).map fun d => .tup [.int ((k + i : Nat) : Int), d]
  | [], k, i => by simp [enumD]
  | d :: ds, k, 0 => by simp [enumD]
  | d :: ds, k, i + 1 => by
    simp only [enumD, List.getElem?_cons_succ, enumD_get ds (k + 1) i]
    have e : k + 1 + i = k + (i + 1) := by omega
    rw [e]
theorem enumD_length : ∀ (ds : List D) (k : Nat), (enumD k ds).length = ds.length
  | [], _ => rfl
  | d :: ds, k => by simp [enumD, enumD_length ds]
theorem zipD_length : ∀ (as bs : List D), (zipD as bs).length = min as.length bs.length
  | [], bs => by simp [zipD]
  | a :: as, [] => by simp [zipD]
  | a :: as, b :: bs => by simp only [zipD, List.length_cons, zipD_length as bs]; omega
theorem zipD_get : ∀ (as bs : List D) (i : Nat) (d : D), (zipD as bs)[i]? = some d → ∃ a b, as[i]? = some a ∧ bs[i]? = some b ∧ d = .tup [a, b]
  | [], bs, i, d, h => by simp [zipD] at h
  | a :: as, [], i, d, h => by simp [zipD] at h
  | a :: as, b :: bs, 0, d, h => by simp [zipD] at h; exact ⟨a, b, rfl, rfl, h.symm⟩
  | a :: as, b :: bs, i + 1, d, h => by
    simp only [zipD, List.getElem?_cons_succ] at h
    simpa using zipD_get as bs i d h
section
variable {X : Cx} {tg e : Expr} {f : FE} {fa : FA} {p pos tpos : Pos} {elts : List Expr} {kk : Nat}
theorem good_range {K : PySem.W.Frag} {m1 : Ms} {H1 : Hp} {lo : Int} {n : Nat} : Good K (Itr lo n) m1 H1 (rangeL lo n) (fun _ => true) := by
  refine ⟨fun m H μ _ _ _ => ?_, fun m H μ i d _ R _ hd => ?_⟩
  · show n ≤ (rangeL lo n).length
    simp [rangeL]
  · have hl : i < n := by
      have := (List.getElem?_eq_some_iff.mp hd).1
      simpa [rangeL] using this
    simp only [rangeL, List.getElem?_map, List.getElem?_range hl, Option.map_some, Option.some.injEq] at hd
    subst hd
    exact ⟨hl, fun x H' ⟨e1, e2⟩ => by subst e1 e2; exact ⟨Ext.refl, R, rfl⟩⟩
theorem good_rangeC {K : PySem.W.Frag} {m1 : Ms} {H1 : Hp} {lo : Int} {n : Nat} : Good K (Itc lo (-1) n) m1 H1 (rangeDn lo n) (fun _ => true) := by
  refine ⟨fun m H μ _ _ _ => ?_, fun m H μ i d _ R _ hd => ?_⟩
  · show n ≤ (rangeDn lo n).length
    simp [rangeDn]
  · have hl : i < n := by
      have := (List.getElem?_eq_some_iff.mp hd).1
      simpa [rangeDn] using this
    simp only [rangeDn, List.getElem?_map, List.getElem?_range hl, Option.map_some, Option.some.injEq] at hd
    subst hd
    exact ⟨hl, fun x H' ⟨e1, e2⟩ => by subst e1 e2; exact ⟨Ext.refl, R, rfl⟩⟩
theorem DVs.three' {K : PySem.W.Frag} {m : Ms} {H : Hp} {d e f : D} {vs : List V} (h : DVs K m H [d, e, f] vs) : ∃ v u w, vs = [v, u, w] ∧ DV K m H d v ∧ DV K m H e u ∧ DV K m H f w := by
  obtain ⟨x, xs, rfl, h1, h2⟩ := h
  obtain ⟨y, z, rfl, h3⟩ := DVs.two' h2
  exact ⟨x, y, z, rfl, h1, h3⟩
theorem lI_bnd {K : PySem.W.Frag} {α β : Type} {R : Ms → Hp → α → β → Prop} {f : FX α} {k : α → FI} {σ : L2.St} {H : Hp} {RR : It → Hp → Prop} (h : lI K (bnd f k) σ H RR) :
    lg R K f σ H fun b H1 => ∃ a m1, R m1 H1 a b ∧ ∃ ρ μ items gd μ', Rel K m1 H1 μ ∧ k a ρ μ = some ((items, gd), μ') ∧ ∀ J H2 m2, Ext m1 H1 m2 H2 → Rel K m2 H2 μ' → Good K J m2 H2 items gd → RR J H2 := by
  obtain ⟨m, ρ, μ, items, gd, μ', h1, h2, h3, h4⟩ := h
  unfold bnd at h3
  split at h3
  · rename_i a μ1 e
    exact ⟨m, ρ, μ, a, μ1, h1, h2, e, fun b H' m' e' R' r => ⟨a, m', r, ρ, μ1, items, gd, μ', R', h3, fun J H2 m2 e2 => h4 J H2 m2 (e'.trans e2)⟩⟩
  · cases h3
theorem good_list {K : PySem.W.Frag} {m1 : Ms} {H1 : Hp} {a : Addr} {ds : List D} {gd : Mem → Bool} (h : ∀ m H μ, Ext m1 H1 m H → Rel K m H μ → gd μ = true → ∃ xs, SqB true H a xs ∧ DVs K m H ds xs) : Good K (Itl K a) m1 H1 ds gd := by
  refine ⟨fun m H μ e R g => ?_, fun m H μ i d e R g hd => ?_⟩
  · obtain ⟨xs, h1, h2⟩ := h m H μ e R g
    exact ⟨xs, .inl h1, by rw [h2.length]; exact Nat.le_refl _⟩
  · obtain ⟨xs, h1, h2⟩ := h m H μ e R g
    obtain ⟨v, hv, dv⟩ := h2.get hd
    refine ⟨⟨xs, v, .inl h1, hv⟩, fun x H' ⟨e1, e2⟩ => ?_⟩
    subst e1
    have := e2 xs (.inl h1)
    rw [hv] at this; cases this
    exact ⟨Ext.refl, R, dv⟩
theorem good_tup {K : PySem.W.Frag} {m1 : Ms} {H1 : Hp} {a : Addr} {ds : List D} {gd : Mem → Bool} (h : ∀ m H μ, Ext m1 H1 m H → Rel K m H μ → gd μ = true → ∃ xs, SqB false H a xs ∧ DVs K m H ds xs) : Good K (Itt K a) m1 H1 ds gd := by
  refine ⟨fun m H μ e R g => ?_, fun m H μ i d e R g hd => ?_⟩
  · obtain ⟨xs, h1, h2⟩ := h m H μ e R g
    exact ⟨xs, .inl (.inl h1), by rw [h2.length]; exact Nat.le_refl _⟩
  · obtain ⟨xs, h1, h2⟩ := h m H μ e R g
    obtain ⟨v, hv, dv⟩ := h2.get hd
    refine ⟨⟨xs, v, .inl (.inl h1), hv⟩, fun x H' ⟨e1, e2⟩ => ?_⟩
    subst e1
    have := e2 xs (.inl (.inl h1))
    rw [hv] at this; cases this
    exact ⟨Ext.refl, R, dv⟩
theorem good_enum {K : PySem.W.Frag} {m1 : Ms} {H1 : Hp} {b : Bool} {a : Addr} {ds : List D} {gd : Mem → Bool} (h : ∀ m H μ, Ext m1 H1 m H → Rel K m H μ → gd μ = true → ∃ xs, SqB b H a xs ∧ DVs K m H ds xs) : Good K (IteB b a) m1 H1 (enumD 0 ds) gd := by
  refine ⟨fun m H μ e R g => ?_, fun m H μ i d e R g hd => ?_⟩
  · obtain ⟨xs, h1, h2⟩ := h m H μ e R g
    exact ⟨xs, h1, by rw [h2.length, enumD_length]⟩
  · obtain ⟨xs, h1, h2⟩ := h m H μ e R g
    rw [enumD_get, Nat.zero_add] at hd
    cases q : ds[i]? with
    | none => rw [q] at hd; cases hd
    | some d' =>
      rw [q] at hd
      cases hd
      obtain ⟨v, hv, dv⟩ := h2.get q
      refine ⟨⟨xs, v, h1, hv⟩, fun x H' ⟨T, y, e1, e2, e3, e4⟩ => ?_⟩
      have := e4 xs h1
      rw [hv] at this; cases this
      subst e1 e3
      exact ⟨Ext.new e2, R.new e2, T, _, rfl, ⟨R.fresh e2, upd_same⟩, .cons rfl (.one (DV.ext (Ext.new e2) dv))⟩
theorem good_zip {K : PySem.W.Frag} {m1 : Ms} {H1 : Hp} {b c : Bool} {a a' : Addr} {ds es : List D} {gd gd' : Mem → Bool} (h : ∀ m H μ, Ext m1 H1 m H → Rel K m H μ → gd μ = true → ∃ xs, SqB b H a xs ∧ DVs K m H ds xs)
    (h' : ∀ m H μ, Ext m1 H1 m H → Rel K m H μ → gd' μ = true → ∃ xs, SqB c H a' xs ∧ DVs K m H es xs) : Good K (ItzB b c a a') m1 H1 (zipD ds es) (fun μ => gd μ && gd' μ) := by
  refine ⟨fun m H μ e R g => ?_, fun m H μ i d e R g hd => ?_⟩
  · simp only [Bool.and_eq_true] at g
    obtain ⟨xs, h1, h2⟩ := h m H μ e R g.1
    obtain ⟨ys, k1, k2⟩ := h' m H μ e R g.2
    exact ⟨xs, ys, h1, k1, by rw [h2.length, k2.length, zipD_length]⟩
  · simp only [Bool.and_eq_true] at g
    obtain ⟨xs, h1, h2⟩ := h m H μ e R g.1
    obtain ⟨ys, k1, k2⟩ := h' m H μ e R g.2
    obtain ⟨p, q, hp, hq, rfl⟩ := zipD_get _ _ _ _ hd
    obtain ⟨v, hv, dv⟩ := h2.get hp
    obtain ⟨w', hw, dw⟩ := k2.get hq
    refine ⟨⟨xs, ys, v, w', h1, k1, hv, hw⟩, fun x H' ⟨T, y, y2, e1, e2, e3, e4, e5⟩ => ?_⟩
    have z1 := e4 xs h1
    have z2 := e5 ys k1
    rw [hv] at z1; cases z1
    rw [hw] at z2; cases z2
    subst e1 e3
    exact ⟨Ext.new e2, R.new e2, T, _, rfl, ⟨R.fresh e2, upd_same⟩, .cons (DV.ext (Ext.new e2) dv) (.one (DV.ext (Ext.new e2) dw))⟩
theorem mi_seq (h : ME X e f) : MI X tg e (fiSeq f) :=
  piM (pi_or2 (pi_list h) (pi_tup h)) fun σ H RR q => by
    obtain ⟨m, ρ, μ, items, gd, μ', h1, h2, h3, h4⟩ := q
    unfold fiSeq bnd at h3
    split at h3
    · rename_i d μ1 ed
      dsimp only at h3
      split at h3
      · rename_i pr hp
        cases h3
        cases hb : bOf d with
        | true =>
          refine .inl ⟨m, ρ, μ, d, μ', h1, h2, ed, fun x H1 m1 e1 R1 r1 => ?_⟩
          obtain ⟨a, rfl, g1, g2⟩ := seqOf_ok R1 r1 hp
          rw [hb] at g2
          obtain ⟨xs, k1, _⟩ := g2 m1 H1 μ' Ext.refl R1 g1
          exact ⟨a, rfl, ⟨xs, .inl k1⟩, h4 _ H1 m1 e1 R1 (good_list g2)⟩
        | false =>
          refine .inr ⟨m, ρ, μ, d, μ', h1, h2, ed, fun x H1 m1 e1 R1 r1 => ?_⟩
          obtain ⟨a, rfl, g1, g2⟩ := seqOf_ok R1 r1 hp
          rw [hb] at g2
          obtain ⟨xs, k1, _⟩ := g2 m1 H1 μ' Ext.refl R1 g1
          exact ⟨a, rfl, ⟨xs, .inl (.inl k1)⟩, h4 _ H1 m1 e1 R1 (good_tup g2)⟩
      · cases h3
    · cases h3
theorem okR_ok {i : Int} (h : okR i = true) : -(2 ^ 62) ≤ i ∧ i < 2 ^ 62 := by
  simp only [okR, Bool.and_eq_true, decide_eq_true_eq] at h
  exact h
theorem mi_range1 {a : Expr} (hg : Gl X "range") (hm : X.mg "range" = none) (ha : MA X [a] fa) (hs : starEach [a] X.env = [(false, eval a X.env)] := by rfl) : MI X tg (.Call (.Name "range" p) [a] [] pos) (fiRange1 fa) :=
  piM (pi_range1 hg hm ha hs) fun σ H RR q => by
    obtain ⟨m, q⟩ := lI_bnd (R := rA X.K) q
    refine ⟨m, q.mono fun vs H1 ⟨ds, m1, r, ρ, μ, items, gd, μ', R1, h3, h4⟩ => ?_⟩
    split at h3
    · rename_i j
      by_cases hj : okR j = true
      · rw [if_pos hj] at h3
        cases h3
        obtain ⟨v, rfl, rv⟩ := DVs.one' r
        obtain ⟨j1, j2⟩ := okR_ok hj
        exact ⟨j, by rw [show v = .int j from rv], j1, j2, h4 _ H1 m1 Ext.refl R1 good_range⟩
      · rw [if_neg hj] at h3; cases h3
    · cases h3
theorem mi_range2 {a b : Expr} (hg : Gl X "range") (hm : X.mg "range" = none) (ha : MA X [a, b] fa) (hs : starEach [a, b] X.env = [(false, eval a X.env), (false, eval b X.env)] := by rfl) (hs2 : starEach [b] X.env = [(false, eval b X.env)] := by rfl) : MI X tg (.Call (.Name "range" p) [a, b] [] pos) (fiRange2 fa) :=
  piM (pi_range2 hg hm ha hs hs2) fun σ H RR q => by
    obtain ⟨m, q⟩ := lI_bnd (R := rA X.K) q
    refine ⟨m, q.mono fun vs H1 ⟨ds, m1, r, ρ, μ, items, gd, μ', R1, h3, h4⟩ => ?_⟩
    split at h3
    · rename_i i j
      by_cases hj : (okR i && okR j) = true
      · rw [if_pos hj] at h3
        cases h3
        simp only [Bool.and_eq_true] at hj
        obtain ⟨v, u, rfl, rv, ru⟩ := DVs.two' r
        obtain ⟨i1, i2⟩ := okR_ok hj.1
        obtain ⟨j1, j2⟩ := okR_ok hj.2
        exact ⟨i, j, by rw [show v = .int i from rv, show u = .int j from ru], ⟨i1, i2, j1, j2⟩, h4 _ H1 m1 Ext.refl R1 good_range⟩
      · rw [if_neg hj] at h3; cases h3
    · cases h3
theorem mi_range3 {a b c : Expr} (hg : Gl X "range") (hm : X.mg "range" = none) (ha : MA X [a, b, c] fa)
    (hs : starEach [a, b, c] X.env = (false, eval a X.env) :: starEach [b, c] X.env := by rfl) (hpl : (backTo pos (starEach [b, c] X.env)).any (·.1) = false := by rfl) : MI X tg (.Call (.Name "range" p) [a, b, c] [] pos) (fiRange3 fa) :=
  piM (pi_range3 hg hm ha hs hpl) fun σ H RR q => by
    obtain ⟨m, q⟩ := lI_bnd (R := rA X.K) q
    refine ⟨m, q.mono fun vs H1 ⟨ds, m1, r, ρ, μ, items, gd, μ', R1, h3, h4⟩ => ?_⟩
    split at h3
    · rename_i i j k
      by_cases hj : (okR i && okR j && decide (k = -1)) = true
      · rw [if_pos hj] at h3
        cases h3
        simp only [Bool.and_eq_true, decide_eq_true_eq] at hj
        obtain ⟨v, u, w', rfl, rv, ru, rw'⟩ := DVs.three' r
        obtain ⟨i1, i2⟩ := okR_ok hj.1.1
        obtain ⟨j1, j2⟩ := okR_ok hj.1.2
        have ek := hj.2
        subst ek
        exact ⟨i, j, -1, (i - j).toNat, by rw [show v = .int i from rv, show u = .int j from ru, show w' = .int (-1) from rw'], RgC.neg i1 i2 j1 j2, h4 _ H1 m1 Ext.refl R1 good_rangeC⟩
      · rw [if_neg hj] at h3; cases h3
    · cases h3
theorem mi_enum (hg : Gl X "enumerate") (hm : X.mg "enumerate" = none) (ha : MA X [e] fa) (hs : starEach [e] X.env = [(false, eval e X.env)] := by rfl) :
    MI X (.Tuple elts kk tpos) (.Call (.Name "enumerate" p) [e] [] pos) (fiEnum fa) :=
  piM (pi_enumB hg hm ha hs) fun σ H RR q => by
    obtain ⟨m, q⟩ := lI_bnd (R := rA X.K) q
    refine ⟨m, q.mono fun vs H1 ⟨ds, m1, r, ρ, μ, items, gd, μ', R1, h3, h4⟩ => ?_⟩
    split at h3
    · rename_i d
      obtain ⟨v, rfl, rv⟩ := DVs.one' r
      split at h3
      · rename_i es gd' hp
        cases h3
        obtain ⟨a, rfl, g1, g2⟩ := seqOf_ok R1 rv hp
        obtain ⟨xs, k1, _⟩ := g2 m1 H1 _ Ext.refl R1 g1
        exact ⟨bOf d, a, xs, rfl, k1, h4 _ H1 m1 Ext.refl R1 (good_enum g2)⟩
      · cases h3
    · cases h3
theorem mi_zip {e2 : Expr} (hg : Gl X "zip") (hm : X.mg "zip" = none) (ha : MA X [e, e2] fa) (hs : starEach [e, e2] X.env = (false, eval e X.env) :: starEach [e2] X.env := by rfl) (hpl : (backTo pos (starEach [e2] X.env)).any (·.1) = false := by rfl) :
    MI X (.Tuple elts kk tpos) (.Call (.Name "zip" p) [e, e2] [] pos) (fiZip fa) :=
  piM (pi_zipB hg hm ha hs hpl) fun σ H RR q => by
    obtain ⟨m, q⟩ := lI_bnd (R := rA X.K) q
    refine ⟨m, q.mono fun vs H1 ⟨ds, m1, r, ρ, μ, items, gd, μ', R1, h3, h4⟩ => ?_⟩
    split at h3
    · rename_i d d'
      obtain ⟨v, u, rfl, rv, ru⟩ := DVs.two' r
      split at h3
      · rename_i es gd1 es' gd2 hp hp'
        cases h3
        obtain ⟨a, rfl, g1, g2⟩ := seqOf_ok R1 rv hp
        obtain ⟨a', rfl, g1', g2'⟩ := seqOf_ok R1 ru hp'
        obtain ⟨xs, k1, _⟩ := g2 m1 H1 _ Ext.refl R1 g1
        obtain ⟨ys, k1', _⟩ := g2' m1 H1 _ Ext.refl R1 g1'
        exact ⟨bOf d, bOf d', a, a', xs, ys, rfl, k1, k1', h4 _ H1 m1 Ext.refl R1 (good_zip g2 g2')⟩
      · cases h3
    · cases h3
end
end Mi
namespace Mi
open PySem PySem.Spec PyProof.Rows L2

/-! ## for -/
def forL (gd : Mem → Bool) (g : FG) (body : FS) (fgt : List Nat) : List D → Rho → Mem → Option Out
  | [], ρ, μ => if gd μ then some (.nx ρ μ) else none
  | d :: ds, ρ, μ => if gd μ then (match g d ρ μ with
    | some (ρ1, μ1) => match body ρ1 μ1 with
      | some (.nx ρ2 μ2) => forL gd g body fgt ds (forget fgt ρ2) μ2
      | some (.ct ρ2 μ2) => forL gd g body fgt ds (forget fgt ρ2) μ2
      | some (.bk ρ2 μ2) => some (.nx (forget fgt ρ2) μ2)
      | some (.rt d μ2) => some (.rt d μ2)
      | none => none
    | none => none) else none
def sFor (fi : FI) (g : FG) (body : FS) (fgt : List Nat) : FS := fun ρ μ => match fi ρ μ with
  | some ((items, gd), μ1) => forL gd g body fgt items (forget fgt ρ) μ1
  | none => none
def whL (t : FT) (body : FS) (fgt : List Nat) : Nat → Rho → Mem → Option Out
  | 0, _, _ => none
  | n + 1, ρ, μ => match t ρ μ with
    | some (true, μ1) => match body ρ μ1 with
      | some (.nx ρ2 μ2) => whL t body fgt n (forget fgt ρ2) μ2
      | some (.ct ρ2 μ2) => whL t body fgt n (forget fgt ρ2) μ2
      | some (.bk ρ2 μ2) => some (.nx (forget fgt ρ2) μ2)
      | some (.rt d μ2) => some (.rt d μ2)
      | none => none
    | some (false, μ1) => some (.nx ρ μ1)
    | none => none
def sWhile (n : Nat) (t : FT) (body : FS) (fgt : List Nat) : FS := fun ρ μ => whL t body fgt n (forget fgt ρ) μ
section
variable {X : Cx} {pos : Pos}
theorem ms_for {tg iter : Expr} {body : List Stmt} {fi : FI} {g : TG} {fg : FG} {fb : FS} (vs fgt : List Nat) (hp : PassesOwn (model X.prog X.w) X.A X.env X.xe) (hc : X.calm = true) (hi : MI X tg iter fi) (hg : PG X tg g) (ok : TgOk X.K vs g fg) (hb : MSs X body fb)
    (hs : ∀ x, foldedSetIterable iter X.env x = pure x := by intro _; rfl) : MS X (.For tg iter body [] pos) (sFor fi fg fb fgt) :=
  psM (ps_for hp hc hi hg hb hs) fun E σ H ⟨m, ρ, μ, o, h1, h2, h3, h4⟩ => by
    unfold sFor at h3
    split at h3
    · rename_i items gd μ1 e
      refine ⟨m, ρ, μ, items, gd, μ1, h1, h2, e, fun J H1 m1 e1 R1 gJ => ?_⟩
      refine ⟨fun i n σ' H' => ∃ ρ' μ' m', Ext m1 H1 m' H' ∧ Rel X.K m' H' μ' ∧ EnvR X.K m' H' ρ' σ' ∧ i + n = items.length ∧ forL gd fg fb fgt (items.drop i) ρ' μ' = some o,
        ⟨items.length, forget fgt ρ, μ1, m1, Ext.refl, R1, (h2.ext e1).forget fgt, by omega, by simpa using h3⟩, fun i n σ' H' hW => ?_⟩
      obtain ⟨ρ', μ', m', e', R', E', hn, hf⟩ := hW
      by_cases hlt : i < items.length
      · have hd : items.drop i = items[i] :: items.drop (i + 1) := List.drop_eq_getElem_cons hlt
        rw [hd] at hf
        unfold forL at hf
        by_cases hgd : gd μ' = true
        · rw [if_pos hgd] at hf
          obtain ⟨go, yl⟩ := gJ.turn m' H' μ' i items[i] e' R' hgd (List.getElem?_eq_getElem hlt)
          refine .inr ⟨go, fun σ2 H2 => ∃ ρ2 μ2 m2, Ext m1 H1 m2 H2 ∧ Rel X.K m2 H2 μ2 ∧ EnvR X.K m2 H2 ρ2 σ2 ∧ (i + 1) + (n - 1) = items.length ∧ forL gd fg fb fgt (items.drop (i + 1)) ρ2 μ2 = some o,
            fun σ2 H2 hN => ⟨n - 1, by omega, hN⟩, fun x H2 hy => ?_⟩
          obtain ⟨e2, R2, dv⟩ := yl x H2 hy
          split at hf
          · rename_i ρ1 μ2 eg
            refine ok.mono _ _ _ _ ⟨m', ρ', μ', items[i], ρ1, μ2, R2, E'.ext e2, dv, eg, fun σ3 H3 m3 e3 R3 E3 => ?_⟩
            have b3 : Ext m1 H1 m3 H3 := (e'.trans e2).trans e3
            split at hf
            · rename_i ρ4 μ4 eb
              exact ⟨m3, ρ1, μ2, _, R3, E3, eb, fun σ5 H5 m5 e5 R5 E5 => ⟨forget fgt ρ4, μ4, m5, b3.trans e5, R5, E5.forget fgt, by omega, hf⟩⟩
            · rename_i ρ4 μ4 eb
              exact ⟨m3, ρ1, μ2, _, R3, E3, eb, fun σ5 H5 m5 e5 R5 E5 => ⟨forget fgt ρ4, μ4, m5, b3.trans e5, R5, E5.forget fgt, by omega, hf⟩⟩
            · rename_i ρ4 μ4 eb
              cases hf
              exact ⟨m3, ρ1, μ2, _, R3, E3, eb, fun σ5 H5 m5 e5 R5 E5 => h4 σ5 H5 m5 ((e1.trans b3).trans e5) R5 (E5.forget fgt)⟩
            · rename_i d μ4 eb
              cases hf
              exact ⟨m3, ρ1, μ2, _, R3, E3, eb, fun v H5 m5 e5 R5 dv5 => h4 v H5 m5 ((e1.trans b3).trans e5) R5 dv5⟩
            · cases hf
          · cases hf
        · rw [if_neg hgd] at hf; cases hf
      · have hi' : i = items.length := by omega
        subst hi'
        rw [List.drop_length] at hf
        unfold forL at hf
        by_cases hgd : gd μ' = true
        · rw [if_pos hgd] at hf
          cases hf
          exact .inl ⟨gJ.stop m' H' μ' e' R' hgd, h4 σ' H' m' (e1.trans e') R' E'⟩
        · rw [if_neg hgd] at hf; cases hf
    · cases h3
/-! ## while -/
theorem ms_while {c : Expr} {body : List Stmt} {t : FT} {fb : FS} (n : Nat) (fgt : List Nat) (hp : PassesOwn (model X.prog X.w) X.A X.env X.xe) (hc : MT X c t) (hb : MSs X body fb) : MS X (.While c body [] pos) (sWhile n t fb fgt) :=
  psM (ps_while hp hc hb) fun E σ H ⟨m, ρ, μ, o, h1, h2, h3, h4⟩ => by
    unfold sWhile at h3
    refine ⟨fun k σ' H' => ∃ ρ' μ' m', Ext m H m' H' ∧ Rel X.K m' H' μ' ∧ EnvR X.K m' H' ρ' σ' ∧ whL t fb fgt k ρ' μ' = some o, ⟨n, forget fgt ρ, μ, m, Ext.refl, h1, h2.forget fgt, h3⟩, fun k σ' H' hW => ?_⟩
    obtain ⟨ρ', μ', m', e', R', E', hf⟩ := hW
    cases k with
    | zero => unfold whL at hf; cases hf
    | succ k =>
      unfold whL at hf
      split at hf
      · rename_i μ1 et
        refine ⟨m', ρ', μ', true, μ1, R', E', et, fun b H2 m2 e2 R2 hb2 => ?_⟩
        cases hb2
        rw [if_pos rfl]
        refine ⟨fun σ3 H3 => ∃ ρ3 μ3 m3, Ext m H m3 H3 ∧ Rel X.K m3 H3 μ3 ∧ EnvR X.K m3 H3 ρ3 σ3 ∧ whL t fb fgt k ρ3 μ3 = some o, fun σ3 H3 hN => ⟨k, Nat.lt_succ_self k, hN⟩, ?_⟩
        have b2 : Ext m H m2 H2 := e'.trans e2
        split at hf
        · rename_i ρ4 μ4 eb
          exact ⟨m2, ρ', μ1, _, R2, E'.ext e2, eb, fun σ5 H5 m5 e5 R5 E5 => ⟨forget fgt ρ4, μ4, m5, b2.trans e5, R5, E5.forget fgt, hf⟩⟩
        · rename_i ρ4 μ4 eb
          exact ⟨m2, ρ', μ1, _, R2, E'.ext e2, eb, fun σ5 H5 m5 e5 R5 E5 => ⟨forget fgt ρ4, μ4, m5, b2.trans e5, R5, E5.forget fgt, hf⟩⟩
        · rename_i ρ4 μ4 eb
          cases hf
          exact ⟨m2, ρ', μ1, _, R2, E'.ext e2, eb, fun σ5 H5 m5 e5 R5 E5 => h4 σ5 H5 m5 (b2.trans e5) R5 (E5.forget fgt)⟩
        · rename_i d μ4 eb
          cases hf
          exact ⟨m2, ρ', μ1, _, R2, E'.ext e2, eb, fun v H5 m5 e5 R5 dv5 => h4 v H5 m5 (b2.trans e5) R5 dv5⟩
        · cases hf
      · rename_i μ1 et
        cases hf
        refine ⟨m', ρ', μ', false, μ1, R', E', et, fun b H2 m2 e2 R2 hb2 => ?_⟩
        cases hb2
        rw [if_neg Bool.false_ne_true]
        exact h4 σ' H2 m2 (e'.trans e2) R2 (E'.ext e2)
      · cases hf
end

/-! ## comprehensions -/
def wipeR : Rho → List Nat → Rho
  | ρ, [] => ρ
  | ρ, v :: vs => (wipeR ρ vs).set v none
def lcL (gd : Mem → Bool) (g : FG) (t : FT) (e : FE) (ρ : Rho) : List D → Mem → Option (List D × Mem)
  | [], μ => if gd μ then some ([], μ) else none
  | d :: ds, μ => if gd μ then (match g d ρ μ with
    | some (ρ1, μ1) => match t ρ1 μ1 with
      | some (true, μ2) => match e ρ1 μ2 with
        | some (y, μ3) => match lcL gd g t e ρ ds μ3 with
          | some (ys, μ4) => some (y :: ys, μ4)
          | none => none
        | none => none
      | some (false, μ2) => lcL gd g t e ρ ds μ2
      | none => none
    | none => none) else none
def fLc (fi : FI) (g : FG) (t : FT) (e : FE) (vs : List Nat) : FE := fun ρ μ => match fi ρ μ with
  | some ((items, gd), μ1) => if items.length ≤ 16777216 then (match lcL gd g t e (wipeR ρ vs) items μ1 with
    | some (ys, μ2) => some (.lst ys, μ2)
    | none => none) else none
  | none => none
section
variable {K : PySem.W.Frag} {m : Ms} {H : Hp} {σ : L2.St}
theorem EnvR.wipe : ∀ (vs : List Nat) {ρ : Rho}, EnvR K m H ρ σ → EnvR K m H (wipeR ρ vs) (wipe σ vs)
  | [], _, E => E
  | v :: vs, ρ, E => by
    have ih := EnvR.wipe vs E
    refine ⟨by show ((L2.wipe σ vs).set v none).length = ((wipeR ρ vs).set v none).length; rw [List.length_set, List.length_set]; exact ih.len, fun j d e => ?_⟩
    have e : ((wipeR ρ vs).set v none)[j]? = some (some d) := e
    show ∃ x, ((L2.wipe σ vs).set v none)[j]? = some (some x) ∧ DV K m H d x
    by_cases hj : j = v
    · subst hj
      have hlt : j < (wipeR ρ vs).length := by
        have := (List.getElem?_eq_some_iff.mp e).1
        simpa using this
      rw [List.getElem?_set_self hlt] at e
      cases e
    · rw [List.getElem?_set_ne (Ne.symm hj)] at e
      rw [List.getElem?_set_ne (Ne.symm hj)]
      exact ih.get j d e
end
def ftYes : FT := ret true
theorem wipe_wipe {σ : L2.St} (vs : List Nat) : wipe (wipe σ vs) vs = wipe σ vs := by
  apply List.ext_getElem?
  intro j
  by_cases hj : j ∈ vs
  · rw [wipe_none hj, wipe_none hj, wipe_length]
  · rw [wipe_out hj]
theorem Ext.rehid {m m' : Ms} {H H' : Hp} (e : Ext m H m' H') : Ext m H { m' with hid := m.hid } H' := ⟨e.pre, ⟨[], rfl, fun _ h => by cases h⟩, e.ov, e.exact, e.live⟩
theorem Ext.hid_sub {m m' : Ms} {H H' : Hp} (e : Ext m H m' H') {a : Addr} (h : a ∈ m.hid) : a ∈ m'.hid := by
  obtain ⟨l, hl, _⟩ := e.hid
  rw [hl]; exact List.mem_append_right _ h
/-- the reading of a comprehension, by the walk of its items -/
theorem lc_mono {K : PySem.W.Frag} {fi : FI} {g : TG} {fg : FG} {tt : FT} {fe : FE} {own : List Nat} (ok : TgOk K own g fg) (σ : L2.St) (H : Hp) (Q : VK) (h : lF K (fLc fi fg tt fe own) σ H Q) : tLc (lI K fi) g (lT K tt) (lE K fe) own σ H Q := by
  obtain ⟨m, ρ, μ, c, μf, h1, h2, h3, h4⟩ := h
  unfold fLc at h3
  split at h3
  · rename_i items gd μ1 e
    split at h3
    · rename_i hz
      split at h3
      · rename_i ys μ2 ey
        cases h3
        refine ⟨m, ρ, μ, items, gd, μ1, h1, h2, e, fun J H1 m1 e1 R1 gJ D hD => ?_⟩
        have f0 : H D = none := e1.free hD
        have W0 : ∀ (i n : Nat) (H' : Hp), Prop := fun _ _ _ => True
        refine ⟨fun i n H' => ∃ μ' m' acc zs as, Ext m1 H1 m' H' ∧ D ∈ m'.hid ∧ D ∉ m'.l ∧ Rel K m' H' μ' ∧ H' D = some (.lst acc) ∧ DVs K m' H' as acc ∧ acc.length ≤ i ∧ i + n = items.length ∧ lcL gd fg tt fe (wipeR ρ own) (items.drop i) μ' = some (zs, μf) ∧ ys = as ++ zs,
          ⟨items.length, μ1, m1.hide D, [], ys, [], (Ext.new hD).hide hD, List.mem_cons_self, (R1.fresh hD).1, R1.hide hD ⟨trivial, fun _ z => by cases z⟩, upd_same, rfl, Nat.zero_le _, by omega, by simpa using ey, rfl⟩, fun i n H' hW => ?_⟩
        obtain ⟨μ', m', acc, zs, as, e', d1, d2, R', hacc, dvs, hle, hn, hf, hys⟩ := hW
        by_cases hlt : i < items.length
        · have hd : items.drop i = items[i] :: items.drop (i + 1) := List.drop_eq_getElem_cons hlt
          rw [hd] at hf
          unfold lcL at hf
          by_cases hgd : gd μ' = true
          · rw [if_pos hgd] at hf
            obtain ⟨go, yl⟩ := gJ.turn m' H' μ' i items[i] e' R' hgd (List.getElem?_eq_getElem hlt)
            refine .inr ⟨go, fun H'' => ∃ μ' m' acc zs as, Ext m1 H1 m' H'' ∧ D ∈ m'.hid ∧ D ∉ m'.l ∧ Rel K m' H'' μ' ∧ H'' D = some (.lst acc) ∧ DVs K m' H'' as acc ∧ acc.length ≤ i + 1 ∧ (i + 1) + (n - 1) = items.length ∧ lcL gd fg tt fe (wipeR ρ own) (items.drop (i + 1)) μ' = some (zs, μf) ∧ ys = as ++ zs,
              fun H'' hN => ⟨n - 1, by omega, hN⟩, fun x H2 hy => ?_⟩
            obtain ⟨e2, R2, dv⟩ := yl x H2 hy
            split at hf
            · rename_i ρ1 μ2 eg
              have E2 : EnvR K m' H2 (wipeR ρ own) (wipe σ own) := (((h2.ext e1).ext e').ext e2).wipe own
              refine ok.mon _ _ _ _ _ (fun σ3 H3 q => ⟨q.2.trans (wipe_wipe own), q.1⟩) (ok.only _ _ _ _ (ok.mono _ _ _ _ ⟨m', _, μ', items[i], ρ1, μ2, R2, E2, dv, eg, fun σ3 H3 m3 e3 R3 E3 => ?_⟩))
              split at hf
              · rename_i μ4 et
                refine ⟨m3, ρ1, μ2, true, μ4, R3, E3, et, fun b H4 m4 e4 R4 hb => ?_⟩
                cases hb
                rw [if_pos rfl]
                split at hf
                · rename_i y μ5 ee
                  split at hf
                  · rename_i ys' μ6 er
                    cases hf
                    refine ⟨m4, ρ1, μ4, y, μ5, R4, E3.ext e4, ee, fun v H5 m5 e5 R5 dv5 => ?_⟩
                    have et : Ext m' H' m5 H5 := ((e2.trans e3).trans e4).trans e5
                    have hacc5 : H5 D = some (.lst acc) := et.exact D _ d2 hacc
                    have live : H' D ≠ none := liveSome hacc
                    have g1 : D ∈ m5.hid := et.hid_sub d1
                    have g2 : D ∉ m5.l := et.mem d2 live
                    have hlen := dvs.length
                    refine ⟨acc, hacc5, size_lt (by omega), μ5, m5, acc ++ [v], ys', as ++ [y], (e'.trans et).upd hD, g1, g2, R5.updHid g1 g2 hacc5 trivial ⟨trivial, fun _ z => by cases z⟩, upd_same, ?_, by rw [List.length_append]; simp; omega, by omega, er, by rw [hys]; simp⟩
                    exact DVs.go (Go.updHid g1) ((DVs.ext et dvs).append (.one dv5))
                  · cases hf
                · cases hf
              · rename_i μ4 et
                refine ⟨m3, ρ1, μ2, false, μ4, R3, E3, et, fun b H4 m4 e4 R4 hb => ?_⟩
                cases hb
                rw [if_neg Bool.false_ne_true]
                have et : Ext m' H' m4 H4 := (e2.trans e3).trans e4
                exact ⟨μ4, m4, acc, zs, as, e'.trans et, et.hid_sub d1, et.mem d2 (liveSome hacc), R4, et.exact D _ d2 hacc, DVs.ext et dvs, by omega, by omega, hf, hys⟩
              · cases hf
            · cases hf
          · rw [if_neg hgd] at hf; cases hf
        · have hi' : i = items.length := by omega
          subst hi'
          rw [List.drop_length] at hf
          unfold lcL at hf
          by_cases hgd : gd μ' = true
          · rw [if_pos hgd] at hf
            cases hf
            rw [List.append_nil] at hys
            subst hys
            have sub : ∀ a ∈ D :: m1.hid, a ∈ m'.hid := fun a ha => by
              rcases List.mem_cons.mp ha with q | q
              · rw [q]; exact d1
              · exact e'.hid_sub q
            refine .inl ⟨gJ.stop m' H' μf e' R' hgd, h4 D H' { m' with hid := m1.hid } (.lst acc) (e1.trans e'.rehid) (R'.less sub) f0 ⟨d2, (R1.fresh hD).2⟩ hacc ⟨acc, rfl, DVs.go (Go.less sub) dvs⟩⟩
          · rw [if_neg hgd] at hf; cases hf
      · cases h3
    · cases h3
  · cases h3
section
variable {X : Cx} {pos : Pos} {elt tg iter : Expr} {ifs : List Expr} {scope : Scope} {own : List (Str × Nat)} {fi : FI} {g : TG} {fg : FG} {tt : FT} {fe : FE}
structure MTs (X : Cx) (ifs : List Expr) (t : FT) : Prop where
  run : PTs X ifs (lT X.K t)
theorem mts_nil : PTs X [] (lT X.K ftYes) := by
  refine ⟨fun pins s σ H Q I h => ?_⟩
  refine pts_nil.run pins s σ H Q I ?_
  obtain ⟨m, h⟩ := h
  obtain ⟨μ, h1, h2⟩ := lgm_ret h
  exact h2 _ H m Ext.refl h1 rfl
theorem mf_lc (hc : X.calm = true) (hN : X.N.Nodup) (hi : MI X tg iter fi) (ok : BlkOk X.N X.env.scope scope own)
    (hg : ∀ (s : Shared) (H : Hp) (C : Addr) (cl : List (Str × Addr)) (fp : List Addr), PG (X.blk s H scope (compEnvC scope cl C X.env) fp) tg g) (tok : TgOk X.K (own.map (·.2)) g fg)
    (ht : ∀ (s : Shared) (H : Hp) (C : Addr) (cl : List (Str × Addr)) (fp : List Addr), PTs (X.blk s H scope (compEnvC scope cl C X.env) fp) ifs (lT X.K tt))
    (he : ∀ (s : Shared) (H : Hp) (C : Addr) (cl : List (Str × Addr)) (fp : List Addr), ME (X.blk s H scope (compEnvC scope cl C X.env) fp) elt fe) (hs : ∀ x, foldedSetIterable iter X.env x = pure x := by intro _; rfl) :
    MF X (.ListComp elt [⟨tg, iter, ifs, 0⟩] scope pos) (fLc fi fg tt fe (own.map (·.2))) := peM (pe_lc hc hN hi ok hg ht he hs) (lc_mono tok)
end
end Mi
namespace Mi
open PySem PySem.Spec PyProof.Rows L2

/-! ## x = [.. for ..] -/
theorem lE_frz {K : PySem.W.Frag} {f : FE} (σ : L2.St) (H : Hp) (Q : VK) (h : lE K f σ H Q) : lF K f σ H Q := by
  obtain ⟨m, ρ, μ, c, μ', h1, h2, h3, h4⟩ := h
  exact ⟨m, ρ, μ, c, μ', h1, h2, h3, fun p H' m' o e R hn hl hp hv => h4 _ _ m' e R.unhide (hv_dv hl hp (HV.go Go.unhide hv))⟩
theorem lE_mut {K : PySem.W.Frag} {f : FE} (σ : L2.St) (H : Hp) (Q : VK) (h : lE K (fMut f) σ H Q) : lF K f σ H Q := by
  obtain ⟨m, ρ, μ, d, μ', h1, h2, h3, h4⟩ := h
  unfold fMut at h3
  split at h3
  · rename_i c μ1 e
    cases h3
    refine ⟨m, ρ, μ, c, μ1, h1, h2, e, fun p H' m' o e R hn hl hp hv => h4 _ _ (m'.push p) (e.add hn) (R.push hl.1 hp hv) ⟨p, rfl, ?_⟩⟩
    have hlen : m'.l.length = μ1.length := R.len
    show (m'.l ++ [p])[μ1.length]? = some p
    rw [← hlen]; simp
  · cases h3
theorem lS_set {K : PySem.W.Frag} {i : Nat} {f : FE} {E : Ends} {σ : L2.St} {H : Hp} (h : lS K (sSet i f) E σ H) : lE K f σ H fun x H1 => gName i x σ H1 E.nx := by
  obtain ⟨m, ρ, μ, o, h1, h2, h3, h4⟩ := h
  unfold sSet at h3
  split at h3
  · rename_i d μ1 e
    cases h3
    exact ⟨m, ρ, μ, d, μ1, h1, h2, e, fun v H' m' e' R' dv => h4 _ H' m' e' R' ((h2.ext e').set dv i)⟩
  · cases h3
section
variable {X : Cx} {pos spos py : Pos} {elt tg iter : Expr} {ifs : List Expr} {scope : Scope} {own : List (Str × Nat)} {fi : FI} {g : TG} {fg : FG} {tt : FT} {fe : FE} {i : Nat} {y : Str}
theorem ms_setLc (hc : X.calm = true) (hN : X.N.Nodup) (hy : X.N[i]? = some y) (hyl : X.env.scope.names.lookup y = some .local)
    (hsw : swapsWith (.ListComp elt [⟨tg, iter, ifs, 0⟩] scope pos) (some (.Name y py)) spos.line X.env = pure true) (hi : MI X tg iter fi) (ok : BlkOk X.N X.env.scope scope own)
    (hg : ∀ (s : Shared) (H : Hp) (C : Addr) (cl : List (Str × Addr)) (fp : List Addr), PG (X.blk s H scope (compEnvC scope cl C X.env) fp) tg g) (tok : TgOk X.K (own.map (·.2)) g fg)
    (ht : ∀ (s : Shared) (H : Hp) (C : Addr) (cl : List (Str × Addr)) (fp : List Addr), PTs (X.blk s H scope (compEnvC scope cl C X.env) fp) ifs (lT X.K tt))
    (he : ∀ (s : Shared) (H : Hp) (C : Addr) (cl : List (Str × Addr)) (fp : List Addr), ME (X.blk s H scope (compEnvC scope cl C X.env) fp) elt fe) (hs : ∀ x, foldedSetIterable iter X.env x = pure x := by intro _; rfl) :
    MS X (.Assign [.Name y py] (.ListComp elt [⟨tg, iter, ifs, 0⟩] scope pos) spos) (sSet i (fLc fi fg tt fe (own.map (·.2)))) :=
  psM (ps_setLc hc hN hy hyl hsw hi ok hg ht he hs) fun E σ H h => lc_mono tok σ H _ (lE_frz σ H _ (lS_set h))
theorem ms_setLcM (hc : X.calm = true) (hN : X.N.Nodup) (hy : X.N[i]? = some y) (hyl : X.env.scope.names.lookup y = some .local)
    (hsw : swapsWith (.ListComp elt [⟨tg, iter, ifs, 0⟩] scope pos) (some (.Name y py)) spos.line X.env = pure true) (hi : MI X tg iter fi) (ok : BlkOk X.N X.env.scope scope own)
    (hg : ∀ (s : Shared) (H : Hp) (C : Addr) (cl : List (Str × Addr)) (fp : List Addr), PG (X.blk s H scope (compEnvC scope cl C X.env) fp) tg g) (tok : TgOk X.K (own.map (·.2)) g fg)
    (ht : ∀ (s : Shared) (H : Hp) (C : Addr) (cl : List (Str × Addr)) (fp : List Addr), PTs (X.blk s H scope (compEnvC scope cl C X.env) fp) ifs (lT X.K tt))
    (he : ∀ (s : Shared) (H : Hp) (C : Addr) (cl : List (Str × Addr)) (fp : List Addr), ME (X.blk s H scope (compEnvC scope cl C X.env) fp) elt fe) (hs : ∀ x, foldedSetIterable iter X.env x = pure x := by intro _; rfl) :
    MS X (.Assign [.Name y py] (.ListComp elt [⟨tg, iter, ifs, 0⟩] scope pos) spos) (sSet i (fMut (fLc fi fg tt fe (own.map (·.2))))) :=
  psM (ps_setLc hc hN hy hyl hsw hi ok hg ht he hs) fun E σ H h => lc_mono tok σ H _ (lE_mut σ H _ (lS_set h))
end

/-! ## o[i] = v -/
theorem drep_ok {K : PySem.W.Frag} {m : Ms} {H : Hp} {κ : Type} [DecidableEq κ] {k : κ} {d : D} {v : V} (hd : DV K m H d v) : ∀ {kvs : List (κ × V)} {ds : List D}, DVs K m H ds (kvs.map (·.2)) →
    DVs K m H (drep (kvs.map (·.1)) ds k d) ((kvs.map fun kv => if kv.1 = k then (kv.1, v) else kv).map (·.2))
  | [], [], h => rfl
  | [], d :: ds, h => by
    obtain ⟨x, xs, e, _⟩ := h
    cases e
  | p :: kvs, [], h => by
    have h' : (p :: kvs).map (·.2) = [] := h
    cases h'
  | p :: kvs, d' :: ds, h => by
    obtain ⟨x, xs, e, h1, h2⟩ := h
    injection e with e1 e2
    have e1 : p.2 = x := e1
    subst e1 e2
    simp only [List.map_cons, drep]
    refine ⟨_, _, rfl, ?_, drep_ok hd h2⟩
    by_cases hk : p.1 = k
    · rw [if_pos hk, if_pos hk]; exact hd
    · rw [if_neg hk, if_neg hk]; exact h1
theorem hasK_ok {κ : Type} [DecidableEq κ] {k : κ} (kvs : List (κ × V)) : (kvs.any fun kv => decide (kv.1 = k)) = hasK (kvs.map (·.1)) k := by
  induction kvs with
  | nil => rfl
  | cons p kvs ih => simp only [List.any_cons, List.map_cons, hasK, ih]
theorem dput_ok {K : PySem.W.Frag} {m : Ms} {H : Hp} {κ : Type} [DecidableEq κ] {kvs : List (κ × V)} {ds : List D} {k : κ} {d : D} {v : V} (h : DVs K m H ds (kvs.map (·.2))) (hd : DV K m H d v) :
    (putK kvs k v).map (·.1) = (dput (kvs.map (·.1)) ds k d).1 ∧ DVs K m H (dput (kvs.map (·.1)) ds k d).2 ((putK kvs k v).map (·.2)) := by
  unfold putK dput
  rw [hasK_ok]
  by_cases hk : hasK (kvs.map (·.1)) k = true
  · rw [if_pos hk, if_pos hk]
    refine ⟨?_, drep_ok hd h⟩
    rw [List.map_map]
    apply List.map_congr_left
    intro kv _
    show (if kv.1 = k then (kv.1, v) else kv).1 = kv.1
    split <;> rfl
  · rw [if_neg hk, if_neg hk]
    refine ⟨by simp, ?_⟩
    rw [List.map_append]
    exact h.append (.one hd)
section
variable {X : Cx} {pos pos' : Pos} {o i value : Expr} {fo fi fv : FE}
theorem ms_store (hu : X.A.units + 1 < cLine) (hv : ME X value fv) (ho : ME X o fo) (hi : ME X i fi) (hs : swapsWith value (some (.Subscript o i pos')) pos.line X.env = pure false := by rfl)
    (hs1 : swapsWithSole [.Subscript o i pos'] value pos.line X.env = pure false := by rfl) (hw : swappedStores [.Subscript o i pos'] value X.env = pure none := by rfl)
    (h1 : (assignEach [.Subscript o i pos'] X.env).map (·.2) = [assign (.Subscript o i pos') X.env] := by rfl)
    (ha : ∀ v, assign (.Subscript o i pos') X.env v = (do
      let ov ← holding [v] (eval o X.env)
      let iv ← holding [v, ov] (eval i X.env)
      standAt pos'
      holding [v, ov, iv] (setItem ov iv v)
      release [v, ov, iv] []) := by intro _; rfl) : MS X (.Assign [.Subscript o i pos'] value pos) (sStore fv fo fi) := by
  have p1 := ps_asg (pos := pos) hv (pg_sub ho hi set_list ha) hs1 hw h1
  have p2 := ps_dput hu ho hi hv hs
  refine ⟨fun pins s σ H E I h => ?_⟩
  obtain ⟨m, ρ, μ, out, h1, h2, h3, h4⟩ := h
  unfold sStore at h3
  split at h3
  · rename_i v μ1 ev
    split at h3
    · rename_i od μ2 eo
      split at h3
      · rename_i id μ3 ei
        split at h3
        · rename_i μ4 es
          cases h3
          unfold gStore at es
          split at es
          · rename_i n
            split at es
            · rename_i ds ec
              split at es
              · rename_i k
                split at es
                · rename_i j ej
                  cases es
                  refine p1.run pins s σ H E I ⟨m, ρ, μ, v, μ1, h1, h2, ev, fun x H1 m1 e1 R1 r1 => ⟨m1, ρ, μ1, .ref n, μ2, R1, h2.ext e1, eo, fun y H2 m2 e2 R2 r2 => ⟨m2, ρ, μ2, .int k, μ3, R2, h2.ext (e1.trans e2), ei, fun z H3 m3 e3 R3 r3 => ?_⟩⟩⟩
                  obtain ⟨a, xs, rfl, ha, hH, hx⟩ := R3.open' ec (DV.ext e3 r2)
                  refine ⟨a, xs, k, j, rfl, r3, hH, by rw [hx.length]; exact ej, ?_⟩
                  exact h4 σ _ m3 (((e1.trans e2).trans e3).trans (Ext.set (List.mem_of_getElem? ha))) (R3.set ha hH trivial ⟨_, rfl, hx.set j (DV.ext (e2.trans e3) r1)⟩) (h2.ext (((e1.trans e2).trans e3).trans (Ext.set (List.mem_of_getElem? ha))))
                · cases es
              · cases es
            · rename_i ks ds ec
              split at es
              · rename_i k ek
                split at es
                · rename_i hz
                  cases es
                  refine p2.run pins s σ H E I ⟨m, ρ, μ, v, μ1, h1, h2, ev, fun x H1 m1 e1 R1 r1 => ⟨m1, ρ, μ1, .ref n, μ2, R1, h2.ext e1, eo, fun y H2 m2 e2 R2 r2 => ⟨m2, ρ, μ2, id, μ3, R2, h2.ext (e1.trans e2), ei, fun z H3 m3 e3 R3 r3 => ?_⟩⟩⟩
                  obtain ⟨a, rfl, ha⟩ := DV.ext e3 r2
                  obtain ⟨b, u, hb, hm, hr, hl, hvv⟩ := R3.at ec
                  rw [ha] at hb; cases hb
                  obtain ⟨kvs, rfl, rfl, hd⟩ := hvv
                  have hH := hl rfl
                  obtain ⟨q1, q2⟩ := dput_ok (k := k) hd (DV.ext (e2.trans e3) r1)
                  refine ⟨a, _, rfl, .inl ⟨kvs, k, hH, keyD_ok ek r3, size_lt (by simpa using hz), rfl⟩, ?_⟩
                  exact h4 σ _ m3 (((e1.trans e2).trans e3).trans (Ext.set (List.mem_of_getElem? ha))) (R3.set ha hH trivial ⟨_, rfl, q1, q2⟩) (h2.ext (((e1.trans e2).trans e3).trans (Ext.set (List.mem_of_getElem? ha))))
                · cases es
              · cases es
            · rename_i ks ds ec
              split at es
              · rename_i kd
                split at es
                · rename_i k ek
                  split at es
                  · rename_i hz
                    cases es
                    refine p2.run pins s σ H E I ⟨m, ρ, μ, v, μ1, h1, h2, ev, fun x H1 m1 e1 R1 r1 => ⟨m1, ρ, μ1, .ref n, μ2, R1, h2.ext e1, eo, fun y H2 m2 e2 R2 r2 => ⟨m2, ρ, μ2, .tup kd, μ3, R2, h2.ext (e1.trans e2), ei, fun z H3 m3 e3 R3 r3 => ?_⟩⟩⟩
                    obtain ⟨a, rfl, ha⟩ := DV.ext e3 r2
                    obtain ⟨b, u, hb, hm, hr, hl, hvv⟩ := R3.at ec
                    rw [ha] at hb; cases hb
                    obtain ⟨kvs, rfl, rfl, hd⟩ := hvv
                    have hH := hl rfl
                    obtain ⟨q1, q2⟩ := dput_ok (k := k) hd (DV.ext (e2.trans e3) r1)
                    obtain ⟨c, xs, rfl, ht, hxs⟩ := r3
                    have ex := keysD_ok ek hxs
                    subst ex
                    refine ⟨a, _, rfl, .inr ⟨kvs, k, c, hH, rfl, ht.2, size_lt (by simpa using hz), rfl⟩, ?_⟩
                    exact h4 σ _ m3 (((e1.trans e2).trans e3).trans (Ext.set (List.mem_of_getElem? ha))) (R3.set ha hH trivial ⟨_, rfl, q1, q2⟩) (h2.ext (((e1.trans e2).trans e3).trans (Ext.set (List.mem_of_getElem? ha))))
                  · cases es
                · cases es
              · cases es
            · cases es
          · cases es
        · cases h3
      · cases h3
    · cases h3
  · cases h3
end
end Mi
namespace Mi
open PySem PySem.Spec PyProof.Rows L2

/-! ## defs -/
def fDef (n np : Nat) (body : FS) : FF := fun ds μ => if ds.length = np then (match body (ds.map some ++ List.replicate (n - np) none) μ with
  | some (.rt d μ') => some (d, μ')
  | some (.nx _ μ') => some (.non, μ')
  | _ => none) else none
theorem envR_start {K : PySem.W.Frag} {m : Ms} {H : Hp} {ds : List D} {vs : List V} {N : List Str} (h : DVs K m H ds vs) : EnvR K m H (ds.map some ++ List.replicate (N.length - ds.length) none) (L2.start N vs) := by
  have hl := h.length
  refine ⟨by unfold L2.start; simp [hl], fun i d e => ?_⟩
  by_cases hi : i < ds.length
  · rw [List.getElem?_append_left (by simpa using hi), List.getElem?_map] at e
    cases q : ds[i]? with
    | none => rw [q] at e; cases e
    | some d' =>
      rw [q] at e
      simp only [Option.map_some, Option.some.injEq] at e
      subst e
      obtain ⟨v, hv, dv⟩ := h.get q
      refine ⟨v, ?_, dv⟩
      unfold L2.start
      rw [List.getElem?_append_left (by simp; omega), List.getElem?_map, hv]; rfl
  · rw [List.getElem?_append_right (by simp; omega)] at e
    rw [List.getElem?_replicate] at e
    split at e <;> cases e
section
variable {P : Program} {w : World} {K : PySem.W.Frag} {mg : Str → Option Value} {base : Heap}
theorem spF_len {F : FF} {n : Nat} (hF : ∀ ds μ, F ds μ ≠ none → ds.length = n) : ∀ vs H Q E, spF K F vs H Q E → vs.length = n := fun vs H Q E ⟨m, μ, ds, d, μ', R, r, h, _⟩ => by
  rw [r.length]
  exact hF ds μ (by rw [h]; exact fun z => by cases z)
theorem fDef_len {n np : Nat} {body : FS} : ∀ ds μ, fDef n np body ds μ ≠ none → ds.length = np := fun ds μ h => by
  unfold fDef at h
  by_cases q : ds.length = np
  · exact q
  · rw [if_neg q] at h; exact absurd rfl h
theorem fn_def {x qual : Str} {st : Stmt} {f : Addr} {fd : FuncData} {N ps : List Str} {k : Nat} {body : FS} (F : Fun K x qual st f fd) (S : FnScope N ps (defScope st))
    (hb : ∀ (cdv : Value) (A : Around) (outer : List Env) (s : Shared) (H : Hp) (E : XK), Room k (A.deeper (envOfC qual (defScope st) s.heap.objs.size f cdv)) →
      MSs (cxOf CX0 P w K mg base N qual (defScope st) f cdv A outer s H E).nox (defBody st) body) : FnOk P w K mg base CX0 (k + 1) f fd ps (spF K (fDef N.length ps.length body)) := by
  refine F.ok S (spF_len fDef_len) fun cdv A outer s H vs Q E hr h => ⟨_, hb cdv A outer s H E hr, ?_⟩
  obtain ⟨m, μ, ds, d, μ', R, r, hf, q⟩ := h
  unfold fDef at hf
  split at hf
  · rename_i hl
    rw [← hl] at hf
    split at hf
    · rename_i d' μ1 e
      cases hf
      exact ⟨m, _, μ, _, R, envR_start r, e, q⟩
    · rename_i ρ' μ1 e
      cases hf
      exact ⟨m, _, μ, _, R, envR_start r, e, fun σ' H' m' e' R' E' => q .non H' m' e' R' rfl⟩
    · cases hf
  · cases hf
end

/-! ## calls that leave memory as it is -/
mutual
def nr : D → Bool
  | .ref _ => false
  | .tup ds => nrs ds
  | .lst ds => nrs ds
  | .dK _ ds => nrs ds
  | .dT _ ds => nrs ds
  | .obj _ _ ds => nrs ds
  | _ => true
def nrs : List D → Bool
  | [] => true
  | d :: ds => nr d && nrs ds
end
mutual
def imm : D → Bool
  | .ref _ => false
  | .tup ds => imms ds
  | .lst _ => false
  | .dK _ _ => false
  | .dT _ _ => false
  | .obj _ _ _ => false
  | .scr _ => false
  | _ => true
def imms : List D → Bool
  | [] => true
  | d :: ds => imm d && imms ds
end
section
variable {K : PySem.W.Frag} {m m' : Ms} {H : Hp}
mutual
theorem nr_go (e : ∀ a, m.no a → m'.no a) : ∀ {d : D} {v : V}, nr d = true → DV K m H d v → DV K m' H d v
  | .non, _, _, h => h
  | .bl _, _, _, h => h
  | .int _, _, _, h => h
  | .str _, _, _, h => h
  | .adr _, _, _, h => h
  | .ref _, _, n, _ => by cases n
  | .tup ds, _, n, h => by
    obtain ⟨a, xs, h1, h2, h3⟩ := h
    exact ⟨a, xs, h1, ⟨e a h2.1, h2.2⟩, nrs_go e n h3⟩
  | .lst ds, _, n, h => by
    obtain ⟨a, xs, h1, h2, h3⟩ := h
    exact ⟨a, xs, h1, ⟨e a h2.1, h2.2⟩, nrs_go e n h3⟩
  | .dK ks ds, _, n, h => by
    obtain ⟨a, xs, h1, h2, h3, h4⟩ := h
    exact ⟨a, xs, h1, ⟨e a h2.1, h2.2⟩, h3, nrs_go e n h4⟩
  | .dT ks ds, _, n, h => by
    obtain ⟨a, xs, h1, h2, h3, h4⟩ := h
    exact ⟨a, xs, h1, ⟨e a h2.1, h2.2⟩, h3, nrs_go e n h4⟩
  | .obj C fs ds, _, n, h => by
    obtain ⟨a, dx, xs, h1, h2, h3, h4⟩ := h
    exact ⟨a, dx, xs, h1, ⟨e a h2.1, h2.2⟩, h3, nrs_go e n h4⟩
  | .scr ns, _, n, h => by
    obtain ⟨a, h1, h2⟩ := h
    exact ⟨a, h1, h2.imp (fun z => ⟨e a z.1, z.2⟩) fun z => z⟩
theorem nrs_go (e : ∀ a, m.no a → m'.no a) : ∀ {ds : List D} {vs : List V}, nrs ds = true → DVs K m H ds vs → DVs K m' H ds vs
  | [], _, _, h => h
  | d :: ds, _, n, h => by
    obtain ⟨x, xs, h1, h2, h3⟩ := h
    simp only [nrs, Bool.and_eq_true] at n
    exact ⟨x, xs, h1, nr_go e n.1 h2, nrs_go e n.2 h3⟩
end
mutual
theorem imm_go (e : ∀ a xs, H a = some (.tup xs) → m'.no a) : ∀ {d : D} {v : V}, imm d = true → DV K m H d v → DV K m' H d v
  | .non, _, _, h => h
  | .bl _, _, _, h => h
  | .int _, _, _, h => h
  | .str _, _, _, h => h
  | .adr _, _, _, h => h
  | .ref _, _, n, _ => by cases n
  | .tup ds, _, n, h => by
    obtain ⟨a, xs, h1, h2, h3⟩ := h
    exact ⟨a, xs, h1, ⟨e a _ h2.2, h2.2⟩, imms_go e n h3⟩
  | .lst ds, _, n, h => by cases n
  | .dK ks ds, _, n, h => by cases n
  | .dT ks ds, _, n, h => by cases n
  | .obj C fs ds, _, n, h => by cases n
  | .scr _, _, n, h => by cases n
theorem imms_go (e : ∀ a xs, H a = some (.tup xs) → m'.no a) : ∀ {ds : List D} {vs : List V}, imms ds = true → DVs K m H ds vs → DVs K m' H ds vs
  | [], _, _, h => h
  | d :: ds, _, n, h => by
    obtain ⟨x, xs, h1, h2, h3⟩ := h
    simp only [imms, Bool.and_eq_true] at n
    exact ⟨x, xs, h1, imm_go e n.1 h2, imms_go e n.2 h3⟩
end
/-- the items of a container -/
def items : D → List D
  | .tup ds => ds
  | .lst ds => ds
  | .dK _ ds => ds
  | .dT _ ds => ds
  | .obj _ _ ds => ds
  | _ => []
def isBox : D → Bool
  | .lst _ => true
  | .dK _ _ => true
  | .dT _ _ => true
  | .obj _ _ _ => true
  | _ => false
def optAll (g : D → Option D) : List D → Option (List D)
  | [] => some []
  | d :: ds => match g d with
    | some e => match optAll g ds with
      | some es => some (e :: es)
      | none => none
    | none => none
/-- the same container, its items changed -/
def withIt (g : List D → Option (List D)) : D → Option D
  | .lst ds => match g ds with
    | some es => some (.lst es)
    | none => none
  | .dK ks ds => match g ds with
    | some es => some (.dK ks es)
    | none => none
  | .dT ks ds => match g ds with
    | some es => some (.dT ks es)
    | none => none
  | .obj C fs ds => match g ds with
    | some es => some (.obj C fs es)
    | none => none
  | _ => none
/-- what a def's own memory held, as data for its caller -/
def frz (p : Bool) (b : D → Bool) : Nat → Mem → D → Option D
  | 0, _, d => if b d then some d else none
  | n + 1, μ, d => if b d then some d else match d with
    | .tup ds => match optAll (frz p b n μ) ds with
      | some es => some (.tup es)
      | none => none
    | .ref k => match μ[k]? with
      | some c => withIt (optAll (frz p b n μ)) c.c
      | none => none
    | d => if p then withIt (optAll (frz p b n μ)) d else none
/-- what comes back of a def that ran on a memory of its own -/
def backN (d : D) (μ1 : Mem) : Option D := frz true nr 6 μ1 d
def backI (d : D) (μ1 : Mem) : Option D := frz false imm 6 μ1 d
def pureF (F : FF) : FF := fun ds μ => if nrs ds then (match F ds [] with
  | some (d, μ1) => match backN d μ1 with
    | some d' => some (d', μ)
    | none => none
  | none => none) else none
def borF (F : FF) : FF := fun ds μ => if nrs (ds.map (see μ)) then (match F (ds.map (see μ)) [] with
  | some (d, μ1) => match backI d μ1 with
    | some d' => some (d', μ)
    | none => none
  | none => none) else none
theorem Rel.sub {μ : Mem} (R : Rel K m H μ) {H' : Hp} (e : ∀ a u, H a = some u → H' a = some u) : Rel K m H' μ ∧ Ext m H m H' := by
  have x : Ext m H m H' := ⟨⟨[], by simp, fun _ h => by cases h⟩, ⟨[], by simp, fun _ h => by cases h⟩, rfl, fun a u _ h => e a u h, fun a h => by
    cases q : H a with
    | none => exact absurd q h
    | some u => rw [e a u q]; exact fun z => by cases z⟩
  have rd : ∀ a u, Rd H a u → Rd H' a u := fun a u r => r.imp (e a _) fun ⟨o, h⟩ => ⟨o, e a _ h⟩
  exact ⟨⟨R.len, R.nd, fun a ha => let ⟨u, n, r⟩ := R.hid a ha; ⟨u, n, rd a u r⟩, fun t ht => e _ _ (R.ov t ht), fun n c hc => let ⟨a, ha, u, hr, hl, hv⟩ := R.cell n c hc; ⟨a, ha, u, rd a u hr, fun z => e a u (hl z), HV.ext x hv⟩⟩, x⟩
theorem Rel.hidl {μ : Mem} (R : Rel K m H μ) {a : Addr} (h : a ∈ m.l) : HidOk H a := by
  obtain ⟨n, hn, e⟩ := List.getElem_of_mem h
  have hlt : n < μ.length := by rw [← R.len]; exact hn
  obtain ⟨b, hb, u, hr, _, hv⟩ := R.cell n μ[n] (List.getElem?_eq_getElem hlt)
  rw [List.getElem?_eq_getElem hn] at hb
  cases hb
  rw [← e]
  exact ⟨u, HV.nt hv, hr⟩
theorem Rel.empty {hid : List Addr} (h : ∀ a ∈ hid, HidOk H a) : Rel K ⟨[], hid, []⟩ H [] := ⟨rfl, List.nodup_nil, h, fun t ht => (by cases ht), fun n c hc => (by simp at hc)⟩
theorem see_rep : ∀ {ds : List D} {vs : List V} {μ : Mem}, Rel K m H μ → DVs K m H ds vs → nrs (ds.map (see μ)) = true → DVs K ⟨[], [], []⟩ H (ds.map (see μ)) vs
  | [], _, _, _, h, _ => h
  | d :: ds, _, μ, R, h, n => by
    obtain ⟨x, xs, rfl, h2, h3⟩ := h
    simp only [List.map_cons, nrs, Bool.and_eq_true] at n
    refine ⟨x, xs, rfl, ?_, see_rep R h3 n.2⟩
    have sv := see_ok R h2
    have nn := n.1
    have no : ∀ a, Ms.no ⟨[], [], []⟩ a := fun a => ⟨fun h => (by cases h), fun h => (by cases h)⟩
    cases hd : see μ d with
    | tup es => rw [hd] at sv nn; obtain ⟨a, ys, rfl, h4, h5⟩ := sv; exact ⟨a, ys, rfl, ⟨no a, h4⟩, nrs_go (fun a _ => no a) nn h5⟩
    | lst es => rw [hd] at sv nn; obtain ⟨a, ys, rfl, h4, h5⟩ := sv; exact ⟨a, ys, rfl, ⟨no a, h4⟩, nrs_go (fun a _ => no a) nn h5⟩
    | dK ks es => rw [hd] at sv nn; obtain ⟨a, ys, rfl, h4, h5, h6⟩ := sv; exact ⟨a, ys, rfl, ⟨no a, h4⟩, h5, nrs_go (fun a _ => no a) nn h6⟩
    | dT ks es => rw [hd] at sv nn; obtain ⟨a, ys, rfl, h4, h5, h6⟩ := sv; exact ⟨a, ys, rfl, ⟨no a, h4⟩, h5, nrs_go (fun a _ => no a) nn h6⟩
    | obj C fs es => rw [hd] at sv nn; obtain ⟨a, dx, ys, rfl, h4, h5, h6⟩ := sv; exact ⟨a, dx, ys, rfl, ⟨no a, h4⟩, h5, nrs_go (fun a _ => no a) nn h6⟩
    | ref n' => rw [hd] at nn; cases nn
    | non => rw [hd] at sv; exact sv
    | bl b => rw [hd] at sv; exact sv
    | int b => rw [hd] at sv; exact sv
    | str b => rw [hd] at sv; exact sv
    | adr b => rw [hd] at sv; exact sv
    | scr ns => rw [hd] at sv; obtain ⟨a, rfl, h4⟩ := sv; exact ⟨a, rfl, h4.imp (fun z => ⟨no a, z⟩) fun z => z⟩
/-- a container's value at an address that the caller's memory does not know -/
theorem cell_dv {m1 : Ms} {c : D} {u : HO} {a : Addr} (hv : HV K m1 H c u) (hr : Rd H a u) (no : m'.no a) (f : ∀ {ds vs}, DVs K m1 H ds vs → ds = items c → DVs K m' H ds vs) : DV K m' H c (.ref a) := by
  cases c <;> first | exact hv.elim | skip
  · obtain ⟨xs, rfl, h2⟩ := hv; exact ⟨a, xs, rfl, ⟨no, hr⟩, f h2 rfl⟩
  · obtain ⟨xs, rfl, h2, h3⟩ := hv; exact ⟨a, xs, rfl, ⟨no, hr⟩, h2, f h3 rfl⟩
  · obtain ⟨xs, rfl, h2, h3⟩ := hv; exact ⟨a, xs, rfl, ⟨no, hr⟩, h2, f h3 rfl⟩
  · obtain ⟨dx, xs, rfl, h2, h3⟩ := hv; exact ⟨a, dx, xs, rfl, ⟨no, hr⟩, h2, f h3 rfl⟩
theorem optAll_ok {m1 : Ms} {g : D → Option D} (hg : ∀ d d' v, g d = some d' → DV K m1 H d v → DV K m' H d' v) : ∀ {ds es : List D} {vs : List V}, optAll g ds = some es → DVs K m1 H ds vs → DVs K m' H es vs
  | [], es, vs, h, hv => by cases h; exact hv
  | d :: ds, es, vs, h, hv => by
    unfold optAll at h
    obtain ⟨x, xs, rfl, h2, h3⟩ := hv
    split at h
    · rename_i e he
      split at h
      · rename_i es' hes
        cases h
        exact ⟨x, xs, rfl, hg _ _ _ he h2, optAll_ok hg hes h3⟩
      · cases h
    · cases h
theorem with_cell {m1 : Ms} {c c' : D} {u : HO} {a : Addr} {g : List D → Option (List D)} (hv : HV K m1 H c u) (hr : Rd H a u) (no : m'.no a) (hw : withIt g c = some c')
    (hg : ∀ ds es vs, g ds = some es → DVs K m1 H ds vs → DVs K m' H es vs) : DV K m' H c' (.ref a) := by
  unfold withIt at hw
  split at hw
  all_goals first | (split at hw <;> first | (cases hw; done) | skip) | cases hw
  · rename_i es he
    cases hw
    obtain ⟨xs, rfl, h2⟩ := hv; exact ⟨a, xs, rfl, ⟨no, hr⟩, hg _ _ _ he h2⟩
  · rename_i es he
    cases hw
    obtain ⟨xs, rfl, h2, h3⟩ := hv; exact ⟨a, xs, rfl, ⟨no, hr⟩, h2, hg _ _ _ he h3⟩
  · rename_i es he
    cases hw
    obtain ⟨xs, rfl, h2, h3⟩ := hv; exact ⟨a, xs, rfl, ⟨no, hr⟩, h2, hg _ _ _ he h3⟩
  · rename_i es he
    cases hw
    obtain ⟨dx, xs, rfl, h2, h3⟩ := hv; exact ⟨a, dx, xs, rfl, ⟨no, hr⟩, h2, hg _ _ _ he h3⟩
theorem with_dv {m1 : Ms} {c c' : D} {v : V} {g : List D → Option (List D)} (hv : DV K m1 H c v) (no : ∀ a, m1.no a → m'.no a) (hw : withIt g c = some c')
    (hg : ∀ ds es vs, g ds = some es → DVs K m1 H ds vs → DVs K m' H es vs) : DV K m' H c' v := by
  unfold withIt at hw
  split at hw
  all_goals first | (split at hw <;> first | (cases hw; done) | skip) | cases hw
  · rename_i es he
    cases hw
    obtain ⟨a, xs, rfl, hr, h2⟩ := hv; exact ⟨a, xs, rfl, ⟨no a hr.1, hr.2⟩, hg _ _ _ he h2⟩
  · rename_i es he
    cases hw
    obtain ⟨a, xs, rfl, hr, h2, h3⟩ := hv; exact ⟨a, xs, rfl, ⟨no a hr.1, hr.2⟩, h2, hg _ _ _ he h3⟩
  · rename_i es he
    cases hw
    obtain ⟨a, xs, rfl, hr, h2, h3⟩ := hv; exact ⟨a, xs, rfl, ⟨no a hr.1, hr.2⟩, h2, hg _ _ _ he h3⟩
  · rename_i es he
    cases hw
    obtain ⟨a, dx, xs, rfl, hr, h2, h3⟩ := hv; exact ⟨a, dx, xs, rfl, ⟨no a hr.1, hr.2⟩, h2, hg _ _ _ he h3⟩
theorem frz_ok {p : Bool} {b : D → Bool} {m1 : Ms} {μ1 : Mem} (R1 : Rel K m1 H μ1) (hb : ∀ d v, b d = true → DV K m1 H d v → DV K m' H d v) (ht : ∀ a xs, H a = some (.tup xs) → m'.no a)
    (hp : p = true → ∀ a, m1.no a → m'.no a) (hf : ∀ a, a ∈ m1.l → m'.no a) : ∀ (n : Nat) (d d' : D) (v : V), frz p b n μ1 d = some d' → DV K m1 H d v → DV K m' H d' v
  | 0, d, d', v, h, hv => by
    unfold frz at h
    split at h
    · rename_i e; cases h; exact hb _ _ e hv
    · cases h
  | n + 1, d, d', v, h, hv => by
    have ih := frz_ok R1 hb ht hp hf n
    have ihs : ∀ ds es vs, optAll (frz p b n μ1) ds = some es → DVs K m1 H ds vs → DVs K m' H es vs := fun ds es vs => optAll_ok (fun d d' v => ih d d' v)
    unfold frz at h
    split at h
    · rename_i e; cases h; exact hb _ _ e hv
    · split at h
      · rename_i ds
        split at h
        · rename_i es he
          cases h
          obtain ⟨a, xs, rfl, h2, h3⟩ := hv
          exact ⟨a, xs, rfl, ⟨ht a _ h2.2, h2.2⟩, ihs _ _ _ he h3⟩
        · cases h
      · rename_i k
        split at h
        · rename_i c hc
          obtain ⟨a, rfl, ha⟩ := hv
          obtain ⟨b', u, hb', hm, hr, _, hcv⟩ := R1.at hc
          rw [ha] at hb'; cases hb'
          exact with_cell hcv hr (hf a hm) h ihs
        · cases h
      · split at h
        · rename_i hpt
          exact with_dv hv (hp hpt) h ihs
        · cases h
theorem nr_items {c : D} (h : nr c = true) : nrs (items c) = true := by
  cases c <;> first | exact h | rfl
end
section
variable {P : Program} {w : World} {K : PySem.W.Frag} {mg : Str → Option Value} {base : Heap}
theorem fn_pure {CX : CXT} {k : Nat} {f : Addr} {fd : FuncData} {ps : List Str} {F : FF} (G : FnOk P w K mg base CX k f fd ps (spF K F)) : FnOk P w K mg base CX k f fd ps (spF K (pureF F)) :=
  G.imp fun vs H Q E ⟨m, μ, ds, d, μ', R, r, hf, q⟩ => by
    unfold pureF at hf
    split at hf
    · rename_i hn
      split at hf
      · rename_i d0 μ1 e0
        split at hf
        · rename_i d' eb
          cases hf
          have hidok : ∀ a ∈ m.l ++ m.hid, HidOk H a := fun a ha => (List.mem_append.mp ha).elim R.hidl (R.hid a)
          have no1 : ∀ a, m.no a → Ms.no ⟨[], m.l ++ m.hid, []⟩ a := fun a h => ⟨fun z => (by cases z), fun z => (List.mem_append.mp z).elim h.1 h.2⟩
          refine ⟨⟨[], m.l ++ m.hid, []⟩, [], ds, d0, μ1, Rel.empty hidok, nrs_go no1 hn r, e0, fun v H' m1 e1 R1 dv => ?_⟩
          obtain ⟨R', x⟩ := R.sub fun a u h => e1.exact a u (fun z => by cases z) h
          have no2 : ∀ a, m1.no a → m.no a := fun a h => ⟨fun z => h.2 (e1.hid_sub (List.mem_append_left _ z)), fun z => h.2 (e1.hid_sub (List.mem_append_right _ z))⟩
          refine q v H' m x R' (frz_ok R1 (fun d v h dv => nr_go no2 h dv) (fun a xs h => ⟨fun z => (R'.hidl z).notup xs h, fun z => (R'.hid a z).notup xs h⟩) (fun _ => no2) (fun a hm => R.fresh ?_) 6 _ _ _ eb dv)
          obtain ⟨l, hl, hfr⟩ := e1.pre
          rw [hl] at hm
          exact hfr a (by simpa using hm)
        · cases hf
      · cases hf
    · cases hf
theorem fn_bor {CX : CXT} {k : Nat} {f : Addr} {fd : FuncData} {ps : List Str} {F : FF} (G : FnOk P w K mg base CX k f fd ps (spF K F)) : FnOk P w K mg base CX k f fd ps (spF K (borF F)) :=
  G.imp fun vs H Q E ⟨m, μ, ds, d, μ', R, r, hf, q⟩ => by
    unfold borF at hf
    split at hf
    · rename_i hn
      split at hf
      · rename_i d0 μ1 e0
        split at hf
        · rename_i d' eb
          cases hf
          refine ⟨⟨[], [], []⟩, [], ds.map (see _), d0, μ1, Rel.empty (fun a ha => by cases ha), see_rep R r hn, e0, fun v H' m1 e1 R1 dv => ?_⟩
          obtain ⟨R', x⟩ := R.sub fun a u h => e1.exact a u (fun z => by cases z) h
          have no2 : ∀ a xs, H' a = some (.tup xs) → m.no a := fun a xs h => ⟨fun z => (R'.hidl z).notup xs h, fun z => (R'.hid a z).notup xs h⟩
          refine q v H' m x R' (frz_ok R1 (fun d v h dv => imm_go no2 h dv) no2 (fun h => by cases h) (fun a hm => R.fresh ?_) 6 _ _ _ eb dv)
          obtain ⟨l, hl, hfr⟩ := e1.pre
          rw [hl] at hm
          exact hfr a (by simpa using hm)
        · cases hf
      · cases hf
    · cases hf
end
end Mi
namespace Mi
open PySem PySem.Spec PyProof.Rows L2

/-! ## for k in d -/
def keyV : Key → D
  | .inl i => .int i
  | .inr x => .str x
def keyItems : D → Option (List D)
  | .dK ks _ => some (ks.map keyV)
  | .dT ks _ => some (ks.map fun k => .tup (k.map keyV))
  | _ => none
def unlockM (n : Nat) (c : D) (μ : Mem) : Option Mem := match μ[n]? with
  | some ⟨true, c'⟩ => if beqD c' c then some (μ.set n ⟨false, c⟩) else none
  | _ => none
def unlockO (n : Nat) (c : D) : Out → Option Out
  | .nx ρ μ => match unlockM n c μ with
    | some μ' => some (.nx ρ μ')
    | none => none
  | .bk ρ μ => match unlockM n c μ with
    | some μ' => some (.bk ρ μ')
    | none => none
  | .ct ρ μ => match unlockM n c μ with
    | some μ' => some (.ct ρ μ')
    | none => none
  | .rt d μ => match unlockM n c μ with
    | some μ' => some (.rt d μ')
    | none => none
def forDc (n : Nat) (c : D) (its : List D) (g : FG) (body : FS) (fgt : List Nat) (ρ : Rho) (μ : Mem) : Option Out :=
  match forL (fun _ => true) g body fgt its (forget fgt ρ) (μ.set n ⟨true, c⟩) with
  | some o => unlockO n c o
  | none => none
def sForD (i : Nat) (g : FG) (body : FS) (fgt : List Nat) : FS := fun ρ μ => match ρ[i]? with
  | some (some (.ref n)) => match μ[n]? with
    | some ⟨false, c⟩ => match keyItems c with
      | some its => forDc n c its g body fgt ρ μ
      | none => none
    | _ => none
  | some (some d) => match keyItems d with
    | some its => forL (fun _ => true) g body fgt its (forget fgt ρ) μ
    | none => none
  | _ => none

theorem for_core {K : PySem.W.Frag} {m1 : Ms} {H1 : Hp} {ρ : Rho} {μ1 : Mem} {its : List D} {gd : Mem → Bool} {g : TG} {fg : FG} {fb : FS} {vs fgt : List Nat} {o : Out} {E : Ends} {σ : L2.St} {J : It} (ok : TgOk K vs g fg) (gJ : Good K J m1 H1 its gd) (R1 : Rel K m1 H1 μ1)
    (E1 : EnvR K m1 H1 ρ σ) (h3 : forL gd fg fb fgt its ρ μ1 = some o) (h4 : OutOk K E m1 H1 o) :
    ∃ W : Nat → Nat → L2.St → Hp → Prop, (∃ m, W 0 m σ H1) ∧ ∀ i m σ H, W i m σ H →
      (J.stop i H ∧ E.nx σ H) ∨ (J.go i H ∧ ∃ N : L2.St → Hp → Prop, (∀ σ' H', N σ' H' → ∃ m', m' < m ∧ W (i + 1) m' σ' H') ∧ ∀ x H', J.yld i H x H' → g x σ H' fun σ2 H2 => lS K fb { E with nx := N, ct := N, bk := E.nx } σ2 H2) := by
  refine ⟨fun i n σ' H' => ∃ ρ' μ' m', Ext m1 H1 m' H' ∧ Rel K m' H' μ' ∧ EnvR K m' H' ρ' σ' ∧ i + n = its.length ∧ forL gd fg fb fgt (its.drop i) ρ' μ' = some o,
    ⟨its.length, ρ, μ1, m1, Ext.refl, R1, E1, by omega, by simpa using h3⟩, fun i n σ' H' hW => ?_⟩
  obtain ⟨ρ', μ', m', e', R', E', hn, hf⟩ := hW
  by_cases hlt : i < its.length
  · have hd : its.drop i = its[i] :: its.drop (i + 1) := List.drop_eq_getElem_cons hlt
    rw [hd] at hf
    unfold forL at hf
    by_cases hgd : gd μ' = true
    · rw [if_pos hgd] at hf
      obtain ⟨go, yl⟩ := gJ.turn m' H' μ' i its[i] e' R' hgd (List.getElem?_eq_getElem hlt)
      refine .inr ⟨go, fun σ2 H2 => ∃ ρ2 μ2 m2, Ext m1 H1 m2 H2 ∧ Rel K m2 H2 μ2 ∧ EnvR K m2 H2 ρ2 σ2 ∧ (i + 1) + (n - 1) = its.length ∧ forL gd fg fb fgt (its.drop (i + 1)) ρ2 μ2 = some o,
        fun σ2 H2 hN => ⟨n - 1, by omega, hN⟩, fun x H2 hy => ?_⟩
      obtain ⟨e2, R2, dv⟩ := yl x H2 hy
      split at hf
      · rename_i ρ1 μ2 eg
        refine ok.mono _ _ _ _ ⟨m', ρ', μ', its[i], ρ1, μ2, R2, E'.ext e2, dv, eg, fun σ3 H3 m3 e3 R3 E3 => ?_⟩
        have b3 : Ext m1 H1 m3 H3 := (e'.trans e2).trans e3
        split at hf
        · rename_i ρ4 μ4 eb
          exact ⟨m3, ρ1, μ2, _, R3, E3, eb, fun σ5 H5 m5 e5 R5 E5 => ⟨forget fgt ρ4, μ4, m5, b3.trans e5, R5, E5.forget fgt, by omega, hf⟩⟩
        · rename_i ρ4 μ4 eb
          exact ⟨m3, ρ1, μ2, _, R3, E3, eb, fun σ5 H5 m5 e5 R5 E5 => ⟨forget fgt ρ4, μ4, m5, b3.trans e5, R5, E5.forget fgt, by omega, hf⟩⟩
        · rename_i ρ4 μ4 eb
          cases hf
          exact ⟨m3, ρ1, μ2, _, R3, E3, eb, fun σ5 H5 m5 e5 R5 E5 => h4 σ5 H5 m5 (b3.trans e5) R5 (E5.forget fgt)⟩
        · rename_i d μ4 eb
          cases hf
          exact ⟨m3, ρ1, μ2, _, R3, E3, eb, fun v H5 m5 e5 R5 dv5 => h4 v H5 m5 (b3.trans e5) R5 dv5⟩
        · cases hf
      · cases hf
    · rw [if_neg hgd] at hf; cases hf
  · have hi' : i = its.length := by omega
    subst hi'
    rw [List.drop_length] at hf
    unfold forL at hf
    by_cases hgd : gd μ' = true
    · rw [if_pos hgd] at hf
      cases hf
      exact .inl ⟨gJ.stop m' H' μ' e' R' hgd, h4 σ' H' m' e' R' E'⟩
    · rw [if_neg hgd] at hf; cases hf

theorem keysV_DVs {K : PySem.W.Frag} {m : Ms} {H : Hp} : ∀ (k : List Key), DVs K m H (k.map keyV) (k.map kV)
  | [] => rfl
  | .inl i :: k => ⟨_, _, rfl, rfl, keysV_DVs k⟩
  | .inr i :: k => ⟨_, _, rfl, rfl, keysV_DVs k⟩
theorem keyV_DV {K : PySem.W.Frag} {m : Ms} {H : Hp} (k : Key) : DV K m H (keyV k) (kV k) := by cases k <;> rfl
/-- the walk of a locked dict -/
def ItK (a : Addr) (od : Obj) : HO → It
  | .dK kvs => Itk a od kvs
  | .dT kvs => Itkt a od kvs
  | _ => ⟨fun _ _ => False, fun _ _ _ _ => False, fun _ _ => False⟩
theorem good_keys {K : PySem.W.Frag} {m1 : Ms} {H1 : Hp} {a : Addr} {od : Obj} {u : HO} {c : D} {its : List D} (hv : ∃ m H, HV K m H c u) (hi : keyItems c = some its) (hl : ∀ m H μ, Ext m1 H1 m H → Rel K m H μ → H a = some (.frz od u)) : Good K (ItK a od u) m1 H1 its (fun _ => true) := by
  obtain ⟨m0, H0, hv⟩ := hv
  cases c <;> first | (cases hi; done) | skip
  · rename_i ks ds
    obtain ⟨kvs, rfl, rfl, _⟩ := hv
    cases hi
    refine ⟨fun m H μ e R _ => ⟨hl m H μ e R, by simp⟩, fun m H μ i d e R _ hd => ?_⟩
    rw [List.map_map, List.getElem?_map] at hd
    cases q : kvs[i]? with
    | none => rw [q] at hd; cases hd
    | some kv =>
      rw [q] at hd
      cases hd
      refine ⟨⟨hl m H μ e R, (List.getElem?_eq_some_iff.mp q).1⟩, fun x H' ⟨e1, k, v, e2, e3⟩ => ?_⟩
      subst e1
      rw [q] at e2; cases e2
      subst e3
      exact ⟨Ext.refl, R, keyV_DV _⟩
  · rename_i ks ds
    obtain ⟨kvs, rfl, rfl, _⟩ := hv
    cases hi
    refine ⟨fun m H μ e R _ => ⟨hl m H μ e R, by simp⟩, fun m H μ i d e R _ hd => ?_⟩
    rw [List.map_map, List.getElem?_map] at hd
    cases q : kvs[i]? with
    | none => rw [q] at hd; cases hd
    | some kv =>
      rw [q] at hd
      cases hd
      refine ⟨⟨hl m H μ e R, (List.getElem?_eq_some_iff.mp q).1⟩, fun x H' ⟨e1, k, v, p, e2, e3, e4⟩ => ?_⟩
      subst e1
      rw [q] at e2; cases e2
      subst e3
      exact ⟨Ext.refl, R, p, _, rfl, ⟨⟨fun z => (R.hidl z).notup _ e4, fun z => (R.hid p z).notup _ e4⟩, e4⟩, keysV_DVs _⟩
section
variable {K : PySem.W.Frag} {m : Ms} {H : Hp} {μ : Mem} {a : Addr} {u : HO} {od : Obj}
def Ms.lock (m : Ms) (a : Addr) (od : Obj) (u : HO) : Ms := { m with ov := (a, od, u) :: m.ov }
theorem go_lock (h : H a = some u) (hp : Plain u) (nt : ∀ xs, u ≠ .tup xs) : Go m H (m.lock a od u) (upd H a (.frz od u)) := by
  refine ⟨fun b v pv q => ⟨q.1, ?_⟩, fun b xs q => ⟨q.1, ?_⟩, fun _ _ q => q⟩
  · by_cases e : b = a
    · have r := q.2
      rw [e] at r ⊢
      have : v = u := rd_inj r (.inl h) pv hp
      rw [this]
      exact .inr ⟨od, upd_same⟩
    · exact rd_upd e q.2
  · have ne : b ≠ a := fun e => by
      have r := q.2
      rw [e, h] at r
      cases r
      exact nt xs rfl
    rw [upd_ne ne]; exact q.2
theorem ov_other (R : Rel K m H μ) (h : H a = some u) (hp : Plain u) : ∀ t ∈ m.ov, t.1 ≠ a := fun t ht e => by
  have q := R.ov t ht
  rw [e, h] at q; cases q; exact hp
theorem hid_upd {v : HO} {hid : List Addr} (R : ∀ b ∈ hid, HidOk H b) (hv : NT v ∨ ∃ o w, v = .frz o w ∧ NT w) : ∀ b ∈ hid, HidOk (upd H a v) b := fun b hb => by
  obtain ⟨w, hn, hr⟩ := R b hb
  by_cases e : b = a
  · rw [e]
    rcases hv with hv | ⟨o, w', rfl, hw⟩
    · exact ⟨v, hv, .inl upd_same⟩
    · exact ⟨w', hw, .inr ⟨o, upd_same⟩⟩
  · exact ⟨w, hn, rd_upd e hr⟩
/-- a cell is locked -/
theorem Rel.lockC (R : Rel K m H μ) {n : Nat} {c : D} (ha : m.l[n]? = some a) (h : H a = some u) (hv : HV K m H c u) (hc : μ[n]? = some ⟨false, c⟩) : Rel K (m.lock a od u) (upd H a (.frz od u)) (μ.set n ⟨true, c⟩) := by
  have nt := HV.nt hv
  have g : Go m H (m.lock a od u) (upd H a (.frz od u)) := go_lock h nt.1 nt.2
  refine ⟨by simp [R.len, Ms.lock], R.nd, hid_upd R.hid (.inr ⟨od, u, rfl, nt⟩), fun t ht => ?_, fun k c' hk => ?_⟩
  · rcases List.mem_cons.mp ht with e | ht
    · rw [e]; exact upd_same
    · rw [upd_ne (ov_other R h nt.1 t ht)]; exact R.ov t ht
  · by_cases e : k = n
    · subst e
      have hlt : k < μ.length := (List.getElem?_eq_some_iff.mp hc).1
      rw [List.getElem?_set_self hlt] at hk
      cases hk
      exact ⟨a, ha, u, .inr ⟨od, upd_same⟩, fun z => (by cases z), HV.go g hv⟩
    · rw [List.getElem?_set_ne (Ne.symm e)] at hk
      obtain ⟨b, hb, w, hr, hl, hw⟩ := R.cell k c' hk
      have ne : b ≠ a := fun z => by
        subst z
        exact e ((List.getElem_inj R.nd).mp ((List.getElem?_eq_some_iff.mp hb).2.trans (List.getElem?_eq_some_iff.mp ha).2.symm))
      exact ⟨b, hb, w, rd_upd ne hr, fun z => by rw [upd_ne ne]; exact hl z, HV.go g hw⟩
/-- a frozen dict is locked -/
theorem Rel.lockF (R : Rel K m H μ) (no : a ∉ m.l) (h : H a = some u) (nt : NT u) : Rel K (m.lock a od u) (upd H a (.frz od u)) μ := by
  have g : Go m H (m.lock a od u) (upd H a (.frz od u)) := go_lock h nt.1 nt.2
  refine ⟨R.len, R.nd, hid_upd R.hid (.inr ⟨od, u, rfl, nt⟩), fun t ht => ?_, fun k c' hk => ?_⟩
  · rcases List.mem_cons.mp ht with e | ht
    · rw [e]; exact upd_same
    · rw [upd_ne (ov_other R h nt.1 t ht)]; exact R.ov t ht
  · obtain ⟨b, hb, w, hr, hl, hw⟩ := R.cell k c' hk
    have ne : b ≠ a := fun z => no (z ▸ List.mem_of_getElem? hb)
    exact ⟨b, hb, w, rd_upd ne hr, fun z => by rw [upd_ne ne]; exact hl z, HV.go g hw⟩
end
section
variable {K : PySem.W.Frag} {m m' : Ms} {H H' : Hp} {μ μ' : Mem} {a : Addr} {u : HO} {od : Obj}
theorem ext_unlock (h : H a = some u) (e : Ext (m.lock a od u) (upd H a (.frz od u)) m' H') : Ext m H { m' with ov := m.ov } (upd H' a u) := by
  have fr : ∀ b, upd H a (.frz od u) b = none → H b = none := fun b q => by
    by_cases z : b = a
    · rw [z, upd_same] at q; cases q
    · rw [upd_ne z] at q; exact q
  obtain ⟨l, hl, hf⟩ := e.pre
  obtain ⟨w, hw, hg⟩ := e.hid
  refine ⟨⟨l, hl, fun b hb => fr b (hf b hb)⟩, ⟨w, hw, fun b hb => fr b (hg b hb)⟩, rfl, fun b v hb hv => ?_, fun b hb => ?_⟩
  · by_cases z : b = a
    · rw [z] at hv ⊢
      rw [h] at hv; cases hv
      exact upd_same
    · rw [upd_ne z]
      exact e.exact b v hb (by rw [upd_ne z]; exact hv)
  · by_cases z : b = a
    · rw [z, upd_same]; exact fun z => by cases z
    · rw [upd_ne z]
      exact e.live b (by rw [upd_ne z]; exact hb)
theorem go_unlock (R : Rel K m' H' μ') (hf : H' a = some (.frz od u)) (nt : NT u) (ov : List (Addr × Obj × HO)) : Go m' H' { m' with ov := ov } (upd H' a u) := by
  refine ⟨fun b v pv q => ⟨q.1, ?_⟩, fun b xs q => ⟨q.1, ?_⟩, fun _ _ q => q⟩
  · by_cases e : b = a
    · have r := q.2
      rw [e] at r ⊢
      have : v = u := rd_inj r (.inr ⟨od, hf⟩) pv nt.1
      rw [this]
      exact .inl upd_same
    · exact rd_upd e q.2
  · have ne : b ≠ a := fun e => by
      have r := q.2
      rw [e, hf] at r; cases r
    rw [upd_ne ne]; exact q.2
theorem rel_unlockF (R0 : Rel K m H μ) (h : H a = some u) (nt : NT u) (e : Ext (m.lock a od u) (upd H a (.frz od u)) m' H') (R : Rel K m' H' μ') (no : a ∉ m'.l) : Rel K { m' with ov := m.ov } (upd H' a u) μ' := by
  have hf : H' a = some (.frz od u) := R.ov (a, od, u) (by rw [e.ov]; exact List.mem_cons_self)
  have g := go_unlock R hf nt m.ov
  refine ⟨R.len, R.nd, hid_upd R.hid (.inl nt), fun t ht => ?_, fun k c hk => ?_⟩
  · rw [upd_ne (ov_other R0 h nt.1 t ht)]
    exact R.ov t (by rw [e.ov]; exact List.mem_cons_of_mem _ ht)
  · obtain ⟨b, hb, w, hr, hl, hw⟩ := R.cell k c hk
    have ne : b ≠ a := fun z => no (z ▸ List.mem_of_getElem? hb)
    exact ⟨b, hb, w, rd_upd ne hr, fun z => by rw [upd_ne ne]; exact hl z, HV.go g hw⟩
theorem rel_unlockC (R0 : Rel K m H μ) (h : H a = some u) (nt : NT u) (e : Ext (m.lock a od u) (upd H a (.frz od u)) m' H') (R : Rel K m' H' μ') {n : Nat} {c : D} (ha : m'.l[n]? = some a) (hc : μ'[n]? = some ⟨true, c⟩) : Rel K { m' with ov := m.ov } (upd H' a u) (μ'.set n ⟨false, c⟩) := by
  have hf : H' a = some (.frz od u) := R.ov (a, od, u) (by rw [e.ov]; exact List.mem_cons_self)
  have g := go_unlock R hf nt m.ov
  refine ⟨by simp [R.len], R.nd, hid_upd R.hid (.inl nt), fun t ht => ?_, fun k c' hk => ?_⟩
  · rw [upd_ne (ov_other R0 h nt.1 t ht)]
    exact R.ov t (by rw [e.ov]; exact List.mem_cons_of_mem _ ht)
  · by_cases z : k = n
    · subst z
      have hlt : k < μ'.length := (List.getElem?_eq_some_iff.mp hc).1
      rw [List.getElem?_set_self hlt] at hk
      cases hk
      obtain ⟨b, hb, w, hr, hl, hw⟩ := R.cell k _ hc
      rw [ha] at hb; cases hb
      have ew : w = u := rd_inj hr (.inr ⟨od, hf⟩) (HV.plain hw) nt.1
      subst ew
      exact ⟨a, ha, w, .inl upd_same, fun _ => upd_same, HV.go g hw⟩
    · rw [List.getElem?_set_ne (Ne.symm z)] at hk
      obtain ⟨b, hb, w, hr, hl, hw⟩ := R.cell k c' hk
      have ne : b ≠ a := fun y => by
        subst y
        exact z ((List.getElem_inj R.nd).mp ((List.getElem?_eq_some_iff.mp hb).2.trans (List.getElem?_eq_some_iff.mp ha).2.symm))
      exact ⟨b, hb, w, rd_upd ne hr, fun z => by rw [upd_ne ne]; exact hl z, HV.go g hw⟩
theorem EnvR.go {ρ : Rho} {σ : L2.St} (e : Go m H m' H') (h : EnvR K m H ρ σ) : EnvR K m' H' ρ σ :=
  ⟨h.len, fun i d q => let ⟨v, a, b⟩ := h.get i d q; ⟨v, a, DV.go e b⟩⟩
end
section
variable {X : Cx} {pos : Pos} {ip : Pos} {x : Str}
theorem mut_of {K : PySem.W.Frag} {m : Ms} {H : Hp} {c : D} {u : HO} {its : List D} (hv : HV K m H c u) (hi : keyItems c = some its) : Mut (some u) := by
  cases c <;> first | (cases hi; done) | skip
  · obtain ⟨_, rfl, _⟩ := hv; trivial
  · obtain ⟨_, rfl, _⟩ := hv; trivial
theorem iKeys_of {te : TE} {σ : L2.St} {H1 : Hp} {RR : It → Hp → Prop} {a : Addr} {od : Obj} {u : HO} (hm : Mut (some u) ∧ (∃ K m H c its, HV K m H c u ∧ keyItems c = some its)) (ht : ∀ Q : VK, Q (.ref a) H1 → te σ H1 Q) (h : H1 a = some (.frz od u)) (q : RR (ItK a od u) H1) : iKeys te σ H1 RR := by
  obtain ⟨_, K, m, H, c, its, hv, hi⟩ := hm
  refine ht _ ⟨a, od, rfl, ?_⟩
  cases c <;> first | (cases hi; done) | skip
  · obtain ⟨kvs, rfl, _⟩ := hv; exact .inl ⟨kvs, h, q⟩
  · obtain ⟨kvs, rfl, _⟩ := hv; exact .inr ⟨kvs, h, q⟩
theorem ms_forD {tg : Expr} {body : List Stmt} {g : TG} {fg : FG} {fb : FS} (i : Nat) (vs fgt : List Nat) (hp : PassesOwn (model X.prog X.w) X.A X.env X.xe) (hc : X.calm = true) (hi : PE X (.Name x ip) (tVar i)) (hg : PG X tg g) (ok : TgOk X.K vs g fg) (hb : MSs X body fb)
    (hs : ∀ y, foldedSetIterable (.Name x ip) X.env y = pure y := by intro _; rfl) : MS X (.For tg (.Name x ip) body [] pos) (sForD i fg fb fgt) := by
  have P0 := ps_for (pos := pos) hp hc (pi_keys hi) hg hb hs
  have P1 := ps_lock P0
  refine ⟨fun pins s σ H E I h => ?_⟩
  obtain ⟨m, ρ, μ, out, h1, h2, h3, h4⟩ := h
  unfold sForD at h3
  split at h3
  · rename_i n er
    obtain ⟨v0, ev0, a, rfl, ha⟩ := h2.get i _ er
    split at h3
    · rename_i c ec
      split at h3
      · rename_i its ei
        unfold forDc at h3
        split at h3
        · rename_i o0 eo
          obtain ⟨b, u, hb', hm, hr, hl, hv⟩ := h1.at ec
          rw [ha] at hb'; cases hb'
          have hH : H a = some u := hl rfl
          have nt := HV.nt hv
          refine P1.run pins s σ H E I ⟨a, u, hH, mut_of hv ei, fun od => ?_⟩
          refine iKeys_of ⟨mut_of hv ei, X.K, m, H, c, its, hv, ei⟩ (fun Q q => ⟨.ref a, ev0, q⟩) upd_same ?_
          have R1 := h1.lockC (od := od) ha hH hv ec
          have E1 : EnvR X.K (m.lock a od u) (upd H a (.frz od u)) (forget fgt ρ) σ := (h2.go (go_lock hH nt.1 nt.2)).forget fgt
          refine for_core ok (good_keys ⟨_, _, hv⟩ ei fun m2 H2 μ2 e2 R2 => R2.ov (a, od, u) (by rw [e2.ov]; exact List.mem_cons_self)) R1 E1 eo ?_
          have key : ∀ {m' H' μ'} {μ2 : Mem}, Ext (m.lock a od u) (upd H a (.frz od u)) m' H' → Rel X.K m' H' μ' → unlockM n c μ' = some μ2 →
              H' a = some (.frz od u) ∧ Ext m H { m' with ov := m.ov } (upd H' a u) ∧ Rel X.K { m' with ov := m.ov } (upd H' a u) μ2 ∧ Go m' H' { m' with ov := m.ov } (upd H' a u) := fun {m' H' μ' μ2} e' R' hu => by
            have hf : H' a = some (.frz od u) := R'.ov (a, od, u) (by rw [e'.ov]; exact List.mem_cons_self)
            refine ⟨hf, ext_unlock hH e', ?_, go_unlock R' hf nt m.ov⟩
            unfold unlockM at hu
            split at hu
            · rename_i c' hc'
              split at hu
              · rename_i hbq
                cases hu
                have ecc := beqD_eq hbq
                subst ecc
                exact rel_unlockC h1 hH nt e' R' (e'.get ha) hc'
              · cases hu
            · cases hu
          cases o0 with
          | nx ρ' μ' =>
            unfold unlockO at h3
            dsimp only at h3
            split at h3
            · rename_i μ2 hu
              cases h3
              exact fun σ' H' m' e' R' E' => let ⟨k1, k2, k3, k4⟩ := key e' R' hu; ⟨k1, h4 σ' _ _ k2 k3 (E'.go k4)⟩
            · cases h3
          | bk ρ' μ' =>
            unfold unlockO at h3
            dsimp only at h3
            split at h3
            · rename_i μ2 hu
              cases h3
              exact fun σ' H' m' e' R' E' => let ⟨k1, k2, k3, k4⟩ := key e' R' hu; ⟨k1, h4 σ' _ _ k2 k3 (E'.go k4)⟩
            · cases h3
          | ct ρ' μ' =>
            unfold unlockO at h3
            dsimp only at h3
            split at h3
            · rename_i μ2 hu
              cases h3
              exact fun σ' H' m' e' R' E' => let ⟨k1, k2, k3, k4⟩ := key e' R' hu; ⟨k1, h4 σ' _ _ k2 k3 (E'.go k4)⟩
            · cases h3
          | rt d μ' =>
            unfold unlockO at h3
            dsimp only at h3
            split at h3
            · rename_i μ2 hu
              cases h3
              exact fun v H' m' e' R' dv => let ⟨k1, k2, k3, k4⟩ := key e' R' hu; ⟨k1, h4 v _ _ k2 k3 (DV.go k4 dv)⟩
            · cases h3
        · cases h3
      · cases h3
    · cases h3
  · rename_i d hnr er
    obtain ⟨v0, ev0, dv0⟩ := h2.get i _ er
    split at h3
    · rename_i its ei
      -- a frozen dict
      have fz : ∃ a u, v0 = .ref a ∧ m.no a ∧ Rd H a u ∧ HV X.K m H d u := by
        cases d <;> first | (cases ei; done) | skip
        · obtain ⟨a, kvs, rfl, ht, q1, q2⟩ := dv0; exact ⟨a, _, rfl, ht.1, ht.2, kvs, rfl, q1, q2⟩
        · obtain ⟨a, kvs, rfl, ht, q1, q2⟩ := dv0; exact ⟨a, _, rfl, ht.1, ht.2, kvs, rfl, q1, q2⟩
      obtain ⟨a, u, rfl, no, hr, hv⟩ := fz
      have nt := HV.nt hv
      rcases hr with hH | ⟨od, hH⟩
      · refine P1.run pins s σ H E I ⟨a, u, hH, mut_of hv ei, fun od => ?_⟩
        refine iKeys_of ⟨mut_of hv ei, X.K, m, H, d, its, hv, ei⟩ (fun Q q => ⟨.ref a, ev0, q⟩) upd_same ?_
        have R1 := h1.lockF (od := od) no.1 hH nt
        have E1 : EnvR X.K (m.lock a od u) (upd H a (.frz od u)) (forget fgt ρ) σ := (h2.go (go_lock hH nt.1 nt.2)).forget fgt
        refine for_core ok (good_keys ⟨_, _, hv⟩ ei fun m2 H2 μ2 e2 R2 => R2.ov (a, od, u) (by rw [e2.ov]; exact List.mem_cons_self)) R1 E1 h3 ?_
        have key : ∀ {m' H' μ'}, Ext (m.lock a od u) (upd H a (.frz od u)) m' H' → Rel X.K m' H' μ' →
            H' a = some (.frz od u) ∧ Ext m H { m' with ov := m.ov } (upd H' a u) ∧ Rel X.K { m' with ov := m.ov } (upd H' a u) μ' ∧ Go m' H' { m' with ov := m.ov } (upd H' a u) := fun {m' H' μ'} e' R' => by
          have hf : H' a = some (.frz od u) := R'.ov (a, od, u) (by rw [e'.ov]; exact List.mem_cons_self)
          exact ⟨hf, ext_unlock hH e', rel_unlockF h1 hH nt e' R' (e'.mem no.1 (by rw [upd_same]; exact fun z => by cases z)), go_unlock R' hf nt m.ov⟩
        cases out with
        | nx ρ' μ' => exact fun σ' H' m' e' R' E' => let ⟨k1, k2, k3, k4⟩ := key e' R'; ⟨k1, h4 σ' _ _ k2 k3 (E'.go k4)⟩
        | bk ρ' μ' => exact fun σ' H' m' e' R' E' => let ⟨k1, k2, k3, k4⟩ := key e' R'; ⟨k1, h4 σ' _ _ k2 k3 (E'.go k4)⟩
        | ct ρ' μ' => exact fun σ' H' m' e' R' E' => let ⟨k1, k2, k3, k4⟩ := key e' R'; ⟨k1, h4 σ' _ _ k2 k3 (E'.go k4)⟩
        | rt d μ' => exact fun v H' m' e' R' dv => let ⟨k1, k2, k3, k4⟩ := key e' R'; ⟨k1, h4 v _ _ k2 k3 (DV.go k4 dv)⟩
      · refine P0.run pins s σ H E I ?_
        refine iKeys_of ⟨mut_of hv ei, X.K, m, H, d, its, hv, ei⟩ (fun Q q => ⟨.ref a, ev0, q⟩) hH ?_
        exact for_core ok (good_keys ⟨_, _, hv⟩ ei fun m2 H2 μ2 e2 R2 => e2.exact a _ no.1 hH) h1 (h2.forget fgt) h3 h4
    · cases h3
  · cases h3
end
end Mi
namespace Mi
open PySem PySem.Spec PyProof.Rows L2

/-! ## {k: v, ..} -/
def fPairs : List (FE × FE) → FX (List (D × D))
  | [] => ret []
  | (a, b) :: r => bnd a fun x => bnd b fun y => bnd (fPairs r) fun ps => ret ((x, y) :: ps)
def dispD : List (D × D) → List Key → List D → Option D
  | [], ks, ds => some (.dK ks ds)
  | (k, d) :: ps, ks, ds => match keyD k with
    | some k => dispD ps (dput ks ds k d).1 (dput ks ds k d).2
    | none => none
def fDisp (l : List (FE × FE)) : FE := bnd (fPairs l) fun ps => fun _ μ => if ps.length ≤ 15 then (match dispD ps [] [] with
  | some d => some (d, μ)
  | none => none) else none
def DPs (K : PySem.W.Frag) (m : Ms) (H : Hp) : List (D × D) → List (V × V) → Prop
  | [], vs => vs = []
  | p :: ps, vs => ∃ x y r, vs = (x, y) :: r ∧ DV K m H p.1 x ∧ DV K m H p.2 y ∧ DPs K m H ps r
section
variable {K : PySem.W.Frag} {m m' : Ms} {H H' : Hp}
theorem pairs_mono {σ : L2.St} : ∀ (l : List (FE × FE)) {m : Ms} {H : Hp} {Q : List (V × V) → Hp → Prop}, lgm (DPs K) K m (fPairs l) σ H Q → tPairs (l.map fun p => (lE K p.1, lE K p.2)) σ H Q
  | [], m, H, Q, h => by
    obtain ⟨μ, h1, h2⟩ := lgm_ret h
    exact h2 [] H m Ext.refl h1 rfl
  | (a, b) :: r, m, H, Q, h => by
    refine ⟨m, (lgm_bnd (R := rE K) h).mono fun x H1 ⟨d, m1, e1, r1, h1⟩ => ⟨m1, (lgm_bnd (R := rE K) h1).mono fun y H2 ⟨e, m2, e2, r2, h2⟩ => ?_⟩⟩
    refine pairs_mono r ((lgm_bnd (R := DPs K) h2).mono fun vs H3 ⟨ps, m3, e3, r3, h3⟩ => ?_)
    obtain ⟨μ, h4, h5⟩ := lgm_ret h3
    exact h5 _ H3 m3 Ext.refl h4 ⟨x, y, vs, rfl, DV.ext (e2.trans e3) r1, DV.ext e3 r2, r3⟩
theorem disp_ok : ∀ {ps : List (D × D)} {vs : List (V × V)} {kvs : List (Key × V)} {ds : List D} {c : D}, DPs K m H ps vs → DVs K m H ds (kvs.map (·.2)) → dispD ps (kvs.map (·.1)) ds = some c →
    ∃ more : List (Key × V), vs = more.map (fun kv => (kV kv.1, kv.2)) ∧ more.length = ps.length ∧ HV K m H c (.dK (mergeK kvs more))
  | [], vs, kvs, ds, c, h, hd, e => by
    cases e
    rw [show vs = [] from h]
    exact ⟨[], rfl, rfl, kvs, rfl, rfl, hd⟩
  | (k, d) :: ps, vs, kvs, ds, c, h, hd, e => by
    obtain ⟨x, y, r, rfl, h1, h2, h3⟩ := h
    simp only [dispD] at e
    split at e
    · rename_i kk ek
      obtain ⟨q1, q2⟩ := dput_ok (k := kk) hd h2
      rw [← q1] at e
      obtain ⟨more, e1, e2, e3⟩ := disp_ok h3 q2 e
      refine ⟨(kk, y) :: more, ?_, by simp [e2], e3⟩
      rw [List.map_cons, e1, keyD_ok ek h1]
    · cases e
end
section
variable {X : Cx} {pos : Pos} {keys : List (Option Expr)} {values : List Expr}
theorem mf_disp (l : List (FE × FE)) (h : PPs X pos keys values (l.map fun p => (lE X.K p.1, lE X.K p.2))) (hall : keys.all (·.isSome) = true := by rfl) (hl : keys.length = values.length := by rfl) (h0 : keys ≠ [] := by exact fun z => by cases z)
    (h15 : keys.length ≤ 15 := by decide) : MF X (.Dict keys values pos) (fDisp l) :=
  peM (pe_disp h hall hl h0 h15) fun σ H Q ⟨m, ρ, μ, c, μ', h1, h2, h3, h4⟩ => by
    intro p hp
    unfold fDisp bnd at h3
    split at h3
    · rename_i ps μ1 e
      dsimp only at h3
      split at h3
      · rename_i hz
        split at h3
        · rename_i d hd
          cases h3
          have nt : NT (.dK []) := ⟨trivial, fun _ z => by cases z⟩
          refine pairs_mono (m := m.hide p) l ⟨ρ, μ, ps, μ', h1.hide hp nt, h2.go (Go.hide hp), e, fun vs H' m' e' R' r' => ?_⟩
          have live : upd H p (.dK []) p ≠ none := by rw [upd_same]; exact fun z => by cases z
          have hpl : p ∉ m'.l := e'.mem (h1.fresh hp).1 live
          have hph : p ∈ m'.hid := e'.hid_sub List.mem_cons_self
          have hpH : H' p = some (.dK []) := e'.exact p _ (h1.fresh hp).1 upd_same
          obtain ⟨more, e1, e2, e3⟩ := disp_ok (kvs := []) (ds := []) r' (rfl : DVs X.K m' H' [] []) hd
          refine ⟨hpH, more, e1, by omega, ?_⟩
          have sub : ∀ a ∈ p :: m.hid, a ∈ m'.hid := fun a ha => by
            rcases List.mem_cons.mp ha with q | q
            · rw [q]; exact hph
            · exact e'.hid_sub (List.mem_cons_of_mem _ q)
          have e0 : Ext m H m' H' := ((Ext.new hp).hide hp).trans e'
          have hv : HV X.K m' (upd H' p (.dK (mergeK [] more))) c (.dK (mergeK [] more)) := HV.go (Go.updHid hph) e3
          refine h4 p _ { m' with hid := m.hid } (.dK (mergeK [] more)) ((e0.upd hp).rehid) ?_ hp ⟨hpl, (h1.fresh hp).2⟩ upd_same (HV.go (Go.less sub) hv)
          exact (R'.updHid hph hpl hpH trivial (HV.nt hv)).less sub
        · cases h3
      · cases h3
    · cases h3
end

/-! ## the law's end -/
theorem scr_DV {H : Hp} {K : PySem.W.Frag} {a : Addr} {ns : List Int} (s : SqL K H a (ns.map V.int)) : DV K ⟨[], [], []⟩ H (.scr ns) (.ref a) :=
  ⟨a, rfl, s.imp (fun z => ⟨⟨fun h => (by cases h), fun h => (by cases h)⟩, z⟩) fun z => z⟩
theorem law_sp {K : PySem.W.Frag} {F : FF} {H : Hp} {a : Addr} {ns : List Int} (s : SqL K H a (ns.map V.int)) (h : ∃ μ', F [.scr ns] [] = some (.bl true, μ')) : spF K F [.ref a] H (fun v _ => v = .bl true) fun _ _ _ => False := by
  obtain ⟨μ', h⟩ := h
  exact ⟨⟨[], [], []⟩, [], [.scr ns], .bl true, μ', Rel.empty (fun a ha => by cases ha), .one (scr_DV s), h, fun v H' m' _ _ dv => dv⟩
end Mi
namespace Mi
open PySem PySem.Spec PyProof.Rows L2

/-! ## a slice, of what is there -/
def gSlA : D → Option Int → Option Int → Mem → Option (D × Mem) := fun d lo hi μ => match d with
  | .tup ds => some (.tup (cutD ds lo hi), μ)
  | d => gSlL d lo hi μ

/-! ## the least of tuples of ints -/
def ltI : List Int → List Int → Bool
  | [], [] => false
  | [], _ :: _ => true
  | _ :: _, [] => false
  | x :: xs, y :: ys => if x = y then ltI xs ys else decide (x < y)
theorem ltI_eq : ∀ xs ys, ltI xs ys = PySem.W.listLt xs ys
  | [], [] => rfl
  | [], _ :: _ => rfl
  | _ :: _, [] => rfl
  | x :: xs, y :: ys => by
    unfold ltI PySem.W.listLt
    rw [ltI_eq xs ys]; rfl
def leastT (t : List Int) (ts : List (List Int)) : List Int := ts.foldl (fun a y => if ltI y a = true then y else a) t
def tInts : D → Option (List Int)
  | .tup ds => intsOf ds
  | _ => none
def tIntss : List D → Option (List (List Int))
  | [] => some []
  | d :: ds => match tInts d, tIntss ds with
    | some t, some ts => some (t :: ts)
    | _, _ => none
def dMinT : D → Option D
  | .lst ds => match tIntss ds with
    | some (t :: ts) => some (.tup ((leastT t ts).map D.int))
    | _ => none
  | _ => none
def pT (t : List Int) : PyData := .tuple (t.map .int)
theorem tInts_ok {d : D} {t : List Int} (h : tInts d = some t) : d = .tup (t.map D.int) := by
  unfold tInts at h
  split at h
  · rw [intsOf_ok h]
  · cases h
theorem tIntss_ok : ∀ {ds : List D} {ts : List (List Int)}, tIntss ds = some ts → ds = ts.map fun t => .tup (t.map D.int)
  | [], ts, h => by cases h; rfl
  | d :: ds, ts, h => by
    unfold tIntss at h
    split at h
    · rename_i t ts' h1 h2
      cases h
      rw [List.map_cons, tInts_ok h1, tIntss_ok h2]
    · cases h
theorem leastT_eq (t : List Int) (ts : List (List Int)) : PySem.W.minD (pT t) (ts.map pT) = pT (leastT t ts) := by
  have h := PySem.W.minD_map (α := PySem.W.Tup Int) ⟨t⟩ (ts.map PySem.W.Tup.mk)
  have e1 : ∀ t : List Int, PySem.W.Datum.toD (PySem.W.Tup.mk t) = pT t := fun t => rfl
  rw [List.map_map] at h
  have e2 : (ts.map (PySem.W.Datum.toD ∘ PySem.W.Tup.mk)) = ts.map pT := rfl
  rw [e1, e2] at h
  rw [h]
  have e3 : ∀ (ts : List (List Int)) (t : List Int), PySem.W.minOf (PySem.W.Tup.mk t) (ts.map PySem.W.Tup.mk) = ⟨leastT t ts⟩ := by
    intro ts
    induction ts with
    | nil => intro t; rfl
    | cons y ts ih =>
      intro t
      unfold PySem.W.minOf leastT
      rw [List.map_cons, List.foldl_cons, List.foldl_cons]
      have e4 : (if PySem.W.DatumOrd.lt (PySem.W.Tup.mk y) (PySem.W.Tup.mk t) = true then PySem.W.Tup.mk y else PySem.W.Tup.mk t) = ⟨if ltI y t = true then y else t⟩ := by
        rw [ltI_eq]
        show (if PySem.W.listLt y t = true then _ else _) = _
        split <;> rfl
      rw [e4]
      exact ih _
  rw [e3, e1]
theorem pT_inj {t u : List Int} (h : pT t = pT u) : t = u := by
  unfold pT at h
  injection h with h
  exact (List.map_inj_right (fun a b e => by injection e)).mp h
theorem dvs_pT {K : PySem.W.Frag} {m : Ms} {H : Hp} : ∀ {ts : List (List Int)} {xs : List V}, DVs K m H (ts.map fun t => .tup (t.map D.int)) xs → DpAll K H xs (ts.map pT)
  | [], xs, h => by rw [show xs = [] from h]; exact .nil
  | t :: ts, xs, h => by
    obtain ⟨x, xs, rfl, h1, h2⟩ := h
    refine .cons ?_ (dvs_pT h2)
    obtain ⟨a, ys, rfl, h3, h4⟩ := h1
    refine .tup h3.sq ?_
    rw [h4.ints]
    clear h4
    induction t with
    | nil => exact .nil
    | cons i t ih => exact .cons (.int i) ih
section
variable {X : Cx}
def rMinT (K : PySem.W.Frag) : List V → Hp → VK → Prop := fun vs H Q => ∃ (a : Addr) (xs : List V) (t : List Int) (ts : List (List Int)), vs = [V.ref a] ∧ SqL K H a xs ∧ DpAll K H xs ((t :: ts).map pT) ∧
  ∀ i x : _, xs[(i : Nat)]? = some x → (t :: ts)[i]? = some (leastT t ts) → Q x H
theorem depth_pT : ∀ ts : List (List Int), PyData.depthAll (ts.map pT) ≤ 1
  | [] => Nat.zero_le _
  | t :: ts => by
    rw [List.map_cons, PyData.depthAll]
    refine Nat.max_le.mpr ⟨?_, depth_pT ts⟩
    show PyData.depthAll (t.map PyData.int) + 1 ≤ 1
    have : PyData.depthAll (t.map PyData.int) ≤ 0 := PySem.W.depthAll_map t
    omega
theorem vals_at {xs : List V} {us : List Value} (h : Vals xs us) (i : Nat) (u : Value) (hu : us[i]? = some u) : ∃ x, xs[i]? = some x ∧ RelV x u := by
  induction h generalizing i with
  | nil => simp at hu
  | cons h1 _ ih =>
    cases i with
    | zero => simp at hu; subst hu; exact ⟨_, rfl, h1⟩
    | succ i => exact ih i (by simpa using hu)
theorem cr_minT (hc : X.calm = true) (hu : X.A.units + 64 < cLine) : CallR X (.builtin "min") (rMinT X.K) := by
  intro pins s σ H vs us Q I r h
  obtain ⟨a, xs, t, ts, rfl, hs, hd, q⟩ := h
  obtain ⟨its, rv, hl, _⟩ := I.list hs
  rw [Vals.ref1 r]
  obtain ⟨as, hr⟩ := Dp.readsAll I _ _ its hd rv
  rw [List.map_cons] at hr
  have e1 : pT t :: ts.map pT = ((t :: ts).map PySem.W.Tup.mk).map (PySem.W.Datum.toD (α := PySem.W.Tup Int)) := by
    rw [List.map_map]; rfl
  refine PySem.W.min_list_data (I.ok.hd hc) hl.isList (by simpa using hr) (by rw [e1]; exact PySem.W.alikeAll_datum _) (by
    have := depth_pT (t :: ts)
    rw [List.map_cons] at this
    omega) fun i v h' tk bs hi hR hk => ?_
  have hi' : its[i]? = some v := by simpa using hi
  obtain ⟨x, hx, rx⟩ := vals_at rv i v hi'
  obtain ⟨cs, hR2, hlt, _, _⟩ := PySem.W.readsAll_at (vs := its) (by simpa using hr) i v hi'
  obtain ⟨e2, _⟩ := PyProof.Rows.reads_det (fun b o e _ => hk b o e) hR2 hR
  rw [leastT_eq] at e2
  refine ⟨x, H, I.kept hk, rx, q i x hx ?_⟩
  have hlt' : i < (t :: ts).length := by simpa using hlt
  rw [List.getElem?_eq_getElem hlt']
  congr 1
  refine pT_inj ?_
  rw [e2]
  have : (pT t :: ts.map pT) = (t :: ts).map pT := rfl
  rw [this, List.getD_eq_getElem?_getD, List.getElem?_map, List.getElem?_eq_getElem hlt']
  rfl
end
section
variable {X : Cx} {e : Expr} {fa : FA} {p pos : Pos}
theorem DVs.at {K : PySem.W.Frag} {m : Ms} {H : Hp} : ∀ {ds : List D} {xs : List V}, DVs K m H ds xs → ∀ (i : Nat) (d : D) (x : V), ds[i]? = some d → xs[i]? = some x → DV K m H d x
  | [], xs, h, i, d, x, h1, _ => by simp at h1
  | d' :: ds, xs, h, i, d, x, h1, h2 => by
    obtain ⟨y, ys, rfl, h3, h4⟩ := h
    cases i with
    | zero => simp at h1 h2; subst h1; subst h2; exact h3
    | succ i => exact DVs.at h4 i d x (by simpa using h1) (by simpa using h2)
theorem me_minT (hc : X.calm = true) (hu : X.A.units + 64 < cLine) (hg : Gl X "min") (hm : X.mg "min" = none) (ha : MA X [e] fa) (he : starEach [e] X.env = (false, eval e X.env) :: starEach [] X.env := by rfl) (hpl : (backTo pos (starEach [] X.env)).any (·.1) = false := by rfl) :
    ME X (.Call (.Name "min" p) [e] [] pos) (fCall (g1 dMinT) fa) :=
  me_callB (cr_minT hc hu) (SndN.one fun m H μ x d r' Q R hx h q => by
    cases d with
    | lst ds =>
      obtain ⟨a, xs, rfl, hq, r⟩ := hx
      simp only [dMinT] at h
      split at h
      · rename_i t ts hn
        cases h
        have e1 := tIntss_ok hn
        subst e1
        refine ⟨a, xs, t, ts, rfl, .inl hq, dvs_pT r, fun i y h1 h2 => q _ ?_⟩
        exact DVs.at r i _ y (by rw [List.getElem?_map, h2]; rfl) h1
      · cases h
    | _ => cases h) hg hm (by decide +kernel) ha (by decide) (by decide) he hpl
end
section
variable {X : Cx} {e : Expr} {lo hi : Option Expr} {f : FE} {fl fh : FO} {pos p2 : Pos}
theorem pe_or {t t' : TE} (h : PE X e t) (h' : PE X e t') : PE X e (fun σ H Q => t σ H Q ∨ t' σ H Q) :=
  ⟨fun pins s σ H Q I w => w.elim (h.run pins s σ H Q I) (h'.run pins s σ H Q I)⟩
theorem me_slA (h : ME X e f) (hl : MO X lo fl) (hh : MO X hi fh) : ME X (.Subscript e (.Slice lo hi none p2) pos) (fSl gSlA f fl fh) :=
  peM (pe_or (me_slT h hl hh) (mf_frz (mf_slL h hl hh))) fun σ H Q ⟨m, ρ, μ, c, μ', h1, h2, h3, h4⟩ => by
    cases ef : f ρ μ with
    | none => simp [fSl, bnd, ef] at h3
    | some z =>
      obtain ⟨d, μ1⟩ := z
      by_cases ht : ∃ ds, d = .tup ds
      · obtain ⟨ds, rfl⟩ := ht
        exact .inl ⟨m, ρ, μ, c, μ', h1, h2, by rw [← h3]; simp only [fSl, bnd, ef]; rfl, h4⟩
      · refine .inr ⟨m, ρ, μ, c, μ', h1, h2, ?_, h4⟩
        rw [← h3]
        simp only [fSl, bnd, ef]
        have e1 : ∀ l h μ, gSlA d l h μ = gSlL d l h μ := fun l h μ => by
          unfold gSlA
          cases d <;> first | rfl | exact absurd ⟨_, rfl⟩ ht
        simp only [e1]
end
end Mi
namespace Mi
open PySem PySem.Spec PyProof.Rows L2

/-! ## what holds after: rules that a simp set runs through the code, head first -/
def WE {α : Type} (f : FX α) (ρ : Rho) (μ : Mem) (Q : α → Mem → Prop) : Prop := ∃ a μ', f ρ μ = some (a, μ') ∧ Q a μ'
def WS (f : FS) (ρ : Rho) (μ : Mem) (Q : Out → Prop) : Prop := ∃ o, f ρ μ = some o ∧ Q o
def WG (g : FG) (d : D) (ρ : Rho) (μ : Mem) (Q : Rho → Mem → Prop) : Prop := ∃ ρ' μ', g d ρ μ = some (ρ', μ') ∧ Q ρ' μ'
def WGs (g : FGs) (d : List D) (ρ : Rho) (μ : Mem) (Q : Rho → Mem → Prop) : Prop := ∃ ρ' μ', g d ρ μ = some (ρ', μ') ∧ Q ρ' μ'
def G2 (g : D → D → Mem → Option (D × Mem)) (a b : D) (μ : Mem) (Q : D → Mem → Prop) : Prop := ∃ r μ', g a b μ = some (r, μ') ∧ Q r μ'
def CL (F : FF) (ds : List D) (μ : Mem) (Q : D → Mem → Prop) : Prop := ∃ r μ', F ds μ = some (r, μ') ∧ Q r μ'
def ASB (d : D) (μ : Mem) (Q : Bool → Mem → Prop) : Prop := ∃ b, d = .bl b ∧ Q b μ
def OPT {α : Type} (o : Option α) (Q : α → Prop) : Prop := ∃ a, o = some a ∧ Q a
def IT (b : Bool) (P R : Prop) : Prop := if b then P else R
def UPD (i : Nat) (d : D) (ρ : Rho) (K : Rho → Prop) : Prop := K (ρ.set i (some d))
def SEE (μ : Mem) (d : D) (K : D → Prop) : Prop := K (see μ d)
def CELL (x : D) (n : Nat) (μ : Mem) (K : D → Prop) : Prop := K (match μ[n]? with
  | some c => c.c
  | none => x)
def PUSH (c : D) (μ : Mem) (K : D → Mem → Prop) : Prop := K (.ref μ.length) (μ ++ [⟨false, c⟩])
theorem opt_some {α : Type} {a : α} {Q : α → Prop} : OPT (some a) Q ↔ Q a := ⟨fun ⟨_, h, q⟩ => by cases h; exact q, fun h => ⟨_, rfl, h⟩⟩
theorem opt_none {α : Type} {Q : α → Prop} : OPT none Q ↔ False := ⟨fun ⟨_, h, q⟩ => (by cases h), fun h => h.elim⟩
theorem OPT.of {α : Type} {o : Option α} {a : α} {Q : α → Prop} (h : o = some a) (q : Q a) : OPT o Q := ⟨a, h, q⟩
theorem it_true {P R : Prop} : IT true P R ↔ P := Iff.rfl
theorem it_false {P R : Prop} : IT false P R ↔ R := by unfold IT; simp
theorem it_dec {c : Prop} [Decidable c] {P R : Prop} : IT (decide c) P R ↔ (c → P) ∧ (¬ c → R) := by
  unfold IT
  by_cases h : c <;> simp [h]
theorem it_not {b : Bool} {P R : Prop} : IT (!b) P R ↔ IT b R P := by cases b <;> rfl
section
variable {α β : Type} {ρ : Rho} {μ : Mem}
theorem upd_0 {d : D} {x : Option D} {K : Rho → Prop} : UPD 0 d (x :: ρ) K ↔ K (some d :: ρ) := Iff.rfl
theorem upd_s {i : Nat} {d : D} {x : Option D} {K : Rho → Prop} : UPD (i + 1) d (x :: ρ) K ↔ UPD i d ρ fun ρ' => K (x :: ρ') := Iff.rfl
theorem see_ref {n : Nat} {K : D → Prop} : SEE μ (.ref n) K ↔ CELL (.ref n) n μ K := Iff.rfl
theorem see_tup {ds : List D} {K : D → Prop} : SEE μ (.tup ds) K ↔ K (.tup ds) := Iff.rfl
theorem see_lst {ds : List D} {K : D → Prop} : SEE μ (.lst ds) K ↔ K (.lst ds) := Iff.rfl
theorem see_int {i : Int} {K : D → Prop} : SEE μ (.int i) K ↔ K (.int i) := Iff.rfl
theorem see_str {i : Str} {K : D → Prop} : SEE μ (.str i) K ↔ K (.str i) := Iff.rfl
theorem see_bl {i : Bool} {K : D → Prop} : SEE μ (.bl i) K ↔ K (.bl i) := Iff.rfl
theorem see_non {K : D → Prop} : SEE μ .non K ↔ K .non := Iff.rfl
theorem see_dK {ks : List Key} {ds : List D} {K : D → Prop} : SEE μ (.dK ks ds) K ↔ K (.dK ks ds) := Iff.rfl
theorem see_dT {ks : List (List Key)} {ds : List D} {K : D → Prop} : SEE μ (.dT ks ds) K ↔ K (.dT ks ds) := Iff.rfl
theorem see_scr {ns : List Int} {K : D → Prop} : SEE μ (.scr ns) K ↔ K (.scr ns) := Iff.rfl
theorem cell_0 {x : D} {c : Cell} {K : D → Prop} : CELL x 0 (c :: μ) K ↔ K c.c := Iff.rfl
theorem cell_s {x : D} {n : Nat} {c : Cell} {K : D → Prop} : CELL x (n + 1) (c :: μ) K ↔ CELL x n μ K := Iff.rfl
theorem push_0 {c : D} {K : D → Mem → Prop} : PUSH c [] K ↔ K (.ref 0) [⟨false, c⟩] := Iff.rfl
theorem push_1 {c : D} {K : D → Mem → Prop} {a : Cell} : PUSH c [a] K ↔ K (.ref 1) [a, ⟨false, c⟩] := Iff.rfl
theorem push_2 {c : D} {K : D → Mem → Prop} {a b : Cell} : PUSH c [a, b] K ↔ K (.ref 2) [a, b, ⟨false, c⟩] := Iff.rfl
theorem push_3 {c : D} {K : D → Mem → Prop} {a b e : Cell} : PUSH c [a, b, e] K ↔ K (.ref 3) [a, b, e, ⟨false, c⟩] := Iff.rfl
theorem push_4 {c : D} {K : D → Mem → Prop} {a b e f : Cell} : PUSH c [a, b, e, f] K ↔ K (.ref 4) [a, b, e, f, ⟨false, c⟩] := Iff.rfl
theorem push_5 {c : D} {K : D → Mem → Prop} {a b e f g : Cell} : PUSH c [a, b, e, f, g] K ↔ K (.ref 5) [a, b, e, f, g, ⟨false, c⟩] := Iff.rfl
/- expressions -/
theorem we_congr {f : FX α} {Q Q' : α → Mem → Prop} (h : ∀ a m, Q a m ↔ Q' a m) : WE f ρ μ Q ↔ WE f ρ μ Q' := ⟨fun ⟨a, m, e, q⟩ => ⟨a, m, e, (h a m).mp q⟩, fun ⟨a, m, e, q⟩ => ⟨a, m, e, (h a m).mpr q⟩⟩
theorem see_congr {d : D} {K K' : D → Prop} (h : ∀ v, K v ↔ K' v) : SEE μ d K ↔ SEE μ d K' := h _
theorem w_ret {a : α} {Q : α → Mem → Prop} : WE (ret a) ρ μ Q ↔ Q a μ := ⟨fun ⟨_, _, h, q⟩ => by cases h; exact q, fun q => ⟨_, _, rfl, q⟩⟩
theorem w_bnd {f : FX α} {k : α → FX β} {Q : β → Mem → Prop} : WE (bnd f k) ρ μ Q ↔ WE f ρ μ fun a μ1 => WE (k a) ρ μ1 Q := by
  unfold WE bnd
  constructor
  · rintro ⟨b, μ', h, q⟩
    split at h
    · rename_i a μ1 e
      exact ⟨a, μ1, e, b, μ', h, q⟩
    · cases h
  · rintro ⟨a, μ1, e, b, μ', h, q⟩
    exact ⟨b, μ', by rw [e]; exact h, q⟩
theorem w_raw {g : Mem → Option (α × Mem)} {Q : α → Mem → Prop} : WE (fun _ μ => g μ) ρ μ Q ↔ ∃ a μ', g μ = some (a, μ') ∧ Q a μ' := Iff.rfl
theorem w_var0 {d : D} {Q : D → Mem → Prop} : WE (fVar 0) (some d :: ρ) μ Q ↔ Q d μ := ⟨fun ⟨_, _, h, q⟩ => by cases h; exact q, fun q => ⟨_, _, rfl, q⟩⟩
theorem w_varS {i : Nat} {x : Option D} {Q : D → Mem → Prop} : WE (fVar (i + 1)) (x :: ρ) μ Q ↔ WE (fVar i) ρ μ Q := Iff.rfl
theorem w_bin {g : D → D → Mem → Option (D × Mem)} {fa fb : FE} {Q : D → Mem → Prop} : WE (fBin g fa fb) ρ μ Q ↔ WE fa ρ μ fun a μ1 => WE fb ρ μ1 fun b μ2 => G2 g a b μ2 Q := by
  unfold fBin
  rw [w_bnd]
  simp only [w_bnd]
  rfl
theorem w_nil {Q : List D → Mem → Prop} : WE fNil ρ μ Q ↔ Q [] μ := w_ret
theorem w_cons {fa : FE} {fr : FA} {Q : List D → Mem → Prop} : WE (fCons fa fr) ρ μ Q ↔ WE fa ρ μ fun d μ1 => WE fr ρ μ1 fun ds μ2 => Q (d :: ds) μ2 := by
  unfold fCons
  simp only [w_bnd, w_ret]
theorem w_fail {Q : α → Mem → Prop} : WE fail ρ μ Q ↔ False := ⟨fun ⟨_, _, h, _⟩ => (by cases h), fun h => h.elim⟩
theorem w_ite {c : Prop} [Decidable c] {f : FX α} {Q : α → Mem → Prop} : WE (if c then f else fail) ρ μ Q ↔ c ∧ WE f ρ μ Q := by
  by_cases h : c
  · simp [h]
  · simp [h, w_fail]
theorem w_tup {f : FA} {Q : D → Mem → Prop} : WE (fTup f) ρ μ Q ↔ WE f ρ μ fun ds μ1 => ds.length ≤ 16777216 ∧ Q (.tup ds) μ1 := by
  unfold fTup
  simp only [w_bnd, w_ite, w_ret]
theorem w_lst {f : FA} {Q : D → Mem → Prop} : WE (fLst f) ρ μ Q ↔ WE f ρ μ fun ds μ1 => ds.length ≤ 16777216 ∧ Q (.lst ds) μ1 := by
  unfold fLst
  simp only [w_bnd, w_ite, w_ret]
theorem w_mut {f : FE} {Q : D → Mem → Prop} : WE (fMut f) ρ μ Q ↔ WE f ρ μ fun c μ1 => PUSH c μ1 Q := by
  unfold WE fMut PUSH
  constructor
  · rintro ⟨b, μ', h, q⟩
    split at h
    · rename_i c μ1 e
      cases h
      exact ⟨_, _, e, q⟩
    · cases h
  · rintro ⟨c, μ1, e, q⟩
    exact ⟨_, _, by rw [e], q⟩
theorem w_call {F : FF} {fa : FA} {Q : D → Mem → Prop} : WE (fCall F fa) ρ μ Q ↔ WE fa ρ μ fun ds μ1 => CL F ds μ1 Q := by
  unfold fCall
  rw [w_bnd]; rfl
theorem w_if {t : FT} {a b : FX α} {Q : α → Mem → Prop} : WE (fIf t a b) ρ μ Q ↔ WE t ρ μ fun c μ1 => IT c (WE a ρ μ1 Q) (WE b ρ μ1 Q) := by
  unfold fIf
  rw [w_bnd]
  have : ∀ c μ1, (WE (match c with | true => a | false => b) ρ μ1 Q) = IT c (WE a ρ μ1 Q) (WE b ρ μ1 Q) := fun c μ1 => by cases c <;> simp [IT]
  exact ⟨fun ⟨d, m, e, q⟩ => ⟨d, m, e, (this d m).mp q⟩, fun ⟨d, m, e, q⟩ => ⟨d, m, e, (this d m).mpr q⟩⟩
theorem w_and {a b : FT} {Q : Bool → Mem → Prop} : WE (fAnd a b) ρ μ Q ↔ WE a ρ μ fun c μ1 => IT c (WE b ρ μ1 Q) (Q false μ1) := by
  unfold fAnd
  simp only [w_if, w_ret]
theorem w_or {a b : FT} {Q : Bool → Mem → Prop} : WE (fOr a b) ρ μ Q ↔ WE a ρ μ fun c μ1 => IT c (Q true μ1) (WE b ρ μ1 Q) := by
  unfold fOr
  simp only [w_if, w_ret]
theorem w_not {a : FT} {Q : Bool → Mem → Prop} : WE (fNot a) ρ μ Q ↔ WE a ρ μ fun c μ1 => Q (!c) μ1 := by
  unfold fNot
  simp only [w_bnd, w_ret]
theorem w_B {f : FE} {Q : Bool → Mem → Prop} : WE (fB f) ρ μ Q ↔ WE f ρ μ fun d μ1 => ASB d μ1 Q := by
  unfold fB
  rw [w_bnd]
  have : ∀ (d : D) μ1, WE (asB d) ρ μ1 Q ↔ ASB d μ1 Q := fun d μ1 => by
    unfold asB ASB
    cases d with
    | bl b => rw [w_ret]; exact ⟨fun q => ⟨b, rfl, q⟩, fun ⟨_, h, q⟩ => by cases h; exact q⟩
    | _ => rw [w_fail]; exact ⟨fun h => h.elim, fun ⟨_, h, _⟩ => by cases h⟩
  simp only [this]
theorem asb_bl {b : Bool} {Q : Bool → Mem → Prop} : ASB (.bl b) μ Q ↔ Q b μ := ⟨fun ⟨_, h, q⟩ => by cases h; exact q, fun q => ⟨_, rfl, q⟩⟩
theorem w_andV {a b : FE} {Q : D → Mem → Prop} : WE (fAndV a b) ρ μ Q ↔ WE a ρ μ fun d μ1 => ASB d μ1 fun c μ2 => IT c (WE b ρ μ2 Q) (Q (.bl false) μ2) := by
  unfold fAndV
  simp only [w_if, w_B, w_ret]
theorem w_orV {a b : FE} {Q : D → Mem → Prop} : WE (fOrV a b) ρ μ Q ↔ WE a ρ μ fun d μ1 => ASB d μ1 fun c μ2 => IT c (Q (.bl true) μ2) (WE b ρ μ2 Q) := by
  unfold fOrV
  simp only [w_if, w_B, w_ret]
theorem w_notV {a : FE} {Q : D → Mem → Prop} : WE (fNotV a) ρ μ Q ↔ WE a ρ μ fun d μ1 => ASB d μ1 fun c μ2 => Q (.bl (!c)) μ2 := by
  unfold fNotV
  simp only [w_bnd, w_B, w_ret]
def TRU (v : D) (μ : Mem) (Q : Bool → Mem → Prop) : Prop := OPT (truD v) fun b => Q b μ
theorem w_tru {f : FE} {Q : Bool → Mem → Prop} : WE (fTru f) ρ μ Q ↔ WE f ρ μ fun d μ1 => SEE μ1 d fun v => TRU v μ1 Q := by
  unfold fTru
  rw [w_bnd]
  have : ∀ (d : D) μ1, WE (fun _ μ => match truD (see μ d) with | some b => some (b, μ) | none => none) ρ μ1 Q ↔ SEE μ1 d fun v => TRU v μ1 Q := fun d μ1 => by
    unfold WE SEE TRU OPT
    dsimp only
    constructor
    · rintro ⟨b, μ', h, q⟩
      split at h
      · rename_i e; cases h; exact ⟨_, e, q⟩
      · cases h
    · rintro ⟨b, e, q⟩
      exact ⟨b, μ1, by rw [e], q⟩
  exact ⟨fun ⟨d, m, e, q⟩ => ⟨d, m, e, (this d m).mp q⟩, fun ⟨d, m, e, q⟩ => ⟨d, m, e, (this d m).mpr q⟩⟩
theorem tru_int {i : Int} {Q : Bool → Mem → Prop} : TRU (.int i) μ Q ↔ Q (decide (i ≠ 0)) μ := by
  unfold TRU truD
  rw [opt_some]
  have : (i != 0) = decide (i ≠ 0) := by cases h : decide (i = 0) <;> simp_all
  rw [this]
theorem tru_bl {b : Bool} {Q : Bool → Mem → Prop} : TRU (.bl b) μ Q ↔ Q b μ := opt_some
theorem tru_non {Q : Bool → Mem → Prop} : TRU .non μ Q ↔ Q false μ := opt_some
theorem tru_tup {ds : List D} {Q : Bool → Mem → Prop} : TRU (.tup ds) μ Q ↔ Q (!ds.isEmpty) μ := opt_some
theorem tru_lst {ds : List D} {Q : Bool → Mem → Prop} : TRU (.lst ds) μ Q ↔ Q (!ds.isEmpty) μ := opt_some
theorem w_neg {f : FE} {Q : D → Mem → Prop} : WE (fNeg f) ρ μ Q ↔ WE f ρ μ fun d μ1 => ∃ i, d = .int i ∧ Q (.int (-i)) μ1 := by
  unfold fNeg
  rw [w_bnd]
  have : ∀ (d : D) μ1, WE (match d with | .int i => ret (.int (-i)) | _ => fail) ρ μ1 Q ↔ ∃ i, d = .int i ∧ Q (.int (-i)) μ1 := fun d μ1 => by
    cases d with
    | int i => rw [w_ret]; exact ⟨fun q => ⟨i, rfl, q⟩, fun ⟨_, h, q⟩ => by cases h; exact q⟩
    | _ => rw [w_fail]; exact ⟨fun h => h.elim, fun ⟨_, h, _⟩ => by cases h⟩
  exact ⟨fun ⟨d, m, e, q⟩ => ⟨d, m, e, (this d m).mp q⟩, fun ⟨d, m, e, q⟩ => ⟨d, m, e, (this d m).mpr q⟩⟩
theorem ex_int {i : Int} {P : Int → Prop} : (∃ j, D.int i = .int j ∧ P j) ↔ P i := ⟨fun ⟨_, h, q⟩ => by cases h; exact q, fun q => ⟨_, rfl, q⟩⟩
def NEG (d : D) (K : D → Prop) : Prop := ∃ i, d = .int i ∧ K (.int (-i))
theorem ex2 {a : D} {μ : Mem} {Q : D → Mem → Prop} : (∃ r μ', (a = r ∧ μ = μ') ∧ Q r μ') ↔ Q a μ := ⟨fun ⟨_, _, ⟨h1, h2⟩, q⟩ => by subst h1; subst h2; exact q, fun q => ⟨_, _, ⟨rfl, rfl⟩, q⟩⟩
/- binary operators -/
section
variable {i j : Int} {Q : D → Mem → Prop} {a b : D}
theorem g2_of {g : D → D → Mem → Option (D × Mem)} {r : D} (h : g a b μ = some (r, μ)) : G2 g a b μ Q ↔ Q r μ := by
  unfold G2
  rw [h]
  exact ⟨fun ⟨_, _, h, q⟩ => by cases h; exact q, fun q => ⟨_, _, rfl, q⟩⟩
theorem g2_ofc {g : D → D → Mem → Option (D × Mem)} {r : D} {c : Prop} (h : c → g a b μ = some (r, μ)) (h' : ¬ c → g a b μ = none) : G2 g a b μ Q ↔ c ∧ Q r μ := by
  by_cases k : c
  · rw [g2_of (h k)]; simp [k]
  · unfold G2
    rw [h' k]
    exact ⟨fun ⟨_, _, h, q⟩ => (by cases h), fun q => (k q.1).elim⟩
theorem g_add : G2 gPlus (.int i) (.int j) μ Q ↔ Q (.int (i + j)) μ := g2_of rfl
theorem g_sub : G2 gSub (.int i) (.int j) μ Q ↔ Q (.int (i - j)) μ := g2_of rfl
theorem g_and : G2 gAnd (.int i) (.int j) μ Q ↔ Q (.int (Builtin.bitAnd i j)) μ := g2_of rfl
theorem g_or : G2 gOr (.int i) (.int j) μ Q ↔ Q (.int (Builtin.bitOr i j)) μ := g2_of rfl
theorem g_xor : G2 gXor (.int i) (.int j) μ Q ↔ Q (.int (Builtin.bitXor i j)) μ := g2_of rfl
theorem g_lt : G2 gLt (.int i) (.int j) μ Q ↔ Q (.bl (decide (i < j))) μ := g2_of rfl
theorem g_le : G2 gLe (.int i) (.int j) μ Q ↔ Q (.bl (decide (i ≤ j))) μ := g2_of rfl
theorem g_gt : G2 gGt (.int i) (.int j) μ Q ↔ Q (.bl (decide (j < i))) μ := g2_of rfl
theorem g_ge : G2 gGe (.int i) (.int j) μ Q ↔ Q (.bl (decide (j ≤ i))) μ := g2_of rfl
theorem g_i2c {C : Int → Int → Prop} [∀ i j, Decidable (C i j)] {g : Int → Int → D} : G2 (pu2 (i2c C g)) (.int i) (.int j) μ Q ↔ C i j ∧ Q (g i j) μ :=
  g2_ofc (fun h => by simp [pu2, i2c, h]) (fun h => by simp [pu2, i2c, h])
theorem g_mul : G2 gMul (.int i) (.int j) μ Q ↔ ((-(2 ^ 64) < i ∧ i < 2 ^ 64) ∨ (-(2 ^ 64) < j ∧ j < 2 ^ 64)) ∧ Q (.int (i * j)) μ := g_i2c
theorem g_mod : G2 gMod (.int i) (.int j) μ Q ↔ j ≠ 0 ∧ Q (.int (i.fmod j)) μ := g_i2c
theorem g_div : G2 gDiv (.int i) (.int j) μ Q ↔ (j ≠ 0 ∧ j.natAbs < 1073741824) ∧ Q (.int (i.fdiv j)) μ := g_i2c
theorem g_pow : G2 gPow (.int i) (.int j) μ Q ↔ (0 ≤ j ∧ j ≤ 1000000 ∧ i.natAbs < 2 ^ 64) ∧ Q (.int (i ^ j.toNat)) μ := g_i2c
theorem g_shl : G2 gShl (.int i) (.int j) μ Q ↔ (0 ≤ j ∧ j ≤ 1000000 ∧ i.natAbs < 2 ^ 64) ∧ Q (.int (i * 2 ^ j.toNat)) μ := g_i2c
theorem g_shr : G2 gShr (.int i) (.int j) μ Q ↔ 0 ≤ j ∧ Q (.int (i / 2 ^ j.toNat)) μ := g_i2c
theorem g_catT {x y : List D} : G2 gPlus (.tup x) (.tup y) μ Q ↔ x.length + y.length ≤ 16777216 ∧ Q (.tup (x ++ y)) μ :=
  g2_ofc (fun h => by simp [orG, pu2, i2, gCatT, h]) (fun h => by simp [orG, pu2, i2, gCatT, gCatL, see, gCatS, h])
theorem g_catL {x y : List D} : G2 gPlus (.lst x) (.lst y) μ Q ↔ x.length + y.length ≤ 16777216 ∧ Q (.lst (x ++ y)) μ :=
  g2_ofc (fun h => by simp [orG, pu2, i2, gCatT, gCatL, see, h]) (fun h => by simp [orG, pu2, i2, gCatT, gCatL, see, gCatS, h])
/-- equality -/
theorem g_eqi : G2 gEq (.int i) (.int j) μ Q ↔ Q (.bl (decide (i = j))) μ := g2_of (by
  simp only [rd2, see, pu2, gEqO, okD, eqD]
  have : (i == j) = decide (i = j) := by cases h : decide (i = j) <;> simp_all
  rw [this]; rfl)
theorem g_nei : G2 gNe (.int i) (.int j) μ Q ↔ Q (.bl (decide (i ≠ j))) μ := g2_of (by
  simp only [rd2, see, pu2, gEqO, okD, eqD]
  have : (!(i == j)) = decide (i ≠ j) := by cases h : decide (i = j) <;> simp_all
  simp [this])
theorem g_eqs {x y : Str} : G2 gEq (.str x) (.str y) μ Q ↔ (PyData.strOk x = true ∧ PyData.strOk y = true) ∧ Q (.bl (x == y)) μ := g2_ofc (fun h => by simp [rd2, see, pu2, gEqO, okD, eqD, h]) (fun h => by
  have : (PyData.strOk x && PyData.strOk y) = false := by
    cases h1 : PyData.strOk x <;> cases h2 : PyData.strOk y <;> simp_all
  simp [rd2, see, pu2, gEqO, okD, this])
theorem g_nes {x y : Str} : G2 gNe (.str x) (.str y) μ Q ↔ (PyData.strOk x = true ∧ PyData.strOk y = true) ∧ Q (.bl (!(x == y))) μ := g2_ofc (fun h => by simp [rd2, see, pu2, gEqO, okD, eqD, h]) (fun h => by
  have : (PyData.strOk x && PyData.strOk y) = false := by
    cases h1 : PyData.strOk x <;> cases h2 : PyData.strOk y <;> simp_all
  simp [rd2, see, pu2, gEqO, okD, this])
theorem g_eqt {x y : List D} : G2 gEq (.tup x) (.tup y) μ Q ↔ OPT (gEqO (.tup x) (.tup y)) fun b => Q (.bl b) μ := by
  unfold G2 OPT
  simp only [rd2, see, pu2]
  cases gEqO (.tup x) (.tup y) <;> simp [ex2]
theorem g_net {x y : List D} : G2 gNe (.tup x) (.tup y) μ Q ↔ OPT (gEqO (.tup x) (.tup y)) fun b => Q (.bl (!b)) μ := by
  unfold G2 OPT
  simp only [rd2, see, pu2]
  cases gEqO (.tup x) (.tup y) <;> simp [ex2]
theorem g_eqb {x y : Bool} : G2 gEq (.bl x) (.bl y) μ Q ↔ Q (.bl (x == y)) μ := g2_of rfl
theorem g_neb {x y : Bool} : G2 gNe (.bl x) (.bl y) μ Q ↔ Q (.bl (!(x == y))) μ := g2_of rfl
/-- is -/
theorem g_is : G2 gIs a b μ Q ↔ SEE μ a fun v => SEE μ b fun w => OPT (isD v w) fun c => Q (.bl c) μ := by
  unfold G2 OPT SEE
  simp only [rd2, pu2]
  cases isD (see μ a) (see μ b) <;> simp [ex2]
theorem g_isnot : G2 gIsNot a b μ Q ↔ SEE μ a fun v => SEE μ b fun w => OPT (isD v w) fun c => Q (.bl (!c)) μ := by
  unfold G2 OPT SEE
  simp only [rd2, pu2]
  cases isD (see μ a) (see μ b) <;> simp [ex2]
/-- an item -/
def ixV (v b : D) : Option D := match atD v b with
  | some d => some d
  | none => match lookD v b with
    | some (some d) => some d
    | _ => none
def IXV (v b : D) (Q : D → Prop) : Prop := OPT (ixV v b) Q
theorem g_ix_i : G2 gIx a (.int i) μ Q ↔ SEE μ a fun v => IXV v (.int i) fun d => Q d μ := by
  unfold G2 IXV OPT SEE
  simp only [orG, rd2, pu2, gIxD, ixV]
  have : see μ (.int i) = .int i := rfl
  rw [this]
  cases h : atD (see μ a) (.int i) with
  | some d => simp [ex2]
  | none =>
    simp only
    cases h2 : lookD (see μ a) (.int i) with
    | none => simp
    | some o => cases o <;> simp [ex2]
theorem g_ix_t {x : List D} : G2 gIx a (.tup x) μ Q ↔ SEE μ a fun v => IXV v (.tup x) fun d => Q d μ := by
  unfold G2 IXV OPT SEE
  simp only [orG, rd2, pu2, gIxD, ixV]
  have : see μ (.tup x) = .tup x := rfl
  rw [this]
  cases h : atD (see μ a) (.tup x) with
  | some d => simp [ex2]
  | none =>
    simp only
    cases h2 : lookD (see μ a) (.tup x) with
    | none => simp
    | some o => cases o <;> simp [ex2]
theorem ixv_tup {ds : List D} {Q : D → Prop} : IXV (.tup ds) (.int i) Q ↔ OPT (atI ds i) Q := by
  unfold IXV ixV
  cases h : atI ds i <;> simp [atD, h, lookD]
theorem ixv_lst {ds : List D} {Q : D → Prop} : IXV (.lst ds) (.int i) Q ↔ OPT (atI ds i) Q := by
  unfold IXV ixV
  cases h : atI ds i <;> simp [atD, h, lookD]
theorem ixv_dK {ks : List Key} {ds : List D} {Q : D → Prop} : IXV (.dK ks ds) (.int i) Q ↔ OPT (dget ks ds (.inl i)) Q := by
  unfold IXV ixV
  cases h : dget ks ds (.inl i) <;> simp [atD, h, lookD, keyD]
theorem atI_nat {α : Type} {xs : List α} (k : Nat) : atI xs (k : Int) = xs[k]? := by
  unfold atI ixN
  rw [if_pos (by omega)]
  by_cases h : k < xs.length
  · rw [if_pos (by omega)]; simp
  · rw [if_neg (by omega), List.getElem?_eq_none (by omega)]; rfl
theorem atI_0 {α : Type} {d0 : α} {ds : List α} : atI (d0 :: ds) 0 = some d0 := atI_nat 0
theorem atI_1 {α : Type} {d0 d1 : α} {ds : List α} : atI (d0 :: d1 :: ds) 1 = some d1 := atI_nat 1
theorem atI_2 {α : Type} {d0 d1 d2 : α} {ds : List α} : atI (d0 :: d1 :: d2 :: ds) 2 = some d2 := atI_nat 2
theorem atI_3 {α : Type} {d0 d1 d2 d3 : α} {ds : List α} : atI (d0 :: d1 :: d2 :: d3 :: ds) 3 = some d3 := atI_nat 3
theorem atI_4 {α : Type} {d0 d1 d2 d3 d4 : α} {ds : List α} : atI (d0 :: d1 :: d2 :: d3 :: d4 :: ds) 4 = some d4 := atI_nat 4
theorem atI_5 {α : Type} {d0 d1 d2 d3 d4 d5 : α} {ds : List α} : atI (d0 :: d1 :: d2 :: d3 :: d4 :: d5 :: ds) 5 = some d5 := atI_nat 5
theorem atI_6 {α : Type} {d0 d1 d2 d3 d4 d5 d6 : α} {ds : List α} : atI (d0 :: d1 :: d2 :: d3 :: d4 :: d5 :: d6 :: ds) 6 = some d6 := atI_nat 6
theorem atI_7 {α : Type} {d0 d1 d2 d3 d4 d5 d6 d7 : α} {ds : List α} : atI (d0 :: d1 :: d2 :: d3 :: d4 :: d5 :: d6 :: d7 :: ds) 7 = some d7 := atI_nat 7
theorem atI_8 {α : Type} {d0 d1 d2 d3 d4 d5 d6 d7 d8 : α} {ds : List α} : atI (d0 :: d1 :: d2 :: d3 :: d4 :: d5 :: d6 :: d7 :: d8 :: ds) 8 = some d8 := atI_nat 8
theorem atI_9 {α : Type} {d0 d1 d2 d3 d4 d5 d6 d7 d8 d9 : α} {ds : List α} : atI (d0 :: d1 :: d2 :: d3 :: d4 :: d5 :: d6 :: d7 :: d8 :: d9 :: ds) 9 = some d9 := atI_nat 9
/-- in -/
def inV (x v : D) : Option Bool := match dIn x v with
  | some b => some b
  | none => match lookD v x with
    | some o => some o.isSome
    | none => none
theorem g_in : G2 gIn a b μ Q ↔ SEE μ b fun v => OPT (inV a v) fun c => Q (.bl c) μ := by
  unfold G2 OPT SEE inV
  simp only [orG, gInS, gInD]
  cases h : dIn a (see μ b) with
  | some c => simp [ex2]
  | none =>
    simp only
    cases h2 : lookD (see μ b) a with
    | none => simp
    | some o => cases o <;> simp [ex2]
theorem g_nin : G2 gNin a b μ Q ↔ SEE μ b fun v => OPT (inV a v) fun c => Q (.bl (!c)) μ := by
  unfold G2 OPT SEE inV
  simp only [orG, gNinS, gNinD]
  cases h : dIn a (see μ b) with
  | some c => simp [ex2]
  | none =>
    simp only
    cases h2 : lookD (see μ b) a with
    | none => simp
    | some o => cases o <;> simp [ex2]
end
/- slices -/
theorem w_part {f : FE} {Q : Option Int → Mem → Prop} : WE (fPart f) ρ μ Q ↔ WE f ρ μ fun d μ1 => ∃ i, d = .int i ∧ Q (some i) μ1 := by
  unfold fPart
  rw [w_bnd]
  have : ∀ (d : D) μ1, WE (match d with | .int i => ret (some i) | _ => fail) ρ μ1 Q ↔ ∃ i, d = .int i ∧ Q (some i) μ1 := fun d μ1 => by
    cases d with
    | int i => rw [w_ret]; exact ⟨fun q => ⟨i, rfl, q⟩, fun ⟨_, h, q⟩ => by cases h; exact q⟩
    | _ => rw [w_fail]; exact ⟨fun h => h.elim, fun ⟨_, h, _⟩ => by cases h⟩
  exact ⟨fun ⟨d, m, e, q⟩ => ⟨d, m, e, (this d m).mp q⟩, fun ⟨d, m, e, q⟩ => ⟨d, m, e, (this d m).mpr q⟩⟩
def slV : D → Option Int → Option Int → Option D
  | .tup ds, lo, hi => some (.tup (cutD ds lo hi))
  | .lst ds, lo, hi => some (.lst (cutD ds lo hi))
  | .scr ns, lo, hi => some (.lst (cutD (ns.map D.int) lo hi))
  | _, _, _ => none
def SLV (v : D) (lo hi : Option Int) (μ : Mem) (Q : D → Mem → Prop) : Prop := OPT (slV v lo hi) fun d => Q d μ
theorem w_sl {f : FE} {fl fh : FO} {Q : D → Mem → Prop} : WE (fSl gSlA f fl fh) ρ μ Q ↔ WE f ρ μ fun d μ1 => WE fl ρ μ1 fun l μ2 => WE fh ρ μ2 fun h μ3 => OPT (gSlA d l h μ3) fun p => Q p.1 p.2 := by
  unfold fSl
  simp only [w_bnd]
  have : ∀ d l h μ3, WE (fun _ μ => gSlA d l h μ) ρ μ3 Q ↔ OPT (gSlA d l h μ3) fun p => Q p.1 p.2 := fun d l h μ3 =>
    ⟨fun ⟨a, m, e, q⟩ => ⟨(a, m), e, q⟩, fun ⟨p, e, q⟩ => ⟨p.1, p.2, e, q⟩⟩
  simp only [this]
theorem sl_tup {ds : List D} {lo hi : Option Int} {Q : D × Mem → Prop} : OPT (gSlA (.tup ds) lo hi μ) Q ↔ Q (.tup (cutD ds lo hi), μ) := opt_some
theorem sl_lst {ds : List D} {lo hi : Option Int} {Q : D × Mem → Prop} : OPT (gSlA (.lst ds) lo hi μ) Q ↔ Q (.lst (cutD ds lo hi), μ) := opt_some
theorem sl_scr {ns : List Int} {lo hi : Option Int} {Q : D × Mem → Prop} : OPT (gSlA (.scr ns) lo hi μ) Q ↔ Q (.lst (cutD (ns.map D.int) lo hi), μ) := opt_some
theorem w_rev {f : FE} {Q : D → Mem → Prop} : WE (fRev f) ρ μ Q ↔ WE f ρ μ fun d μ1 => SEE μ1 d fun v => ∃ ds, v = .lst ds ∧ Q (.lst ds.reverse) μ1 := by
  unfold fRev
  rw [w_bnd]
  have : ∀ (d : D) μ1, WE (fun _ μ => match see μ d with | .lst ds => some (D.lst ds.reverse, μ) | _ => none) ρ μ1 Q ↔ SEE μ1 d fun v => ∃ ds, v = .lst ds ∧ Q (.lst ds.reverse) μ1 := fun d μ1 => by
    unfold WE SEE
    dsimp only
    constructor
    · rintro ⟨b, μ', h, q⟩
      split at h
      · rename_i ds e; cases h; exact ⟨ds, e, q⟩
      · cases h
    · rintro ⟨ds, e, q⟩
      exact ⟨_, μ1, by rw [e], q⟩
  exact ⟨fun ⟨d, m, e, q⟩ => ⟨d, m, e, (this d m).mp q⟩, fun ⟨d, m, e, q⟩ => ⟨d, m, e, (this d m).mpr q⟩⟩
theorem ex_lst {i : List D} {P : List D → Prop} : (∃ j, D.lst i = .lst j ∧ P j) ↔ P i := ⟨fun ⟨_, h, q⟩ => by cases h; exact q, fun q => ⟨_, rfl, q⟩⟩
/- get -/
theorem w_get2 {fd fk fx : FE} {Q : D → Mem → Prop} : WE (fGet2 fd fk fx) ρ μ Q ↔ WE fd ρ μ fun d μ1 => SEE μ1 d fun v => isDict v = true ∧ WE fk ρ μ1 fun k μ2 => WE fx ρ μ2 fun x μ3 => SEE μ3 d fun v => OPT (lookD v k) fun o => Q (o.getD x) μ3 := by
  unfold fGet2
  simp only [w_bnd]
  have e1 : ∀ (d : D) (Q' : Unit → Mem → Prop) μ1, WE (fun _ μ => if isDict (see μ d) then some ((), μ) else none) ρ μ1 Q' ↔ SEE μ1 d fun v => isDict v = true ∧ Q' () μ1 := fun d Q' μ1 => by
    unfold WE SEE
    dsimp only
    by_cases h : isDict (see μ1 d) = true
    · rw [if_pos h]; exact ⟨fun ⟨_, _, e, q⟩ => by cases e; exact ⟨h, q⟩, fun q => ⟨_, _, rfl, q.2⟩⟩
    · rw [if_neg h]; exact ⟨fun ⟨_, _, e, q⟩ => (by cases e), fun q => absurd q.1 h⟩
  have e2 : ∀ (d k x : D) μ1, WE (fun _ μ => match lookD (see μ d) k with | some o => some (o.getD x, μ) | none => none) ρ μ1 Q ↔ SEE μ1 d fun v => OPT (lookD v k) fun o => Q (o.getD x) μ1 := fun d k x μ1 => by
    unfold WE SEE OPT
    dsimp only
    cases h : lookD (see μ1 d) k with
    | none => simp
    | some o => simp [ex2]
  simp only [e1]
  exact we_congr fun a m => see_congr fun v => and_congr_right fun _ => we_congr fun k m2 => we_congr fun x m3 => e2 a k x m3
theorem look_dK {ks : List Key} {ds : List D} {i : Int} : lookD (.dK ks ds) (.int i) = some (dget ks ds (.inl i)) := rfl
theorem isd_dK {ks : List Key} {ds : List D} : isDict (.dK ks ds) = true := rfl
/- calls of built-ins -/
section
variable {Q : D → Mem → Prop} {ds : List D} {d : D} {i j : Int}
theorem cl_of {F : FF} {r : D} {μ' : Mem} (h : F ds μ = some (r, μ')) : CL F ds μ Q ↔ Q r μ' := by
  unfold CL
  rw [h]
  exact ⟨fun ⟨_, _, h, q⟩ => by cases h; exact q, fun q => ⟨_, _, rfl, q⟩⟩
theorem c_g1 {g : D → Option D} : CL (g1 g) [d] μ Q ↔ SEE μ d fun v => OPT (g v) fun r => Q r μ := by
  unfold CL g1 SEE OPT
  dsimp only
  cases h : g (see μ d) <;> simp [ex2]
theorem c_max2 : CL gMax2 [.int i, .int j] μ Q ↔ Q (.int (max i j)) μ := by
  rw [cl_of (r := .int (max i j)) (μ' := μ)]
  simp only [gMax2]
  congr 3
  omega
theorem c_min2 : CL gMin2 [.int i, .int j] μ Q ↔ Q (.int (min i j)) μ := by
  rw [cl_of (r := .int (min i j)) (μ' := μ)]
  simp only [gMin2]
  congr 3
  omega
theorem c_tuple : CL dTuple [d] μ Q ↔ OPT (dTuple [d] μ) fun p => Q p.1 p.2 := ⟨fun ⟨a, m, e, q⟩ => ⟨(a, m), e, q⟩, fun ⟨p, e, q⟩ => ⟨p.1, p.2, e, q⟩⟩
theorem dlen_tup : dLen (.tup ds) = some (.int ds.length) := rfl
theorem dlen_lst : dLen (.lst ds) = some (.int ds.length) := rfl
theorem dint_int : dInt (.int i) = some (.int i) := rfl
theorem dlist_lst : dList (.lst ds) = some (.lst ds) := rfl
theorem dlist_tup : dList (.tup ds) = some (.lst ds) := rfl
theorem dtuple_tup {P : D × Mem → Prop} : OPT (dTuple [.tup ds] μ) P ↔ P (.tup ds, μ) := opt_some
theorem dtuple_lst {P : D × Mem → Prop} : OPT (dTuple [.lst ds] μ) P ↔ P (.tup ds, μ) := opt_some
theorem dtuple_ref {P : D × Mem → Prop} {n : Nat} : OPT (dTuple [.ref n] μ) P ↔ CELL (.ref n) n μ fun v => ∃ ds, v = .lst ds ∧ P (.tup ds, μ) := by
  unfold OPT CELL dTuple
  dsimp only
  have e : see μ (.ref n) = (match μ[n]? with | some c => c.c | none => .ref n) := rfl
  rw [← e]
  constructor
  · rintro ⟨p, h, q⟩
    split at h
    · rename_i ds hd; cases h; exact ⟨ds, hd, q⟩
    · cases h
  · rintro ⟨ds, h, q⟩
    exact ⟨_, by rw [h], q⟩
end
theorem w_isi {T : String} {f : FE} {Q : D → Mem → Prop} : WE (fIsi T f) ρ μ Q ↔ WE f ρ μ fun d μ1 => SEE μ1 d fun v => OPT (dIsi T v) fun r => Q r μ1 := by
  unfold fIsi
  rw [w_bnd]
  have : ∀ (d : D) μ1, WE (fun _ μ => match dIsi T (see μ d) with | some d => some (d, μ) | none => none) ρ μ1 Q ↔ SEE μ1 d fun v => OPT (dIsi T v) fun r => Q r μ1 := fun d μ1 => by
    unfold WE SEE OPT
    dsimp only
    cases h : dIsi T (see μ1 d) <;> simp [ex2]
  exact ⟨fun ⟨d, m, e, q⟩ => ⟨d, m, e, (this d m).mp q⟩, fun ⟨d, m, e, q⟩ => ⟨d, m, e, (this d m).mpr q⟩⟩
/- methods -/
def SETL (n : Nat) (d : D) (μ : Mem) (K : Mem → Prop) : Prop := OPT (gAppend (.ref n) [d] μ) fun p => K p.2
theorem setl_0 {d : D} {ds : List D} {K : Mem → Prop} : SETL 0 d (⟨false, .lst ds⟩ :: μ) K ↔ ds.length < 16777216 ∧ K (⟨false, .lst (ds ++ [d])⟩ :: μ) := by
  unfold SETL gAppend OPT
  by_cases h : ds.length < 16777216 <;> simp [h]
theorem setl_s {n : Nat} {d : D} {c : Cell} {K : Mem → Prop} : SETL (n + 1) d (c :: μ) K ↔ SETL n d μ fun μ' => K (c :: μ') := by
  unfold SETL gAppend OPT
  have e : (c :: μ)[n + 1]? = μ[n]? := rfl
  have e2 : ∀ x, (c :: μ).set (n + 1) x = c :: μ.set n x := fun x => rfl
  dsimp only
  rw [e]
  constructor
  · rintro ⟨p, h, q⟩
    split at h
    · rename_i ds hd
      split at h
      · rename_i hl; cases h; exact ⟨(.non, _), if_pos hl, by rw [e2] at q; exact q⟩
      · cases h
    · cases h
  · rintro ⟨p, h, q⟩
    split at h
    · rename_i ds hd
      split at h
      · rename_i hl; cases h; exact ⟨(.non, _), if_pos hl, by rw [e2]; exact q⟩
      · cases h
    · cases h
theorem w_append {fo fx : FE} {Q : D → Mem → Prop} : WE (fMeth isLst gAppend fo (fCons fx fNil)) ρ μ Q ↔ WE fo ρ μ fun o μ1 => SEE μ1 o fun v => isLst v = true ∧ WE fx ρ μ1 fun d μ2 => OPT (gAppend o [d] μ2) fun p => Q p.1 p.2 := by
  unfold fMeth
  simp only [w_bnd, w_cons, w_nil]
  have e1 : ∀ (d : D) (Q' : Unit → Mem → Prop) μ1, WE (fun _ μ => if isLst (see μ d) then some ((), μ) else none) ρ μ1 Q' ↔ SEE μ1 d fun v => isLst v = true ∧ Q' () μ1 := fun d Q' μ1 => by
    unfold WE SEE
    dsimp only
    by_cases h : isLst (see μ1 d) = true
    · rw [if_pos h]; exact ⟨fun ⟨_, _, e, q⟩ => by cases e; exact ⟨h, q⟩, fun q => ⟨_, _, rfl, q.2⟩⟩
    · rw [if_neg h]; exact ⟨fun ⟨_, _, e, q⟩ => (by cases e), fun q => absurd q.1 h⟩
  have e2 : ∀ (o : D) (ds : List D) μ3, WE (fun _ μ => gAppend o ds μ) ρ μ3 Q ↔ OPT (gAppend o ds μ3) fun p => Q p.1 p.2 := fun o ds μ3 =>
    ⟨fun ⟨a, m, e, q⟩ => ⟨(a, m), e, q⟩, fun ⟨p, e, q⟩ => ⟨p.1, p.2, e, q⟩⟩
  simp only [e1, e2]
theorem app_ref {n : Nat} {d : D} {P : D × Mem → Prop} : OPT (gAppend (.ref n) [d] μ) P ↔ SETL n d μ fun μ' => P (.non, μ') := by
  unfold SETL OPT gAppend
  constructor
  · rintro ⟨p, h, q⟩
    refine ⟨p, h, ?_⟩
    dsimp only at h
    split at h
    · split at h
      · cases h; exact q
      · cases h
    · cases h
  · rintro ⟨p, h, q⟩
    refine ⟨p, h, ?_⟩
    dsimp only at h
    split at h
    · split at h
      · cases h; exact q
      · cases h
    · cases h
theorem isl_lst {ds : List D} : isLst (.lst ds) = true := rfl
/- targets -/
theorem t_name {i : Nat} {d : D} {Q : Rho → Mem → Prop} : WG (fgName i) d ρ μ Q ↔ UPD i d ρ fun ρ' => Q ρ' μ := by
  unfold WG UPD fgName
  exact ⟨fun ⟨_, _, h, q⟩ => by cases h; exact q, fun q => ⟨_, _, rfl, q⟩⟩
theorem t_tup {n : Nat} {gs : FGs} {ds : List D} {Q : Rho → Mem → Prop} : WG (fgTup n gs) (.tup ds) ρ μ Q ↔ ds.length = n ∧ WGs gs ds ρ μ Q := by
  unfold WG WGs fgTup
  dsimp only
  by_cases h : ds.length = n <;> simp [h]
theorem t_nil {Q : Rho → Mem → Prop} : WGs fgNil [] ρ μ Q ↔ Q ρ μ := by
  unfold WGs fgNil
  exact ⟨fun ⟨_, _, h, q⟩ => by cases h; exact q, fun q => ⟨_, _, rfl, q⟩⟩
theorem t_cons {g : FG} {gs : FGs} {d : D} {ds : List D} {Q : Rho → Mem → Prop} : WGs (fgCons g gs) (d :: ds) ρ μ Q ↔ WG g d ρ μ fun ρ1 μ1 => WGs gs ds ρ1 μ1 Q := by
  unfold WGs WG fgCons
  dsimp only
  constructor
  · rintro ⟨ρ', μ', h, q⟩
    split at h
    · rename_i ρ1 μ1 e; exact ⟨ρ1, μ1, e, ρ', μ', h, q⟩
    · cases h
  · rintro ⟨ρ1, μ1, e, ρ', μ', h, q⟩
    exact ⟨ρ', μ', by rw [e]; exact h, q⟩
/- statements -/
section
variable {Q : Out → Prop} {f : FE} {k a b : FS} {t : FT}
theorem s_next : WS sNext ρ μ Q ↔ Q (.nx ρ μ) := ⟨fun ⟨_, h, q⟩ => by cases h; exact q, fun q => ⟨_, rfl, q⟩⟩
theorem s_break : WS sBreak ρ μ Q ↔ Q (.bk ρ μ) := ⟨fun ⟨_, h, q⟩ => by cases h; exact q, fun q => ⟨_, rfl, q⟩⟩
theorem s_cont : WS sCont ρ μ Q ↔ Q (.ct ρ μ) := ⟨fun ⟨_, h, q⟩ => by cases h; exact q, fun q => ⟨_, rfl, q⟩⟩
theorem s_set {i : Nat} : WS (sSet i f) ρ μ Q ↔ WE f ρ μ fun d μ1 => UPD i d ρ fun ρ' => Q (.nx ρ' μ1) := by
  unfold WS WE UPD sSet
  constructor
  · rintro ⟨o, h, q⟩
    split at h
    · rename_i d μ1 e; cases h; exact ⟨d, μ1, e, q⟩
    · cases h
  · rintro ⟨d, μ1, e, q⟩
    exact ⟨_, by rw [e], q⟩
theorem s_ret : WS (sRet f) ρ μ Q ↔ WE f ρ μ fun d μ1 => Q (.rt d μ1) := by
  unfold WS WE sRet
  constructor
  · rintro ⟨o, h, q⟩
    split at h
    · rename_i d μ1 e; cases h; exact ⟨d, μ1, e, q⟩
    · cases h
  · rintro ⟨d, μ1, e, q⟩
    exact ⟨_, by rw [e], q⟩
theorem s_retN : WS sRetN ρ μ Q ↔ Q (.rt .non μ) := ⟨fun ⟨_, h, q⟩ => by cases h; exact q, fun q => ⟨_, rfl, q⟩⟩
theorem s_expr : WS (sExpr f) ρ μ Q ↔ WE f ρ μ fun _ μ1 => Q (.nx ρ μ1) := by
  unfold WS WE sExpr
  constructor
  · rintro ⟨o, h, q⟩
    split at h
    · rename_i d μ1 e; cases h; exact ⟨d, μ1, e, q⟩
    · cases h
  · rintro ⟨d, μ1, e, q⟩
    exact ⟨_, by rw [e], q⟩
theorem s_if : WS (sIf t a b) ρ μ Q ↔ WE t ρ μ fun c μ1 => IT c (WS a ρ μ1 Q) (WS b ρ μ1 Q) := by
  unfold WS WE sIf IT
  constructor
  · rintro ⟨o, h, q⟩
    split at h
    · rename_i μ1 e; exact ⟨true, μ1, e, o, h, q⟩
    · rename_i μ1 e; exact ⟨false, μ1, e, by simp; exact ⟨o, h, q⟩⟩
    · cases h
  · rintro ⟨c, μ1, e, q⟩
    cases c with
    | true => obtain ⟨o, h, q⟩ := q; exact ⟨o, by rw [e]; exact h, q⟩
    | false =>
      simp at q
      obtain ⟨o, h, q⟩ := q; exact ⟨o, by rw [e]; exact h, q⟩
theorem s_asg {g : FG} : WS (sAsg f g) ρ μ Q ↔ WE f ρ μ fun d μ1 => WG g d ρ μ1 fun ρ' μ2 => Q (.nx ρ' μ2) := by
  unfold WS WE WG sAsg
  constructor
  · rintro ⟨o, h, q⟩
    split at h
    · rename_i d μ1 e
      split at h
      · rename_i ρ2 μ2 e2; cases h; exact ⟨d, μ1, e, ρ2, μ2, e2, q⟩
      · cases h
    · cases h
  · rintro ⟨d, μ1, e, ρ2, μ2, e2, q⟩
    exact ⟨_, by rw [e]; dsimp only; rw [e2], q⟩
def STO (o i v : D) (μ : Mem) (K : Mem → Prop) : Prop := OPT (gStore o i v μ) K
theorem s_store {fv fo fi : FE} : WS (sStore fv fo fi) ρ μ Q ↔ WE fv ρ μ fun v μ1 => WE fo ρ μ1 fun o μ2 => WE fi ρ μ2 fun i μ3 => STO o i v μ3 fun μ4 => Q (.nx ρ μ4) := by
  unfold WS WE STO OPT sStore
  constructor
  · rintro ⟨o, h, q⟩
    split at h
    · rename_i v μ1 e1
      split at h
      · rename_i o μ2 e2
        split at h
        · rename_i i μ3 e3
          split at h
          · rename_i μ4 e4; cases h; exact ⟨v, μ1, e1, o, μ2, e2, i, μ3, e3, μ4, e4, q⟩
          · cases h
        · cases h
      · cases h
    · cases h
  · rintro ⟨v, μ1, e1, o, μ2, e2, i, μ3, e3, μ4, e4, q⟩
    refine ⟨_, ?_, q⟩
    simp only [e1, e2, e3, e4]
def KEEP (Q : Out → Prop) (k : FS) : Out → Prop
  | .nx ρ μ => WS k ρ μ Q
  | o => Q o
theorem s_seq : WS (sSeq a k) ρ μ Q ↔ WS a ρ μ (KEEP Q k) := by
  unfold WS sSeq KEEP
  constructor
  · rintro ⟨o, h, q⟩
    split at h
    · rename_i ρ1 μ1 e; exact ⟨_, e, o, h, q⟩
    · rename_i hne
      refine ⟨o, h, ?_⟩
      cases o <;> first | exact q | skip
      rename_i ρ1 μ1
      exact absurd h (hne _ _)
  · rintro ⟨o, h, q⟩
    cases o with
    | nx ρ1 μ1 => obtain ⟨o, h2, q⟩ := q; exact ⟨o, by rw [h]; exact h2, q⟩
    | _ => exact ⟨_, by rw [h], q⟩
theorem k_nx : KEEP Q k (.nx ρ μ) ↔ WS k ρ μ Q := Iff.rfl
theorem k_rt {d : D} : KEEP Q k (.rt d μ) ↔ Q (.rt d μ) := Iff.rfl
theorem k_bk : KEEP Q k (.bk ρ μ) ↔ Q (.bk ρ μ) := Iff.rfl
theorem k_ct : KEEP Q k (.ct ρ μ) ↔ Q (.ct ρ μ) := Iff.rfl
end
end
/-- stores in lists, in dicts of int keys -/
theorem sto_s {n : Nat} {i v : D} {c : Cell} {μ : Mem} {K : Mem → Prop} : STO (.ref (n + 1)) i v (c :: μ) K ↔ STO (.ref n) i v μ fun μ' => K (c :: μ') := by
  have e1 : ∀ x : Option Cell, ∀ f : Cell → Option Mem, True := fun _ _ => trivial
  have e : gStore (.ref (n + 1)) i v (c :: μ) = (gStore (.ref n) i v μ).map (c :: ·) := by
    unfold gStore
    dsimp only
    have e0 : (c :: μ)[n + 1]? = μ[n]? := rfl
    rw [e0]
    cases h : μ[n]? with
    | none => rfl
    | some x =>
      obtain ⟨lk, y⟩ := x
      cases lk <;> cases y <;> first | rfl | skip
      · cases i <;> first | rfl | skip
        rename_i ds k
        show (match ixN ds.length k with | some j => _ | none => _) = Option.map _ (match ixN ds.length k with | some j => _ | none => _)
        cases ixN ds.length k <;> rfl
      all_goals (dsimp only; (repeat' split) <;> simp_all)
  unfold STO OPT
  rw [e]
  constructor
  · rintro ⟨m, h, q⟩
    cases hg : gStore (.ref n) i v μ with
    | none => rw [hg] at h; cases h
    | some m' => rw [hg] at h; cases h; exact ⟨m', rfl, q⟩
  · rintro ⟨m, h, q⟩
    exact ⟨c :: m, by rw [h]; rfl, q⟩
theorem sto_L {ds : List D} {k : Int} {v : D} {μ : Mem} {K : Mem → Prop} : STO (.ref 0) (.int k) v (⟨false, .lst ds⟩ :: μ) K ↔ OPT (ixN ds.length k) fun j => K (⟨false, .lst (ds.set j v)⟩ :: μ) := by
  unfold STO OPT gStore
  dsimp only
  have e0 : ((⟨false, .lst ds⟩ : Cell) :: μ)[0]? = some ⟨false, .lst ds⟩ := rfl
  rw [e0]
  dsimp only
  cases h : ixN ds.length k <;> simp [ex2]
theorem sto_K {ks : List Key} {ds : List D} {k : Int} {v : D} {μ : Mem} {K : Mem → Prop} : STO (.ref 0) (.int k) v (⟨false, .dK ks ds⟩ :: μ) K ↔ ks.length < 16777216 ∧ K (⟨false, .dK (dput ks ds (.inl k) v).1 (dput ks ds (.inl k) v).2⟩ :: μ) := by
  unfold STO OPT gStore
  dsimp only
  have e0 : ((⟨false, .dK ks ds⟩ : Cell) :: μ)[0]? = some ⟨false, .dK ks ds⟩ := rfl
  rw [e0]
  dsimp only [keyD]
  by_cases h : ks.length < 16777216 <;> simp [h]
/-! ## loops -/
def FOR (gd : Mem → Bool) (g : FG) (body : FS) (fgt : List Nat) (items : List D) (ρ : Rho) (μ : Mem) (Q : Out → Prop) : Prop := ∃ o, forL gd g body fgt items ρ μ = some o ∧ Q o
theorem s_for {fi : FI} {g : FG} {body : FS} {fgt : List Nat} {ρ : Rho} {μ : Mem} {Q : Out → Prop} : WS (sFor fi g body fgt) ρ μ Q ↔ WE fi ρ μ fun p μ1 => FOR p.2 g body fgt p.1 (forget fgt ρ) μ1 Q := by
  unfold WS WE FOR sFor
  constructor
  · rintro ⟨o, h, q⟩
    split at h
    · rename_i items gd μ1 e; exact ⟨_, _, e, o, h, q⟩
    · cases h
  · rintro ⟨⟨items, gd⟩, μ1, e, o, h, q⟩
    exact ⟨o, by rw [e]; exact h, q⟩
/-- after one turn -/
def TURN (fgt : List Nat) (S : Rho → Mem → Prop) (Q : Out → Prop) : Out → Prop
  | .nx ρ μ => S (forget fgt ρ) μ
  | .ct ρ μ => S (forget fgt ρ) μ
  | .bk ρ μ => Q (.nx (forget fgt ρ) μ)
  | .rt d μ => Q (.rt d μ)
theorem for_ok {α : Type} {gd : Mem → Bool} {g : FG} {body : FS} {fgt : List Nat} {Q : Out → Prop} {enc : α → D} (St : List α → Rho → Mem → Prop) (xs : List α)
    (hgd : ∀ done ρ μ, St done ρ μ → gd μ = true)
    (hstep : ∀ done a rest ρ μ, xs = done ++ a :: rest → St done ρ μ → WG g (enc a) ρ μ fun ρ1 μ1 => WS body ρ1 μ1 (TURN fgt (St (done ++ [a])) Q))
    (hend : ∀ ρ μ, St xs ρ μ → Q (.nx ρ μ)) : ∀ {ρ : Rho} {μ : Mem}, St [] ρ μ → FOR gd g body fgt (xs.map enc) ρ μ Q := by
  have key : ∀ (rest done : List α) (ρ : Rho) (μ : Mem), xs = done ++ rest → St done ρ μ → FOR gd g body fgt (rest.map enc) ρ μ Q := by
    intro rest
    induction rest with
    | nil =>
      intro done ρ μ e s
      rw [List.append_nil] at e
      subst e
      exact ⟨_, by simp only [List.map_nil, forL, hgd _ _ _ s]; rfl, hend _ _ s⟩
    | cons a rest ih =>
      intro done ρ μ e s
      obtain ⟨ρ1, μ1, e1, o, e2, q⟩ := hstep done a rest ρ μ e s
      have e' : xs = (done ++ [a]) ++ rest := by rw [e]; simp
      unfold FOR
      rw [List.map_cons]
      unfold forL
      simp only [hgd _ _ _ s, if_true, e1, e2]
      cases o with
      | nx ρ2 μ2 => exact ih _ _ _ e' q
      | ct ρ2 μ2 => exact ih _ _ _ e' q
      | bk ρ2 μ2 => exact ⟨_, rfl, q⟩
      | rt d μ2 => exact ⟨_, rfl, q⟩
  exact fun {ρ μ} s => key xs [] ρ μ rfl s
def WHL (t : FT) (body : FS) (fgt : List Nat) (n : Nat) (ρ : Rho) (μ : Mem) (Q : Out → Prop) : Prop := ∃ o, whL t body fgt n ρ μ = some o ∧ Q o
theorem s_while {n : Nat} {t : FT} {body : FS} {fgt : List Nat} {ρ : Rho} {μ : Mem} {Q : Out → Prop} : WS (sWhile n t body fgt) ρ μ Q ↔ WHL t body fgt n (forget fgt ρ) μ Q := Iff.rfl
/-- a while, by a measure -/
theorem while_ok {t : FT} {body : FS} {fgt : List Nat} {Q : Out → Prop} (St : Nat → Rho → Mem → Prop)
    (hstep : ∀ k ρ μ, St k ρ μ → WE t ρ μ fun c μ1 => IT c (WS body ρ μ1 (TURN fgt (fun ρ2 μ2 => ∃ k', k' < k ∧ St k' ρ2 μ2) Q)) (Q (.nx ρ μ1))) :
    ∀ (k n : Nat) (ρ : Rho) (μ : Mem), k < n → St k ρ μ → WHL t body fgt n ρ μ Q := by
  intro k
  induction k using Nat.strongRecOn with
  | ind k ih =>
    intro n ρ μ hn s
    obtain ⟨n, rfl⟩ : ∃ m, n = m + 1 := ⟨n - 1, by omega⟩
    obtain ⟨c, μ1, e, q⟩ := hstep k ρ μ s
    unfold WHL whL
    cases c with
    | false => simp only [e]; exact ⟨_, rfl, by simpa [IT] using q⟩
    | true =>
      obtain ⟨o, e2, q⟩ := q
      simp only [e, e2]
      cases o with
      | nx ρ2 μ2 => obtain ⟨k', h1, h2⟩ := q; exact ih k' h1 n _ _ (by omega) h2
      | ct ρ2 μ2 => obtain ⟨k', h1, h2⟩ := q; exact ih k' h1 n _ _ (by omega) h2
      | bk ρ2 μ2 => exact ⟨_, rfl, q⟩
      | rt d μ2 => exact ⟨_, rfl, q⟩
/-- a def's call -/
def RET (Q : D → Mem → Prop) : Out → Prop
  | .rt d μ => Q d μ
  | .nx _ μ => Q .non μ
  | _ => False
theorem c_def {n np : Nat} {body : FS} {ds : List D} {μ : Mem} {Q : D → Mem → Prop} (h : ds.length = np) : CL (fDef n np body) ds μ Q ↔ WS body (ds.map some ++ List.replicate (n - np) none) μ (RET Q) := by
  unfold CL WS fDef RET
  rw [if_pos h]
  constructor
  · rintro ⟨r, μ', e, q⟩
    split at e
    · rename_i d μ1 e1; cases e; exact ⟨_, e1, q⟩
    · rename_i ρ1 μ1 e1; cases e; exact ⟨_, e1, q⟩
    · cases e
  · rintro ⟨o, e, q⟩
    cases o with
    | rt d μ1 => exact ⟨d, μ1, by rw [e], q⟩
    | nx ρ1 μ1 => exact ⟨_, μ1, by rw [e], q⟩
    | _ => exact q.elim
theorem r_rt {Q : D → Mem → Prop} {d : D} {μ : Mem} : RET Q (.rt d μ) ↔ Q d μ := Iff.rfl
theorem r_nx {Q : D → Mem → Prop} {ρ : Rho} {μ : Mem} : RET Q (.nx ρ μ) ↔ Q .non μ := Iff.rfl
theorem tn_nx {fgt : List Nat} {S : Rho → Mem → Prop} {Q : Out → Prop} {ρ : Rho} {μ : Mem} : TURN fgt S Q (.nx ρ μ) ↔ S (forget fgt ρ) μ := Iff.rfl
theorem tn_ct {fgt : List Nat} {S : Rho → Mem → Prop} {Q : Out → Prop} {ρ : Rho} {μ : Mem} : TURN fgt S Q (.ct ρ μ) ↔ S (forget fgt ρ) μ := Iff.rfl
theorem tn_bk {fgt : List Nat} {S : Rho → Mem → Prop} {Q : Out → Prop} {ρ : Rho} {μ : Mem} : TURN fgt S Q (.bk ρ μ) ↔ Q (.nx (forget fgt ρ) μ) := Iff.rfl
theorem tn_rt {fgt : List Nat} {S : Rho → Mem → Prop} {Q : Out → Prop} {d : D} {μ : Mem} : TURN fgt S Q (.rt d μ) ↔ Q (.rt d μ) := Iff.rfl
/-- a def run on a memory of its own -/
theorem c_pure {F : FF} {ds : List D} {μ : Mem} {Q : D → Mem → Prop} (hn : nrs ds = true) : CL (pureF F) ds μ Q ↔ CL F ds [] fun d μ1 => OPT (backN d μ1) fun d' => Q d' μ := by
  unfold CL pureF OPT
  rw [if_pos hn]
  constructor
  · rintro ⟨r, μ', e, q⟩
    split at e
    · rename_i d μ1 e1
      split at e
      · rename_i d' e2; cases e; exact ⟨d, μ1, e1, _, e2, q⟩
      · cases e
    · cases e
  · rintro ⟨d, μ1, e1, d', e2, q⟩
    exact ⟨d', μ, by simp only [e1, e2], q⟩
theorem c_bor {F : FF} {ds : List D} {μ : Mem} {Q : D → Mem → Prop} (hn : nrs (ds.map (see μ)) = true) : CL (borF F) ds μ Q ↔ CL F (ds.map (see μ)) [] fun d μ1 => OPT (backI d μ1) fun d' => Q d' μ := by
  unfold CL borF OPT
  rw [if_pos hn]
  constructor
  · rintro ⟨r, μ', e, q⟩
    split at e
    · rename_i d μ1 e1
      split at e
      · rename_i d' e2; cases e; exact ⟨d, μ1, e1, _, e2, q⟩
      · cases e
    · cases e
  · rintro ⟨d, μ1, e1, d', e2, q⟩
    exact ⟨d', μ, by simp only [e1, e2], q⟩
theorem frz_base {p : Bool} {b : D → Bool} {n : Nat} {μ : Mem} {d : D} (h : b d = true) : frz p b n μ d = some d := by
  cases n <;> simp [frz, h]
theorem backN_nr {μ : Mem} {d : D} (h : nr d = true) : backN d μ = some d := frz_base h
theorem backI_imm {μ : Mem} {d : D} (h : imm d = true) : backI d μ = some d := frz_base h
/-! ## what is walked over -/
theorem w_seqI {f : FE} {ρ : Rho} {μ : Mem} {Q : List D × (Mem → Bool) → Mem → Prop} : WE (fiSeq f) ρ μ Q ↔ WE f ρ μ fun d μ1 => OPT (seqOf μ1 d) fun p => Q p μ1 := by
  unfold fiSeq
  rw [w_bnd]
  refine we_congr fun d m => ?_
  unfold WE OPT
  dsimp only
  constructor
  · rintro ⟨p, m', h, q⟩
    split at h
    · rename_i p' e; cases h; exact ⟨_, e, q⟩
    · cases h
  · rintro ⟨p, e, q⟩
    exact ⟨p, m, by rw [e], q⟩
theorem w_enumI {f : FE} {ρ : Rho} {μ : Mem} {Q : List D × (Mem → Bool) → Mem → Prop} : WE (fiEnum (fCons f fNil)) ρ μ Q ↔ WE f ρ μ fun d μ1 => OPT (seqOf μ1 d) fun p => Q (enumD 0 p.1, p.2) μ1 := by
  unfold fiEnum
  rw [w_bnd, w_cons]
  refine we_congr fun d m => ?_
  rw [w_nil]
  unfold WE OPT
  dsimp only
  constructor
  · rintro ⟨p, m', h, q⟩
    split at h
    · rename_i p' gd e; cases h; exact ⟨_, e, q⟩
    · cases h
  · rintro ⟨p, e, q⟩
    exact ⟨_, m, by rw [e], q⟩
theorem w_zipI {f f' : FE} {ρ : Rho} {μ : Mem} {Q : List D × (Mem → Bool) → Mem → Prop} : WE (fiZip (fCons f (fCons f' fNil))) ρ μ Q ↔ WE f ρ μ fun d μ1 => WE f' ρ μ1 fun d' μ2 => OPT (seqOf μ2 d) fun p => OPT (seqOf μ2 d') fun p' => Q (zipD p.1 p'.1, fun μ => p.2 μ && p'.2 μ) μ2 := by
  unfold fiZip
  rw [w_bnd, w_cons]
  refine we_congr fun d m => ?_
  rw [w_cons]
  refine we_congr fun d' m => ?_
  rw [w_nil]
  unfold WE OPT
  dsimp only
  constructor
  · rintro ⟨p, m', h, q⟩
    split at h
    · rename_i p1 gd p2 gd2 e e2; cases h; exact ⟨_, e, _, e2, q⟩
    · cases h
  · rintro ⟨p, e, p', e2, q⟩
    exact ⟨_, m, by rw [e, e2], q⟩
theorem w_range1 {f : FE} {ρ : Rho} {μ : Mem} {Q : List D × (Mem → Bool) → Mem → Prop} : WE (fiRange1 (fCons f fNil)) ρ μ Q ↔ WE f ρ μ fun d μ1 => ∃ j, d = .int j ∧ okR j = true ∧ Q (rangeL 0 j.toNat, fun _ => true) μ1 := by
  unfold fiRange1
  rw [w_bnd, w_cons]
  refine we_congr fun d m => ?_
  rw [w_nil]
  cases d with
  | int j =>
    rw [ex_int]
    exact w_ite.trans (by rw [w_ret])
  | _ => exact ⟨fun h => (w_fail.mp h).elim, fun ⟨_, h, _⟩ => by cases h⟩
theorem w_range2 {f f' : FE} {ρ : Rho} {μ : Mem} {Q : List D × (Mem → Bool) → Mem → Prop} : WE (fiRange2 (fCons f (fCons f' fNil))) ρ μ Q ↔ WE f ρ μ fun d μ1 => WE f' ρ μ1 fun d' μ2 => ∃ i, d = .int i ∧ ∃ j, d' = .int j ∧ (okR i && okR j) = true ∧ Q (rangeL i (j - i).toNat, fun _ => true) μ2 := by
  unfold fiRange2
  rw [w_bnd, w_cons]
  refine we_congr fun d m => ?_
  rw [w_cons]
  refine we_congr fun d' m => ?_
  rw [w_nil]
  cases d with
  | int i =>
    rw [ex_int]
    cases d' with
    | int j =>
      rw [ex_int]
      exact w_ite.trans (by rw [w_ret])
    | _ => exact ⟨fun h => (w_fail.mp h).elim, fun ⟨_, h, _⟩ => by cases h⟩
  | _ => exact ⟨fun h => (w_fail.mp (by cases d' <;> exact h)).elim, fun ⟨_, h, _⟩ => by cases h⟩
theorem w_range3 {f f' f'' : FE} {ρ : Rho} {μ : Mem} {Q : List D × (Mem → Bool) → Mem → Prop} : WE (fiRange3 (fCons f (fCons f' (fCons f'' fNil)))) ρ μ Q ↔ WE f ρ μ fun d μ1 => WE f' ρ μ1 fun d' μ2 => WE f'' ρ μ2 fun d'' μ3 => ∃ i, d = .int i ∧ ∃ j, d' = .int j ∧ ∃ c, d'' = .int c ∧ (okR i && okR j && decide (c = -1)) = true ∧ Q (rangeDn i (i - j).toNat, fun _ => true) μ3 := by
  unfold fiRange3
  rw [w_bnd, w_cons]
  refine we_congr fun d m => ?_
  rw [w_cons]
  refine we_congr fun d' m => ?_
  rw [w_cons]
  refine we_congr fun d'' m => ?_
  rw [w_nil]
  cases d with
  | int i =>
    rw [ex_int]
    cases d' with
    | int j =>
      rw [ex_int]
      cases d'' with
      | int c =>
        rw [ex_int]
        exact w_ite.trans (by rw [w_ret])
      | _ => exact ⟨fun h => (w_fail.mp h).elim, fun ⟨_, h, _⟩ => by cases h⟩
    | _ => exact ⟨fun h => (w_fail.mp (by cases d'' <;> exact h)).elim, fun ⟨_, h, _⟩ => by cases h⟩
  | _ => exact ⟨fun h => (w_fail.mp (by cases d' <;> cases d'' <;> exact h)).elim, fun ⟨_, h, _⟩ => by cases h⟩
theorem seq_tup {μ : Mem} {ds : List D} {K : List D × (Mem → Bool) → Prop} : OPT (seqOf μ (.tup ds)) K ↔ K (ds, fun _ => true) := opt_some
theorem seq_lst {μ : Mem} {ds : List D} {K : List D × (Mem → Bool) → Prop} : OPT (seqOf μ (.lst ds)) K ↔ K (ds, fun _ => true) := opt_some
theorem seq_ref {μ : Mem} {n : Nat} {K : List D × (Mem → Bool) → Prop} : OPT (seqOf μ (.ref n)) K ↔ CELL (.ref n) n μ fun v => ∃ ds, v = .lst ds ∧ K (ds, sameL ds n) := by
  unfold OPT CELL seqOf
  dsimp only
  cases h : μ[n]? with
  | none => simp
  | some c =>
    obtain ⟨lk, y⟩ := c
    dsimp only
    cases y <;> simp
theorem enum_eq {α : Type} (f : α → D) : ∀ (xs : List α) (i : Nat), enumD i (xs.map f) = (xs.zipIdx i).map fun p => .tup [.int (p.2 : Nat), f p.1]
  | [], i => rfl
  | x :: xs, i => by
    rw [List.map_cons, enumD, List.zipIdx_cons, List.map_cons, enum_eq f xs (i + 1)]
theorem zip_eq {α β : Type} (f : α → D) (g : β → D) : ∀ (xs : List α) (ys : List β), zipD (xs.map f) (ys.map g) = (xs.zip ys).map fun p => .tup [f p.1, g p.2]
  | [], ys => by cases ys <;> rfl
  | x :: xs, [] => rfl
  | x :: xs, y :: ys => by
    rw [List.map_cons, List.map_cons, zipD, List.zip_cons_cons, List.map_cons, zip_eq f g xs ys]
theorem range_eq {α : Type} (xs : List α) : rangeL 0 xs.length = xs.zipIdx.map fun p => .int (p.2 : Nat) := by
  unfold rangeL
  rw [List.zipIdx_eq_zip_range', List.range_eq_range']
  apply List.ext_getElem
  · simp
  · intro i h1 h2; simp
end Mi
namespace Mi
open PySem PySem.Spec PyProof.Rows L2

/-! ## dicts as lists of pairs -/
section
variable {κ α β : Type} [DecidableEq κ]
def kget : List (κ × α) → κ → Option α
  | [], _ => none
  | p :: ps, k => if p.1 = k then some p.2 else kget ps k
def krep : List (κ × α) → κ → α → List (κ × α)
  | [], _, _ => []
  | p :: ps, k, v => (p.1, if p.1 = k then v else p.2) :: krep ps k v
def kput (ps : List (κ × α)) (k : κ) (v : α) : List (κ × α) := if k ∈ ps.map (·.1) then krep ps k v else ps ++ [(k, v)]
theorem krep_keys : ∀ (ps : List (κ × α)) (k : κ) (v : α), (krep ps k v).map (·.1) = ps.map (·.1)
  | [], _, _ => rfl
  | p :: ps, k, v => by simp only [krep, List.map_cons, krep_keys ps k v]
theorem kget_rep : ∀ (ps : List (κ × α)) (k : κ) (v : α) (j : κ), k ∈ ps.map (·.1) → kget (krep ps k v) j = if j = k then some v else kget ps j
  | [], k, v, j, h => by cases h
  | p :: ps, k, v, j, h => by
    simp only [krep, kget]
    by_cases h1 : p.1 = j
    · subst h1
      by_cases h2 : p.1 = k <;> simp [h2]
    · rw [if_neg h1, if_neg h1]
      by_cases hk : k ∈ ps.map (·.1)
      · exact kget_rep ps k v j hk
      · have hp : p.1 = k := by
          rw [List.map_cons, List.mem_cons] at h
          exact (h.resolve_right hk).symm
        have hj : ¬ j = k := fun e => h1 (by rw [hp, e])
        rw [if_neg hj]
        have : ∀ ps : List (κ × α), k ∉ ps.map (·.1) → kget (krep ps k v) j = kget ps j := by
          intro ps h
          induction ps with
          | nil => rfl
          | cons q ps ih =>
            rw [List.map_cons, List.mem_cons, not_or] at h
            simp only [krep, kget]
            rw [if_neg (c := q.1 = k) (fun e => h.1 e.symm), ih h.2]
        exact this ps hk
theorem kget_app : ∀ (ps : List (κ × α)) (k : κ) (v : α) (j : κ), k ∉ ps.map (·.1) → kget (ps ++ [(k, v)]) j = if j = k then some v else kget ps j
  | [], k, v, j, _ => by
    simp only [List.nil_append, kget]
    by_cases h : j = k
    · rw [if_pos h.symm, if_pos h]
    · rw [if_neg (fun e => h e.symm), if_neg h]
  | p :: ps, k, v, j, h => by
    rw [List.map_cons, List.mem_cons, not_or] at h
    rw [List.cons_append]
    simp only [kget]
    by_cases h1 : p.1 = j
    · rw [if_pos h1, if_pos h1, if_neg (fun e => h.1 (by rw [h1, e]))]
    · rw [if_neg h1, if_neg h1, kget_app ps k v j h.2]
theorem kget_put (ps : List (κ × α)) (k : κ) (v : α) (j : κ) : kget (kput ps k v) j = if j = k then some v else kget ps j := by
  unfold kput
  split
  · rename_i h; exact kget_rep ps k v j h
  · rename_i h; exact kget_app ps k v j h
theorem kput_keys (ps : List (κ × α)) (k : κ) (v : α) : (kput ps k v).map (·.1) = if k ∈ ps.map (·.1) then ps.map (·.1) else ps.map (·.1) ++ [k] := by
  unfold kput
  split
  · exact krep_keys ps k v
  · simp
theorem kput_nodup {ps : List (κ × α)} {k : κ} {v : α} (h : (ps.map (·.1)).Nodup) : ((kput ps k v).map (·.1)).Nodup := by
  rw [kput_keys]
  split
  · exact h
  · rename_i hk
    rw [List.nodup_append]
    exact ⟨h, by simp, fun a ha b hb => by simp at hb; subst hb; exact fun e => hk (e ▸ ha)⟩
theorem kget_mem {ps : List (κ × α)} {k : κ} {v : α} (h : kget ps k = some v) : (k, v) ∈ ps := by
  induction ps with
  | nil => cases h
  | cons p ps ih =>
    simp only [kget] at h
    split at h
    · rename_i e; cases h; subst e; exact List.mem_cons_self
    · exact List.mem_cons_of_mem _ (ih h)
theorem kget_of_mem {ps : List (κ × α)} {k : κ} {v : α} (hn : (ps.map (·.1)).Nodup) (h : (k, v) ∈ ps) : kget ps k = some v := by
  induction ps with
  | nil => cases h
  | cons p ps ih =>
    simp only [kget]
    rw [List.map_cons, List.nodup_cons] at hn
    rcases List.mem_cons.mp h with rfl | h
    · simp
    · rw [if_neg (fun e => hn.1 (by rw [e]; exact List.mem_map.mpr ⟨_, h, rfl⟩))]
      exact ih hn.2 h
theorem kget_isSome {ps : List (κ × α)} {k : κ} : (kget ps k).isSome = true ↔ k ∈ ps.map (·.1) := by
  induction ps with
  | nil => simp [kget]
  | cons p ps ih =>
    simp only [kget, List.map_cons, List.mem_cons]
    split
    · rename_i e; simp [e]
    · rename_i e; rw [ih]; exact ⟨.inr, fun h => h.resolve_left fun e' => e e'.symm⟩
theorem kget_none {ps : List (κ × α)} {k : κ} : kget ps k = none ↔ k ∉ ps.map (·.1) := by
  rw [← kget_isSome]
  cases kget ps k <;> simp
/-- a dict of keys κ, by an injective fk -/
def dictD (fk : κ → Key) (fv : α → D) (ps : List (κ × α)) : D := .dK (ps.map fun p => fk p.1) (ps.map fun p => fv p.2)
variable {fk : κ → Key} {fv : α → D}
theorem dget_d (hi : ∀ a b, fk a = fk b → a = b) : ∀ (ps : List (κ × α)) (k : κ), dget (ps.map fun p => fk p.1) (ps.map fun p => fv p.2) (fk k) = (kget ps k).map fv
  | [], k => rfl
  | p :: ps, k => by
    simp only [List.map_cons, dget, kget]
    by_cases h : p.1 = k
    · simp [h]
    · rw [if_neg (fun e => h (hi _ _ e)), if_neg h, dget_d hi ps k]
theorem hasK_d (hi : ∀ a b, fk a = fk b → a = b) : ∀ (ps : List (κ × α)) (k : κ), hasK (ps.map fun p => fk p.1) (fk k) = decide (k ∈ ps.map (·.1))
  | [], k => rfl
  | p :: ps, k => by
    simp only [List.map_cons, hasK, hasK_d hi ps k, List.mem_cons]
    by_cases h : p.1 = k
    · simp [h]
    · have h1 : ¬ fk p.1 = fk k := fun e => h (hi _ _ e)
      have h2 : ¬ k = p.1 := fun e => h e.symm
      simp [h1, h2]
theorem drep_d (hi : ∀ a b, fk a = fk b → a = b) : ∀ (ps : List (κ × α)) (k : κ) (v : α), drep (ps.map fun p => fk p.1) (ps.map fun p => fv p.2) (fk k) (fv v) = (krep ps k v).map fun p => fv p.2
  | [], _, _ => rfl
  | p :: ps, k, v => by
    simp only [List.map_cons, drep, krep, drep_d hi ps k v]
    by_cases h : p.1 = k
    · simp [h]
    · rw [if_neg (fun e => h (hi _ _ e)), if_neg h]
theorem kput_d (hi : ∀ a b, fk a = fk b → a = b) (ps : List (κ × α)) (k : κ) (v : α) :
    dput (ps.map fun p => fk p.1) (ps.map fun p => fv p.2) (fk k) (fv v) = ((kput ps k v).map (fun p => fk p.1), (kput ps k v).map fun p => fv p.2) := by
  unfold dput kput
  rw [hasK_d hi]
  by_cases hk : k ∈ ps.map (·.1)
  · rw [if_pos (by simpa using hk), if_pos hk, drep_d hi]
    have : (krep ps k v).map (fun p => fk p.1) = ps.map fun p => fk p.1 := by
      have := congrArg (List.map fk) (krep_keys ps k v)
      simpa [List.map_map, Function.comp_def] using this
    rw [this]
  · rw [if_neg (by simpa using hk), if_neg hk]
    simp
end
/-! ## what a def of its own memory gives -/
theorem nrs_map {α : Type} {f : α → D} (h : ∀ x, nr (f x) = true) : ∀ xs : List α, nrs (xs.map f) = true
  | [] => rfl
  | x :: xs => by simp only [List.map_cons, nrs, h x, nrs_map h xs, Bool.and_self]
theorem imms_map {α : Type} {f : α → D} (h : ∀ x, imm (f x) = true) : ∀ xs : List α, imms (xs.map f) = true
  | [] => rfl
  | x :: xs => by simp only [List.map_cons, imms, h x, imms_map h xs, Bool.and_self]
theorem pure_ok {F : FF} {ds : List D} {r : D} (hn : nrs ds = true) (h : CL F ds [] fun d m => backN d m = some r) {μ : Mem} {Q : D → Mem → Prop} : CL (pureF F) ds μ Q ↔ Q r μ := by
  rw [c_pure hn]
  obtain ⟨d, m, e, hb⟩ := h
  rw [cl_of e, hb, opt_some]
theorem bor_ok {F : FF} {ds ds' : List D} {r : D} {μ : Mem} (hs : ds.map (see μ) = ds') (hn : nrs ds' = true) (h : CL F ds' [] fun d m => backI d m = some r) {Q : D → Mem → Prop} : CL (borF F) ds μ Q ↔ Q r μ := by
  rw [c_bor (by rw [hs]; exact hn), hs]
  obtain ⟨d, m, e, hb⟩ := h
  rw [cl_of e, hb, opt_some]
theorem optAll_id {g : D → Option D} : ∀ {ds : List D}, (∀ d ∈ ds, g d = some d) → optAll g ds = some ds
  | [], _ => rfl
  | d :: ds, h => by
    unfold optAll
    rw [h d List.mem_cons_self, optAll_id fun e he => h e (List.mem_cons_of_mem _ he)]
theorem nrs_mem : ∀ {ds : List D}, nrs ds = true → ∀ d ∈ ds, nr d = true
  | [], _, d, h => by cases h
  | e :: ds, hn, d, h => by
    simp only [nrs, Bool.and_eq_true] at hn
    rcases List.mem_cons.mp h with rfl | h
    · exact hn.1
    · exact nrs_mem hn.2 d h
theorem frz_box {n k : Nat} {μ : Mem} {c : Cell} (h : μ[k]? = some c) (hb : isBox c.c = true) (hn : nr c.c = true) : frz true nr (n + 1) μ (.ref k) = some c.c := by
  have e0 : nr (.ref k) = false := rfl
  unfold frz
  simp only [e0, Bool.false_eq_true, if_false, h]
  obtain ⟨lk, y⟩ := c
  dsimp only at hb hn ⊢
  have id : ∀ ds : List D, nrs ds = true → optAll (frz true nr n μ) ds = some ds := fun ds h => optAll_id fun d hd => frz_base (nrs_mem h d hd)
  cases y with
  | lst ds => simp only [withIt]; rw [id ds hn]
  | dK ks ds => simp only [withIt]; rw [id ds hn]
  | dT ks ds => simp only [withIt]; rw [id ds hn]
  | obj C fs ds => simp only [withIt]; rw [id ds hn]
  | _ => cases hb
theorem backN_box {k : Nat} {μ : Mem} {c : Cell} (h : μ[k]? = some c) (hb : isBox c.c = true) (hn : nr c.c = true) : backN (.ref k) μ = some c.c := frz_box h hb hn
theorem band (a b : Nat) : Builtin.bitAnd (a : Int) (b : Int) = ((a &&& b : Nat) : Int) := PySem.W.os_band a b
theorem bor (a b : Nat) : Builtin.bitOr (a : Int) (b : Int) = ((a ||| b : Nat) : Int) := by
  unfold Builtin.bitOr Builtin.bitAnd
  have h1 : decide ((0 : Int) ≤ Builtin.bitNot (a : Int)) = false := decide_eq_false (by unfold Builtin.bitNot; omega)
  have h2 : decide ((0 : Int) ≤ Builtin.bitNot (b : Int)) = false := decide_eq_false (by unfold Builtin.bitNot; omega)
  simp only [h1, h2]
  have h3 : ∀ x : Int, Builtin.bitNot (Builtin.bitNot x) = x := fun x => by unfold Builtin.bitNot; omega
  simp only [h3, Int.toNat_natCast]
theorem opt_eq {α : Type} {o : Option α} {a : α} (h : o = some a) {Q : α → Prop} : OPT o Q ↔ Q a := by rw [h, opt_some]
theorem okR_nat {n : Nat} (h : n ≤ 1000000000) : okR (n : Int) = true := by
  unfold okR
  rw [decide_eq_true (by omega), decide_eq_true (by omega)]; rfl
theorem zipIdx_at {α : Type} {xs : List α} {done rest : List (α × Nat)} {x : α} {i : Nat} (e : xs.zipIdx = done ++ (x, i) :: rest) : xs[i]? = some x := by
  have : (x, i) ∈ xs.zipIdx := by rw [e]; simp
  exact List.mk_mem_zipIdx_iff_getElem?.mp this
theorem atI_map {α : Type} {f : α → D} {xs : List α} {i : Nat} {x : α} (h : xs[i]? = some x) : atI (xs.map f) (i : Int) = some (f x) := by
  rw [atI_nat, List.getElem?_map, h]; rfl
theorem opt_at {α : Type} {f : α → D} {xs : List α} {i : Nat} {x : α} (h : xs[i]? = some x) {Q : D → Prop} : OPT (atI (xs.map f) (i : Int)) Q ↔ Q (f x) := opt_eq (atI_map h)
/-! ## dicts of numbers from nought -/
section
variable {μ : Mem} {a b : Nat} {Q : D → Mem → Prop}
theorem g_andN : G2 gAnd (.int (a : Nat)) (.int (b : Nat)) μ Q ↔ Q (.int ((a &&& b : Nat) : Int)) μ := by rw [g_and, band]
theorem g_orN : G2 gOr (.int (a : Nat)) (.int (b : Nat)) μ Q ↔ Q (.int ((a ||| b : Nat) : Int)) μ := by rw [g_or, bor]
theorem g_add1 : G2 gPlus (.int (a : Nat)) (.int 1) μ Q ↔ Q (.int ((a + 1 : Nat) : Int)) μ := by rw [g_add]; rfl
theorem g_subN (h : b ≤ a) : G2 gSub (.int (a : Nat)) (.int (b : Nat)) μ Q ↔ Q (.int ((a - b : Nat) : Int)) μ := by rw [g_sub, Int.natCast_sub h]
theorem nat_inj : ∀ a b : Nat, (Sum.inl (a : Int) : Key) = Sum.inl (b : Int) → a = b := fun a b h => by injection h with h; exact Int.ofNat.inj h
/-- a dict from numbers to data -/
abbrev dNv {α : Type} (fv : α → D) (ps : List (Nat × α)) : D := .dK (ps.map fun p => Sum.inl (p.1 : Int)) (ps.map fun p => fv p.2)
variable {α : Type} {fv : α → D} {ps : List (Nat × α)} {k : Nat}
theorem opt_dget {K : D → Prop} : OPT (dget (ps.map fun p => (Sum.inl (p.1 : Int) : Key)) (ps.map fun p => fv p.2) (.inl (k : Int))) K ↔ OPT (kget ps k) fun x => K (fv x) := by
  rw [dget_d (fk := fun n : Nat => Sum.inl (n : Int)) nat_inj]
  unfold OPT
  cases kget ps k <;> simp
theorem opt_lookN {K : Option D → Prop} : OPT (lookD (dNv fv ps) (.int (k : Int))) K ↔ K ((kget ps k).map fv) := by
  rw [look_dK, opt_some, dget_d (fk := fun n : Nat => Sum.inl (n : Int)) nat_inj]
theorem opt_inN {K : Bool → Prop} : OPT (inV (.int (k : Int)) (dNv fv ps)) K ↔ K (kget ps k).isSome := by
  have : inV (.int (k : Int)) (dNv fv ps) = some (kget ps k).isSome := by
    unfold inV
    simp only [dIn, look_dK]
    rw [dget_d (fk := fun n : Nat => Sum.inl (n : Int)) nat_inj]
    cases kget ps k <;> rfl
  rw [this, opt_some]
theorem sto_N {x : α} {K : Mem → Prop} : STO (.ref 0) (.int (k : Int)) (fv x) (⟨false, dNv fv ps⟩ :: μ) K ↔ ps.length < 16777216 ∧ K (⟨false, dNv fv (kput ps k x)⟩ :: μ) := by
  rw [sto_K, kput_d (fk := fun n : Nat => Sum.inl (n : Int)) nat_inj, List.length_map]
theorem nr_dNv (h : ∀ x, nr (fv x) = true) : nr (dNv fv ps) = true := nrs_map (f := fun p : Nat × α => fv p.2) (fun p => h p.2) ps
end
theorem range_nat (n : Nat) : rangeL 0 n = (List.range n).map fun k => .int (k : Nat) := by
  unfold rangeL
  refine List.map_congr_left fun k _ => ?_
  rw [Int.zero_add]
theorem range_split {n a : Nat} {done rest : List Nat} (h : List.range n = done ++ a :: rest) : done = List.range a ∧ a < n := by
  have h1 : done.length < n := by
    have := congrArg List.length h
    simp at this; omega
  have h2 : (List.range n)[done.length]? = some a := by rw [h]; simp
  rw [List.getElem?_range h1] at h2
  cases h2
  refine ⟨?_, h1⟩
  have h3 : (List.range n).take done.length = done := by rw [h]; simp
  rw [List.take_range, Nat.min_eq_left (Nat.le_of_lt h1)] at h3
  exact h3.symm
theorem nodup_lt : ∀ (n : Nat) (l : List Nat), l.Nodup → (∀ x ∈ l, x < n) → l.length ≤ n
  | 0, l, _, h => by
    cases l with
    | nil => simp
    | cons x l => exact absurd (h x List.mem_cons_self) (by omega)
  | n + 1, l, hn, h => by
    have := nodup_lt n (l.erase n) (hn.erase n) fun x hx => by
      rw [hn.mem_erase_iff] at hx
      have := h x hx.2
      omega
    rw [List.length_erase] at this
    split at this <;> omega
theorem getD_int {o : Option Nat} {y : Int} : (o.map fun n : Nat => D.int (n : Int)).getD (.int y) = .int ((o.map fun n : Nat => (n : Int)).getD y) := by cases o <;> rfl
/-- a dict from numbers to numbers -/
abbrev dN (ps : List (Nat × Nat)) : D := .dK (ps.map fun p => Sum.inl (p.1 : Int)) (ps.map fun p => .int (p.2 : Int))
section
variable {μ : Mem} {k v : Nat} {ps : List (Nat × Nat)}
theorem n_dget {K : D → Prop} : OPT (dget (ps.map fun p => (Sum.inl (p.1 : Int) : Key)) (ps.map fun p => D.int (p.2 : Int)) (.inl (k : Int))) K ↔ OPT (kget ps k) fun x => K (.int (x : Int)) := opt_dget (fv := fun n : Nat => D.int (n : Int))
theorem n_look {K : Option D → Prop} : OPT (lookD (dN ps) (.int (k : Int))) K ↔ K ((kget ps k).map fun n : Nat => D.int (n : Int)) := opt_lookN (fv := fun n : Nat => D.int (n : Int))
theorem n_in {K : Bool → Prop} : OPT (inV (.int (k : Int)) (dN ps)) K ↔ K (kget ps k).isSome := opt_inN (fv := fun n : Nat => D.int (n : Int))
theorem n_sto {K : Mem → Prop} : STO (.ref 0) (.int (k : Int)) (.int (v : Int)) (⟨false, dN ps⟩ :: μ) K ↔ ps.length < 16777216 ∧ K (⟨false, dN (kput ps k v)⟩ :: μ) := sto_N (fv := fun n : Nat => D.int (n : Int))
theorem nr_dN : nr (dN ps) = true := nr_dNv (fv := fun n : Nat => D.int (n : Int)) fun _ => rfl
theorem n_disp {a b : FE} {ρ : Rho} {Q : D → Mem → Prop} : WE (fDisp [(a, b)]) ρ μ Q ↔ WE a ρ μ fun x μ1 => WE b ρ μ1 fun y μ2 => OPT (keyD x) fun k => Q (.dK [k] [y]) μ2 := by
  unfold fDisp
  rw [w_bnd]
  unfold fPairs fPairs
  rw [w_bnd]
  refine we_congr fun x m => ?_
  rw [w_bnd]
  refine we_congr fun y m => ?_
  rw [w_bnd, w_ret, w_ret]
  unfold WE OPT
  simp only [List.length_cons, List.length_nil, dispD]
  cases hk : keyD x with
  | none => simp
  | some k => simp [dput, hasK, ex2]
theorem keyd_i {i : Int} {K : Key → Prop} : OPT (keyD (.int i)) K ↔ K (.inl i) := opt_some
end
theorem c_minN {o : Option Nat} {y j : Nat} {μ : Mem} {Q : D → Mem → Prop} : CL gMin2 [(o.map fun n : Nat => D.int (n : Int)).getD (.int (y : Int)), .int (j : Int)] μ Q ↔ Q (.int ((min (o.getD y) j : Nat) : Int)) μ := by
  have : (o.map fun n : Nat => D.int (n : Int)).getD (.int (y : Int)) = .int ((o.getD y : Nat) : Int) := by cases o <;> rfl
  rw [this, c_min2]
  have : (min ((o.getD y : Nat) : Int) (j : Int)) = ((min (o.getD y) j : Nat) : Int) := by omega
  rw [this]
theorem backN_dN {n : Nat} {μ : Mem} {lk : Bool} {ps : List (Nat × Nat)} (h : μ[n]? = some ⟨lk, dN ps⟩) : backN (.ref n) μ = some (dN ps) := backN_box h rfl nr_dN
theorem g_eqgetN {o : Option Nat} {y : Nat} {j : Int} {μ : Mem} {Q : D → Mem → Prop} : G2 gEq ((o.map fun n : Nat => D.int (n : Int)).getD (.int (y : Int))) (.int j) μ Q ↔ Q (.bl (decide (((o.getD y : Nat) : Int) = j))) μ := by
  have : (o.map fun n : Nat => D.int (n : Int)).getD (.int (y : Int)) = .int ((o.getD y : Nat) : Int) := by cases o <;> rfl
  rw [this, g_eqi]
theorem g_eqgetI {o : Option Nat} {y : Int} {j : Int} {μ : Mem} {Q : D → Mem → Prop} : G2 gEq ((o.map fun n : Nat => D.int (n : Int)).getD (.int y)) (.int j) μ Q ↔ Q (.bl (decide ((o.map fun n : Nat => (n : Int)).getD y = j))) μ := by
  rw [getD_int, g_eqi]
theorem g_negetI {o : Option Nat} {y : Int} {j : Int} {μ : Mem} {Q : D → Mem → Prop} : G2 gNe ((o.map fun n : Nat => D.int (n : Int)).getD (.int y)) (.int j) μ Q ↔ Q (.bl (decide ((o.map fun n : Nat => (n : Int)).getD y ≠ j))) μ := by
  rw [getD_int, g_nei]
theorem pure_ex {F : FF} {ds : List D} {α : Type} {P : α → Prop} {r : α → D} (hn : nrs ds = true) (h : CL F ds [] fun d m => ∃ x, P x ∧ backN d m = some (r x)) : ∃ x, P x ∧ ∀ (μ : Mem) (Q : D → Mem → Prop), CL (pureF F) ds μ Q ↔ Q (r x) μ := by
  obtain ⟨d, m, e, x, hp, hb⟩ := h
  exact ⟨x, hp, fun μ Q => pure_ok hn ⟨d, m, e, hb⟩⟩
/-! ## comprehensions -/
def LCL (gd : Mem → Bool) (g : FG) (t : FT) (e : FE) (ρ : Rho) (items : List D) (μ : Mem) (Q : List D → Mem → Prop) : Prop := ∃ ys μ', lcL gd g t e ρ items μ = some (ys, μ') ∧ Q ys μ'
theorem w_lc {fi : FI} {g : FG} {t : FT} {e : FE} {vs : List Nat} {ρ : Rho} {μ : Mem} {Q : D → Mem → Prop} : WE (fLc fi g t e vs) ρ μ Q ↔ WE fi ρ μ fun p μ1 => p.1.length ≤ 16777216 ∧ LCL p.2 g t e (wipeR ρ vs) p.1 μ1 fun ys μ2 => Q (.lst ys) μ2 := by
  unfold WE fLc LCL
  constructor
  · rintro ⟨d, μ', h, q⟩
    split at h
    · rename_i items gd μ1 e1
      split at h
      · rename_i hl
        split at h
        · rename_i ys μ2 e2; cases h; exact ⟨_, _, e1, hl, _, _, e2, q⟩
        · cases h
      · cases h
    · cases h
  · rintro ⟨⟨items, gd⟩, μ1, e1, hl, ys, μ2, e2, q⟩
    dsimp only at hl e2
    exact ⟨_, _, by simp only [e1, if_pos hl, e2], q⟩
theorem lc_ok {α : Type} {gd : Mem → Bool} {g : FG} {t : FT} {e : FE} {ρ : Rho} {enc : α → D} {Q : List D → Mem → Prop} (St : List α → List D → Mem → Prop) (xs : List α)
    (hgd : ∀ done ys μ, St done ys μ → gd μ = true)
    (hstep : ∀ done a rest ys μ, xs = done ++ a :: rest → St done ys μ → WG g (enc a) ρ μ fun ρ1 μ1 => WE t ρ1 μ1 fun c μ2 => IT c (WE e ρ1 μ2 fun y μ3 => St (done ++ [a]) (ys ++ [y]) μ3) (St (done ++ [a]) ys μ2))
    (hend : ∀ ys μ, St xs ys μ → Q ys μ) {μ : Mem} (h0 : St [] [] μ) : LCL gd g t e ρ (xs.map enc) μ Q := by
  have key : ∀ (rest done : List α) (acc : List D) (μ : Mem), xs = done ++ rest → St done acc μ → ∃ ys μ', lcL gd g t e ρ (rest.map enc) μ = some (ys, μ') ∧ St xs (acc ++ ys) μ' := by
    intro rest
    induction rest with
    | nil =>
      intro done acc μ e1 s
      rw [List.append_nil] at e1; subst e1
      exact ⟨[], μ, by simp only [List.map_nil, lcL, hgd _ _ _ s]; rfl, by rw [List.append_nil]; exact s⟩
    | cons a rest ih =>
      intro done acc μ e1 s
      obtain ⟨ρ1, μ1, h1, c, μ2, h2, h3⟩ := hstep done a rest acc μ e1 s
      have e' : xs = (done ++ [a]) ++ rest := by rw [e1]; simp
      rw [List.map_cons]
      unfold lcL
      cases c with
      | true =>
        obtain ⟨y, μ3, h4, h5⟩ := h3
        obtain ⟨ys, μ', h6, h7⟩ := ih _ _ _ e' h5
        refine ⟨y :: ys, μ', ?_, by rw [List.append_assoc] at h7; exact h7⟩
        simp only [hgd _ _ _ s, if_true, h1, h2, h4, h6]
      | false =>
        have h5 : St (done ++ [a]) acc μ2 := by simpa [IT] using h3
        obtain ⟨ys, μ', h6, h7⟩ := ih _ _ _ e' h5
        exact ⟨ys, μ', by simp only [hgd _ _ _ s, if_true, h1, h2, h6], h7⟩
  obtain ⟨ys, μ', h1, h2⟩ := key xs [] [] μ rfl h0
  exact ⟨ys, μ', h1, hend _ _ (by simpa using h2)⟩
/-- one that leaves memory alone -/
theorem lc_map {α : Type} {gd : Mem → Bool} {g : FG} {e : FE} {ρ : Rho} {enc f : α → D} {Q : List D → Mem → Prop} {xs : List α} {μ : Mem} (hgd : gd μ = true)
    (hstep : ∀ a ∈ xs, WG g (enc a) ρ μ fun ρ1 μ1 => WE e ρ1 μ1 fun y μ3 => y = f a ∧ μ3 = μ) (h : Q (xs.map f) μ) : LCL gd g ftYes e ρ (xs.map enc) μ Q := by
  refine lc_ok (fun done ys μ1 => ys = done.map f ∧ μ1 = μ) xs (fun _ _ _ h => by rw [h.2]; exact hgd) ?_ ?_ ⟨rfl, rfl⟩
  · rintro done a rest ys μ1 e1 ⟨rfl, rfl⟩
    obtain ⟨ρ1, μ2, h1, y, μ3, h2, rfl, rfl⟩ := hstep a (by rw [e1]; simp)
    refine ⟨ρ1, μ2, h1, true, μ2, rfl, ?_⟩
    refine ⟨_, _, h2, by simp, rfl⟩
  · rintro ys μ1 ⟨rfl, rfl⟩; exact h
theorem w_yes {ρ : Rho} {μ : Mem} {Q : Bool → Mem → Prop} : WE ftYes ρ μ Q ↔ Q true μ := w_ret
/-! ## sorted -/
def nsrt (ns : List Nat) : List Nat := ns.mergeSort (fun a b => decide (a ≤ b))
theorem nsrt_perm (ns : List Nat) : (nsrt ns).Perm ns := List.mergeSort_perm ns _
theorem nsrt_le (ns : List Nat) : (nsrt ns).Pairwise (· ≤ ·) := by
  have h := List.pairwise_mergeSort (le := fun a b : Nat => decide (a ≤ b)) (fun a b c => by simp; omega) (fun a b => by simp; omega) ns
  exact h.imp fun x => by simpa using x
theorem srt_nat (ns : List Nat) : srt (ns.map fun n : Nat => (n : Int)) = (nsrt ns).map fun n : Nat => (n : Int) := by
  refine (srt_eq ((nsrt_perm ns).map _) ?_).symm
  rw [List.pairwise_map]
  exact (nsrt_le ns).imp fun h => by omega
theorem nsrt_same {as bs : List Nat} (h : as.Perm bs) : nsrt as = nsrt bs := by
  have h1 : srt (as.map fun n : Nat => (n : Int)) = srt (bs.map fun n : Nat => (n : Int)) := by
    refine srt_eq (((srt_perm _).trans (h.map _))) (srt_le _)
  rw [srt_nat, srt_nat] at h1
  exact (List.map_inj_right (fun a b e => by omega)).mp h1
theorem keysI_nat : ∀ ns : List Nat, keysI (ns.map fun n : Nat => (Sum.inl (n : Int) : Key)) = some (ns.map fun n : Nat => (n : Int))
  | [] => rfl
  | n :: ns => by simp only [List.map_cons, keysI, keysI_nat ns]
theorem sorted_dN {ps : List (Nat × Nat)} (h : ps.length < 64) : dSorted (dN ps) = some (.lst ((nsrt (ps.map (·.1))).map fun n : Nat => D.int (n : Int))) := by
  have e : ps.map (fun p => (Sum.inl (p.1 : Int) : Key)) = (ps.map (·.1)).map fun n : Nat => (Sum.inl (n : Int) : Key) := by rw [List.map_map]; rfl
  unfold dN dSorted
  dsimp only
  rw [e, keysI_nat]
  dsimp only
  rw [if_pos (by simpa using h), srt_nat, List.map_map]
  rfl
theorem w_chain {g g' : D → D → Mem → Option (D × Mem)} {fa fb fc : FE} {ρ : Rho} {μ : Mem} {Q : D → Mem → Prop} :
    WE (fChain g g' fa fb fc) ρ μ Q ↔ WE fa ρ μ fun a μ1 => WE fb ρ μ1 fun b μ2 => G2 g a b μ2 fun k μ3 => ASB k μ3 fun c μ4 => IT c (WE fc ρ μ4 fun c μ5 => G2 g' b c μ5 Q) (Q (.bl false) μ4) := by
  unfold fChain
  rw [w_bnd]
  refine we_congr fun a m => ?_
  rw [w_bnd]
  refine we_congr fun b m2 => ?_
  rw [w_bnd]
  show WE (fun _ μ => g a b μ) ρ m2 _ ↔ _
  have : ∀ (k : D) (m3 : Mem), WE (match k with | .bl true => bnd fc fun c => fun _ μ => g' b c μ | .bl false => ret (.bl false) | _ => fail) ρ m3 Q ↔ ASB k m3 fun c μ4 => IT c (WE fc ρ μ4 fun c μ5 => G2 g' b c μ5 Q) (Q (.bl false) μ4) := fun k m3 => by
    cases k with
    | bl c =>
      rw [asb_bl]
      cases c with
      | true => rw [it_true]; exact w_bnd
      | false => rw [it_false]; exact w_ret
    | _ => exact ⟨fun h => (w_fail.mp h).elim, fun ⟨_, h, _⟩ => by cases h⟩
  exact ⟨fun ⟨k, m3, e, q⟩ => ⟨k, m3, e, (this k m3).mp q⟩, fun ⟨k, m3, e, q⟩ => ⟨k, m3, e, (this k m3).mpr q⟩⟩
theorem isi_ii {i : Int} {K : D → Prop} : OPT (dIsi "int" (.int i)) K ↔ K (.bl true) := opt_eq rfl
theorem isi_bi {i : Int} {K : D → Prop} : OPT (dIsi "bool" (.int i)) K ↔ K (.bl false) := opt_eq rfl
theorem isi_tt {ds : List D} {K : D → Prop} : OPT (dIsi "tuple" (.tup ds)) K ↔ K (.bl true) := opt_eq rfl
theorem s_forD_K {i : Nat} {g : FG} {body : FS} {fgt : List Nat} {ρ : Rho} {μ : Mem} {Q : Out → Prop} {ks : List Key} {ds : List D} (h : ρ[i]? = some (some (.dK ks ds))) :
    WS (sForD i g body fgt) ρ μ Q ↔ FOR (fun _ => true) g body fgt (ks.map keyV) (forget fgt ρ) μ Q := by
  unfold WS FOR sForD
  rw [h]
  exact Iff.rfl
theorem len_map_nat {α : Type} {xs : List α} : ((xs.length : Nat) : Int) = (xs.length : Int) := rfl
theorem inD_nat (k : Nat) : ∀ ks : List Nat, inD (.int (k : Int)) (ks.map fun x : Nat => D.int (x : Int)) = decide (k ∈ ks)
  | [] => rfl
  | x :: ks => by
    simp only [List.map_cons, inD, inD_nat k ks, eqD, List.mem_cons]
    by_cases h : k = x
    · subst h; simp
    · have h1 : ¬ x = k := fun e => h e.symm
      have h2 : ((x : Int) == (k : Int)) = false := by simp; omega
      simp [h, h2]
theorem flDs_nat : ∀ ks : List Nat, flDs (ks.map fun x : Nat => D.int (x : Int)) = true
  | [] => rfl
  | x :: ks => by simp only [List.map_cons, flDs, flDs_nat ks, flD, Bool.and_self]
theorem in_tupN {k : Nat} {ks : List Nat} {K : Bool → Prop} : OPT (inV (.int (k : Int)) (.tup (ks.map fun x : Nat => D.int (x : Int)))) K ↔ K (decide (k ∈ ks)) := by
  refine opt_eq ?_
  unfold inV
  simp only [dIn, flD, flDs_nat, Bool.and_self, if_true, inD_nat]
theorem it_t {c : Prop} [Decidable c] {P R : Prop} (h : c) : IT (decide c) P R ↔ P := by rw [decide_eq_true h, it_true]
theorem it_f {c : Prop} [Decidable c] {P R : Prop} (h : ¬ c) : IT (decide c) P R ↔ R := by rw [decide_eq_false h, it_false]
theorem n_look0 {ps : List (Nat × Nat)} {K : Option D → Prop} : OPT (lookD (dN ps) (.int 0)) K ↔ K ((kget ps 0).map fun n : Nat => D.int (n : Int)) := n_look (k := 0)
theorem it_b {b : Bool} {P R : Prop} (h : b = true) : IT b P R ↔ P := by rw [h, it_true]
theorem it_nb {b : Bool} {P R : Prop} (h : b = false) : IT b P R ↔ R := by rw [h, it_false]
theorem is_non_dK {ks : List Key} {ds : List D} {K : Bool → Prop} : OPT (isD (.dK ks ds) .non) K ↔ K false := opt_eq rfl
theorem is_non_non {K : Bool → Prop} : OPT (isD .non .non) K ↔ K true := opt_eq rfl
theorem bor_ex {F : FF} {ds : List D} {μ0 : Mem} {α : Type} {P : α → Prop} {r : α → D} (hn : nrs ds = true) (hs : ∀ μ, ds.map (see μ) = ds) (h : CL F ds [] fun d m => ∃ x, P x ∧ backI d m = some (r x)) : ∃ x, P x ∧ ∀ (μ : Mem) (Q : D → Mem → Prop), CL (borF F) ds μ Q ↔ Q (r x) μ := by
  obtain ⟨d, m, e, x, hp, hb⟩ := h
  exact ⟨x, hp, fun μ Q => bor_ok (hs μ) hn ⟨d, m, e, hb⟩⟩
/-! ## a memory whose end is not told -/
section
variable {ex : Mem} {c d : D} {a b : Cell} {x : D}
theorem push_ex2 {K : D → Mem → Prop} : PUSH c (a :: b :: ex) K ↔ K (.ref (ex.length + 2)) (a :: b :: (ex ++ [⟨false, c⟩])) := Iff.rfl
theorem push_ex1 {K : D → Mem → Prop} : PUSH c (a :: ex) K ↔ K (.ref (ex.length + 1)) (a :: (ex ++ [⟨false, c⟩])) := Iff.rfl
theorem cell_end {K : D → Prop} {e : Cell} : CELL x ex.length (ex ++ [e]) K ↔ K e.c := by
  unfold CELL
  rw [List.getElem?_append_right (Nat.le_refl _), Nat.sub_self]
  exact Iff.rfl
theorem setl_end {ds : List D} {K : Mem → Prop} : SETL ex.length d (ex ++ [⟨false, .lst ds⟩]) K ↔ ds.length < 16777216 ∧ K (ex ++ [⟨false, .lst (ds ++ [d])⟩]) := by
  unfold SETL gAppend OPT
  have e1 : (ex ++ [(⟨false, .lst ds⟩ : Cell)])[ex.length]? = some ⟨false, .lst ds⟩ := by
    rw [List.getElem?_append_right (Nat.le_refl _), Nat.sub_self]; rfl
  have e2 : ∀ y : Cell, (ex ++ [(⟨false, .lst ds⟩ : Cell)]).set ex.length y = ex ++ [y] := fun y => by
    rw [List.set_append_right _ _ (Nat.le_refl _), Nat.sub_self]; rfl
  dsimp only
  rw [e1]
  dsimp only
  by_cases h : ds.length < 16777216
  · simp [h]
  · simp [h]
end
theorem rangeL_one (n : Nat) : rangeL 1 n = ((List.range n).map (· + 1)).map fun k : Nat => .int (k : Int) := by
  unfold rangeL
  rw [List.map_map]
  refine List.map_congr_left fun k _ => ?_
  simp only [Function.comp]
  congr 1
  omega
theorem krep_none {κ α : Type} [DecidableEq κ] : ∀ {ps : List (κ × α)} {k : κ} {v : α}, k ∉ ps.map (·.1) → krep ps k v = ps
  | [], _, _, _ => rfl
  | p :: ps, k, v, h => by
    rw [List.map_cons, List.mem_cons, not_or] at h
    simp only [krep]
    rw [if_neg (fun e => h.1 e.symm), krep_none h.2]
theorem krep_rep {κ α : Type} [DecidableEq κ] : ∀ {ps : List (κ × α)} {k : κ} {a b : α}, krep (krep ps k a) k b = krep ps k b
  | [], _, _, _ => rfl
  | p :: ps, k, a, b => by
    simp only [krep, krep_rep (ps := ps)]
    by_cases h : p.1 = k <;> simp [h]
theorem krep_app {κ α : Type} [DecidableEq κ] : ∀ {ps qs : List (κ × α)} {k : κ} {b : α}, krep (ps ++ qs) k b = krep ps k b ++ krep qs k b
  | [], _, _, _ => rfl
  | p :: ps, qs, k, b => by rw [List.cons_append, krep, krep, krep_app]; rfl
theorem kput_put {κ α : Type} [DecidableEq κ] {ps : List (κ × α)} {k : κ} {a b : α} : kput (kput ps k a) k b = kput ps k b := by
  unfold kput
  by_cases h : k ∈ ps.map (·.1)
  · rw [if_pos h, if_pos (by rw [krep_keys]; exact h), if_pos h, krep_rep]
  · rw [if_neg h, if_pos (by simp), if_neg h, krep_app, krep_none h]
    simp [krep]
/-! ## a list of five at the memory's head -/
section
variable {x0 x1 x2 x3 x4 v : D} {μ : Mem} {K : Mem → Prop}
theorem sd_0 : STO (.ref 0) (.int 0) v (⟨false, .lst [x0, x1, x2, x3, x4]⟩ :: μ) K ↔ K (⟨false, .lst [v, x1, x2, x3, x4]⟩ :: μ) := sto_L.trans (opt_eq rfl)
theorem sd_1 : STO (.ref 0) (.int 1) v (⟨false, .lst [x0, x1, x2, x3, x4]⟩ :: μ) K ↔ K (⟨false, .lst [x0, v, x2, x3, x4]⟩ :: μ) := sto_L.trans (opt_eq rfl)
theorem sd_2 : STO (.ref 0) (.int 2) v (⟨false, .lst [x0, x1, x2, x3, x4]⟩ :: μ) K ↔ K (⟨false, .lst [x0, x1, v, x3, x4]⟩ :: μ) := sto_L.trans (opt_eq rfl)
theorem sd_3 : STO (.ref 0) (.int 3) v (⟨false, .lst [x0, x1, x2, x3, x4]⟩ :: μ) K ↔ K (⟨false, .lst [x0, x1, x2, v, x4]⟩ :: μ) := sto_L.trans (opt_eq rfl)
end
theorem ixv_0 {d : D} {ds : List D} {Q : D → Prop} : IXV (.lst (d :: ds)) (.int 0) Q ↔ Q d := by rw [ixv_lst, atI_0, opt_some]
theorem ixv_1 {d0 d : D} {ds : List D} {Q : D → Prop} : IXV (.lst (d0 :: d :: ds)) (.int 1) Q ↔ Q d := by rw [ixv_lst, atI_1, opt_some]
theorem ixv_2 {d0 d1 d : D} {ds : List D} {Q : D → Prop} : IXV (.lst (d0 :: d1 :: d :: ds)) (.int 2) Q ↔ Q d := by rw [ixv_lst, atI_2, opt_some]
theorem ixv_3 {d0 d1 d2 d : D} {ds : List D} {Q : D → Prop} : IXV (.lst (d0 :: d1 :: d2 :: d :: ds)) (.int 3) Q ↔ Q d := by rw [ixv_lst, atI_3, opt_some]
theorem ixv_4 {d0 d1 d2 d3 d : D} {ds : List D} {Q : D → Prop} : IXV (.lst (d0 :: d1 :: d2 :: d3 :: d :: ds)) (.int 4) Q ↔ Q d := by rw [ixv_lst, atI_4, opt_some]
theorem int_int {i : Int} {K : D → Prop} : OPT (dInt (.int i)) K ↔ K (.int i) := opt_some
theorem len_lst {ds : List D} {K : D → Prop} : OPT (dLen (.lst ds)) K ↔ K (.int ds.length) := opt_some
theorem len_tup {ds : List D} {K : D → Prop} : OPT (dLen (.tup ds)) K ↔ K (.int ds.length) := opt_some
mutual
theorem eqD_same : ∀ (d : D) (n : Nat), okD n d = true → eqD d d = true
  | .non, n, _ => rfl
  | .bl b, n, _ => by simp [eqD]
  | .int i, n, _ => by simp [eqD]
  | .str x, n, _ => by simp [eqD]
  | .tup ds, 0, h => by simp [okD] at h
  | .tup ds, n + 1, h => eqDs_same ds n (by simpa [okD] using h)
  | .lst ds, 0, h => by simp [okD] at h
  | .lst ds, n + 1, h => eqDs_same ds n (by simpa [okD] using h)
  | .adr _, n, h => by cases n <;> simp [okD] at h
  | .ref _, n, h => by cases n <;> simp [okD] at h
  | .dK _ _, n, h => by cases n <;> simp [okD] at h
  | .dT _ _, n, h => by cases n <;> simp [okD] at h
  | .obj _ _ _, n, h => by cases n <;> simp [okD] at h
  | .scr _, n, h => by cases n <;> simp [okD] at h
theorem eqDs_same : ∀ (ds : List D) (n : Nat), okDs n ds = true → eqDs ds ds = true
  | [], _, _ => rfl
  | d :: ds, n, h => by
    simp only [okDs, Bool.and_eq_true] at h
    simp only [eqDs, eqD_same d n h.1, eqDs_same ds n h.2, Bool.and_self]
end
theorem gEqO_same {d : D} (h : okD 60 d = true) : gEqO d d = some true := by
  unfold gEqO
  rw [h, eqD_same d 60 h]; rfl
theorem okDs_map {α : Type} {f : α → D} {n : Nat} (h : ∀ x, okD n (f x) = true) : ∀ xs : List α, okDs n (xs.map f) = true
  | [] => rfl
  | x :: xs => by simp only [List.map_cons, okDs, h x, okDs_map h xs, Bool.and_self]
theorem is_blbl {a b : Bool} {K : Bool → Prop} : OPT (isD (.bl a) (.bl b)) K ↔ K (decide (a = b)) := opt_eq rfl
theorem g_sub1 {n : Nat} (h : 1 ≤ n) {μ : Mem} {Q : D → Mem → Prop} : G2 gSub (.int (n : Nat)) (.int 1) μ Q ↔ Q (.int ((n - 1 : Nat) : Int)) μ := g_subN (b := 1) h
theorem split_at {α : Type} {xs : List α} {k : Nat} (h : k < xs.length) : xs = xs.take k ++ xs[k] :: xs.drop (k + 1) := by
  conv => lhs; rw [← List.take_append_drop k xs, List.drop_eq_getElem_cons h]
end Mi
namespace K68
open PySem PySem.Spec PyProof.Rows L2 Mi
def topS (i : Nat) : Stmt := PySem.Challenge.pw_wishweather_k68_fewest_rounds.main.body.getD i (.Pass ⟨0, 0, 0, 0⟩)
abbrev s__law_begin : Stmt := topS 17
abbrev n__law_begin : List Str := [("script" : Str)]
theorem sc__law_begin : FnScope n__law_begin [("script" : Str)] (defScope s__law_begin) := ⟨rfl, rfl, rfl, by decide +kernel, rfl, by decide +kernel, by decide +kernel⟩
/- slots: 0 script -/
def b__law_begin : FS :=
    sRet (fMut (fLst (fCons (ret (.int 0)) (fCons (ret (.int 0)) (fCons (ret (.int 0)) (fCons (ret (.int 0)) (fCons (fCall (g1 dList) (fCons (fSl gSlA (fVar 0) (ret none) (fPart (ret (.int 63)))) (fNil))) (fNil))))))))
def F__law_begin : FF := fDef 1 1 b__law_begin
abbrev s__law_draw : Stmt := topS 18
abbrev n__law_draw : List Str := [("d" : Str), ("many" : Str), ("cell" : Str), ("number" : Str), ("digit" : Str), ("mixed" : Str)]
theorem sc__law_draw : FnScope n__law_draw [("d" : Str), ("many" : Str)] (defScope s__law_draw) := ⟨rfl, rfl, rfl, by decide +kernel, rfl, by decide +kernel, by decide +kernel⟩
/- slots: 0 d, 1 many, 2 cell, 3 number, 4 digit, 5 mixed -/
def b__law_draw : FS :=
    sSeq (sIf (fB (fBin gLt (fVar 1) (ret (.int 2))))
    (sRet (ret (.int 0)))
    (sNext))
    (sSeq (sIf (fAnd (fB (fBin gEq (fBin gIx (fVar 0) (ret (.int 1))) (ret (.int 0)))) (fB (fBin gLt (fBin gIx (fVar 0) (ret (.int 2))) (fCall (g1 dLen) (fCons (fBin gIx (fVar 0) (ret (.int 4))) (fNil))))))
    (sSeq (sSet 2 (fBin gIx (fBin gIx (fVar 0) (ret (.int 4))) (fBin gIx (fVar 0) (ret (.int 2)))))
    (sSeq (sStore (fBin gPlus (fBin gIx (fVar 0) (ret (.int 2))) (ret (.int 1))) (fVar 0) (ret (.int 2)))
    (sSeq (sSet 3 (fIf (fB (fBin gGe (fVar 2) (ret (.int 0)))) (fVar 2) (fNeg (fVar 2))))
    (sIf (fB (fBin gGe (fVar 3) (fBin gPow (ret (.int 10)) (ret (.int 18)))))
    (sStore (fVar 3) (fVar 0) (ret (.int 1)))
    (sStore (fBin gMod (fCall (g1 dInt) (fCons (fBin gPlus (fBin gPlus (fBin gMul (fBin gIx (fVar 0) (ret (.int 0))) (ret (.int 69621))) (fBin gMul (fVar 3) (ret (.int 48271)))) (ret (.int 12345))) (fNil))) (ret (.int 2147483647))) (fVar 0) (ret (.int 0)))))))
    (sNext))
    (sSeq (sIf (fB (fBin gGt (fBin gIx (fVar 0) (ret (.int 1))) (ret (.int 0))))
    (sSeq (sSet 4 (fBin gMod (fCall (g1 dInt) (fCons (fBin gIx (fVar 0) (ret (.int 1))) (fNil))) (fVar 1)))
    (sSeq (sStore (fBin gDiv (fBin gIx (fVar 0) (ret (.int 1))) (fVar 1)) (fVar 0) (ret (.int 1)))
    (sRet (fVar 4))))
    (sNext))
    (sSeq (sStore (fBin gPlus (fBin gIx (fVar 0) (ret (.int 3))) (ret (.int 1))) (fVar 0) (ret (.int 3)))
    (sSeq (sStore (fBin gMod (fCall (g1 dInt) (fCons (fBin gPlus (fBin gPlus (fBin gMul (fBin gIx (fVar 0) (ret (.int 0))) (ret (.int 48271))) (fBin gMul (fBin gIx (fVar 0) (ret (.int 3))) (ret (.int 7919)))) (ret (.int 11))) (fNil))) (ret (.int 2147483647))) (fVar 0) (ret (.int 0)))
    (sSeq (sSet 5 (fBin gMod (fCall (g1 dInt) (fCons (fBin gPlus (fBin gMul (fBin gIx (fVar 0) (ret (.int 0))) (fBin gIx (fVar 0) (ret (.int 0)))) (fBin gIx (fVar 0) (ret (.int 3)))) (fNil))) (ret (.int 2147483629))))
    (sRet (fBin gMod (fCall (g1 dInt) (fCons (fBin gDiv (fVar 5) (ret (.int 7))) (fNil))) (fVar 1))))))))
def F__law_draw : FF := fDef 6 2 b__law_draw
abbrev s_most_rows : Stmt := topS 5
abbrev n_most_rows : List Str := [("row" : Str), ("turned" : Str), ("turning" : Str), ("total" : Str), ("host" : Str), ("numbers" : Str), ("inner" : Str), ("other" : Str), ("gate" : Str), ("other_gate" : Str)]
theorem sc_most_rows : FnScope n_most_rows [("row" : Str), ("turned" : Str), ("turning" : Str)] (defScope s_most_rows) := ⟨rfl, rfl, rfl, by decide +kernel, rfl, by decide +kernel, by decide +kernel⟩
/- slots: 0 row, 1 turned, 2 turning, 3 total, 4 host, 5 numbers, 6 inner, 7 other, 8 gate, 9 other_gate -/
def b_most_rows : FS :=
    sSeq (sSet 3 (ret (.int 0)))
    (sSeq (sFor (fiEnum (fCons (fVar 0) (fNil))) (fgTup 2 (fgCons (fgName 4) (fgCons (fgName 5) (fgNil))))
    (sSeq (sAsg (fVar 5) (fgTup 4 (fgCons (fgName 6) (fgCons (fgName 7) (fgCons (fgName 8) (fgCons (fgName 9) (fgNil)))))))
    (sIf (fTru (fBin gAnd (fBin gShr (fVar 1) (fVar 4)) (ret (.int 1))))
    (sSet 3 (fBin gPlus (fBin gPlus (fVar 3) (fVar 7)) (fVar 9)))
    (sIf (fTru (fBin gAnd (fBin gShr (fVar 2) (fVar 4)) (ret (.int 1))))
    (sSet 3 (fBin gPlus (fBin gPlus (fBin gPlus (fVar 3) (fVar 6)) (fVar 7)) (fCall gMax2 (fCons (fVar 8) (fCons (fVar 9) (fNil))))))
    (sSet 3 (fBin gPlus (fBin gPlus (fVar 3) (fVar 6)) (fVar 8)))))) [4, 5, 6, 7, 8, 9])
    (sRet (fVar 3)))
def F_most_rows : FF := fDef 10 3 b_most_rows
abbrev s_fits_round : Stmt := topS 6
abbrev n_fits_round : List Str := [("rooms" : Str), ("needs" : Str), ("turned" : Str), ("turning" : Str), ("room" : Str), ("row" : Str)]
theorem sc_fits_round : FnScope n_fits_round [("rooms" : Str), ("needs" : Str), ("turned" : Str), ("turning" : Str)] (defScope s_fits_round) := ⟨rfl, rfl, rfl, by decide +kernel, rfl, by decide +kernel, by decide +kernel⟩
/- slots: 0 rooms, 1 needs, 2 turned, 3 turning, 4 room, 5 row -/
def b_fits_round : FS :=
    sSeq (sFor (fiZip (fCons (fVar 0) (fCons (fVar 1) (fNil)))) (fgTup 2 (fgCons (fgName 4) (fgCons (fgName 5) (fgNil))))
    (sIf (fB (fBin gGt (fCall (pureF F_most_rows) (fCons (fVar 5) (fCons (fVar 2) (fCons (fVar 3) (fNil))))) (fVar 4)))
    (sRet (ret (.bl false)))
    (sNext)) [4, 5])
    (sRet (ret (.bl true)))
def F_fits_round : FF := fDef 6 4 b_fits_round
abbrev s__law_fits : Stmt := topS 19
abbrev n__law_fits : List Str := [("rooms" : Str), ("needs" : Str), ("turned" : Str), ("turning" : Str), ("switch" : Str), ("total" : Str), ("host" : Str), ("old" : Str), ("new" : Str), ("gate" : Str), ("other" : Str)]
theorem sc__law_fits : FnScope n__law_fits [("rooms" : Str), ("needs" : Str), ("turned" : Str), ("turning" : Str)] (defScope s__law_fits) := ⟨rfl, rfl, rfl, by decide +kernel, rfl, by decide +kernel, by decide +kernel⟩
/- slots: 0 rooms, 1 needs, 2 turned, 3 turning, 4 switch, 5 total, 6 host, 7 old, 8 new, 9 gate, 10 other -/
def b__law_fits : FS :=
    sSeq (sFor (fiRange1 (fCons (fCall (g1 dLen) (fCons (fVar 0) (fNil))) (fNil))) (fgName 4)
    (sSeq (sSet 5 (ret (.int 0)))
    (sSeq (sFor (fiRange1 (fCons (fCall (g1 dLen) (fCons (fBin gIx (fVar 1) (fVar 4)) (fNil))) (fNil))) (fgName 6)
    (sSeq (sAsg (fBin gIx (fBin gIx (fVar 1) (fVar 4)) (fVar 6)) (fgTup 4 (fgCons (fgName 7) (fgCons (fgName 8) (fgCons (fgName 9) (fgCons (fgName 10) (fgNil)))))))
    (sIf (fTru (fBin gAnd (fBin gShr (fVar 2) (fVar 6)) (ret (.int 1))))
    (sSet 5 (fBin gPlus (fBin gPlus (fVar 5) (fVar 8)) (fVar 10)))
    (sIf (fTru (fBin gAnd (fBin gShr (fVar 3) (fVar 6)) (ret (.int 1))))
    (sSet 5 (fBin gPlus (fBin gPlus (fBin gPlus (fVar 5) (fVar 7)) (fVar 8)) (fCall gMax2 (fCons (fVar 9) (fCons (fVar 10) (fNil))))))
    (sSet 5 (fBin gPlus (fBin gPlus (fVar 5) (fVar 7)) (fVar 9)))))) [6, 7, 8, 9, 10])
    (sIf (fB (fBin gGt (fVar 5) (fBin gIx (fVar 0) (fVar 4))))
    (sRet (ret (.bl false)))
    (sNext)))) [4, 5, 6, 7, 8, 9, 10])
    (sRet (ret (.bl true)))
def F__law_fits : FF := fDef 11 4 b__law_fits
abbrev s__law_rows : Stmt := topS 20
abbrev n__law_rows : List Str := [("rooms" : Str), ("needs" : Str), ("whole" : Str), ("levels" : Str), ("paths" : Str), ("level" : Str), ("turn" : Str), ("later" : Str), ("turned" : Str), ("turning" : Str), ("after" : Str), ("path" : Str)]
theorem sc__law_rows : FnScope n__law_rows [("rooms" : Str), ("needs" : Str), ("whole" : Str)] (defScope s__law_rows) := ⟨rfl, rfl, rfl, by decide +kernel, rfl, by decide +kernel, by decide +kernel⟩
/- slots: 0 rooms, 1 needs, 2 whole, 3 levels, 4 paths, 5 level, 6 turn, 7 later, 8 turned, 9 turning, 10 after, 11 path -/
def b__law_rows : FS :=
    sSeq (sSet 3 (fMut (fDisp [(ret (.int 0), ret (.int 0))])))
    (sSeq (sSet 4 (fMut (fDisp [(ret (.int 0), fLst (fCons (fTup (fNil)) (fNil)))])))
    (sSeq (sSet 5 (fLst (fCons (ret (.int 0)) (fNil))))
    (sSeq (sFor (fiRange1 (fCons (ret (.int 6)) (fNil))) (fgName 6)
    (sSeq (sSet 7 (fMut (fLst (fNil))))
    (sSeq (sFor (fiSeq (fVar 5)) (fgName 8)
    (sFor (fiRange2 (fCons (ret (.int 1)) (fCons (fBin gPlus (fVar 2) (ret (.int 1))) (fNil)))) (fgName 9)
    (sIf (fAnd (fB (fBin gEq (fBin gAnd (fVar 8) (fVar 9)) (ret (.int 0)))) (fTru (fCall (pureF F__law_fits) (fCons (fVar 0) (fCons (fVar 1) (fCons (fVar 8) (fCons (fVar 9) (fNil))))))))
    (sSeq (sSet 10 (fBin gOr (fVar 8) (fVar 9)))
    (sSeq (sIf (fB (fBin gNin (fVar 10) (fVar 3)))
    (sSeq (sStore (fBin gPlus (fVar 6) (ret (.int 1))) (fVar 3) (fVar 10))
    (sSeq (sStore (fLst (fNil)) (fVar 4) (fVar 10))
    (sExpr (fMeth isLst gAppend (fVar 7) (fCons (fVar 10) (fNil))))))
    (sNext))
    (sIf (fB (fBin gEq (fBin gIx (fVar 3) (fVar 10)) (fBin gPlus (fVar 6) (ret (.int 1)))))
    (sStore (fBin gPlus (fBin gIx (fVar 4) (fVar 10)) (fLc (fiSeq (fBin gIx (fVar 4) (fVar 8))) (fgName 11) (ftYes) (fBin gPlus (fVar 11) (fTup (fCons (fVar 9) (fNil)))) [11])) (fVar 4) (fVar 10))
    (sNext))))
    (sNext)) [9, 10]) [8, 9, 10])
    (sSet 5 (fVar 7)))) [6, 7, 8, 9, 10])
    (sRet (fTup (fCons (fVar 3) (fCons (fVar 4) (fNil))))))))
def F__law_rows : FF := fDef 12 3 b__law_rows
abbrev s_whole_mask : Stmt := topS 7
abbrev n_whole_mask : List Str := [("needs" : Str)]
theorem sc_whole_mask : FnScope n_whole_mask [("needs" : Str)] (defScope s_whole_mask) := ⟨rfl, rfl, rfl, by decide +kernel, rfl, by decide +kernel, by decide +kernel⟩
/- slots: 0 needs -/
def b_whole_mask : FS :=
    sRet (fIf (fTru (fVar 0)) (fBin gSub (fBin gShl (ret (.int 1)) (fCall (g1 dLen) (fCons (fBin gIx (fVar 0) (ret (.int 0))) (fNil)))) (ret (.int 1))) (ret (.int 0)))
def F_whole_mask : FF := fDef 1 1 b_whole_mask
abbrev s_parts_within : Stmt := topS 8
abbrev n_parts_within : List Str := [("mask" : Str), ("found" : Str), ("part" : Str)]
theorem sc_parts_within : FnScope n_parts_within [("mask" : Str)] (defScope s_parts_within) := ⟨rfl, rfl, rfl, by decide +kernel, rfl, by decide +kernel, by decide +kernel⟩
/- slots: 0 mask, 1 found, 2 part -/
def b_parts_within : FS :=
    sSeq (sSet 1 (fMut (fLst (fNil))))
    (sSeq (sSet 2 (fVar 0))
    (sSeq (sWhile 100000 (fTru (fVar 2))
    (sSeq (sExpr (fMeth isLst gAppend (fVar 1) (fCons (fVar 2) (fNil))))
    (sSet 2 (fBin gAnd (fBin gSub (fVar 2) (ret (.int 1))) (fVar 0)))) [])
    (sRet (fRev (fVar 1)))))
def F_parts_within : FF := fDef 3 1 b_parts_within
abbrev s_round_levels : Stmt := topS 9
abbrev n_round_levels : List Str := [("rooms" : Str), ("needs" : Str), ("whole" : Str), ("levels" : Str), ("turned" : Str), ("turning" : Str), ("after" : Str)]
theorem sc_round_levels : FnScope n_round_levels [("rooms" : Str), ("needs" : Str)] (defScope s_round_levels) := ⟨rfl, rfl, rfl, by decide +kernel, rfl, by decide +kernel, by decide +kernel⟩
/- slots: 0 rooms, 1 needs, 2 whole, 3 levels, 4 turned, 5 turning, 6 after -/
def b_round_levels : FS :=
    sSeq (sSet 2 (fCall (pureF F_whole_mask) (fCons (fVar 1) (fNil))))
    (sSeq (sSet 3 (fMut (fDisp [(ret (.int 0), ret (.int 0))])))
    (sSeq (sFor (fiRange1 (fCons (fBin gPlus (fVar 2) (ret (.int 1))) (fNil))) (fgName 4)
    (sIf (fB (fBin gIn (fVar 4) (fVar 3)))
    (sFor (fiSeq (fCall (pureF F_parts_within) (fCons (fBin gSub (fVar 2) (fVar 4)) (fNil)))) (fgName 5)
    (sIf (fTru (fCall (pureF F_fits_round) (fCons (fVar 0) (fCons (fVar 1) (fCons (fVar 4) (fCons (fVar 5) (fNil)))))))
    (sSeq (sSet 6 (fBin gOr (fVar 4) (fVar 5)))
    (sStore (fCall gMin2 (fCons (fGet2 (fVar 3) (fVar 6) (fBin gPlus (fVar 2) (ret (.int 1)))) (fCons (fBin gPlus (fBin gIx (fVar 3) (fVar 4)) (ret (.int 1))) (fNil)))) (fVar 3) (fVar 6)))
    (sNext)) [5, 6])
    (sNext)) [4, 5, 6])
    (sRet (fVar 3))))
def F_round_levels : FF := fDef 7 2 b_round_levels
abbrev s_rounds_left : Stmt := topS 10
abbrev n_rounds_left : List Str := [("rooms" : Str), ("needs" : Str), ("whole" : Str), ("left" : Str), ("turned" : Str), ("turning" : Str), ("after" : Str)]
theorem sc_rounds_left : FnScope n_rounds_left [("rooms" : Str), ("needs" : Str)] (defScope s_rounds_left) := ⟨rfl, rfl, rfl, by decide +kernel, rfl, by decide +kernel, by decide +kernel⟩
/- slots: 0 rooms, 1 needs, 2 whole, 3 left, 4 turned, 5 turning, 6 after -/
def b_rounds_left : FS :=
    sSeq (sSet 2 (fCall (pureF F_whole_mask) (fCons (fVar 1) (fNil))))
    (sSeq (sSet 3 (fMut (fDisp [(fVar 2, ret (.int 0))])))
    (sSeq (sFor (fiRange3 (fCons (fBin gSub (fVar 2) (ret (.int 1))) (fCons (fNeg (ret (.int 1))) (fCons (fNeg (ret (.int 1))) (fNil))))) (fgName 4)
    (sFor (fiSeq (fCall (pureF F_parts_within) (fCons (fBin gSub (fVar 2) (fVar 4)) (fNil)))) (fgName 5)
    (sSeq (sSet 6 (fBin gOr (fVar 4) (fVar 5)))
    (sIf (fAnd (fB (fBin gIn (fVar 6) (fVar 3))) (fTru (fCall (pureF F_fits_round) (fCons (fVar 0) (fCons (fVar 1) (fCons (fVar 4) (fCons (fVar 5) (fNil))))))))
    (sStore (fCall gMin2 (fCons (fGet2 (fVar 3) (fVar 4) (fBin gPlus (fVar 2) (ret (.int 1)))) (fCons (fBin gPlus (fBin gIx (fVar 3) (fVar 6)) (ret (.int 1))) (fNil)))) (fVar 3) (fVar 4))
    (sNext))) [5, 6]) [4, 5, 6])
    (sRet (fVar 3))))
def F_rounds_left : FF := fDef 7 2 b_rounds_left
abbrev s_fewest_rounds : Stmt := topS 11
abbrev n_fewest_rounds : List Str := [("rooms" : Str), ("needs" : Str), ("levels" : Str), ("left" : Str), ("whole" : Str), ("rounds" : Str), ("turned" : Str), ("turning" : Str), ("good" : Str), ("mask" : Str)]
theorem sc_fewest_rounds : FnScope n_fewest_rounds [("rooms" : Str), ("needs" : Str)] (defScope s_fewest_rounds) := ⟨rfl, rfl, rfl, by decide +kernel, rfl, by decide +kernel, by decide +kernel⟩
/- slots: 0 rooms, 1 needs, 2 levels, 3 left, 4 whole, 5 rounds, 6 turned, 7 turning, 8 good, 9 mask -/
def b_fewest_rounds : FS :=
    sSeq (sSet 2 (fCall (pureF F_round_levels) (fCons (fVar 0) (fCons (fVar 1) (fNil)))))
    (sSeq (sSet 3 (fCall (pureF F_rounds_left) (fCons (fVar 0) (fCons (fVar 1) (fNil)))))
    (sSeq (sSet 4 (fCall (pureF F_whole_mask) (fCons (fVar 1) (fNil))))
    (sSeq (sIf (fB (fBin gNin (fVar 4) (fVar 2)))
    (sRet (fTup (fCons (ret (.str (PySem.Str.ofString "stuck"))) (fCons (fCall (dTuple) (fCons (fCall (g1 dSorted) (fCons (fVar 2) (fNil))) (fNil))) (fCons (fTup (fNil)) (fNil))))))
    (sNext))
    (sSeq (sSet 5 (fMut (fLst (fNil))))
    (sSeq (sSet 6 (ret (.int 0)))
    (sSeq (sWhile 100000 (fB (fBin gNe (fVar 6) (fVar 4)))
    (sFor (fiSeq (fCall (pureF F_parts_within) (fCons (fBin gSub (fVar 4) (fVar 6)) (fNil)))) (fgName 7)
    (sSeq (sSet 8 (fBin gEq (fGet2 (fVar 3) (fBin gOr (fVar 6) (fVar 7)) (fBin gPlus (fVar 4) (ret (.int 1)))) (fBin gSub (fBin gIx (fVar 3) (fVar 6)) (ret (.int 1)))))
    (sIf (fAnd (fTru (fVar 8)) (fTru (fCall (pureF F_fits_round) (fCons (fVar 0) (fCons (fVar 1) (fCons (fVar 6) (fCons (fVar 7) (fNil))))))))
    (sSeq (sExpr (fMeth isLst gAppend (fVar 5) (fCons (fVar 7) (fNil))))
    (sSeq (sSet 6 (fBin gOr (fVar 6) (fVar 7)))
    (sBreak)))
    (sNext))) [7, 8]) [7, 8])
    (sRet (fTup (fCons (ret (.str (PySem.Str.ofString "rounds"))) (fCons (fCall (dTuple) (fCons (fVar 5) (fNil))) (fCons (fCall (dTuple) (fCons (fLc (fiSeq (fCall (g1 dSorted) (fCons (fVar 2) (fNil)))) (fgName 9) (ftYes) (fTup (fCons (fVar 9) (fCons (fBin gIx (fVar 2) (fVar 9)) (fNil)))) [9]) (fNil))) (fNil))))))))))))
def F_fewest_rounds : FF := fDef 10 2 b_fewest_rounds
abbrev s_is_row : Stmt := topS 2
abbrev n_is_row : List Str := [("value" : Str), ("length" : Str)]
theorem sc_is_row : FnScope n_is_row [("value" : Str), ("length" : Str)] (defScope s_is_row) := ⟨rfl, rfl, rfl, by decide +kernel, rfl, by decide +kernel, by decide +kernel⟩
/- slots: 0 value, 1 length -/
def b_is_row : FS :=
    sRet (fAndV (fIsi "tuple" (fVar 0)) (fBin gEq (fCall (g1 dLen) (fCons (fVar 0) (fNil))) (fVar 1)))
def F_is_row : FF := fDef 2 2 b_is_row
abbrev s_is_whole : Stmt := topS 1
abbrev n_is_whole : List Str := [("value" : Str), ("low" : Str), ("high" : Str)]
theorem sc_is_whole : FnScope n_is_whole [("value" : Str), ("low" : Str), ("high" : Str)] (defScope s_is_whole) := ⟨rfl, rfl, rfl, by decide +kernel, rfl, by decide +kernel, by decide +kernel⟩
/- slots: 0 value, 1 low, 2 high -/
def b_is_whole : FS :=
    sRet (fAndV (fIsi "int" (fVar 0)) (fAndV (fNotV (fIsi "bool" (fVar 0))) (fChain gLe gLe (fVar 1) (fVar 0) (fVar 2))))
def F_is_whole : FF := fDef 3 3 b_is_whole
abbrev s_pairs_dict : Stmt := topS 14
abbrev n_pairs_dict : List Str := [("needs" : Str), ("pairs" : Str), ("found" : Str), ("last" : Str), ("pair" : Str)]
theorem sc_pairs_dict : FnScope n_pairs_dict [("needs" : Str), ("pairs" : Str)] (defScope s_pairs_dict) := ⟨rfl, rfl, rfl, by decide +kernel, rfl, by decide +kernel, by decide +kernel⟩
/- slots: 0 needs, 1 pairs, 2 found, 3 last, 4 pair -/
def b_pairs_dict : FS :=
    sSeq (sIf (fNot (fTru (fIsi "tuple" (fVar 1))))
    (sRet (ret .non))
    (sNext))
    (sSeq (sSet 2 (fMut (ret (.dK [] []))))
    (sSeq (sSet 3 (fNeg (ret (.int 1))))
    (sSeq (sFor (fiSeq (fVar 1)) (fgName 4)
    (sSeq (sIf (fOr (fNot (fTru (fCall (pureF F_is_row) (fCons (fVar 4) (fCons (ret (.int 2)) (fNil)))))) (fOr (fNot (fTru (fCall (pureF F_is_whole) (fCons (fBin gIx (fVar 4) (ret (.int 0))) (fCons (fBin gPlus (fVar 3) (ret (.int 1))) (fCons (fCall (pureF F_whole_mask) (fCons (fVar 0) (fNil))) (fNil))))))) (fNot (fTru (fCall (pureF F_is_whole) (fCons (fBin gIx (fVar 4) (ret (.int 1))) (fCons (ret (.int 0)) (fCons (ret (.int 99)) (fNil)))))))))
    (sRet (ret .non))
    (sNext))
    (sSeq (sStore (fBin gIx (fVar 4) (ret (.int 1))) (fVar 2) (fBin gIx (fVar 4) (ret (.int 0))))
    (sSet 3 (fBin gIx (fVar 4) (ret (.int 0)))))) [4])
    (sRet (fVar 2)))))
def F_pairs_dict : FF := fDef 5 2 b_pairs_dict
abbrev s_all_whole : Stmt := topS 3
abbrev n_all_whole : List Str := [("values" : Str), ("low" : Str), ("high" : Str), ("value" : Str)]
theorem sc_all_whole : FnScope n_all_whole [("values" : Str), ("low" : Str), ("high" : Str)] (defScope s_all_whole) := ⟨rfl, rfl, rfl, by decide +kernel, rfl, by decide +kernel, by decide +kernel⟩
/- slots: 0 values, 1 low, 2 high, 3 value -/
def b_all_whole : FS :=
    sSeq (sIf (fNot (fTru (fIsi "tuple" (fVar 0))))
    (sRet (ret (.bl false)))
    (sNext))
    (sSeq (sFor (fiSeq (fVar 0)) (fgName 3)
    (sIf (fNot (fTru (fCall (pureF F_is_whole) (fCons (fVar 3) (fCons (fVar 1) (fCons (fVar 2) (fNil)))))))
    (sRet (ret (.bl false)))
    (sNext)) [3])
    (sRet (ret (.bl true))))
def F_all_whole : FF := fDef 4 3 b_all_whole
abbrev s_rounds_hold : Stmt := topS 12
abbrev n_rounds_hold : List Str := [("rooms" : Str), ("needs" : Str), ("rounds" : Str), ("whole" : Str), ("turned" : Str), ("turning" : Str)]
theorem sc_rounds_hold : FnScope n_rounds_hold [("rooms" : Str), ("needs" : Str), ("rounds" : Str)] (defScope s_rounds_hold) := ⟨rfl, rfl, rfl, by decide +kernel, rfl, by decide +kernel, by decide +kernel⟩
/- slots: 0 rooms, 1 needs, 2 rounds, 3 whole, 4 turned, 5 turning -/
def b_rounds_hold : FS :=
    sSeq (sSet 3 (fCall (pureF F_whole_mask) (fCons (fVar 1) (fNil))))
    (sSeq (sIf (fNot (fTru (fCall (pureF F_all_whole) (fCons (fVar 2) (fCons (ret (.int 1)) (fCons (fVar 3) (fNil)))))))
    (sRet (ret (.bl false)))
    (sNext))
    (sSeq (sSet 4 (ret (.int 0)))
    (sSeq (sFor (fiSeq (fVar 2)) (fgName 5)
    (sSeq (sIf (fOr (fTru (fBin gAnd (fVar 4) (fVar 5))) (fNot (fTru (fCall (pureF F_fits_round) (fCons (fVar 0) (fCons (fVar 1) (fCons (fVar 4) (fCons (fVar 5) (fNil)))))))))
    (sRet (ret (.bl false)))
    (sNext))
    (sSet 4 (fBin gOr (fVar 4) (fVar 5)))) [5])
    (sRet (fBin gEq (fVar 4) (fVar 3))))))
def F_rounds_hold : FF := fDef 6 3 b_rounds_hold
abbrev s_levels_hold : Stmt := topS 13
abbrev n_levels_hold : List Str := [("rooms" : Str), ("needs" : Str), ("levels" : Str), ("whole" : Str), ("turned" : Str), ("turning" : Str)]
theorem sc_levels_hold : FnScope n_levels_hold [("rooms" : Str), ("needs" : Str), ("levels" : Str)] (defScope s_levels_hold) := ⟨rfl, rfl, rfl, by decide +kernel, rfl, by decide +kernel, by decide +kernel⟩
/- slots: 0 rooms, 1 needs, 2 levels, 3 whole, 4 turned, 5 turning -/
def b_levels_hold : FS :=
    sSeq (sSet 3 (fCall (pureF F_whole_mask) (fCons (fVar 1) (fNil))))
    (sSeq (sIf (fB (fBin gNe (fGet2 (fVar 2) (ret (.int 0)) (fNeg (ret (.int 1)))) (ret (.int 0))))
    (sRet (ret (.bl false)))
    (sNext))
    (sSeq (sForD 2 (fgName 4) (sFor (fiSeq (fCall (pureF F_parts_within) (fCons (fBin gSub (fVar 3) (fVar 4)) (fNil)))) (fgName 5)
    (sIf (fTru (fCall (pureF F_fits_round) (fCons (fVar 0) (fCons (fVar 1) (fCons (fVar 4) (fCons (fVar 5) (fNil)))))))
    (sIf (fOr (fB (fBin gNin (fBin gOr (fVar 4) (fVar 5)) (fVar 2))) (fB (fBin gGt (fBin gIx (fVar 2) (fBin gOr (fVar 4) (fVar 5))) (fBin gPlus (fBin gIx (fVar 2) (fVar 4)) (ret (.int 1))))))
    (sRet (ret (.bl false)))
    (sNext))
    (sNext)) [5]) [4, 5])
    (sRet (ret (.bl true)))))
def F_levels_hold : FF := fDef 6 3 b_levels_hold
abbrev s_judge_rounds : Stmt := topS 15
abbrev n_judge_rounds : List Str := [("rooms" : Str), ("needs" : Str), ("result" : Str), ("word" : Str), ("first" : Str), ("second" : Str), ("whole" : Str), ("levels" : Str), ("mask" : Str)]
theorem sc_judge_rounds : FnScope n_judge_rounds [("rooms" : Str), ("needs" : Str), ("result" : Str)] (defScope s_judge_rounds) := ⟨rfl, rfl, rfl, by decide +kernel, rfl, by decide +kernel, by decide +kernel⟩
/- slots: 0 rooms, 1 needs, 2 result, 3 word, 4 first, 5 second, 6 whole, 7 levels, 8 mask -/
def b_judge_rounds : FS :=
    sSeq (sIf (fNot (fTru (fCall (pureF F_is_row) (fCons (fVar 2) (fCons (ret (.int 3)) (fNil))))))
    (sRet (ret (.bl false)))
    (sNext))
    (sSeq (sAsg (fVar 2) (fgTup 3 (fgCons (fgName 3) (fgCons (fgName 4) (fgCons (fgName 5) (fgNil))))))
    (sSeq (sSet 6 (fCall (pureF F_whole_mask) (fCons (fVar 1) (fNil))))
    (sSeq (sIf (fB (fBin gEq (fVar 3) (ret (.str (PySem.Str.ofString "rounds")))))
    (sSeq (sSet 7 (fCall (pureF F_pairs_dict) (fCons (fVar 1) (fCons (fVar 5) (fNil)))))
    (sSeq (sIf (fOr (fB (fBin gIs (fVar 7) (ret .non))) (fNot (fTru (fCall (pureF F_rounds_hold) (fCons (fVar 0) (fCons (fVar 1) (fCons (fVar 4) (fNil))))))))
    (sRet (ret (.bl false)))
    (sNext))
    (sRet (fAndV (fCall (borF F_levels_hold) (fCons (fVar 0) (fCons (fVar 1) (fCons (fVar 7) (fNil))))) (fBin gEq (fGet2 (fVar 7) (fVar 6) (fNeg (ret (.int 1)))) (fCall (g1 dLen) (fCons (fVar 4) (fNil))))))))
    (sNext))
    (sSeq (sIf (fOr (fB (fBin gNe (fVar 3) (ret (.str (PySem.Str.ofString "stuck"))))) (fOr (fB (fBin gNe (fVar 5) (fTup (fNil)))) (fOr (fNot (fTru (fCall (pureF F_all_whole) (fCons (fVar 4) (fCons (ret (.int 0)) (fCons (fVar 6) (fNil))))))) (fB (fBin gIn (fVar 6) (fVar 4))))))
    (sRet (ret (.bl false)))
    (sNext))
    (sSeq (sSet 7 (fCall (pureF F_pairs_dict) (fCons (fVar 1) (fCons (fCall (dTuple) (fCons (fLc (fiSeq (fVar 4)) (fgName 8) (ftYes) (fTup (fCons (fVar 8) (fCons (ret (.int 0)) (fNil)))) [8]) (fNil))) (fNil)))))
    (sRet (fAndV (fBin gIsNot (fVar 7) (ret .non)) (fCall (borF F_levels_hold) (fCons (fVar 0) (fCons (fVar 1) (fCons (fVar 7) (fNil))))))))))))
def F_judge_rounds : FF := fDef 9 3 b_judge_rounds
abbrev s_law : Stmt := topS 21
abbrev n_law : List Str := [("script" : Str), ("d" : Str), ("hosts" : Str), ("whole" : Str), ("needs" : Str), ("rooms" : Str), ("switch" : Str), ("row" : Str), ("least" : Str), ("step" : Str), ("turned" : Str), ("turning" : Str), ("levels" : Str), ("paths" : Str), ("told" : Str), ("more" : Str), ("less" : Str), ("word" : Str), ("rounds" : Str), ("pairs" : Str), ("k" : Str), ("lifted" : Str), ("host" : Str), ("part" : Str), ("one" : Str), ("mask" : Str)]
theorem sc_law : FnScope n_law [("script" : Str)] (defScope s_law) := ⟨rfl, rfl, rfl, by decide +kernel, rfl, by decide +kernel, by decide +kernel⟩
/- slots: 0 script, 1 d, 2 hosts, 3 whole, 4 needs, 5 rooms, 6 switch, 7 row, 8 least, 9 step, 10 turned, 11 turning, 12 levels, 13 paths, 14 told, 15 more, 16 less, 17 word, 18 rounds, 19 pairs, 20 k, 21 lifted, 22 host, 23 part, 24 one, 25 mask -/
def b_law : FS :=
    sSeq (sSet 1 (fCall F__law_begin (fCons (fVar 0) (fNil))))
    (sSeq (sSet 2 (fCall F__law_draw (fCons (fVar 1) (fCons (ret (.int 5)) (fNil)))))
    (sSeq (sSet 3 (fBin gSub (fBin gShl (ret (.int 1)) (fVar 2)) (ret (.int 1))))
    (sSeq (sSet 4 (fMut (fLst (fNil))))
    (sSeq (sSet 5 (fMut (fLst (fNil))))
    (sSeq (sFor (fiRange1 (fCons (fBin gPlus (ret (.int 1)) (fCall F__law_draw (fCons (fVar 1) (fCons (ret (.int 3)) (fNil))))) (fNil))) (fgName 6)
    (sSeq (sSet 7 (fCall (dTuple) (fCons (fLc (fiRange1 (fCons (fVar 2) (fNil))) (fgName 22) (ftYes) (fCall (dTuple) (fCons (fLc (fiRange1 (fCons (ret (.int 4)) (fNil))) (fgName 23) (ftYes) (fCall F__law_draw (fCons (fVar 1) (fCons (ret (.int 4)) (fNil)))) [23]) (fNil))) [22]) (fNil))))
    (sSeq (sExpr (fMeth isLst gAppend (fVar 4) (fCons (fVar 7) (fNil))))
    (sSeq (sSet 8 (fCall gMax2 (fCons (fCall (g1 dSum) (fCons (fBin gPlus (fLc (fiSeq (fVar 7)) (fgName 24) (ftYes) (fBin gPlus (fBin gIx (fVar 24) (ret (.int 0))) (fBin gIx (fVar 24) (ret (.int 2)))) [24]) (fLst (fCons (ret (.int 0)) (fNil)))) (fNil))) (fCons (fCall (g1 dSum) (fCons (fBin gPlus (fLc (fiSeq (fVar 7)) (fgName 24) (ftYes) (fBin gPlus (fBin gIx (fVar 24) (ret (.int 1))) (fBin gIx (fVar 24) (ret (.int 3)))) [24]) (fLst (fCons (ret (.int 0)) (fNil)))) (fNil))) (fNil)))))
    (sExpr (fMeth isLst gAppend (fVar 5) (fCons (fCall gMax2 (fCons (ret (.int 0)) (fCons (fBin gSub (fBin gPlus (fVar 8) (fCall F__law_draw (fCons (fVar 1) (fCons (ret (.int 7)) (fNil))))) (ret (.int 1))) (fNil)))) (fNil))))))) [6, 7, 8])
    (sSeq (sSet 4 (fCall (dTuple) (fCons (fVar 4) (fNil))))
    (sSeq (sSet 5 (fCall (dTuple) (fCons (fVar 5) (fNil))))
    (sSeq (sFor (fiRange1 (fCons (ret (.int 4)) (fNil))) (fgName 9)
    (sSeq (sSet 10 (fCall F__law_draw (fCons (fVar 1) (fCons (fBin gPlus (fVar 3) (ret (.int 1))) (fNil)))))
    (sSeq (sSet 11 (fBin gAnd (fCall F__law_draw (fCons (fVar 1) (fCons (fBin gPlus (fVar 3) (ret (.int 1))) (fNil)))) (fBin gSub (fVar 3) (fVar 10))))
    (sIf (fB (fBin gNe (fCall (pureF F_fits_round) (fCons (fVar 5) (fCons (fVar 4) (fCons (fVar 10) (fCons (fVar 11) (fNil)))))) (fCall (pureF F__law_fits) (fCons (fVar 5) (fCons (fVar 4) (fCons (fVar 10) (fCons (fVar 11) (fNil))))))))
    (sRet (ret (.bl false)))
    (sNext)))) [9, 10, 11])
    (sSeq (sAsg (fCall (pureF F__law_rows) (fCons (fVar 5) (fCons (fVar 4) (fCons (fVar 3) (fNil))))) (fgTup 2 (fgCons (fgName 12) (fgCons (fgName 13) (fgNil)))))
    (sSeq (sSet 14 (fCall (pureF F_fewest_rounds) (fCons (fVar 5) (fCons (fVar 4) (fNil)))))
    (sSeq (sIf (fB (fBin gIsNot (fCall (pureF F_judge_rounds) (fCons (fVar 5) (fCons (fVar 4) (fCons (fVar 14) (fNil))))) (ret (.bl true))))
    (sRet (ret (.bl false)))
    (sNext))
    (sSeq (sIf (fB (fBin gNin (fVar 3) (fVar 12)))
    (sSeq (sIf (fB (fBin gNe (fVar 14) (fTup (fCons (ret (.str (PySem.Str.ofString "stuck"))) (fCons (fCall (dTuple) (fCons (fCall (g1 dSorted) (fCons (fVar 12) (fNil))) (fNil))) (fCons (fTup (fNil)) (fNil)))))))
    (sRet (ret (.bl false)))
    (sNext))
    (sSeq (sSet 15 (fTup (fCons (ret (.str (PySem.Str.ofString "stuck"))) (fCons (fBin gPlus (fCall (dTuple) (fCons (fCall (g1 dSorted) (fCons (fVar 12) (fNil))) (fNil))) (fTup (fCons (fVar 3) (fNil)))) (fCons (fTup (fNil)) (fNil))))))
    (sSeq (sSet 16 (fTup (fCons (ret (.str (PySem.Str.ofString "stuck"))) (fCons (fSl gSlA (fCall (dTuple) (fCons (fCall (g1 dSorted) (fCons (fVar 12) (fNil))) (fNil))) (fPart (ret (.int 1))) (ret none)) (fCons (fTup (fNil)) (fNil))))))
    (sRet (fAndV (fBin gIs (fCall (pureF F_judge_rounds) (fCons (fVar 5) (fCons (fVar 4) (fCons (fVar 15) (fNil))))) (ret (.bl false))) (fBin gIs (fCall (pureF F_judge_rounds) (fCons (fVar 5) (fCons (fVar 4) (fCons (fVar 16) (fNil))))) (ret (.bl false))))))))
    (sNext))
    (sSeq (sIf (fB (fBin gNe (fVar 14) (fTup (fCons (ret (.str (PySem.Str.ofString "rounds"))) (fCons (fCall (g1 dMinT) (fCons (fBin gIx (fVar 13) (fVar 3)) (fNil))) (fCons (fCall (dTuple) (fCons (fLc (fiSeq (fCall (g1 dSorted) (fCons (fVar 12) (fNil)))) (fgName 25) (ftYes) (fTup (fCons (fVar 25) (fCons (fBin gIx (fVar 12) (fVar 25)) (fNil)))) [25]) (fNil))) (fNil)))))))
    (sRet (ret (.bl false)))
    (sNext))
    (sSeq (sAsg (fVar 14) (fgTup 3 (fgCons (fgName 17) (fgCons (fgName 18) (fgCons (fgName 19) (fgNil))))))
    (sSeq (sIf (fAnd (fB (fBin gIsNot (fCall (pureF F_judge_rounds) (fCons (fVar 5) (fCons (fVar 4) (fCons (fTup (fCons (fVar 17) (fCons (fBin gPlus (fVar 18) (fTup (fCons (fVar 3) (fNil)))) (fCons (fVar 19) (fNil))))) (fNil))))) (ret (.bl false)))) (fB (fBin gGt (fVar 3) (ret (.int 0)))))
    (sRet (ret (.bl false)))
    (sNext))
    (sSeq (sSet 20 (fCall F__law_draw (fCons (fVar 1) (fCons (fCall (g1 dLen) (fCons (fVar 19) (fNil))) (fNil)))))
    (sSeq (sSet 16 (fBin gPlus (fSl gSlA (fVar 19) (ret none) (fPart (fVar 20))) (fSl gSlA (fVar 19) (fPart (fBin gPlus (fVar 20) (ret (.int 1)))) (ret none))))
    (sSeq (sIf (fB (fBin gIsNot (fCall (pureF F_judge_rounds) (fCons (fVar 5) (fCons (fVar 4) (fCons (fTup (fCons (fVar 17) (fCons (fVar 18) (fCons (fVar 16) (fNil))))) (fNil))))) (ret (.bl false))))
    (sRet (ret (.bl false)))
    (sNext))
    (sSeq (sSet 21 (fBin gPlus (fSl gSlA (fVar 19) (ret none) (fPart (fBin gSub (fCall (g1 dLen) (fCons (fVar 19) (fNil))) (ret (.int 1))))) (fTup (fCons (fTup (fCons (fBin gIx (fBin gIx (fVar 19) (fBin gSub (fCall (g1 dLen) (fCons (fVar 19) (fNil))) (ret (.int 1)))) (ret (.int 0))) (fCons (fBin gPlus (fBin gIx (fBin gIx (fVar 19) (fBin gSub (fCall (g1 dLen) (fCons (fVar 19) (fNil))) (ret (.int 1)))) (ret (.int 1))) (ret (.int 1))) (fNil)))) (fNil)))))
    (sSeq (sIf (fB (fBin gIsNot (fCall (pureF F_judge_rounds) (fCons (fVar 5) (fCons (fVar 4) (fCons (fTup (fCons (fVar 17) (fCons (fVar 18) (fCons (fVar 21) (fNil))))) (fNil))))) (ret (.bl false))))
    (sRet (ret (.bl false)))
    (sNext))
    (sRet (fBin gIs (fCall (pureF F_judge_rounds) (fCons (fVar 5) (fCons (fVar 4) (fCons (fTup (fCons (ret (.str (PySem.Str.ofString "stuck"))) (fCons (fCall (dTuple) (fCons (fCall (g1 dSorted) (fCons (fVar 12) (fNil))) (fNil))) (fCons (fTup (fNil)) (fNil))))) (fNil))))) (ret (.bl false))))))))))))))))))))))))
def F_law : FF := fDef 26 1 b_law
structure Txt (K : PySem.W.Frag) (mg : Str → Option Value) where
  f__law_begin : Addr
  fd__law_begin : FuncData
  F__law_begin : Fun K "_law_begin" "_law_begin" s__law_begin f__law_begin fd__law_begin
  g__law_begin : mg "_law_begin" = some (.ref f__law_begin)
  b__law_begin : Binds K fd__law_begin [("script" : Str)] []
  f__law_draw : Addr
  fd__law_draw : FuncData
  F__law_draw : Fun K "_law_draw" "_law_draw" s__law_draw f__law_draw fd__law_draw
  g__law_draw : mg "_law_draw" = some (.ref f__law_draw)
  b__law_draw : Binds K fd__law_draw [("d" : Str), ("many" : Str)] []
  f_most_rows : Addr
  fd_most_rows : FuncData
  F_most_rows : Fun K "most_rows" "most_rows" s_most_rows f_most_rows fd_most_rows
  g_most_rows : mg "most_rows" = some (.ref f_most_rows)
  b_most_rows : Binds K fd_most_rows [("row" : Str), ("turned" : Str), ("turning" : Str)] []
  f_fits_round : Addr
  fd_fits_round : FuncData
  F_fits_round : Fun K "fits_round" "fits_round" s_fits_round f_fits_round fd_fits_round
  g_fits_round : mg "fits_round" = some (.ref f_fits_round)
  b_fits_round : Binds K fd_fits_round [("rooms" : Str), ("needs" : Str), ("turned" : Str), ("turning" : Str)] []
  f__law_fits : Addr
  fd__law_fits : FuncData
  F__law_fits : Fun K "_law_fits" "_law_fits" s__law_fits f__law_fits fd__law_fits
  g__law_fits : mg "_law_fits" = some (.ref f__law_fits)
  b__law_fits : Binds K fd__law_fits [("rooms" : Str), ("needs" : Str), ("turned" : Str), ("turning" : Str)] []
  f__law_rows : Addr
  fd__law_rows : FuncData
  F__law_rows : Fun K "_law_rows" "_law_rows" s__law_rows f__law_rows fd__law_rows
  g__law_rows : mg "_law_rows" = some (.ref f__law_rows)
  b__law_rows : Binds K fd__law_rows [("rooms" : Str), ("needs" : Str), ("whole" : Str)] []
  f_whole_mask : Addr
  fd_whole_mask : FuncData
  F_whole_mask : Fun K "whole_mask" "whole_mask" s_whole_mask f_whole_mask fd_whole_mask
  g_whole_mask : mg "whole_mask" = some (.ref f_whole_mask)
  b_whole_mask : Binds K fd_whole_mask [("needs" : Str)] []
  f_parts_within : Addr
  fd_parts_within : FuncData
  F_parts_within : Fun K "parts_within" "parts_within" s_parts_within f_parts_within fd_parts_within
  g_parts_within : mg "parts_within" = some (.ref f_parts_within)
  b_parts_within : Binds K fd_parts_within [("mask" : Str)] []
  f_round_levels : Addr
  fd_round_levels : FuncData
  F_round_levels : Fun K "round_levels" "round_levels" s_round_levels f_round_levels fd_round_levels
  g_round_levels : mg "round_levels" = some (.ref f_round_levels)
  b_round_levels : Binds K fd_round_levels [("rooms" : Str), ("needs" : Str)] []
  f_rounds_left : Addr
  fd_rounds_left : FuncData
  F_rounds_left : Fun K "rounds_left" "rounds_left" s_rounds_left f_rounds_left fd_rounds_left
  g_rounds_left : mg "rounds_left" = some (.ref f_rounds_left)
  b_rounds_left : Binds K fd_rounds_left [("rooms" : Str), ("needs" : Str)] []
  f_fewest_rounds : Addr
  fd_fewest_rounds : FuncData
  F_fewest_rounds : Fun K "fewest_rounds" "fewest_rounds" s_fewest_rounds f_fewest_rounds fd_fewest_rounds
  g_fewest_rounds : mg "fewest_rounds" = some (.ref f_fewest_rounds)
  b_fewest_rounds : Binds K fd_fewest_rounds [("rooms" : Str), ("needs" : Str)] []
  f_is_row : Addr
  fd_is_row : FuncData
  F_is_row : Fun K "is_row" "is_row" s_is_row f_is_row fd_is_row
  g_is_row : mg "is_row" = some (.ref f_is_row)
  b_is_row : Binds K fd_is_row [("value" : Str), ("length" : Str)] []
  f_is_whole : Addr
  fd_is_whole : FuncData
  F_is_whole : Fun K "is_whole" "is_whole" s_is_whole f_is_whole fd_is_whole
  g_is_whole : mg "is_whole" = some (.ref f_is_whole)
  b_is_whole : Binds K fd_is_whole [("value" : Str), ("low" : Str), ("high" : Str)] []
  f_pairs_dict : Addr
  fd_pairs_dict : FuncData
  F_pairs_dict : Fun K "pairs_dict" "pairs_dict" s_pairs_dict f_pairs_dict fd_pairs_dict
  g_pairs_dict : mg "pairs_dict" = some (.ref f_pairs_dict)
  b_pairs_dict : Binds K fd_pairs_dict [("needs" : Str), ("pairs" : Str)] []
  f_all_whole : Addr
  fd_all_whole : FuncData
  F_all_whole : Fun K "all_whole" "all_whole" s_all_whole f_all_whole fd_all_whole
  g_all_whole : mg "all_whole" = some (.ref f_all_whole)
  b_all_whole : Binds K fd_all_whole [("values" : Str), ("low" : Str), ("high" : Str)] []
  f_rounds_hold : Addr
  fd_rounds_hold : FuncData
  F_rounds_hold : Fun K "rounds_hold" "rounds_hold" s_rounds_hold f_rounds_hold fd_rounds_hold
  g_rounds_hold : mg "rounds_hold" = some (.ref f_rounds_hold)
  b_rounds_hold : Binds K fd_rounds_hold [("rooms" : Str), ("needs" : Str), ("rounds" : Str)] []
  f_levels_hold : Addr
  fd_levels_hold : FuncData
  F_levels_hold : Fun K "levels_hold" "levels_hold" s_levels_hold f_levels_hold fd_levels_hold
  g_levels_hold : mg "levels_hold" = some (.ref f_levels_hold)
  b_levels_hold : Binds K fd_levels_hold [("rooms" : Str), ("needs" : Str), ("levels" : Str)] []
  f_judge_rounds : Addr
  fd_judge_rounds : FuncData
  F_judge_rounds : Fun K "judge_rounds" "judge_rounds" s_judge_rounds f_judge_rounds fd_judge_rounds
  g_judge_rounds : mg "judge_rounds" = some (.ref f_judge_rounds)
  b_judge_rounds : Binds K fd_judge_rounds [("rooms" : Str), ("needs" : Str), ("result" : Str)] []
  f_law : Addr
  fd_law : FuncData
  F_law : Fun K "law" "law" s_law f_law fd_law
  g_law : mg "law" = some (.ref f_law)
  b_law : Binds K fd_law [("script" : Str)] []
  z_bool : mg "bool" = none
  z_enumerate : mg "enumerate" = none
  z_int : mg "int" = none
  z_isinstance : mg "isinstance" = none
  z_len : mg "len" = none
  z_list : mg "list" = none
  z_max : mg "max" = none
  z_min : mg "min" = none
  z_range : mg "range" = none
  z_sorted : mg "sorted" = none
  z_sum : mg "sum" = none
  z_tuple : mg "tuple" = none
  z_zip : mg "zip" = none
end K68
namespace K68
open PySem PySem.Spec PyProof.Rows L2 Mi
section
variable {P : Program} {w : World} {K : PySem.W.Frag} {mg : Str → Option Value} {base : Heap}
theorem ok__law_begin (T : Txt K mg) : FnOk P w K mg base CX0 1 T.f__law_begin T.fd__law_begin [("script" : Str)] (spF K F__law_begin) :=
  fn_def T.F__law_begin sc__law_begin fun cdv A outer s H E hr =>
    ms_one (ms_ret (mf_mut (mf_lst (ma_cons (me_int) (ma_cons (me_int) (ma_cons (me_int) (ma_cons (me_int) (ma_cons (mf_frz (mf_list (by rfl) T.z_list (ma_cons (me_slA (me_var 0) (mo_none) (mo_some (me_int))) (ma_nil)))) (ma_nil)))))))))
theorem ok__law_draw (T : Txt K mg) : FnOk P w K mg base CX0 1 T.f__law_draw T.fd__law_draw [("d" : Str), ("many" : Str)] (spF K F__law_draw) :=
  fn_def T.F__law_draw sc__law_draw fun cdv A outer s H E hr =>
    ms_cons (ms_if (mt_lt (me_var 1) (me_int))
    (ms_one (ms_ret (me_int)))
    (ms_nil))
    (ms_cons (ms_if (L2.PW.pt (mw_and (mt_eq hr.units (me_ix (hu_of hr) (me_var 0) (me_int)) (me_int)) (mw_and1 (mt_lt (me_ix (hu_of hr) (me_var 0) (me_int)) (me_len (by rfl) T.z_len (ma_cons (me_ix (hu_of hr) (me_var 0) (me_int)) (ma_nil)))))))
    (ms_cons (ms_set (i := 2) sc__law_draw.nd rfl (by first | exact Or.inl rfl | exact Or.inr rfl) (me_ix (hu_of hr) (me_ix (hu_of hr) (me_var 0) (me_int)) (me_ix (hu_of hr) (me_var 0) (me_int))))
    (ms_cons (ms_store (hu_of hr) (me_plus (me_ix (hu_of hr) (me_var 0) (me_int)) (me_int)) (me_var 0) (me_int))
    (ms_cons (ms_set (i := 3) sc__law_draw.nd rfl (by first | exact Or.inl rfl | exact Or.inr rfl) (me_if (mt_ge (me_var 2) (me_int)) (me_var 2) (me_neg (me_var 2))))
    (ms_one (ms_if (mt_ge (me_var 3) (me_pow (me_int) (me_int)))
    (ms_one (ms_store (hu_of hr) (me_var 3) (me_var 0) (me_int)))
    (ms_one (ms_store (hu_of hr) (me_mod (me_int1 (by rfl) T.z_int (ma_cons (me_plus (me_plus (me_mul (me_ix (hu_of hr) (me_var 0) (me_int)) (me_int)) (me_mul (me_var 3) (me_int))) (me_int)) (ma_nil))) (me_int)) (me_var 0) (me_int))))))))
    (ms_nil))
    (ms_cons (ms_if (mt_gt (me_ix (hu_of hr) (me_var 0) (me_int)) (me_int))
    (ms_cons (ms_set (i := 4) sc__law_draw.nd rfl (by first | exact Or.inl rfl | exact Or.inr rfl) (me_mod (me_int1 (by rfl) T.z_int (ma_cons (me_ix (hu_of hr) (me_var 0) (me_int)) (ma_nil))) (me_var 1)))
    (ms_cons (ms_store (hu_of hr) (me_div (me_ix (hu_of hr) (me_var 0) (me_int)) (me_var 1)) (me_var 0) (me_int))
    (ms_one (ms_ret (me_var 4)))))
    (ms_nil))
    (ms_cons (ms_store (hu_of hr) (me_plus (me_ix (hu_of hr) (me_var 0) (me_int)) (me_int)) (me_var 0) (me_int))
    (ms_cons (ms_store (hu_of hr) (me_mod (me_int1 (by rfl) T.z_int (ma_cons (me_plus (me_plus (me_mul (me_ix (hu_of hr) (me_var 0) (me_int)) (me_int)) (me_mul (me_ix (hu_of hr) (me_var 0) (me_int)) (me_int))) (me_int)) (ma_nil))) (me_int)) (me_var 0) (me_int))
    (ms_cons (ms_set (i := 5) sc__law_draw.nd rfl (by first | exact Or.inl rfl | exact Or.inr rfl) (me_mod (me_int1 (by rfl) T.z_int (ma_cons (me_plus (me_mul (me_ix (hu_of hr) (me_var 0) (me_int)) (me_ix (hu_of hr) (me_var 0) (me_int))) (me_ix (hu_of hr) (me_var 0) (me_int))) (ma_nil))) (me_int)))
    (ms_one (ms_ret (me_mod (me_int1 (by rfl) T.z_int (ma_cons (me_div (me_var 5) (me_int)) (ma_nil))) (me_var 1)))))))))
theorem ok_most_rows (T : Txt K mg) : FnOk P w K mg base CX0 1 T.f_most_rows T.fd_most_rows [("row" : Str), ("turned" : Str), ("turning" : Str)] (spF K F_most_rows) :=
  fn_def T.F_most_rows sc_most_rows fun cdv A outer s H E hr =>
    ms_cons (ms_set (i := 3) sc_most_rows.nd rfl (by first | exact Or.inl rfl | exact Or.inr rfl) (me_int))
    (ms_cons (ms_for [4, 5] [4, 5, 6, 7, 8, 9] PassesOwn.never rfl (mi_enum (by rfl) T.z_enumerate (ma_cons (me_var 0) (ma_nil))) (pg_tup rfl (pgs_cons (pg_name (i := 4) sc_most_rows.nd rfl (by first | exact Or.inl rfl | exact Or.inr rfl)) (pgs_cons (pg_name (i := 5) sc_most_rows.nd rfl (by first | exact Or.inl rfl | exact Or.inr rfl)) (pgs_nil)))) (tg_tup (tg_cons (tg_name 4) (tg_cons (tg_name 5) (tg_nil))))
    (ms_cons (ms_asg (me_var 5) (pg_tup rfl (pgs_cons (pg_name (i := 6) sc_most_rows.nd rfl (by first | exact Or.inl rfl | exact Or.inr rfl)) (pgs_cons (pg_name (i := 7) sc_most_rows.nd rfl (by first | exact Or.inl rfl | exact Or.inr rfl)) (pgs_cons (pg_name (i := 8) sc_most_rows.nd rfl (by first | exact Or.inl rfl | exact Or.inr rfl)) (pgs_cons (pg_name (i := 9) sc_most_rows.nd rfl (by first | exact Or.inl rfl | exact Or.inr rfl)) (pgs_nil)))))) (Or.inr ⟨[6, 7, 8, 9], tg_tup (tg_cons (tg_name 6) (tg_cons (tg_name 7) (tg_cons (tg_name 8) (tg_cons (tg_name 9) (tg_nil)))))⟩))
    (ms_one (ms_if (mt_tru (me_and (me_shr (me_var 1) (me_var 4)) (me_int)))
    (ms_one (ms_set (i := 3) sc_most_rows.nd rfl (by first | exact Or.inl rfl | exact Or.inr rfl) (me_plus (me_plus (me_var 3) (me_var 7)) (me_var 9))))
    (ms_one (ms_if (mt_tru (me_and (me_shr (me_var 2) (me_var 4)) (me_int)))
    (ms_one (ms_set (i := 3) sc_most_rows.nd rfl (by first | exact Or.inl rfl | exact Or.inr rfl) (me_plus (me_plus (me_plus (me_var 3) (me_var 6)) (me_var 7)) (me_max2 rfl (by rfl) T.z_max (ma_cons (me_var 8) (ma_cons (me_var 9) (ma_nil)))))))
    (ms_one (ms_set (i := 3) sc_most_rows.nd rfl (by first | exact Or.inl rfl | exact Or.inr rfl) (me_plus (me_plus (me_var 3) (me_var 6)) (me_var 8))))))))))
    (ms_one (ms_ret (me_var 3))))
theorem ok_fits_round (T : Txt K mg) : FnOk P w K mg base CX0 2 T.f_fits_round T.fd_fits_round [("rooms" : Str), ("needs" : Str), ("turned" : Str), ("turning" : Str)] (spF K F_fits_round) :=
  fn_def T.F_fits_round sc_fits_round fun cdv A outer s H E hr =>
    ms_cons (ms_for [4, 5] [4, 5] PassesOwn.never rfl (mi_zip (by rfl) T.z_zip (ma_cons (me_var 0) (ma_cons (me_var 1) (ma_nil)))) (pg_tup rfl (pgs_cons (pg_name (i := 4) sc_fits_round.nd rfl (by first | exact Or.inl rfl | exact Or.inr rfl)) (pgs_cons (pg_name (i := 5) sc_fits_round.nd rfl (by first | exact Or.inl rfl | exact Or.inr rfl)) (pgs_nil)))) (tg_tup (tg_cons (tg_name 4) (tg_cons (tg_name 5) (tg_nil))))
    (ms_one (ms_if (mt_gt (me_call ((fn_pure (ok_most_rows (P := P) (w := w) (base := base) T)).mono (by decide)) hr (by rfl) T.g_most_rows T.F_most_rows.kp T.b_most_rows (ma_cons (me_var 5) (ma_cons (me_var 2) (ma_cons (me_var 3) (ma_nil))))) (me_var 4))
    (ms_one (ms_ret (me_bl)))
    (ms_nil))))
    (ms_one (ms_ret (me_bl)))
theorem ok__law_fits (T : Txt K mg) : FnOk P w K mg base CX0 1 T.f__law_fits T.fd__law_fits [("rooms" : Str), ("needs" : Str), ("turned" : Str), ("turning" : Str)] (spF K F__law_fits) :=
  fn_def T.F__law_fits sc__law_fits fun cdv A outer s H E hr =>
    ms_cons (ms_for [4] [4, 5, 6, 7, 8, 9, 10] PassesOwn.never rfl (mi_range1 (by rfl) T.z_range (ma_cons (me_len (by rfl) T.z_len (ma_cons (me_var 0) (ma_nil))) (ma_nil))) (pg_name (i := 4) sc__law_fits.nd rfl (by first | exact Or.inl rfl | exact Or.inr rfl)) (tg_name 4)
    (ms_cons (ms_set (i := 5) sc__law_fits.nd rfl (by first | exact Or.inl rfl | exact Or.inr rfl) (me_int))
    (ms_cons (ms_for [6] [6, 7, 8, 9, 10] PassesOwn.never rfl (mi_range1 (by rfl) T.z_range (ma_cons (me_len (by rfl) T.z_len (ma_cons (me_ix (hu_of hr) (me_var 1) (me_var 4)) (ma_nil))) (ma_nil))) (pg_name (i := 6) sc__law_fits.nd rfl (by first | exact Or.inl rfl | exact Or.inr rfl)) (tg_name 6)
    (ms_cons (ms_asg (me_ix (hu_of hr) (me_ix (hu_of hr) (me_var 1) (me_var 4)) (me_var 6)) (pg_tup rfl (pgs_cons (pg_name (i := 7) sc__law_fits.nd rfl (by first | exact Or.inl rfl | exact Or.inr rfl)) (pgs_cons (pg_name (i := 8) sc__law_fits.nd rfl (by first | exact Or.inl rfl | exact Or.inr rfl)) (pgs_cons (pg_name (i := 9) sc__law_fits.nd rfl (by first | exact Or.inl rfl | exact Or.inr rfl)) (pgs_cons (pg_name (i := 10) sc__law_fits.nd rfl (by first | exact Or.inl rfl | exact Or.inr rfl)) (pgs_nil)))))) (Or.inr ⟨[7, 8, 9, 10], tg_tup (tg_cons (tg_name 7) (tg_cons (tg_name 8) (tg_cons (tg_name 9) (tg_cons (tg_name 10) (tg_nil)))))⟩))
    (ms_one (ms_if (mt_tru (me_and (me_shr (me_var 2) (me_var 6)) (me_int)))
    (ms_one (ms_set (i := 5) sc__law_fits.nd rfl (by first | exact Or.inl rfl | exact Or.inr rfl) (me_plus (me_plus (me_var 5) (me_var 8)) (me_var 10))))
    (ms_one (ms_if (mt_tru (me_and (me_shr (me_var 3) (me_var 6)) (me_int)))
    (ms_one (ms_set (i := 5) sc__law_fits.nd rfl (by first | exact Or.inl rfl | exact Or.inr rfl) (me_plus (me_plus (me_plus (me_var 5) (me_var 7)) (me_var 8)) (me_max2 rfl (by rfl) T.z_max (ma_cons (me_var 9) (ma_cons (me_var 10) (ma_nil)))))))
    (ms_one (ms_set (i := 5) sc__law_fits.nd rfl (by first | exact Or.inl rfl | exact Or.inr rfl) (me_plus (me_plus (me_var 5) (me_var 7)) (me_var 9))))))))))
    (ms_one (ms_if (mt_gt (me_var 5) (me_ix (hu_of hr) (me_var 0) (me_var 4)))
    (ms_one (ms_ret (me_bl)))
    (ms_nil))))))
    (ms_one (ms_ret (me_bl)))
theorem ok__law_rows (T : Txt K mg) : FnOk P w K mg base CX0 2 T.f__law_rows T.fd__law_rows [("rooms" : Str), ("needs" : Str), ("whole" : Str)] (spF K F__law_rows) :=
  fn_def T.F__law_rows sc__law_rows fun cdv A outer s H E hr =>
    ms_cons (ms_set (i := 3) sc__law_rows.nd rfl (by first | exact Or.inl rfl | exact Or.inr rfl) (mf_mut (mf_disp ([(ret (.int 0), ret (.int 0))] : List (FE × FE)) (pps_cons (me_int) (me_int) (pps_nil)))))
    (ms_cons (ms_set (i := 4) sc__law_rows.nd rfl (by first | exact Or.inl rfl | exact Or.inr rfl) (mf_mut (mf_disp ([(ret (.int 0), fLst (fCons (fTup (fNil)) (fNil)))] : List (FE × FE)) (pps_cons (me_int) (mf_frz (mf_lst (ma_cons (me_tup (ma_nil)) (ma_nil)))) (pps_nil)))))
    (ms_cons (ms_set (i := 5) sc__law_rows.nd rfl (by first | exact Or.inl rfl | exact Or.inr rfl) (mf_frz (mf_lst (ma_cons (me_int) (ma_nil)))))
    (ms_cons (ms_for [6] [6, 7, 8, 9, 10] PassesOwn.never rfl (mi_range1 (by rfl) T.z_range (ma_cons (me_int) (ma_nil))) (pg_name (i := 6) sc__law_rows.nd rfl (by first | exact Or.inl rfl | exact Or.inr rfl)) (tg_name 6)
    (ms_cons (ms_set (i := 7) sc__law_rows.nd rfl (by first | exact Or.inl rfl | exact Or.inr rfl) (mf_mut (mf_lst (ma_nil))))
    (ms_cons (ms_for [8] [8, 9, 10] PassesOwn.never rfl (mi_seq (me_var 5)) (pg_name (i := 8) sc__law_rows.nd rfl (by first | exact Or.inl rfl | exact Or.inr rfl)) (tg_name 8)
    (ms_one (ms_for [9] [9, 10] PassesOwn.never rfl (mi_range2 (by rfl) T.z_range (ma_cons (me_int) (ma_cons (me_plus (me_var 2) (me_int)) (ma_nil)))) (pg_name (i := 9) sc__law_rows.nd rfl (by first | exact Or.inl rfl | exact Or.inr rfl)) (tg_name 9)
    (ms_one (ms_if (L2.PW.pt (mw_and (mt_eq hr.units (me_and (me_var 8) (me_var 9)) (me_int)) (mw_and1 (mt_tru (me_call ((fn_pure (ok__law_fits (P := P) (w := w) (base := base) T)).mono (by decide)) hr (by rfl) T.g__law_fits T.F__law_fits.kp T.b__law_fits (ma_cons (me_var 0) (ma_cons (me_var 1) (ma_cons (me_var 8) (ma_cons (me_var 9) (ma_nil))))))))))
    (ms_cons (ms_set (i := 10) sc__law_rows.nd rfl (by first | exact Or.inl rfl | exact Or.inr rfl) (me_or (me_var 8) (me_var 9)))
    (ms_cons (ms_if (mt_nin (hu_of hr) (me_var 10) (me_var 3))
    (ms_cons (ms_store (hu_of hr) (me_plus (me_var 6) (me_int)) (me_var 3) (me_var 10))
    (ms_cons (ms_store (hu_of hr) (mf_frz (mf_lst (ma_nil))) (me_var 4) (me_var 10))
    (ms_one (ms_expr (me_append (me_var 7) (ma_cons (me_var 10) (ma_nil)))))))
    (ms_nil))
    (ms_one (ms_if (mt_eq hr.units (me_ix (hu_of hr) (me_var 3) (me_var 10)) (me_plus (me_var 6) (me_int)))
    (ms_one (ms_store (hu_of hr) (me_plus (me_ix (hu_of hr) (me_var 4) (me_var 10)) (mf_frz (mf_lc (own := [(PySem.Str.ofString "path", 11)]) rfl sc__law_rows.nd (mi_seq (me_ix (hu_of hr) (me_var 4) (me_var 8))) (blkOk_by (own := [(PySem.Str.ofString "path", 11)]) (N := n__law_rows) (sc := (defScope s__law_rows)) (by decide +kernel)) (fun _ _ _ _ _ => pg_name (i := 11) sc__law_rows.nd rfl (by first | exact Or.inl rfl | exact Or.inr rfl)) (tg_name 11) (fun _ _ _ _ _ => mts_nil) (fun _ _ _ _ _ => me_plus (me_var 11) (me_tup (ma_cons (me_var 9) (ma_nil))))))) (me_var 4) (me_var 10)))
    (ms_nil)))))
    (ms_nil))))))
    (ms_one (ms_set (i := 5) sc__law_rows.nd rfl (by first | exact Or.inl rfl | exact Or.inr rfl) (me_var 7))))))
    (ms_one (ms_ret (me_tup (ma_cons (me_var 3) (ma_cons (me_var 4) (ma_nil)))))))))
theorem ok_whole_mask (T : Txt K mg) : FnOk P w K mg base CX0 1 T.f_whole_mask T.fd_whole_mask [("needs" : Str)] (spF K F_whole_mask) :=
  fn_def T.F_whole_mask sc_whole_mask fun cdv A outer s H E hr =>
    ms_one (ms_ret (me_if (mt_tru (me_var 0)) (me_sub (me_shl (me_int) (me_len (by rfl) T.z_len (ma_cons (me_ix (hu_of hr) (me_var 0) (me_int)) (ma_nil)))) (me_int)) (me_int)))
theorem ok_parts_within (T : Txt K mg) : FnOk P w K mg base CX0 1 T.f_parts_within T.fd_parts_within [("mask" : Str)] (spF K F_parts_within) :=
  fn_def T.F_parts_within sc_parts_within fun cdv A outer s H E hr =>
    ms_cons (ms_set (i := 1) sc_parts_within.nd rfl (by first | exact Or.inl rfl | exact Or.inr rfl) (mf_mut (mf_lst (ma_nil))))
    (ms_cons (ms_set (i := 2) sc_parts_within.nd rfl (by first | exact Or.inl rfl | exact Or.inr rfl) (me_var 0))
    (ms_cons (ms_while 100000 [] PassesOwn.never (mt_tru (me_var 2))
    (ms_cons (ms_expr (me_append (me_var 1) (ma_cons (me_var 2) (ma_nil))))
    (ms_one (ms_set (i := 2) sc_parts_within.nd rfl (by first | exact Or.inl rfl | exact Or.inr rfl) (me_and (me_sub (me_var 2) (me_int)) (me_var 0))))))
    (ms_one (ms_ret (mf_frz (mf_rev (me_var 1)))))))
theorem ok_round_levels (T : Txt K mg) : FnOk P w K mg base CX0 3 T.f_round_levels T.fd_round_levels [("rooms" : Str), ("needs" : Str)] (spF K F_round_levels) :=
  fn_def T.F_round_levels sc_round_levels fun cdv A outer s H E hr =>
    ms_cons (ms_set (i := 2) sc_round_levels.nd rfl (by first | exact Or.inl rfl | exact Or.inr rfl) (me_call ((fn_pure (ok_whole_mask (P := P) (w := w) (base := base) T)).mono (by decide)) hr (by rfl) T.g_whole_mask T.F_whole_mask.kp T.b_whole_mask (ma_cons (me_var 1) (ma_nil))))
    (ms_cons (ms_set (i := 3) sc_round_levels.nd rfl (by first | exact Or.inl rfl | exact Or.inr rfl) (mf_mut (mf_disp ([(ret (.int 0), ret (.int 0))] : List (FE × FE)) (pps_cons (me_int) (me_int) (pps_nil)))))
    (ms_cons (ms_for [4] [4, 5, 6] PassesOwn.never rfl (mi_range1 (by rfl) T.z_range (ma_cons (me_plus (me_var 2) (me_int)) (ma_nil))) (pg_name (i := 4) sc_round_levels.nd rfl (by first | exact Or.inl rfl | exact Or.inr rfl)) (tg_name 4)
    (ms_one (ms_if (mt_in (hu_of hr) (me_var 4) (me_var 3))
    (ms_one (ms_for [5] [5, 6] PassesOwn.never rfl (mi_seq (me_call ((fn_pure (ok_parts_within (P := P) (w := w) (base := base) T)).mono (by decide)) hr (by rfl) T.g_parts_within T.F_parts_within.kp T.b_parts_within (ma_cons (me_sub (me_var 2) (me_var 4)) (ma_nil)))) (pg_name (i := 5) sc_round_levels.nd rfl (by first | exact Or.inl rfl | exact Or.inr rfl)) (tg_name 5)
    (ms_one (ms_if (mt_tru (me_call ((fn_pure (ok_fits_round (P := P) (w := w) (base := base) T)).mono (by decide)) hr (by rfl) T.g_fits_round T.F_fits_round.kp T.b_fits_round (ma_cons (me_var 0) (ma_cons (me_var 1) (ma_cons (me_var 4) (ma_cons (me_var 5) (ma_nil)))))))
    (ms_cons (ms_set (i := 6) sc_round_levels.nd rfl (by first | exact Or.inl rfl | exact Or.inr rfl) (me_or (me_var 4) (me_var 5)))
    (ms_one (ms_store (hu_of hr) (me_min2 rfl (by rfl) T.z_min (ma_cons (me_get2 (hu_of hr) (me_var 3) (me_var 6) (me_plus (me_var 2) (me_int))) (ma_cons (me_plus (me_ix (hu_of hr) (me_var 3) (me_var 4)) (me_int)) (ma_nil)))) (me_var 3) (me_var 6))))
    (ms_nil)))))
    (ms_nil))))
    (ms_one (ms_ret (me_var 3)))))
theorem ok_rounds_left (T : Txt K mg) : FnOk P w K mg base CX0 3 T.f_rounds_left T.fd_rounds_left [("rooms" : Str), ("needs" : Str)] (spF K F_rounds_left) :=
  fn_def T.F_rounds_left sc_rounds_left fun cdv A outer s H E hr =>
    ms_cons (ms_set (i := 2) sc_rounds_left.nd rfl (by first | exact Or.inl rfl | exact Or.inr rfl) (me_call ((fn_pure (ok_whole_mask (P := P) (w := w) (base := base) T)).mono (by decide)) hr (by rfl) T.g_whole_mask T.F_whole_mask.kp T.b_whole_mask (ma_cons (me_var 1) (ma_nil))))
    (ms_cons (ms_set (i := 3) sc_rounds_left.nd rfl (by first | exact Or.inl rfl | exact Or.inr rfl) (mf_mut (mf_disp ([(fVar 2, ret (.int 0))] : List (FE × FE)) (pps_cons (me_var 2) (me_int) (pps_nil)))))
    (ms_cons (ms_for [4] [4, 5, 6] PassesOwn.never rfl (mi_range3 (by rfl) T.z_range (ma_cons (me_sub (me_var 2) (me_int)) (ma_cons (me_neg (me_int)) (ma_cons (me_neg (me_int)) (ma_nil))))) (pg_name (i := 4) sc_rounds_left.nd rfl (by first | exact Or.inl rfl | exact Or.inr rfl)) (tg_name 4)
    (ms_one (ms_for [5] [5, 6] PassesOwn.never rfl (mi_seq (me_call ((fn_pure (ok_parts_within (P := P) (w := w) (base := base) T)).mono (by decide)) hr (by rfl) T.g_parts_within T.F_parts_within.kp T.b_parts_within (ma_cons (me_sub (me_var 2) (me_var 4)) (ma_nil)))) (pg_name (i := 5) sc_rounds_left.nd rfl (by first | exact Or.inl rfl | exact Or.inr rfl)) (tg_name 5)
    (ms_cons (ms_set (i := 6) sc_rounds_left.nd rfl (by first | exact Or.inl rfl | exact Or.inr rfl) (me_or (me_var 4) (me_var 5)))
    (ms_one (ms_if (L2.PW.pt (mw_and (mt_in (hu_of hr) (me_var 6) (me_var 3)) (mw_and1 (mt_tru (me_call ((fn_pure (ok_fits_round (P := P) (w := w) (base := base) T)).mono (by decide)) hr (by rfl) T.g_fits_round T.F_fits_round.kp T.b_fits_round (ma_cons (me_var 0) (ma_cons (me_var 1) (ma_cons (me_var 4) (ma_cons (me_var 5) (ma_nil))))))))))
    (ms_one (ms_store (hu_of hr) (me_min2 rfl (by rfl) T.z_min (ma_cons (me_get2 (hu_of hr) (me_var 3) (me_var 4) (me_plus (me_var 2) (me_int))) (ma_cons (me_plus (me_ix (hu_of hr) (me_var 3) (me_var 6)) (me_int)) (ma_nil)))) (me_var 3) (me_var 4)))
    (ms_nil)))))))
    (ms_one (ms_ret (me_var 3)))))
theorem ok_fewest_rounds (T : Txt K mg) : FnOk P w K mg base CX0 4 T.f_fewest_rounds T.fd_fewest_rounds [("rooms" : Str), ("needs" : Str)] (spF K F_fewest_rounds) :=
  fn_def T.F_fewest_rounds sc_fewest_rounds fun cdv A outer s H E hr =>
    ms_cons (ms_set (i := 2) sc_fewest_rounds.nd rfl (by first | exact Or.inl rfl | exact Or.inr rfl) (me_call ((fn_pure (ok_round_levels (P := P) (w := w) (base := base) T)).mono (by decide)) hr (by rfl) T.g_round_levels T.F_round_levels.kp T.b_round_levels (ma_cons (me_var 0) (ma_cons (me_var 1) (ma_nil)))))
    (ms_cons (ms_set (i := 3) sc_fewest_rounds.nd rfl (by first | exact Or.inl rfl | exact Or.inr rfl) (me_call ((fn_pure (ok_rounds_left (P := P) (w := w) (base := base) T)).mono (by decide)) hr (by rfl) T.g_rounds_left T.F_rounds_left.kp T.b_rounds_left (ma_cons (me_var 0) (ma_cons (me_var 1) (ma_nil)))))
    (ms_cons (ms_set (i := 4) sc_fewest_rounds.nd rfl (by first | exact Or.inl rfl | exact Or.inr rfl) (me_call ((fn_pure (ok_whole_mask (P := P) (w := w) (base := base) T)).mono (by decide)) hr (by rfl) T.g_whole_mask T.F_whole_mask.kp T.b_whole_mask (ma_cons (me_var 1) (ma_nil))))
    (ms_cons (ms_if (mt_nin (hu_of hr) (me_var 4) (me_var 2))
    (ms_one (ms_ret (me_tup (ma_cons (me_str) (ma_cons (me_tuple (by rfl) T.z_tuple (ma_cons (mf_frz (mf_sorted rfl (by rfl) T.z_sorted (ma_cons (me_var 2) (ma_nil)))) (ma_nil))) (ma_cons (me_tup (ma_nil)) (ma_nil)))))))
    (ms_nil))
    (ms_cons (ms_set (i := 5) sc_fewest_rounds.nd rfl (by first | exact Or.inl rfl | exact Or.inr rfl) (mf_mut (mf_lst (ma_nil))))
    (ms_cons (ms_set (i := 6) sc_fewest_rounds.nd rfl (by first | exact Or.inl rfl | exact Or.inr rfl) (me_int))
    (ms_cons (ms_while 100000 [7, 8] PassesOwn.never (mt_ne hr.units (me_var 6) (me_var 4))
    (ms_one (ms_for [7] [7, 8] PassesOwn.never rfl (mi_seq (me_call ((fn_pure (ok_parts_within (P := P) (w := w) (base := base) T)).mono (by decide)) hr (by rfl) T.g_parts_within T.F_parts_within.kp T.b_parts_within (ma_cons (me_sub (me_var 4) (me_var 6)) (ma_nil)))) (pg_name (i := 7) sc_fewest_rounds.nd rfl (by first | exact Or.inl rfl | exact Or.inr rfl)) (tg_name 7)
    (ms_cons (ms_set (i := 8) sc_fewest_rounds.nd rfl (by first | exact Or.inl rfl | exact Or.inr rfl) (me_eq hr.units (me_get2 (hu_of hr) (me_var 3) (me_or (me_var 6) (me_var 7)) (me_plus (me_var 4) (me_int))) (me_sub (me_ix (hu_of hr) (me_var 3) (me_var 6)) (me_int))))
    (ms_one (ms_if (L2.PW.pt (mw_and (mt_tru (me_var 8)) (mw_and1 (mt_tru (me_call ((fn_pure (ok_fits_round (P := P) (w := w) (base := base) T)).mono (by decide)) hr (by rfl) T.g_fits_round T.F_fits_round.kp T.b_fits_round (ma_cons (me_var 0) (ma_cons (me_var 1) (ma_cons (me_var 6) (ma_cons (me_var 7) (ma_nil))))))))))
    (ms_cons (ms_expr (me_append (me_var 5) (ma_cons (me_var 7) (ma_nil))))
    (ms_cons (ms_set (i := 6) sc_fewest_rounds.nd rfl (by first | exact Or.inl rfl | exact Or.inr rfl) (me_or (me_var 6) (me_var 7)))
    (ms_one (ms_break))))
    (ms_nil)))))))
    (ms_one (ms_ret (me_tup (ma_cons (me_str) (ma_cons (me_tuple (by rfl) T.z_tuple (ma_cons (me_var 5) (ma_nil))) (ma_cons (me_tuple (by rfl) T.z_tuple (ma_cons (mf_frz (mf_lc (own := [(PySem.Str.ofString "mask", 9)]) rfl sc_fewest_rounds.nd (mi_seq (mf_frz (mf_sorted rfl (by rfl) T.z_sorted (ma_cons (me_var 2) (ma_nil))))) (blkOk_by (own := [(PySem.Str.ofString "mask", 9)]) (N := n_fewest_rounds) (sc := (defScope s_fewest_rounds)) (by decide +kernel)) (fun _ _ _ _ _ => pg_name (i := 9) sc_fewest_rounds.nd rfl (by first | exact Or.inl rfl | exact Or.inr rfl)) (tg_name 9) (fun _ _ _ _ _ => mts_nil) (fun _ _ _ _ _ => me_tup (ma_cons (me_var 9) (ma_cons (me_ix (hu_of hr) (me_var 2) (me_var 9)) (ma_nil)))))) (ma_nil))) (ma_nil)))))))))))))
theorem ok_is_row (T : Txt K mg) : FnOk P w K mg base CX0 1 T.f_is_row T.fd_is_row [("value" : Str), ("length" : Str)] (spF K F_is_row) :=
  fn_def T.F_is_row sc_is_row fun cdv A outer s H E hr =>
    ms_one (ms_ret (me_andV (me_isi (by rfl) T.z_isinstance (me_var 0) (by rfl) T.z_tuple (by decide +kernel)) (me_and1 (me_eq hr.units (me_len (by rfl) T.z_len (ma_cons (me_var 0) (ma_nil))) (me_var 1)))))
theorem ok_is_whole (T : Txt K mg) : FnOk P w K mg base CX0 1 T.f_is_whole T.fd_is_whole [("value" : Str), ("low" : Str), ("high" : Str)] (spF K F_is_whole) :=
  fn_def T.F_is_whole sc_is_whole fun cdv A outer s H E hr =>
    ms_one (ms_ret (me_andV (me_isi (by rfl) T.z_isinstance (me_var 0) (by rfl) T.z_int (by decide +kernel)) (me_andV (me_notV (me_isi (by rfl) T.z_isinstance (me_var 0) (by rfl) T.z_bool (by decide +kernel))) (me_and1 (me_lele (me_var 1) (me_var 0) (me_var 2))))))
theorem ok_pairs_dict (T : Txt K mg) : FnOk P w K mg base CX0 2 T.f_pairs_dict T.fd_pairs_dict [("needs" : Str), ("pairs" : Str)] (spF K F_pairs_dict) :=
  fn_def T.F_pairs_dict sc_pairs_dict fun cdv A outer s H E hr =>
    ms_cons (ms_if (mt_not (mt_tru (me_isi (by rfl) T.z_isinstance (me_var 1) (by rfl) T.z_tuple (by decide +kernel))))
    (ms_one (ms_ret (me_non)))
    (ms_nil))
    (ms_cons (ms_set (i := 2) sc_pairs_dict.nd rfl (by first | exact Or.inl rfl | exact Or.inr rfl) (mf_mut (mf_dnewK)))
    (ms_cons (ms_set (i := 3) sc_pairs_dict.nd rfl (by first | exact Or.inl rfl | exact Or.inr rfl) (me_neg (me_int)))
    (ms_cons (ms_for [4] [4] PassesOwn.never rfl (mi_seq (me_var 1)) (pg_name (i := 4) sc_pairs_dict.nd rfl (by first | exact Or.inl rfl | exact Or.inr rfl)) (tg_name 4)
    (ms_cons (ms_if (L2.PW.pt (mw_or (mt_not (mt_tru (me_call ((fn_pure (ok_is_row (P := P) (w := w) (base := base) T)).mono (by decide)) hr (by rfl) T.g_is_row T.F_is_row.kp T.b_is_row (ma_cons (me_var 4) (ma_cons (me_int) (ma_nil)))))) (mw_or (mt_not (mt_tru (me_call ((fn_pure (ok_is_whole (P := P) (w := w) (base := base) T)).mono (by decide)) hr (by rfl) T.g_is_whole T.F_is_whole.kp T.b_is_whole (ma_cons (me_ix (hu_of hr) (me_var 4) (me_int)) (ma_cons (me_plus (me_var 3) (me_int)) (ma_cons (me_call ((fn_pure (ok_whole_mask (P := P) (w := w) (base := base) T)).mono (by decide)) hr (by rfl) T.g_whole_mask T.F_whole_mask.kp T.b_whole_mask (ma_cons (me_var 0) (ma_nil))) (ma_nil))))))) (mw_or1 (mt_not (mt_tru (me_call ((fn_pure (ok_is_whole (P := P) (w := w) (base := base) T)).mono (by decide)) hr (by rfl) T.g_is_whole T.F_is_whole.kp T.b_is_whole (ma_cons (me_ix (hu_of hr) (me_var 4) (me_int)) (ma_cons (me_int) (ma_cons (me_int) (ma_nil)))))))))))
    (ms_one (ms_ret (me_non)))
    (ms_nil))
    (ms_cons (ms_store (hu_of hr) (me_ix (hu_of hr) (me_var 4) (me_int)) (me_var 2) (me_ix (hu_of hr) (me_var 4) (me_int)))
    (ms_one (ms_set (i := 3) sc_pairs_dict.nd rfl (by first | exact Or.inl rfl | exact Or.inr rfl) (me_ix (hu_of hr) (me_var 4) (me_int)))))))
    (ms_one (ms_ret (me_var 2))))))
theorem ok_all_whole (T : Txt K mg) : FnOk P w K mg base CX0 2 T.f_all_whole T.fd_all_whole [("values" : Str), ("low" : Str), ("high" : Str)] (spF K F_all_whole) :=
  fn_def T.F_all_whole sc_all_whole fun cdv A outer s H E hr =>
    ms_cons (ms_if (mt_not (mt_tru (me_isi (by rfl) T.z_isinstance (me_var 0) (by rfl) T.z_tuple (by decide +kernel))))
    (ms_one (ms_ret (me_bl)))
    (ms_nil))
    (ms_cons (ms_for [3] [3] PassesOwn.never rfl (mi_seq (me_var 0)) (pg_name (i := 3) sc_all_whole.nd rfl (by first | exact Or.inl rfl | exact Or.inr rfl)) (tg_name 3)
    (ms_one (ms_if (mt_not (mt_tru (me_call ((fn_pure (ok_is_whole (P := P) (w := w) (base := base) T)).mono (by decide)) hr (by rfl) T.g_is_whole T.F_is_whole.kp T.b_is_whole (ma_cons (me_var 3) (ma_cons (me_var 1) (ma_cons (me_var 2) (ma_nil)))))))
    (ms_one (ms_ret (me_bl)))
    (ms_nil))))
    (ms_one (ms_ret (me_bl))))
theorem ok_rounds_hold (T : Txt K mg) : FnOk P w K mg base CX0 3 T.f_rounds_hold T.fd_rounds_hold [("rooms" : Str), ("needs" : Str), ("rounds" : Str)] (spF K F_rounds_hold) :=
  fn_def T.F_rounds_hold sc_rounds_hold fun cdv A outer s H E hr =>
    ms_cons (ms_set (i := 3) sc_rounds_hold.nd rfl (by first | exact Or.inl rfl | exact Or.inr rfl) (me_call ((fn_pure (ok_whole_mask (P := P) (w := w) (base := base) T)).mono (by decide)) hr (by rfl) T.g_whole_mask T.F_whole_mask.kp T.b_whole_mask (ma_cons (me_var 1) (ma_nil))))
    (ms_cons (ms_if (mt_not (mt_tru (me_call ((fn_pure (ok_all_whole (P := P) (w := w) (base := base) T)).mono (by decide)) hr (by rfl) T.g_all_whole T.F_all_whole.kp T.b_all_whole (ma_cons (me_var 2) (ma_cons (me_int) (ma_cons (me_var 3) (ma_nil)))))))
    (ms_one (ms_ret (me_bl)))
    (ms_nil))
    (ms_cons (ms_set (i := 4) sc_rounds_hold.nd rfl (by first | exact Or.inl rfl | exact Or.inr rfl) (me_int))
    (ms_cons (ms_for [5] [5] PassesOwn.never rfl (mi_seq (me_var 2)) (pg_name (i := 5) sc_rounds_hold.nd rfl (by first | exact Or.inl rfl | exact Or.inr rfl)) (tg_name 5)
    (ms_cons (ms_if (L2.PW.pt (mw_or (mt_tru (me_and (me_var 4) (me_var 5))) (mw_or1 (mt_not (mt_tru (me_call ((fn_pure (ok_fits_round (P := P) (w := w) (base := base) T)).mono (by decide)) hr (by rfl) T.g_fits_round T.F_fits_round.kp T.b_fits_round (ma_cons (me_var 0) (ma_cons (me_var 1) (ma_cons (me_var 4) (ma_cons (me_var 5) (ma_nil)))))))))))
    (ms_one (ms_ret (me_bl)))
    (ms_nil))
    (ms_one (ms_set (i := 4) sc_rounds_hold.nd rfl (by first | exact Or.inl rfl | exact Or.inr rfl) (me_or (me_var 4) (me_var 5))))))
    (ms_one (ms_ret (me_eq hr.units (me_var 4) (me_var 3)))))))
theorem ok_levels_hold (T : Txt K mg) : FnOk P w K mg base CX0 3 T.f_levels_hold T.fd_levels_hold [("rooms" : Str), ("needs" : Str), ("levels" : Str)] (spF K F_levels_hold) :=
  fn_def T.F_levels_hold sc_levels_hold fun cdv A outer s H E hr =>
    ms_cons (ms_set (i := 3) sc_levels_hold.nd rfl (by first | exact Or.inl rfl | exact Or.inr rfl) (me_call ((fn_pure (ok_whole_mask (P := P) (w := w) (base := base) T)).mono (by decide)) hr (by rfl) T.g_whole_mask T.F_whole_mask.kp T.b_whole_mask (ma_cons (me_var 1) (ma_nil))))
    (ms_cons (ms_if (mt_ne hr.units (me_get2 (hu_of hr) (me_var 2) (me_int) (me_neg (me_int))) (me_int))
    (ms_one (ms_ret (me_bl)))
    (ms_nil))
    (ms_cons (ms_forD 2 [4] [4, 5] PassesOwn.never rfl (pv 2) (pg_name (i := 4) sc_levels_hold.nd rfl (by first | exact Or.inl rfl | exact Or.inr rfl)) (tg_name 4) (ms_one (ms_for [5] [5] PassesOwn.never rfl (mi_seq (me_call ((fn_pure (ok_parts_within (P := P) (w := w) (base := base) T)).mono (by decide)) hr (by rfl) T.g_parts_within T.F_parts_within.kp T.b_parts_within (ma_cons (me_sub (me_var 3) (me_var 4)) (ma_nil)))) (pg_name (i := 5) sc_levels_hold.nd rfl (by first | exact Or.inl rfl | exact Or.inr rfl)) (tg_name 5)
    (ms_one (ms_if (mt_tru (me_call ((fn_pure (ok_fits_round (P := P) (w := w) (base := base) T)).mono (by decide)) hr (by rfl) T.g_fits_round T.F_fits_round.kp T.b_fits_round (ma_cons (me_var 0) (ma_cons (me_var 1) (ma_cons (me_var 4) (ma_cons (me_var 5) (ma_nil)))))))
    (ms_one (ms_if (L2.PW.pt (mw_or (mt_nin (hu_of hr) (me_or (me_var 4) (me_var 5)) (me_var 2)) (mw_or1 (mt_gt (me_ix (hu_of hr) (me_var 2) (me_or (me_var 4) (me_var 5))) (me_plus (me_ix (hu_of hr) (me_var 2) (me_var 4)) (me_int))))))
    (ms_one (ms_ret (me_bl)))
    (ms_nil)))
    (ms_nil))))))
    (ms_one (ms_ret (me_bl)))))
theorem ok_judge_rounds (T : Txt K mg) : FnOk P w K mg base CX0 4 T.f_judge_rounds T.fd_judge_rounds [("rooms" : Str), ("needs" : Str), ("result" : Str)] (spF K F_judge_rounds) :=
  fn_def T.F_judge_rounds sc_judge_rounds fun cdv A outer s H E hr =>
    ms_cons (ms_if (mt_not (mt_tru (me_call ((fn_pure (ok_is_row (P := P) (w := w) (base := base) T)).mono (by decide)) hr (by rfl) T.g_is_row T.F_is_row.kp T.b_is_row (ma_cons (me_var 2) (ma_cons (me_int) (ma_nil))))))
    (ms_one (ms_ret (me_bl)))
    (ms_nil))
    (ms_cons (ms_asg (me_var 2) (pg_tup rfl (pgs_cons (pg_name (i := 3) sc_judge_rounds.nd rfl (by first | exact Or.inl rfl | exact Or.inr rfl)) (pgs_cons (pg_name (i := 4) sc_judge_rounds.nd rfl (by first | exact Or.inl rfl | exact Or.inr rfl)) (pgs_cons (pg_name (i := 5) sc_judge_rounds.nd rfl (by first | exact Or.inl rfl | exact Or.inr rfl)) (pgs_nil))))) (Or.inr ⟨[3, 4, 5], tg_tup (tg_cons (tg_name 3) (tg_cons (tg_name 4) (tg_cons (tg_name 5) (tg_nil))))⟩))
    (ms_cons (ms_set (i := 6) sc_judge_rounds.nd rfl (by first | exact Or.inl rfl | exact Or.inr rfl) (me_call ((fn_pure (ok_whole_mask (P := P) (w := w) (base := base) T)).mono (by decide)) hr (by rfl) T.g_whole_mask T.F_whole_mask.kp T.b_whole_mask (ma_cons (me_var 1) (ma_nil))))
    (ms_cons (ms_if (mt_eq hr.units (me_var 3) (me_str))
    (ms_cons (ms_set (i := 7) sc_judge_rounds.nd rfl (by first | exact Or.inl rfl | exact Or.inr rfl) (me_call ((fn_pure (ok_pairs_dict (P := P) (w := w) (base := base) T)).mono (by decide)) hr (by rfl) T.g_pairs_dict T.F_pairs_dict.kp T.b_pairs_dict (ma_cons (me_var 1) (ma_cons (me_var 5) (ma_nil)))))
    (ms_cons (ms_if (L2.PW.pt (mw_or (mt_is (me_var 7) (me_non)) (mw_or1 (mt_not (mt_tru (me_call ((fn_pure (ok_rounds_hold (P := P) (w := w) (base := base) T)).mono (by decide)) hr (by rfl) T.g_rounds_hold T.F_rounds_hold.kp T.b_rounds_hold (ma_cons (me_var 0) (ma_cons (me_var 1) (ma_cons (me_var 4) (ma_nil))))))))))
    (ms_one (ms_ret (me_bl)))
    (ms_nil))
    (ms_one (ms_ret (me_andV (me_call ((fn_bor (ok_levels_hold (P := P) (w := w) (base := base) T)).mono (by decide)) hr (by rfl) T.g_levels_hold T.F_levels_hold.kp T.b_levels_hold (ma_cons (me_var 0) (ma_cons (me_var 1) (ma_cons (me_var 7) (ma_nil))))) (me_and1 (me_eq hr.units (me_get2 (hu_of hr) (me_var 7) (me_var 6) (me_neg (me_int))) (me_len (by rfl) T.z_len (ma_cons (me_var 4) (ma_nil))))))))))
    (ms_nil))
    (ms_cons (ms_if (L2.PW.pt (mw_or (mt_ne hr.units (me_var 3) (me_str)) (mw_or (mt_ne hr.units (me_var 5) (me_tup (ma_nil))) (mw_or (mt_not (mt_tru (me_call ((fn_pure (ok_all_whole (P := P) (w := w) (base := base) T)).mono (by decide)) hr (by rfl) T.g_all_whole T.F_all_whole.kp T.b_all_whole (ma_cons (me_var 4) (ma_cons (me_int) (ma_cons (me_var 6) (ma_nil))))))) (mw_or1 (mt_in (hu_of hr) (me_var 6) (me_var 4)))))))
    (ms_one (ms_ret (me_bl)))
    (ms_nil))
    (ms_cons (ms_set (i := 7) sc_judge_rounds.nd rfl (by first | exact Or.inl rfl | exact Or.inr rfl) (me_call ((fn_pure (ok_pairs_dict (P := P) (w := w) (base := base) T)).mono (by decide)) hr (by rfl) T.g_pairs_dict T.F_pairs_dict.kp T.b_pairs_dict (ma_cons (me_var 1) (ma_cons (me_tuple (by rfl) T.z_tuple (ma_cons (mf_frz (mf_lc (own := [(PySem.Str.ofString "mask", 8)]) rfl sc_judge_rounds.nd (mi_seq (me_var 4)) (blkOk_by (own := [(PySem.Str.ofString "mask", 8)]) (N := n_judge_rounds) (sc := (defScope s_judge_rounds)) (by decide +kernel)) (fun _ _ _ _ _ => pg_name (i := 8) sc_judge_rounds.nd rfl (by first | exact Or.inl rfl | exact Or.inr rfl)) (tg_name 8) (fun _ _ _ _ _ => mts_nil) (fun _ _ _ _ _ => me_tup (ma_cons (me_var 8) (ma_cons (me_int) (ma_nil)))))) (ma_nil))) (ma_nil)))))
    (ms_one (ms_ret (me_andV (me_isnot (me_var 7) (me_non)) (me_and1 (me_call ((fn_bor (ok_levels_hold (P := P) (w := w) (base := base) T)).mono (by decide)) hr (by rfl) T.g_levels_hold T.F_levels_hold.kp T.b_levels_hold (ma_cons (me_var 0) (ma_cons (me_var 1) (ma_cons (me_var 7) (ma_nil))))))))))))))
theorem ok_law (T : Txt K mg) : FnOk P w K mg base CX0 5 T.f_law T.fd_law [("script" : Str)] (spF K F_law) :=
  fn_def T.F_law sc_law fun cdv A outer s H E hr =>
    ms_cons (ms_set (i := 1) sc_law.nd rfl (by first | exact Or.inl rfl | exact Or.inr rfl) (me_call ((ok__law_begin (P := P) (w := w) (base := base) T).mono (by decide)) hr (by rfl) T.g__law_begin T.F__law_begin.kp T.b__law_begin (ma_cons (me_var 0) (ma_nil))))
    (ms_cons (ms_set (i := 2) sc_law.nd rfl (by first | exact Or.inl rfl | exact Or.inr rfl) (me_call ((ok__law_draw (P := P) (w := w) (base := base) T).mono (by decide)) hr (by rfl) T.g__law_draw T.F__law_draw.kp T.b__law_draw (ma_cons (me_var 1) (ma_cons (me_int) (ma_nil)))))
    (ms_cons (ms_set (i := 3) sc_law.nd rfl (by first | exact Or.inl rfl | exact Or.inr rfl) (me_sub (me_shl (me_int) (me_var 2)) (me_int)))
    (ms_cons (ms_set (i := 4) sc_law.nd rfl (by first | exact Or.inl rfl | exact Or.inr rfl) (mf_mut (mf_lst (ma_nil))))
    (ms_cons (ms_set (i := 5) sc_law.nd rfl (by first | exact Or.inl rfl | exact Or.inr rfl) (mf_mut (mf_lst (ma_nil))))
    (ms_cons (ms_for [6] [6, 7, 8] PassesOwn.never rfl (mi_range1 (by rfl) T.z_range (ma_cons (me_plus (me_int) (me_call ((ok__law_draw (P := P) (w := w) (base := base) T).mono (by decide)) hr (by rfl) T.g__law_draw T.F__law_draw.kp T.b__law_draw (ma_cons (me_var 1) (ma_cons (me_int) (ma_nil))))) (ma_nil))) (pg_name (i := 6) sc_law.nd rfl (by first | exact Or.inl rfl | exact Or.inr rfl)) (tg_name 6)
    (ms_cons (ms_set (i := 7) sc_law.nd rfl (by first | exact Or.inl rfl | exact Or.inr rfl) (me_tuple (by rfl) T.z_tuple (ma_cons (mf_frz (mf_lc (own := [(PySem.Str.ofString "host", 22)]) rfl sc_law.nd (mi_range1 (by rfl) T.z_range (ma_cons (me_var 2) (ma_nil))) (blkOk_by (own := [(PySem.Str.ofString "host", 22)]) (N := n_law) (sc := (defScope s_law)) (by decide +kernel)) (fun _ _ _ _ _ => pg_name (i := 22) sc_law.nd rfl (by first | exact Or.inl rfl | exact Or.inr rfl)) (tg_name 22) (fun _ _ _ _ _ => mts_nil) (fun _ _ _ _ _ => me_tuple (by rfl) T.z_tuple (ma_cons (mf_frz (mf_lc (own := [(PySem.Str.ofString "part", 23)]) rfl sc_law.nd (mi_range1 (by rfl) T.z_range (ma_cons (me_int) (ma_nil))) (blkOk_by (own := [(PySem.Str.ofString "part", 23)]) (N := n_law) (sc := (L2.relS { kind := PySem.ScopeKind.function, names := [(PySem.Str.ofString ".0", PySem.NameKind.local), (PySem.Str.ofString "host", PySem.NameKind.local), (PySem.Str.ofString "tuple", PySem.NameKind.globalImplicit), (PySem.Str.ofString "range", PySem.NameKind.globalImplicit), (PySem.Str.ofString "d", PySem.NameKind.free)], isGenerator := false, isCoroutine := false, more := [] : PySem.Scope } (defScope s_law))) (by decide +kernel)) (fun _ _ _ _ _ => pg_name (i := 23) sc_law.nd rfl (by first | exact Or.inl rfl | exact Or.inr rfl)) (tg_name 23) (fun _ _ _ _ _ => mts_nil) (fun _ _ _ _ _ => me_call ((ok__law_draw (P := P) (w := w) (base := base) T).mono (by decide)) hr (by rfl) T.g__law_draw T.F__law_draw.kp T.b__law_draw (ma_cons (me_var 1) (ma_cons (me_int) (ma_nil)))))) (ma_nil))))) (ma_nil))))
    (ms_cons (ms_expr (me_append (me_var 4) (ma_cons (me_var 7) (ma_nil))))
    (ms_cons (ms_set (i := 8) sc_law.nd rfl (by first | exact Or.inl rfl | exact Or.inr rfl) (me_max2 rfl (by rfl) T.z_max (ma_cons (me_sum rfl (by rfl) T.z_sum (ma_cons (me_plus (mf_frz (mf_lc (own := [(PySem.Str.ofString "one", 24)]) rfl sc_law.nd (mi_seq (me_var 7)) (blkOk_by (own := [(PySem.Str.ofString "one", 24)]) (N := n_law) (sc := (defScope s_law)) (by decide +kernel)) (fun _ _ _ _ _ => pg_name (i := 24) sc_law.nd rfl (by first | exact Or.inl rfl | exact Or.inr rfl)) (tg_name 24) (fun _ _ _ _ _ => mts_nil) (fun _ _ _ _ _ => me_plus (me_ix (hu_of hr) (me_var 24) (me_int)) (me_ix (hu_of hr) (me_var 24) (me_int))))) (mf_frz (mf_lst (ma_cons (me_int) (ma_nil))))) (ma_nil))) (ma_cons (me_sum rfl (by rfl) T.z_sum (ma_cons (me_plus (mf_frz (mf_lc (own := [(PySem.Str.ofString "one", 24)]) rfl sc_law.nd (mi_seq (me_var 7)) (blkOk_by (own := [(PySem.Str.ofString "one", 24)]) (N := n_law) (sc := (defScope s_law)) (by decide +kernel)) (fun _ _ _ _ _ => pg_name (i := 24) sc_law.nd rfl (by first | exact Or.inl rfl | exact Or.inr rfl)) (tg_name 24) (fun _ _ _ _ _ => mts_nil) (fun _ _ _ _ _ => me_plus (me_ix (hu_of hr) (me_var 24) (me_int)) (me_ix (hu_of hr) (me_var 24) (me_int))))) (mf_frz (mf_lst (ma_cons (me_int) (ma_nil))))) (ma_nil))) (ma_nil)))))
    (ms_one (ms_expr (me_append (me_var 5) (ma_cons (me_max2 rfl (by rfl) T.z_max (ma_cons (me_int) (ma_cons (me_sub (me_plus (me_var 8) (me_call ((ok__law_draw (P := P) (w := w) (base := base) T).mono (by decide)) hr (by rfl) T.g__law_draw T.F__law_draw.kp T.b__law_draw (ma_cons (me_var 1) (ma_cons (me_int) (ma_nil))))) (me_int)) (ma_nil)))) (ma_nil)))))))))
    (ms_cons (ms_set (i := 4) sc_law.nd rfl (by first | exact Or.inl rfl | exact Or.inr rfl) (me_tuple (by rfl) T.z_tuple (ma_cons (me_var 4) (ma_nil))))
    (ms_cons (ms_set (i := 5) sc_law.nd rfl (by first | exact Or.inl rfl | exact Or.inr rfl) (me_tuple (by rfl) T.z_tuple (ma_cons (me_var 5) (ma_nil))))
    (ms_cons (ms_for [9] [9, 10, 11] PassesOwn.never rfl (mi_range1 (by rfl) T.z_range (ma_cons (me_int) (ma_nil))) (pg_name (i := 9) sc_law.nd rfl (by first | exact Or.inl rfl | exact Or.inr rfl)) (tg_name 9)
    (ms_cons (ms_set (i := 10) sc_law.nd rfl (by first | exact Or.inl rfl | exact Or.inr rfl) (me_call ((ok__law_draw (P := P) (w := w) (base := base) T).mono (by decide)) hr (by rfl) T.g__law_draw T.F__law_draw.kp T.b__law_draw (ma_cons (me_var 1) (ma_cons (me_plus (me_var 3) (me_int)) (ma_nil)))))
    (ms_cons (ms_set (i := 11) sc_law.nd rfl (by first | exact Or.inl rfl | exact Or.inr rfl) (me_and (me_call ((ok__law_draw (P := P) (w := w) (base := base) T).mono (by decide)) hr (by rfl) T.g__law_draw T.F__law_draw.kp T.b__law_draw (ma_cons (me_var 1) (ma_cons (me_plus (me_var 3) (me_int)) (ma_nil)))) (me_sub (me_var 3) (me_var 10))))
    (ms_one (ms_if (mt_ne hr.units (me_call ((fn_pure (ok_fits_round (P := P) (w := w) (base := base) T)).mono (by decide)) hr (by rfl) T.g_fits_round T.F_fits_round.kp T.b_fits_round (ma_cons (me_var 5) (ma_cons (me_var 4) (ma_cons (me_var 10) (ma_cons (me_var 11) (ma_nil)))))) (me_call ((fn_pure (ok__law_fits (P := P) (w := w) (base := base) T)).mono (by decide)) hr (by rfl) T.g__law_fits T.F__law_fits.kp T.b__law_fits (ma_cons (me_var 5) (ma_cons (me_var 4) (ma_cons (me_var 10) (ma_cons (me_var 11) (ma_nil)))))))
    (ms_one (ms_ret (me_bl)))
    (ms_nil))))))
    (ms_cons (ms_asg (me_call ((fn_pure (ok__law_rows (P := P) (w := w) (base := base) T)).mono (by decide)) hr (by rfl) T.g__law_rows T.F__law_rows.kp T.b__law_rows (ma_cons (me_var 5) (ma_cons (me_var 4) (ma_cons (me_var 3) (ma_nil))))) (pg_tup rfl (pgs_cons (pg_name (i := 12) sc_law.nd rfl (by first | exact Or.inl rfl | exact Or.inr rfl)) (pgs_cons (pg_name (i := 13) sc_law.nd rfl (by first | exact Or.inl rfl | exact Or.inr rfl)) (pgs_nil)))) (Or.inr ⟨[12, 13], tg_tup (tg_cons (tg_name 12) (tg_cons (tg_name 13) (tg_nil)))⟩))
    (ms_cons (ms_set (i := 14) sc_law.nd rfl (by first | exact Or.inl rfl | exact Or.inr rfl) (me_call ((fn_pure (ok_fewest_rounds (P := P) (w := w) (base := base) T)).mono (by decide)) hr (by rfl) T.g_fewest_rounds T.F_fewest_rounds.kp T.b_fewest_rounds (ma_cons (me_var 5) (ma_cons (me_var 4) (ma_nil)))))
    (ms_cons (ms_if (mt_isnot (me_call ((fn_pure (ok_judge_rounds (P := P) (w := w) (base := base) T)).mono (by decide)) hr (by rfl) T.g_judge_rounds T.F_judge_rounds.kp T.b_judge_rounds (ma_cons (me_var 5) (ma_cons (me_var 4) (ma_cons (me_var 14) (ma_nil))))) (me_bl))
    (ms_one (ms_ret (me_bl)))
    (ms_nil))
    (ms_cons (ms_if (mt_nin (hu_of hr) (me_var 3) (me_var 12))
    (ms_cons (ms_if (mt_ne hr.units (me_var 14) (me_tup (ma_cons (me_str) (ma_cons (me_tuple (by rfl) T.z_tuple (ma_cons (mf_frz (mf_sorted rfl (by rfl) T.z_sorted (ma_cons (me_var 12) (ma_nil)))) (ma_nil))) (ma_cons (me_tup (ma_nil)) (ma_nil))))))
    (ms_one (ms_ret (me_bl)))
    (ms_nil))
    (ms_cons (ms_set (i := 15) sc_law.nd rfl (by first | exact Or.inl rfl | exact Or.inr rfl) (me_tup (ma_cons (me_str) (ma_cons (me_plus (me_tuple (by rfl) T.z_tuple (ma_cons (mf_frz (mf_sorted rfl (by rfl) T.z_sorted (ma_cons (me_var 12) (ma_nil)))) (ma_nil))) (me_tup (ma_cons (me_var 3) (ma_nil)))) (ma_cons (me_tup (ma_nil)) (ma_nil))))))
    (ms_cons (ms_set (i := 16) sc_law.nd rfl (by first | exact Or.inl rfl | exact Or.inr rfl) (me_tup (ma_cons (me_str) (ma_cons (me_slA (me_tuple (by rfl) T.z_tuple (ma_cons (mf_frz (mf_sorted rfl (by rfl) T.z_sorted (ma_cons (me_var 12) (ma_nil)))) (ma_nil))) (mo_some (me_int)) (mo_none)) (ma_cons (me_tup (ma_nil)) (ma_nil))))))
    (ms_one (ms_ret (me_andV (me_is (me_call ((fn_pure (ok_judge_rounds (P := P) (w := w) (base := base) T)).mono (by decide)) hr (by rfl) T.g_judge_rounds T.F_judge_rounds.kp T.b_judge_rounds (ma_cons (me_var 5) (ma_cons (me_var 4) (ma_cons (me_var 15) (ma_nil))))) (me_bl)) (me_and1 (me_is (me_call ((fn_pure (ok_judge_rounds (P := P) (w := w) (base := base) T)).mono (by decide)) hr (by rfl) T.g_judge_rounds T.F_judge_rounds.kp T.b_judge_rounds (ma_cons (me_var 5) (ma_cons (me_var 4) (ma_cons (me_var 16) (ma_nil))))) (me_bl)))))))))
    (ms_nil))
    (ms_cons (ms_if (mt_ne hr.units (me_var 14) (me_tup (ma_cons (me_str) (ma_cons (me_minT rfl hr.units (by rfl) T.z_min (ma_cons (me_ix (hu_of hr) (me_var 13) (me_var 3)) (ma_nil))) (ma_cons (me_tuple (by rfl) T.z_tuple (ma_cons (mf_frz (mf_lc (own := [(PySem.Str.ofString "mask", 25)]) rfl sc_law.nd (mi_seq (mf_frz (mf_sorted rfl (by rfl) T.z_sorted (ma_cons (me_var 12) (ma_nil))))) (blkOk_by (own := [(PySem.Str.ofString "mask", 25)]) (N := n_law) (sc := (defScope s_law)) (by decide +kernel)) (fun _ _ _ _ _ => pg_name (i := 25) sc_law.nd rfl (by first | exact Or.inl rfl | exact Or.inr rfl)) (tg_name 25) (fun _ _ _ _ _ => mts_nil) (fun _ _ _ _ _ => me_tup (ma_cons (me_var 25) (ma_cons (me_ix (hu_of hr) (me_var 12) (me_var 25)) (ma_nil)))))) (ma_nil))) (ma_nil))))))
    (ms_one (ms_ret (me_bl)))
    (ms_nil))
    (ms_cons (ms_asg (me_var 14) (pg_tup rfl (pgs_cons (pg_name (i := 17) sc_law.nd rfl (by first | exact Or.inl rfl | exact Or.inr rfl)) (pgs_cons (pg_name (i := 18) sc_law.nd rfl (by first | exact Or.inl rfl | exact Or.inr rfl)) (pgs_cons (pg_name (i := 19) sc_law.nd rfl (by first | exact Or.inl rfl | exact Or.inr rfl)) (pgs_nil))))) (Or.inr ⟨[17, 18, 19], tg_tup (tg_cons (tg_name 17) (tg_cons (tg_name 18) (tg_cons (tg_name 19) (tg_nil))))⟩))
    (ms_cons (ms_if (L2.PW.pt (mw_and (mt_isnot (me_call ((fn_pure (ok_judge_rounds (P := P) (w := w) (base := base) T)).mono (by decide)) hr (by rfl) T.g_judge_rounds T.F_judge_rounds.kp T.b_judge_rounds (ma_cons (me_var 5) (ma_cons (me_var 4) (ma_cons (me_tup (ma_cons (me_var 17) (ma_cons (me_plus (me_var 18) (me_tup (ma_cons (me_var 3) (ma_nil)))) (ma_cons (me_var 19) (ma_nil))))) (ma_nil))))) (me_bl)) (mw_and1 (mt_gt (me_var 3) (me_int)))))
    (ms_one (ms_ret (me_bl)))
    (ms_nil))
    (ms_cons (ms_set (i := 20) sc_law.nd rfl (by first | exact Or.inl rfl | exact Or.inr rfl) (me_call ((ok__law_draw (P := P) (w := w) (base := base) T).mono (by decide)) hr (by rfl) T.g__law_draw T.F__law_draw.kp T.b__law_draw (ma_cons (me_var 1) (ma_cons (me_len (by rfl) T.z_len (ma_cons (me_var 19) (ma_nil))) (ma_nil)))))
    (ms_cons (ms_set (i := 16) sc_law.nd rfl (by first | exact Or.inl rfl | exact Or.inr rfl) (me_plus (me_slA (me_var 19) (mo_none) (mo_some (me_var 20))) (me_slA (me_var 19) (mo_some (me_plus (me_var 20) (me_int))) (mo_none))))
    (ms_cons (ms_if (mt_isnot (me_call ((fn_pure (ok_judge_rounds (P := P) (w := w) (base := base) T)).mono (by decide)) hr (by rfl) T.g_judge_rounds T.F_judge_rounds.kp T.b_judge_rounds (ma_cons (me_var 5) (ma_cons (me_var 4) (ma_cons (me_tup (ma_cons (me_var 17) (ma_cons (me_var 18) (ma_cons (me_var 16) (ma_nil))))) (ma_nil))))) (me_bl))
    (ms_one (ms_ret (me_bl)))
    (ms_nil))
    (ms_cons (ms_set (i := 21) sc_law.nd rfl (by first | exact Or.inl rfl | exact Or.inr rfl) (me_plus (me_slA (me_var 19) (mo_none) (mo_some (me_sub (me_len (by rfl) T.z_len (ma_cons (me_var 19) (ma_nil))) (me_int)))) (me_tup (ma_cons (me_tup (ma_cons (me_ix (hu_of hr) (me_ix (hu_of hr) (me_var 19) (me_sub (me_len (by rfl) T.z_len (ma_cons (me_var 19) (ma_nil))) (me_int))) (me_int)) (ma_cons (me_plus (me_ix (hu_of hr) (me_ix (hu_of hr) (me_var 19) (me_sub (me_len (by rfl) T.z_len (ma_cons (me_var 19) (ma_nil))) (me_int))) (me_int)) (me_int)) (ma_nil)))) (ma_nil)))))
    (ms_cons (ms_if (mt_isnot (me_call ((fn_pure (ok_judge_rounds (P := P) (w := w) (base := base) T)).mono (by decide)) hr (by rfl) T.g_judge_rounds T.F_judge_rounds.kp T.b_judge_rounds (ma_cons (me_var 5) (ma_cons (me_var 4) (ma_cons (me_tup (ma_cons (me_var 17) (ma_cons (me_var 18) (ma_cons (me_var 21) (ma_nil))))) (ma_nil))))) (me_bl))
    (ms_one (ms_ret (me_bl)))
    (ms_nil))
    (ms_one (ms_ret (me_is (me_call ((fn_pure (ok_judge_rounds (P := P) (w := w) (base := base) T)).mono (by decide)) hr (by rfl) T.g_judge_rounds T.F_judge_rounds.kp T.b_judge_rounds (ma_cons (me_var 5) (ma_cons (me_var 4) (ma_cons (me_tup (ma_cons (me_str) (ma_cons (me_tuple (by rfl) T.z_tuple (ma_cons (mf_frz (mf_sorted rfl (by rfl) T.z_sorted (ma_cons (me_var 12) (ma_nil)))) (ma_nil))) (ma_cons (me_tup (ma_nil)) (ma_nil))))) (ma_nil))))) (me_bl))))))))))))))))))))))))
end
end K68
namespace K68
open PySem PySem.Spec PyProof.Rows L2 Mi

abbrev Q4 := Int × Int × Int × Int
def eQ (q : Q4) : D := .tup [.int q.1, .int q.2.1, .int q.2.2.1, .int q.2.2.2]
abbrev eRow (r : List Q4) : D := .tup (r.map eQ)
abbrev eInts (xs : List Int) : D := .tup (xs.map D.int)
abbrev eNeeds (n : List (List Q4)) : D := .tup (n.map eRow)
abbrev bt (t : Int) (h : Nat) : Prop := Builtin.bitAnd (t / 2 ^ h) 1 ≠ 0
def stepR (t u : Int) (a : Int) (p : Q4 × Nat) : Int :=
  if bt t p.2 then a + p.1.2.1 + p.1.2.2.2 else if bt u p.2 then a + p.1.1 + p.1.2.1 + max p.1.2.2.1 p.1.2.2.2 else a + p.1.1 + p.1.2.2.1
def mostR (t u : Int) (row : List Q4) : Int := row.zipIdx.foldl (stepR t u) 0
theorem nr_eQ (q : Q4) : nr (eQ q) = true := rfl
theorem nr_eRow (r : List Q4) : nr (eRow r) = true := nrs_map nr_eQ r
theorem nr_eNeeds (n : List (List Q4)) : nr (eNeeds n) = true := nrs_map nr_eRow n
theorem nr_eInts (n : List Int) : nr (eInts n) = true := nrs_map (fun _ => rfl) n
theorem nrs2 {a b : D} (ha : nr a = true) (hb : nr b = true) : nrs [a, b] = true := by simp [nrs, ha, hb]
theorem nrs3 {a b c : D} (ha : nr a = true) (hb : nr b = true) (hc : nr c = true) : nrs [a, b, c] = true := by simp [nrs, ha, hb, hc]
theorem nrs4 {a b c d : D} (ha : nr a = true) (hb : nr b = true) (hc : nr c = true) (hd : nr d = true) : nrs [a, b, c, d] = true := by simp [nrs, ha, hb, hc, hd]
theorem call_most (row : List Q4) (t u : Int) (μ : Mem) (Q : D → Mem → Prop) : CL (pureF F_most_rows) [eRow row, .int t, .int u] μ Q ↔ Q (.int (mostR t u row)) μ := by
  refine pure_ok (nrs3 (nr_eRow row) rfl rfl) ?_
  refine (c_def (by rfl)).mpr ?_
  unfold b_most_rows
  simp only [↓Mi.w_ret, ↓Mi.w_var0, ↓Mi.w_varS, ↓Mi.w_bin, ↓Mi.w_nil, ↓Mi.w_cons, ↓Mi.w_tup, ↓Mi.w_lst, ↓Mi.w_mut, ↓Mi.w_call, ↓Mi.w_if, ↓Mi.w_and, ↓Mi.w_or, ↓Mi.w_not, ↓Mi.w_B, ↓Mi.asb_bl, ↓Mi.w_andV, ↓Mi.w_orV, ↓Mi.w_notV, ↓Mi.w_tru, ↓Mi.tru_int, ↓Mi.tru_bl, ↓Mi.tru_non, ↓Mi.tru_tup, ↓Mi.tru_lst, ↓Mi.w_neg, ↓Mi.ex_int, ↓Mi.g_add, ↓Mi.g_sub, ↓Mi.g_and, ↓Mi.g_or, ↓Mi.g_xor, ↓Mi.g_lt, ↓Mi.g_le, ↓Mi.g_gt, ↓Mi.g_ge, ↓Mi.g_mul, ↓Mi.g_mod, ↓Mi.g_div, ↓Mi.g_pow, ↓Mi.g_shl, ↓Mi.g_shr, ↓Mi.g_catT, ↓Mi.g_catL, ↓Mi.g_eqi, ↓Mi.g_nei, ↓Mi.g_eqb, ↓Mi.g_neb, ↓Mi.g_eqs, ↓Mi.g_nes, ↓Mi.g_eqt, ↓Mi.g_net, ↓Mi.g_is, ↓Mi.g_isnot, ↓Mi.g_ix_i, ↓Mi.g_ix_t, ↓Mi.ixv_tup, ↓Mi.ixv_lst, ↓Mi.ixv_dK, ↓Mi.g_in, ↓Mi.g_nin, ↓Mi.w_part, ↓Mi.w_sl, ↓Mi.sl_tup, ↓Mi.sl_lst, ↓Mi.sl_scr, ↓Mi.w_rev, ↓Mi.ex_lst, ↓Mi.w_get2, ↓Mi.look_dK, ↓Mi.c_g1, ↓Mi.c_max2, ↓Mi.c_min2, ↓Mi.c_tuple, ↓Mi.dtuple_tup, ↓Mi.dtuple_lst, ↓Mi.dtuple_ref, ↓Mi.w_isi, ↓Mi.setl_0, ↓Mi.setl_s, ↓Mi.w_append, ↓Mi.app_ref, ↓Mi.t_name, ↓Mi.t_tup, ↓Mi.t_nil, ↓Mi.t_cons, ↓Mi.s_next, ↓Mi.s_break, ↓Mi.s_cont, ↓Mi.s_set, ↓Mi.s_ret, ↓Mi.s_retN, ↓Mi.s_expr, ↓Mi.s_if, ↓Mi.s_asg, ↓Mi.s_store, ↓Mi.s_seq, ↓Mi.k_nx, ↓Mi.k_rt, ↓Mi.k_bk, ↓Mi.k_ct, ↓Mi.sto_s, ↓Mi.sto_L, ↓Mi.sto_K, ↓Mi.s_for, ↓Mi.s_while, ↓Mi.r_rt, ↓Mi.r_nx, ↓Mi.tn_nx, ↓Mi.tn_ct, ↓Mi.tn_bk, ↓Mi.tn_rt, ↓Mi.w_seqI, ↓Mi.w_enumI, ↓Mi.w_zipI, ↓Mi.w_range1, ↓Mi.w_range2, ↓Mi.w_range3, ↓Mi.seq_tup, ↓Mi.seq_lst, ↓Mi.seq_ref, ↓Mi.w_lc, ↓Mi.w_yes, ↓Mi.w_chain, ↓Mi.isi_ii, ↓Mi.isi_bi, ↓Mi.isi_tt, ↓Mi.is_non_dK, ↓Mi.is_non_non, ↓Mi.is_blbl, ↓Mi.upd_0, ↓Mi.upd_s, ↓Mi.see_ref, ↓Mi.see_tup, ↓Mi.see_lst, ↓Mi.see_int, ↓Mi.see_str, ↓Mi.see_bl, ↓Mi.see_non, ↓Mi.see_dK, ↓Mi.see_dT, ↓Mi.see_scr, ↓Mi.cell_0, ↓Mi.cell_s, ↓Mi.push_0, ↓Mi.push_1, ↓Mi.push_2, ↓Mi.push_3, ↓Mi.push_4, ↓Mi.push_5, ↓Mi.opt_some, ↓Mi.it_true, ↓Mi.it_false, ↓Mi.it_dec, ↓Mi.it_not, Mi.wipeR, Mi.dlen_tup, Mi.dlen_lst, Mi.dint_int, Mi.dlist_lst, Mi.dlist_tup, Mi.isl_lst, Mi.isd_dK, Mi.atI_0, Mi.atI_1, Mi.atI_2, Mi.atI_3, Mi.atI_4, List.length_cons, List.length_nil, Nat.reduceAdd, Nat.reduceLeDiff, true_and, and_true, Mi.forget, List.set_cons_zero, List.set_cons_succ, List.map_cons, List.map_nil, List.cons_append, List.nil_append, List.replicate, Nat.reduceSub, Nat.le_refl]
  rw [enum_eq]
  refine for_ok (fun done ρ μ => ρ = [some (eRow row), some (.int t), some (.int u), some (.int (done.foldl (stepR t u) 0)), none, none, none, none, none, none] ∧ μ = []) _ (fun _ _ _ _ => rfl) ?_ ?_ ⟨rfl, rfl⟩
  · rintro done ⟨q, i⟩ rest ρ μ e ⟨rfl, rfl⟩
    simp only [↓Mi.w_ret, ↓Mi.w_var0, ↓Mi.w_varS, ↓Mi.w_bin, ↓Mi.w_nil, ↓Mi.w_cons, ↓Mi.w_tup, ↓Mi.w_lst, ↓Mi.w_mut, ↓Mi.w_call, ↓Mi.w_if, ↓Mi.w_and, ↓Mi.w_or, ↓Mi.w_not, ↓Mi.w_B, ↓Mi.asb_bl, ↓Mi.w_andV, ↓Mi.w_orV, ↓Mi.w_notV, ↓Mi.w_tru, ↓Mi.tru_int, ↓Mi.tru_bl, ↓Mi.tru_non, ↓Mi.tru_tup, ↓Mi.tru_lst, ↓Mi.w_neg, ↓Mi.ex_int, ↓Mi.g_add, ↓Mi.g_sub, ↓Mi.g_and, ↓Mi.g_or, ↓Mi.g_xor, ↓Mi.g_lt, ↓Mi.g_le, ↓Mi.g_gt, ↓Mi.g_ge, ↓Mi.g_mul, ↓Mi.g_mod, ↓Mi.g_div, ↓Mi.g_pow, ↓Mi.g_shl, ↓Mi.g_shr, ↓Mi.g_catT, ↓Mi.g_catL, ↓Mi.g_eqi, ↓Mi.g_nei, ↓Mi.g_eqb, ↓Mi.g_neb, ↓Mi.g_eqs, ↓Mi.g_nes, ↓Mi.g_eqt, ↓Mi.g_net, ↓Mi.g_is, ↓Mi.g_isnot, ↓Mi.g_ix_i, ↓Mi.g_ix_t, ↓Mi.ixv_tup, ↓Mi.ixv_lst, ↓Mi.ixv_dK, ↓Mi.g_in, ↓Mi.g_nin, ↓Mi.w_part, ↓Mi.w_sl, ↓Mi.sl_tup, ↓Mi.sl_lst, ↓Mi.sl_scr, ↓Mi.w_rev, ↓Mi.ex_lst, ↓Mi.w_get2, ↓Mi.look_dK, ↓Mi.c_g1, ↓Mi.c_max2, ↓Mi.c_min2, ↓Mi.c_tuple, ↓Mi.dtuple_tup, ↓Mi.dtuple_lst, ↓Mi.dtuple_ref, ↓Mi.w_isi, ↓Mi.setl_0, ↓Mi.setl_s, ↓Mi.w_append, ↓Mi.app_ref, ↓Mi.t_name, ↓Mi.t_tup, ↓Mi.t_nil, ↓Mi.t_cons, ↓Mi.s_next, ↓Mi.s_break, ↓Mi.s_cont, ↓Mi.s_set, ↓Mi.s_ret, ↓Mi.s_retN, ↓Mi.s_expr, ↓Mi.s_if, ↓Mi.s_asg, ↓Mi.s_store, ↓Mi.s_seq, ↓Mi.k_nx, ↓Mi.k_rt, ↓Mi.k_bk, ↓Mi.k_ct, ↓Mi.sto_s, ↓Mi.sto_L, ↓Mi.sto_K, ↓Mi.s_for, ↓Mi.s_while, ↓Mi.r_rt, ↓Mi.r_nx, ↓Mi.tn_nx, ↓Mi.tn_ct, ↓Mi.tn_bk, ↓Mi.tn_rt, ↓Mi.w_seqI, ↓Mi.w_enumI, ↓Mi.w_zipI, ↓Mi.w_range1, ↓Mi.w_range2, ↓Mi.w_range3, ↓Mi.seq_tup, ↓Mi.seq_lst, ↓Mi.seq_ref, ↓Mi.w_lc, ↓Mi.w_yes, ↓Mi.w_chain, ↓Mi.isi_ii, ↓Mi.isi_bi, ↓Mi.isi_tt, ↓Mi.is_non_dK, ↓Mi.is_non_non, ↓Mi.is_blbl, ↓Mi.upd_0, ↓Mi.upd_s, ↓Mi.see_ref, ↓Mi.see_tup, ↓Mi.see_lst, ↓Mi.see_int, ↓Mi.see_str, ↓Mi.see_bl, ↓Mi.see_non, ↓Mi.see_dK, ↓Mi.see_dT, ↓Mi.see_scr, ↓Mi.cell_0, ↓Mi.cell_s, ↓Mi.push_0, ↓Mi.push_1, ↓Mi.push_2, ↓Mi.push_3, ↓Mi.push_4, ↓Mi.push_5, ↓Mi.opt_some, ↓Mi.it_true, ↓Mi.it_false, ↓Mi.it_dec, ↓Mi.it_not, Mi.wipeR, Mi.dlen_tup, Mi.dlen_lst, Mi.dint_int, Mi.dlist_lst, Mi.dlist_tup, Mi.isl_lst, Mi.isd_dK, Mi.atI_0, Mi.atI_1, Mi.atI_2, Mi.atI_3, Mi.atI_4, List.length_cons, List.length_nil, Nat.reduceAdd, Nat.reduceLeDiff, true_and, and_true, Mi.forget, List.set_cons_zero, List.set_cons_succ, List.map_cons, List.map_nil, List.cons_append, List.nil_append, List.replicate, Nat.reduceSub, Nat.le_refl, eQ]
    have e1 : (i : Int) ≥ 0 := by omega
    simp only [Int.toNat_natCast, e1, true_and, List.foldl_append, List.foldl_cons, List.foldl_nil, stepR, bt, and_self]
    refine ⟨fun h1 => ?_, fun h1 => ⟨fun h2 => ?_, fun h2 => ?_⟩⟩
    · rw [if_pos h1]
    · rw [if_neg h1, if_pos h2]
    · rw [if_neg h1, if_neg h2]
  · rintro ρ μ ⟨rfl, rfl⟩
    simp only [↓Mi.w_ret, ↓Mi.w_var0, ↓Mi.w_varS, ↓Mi.w_bin, ↓Mi.w_nil, ↓Mi.w_cons, ↓Mi.w_tup, ↓Mi.w_lst, ↓Mi.w_mut, ↓Mi.w_call, ↓Mi.w_if, ↓Mi.w_and, ↓Mi.w_or, ↓Mi.w_not, ↓Mi.w_B, ↓Mi.asb_bl, ↓Mi.w_andV, ↓Mi.w_orV, ↓Mi.w_notV, ↓Mi.w_tru, ↓Mi.tru_int, ↓Mi.tru_bl, ↓Mi.tru_non, ↓Mi.tru_tup, ↓Mi.tru_lst, ↓Mi.w_neg, ↓Mi.ex_int, ↓Mi.g_add, ↓Mi.g_sub, ↓Mi.g_and, ↓Mi.g_or, ↓Mi.g_xor, ↓Mi.g_lt, ↓Mi.g_le, ↓Mi.g_gt, ↓Mi.g_ge, ↓Mi.g_mul, ↓Mi.g_mod, ↓Mi.g_div, ↓Mi.g_pow, ↓Mi.g_shl, ↓Mi.g_shr, ↓Mi.g_catT, ↓Mi.g_catL, ↓Mi.g_eqi, ↓Mi.g_nei, ↓Mi.g_eqb, ↓Mi.g_neb, ↓Mi.g_eqs, ↓Mi.g_nes, ↓Mi.g_eqt, ↓Mi.g_net, ↓Mi.g_is, ↓Mi.g_isnot, ↓Mi.g_ix_i, ↓Mi.g_ix_t, ↓Mi.ixv_tup, ↓Mi.ixv_lst, ↓Mi.ixv_dK, ↓Mi.g_in, ↓Mi.g_nin, ↓Mi.w_part, ↓Mi.w_sl, ↓Mi.sl_tup, ↓Mi.sl_lst, ↓Mi.sl_scr, ↓Mi.w_rev, ↓Mi.ex_lst, ↓Mi.w_get2, ↓Mi.look_dK, ↓Mi.c_g1, ↓Mi.c_max2, ↓Mi.c_min2, ↓Mi.c_tuple, ↓Mi.dtuple_tup, ↓Mi.dtuple_lst, ↓Mi.dtuple_ref, ↓Mi.w_isi, ↓Mi.setl_0, ↓Mi.setl_s, ↓Mi.w_append, ↓Mi.app_ref, ↓Mi.t_name, ↓Mi.t_tup, ↓Mi.t_nil, ↓Mi.t_cons, ↓Mi.s_next, ↓Mi.s_break, ↓Mi.s_cont, ↓Mi.s_set, ↓Mi.s_ret, ↓Mi.s_retN, ↓Mi.s_expr, ↓Mi.s_if, ↓Mi.s_asg, ↓Mi.s_store, ↓Mi.s_seq, ↓Mi.k_nx, ↓Mi.k_rt, ↓Mi.k_bk, ↓Mi.k_ct, ↓Mi.sto_s, ↓Mi.sto_L, ↓Mi.sto_K, ↓Mi.s_for, ↓Mi.s_while, ↓Mi.r_rt, ↓Mi.r_nx, ↓Mi.tn_nx, ↓Mi.tn_ct, ↓Mi.tn_bk, ↓Mi.tn_rt, ↓Mi.w_seqI, ↓Mi.w_enumI, ↓Mi.w_zipI, ↓Mi.w_range1, ↓Mi.w_range2, ↓Mi.w_range3, ↓Mi.seq_tup, ↓Mi.seq_lst, ↓Mi.seq_ref, ↓Mi.w_lc, ↓Mi.w_yes, ↓Mi.w_chain, ↓Mi.isi_ii, ↓Mi.isi_bi, ↓Mi.isi_tt, ↓Mi.is_non_dK, ↓Mi.is_non_non, ↓Mi.is_blbl, ↓Mi.upd_0, ↓Mi.upd_s, ↓Mi.see_ref, ↓Mi.see_tup, ↓Mi.see_lst, ↓Mi.see_int, ↓Mi.see_str, ↓Mi.see_bl, ↓Mi.see_non, ↓Mi.see_dK, ↓Mi.see_dT, ↓Mi.see_scr, ↓Mi.cell_0, ↓Mi.cell_s, ↓Mi.push_0, ↓Mi.push_1, ↓Mi.push_2, ↓Mi.push_3, ↓Mi.push_4, ↓Mi.push_5, ↓Mi.opt_some, ↓Mi.it_true, ↓Mi.it_false, ↓Mi.it_dec, ↓Mi.it_not, Mi.wipeR, Mi.dlen_tup, Mi.dlen_lst, Mi.dint_int, Mi.dlist_lst, Mi.dlist_tup, Mi.isl_lst, Mi.isd_dK, Mi.atI_0, Mi.atI_1, Mi.atI_2, Mi.atI_3, Mi.atI_4, List.length_cons, List.length_nil, Nat.reduceAdd, Nat.reduceLeDiff, true_and, and_true, Mi.forget, List.set_cons_zero, List.set_cons_succ, List.map_cons, List.map_nil, List.cons_append, List.nil_append, List.replicate, Nat.reduceSub, Nat.le_refl]
    exact backN_nr rfl
def fitB (rooms : List Int) (needs : List (List Q4)) (t u : Int) : Bool := (rooms.zip needs).all fun p => decide (mostR t u p.2 ≤ p.1)
theorem call_fits (rooms : List Int) (needs : List (List Q4)) (t u : Int) (μ : Mem) (Q : D → Mem → Prop) : CL (pureF F_fits_round) [eInts rooms, eNeeds needs, .int t, .int u] μ Q ↔ Q (.bl (fitB rooms needs t u)) μ := by
  refine pure_ok (nrs4 (nr_eInts _) (nr_eNeeds _) rfl rfl) ?_
  refine (c_def (by rfl)).mpr ?_
  unfold b_fits_round
  simp only [↓Mi.w_ret, ↓Mi.w_var0, ↓Mi.w_varS, ↓Mi.w_bin, ↓Mi.w_nil, ↓Mi.w_cons, ↓Mi.w_tup, ↓Mi.w_lst, ↓Mi.w_mut, ↓Mi.w_call, ↓Mi.w_if, ↓Mi.w_and, ↓Mi.w_or, ↓Mi.w_not, ↓Mi.w_B, ↓Mi.asb_bl, ↓Mi.w_andV, ↓Mi.w_orV, ↓Mi.w_notV, ↓Mi.w_tru, ↓Mi.tru_int, ↓Mi.tru_bl, ↓Mi.tru_non, ↓Mi.tru_tup, ↓Mi.tru_lst, ↓Mi.w_neg, ↓Mi.ex_int, ↓Mi.g_add, ↓Mi.g_sub, ↓Mi.g_and, ↓Mi.g_or, ↓Mi.g_xor, ↓Mi.g_lt, ↓Mi.g_le, ↓Mi.g_gt, ↓Mi.g_ge, ↓Mi.g_mul, ↓Mi.g_mod, ↓Mi.g_div, ↓Mi.g_pow, ↓Mi.g_shl, ↓Mi.g_shr, ↓Mi.g_catT, ↓Mi.g_catL, ↓Mi.g_eqi, ↓Mi.g_nei, ↓Mi.g_eqb, ↓Mi.g_neb, ↓Mi.g_eqs, ↓Mi.g_nes, ↓Mi.g_eqt, ↓Mi.g_net, ↓Mi.g_is, ↓Mi.g_isnot, ↓Mi.g_ix_i, ↓Mi.g_ix_t, ↓Mi.ixv_tup, ↓Mi.ixv_lst, ↓Mi.ixv_dK, ↓Mi.g_in, ↓Mi.g_nin, ↓Mi.w_part, ↓Mi.w_sl, ↓Mi.sl_tup, ↓Mi.sl_lst, ↓Mi.sl_scr, ↓Mi.w_rev, ↓Mi.ex_lst, ↓Mi.w_get2, ↓Mi.look_dK, ↓Mi.c_g1, ↓Mi.c_max2, ↓Mi.c_min2, ↓Mi.c_tuple, ↓Mi.dtuple_tup, ↓Mi.dtuple_lst, ↓Mi.dtuple_ref, ↓Mi.w_isi, ↓Mi.setl_0, ↓Mi.setl_s, ↓Mi.w_append, ↓Mi.app_ref, ↓Mi.t_name, ↓Mi.t_tup, ↓Mi.t_nil, ↓Mi.t_cons, ↓Mi.s_next, ↓Mi.s_break, ↓Mi.s_cont, ↓Mi.s_set, ↓Mi.s_ret, ↓Mi.s_retN, ↓Mi.s_expr, ↓Mi.s_if, ↓Mi.s_asg, ↓Mi.s_store, ↓Mi.s_seq, ↓Mi.k_nx, ↓Mi.k_rt, ↓Mi.k_bk, ↓Mi.k_ct, ↓Mi.sto_s, ↓Mi.sto_L, ↓Mi.sto_K, ↓Mi.s_for, ↓Mi.s_while, ↓Mi.r_rt, ↓Mi.r_nx, ↓Mi.tn_nx, ↓Mi.tn_ct, ↓Mi.tn_bk, ↓Mi.tn_rt, ↓Mi.w_seqI, ↓Mi.w_enumI, ↓Mi.w_zipI, ↓Mi.w_range1, ↓Mi.w_range2, ↓Mi.w_range3, ↓Mi.seq_tup, ↓Mi.seq_lst, ↓Mi.seq_ref, ↓Mi.w_lc, ↓Mi.w_yes, ↓Mi.w_chain, ↓Mi.isi_ii, ↓Mi.isi_bi, ↓Mi.isi_tt, ↓Mi.is_non_dK, ↓Mi.is_non_non, ↓Mi.is_blbl, ↓Mi.upd_0, ↓Mi.upd_s, ↓Mi.see_ref, ↓Mi.see_tup, ↓Mi.see_lst, ↓Mi.see_int, ↓Mi.see_str, ↓Mi.see_bl, ↓Mi.see_non, ↓Mi.see_dK, ↓Mi.see_dT, ↓Mi.see_scr, ↓Mi.cell_0, ↓Mi.cell_s, ↓Mi.push_0, ↓Mi.push_1, ↓Mi.push_2, ↓Mi.push_3, ↓Mi.push_4, ↓Mi.push_5, ↓Mi.opt_some, ↓Mi.it_true, ↓Mi.it_false, ↓Mi.it_dec, ↓Mi.it_not, Mi.wipeR, Mi.dlen_tup, Mi.dlen_lst, Mi.dint_int, Mi.dlist_lst, Mi.dlist_tup, Mi.isl_lst, Mi.isd_dK, Mi.atI_0, Mi.atI_1, Mi.atI_2, Mi.atI_3, Mi.atI_4, List.length_cons, List.length_nil, Nat.reduceAdd, Nat.reduceLeDiff, true_and, and_true, Mi.forget, List.set_cons_zero, List.set_cons_succ, List.map_cons, List.map_nil, List.cons_append, List.nil_append, List.replicate, Nat.reduceSub, Nat.le_refl]
  rw [zip_eq]
  refine for_ok (fun done ρ μ => ρ = [some (eInts rooms), some (eNeeds needs), some (.int t), some (.int u), none, none] ∧ μ = [] ∧ ∀ p ∈ done, mostR t u p.2 ≤ p.1) _ (fun _ _ _ _ => rfl) ?_ ?_ ⟨rfl, rfl, fun _ h => by cases h⟩
  · rintro done ⟨r, row⟩ rest ρ μ e ⟨rfl, rfl, hd⟩
    simp only [↓Mi.w_ret, ↓Mi.w_var0, ↓Mi.w_varS, ↓Mi.w_bin, ↓Mi.w_nil, ↓Mi.w_cons, ↓Mi.w_tup, ↓Mi.w_lst, ↓Mi.w_mut, ↓Mi.w_call, ↓Mi.w_if, ↓Mi.w_and, ↓Mi.w_or, ↓Mi.w_not, ↓Mi.w_B, ↓Mi.asb_bl, ↓Mi.w_andV, ↓Mi.w_orV, ↓Mi.w_notV, ↓Mi.w_tru, ↓Mi.tru_int, ↓Mi.tru_bl, ↓Mi.tru_non, ↓Mi.tru_tup, ↓Mi.tru_lst, ↓Mi.w_neg, ↓Mi.ex_int, ↓Mi.g_add, ↓Mi.g_sub, ↓Mi.g_and, ↓Mi.g_or, ↓Mi.g_xor, ↓Mi.g_lt, ↓Mi.g_le, ↓Mi.g_gt, ↓Mi.g_ge, ↓Mi.g_mul, ↓Mi.g_mod, ↓Mi.g_div, ↓Mi.g_pow, ↓Mi.g_shl, ↓Mi.g_shr, ↓Mi.g_catT, ↓Mi.g_catL, ↓Mi.g_eqi, ↓Mi.g_nei, ↓Mi.g_eqb, ↓Mi.g_neb, ↓Mi.g_eqs, ↓Mi.g_nes, ↓Mi.g_eqt, ↓Mi.g_net, ↓Mi.g_is, ↓Mi.g_isnot, ↓Mi.g_ix_i, ↓Mi.g_ix_t, ↓Mi.ixv_tup, ↓Mi.ixv_lst, ↓Mi.ixv_dK, ↓Mi.g_in, ↓Mi.g_nin, ↓Mi.w_part, ↓Mi.w_sl, ↓Mi.sl_tup, ↓Mi.sl_lst, ↓Mi.sl_scr, ↓Mi.w_rev, ↓Mi.ex_lst, ↓Mi.w_get2, ↓Mi.look_dK, ↓Mi.c_g1, ↓Mi.c_max2, ↓Mi.c_min2, ↓Mi.c_tuple, ↓Mi.dtuple_tup, ↓Mi.dtuple_lst, ↓Mi.dtuple_ref, ↓Mi.w_isi, ↓Mi.setl_0, ↓Mi.setl_s, ↓Mi.w_append, ↓Mi.app_ref, ↓Mi.t_name, ↓Mi.t_tup, ↓Mi.t_nil, ↓Mi.t_cons, ↓Mi.s_next, ↓Mi.s_break, ↓Mi.s_cont, ↓Mi.s_set, ↓Mi.s_ret, ↓Mi.s_retN, ↓Mi.s_expr, ↓Mi.s_if, ↓Mi.s_asg, ↓Mi.s_store, ↓Mi.s_seq, ↓Mi.k_nx, ↓Mi.k_rt, ↓Mi.k_bk, ↓Mi.k_ct, ↓Mi.sto_s, ↓Mi.sto_L, ↓Mi.sto_K, ↓Mi.s_for, ↓Mi.s_while, ↓Mi.r_rt, ↓Mi.r_nx, ↓Mi.tn_nx, ↓Mi.tn_ct, ↓Mi.tn_bk, ↓Mi.tn_rt, ↓Mi.w_seqI, ↓Mi.w_enumI, ↓Mi.w_zipI, ↓Mi.w_range1, ↓Mi.w_range2, ↓Mi.w_range3, ↓Mi.seq_tup, ↓Mi.seq_lst, ↓Mi.seq_ref, ↓Mi.w_lc, ↓Mi.w_yes, ↓Mi.w_chain, ↓Mi.isi_ii, ↓Mi.isi_bi, ↓Mi.isi_tt, ↓Mi.is_non_dK, ↓Mi.is_non_non, ↓Mi.is_blbl, ↓Mi.upd_0, ↓Mi.upd_s, ↓Mi.see_ref, ↓Mi.see_tup, ↓Mi.see_lst, ↓Mi.see_int, ↓Mi.see_str, ↓Mi.see_bl, ↓Mi.see_non, ↓Mi.see_dK, ↓Mi.see_dT, ↓Mi.see_scr, ↓Mi.cell_0, ↓Mi.cell_s, ↓Mi.push_0, ↓Mi.push_1, ↓Mi.push_2, ↓Mi.push_3, ↓Mi.push_4, ↓Mi.push_5, ↓Mi.opt_some, ↓Mi.it_true, ↓Mi.it_false, ↓Mi.it_dec, ↓Mi.it_not, Mi.wipeR, Mi.dlen_tup, Mi.dlen_lst, Mi.dint_int, Mi.dlist_lst, Mi.dlist_tup, Mi.isl_lst, Mi.isd_dK, Mi.atI_0, Mi.atI_1, Mi.atI_2, Mi.atI_3, Mi.atI_4, List.length_cons, List.length_nil, Nat.reduceAdd, Nat.reduceLeDiff, true_and, and_true, Mi.forget, List.set_cons_zero, List.set_cons_succ, List.map_cons, List.map_nil, List.cons_append, List.nil_append, List.replicate, Nat.reduceSub, Nat.le_refl, ↓call_most]
    refine ⟨fun h1 => ?_, fun h1 => ?_⟩
    · refine (backN_nr rfl).trans ?_
      have : fitB rooms needs t u = false := by
        unfold fitB
        rw [List.all_eq_false]
        exact ⟨(r, row), by rw [e]; simp, by simpa using h1⟩
      rw [this]
    · intro p hp
      rcases List.mem_append.mp hp with hp | hp
      · exact hd p hp
      · simp at hp; subst hp; simpa using h1
  · rintro ρ μ ⟨rfl, rfl, hd⟩
    simp only [↓Mi.w_ret, ↓Mi.w_var0, ↓Mi.w_varS, ↓Mi.w_bin, ↓Mi.w_nil, ↓Mi.w_cons, ↓Mi.w_tup, ↓Mi.w_lst, ↓Mi.w_mut, ↓Mi.w_call, ↓Mi.w_if, ↓Mi.w_and, ↓Mi.w_or, ↓Mi.w_not, ↓Mi.w_B, ↓Mi.asb_bl, ↓Mi.w_andV, ↓Mi.w_orV, ↓Mi.w_notV, ↓Mi.w_tru, ↓Mi.tru_int, ↓Mi.tru_bl, ↓Mi.tru_non, ↓Mi.tru_tup, ↓Mi.tru_lst, ↓Mi.w_neg, ↓Mi.ex_int, ↓Mi.g_add, ↓Mi.g_sub, ↓Mi.g_and, ↓Mi.g_or, ↓Mi.g_xor, ↓Mi.g_lt, ↓Mi.g_le, ↓Mi.g_gt, ↓Mi.g_ge, ↓Mi.g_mul, ↓Mi.g_mod, ↓Mi.g_div, ↓Mi.g_pow, ↓Mi.g_shl, ↓Mi.g_shr, ↓Mi.g_catT, ↓Mi.g_catL, ↓Mi.g_eqi, ↓Mi.g_nei, ↓Mi.g_eqb, ↓Mi.g_neb, ↓Mi.g_eqs, ↓Mi.g_nes, ↓Mi.g_eqt, ↓Mi.g_net, ↓Mi.g_is, ↓Mi.g_isnot, ↓Mi.g_ix_i, ↓Mi.g_ix_t, ↓Mi.ixv_tup, ↓Mi.ixv_lst, ↓Mi.ixv_dK, ↓Mi.g_in, ↓Mi.g_nin, ↓Mi.w_part, ↓Mi.w_sl, ↓Mi.sl_tup, ↓Mi.sl_lst, ↓Mi.sl_scr, ↓Mi.w_rev, ↓Mi.ex_lst, ↓Mi.w_get2, ↓Mi.look_dK, ↓Mi.c_g1, ↓Mi.c_max2, ↓Mi.c_min2, ↓Mi.c_tuple, ↓Mi.dtuple_tup, ↓Mi.dtuple_lst, ↓Mi.dtuple_ref, ↓Mi.w_isi, ↓Mi.setl_0, ↓Mi.setl_s, ↓Mi.w_append, ↓Mi.app_ref, ↓Mi.t_name, ↓Mi.t_tup, ↓Mi.t_nil, ↓Mi.t_cons, ↓Mi.s_next, ↓Mi.s_break, ↓Mi.s_cont, ↓Mi.s_set, ↓Mi.s_ret, ↓Mi.s_retN, ↓Mi.s_expr, ↓Mi.s_if, ↓Mi.s_asg, ↓Mi.s_store, ↓Mi.s_seq, ↓Mi.k_nx, ↓Mi.k_rt, ↓Mi.k_bk, ↓Mi.k_ct, ↓Mi.sto_s, ↓Mi.sto_L, ↓Mi.sto_K, ↓Mi.s_for, ↓Mi.s_while, ↓Mi.r_rt, ↓Mi.r_nx, ↓Mi.tn_nx, ↓Mi.tn_ct, ↓Mi.tn_bk, ↓Mi.tn_rt, ↓Mi.w_seqI, ↓Mi.w_enumI, ↓Mi.w_zipI, ↓Mi.w_range1, ↓Mi.w_range2, ↓Mi.w_range3, ↓Mi.seq_tup, ↓Mi.seq_lst, ↓Mi.seq_ref, ↓Mi.w_lc, ↓Mi.w_yes, ↓Mi.w_chain, ↓Mi.isi_ii, ↓Mi.isi_bi, ↓Mi.isi_tt, ↓Mi.is_non_dK, ↓Mi.is_non_non, ↓Mi.is_blbl, ↓Mi.upd_0, ↓Mi.upd_s, ↓Mi.see_ref, ↓Mi.see_tup, ↓Mi.see_lst, ↓Mi.see_int, ↓Mi.see_str, ↓Mi.see_bl, ↓Mi.see_non, ↓Mi.see_dK, ↓Mi.see_dT, ↓Mi.see_scr, ↓Mi.cell_0, ↓Mi.cell_s, ↓Mi.push_0, ↓Mi.push_1, ↓Mi.push_2, ↓Mi.push_3, ↓Mi.push_4, ↓Mi.push_5, ↓Mi.opt_some, ↓Mi.it_true, ↓Mi.it_false, ↓Mi.it_dec, ↓Mi.it_not, Mi.wipeR, Mi.dlen_tup, Mi.dlen_lst, Mi.dint_int, Mi.dlist_lst, Mi.dlist_tup, Mi.isl_lst, Mi.isd_dK, Mi.atI_0, Mi.atI_1, Mi.atI_2, Mi.atI_3, Mi.atI_4, List.length_cons, List.length_nil, Nat.reduceAdd, Nat.reduceLeDiff, true_and, and_true, Mi.forget, List.set_cons_zero, List.set_cons_succ, List.map_cons, List.map_nil, List.cons_append, List.nil_append, List.replicate, Nat.reduceSub, Nat.le_refl]
    refine (backN_nr rfl).trans ?_
    have : fitB rooms needs t u = true := by
      unfold fitB
      rw [List.all_eq_true]
      exact fun p hp => by simpa using hd p hp
    rw [this]
theorem call_lfits (rooms : List Int) (needs : List (List Q4)) (t u : Int) (hl : needs.length = rooms.length) (h1 : rooms.length ≤ 1000) (h2 : ∀ row ∈ needs, row.length ≤ 1000) (μ : Mem) (Q : D → Mem → Prop) :
    CL (pureF F__law_fits) [eInts rooms, eNeeds needs, .int t, .int u] μ Q ↔ Q (.bl (fitB rooms needs t u)) μ := by
  refine pure_ok (nrs4 (nr_eInts _) (nr_eNeeds _) rfl rfl) ?_
  refine (c_def (by rfl)).mpr ?_
  unfold b__law_fits
  simp only [↓Mi.w_ret, ↓Mi.w_var0, ↓Mi.w_varS, ↓Mi.w_bin, ↓Mi.w_nil, ↓Mi.w_cons, ↓Mi.w_tup, ↓Mi.w_lst, ↓Mi.w_mut, ↓Mi.w_call, ↓Mi.w_if, ↓Mi.w_and, ↓Mi.w_or, ↓Mi.w_not, ↓Mi.w_B, ↓Mi.asb_bl, ↓Mi.w_andV, ↓Mi.w_orV, ↓Mi.w_notV, ↓Mi.w_tru, ↓Mi.tru_int, ↓Mi.tru_bl, ↓Mi.tru_non, ↓Mi.tru_tup, ↓Mi.tru_lst, ↓Mi.w_neg, ↓Mi.ex_int, ↓Mi.g_add, ↓Mi.g_sub, ↓Mi.g_and, ↓Mi.g_or, ↓Mi.g_xor, ↓Mi.g_lt, ↓Mi.g_le, ↓Mi.g_gt, ↓Mi.g_ge, ↓Mi.g_mul, ↓Mi.g_mod, ↓Mi.g_div, ↓Mi.g_pow, ↓Mi.g_shl, ↓Mi.g_shr, ↓Mi.g_catT, ↓Mi.g_catL, ↓Mi.g_eqi, ↓Mi.g_nei, ↓Mi.g_eqb, ↓Mi.g_neb, ↓Mi.g_eqs, ↓Mi.g_nes, ↓Mi.g_eqt, ↓Mi.g_net, ↓Mi.g_is, ↓Mi.g_isnot, ↓Mi.g_ix_i, ↓Mi.g_ix_t, ↓Mi.ixv_tup, ↓Mi.ixv_lst, ↓Mi.ixv_dK, ↓Mi.g_in, ↓Mi.g_nin, ↓Mi.w_part, ↓Mi.w_sl, ↓Mi.sl_tup, ↓Mi.sl_lst, ↓Mi.sl_scr, ↓Mi.w_rev, ↓Mi.ex_lst, ↓Mi.w_get2, ↓Mi.look_dK, ↓Mi.c_g1, ↓Mi.c_max2, ↓Mi.c_min2, ↓Mi.c_tuple, ↓Mi.dtuple_tup, ↓Mi.dtuple_lst, ↓Mi.dtuple_ref, ↓Mi.w_isi, ↓Mi.setl_0, ↓Mi.setl_s, ↓Mi.w_append, ↓Mi.app_ref, ↓Mi.t_name, ↓Mi.t_tup, ↓Mi.t_nil, ↓Mi.t_cons, ↓Mi.s_next, ↓Mi.s_break, ↓Mi.s_cont, ↓Mi.s_set, ↓Mi.s_ret, ↓Mi.s_retN, ↓Mi.s_expr, ↓Mi.s_if, ↓Mi.s_asg, ↓Mi.s_store, ↓Mi.s_seq, ↓Mi.k_nx, ↓Mi.k_rt, ↓Mi.k_bk, ↓Mi.k_ct, ↓Mi.sto_s, ↓Mi.sto_L, ↓Mi.sto_K, ↓Mi.s_for, ↓Mi.s_while, ↓Mi.r_rt, ↓Mi.r_nx, ↓Mi.tn_nx, ↓Mi.tn_ct, ↓Mi.tn_bk, ↓Mi.tn_rt, ↓Mi.w_seqI, ↓Mi.w_enumI, ↓Mi.w_zipI, ↓Mi.w_range1, ↓Mi.w_range2, ↓Mi.w_range3, ↓Mi.seq_tup, ↓Mi.seq_lst, ↓Mi.seq_ref, ↓Mi.w_lc, ↓Mi.w_yes, ↓Mi.w_chain, ↓Mi.isi_ii, ↓Mi.isi_bi, ↓Mi.isi_tt, ↓Mi.is_non_dK, ↓Mi.is_non_non, ↓Mi.is_blbl, ↓Mi.upd_0, ↓Mi.upd_s, ↓Mi.see_ref, ↓Mi.see_tup, ↓Mi.see_lst, ↓Mi.see_int, ↓Mi.see_str, ↓Mi.see_bl, ↓Mi.see_non, ↓Mi.see_dK, ↓Mi.see_dT, ↓Mi.see_scr, ↓Mi.cell_0, ↓Mi.cell_s, ↓Mi.push_0, ↓Mi.push_1, ↓Mi.push_2, ↓Mi.push_3, ↓Mi.push_4, ↓Mi.push_5, ↓Mi.opt_some, ↓Mi.it_true, ↓Mi.it_false, ↓Mi.it_dec, ↓Mi.it_not, Mi.wipeR, Mi.dlen_tup, Mi.dlen_lst, Mi.dint_int, Mi.dlist_lst, Mi.dlist_tup, Mi.isl_lst, Mi.isd_dK, Mi.atI_0, Mi.atI_1, Mi.atI_2, Mi.atI_3, Mi.atI_4, List.length_cons, List.length_nil, Nat.reduceAdd, Nat.reduceLeDiff, true_and, and_true, Mi.forget, List.set_cons_zero, List.set_cons_succ, List.map_cons, List.map_nil, List.cons_append, List.nil_append, List.replicate, Nat.reduceSub, Nat.le_refl, List.length_map, Int.toNat_natCast]
  refine ⟨okR_nat (by omega), ?_⟩
  have hz : rooms.length = (rooms.zip needs).length := by rw [List.length_zip]; omega
  rw [hz, range_eq]
  refine for_ok (fun done ρ μ => ρ = [some (eInts rooms), some (eNeeds needs), some (.int t), some (.int u), none, none, none, none, none, none, none] ∧ μ = [] ∧ ∀ p ∈ done, mostR t u p.1.2 ≤ p.1.1) _ (fun _ _ _ _ => rfl) ?_ ?_ ⟨rfl, rfl, fun _ h => by cases h⟩
  · rintro done ⟨⟨r, row⟩, i⟩ rest ρ μ e ⟨rfl, rfl, hd⟩
    have ha := zipIdx_at e
    rw [List.getElem?_zip_eq_some] at ha
    obtain ⟨ha, hb⟩ := ha
    dsimp only at ha hb
    have hrow : row.length ≤ 1000 := h2 row (List.mem_of_getElem? hb)
    simp only [↓Mi.w_ret, ↓Mi.w_var0, ↓Mi.w_varS, ↓Mi.w_bin, ↓Mi.w_nil, ↓Mi.w_cons, ↓Mi.w_tup, ↓Mi.w_lst, ↓Mi.w_mut, ↓Mi.w_call, ↓Mi.w_if, ↓Mi.w_and, ↓Mi.w_or, ↓Mi.w_not, ↓Mi.w_B, ↓Mi.asb_bl, ↓Mi.w_andV, ↓Mi.w_orV, ↓Mi.w_notV, ↓Mi.w_tru, ↓Mi.tru_int, ↓Mi.tru_bl, ↓Mi.tru_non, ↓Mi.tru_tup, ↓Mi.tru_lst, ↓Mi.w_neg, ↓Mi.ex_int, ↓Mi.g_add, ↓Mi.g_sub, ↓Mi.g_and, ↓Mi.g_or, ↓Mi.g_xor, ↓Mi.g_lt, ↓Mi.g_le, ↓Mi.g_gt, ↓Mi.g_ge, ↓Mi.g_mul, ↓Mi.g_mod, ↓Mi.g_div, ↓Mi.g_pow, ↓Mi.g_shl, ↓Mi.g_shr, ↓Mi.g_catT, ↓Mi.g_catL, ↓Mi.g_eqi, ↓Mi.g_nei, ↓Mi.g_eqb, ↓Mi.g_neb, ↓Mi.g_eqs, ↓Mi.g_nes, ↓Mi.g_eqt, ↓Mi.g_net, ↓Mi.g_is, ↓Mi.g_isnot, ↓Mi.g_ix_i, ↓Mi.g_ix_t, ↓Mi.ixv_tup, ↓Mi.ixv_lst, ↓Mi.ixv_dK, ↓Mi.g_in, ↓Mi.g_nin, ↓Mi.w_part, ↓Mi.w_sl, ↓Mi.sl_tup, ↓Mi.sl_lst, ↓Mi.sl_scr, ↓Mi.w_rev, ↓Mi.ex_lst, ↓Mi.w_get2, ↓Mi.look_dK, ↓Mi.c_g1, ↓Mi.c_max2, ↓Mi.c_min2, ↓Mi.c_tuple, ↓Mi.dtuple_tup, ↓Mi.dtuple_lst, ↓Mi.dtuple_ref, ↓Mi.w_isi, ↓Mi.setl_0, ↓Mi.setl_s, ↓Mi.w_append, ↓Mi.app_ref, ↓Mi.t_name, ↓Mi.t_tup, ↓Mi.t_nil, ↓Mi.t_cons, ↓Mi.s_next, ↓Mi.s_break, ↓Mi.s_cont, ↓Mi.s_set, ↓Mi.s_ret, ↓Mi.s_retN, ↓Mi.s_expr, ↓Mi.s_if, ↓Mi.s_asg, ↓Mi.s_store, ↓Mi.s_seq, ↓Mi.k_nx, ↓Mi.k_rt, ↓Mi.k_bk, ↓Mi.k_ct, ↓Mi.sto_s, ↓Mi.sto_L, ↓Mi.sto_K, ↓Mi.s_for, ↓Mi.s_while, ↓Mi.r_rt, ↓Mi.r_nx, ↓Mi.tn_nx, ↓Mi.tn_ct, ↓Mi.tn_bk, ↓Mi.tn_rt, ↓Mi.w_seqI, ↓Mi.w_enumI, ↓Mi.w_zipI, ↓Mi.w_range1, ↓Mi.w_range2, ↓Mi.w_range3, ↓Mi.seq_tup, ↓Mi.seq_lst, ↓Mi.seq_ref, ↓Mi.w_lc, ↓Mi.w_yes, ↓Mi.w_chain, ↓Mi.isi_ii, ↓Mi.isi_bi, ↓Mi.isi_tt, ↓Mi.is_non_dK, ↓Mi.is_non_non, ↓Mi.is_blbl, ↓Mi.upd_0, ↓Mi.upd_s, ↓Mi.see_ref, ↓Mi.see_tup, ↓Mi.see_lst, ↓Mi.see_int, ↓Mi.see_str, ↓Mi.see_bl, ↓Mi.see_non, ↓Mi.see_dK, ↓Mi.see_dT, ↓Mi.see_scr, ↓Mi.cell_0, ↓Mi.cell_s, ↓Mi.push_0, ↓Mi.push_1, ↓Mi.push_2, ↓Mi.push_3, ↓Mi.push_4, ↓Mi.push_5, ↓Mi.opt_some, ↓Mi.it_true, ↓Mi.it_false, ↓Mi.it_dec, ↓Mi.it_not, Mi.wipeR, Mi.dlen_tup, Mi.dlen_lst, Mi.dint_int, Mi.dlist_lst, Mi.dlist_tup, Mi.isl_lst, Mi.isd_dK, Mi.atI_0, Mi.atI_1, Mi.atI_2, Mi.atI_3, Mi.atI_4, List.length_cons, List.length_nil, Nat.reduceAdd, Nat.reduceLeDiff, true_and, and_true, Mi.forget, List.set_cons_zero, List.set_cons_succ, List.map_cons, List.map_nil, List.cons_append, List.nil_append, List.replicate, Nat.reduceSub, Nat.le_refl, ↓opt_at ha, ↓opt_at hb, List.length_map, Int.toNat_natCast]
    refine ⟨okR_nat (by omega), ?_⟩
    rw [range_eq]
    refine for_ok (fun done ρ μ => ρ = [some (eInts rooms), some (eNeeds needs), some (.int t), some (.int u), some (.int i), some (.int (done.foldl (stepR t u) 0)), none, none, none, none, none] ∧ μ = []) _ (fun _ _ _ _ => rfl) ?_ ?_ ⟨rfl, rfl⟩
    · rintro done' ⟨q, j⟩ rest' ρ μ e' ⟨rfl, rfl⟩
      have hc := zipIdx_at e'
      simp only [↓Mi.w_ret, ↓Mi.w_var0, ↓Mi.w_varS, ↓Mi.w_bin, ↓Mi.w_nil, ↓Mi.w_cons, ↓Mi.w_tup, ↓Mi.w_lst, ↓Mi.w_mut, ↓Mi.w_call, ↓Mi.w_if, ↓Mi.w_and, ↓Mi.w_or, ↓Mi.w_not, ↓Mi.w_B, ↓Mi.asb_bl, ↓Mi.w_andV, ↓Mi.w_orV, ↓Mi.w_notV, ↓Mi.w_tru, ↓Mi.tru_int, ↓Mi.tru_bl, ↓Mi.tru_non, ↓Mi.tru_tup, ↓Mi.tru_lst, ↓Mi.w_neg, ↓Mi.ex_int, ↓Mi.g_add, ↓Mi.g_sub, ↓Mi.g_and, ↓Mi.g_or, ↓Mi.g_xor, ↓Mi.g_lt, ↓Mi.g_le, ↓Mi.g_gt, ↓Mi.g_ge, ↓Mi.g_mul, ↓Mi.g_mod, ↓Mi.g_div, ↓Mi.g_pow, ↓Mi.g_shl, ↓Mi.g_shr, ↓Mi.g_catT, ↓Mi.g_catL, ↓Mi.g_eqi, ↓Mi.g_nei, ↓Mi.g_eqb, ↓Mi.g_neb, ↓Mi.g_eqs, ↓Mi.g_nes, ↓Mi.g_eqt, ↓Mi.g_net, ↓Mi.g_is, ↓Mi.g_isnot, ↓Mi.g_ix_i, ↓Mi.g_ix_t, ↓Mi.ixv_tup, ↓Mi.ixv_lst, ↓Mi.ixv_dK, ↓Mi.g_in, ↓Mi.g_nin, ↓Mi.w_part, ↓Mi.w_sl, ↓Mi.sl_tup, ↓Mi.sl_lst, ↓Mi.sl_scr, ↓Mi.w_rev, ↓Mi.ex_lst, ↓Mi.w_get2, ↓Mi.look_dK, ↓Mi.c_g1, ↓Mi.c_max2, ↓Mi.c_min2, ↓Mi.c_tuple, ↓Mi.dtuple_tup, ↓Mi.dtuple_lst, ↓Mi.dtuple_ref, ↓Mi.w_isi, ↓Mi.setl_0, ↓Mi.setl_s, ↓Mi.w_append, ↓Mi.app_ref, ↓Mi.t_name, ↓Mi.t_tup, ↓Mi.t_nil, ↓Mi.t_cons, ↓Mi.s_next, ↓Mi.s_break, ↓Mi.s_cont, ↓Mi.s_set, ↓Mi.s_ret, ↓Mi.s_retN, ↓Mi.s_expr, ↓Mi.s_if, ↓Mi.s_asg, ↓Mi.s_store, ↓Mi.s_seq, ↓Mi.k_nx, ↓Mi.k_rt, ↓Mi.k_bk, ↓Mi.k_ct, ↓Mi.sto_s, ↓Mi.sto_L, ↓Mi.sto_K, ↓Mi.s_for, ↓Mi.s_while, ↓Mi.r_rt, ↓Mi.r_nx, ↓Mi.tn_nx, ↓Mi.tn_ct, ↓Mi.tn_bk, ↓Mi.tn_rt, ↓Mi.w_seqI, ↓Mi.w_enumI, ↓Mi.w_zipI, ↓Mi.w_range1, ↓Mi.w_range2, ↓Mi.w_range3, ↓Mi.seq_tup, ↓Mi.seq_lst, ↓Mi.seq_ref, ↓Mi.w_lc, ↓Mi.w_yes, ↓Mi.w_chain, ↓Mi.isi_ii, ↓Mi.isi_bi, ↓Mi.isi_tt, ↓Mi.is_non_dK, ↓Mi.is_non_non, ↓Mi.is_blbl, ↓Mi.upd_0, ↓Mi.upd_s, ↓Mi.see_ref, ↓Mi.see_tup, ↓Mi.see_lst, ↓Mi.see_int, ↓Mi.see_str, ↓Mi.see_bl, ↓Mi.see_non, ↓Mi.see_dK, ↓Mi.see_dT, ↓Mi.see_scr, ↓Mi.cell_0, ↓Mi.cell_s, ↓Mi.push_0, ↓Mi.push_1, ↓Mi.push_2, ↓Mi.push_3, ↓Mi.push_4, ↓Mi.push_5, ↓Mi.opt_some, ↓Mi.it_true, ↓Mi.it_false, ↓Mi.it_dec, ↓Mi.it_not, Mi.wipeR, Mi.dlen_tup, Mi.dlen_lst, Mi.dint_int, Mi.dlist_lst, Mi.dlist_tup, Mi.isl_lst, Mi.isd_dK, Mi.atI_0, Mi.atI_1, Mi.atI_2, Mi.atI_3, Mi.atI_4, List.length_cons, List.length_nil, Nat.reduceAdd, Nat.reduceLeDiff, true_and, and_true, Mi.forget, List.set_cons_zero, List.set_cons_succ, List.map_cons, List.map_nil, List.cons_append, List.nil_append, List.replicate, Nat.reduceSub, Nat.le_refl, ↓opt_at hb, ↓opt_at hc, eQ]
      have e1 : (j : Int) ≥ 0 := by omega
      simp only [Int.toNat_natCast, e1, true_and, List.foldl_append, List.foldl_cons, List.foldl_nil, stepR, bt, and_self]
      refine ⟨fun h1 => ?_, fun h1 => ⟨fun h2 => ?_, fun h2 => ?_⟩⟩
      · rw [if_pos h1]
      · rw [if_neg h1, if_pos h2]
      · rw [if_neg h1, if_neg h2]
    · rintro ρ μ ⟨rfl, rfl⟩
      simp only [↓Mi.w_ret, ↓Mi.w_var0, ↓Mi.w_varS, ↓Mi.w_bin, ↓Mi.w_nil, ↓Mi.w_cons, ↓Mi.w_tup, ↓Mi.w_lst, ↓Mi.w_mut, ↓Mi.w_call, ↓Mi.w_if, ↓Mi.w_and, ↓Mi.w_or, ↓Mi.w_not, ↓Mi.w_B, ↓Mi.asb_bl, ↓Mi.w_andV, ↓Mi.w_orV, ↓Mi.w_notV, ↓Mi.w_tru, ↓Mi.tru_int, ↓Mi.tru_bl, ↓Mi.tru_non, ↓Mi.tru_tup, ↓Mi.tru_lst, ↓Mi.w_neg, ↓Mi.ex_int, ↓Mi.g_add, ↓Mi.g_sub, ↓Mi.g_and, ↓Mi.g_or, ↓Mi.g_xor, ↓Mi.g_lt, ↓Mi.g_le, ↓Mi.g_gt, ↓Mi.g_ge, ↓Mi.g_mul, ↓Mi.g_mod, ↓Mi.g_div, ↓Mi.g_pow, ↓Mi.g_shl, ↓Mi.g_shr, ↓Mi.g_catT, ↓Mi.g_catL, ↓Mi.g_eqi, ↓Mi.g_nei, ↓Mi.g_eqb, ↓Mi.g_neb, ↓Mi.g_eqs, ↓Mi.g_nes, ↓Mi.g_eqt, ↓Mi.g_net, ↓Mi.g_is, ↓Mi.g_isnot, ↓Mi.g_ix_i, ↓Mi.g_ix_t, ↓Mi.ixv_tup, ↓Mi.ixv_lst, ↓Mi.ixv_dK, ↓Mi.g_in, ↓Mi.g_nin, ↓Mi.w_part, ↓Mi.w_sl, ↓Mi.sl_tup, ↓Mi.sl_lst, ↓Mi.sl_scr, ↓Mi.w_rev, ↓Mi.ex_lst, ↓Mi.w_get2, ↓Mi.look_dK, ↓Mi.c_g1, ↓Mi.c_max2, ↓Mi.c_min2, ↓Mi.c_tuple, ↓Mi.dtuple_tup, ↓Mi.dtuple_lst, ↓Mi.dtuple_ref, ↓Mi.w_isi, ↓Mi.setl_0, ↓Mi.setl_s, ↓Mi.w_append, ↓Mi.app_ref, ↓Mi.t_name, ↓Mi.t_tup, ↓Mi.t_nil, ↓Mi.t_cons, ↓Mi.s_next, ↓Mi.s_break, ↓Mi.s_cont, ↓Mi.s_set, ↓Mi.s_ret, ↓Mi.s_retN, ↓Mi.s_expr, ↓Mi.s_if, ↓Mi.s_asg, ↓Mi.s_store, ↓Mi.s_seq, ↓Mi.k_nx, ↓Mi.k_rt, ↓Mi.k_bk, ↓Mi.k_ct, ↓Mi.sto_s, ↓Mi.sto_L, ↓Mi.sto_K, ↓Mi.s_for, ↓Mi.s_while, ↓Mi.r_rt, ↓Mi.r_nx, ↓Mi.tn_nx, ↓Mi.tn_ct, ↓Mi.tn_bk, ↓Mi.tn_rt, ↓Mi.w_seqI, ↓Mi.w_enumI, ↓Mi.w_zipI, ↓Mi.w_range1, ↓Mi.w_range2, ↓Mi.w_range3, ↓Mi.seq_tup, ↓Mi.seq_lst, ↓Mi.seq_ref, ↓Mi.w_lc, ↓Mi.w_yes, ↓Mi.w_chain, ↓Mi.isi_ii, ↓Mi.isi_bi, ↓Mi.isi_tt, ↓Mi.is_non_dK, ↓Mi.is_non_non, ↓Mi.is_blbl, ↓Mi.upd_0, ↓Mi.upd_s, ↓Mi.see_ref, ↓Mi.see_tup, ↓Mi.see_lst, ↓Mi.see_int, ↓Mi.see_str, ↓Mi.see_bl, ↓Mi.see_non, ↓Mi.see_dK, ↓Mi.see_dT, ↓Mi.see_scr, ↓Mi.cell_0, ↓Mi.cell_s, ↓Mi.push_0, ↓Mi.push_1, ↓Mi.push_2, ↓Mi.push_3, ↓Mi.push_4, ↓Mi.push_5, ↓Mi.opt_some, ↓Mi.it_true, ↓Mi.it_false, ↓Mi.it_dec, ↓Mi.it_not, Mi.wipeR, Mi.dlen_tup, Mi.dlen_lst, Mi.dint_int, Mi.dlist_lst, Mi.dlist_tup, Mi.isl_lst, Mi.isd_dK, Mi.atI_0, Mi.atI_1, Mi.atI_2, Mi.atI_3, Mi.atI_4, List.length_cons, List.length_nil, Nat.reduceAdd, Nat.reduceLeDiff, true_and, and_true, Mi.forget, List.set_cons_zero, List.set_cons_succ, List.map_cons, List.map_nil, List.cons_append, List.nil_append, List.replicate, Nat.reduceSub, Nat.le_refl, ↓opt_at ha]
      refine ⟨fun h1 => ?_, fun h1 => ?_⟩
      · refine (backN_nr rfl).trans ?_
        have : fitB rooms needs t u = false := by
          unfold fitB
          rw [List.all_eq_false]
          exact ⟨(r, row), List.mem_of_getElem? (zipIdx_at e), by simp only [decide_eq_true_eq]; exact Int.not_le.mpr h1⟩
        rw [this]
      · intro p hp
        rcases List.mem_append.mp hp with hp | hp
        · exact hd p hp
        · simp at hp; subst hp; simpa [mostR] using h1
  · rintro ρ μ ⟨rfl, rfl, hd⟩
    simp only [↓Mi.w_ret, ↓Mi.w_var0, ↓Mi.w_varS, ↓Mi.w_bin, ↓Mi.w_nil, ↓Mi.w_cons, ↓Mi.w_tup, ↓Mi.w_lst, ↓Mi.w_mut, ↓Mi.w_call, ↓Mi.w_if, ↓Mi.w_and, ↓Mi.w_or, ↓Mi.w_not, ↓Mi.w_B, ↓Mi.asb_bl, ↓Mi.w_andV, ↓Mi.w_orV, ↓Mi.w_notV, ↓Mi.w_tru, ↓Mi.tru_int, ↓Mi.tru_bl, ↓Mi.tru_non, ↓Mi.tru_tup, ↓Mi.tru_lst, ↓Mi.w_neg, ↓Mi.ex_int, ↓Mi.g_add, ↓Mi.g_sub, ↓Mi.g_and, ↓Mi.g_or, ↓Mi.g_xor, ↓Mi.g_lt, ↓Mi.g_le, ↓Mi.g_gt, ↓Mi.g_ge, ↓Mi.g_mul, ↓Mi.g_mod, ↓Mi.g_div, ↓Mi.g_pow, ↓Mi.g_shl, ↓Mi.g_shr, ↓Mi.g_catT, ↓Mi.g_catL, ↓Mi.g_eqi, ↓Mi.g_nei, ↓Mi.g_eqb, ↓Mi.g_neb, ↓Mi.g_eqs, ↓Mi.g_nes, ↓Mi.g_eqt, ↓Mi.g_net, ↓Mi.g_is, ↓Mi.g_isnot, ↓Mi.g_ix_i, ↓Mi.g_ix_t, ↓Mi.ixv_tup, ↓Mi.ixv_lst, ↓Mi.ixv_dK, ↓Mi.g_in, ↓Mi.g_nin, ↓Mi.w_part, ↓Mi.w_sl, ↓Mi.sl_tup, ↓Mi.sl_lst, ↓Mi.sl_scr, ↓Mi.w_rev, ↓Mi.ex_lst, ↓Mi.w_get2, ↓Mi.look_dK, ↓Mi.c_g1, ↓Mi.c_max2, ↓Mi.c_min2, ↓Mi.c_tuple, ↓Mi.dtuple_tup, ↓Mi.dtuple_lst, ↓Mi.dtuple_ref, ↓Mi.w_isi, ↓Mi.setl_0, ↓Mi.setl_s, ↓Mi.w_append, ↓Mi.app_ref, ↓Mi.t_name, ↓Mi.t_tup, ↓Mi.t_nil, ↓Mi.t_cons, ↓Mi.s_next, ↓Mi.s_break, ↓Mi.s_cont, ↓Mi.s_set, ↓Mi.s_ret, ↓Mi.s_retN, ↓Mi.s_expr, ↓Mi.s_if, ↓Mi.s_asg, ↓Mi.s_store, ↓Mi.s_seq, ↓Mi.k_nx, ↓Mi.k_rt, ↓Mi.k_bk, ↓Mi.k_ct, ↓Mi.sto_s, ↓Mi.sto_L, ↓Mi.sto_K, ↓Mi.s_for, ↓Mi.s_while, ↓Mi.r_rt, ↓Mi.r_nx, ↓Mi.tn_nx, ↓Mi.tn_ct, ↓Mi.tn_bk, ↓Mi.tn_rt, ↓Mi.w_seqI, ↓Mi.w_enumI, ↓Mi.w_zipI, ↓Mi.w_range1, ↓Mi.w_range2, ↓Mi.w_range3, ↓Mi.seq_tup, ↓Mi.seq_lst, ↓Mi.seq_ref, ↓Mi.w_lc, ↓Mi.w_yes, ↓Mi.w_chain, ↓Mi.isi_ii, ↓Mi.isi_bi, ↓Mi.isi_tt, ↓Mi.is_non_dK, ↓Mi.is_non_non, ↓Mi.is_blbl, ↓Mi.upd_0, ↓Mi.upd_s, ↓Mi.see_ref, ↓Mi.see_tup, ↓Mi.see_lst, ↓Mi.see_int, ↓Mi.see_str, ↓Mi.see_bl, ↓Mi.see_non, ↓Mi.see_dK, ↓Mi.see_dT, ↓Mi.see_scr, ↓Mi.cell_0, ↓Mi.cell_s, ↓Mi.push_0, ↓Mi.push_1, ↓Mi.push_2, ↓Mi.push_3, ↓Mi.push_4, ↓Mi.push_5, ↓Mi.opt_some, ↓Mi.it_true, ↓Mi.it_false, ↓Mi.it_dec, ↓Mi.it_not, Mi.wipeR, Mi.dlen_tup, Mi.dlen_lst, Mi.dint_int, Mi.dlist_lst, Mi.dlist_tup, Mi.isl_lst, Mi.isd_dK, Mi.atI_0, Mi.atI_1, Mi.atI_2, Mi.atI_3, Mi.atI_4, List.length_cons, List.length_nil, Nat.reduceAdd, Nat.reduceLeDiff, true_and, and_true, Mi.forget, List.set_cons_zero, List.set_cons_succ, List.map_cons, List.map_nil, List.cons_append, List.nil_append, List.replicate, Nat.reduceSub, Nat.le_refl]
    refine (backN_nr rfl).trans ?_
    have : fitB rooms needs t u = true := by
      unfold fitB
      rw [List.all_eq_true]
      intro p hp
      obtain ⟨i, hi⟩ := List.getElem?_of_mem hp
      exact decide_eq_true (hd (p, i) (List.mk_mem_zipIdx_iff_getElem?.mpr hi))
    rw [this]
/-! masks -/
abbrev W (H : Nat) : Nat := 2 ^ H - 1
theorem w_int (H : Nat) : (1 : Int) * 2 ^ H - 1 = ((W H : Nat) : Int) := by
  have : 1 ≤ 2 ^ H := Nat.one_le_two_pow
  unfold W
  rw [Int.natCast_sub this]
  simp
structure Ok (H : Nat) (rooms : List Int) (needs : List (List Q4)) : Prop where
  len : needs.length = rooms.length
  ne : needs ≠ []
  row : ∀ r ∈ needs, r.length = H
  h4 : H ≤ 4
  l3 : rooms.length ≤ 1000
theorem call_whole {H : Nat} {rooms : List Int} {needs : List (List Q4)} (ok : Ok H rooms needs) (μ : Mem) (Q : D → Mem → Prop) : CL (pureF F_whole_mask) [eNeeds needs] μ Q ↔ Q (.int (W H : Nat)) μ := by
  refine pure_ok (by simp only [nrs, nr_eNeeds, Bool.and_self]) ?_
  refine (c_def (by rfl)).mpr ?_
  unfold b_whole_mask
  cases needs with
  | nil => exact absurd rfl ok.ne
  | cons r rs =>
    have hr := ok.row r List.mem_cons_self
    have h4 := ok.h4
    simp only [↓Mi.w_ret, ↓Mi.w_var0, ↓Mi.w_varS, ↓Mi.w_bin, ↓Mi.w_nil, ↓Mi.w_cons, ↓Mi.w_tup, ↓Mi.w_lst, ↓Mi.w_mut, ↓Mi.w_call, ↓Mi.w_if, ↓Mi.w_and, ↓Mi.w_or, ↓Mi.w_not, ↓Mi.w_B, ↓Mi.asb_bl, ↓Mi.w_andV, ↓Mi.w_orV, ↓Mi.w_notV, ↓Mi.w_tru, ↓Mi.tru_int, ↓Mi.tru_bl, ↓Mi.tru_non, ↓Mi.tru_tup, ↓Mi.tru_lst, ↓Mi.w_neg, ↓Mi.ex_int, ↓Mi.g_add, ↓Mi.g_sub, ↓Mi.g_and, ↓Mi.g_or, ↓Mi.g_xor, ↓Mi.g_lt, ↓Mi.g_le, ↓Mi.g_gt, ↓Mi.g_ge, ↓Mi.g_mul, ↓Mi.g_mod, ↓Mi.g_div, ↓Mi.g_pow, ↓Mi.g_shl, ↓Mi.g_shr, ↓Mi.g_catT, ↓Mi.g_catL, ↓Mi.g_eqi, ↓Mi.g_nei, ↓Mi.g_eqb, ↓Mi.g_neb, ↓Mi.g_eqs, ↓Mi.g_nes, ↓Mi.g_eqt, ↓Mi.g_net, ↓Mi.g_is, ↓Mi.g_isnot, ↓Mi.g_ix_i, ↓Mi.g_ix_t, ↓Mi.ixv_tup, ↓Mi.ixv_lst, ↓Mi.ixv_dK, ↓Mi.g_in, ↓Mi.g_nin, ↓Mi.w_part, ↓Mi.w_sl, ↓Mi.sl_tup, ↓Mi.sl_lst, ↓Mi.sl_scr, ↓Mi.w_rev, ↓Mi.ex_lst, ↓Mi.w_get2, ↓Mi.look_dK, ↓Mi.c_g1, ↓Mi.c_max2, ↓Mi.c_min2, ↓Mi.c_tuple, ↓Mi.dtuple_tup, ↓Mi.dtuple_lst, ↓Mi.dtuple_ref, ↓Mi.w_isi, ↓Mi.setl_0, ↓Mi.setl_s, ↓Mi.w_append, ↓Mi.app_ref, ↓Mi.t_name, ↓Mi.t_tup, ↓Mi.t_nil, ↓Mi.t_cons, ↓Mi.s_next, ↓Mi.s_break, ↓Mi.s_cont, ↓Mi.s_set, ↓Mi.s_ret, ↓Mi.s_retN, ↓Mi.s_expr, ↓Mi.s_if, ↓Mi.s_asg, ↓Mi.s_store, ↓Mi.s_seq, ↓Mi.k_nx, ↓Mi.k_rt, ↓Mi.k_bk, ↓Mi.k_ct, ↓Mi.sto_s, ↓Mi.sto_L, ↓Mi.sto_K, ↓Mi.s_for, ↓Mi.s_while, ↓Mi.r_rt, ↓Mi.r_nx, ↓Mi.tn_nx, ↓Mi.tn_ct, ↓Mi.tn_bk, ↓Mi.tn_rt, ↓Mi.w_seqI, ↓Mi.w_enumI, ↓Mi.w_zipI, ↓Mi.w_range1, ↓Mi.w_range2, ↓Mi.w_range3, ↓Mi.seq_tup, ↓Mi.seq_lst, ↓Mi.seq_ref, ↓Mi.w_lc, ↓Mi.w_yes, ↓Mi.w_chain, ↓Mi.isi_ii, ↓Mi.isi_bi, ↓Mi.isi_tt, ↓Mi.is_non_dK, ↓Mi.is_non_non, ↓Mi.is_blbl, ↓Mi.upd_0, ↓Mi.upd_s, ↓Mi.see_ref, ↓Mi.see_tup, ↓Mi.see_lst, ↓Mi.see_int, ↓Mi.see_str, ↓Mi.see_bl, ↓Mi.see_non, ↓Mi.see_dK, ↓Mi.see_dT, ↓Mi.see_scr, ↓Mi.cell_0, ↓Mi.cell_s, ↓Mi.push_0, ↓Mi.push_1, ↓Mi.push_2, ↓Mi.push_3, ↓Mi.push_4, ↓Mi.push_5, ↓Mi.opt_some, ↓Mi.it_true, ↓Mi.it_false, ↓Mi.it_dec, ↓Mi.it_not, Mi.wipeR, Mi.dlen_tup, Mi.dlen_lst, Mi.dint_int, Mi.dlist_lst, Mi.dlist_tup, Mi.isl_lst, Mi.isd_dK, Mi.atI_0, Mi.atI_1, Mi.atI_2, Mi.atI_3, Mi.atI_4, List.length_cons, List.length_nil, Nat.reduceAdd, Nat.reduceLeDiff, true_and, and_true, Mi.forget, List.set_cons_zero, List.set_cons_succ, List.map_cons, List.map_nil, List.cons_append, List.nil_append, List.replicate, Nat.reduceSub, Nat.le_refl, List.isEmpty_cons, Bool.not_false, ↓Mi.it_true, List.length_map, hr, Int.toNat_natCast, w_int]
    refine ⟨⟨by omega, by omega, by decide⟩, backN_nr rfl⟩
def parts (M : Nat) : List Nat := (List.range (M + 1)).filter fun x => decide (0 < x ∧ x &&& M = x)
abbrev eNats (xs : List Nat) : D := .lst (xs.map fun x => .int (x : Nat))
theorem parts_all : ∀ (M : Nat), M < 16 → ∃ d m, F_parts_within [.int (M : Nat)] [] = some (d, m) ∧ backN d m = some (eNats (parts M))
  | 0, _ => ⟨_, _, rfl, rfl⟩
  | 1, _ => ⟨_, _, rfl, rfl⟩
  | 2, _ => ⟨_, _, rfl, rfl⟩
  | 3, _ => ⟨_, _, rfl, rfl⟩
  | 4, _ => ⟨_, _, rfl, rfl⟩
  | 5, _ => ⟨_, _, rfl, rfl⟩
  | 6, _ => ⟨_, _, rfl, rfl⟩
  | 7, _ => ⟨_, _, rfl, rfl⟩
  | 8, _ => ⟨_, _, rfl, rfl⟩
  | 9, _ => ⟨_, _, rfl, rfl⟩
  | 10, _ => ⟨_, _, rfl, rfl⟩
  | 11, _ => ⟨_, _, rfl, rfl⟩
  | 12, _ => ⟨_, _, rfl, rfl⟩
  | 13, _ => ⟨_, _, rfl, rfl⟩
  | 14, _ => ⟨_, _, rfl, rfl⟩
  | 15, _ => ⟨_, _, rfl, rfl⟩
  | n + 16, h => absurd h (by omega)
theorem call_parts {M : Nat} (h : M < 16) (μ : Mem) (Q : D → Mem → Prop) : CL (pureF F_parts_within) [.int (M : Nat)] μ Q ↔ Q (eNats (parts M)) μ := by
  refine pure_ok rfl ?_
  obtain ⟨d, m, e, hb⟩ := parts_all M h
  exact ⟨d, m, e, hb⟩
end K68
namespace K68
open PySem PySem.Spec PyProof.Rows L2 Mi
/-! ## masks, in plain Lean -/
def pc (m : Nat) : Nat := m % 2 + (m / 2) % 2 + (m / 4) % 2 + (m / 8) % 2
def mf1 (H t u : Nat) : Bool := !(decide (t ≤ W H) && decide (u ∈ parts (W H - t))) || (decide (t ||| u ≤ W H) && decide (t < t ||| u) && decide (pc t < pc (t ||| u)) && decide (t &&& u = 0) && decide (u ≤ W H) && decide (0 < u))
def mf2 (H t u : Nat) : Bool := !(decide (t ≤ W H) && decide (u ≤ W H) && decide (0 < u) && decide (t &&& u = 0)) || decide (u ∈ parts (W H - t))
theorem mf_all : ((List.range 5).all fun H => (List.range 16).all fun t => (List.range 16).all fun u => mf1 H t u && mf2 H t u) = true := by decide +kernel
theorem mf_at {H t u : Nat} (hH : H < 5) (ht : t < 16) (hu : u < 16) : mf1 H t u = true ∧ mf2 H t u = true := by
  have h := mf_all
  rw [List.all_eq_true] at h
  have h := h H (List.mem_range.mpr hH)
  rw [List.all_eq_true] at h
  have h := h t (List.mem_range.mpr ht)
  rw [List.all_eq_true] at h
  have h := h u (List.mem_range.mpr hu)
  rwa [Bool.and_eq_true] at h
theorem mask_facts (H : Nat) (hH : H < 5) (t : Nat) (ht : t < 16) (u : Nat) (hu : u < 16) (h1 : t ≤ W H) (h2 : u ∈ parts (W H - t)) : t ||| u ≤ W H ∧ t < t ||| u ∧ pc t < pc (t ||| u) ∧ t &&& u = 0 ∧ u ≤ W H ∧ 0 < u := by
  have h := (mf_at hH ht hu).1
  unfold mf1 at h
  simp only [decide_eq_true h1, decide_eq_true h2, Bool.and_self, Bool.not_true, Bool.false_or, Bool.and_eq_true, decide_eq_true_eq] at h
  obtain ⟨⟨⟨⟨⟨a, b⟩, c⟩, d⟩, e⟩, f⟩ := h
  exact ⟨a, b, c, d, e, f⟩
theorem mask_back (H : Nat) (hH : H < 5) (t : Nat) (ht : t < 16) (u : Nat) (hu : u < 16) (h1 : t ≤ W H) (h2 : u ≤ W H) (h3 : 0 < u) (h4 : t &&& u = 0) : u ∈ parts (W H - t) := by
  have h := (mf_at hH ht hu).2
  unfold mf2 at h
  simpa only [decide_eq_true h1, decide_eq_true h2, decide_eq_true h3, decide_eq_true h4, Bool.and_self, Bool.not_true, Bool.false_or, Bool.and_eq_true, decide_eq_true_eq] using h
theorem pc_le : ∀ m, m < 16 → pc m ≤ 4 := by decide
theorem parts_lt {M u : Nat} (h : u ∈ parts M) : u ≤ M := by
  unfold parts at h
  rw [List.mem_filter, List.mem_range] at h
  omega
theorem parts_sorted (M : Nat) : (parts M).Pairwise (· < ·) := by
  unfold parts
  exact List.pairwise_lt_range.filter _
theorem W_lt {H : Nat} (h : H ≤ 4) : W H < 16 := by
  have : 2 ^ H ≤ 2 ^ 4 := Nat.pow_le_pow_right (by omega) h
  unfold W; omega
section
variable {H : Nat} {fit : Nat → Nat → Bool}
structure Stp (H : Nat) (fit : Nat → Nat → Bool) (t u : Nat) : Prop where
  le : t ≤ W H
  mem : u ∈ parts (W H - t)
  fit : fit t u = true
theorem Stp.facts (h4 : H ≤ 4) {t u : Nat} (s : Stp H fit t u) : t ||| u ≤ W H ∧ t < t ||| u ∧ pc t < pc (t ||| u) ∧ t &&& u = 0 ∧ u ≤ W H ∧ 0 < u := by
  have hw := W_lt h4
  have := s.le
  have := parts_lt s.mem
  exact mask_facts H (by omega) t (by omega) u (by omega) s.le s.mem
inductive Reach (H : Nat) (fit : Nat → Nat → Bool) : Nat → Nat → Prop
  | zero : Reach H fit 0 0
  | step {k t u : Nat} : Reach H fit k t → Stp H fit t u → Reach H fit (k + 1) (t ||| u)
theorem Reach.le (h4 : H ≤ 4) {k m : Nat} (r : Reach H fit k m) : m ≤ W H ∧ k ≤ m ∧ k ≤ pc m := by
  induction r with
  | zero => exact ⟨Nat.zero_le _, Nat.le_refl _, Nat.zero_le _⟩
  | step _ s ih => obtain ⟨a, b, c, _⟩ := s.facts h4; exact ⟨a, by omega, by omega⟩
inductive RR (H : Nat) (fit : Nat → Nat → Bool) : Nat → Nat → Prop
  | zero : RR H fit 0 (W H)
  | step {k t u : Nat} : Stp H fit t u → RR H fit k (t ||| u) → RR H fit (k + 1) t
theorem RR.le (h4 : H ≤ 4) {k m : Nat} (r : RR H fit k m) : m ≤ W H ∧ k + m ≤ W H := by
  induction r with
  | zero => exact ⟨Nat.le_refl _, by omega⟩
  | step s _ ih => obtain ⟨a, b, c, _⟩ := s.facts h4; exact ⟨s.le, by omega⟩
inductive Pth (H : Nat) (fit : Nat → Nat → Bool) : Nat → List Nat → Nat → Prop
  | nil {t : Nat} : Pth H fit t [] t
  | cons {t u m : Nat} {ps : List Nat} : Stp H fit t u → Pth H fit (t ||| u) ps m → Pth H fit t (u :: ps) m
theorem Pth.app {t m n : Nat} {ps qs : List Nat} (h : Pth H fit t ps m) (g : Pth H fit m qs n) : Pth H fit t (ps ++ qs) n := by
  induction h with
  | nil => exact g
  | cons s _ ih => exact .cons s (ih g)
theorem Pth.split {ps qs : List Nat} : ∀ {t n : Nat}, Pth H fit t (ps ++ qs) n → ∃ m, Pth H fit t ps m ∧ Pth H fit m qs n := by
  induction ps with
  | nil => exact fun h => ⟨_, .nil, h⟩
  | cons u ps ih =>
    intro t n h
    cases h with
    | cons s h => obtain ⟨m, a, b⟩ := ih h; exact ⟨m, .cons s a, b⟩
theorem Pth.det {ps : List Nat} : ∀ {t m n : Nat}, Pth H fit t ps m → Pth H fit t ps n → m = n := by
  induction ps with
  | nil => intro t m n a b; cases a; cases b; rfl
  | cons u ps ih => intro t m n a b; cases a with | cons _ a => cases b with | cons _ b => exact ih a b
theorem Pth.rr {t : Nat} {ps : List Nat} {m : Nat} (h : Pth H fit t ps m) (e : m = W H) : RR H fit ps.length t := by
  induction h with
  | nil => subst e; exact .zero
  | cons s _ ih => exact .step s (ih e)
theorem RR.pth {k t : Nat} (h : RR H fit k t) : ∃ ps, Pth H fit t ps (W H) ∧ ps.length = k := by
  induction h with
  | zero => exact ⟨[], .nil, rfl⟩
  | step s _ ih => obtain ⟨ps, a, b⟩ := ih; exact ⟨_, .cons s a, by rw [List.length_cons, b]⟩
theorem Reach.pth {k m : Nat} (h : Reach H fit k m) : ∃ ps, Pth H fit 0 ps m ∧ ps.length = k := by
  induction h with
  | zero => exact ⟨[], .nil, rfl⟩
  | step _ s ih => obtain ⟨ps, a, b⟩ := ih; exact ⟨_, a.app (.cons s .nil), by rw [List.length_append, b]; rfl⟩
theorem Pth.reach {ps : List Nat} {m t k : Nat} (h : Pth H fit t ps m) (r : Reach H fit k t) : Reach H fit (k + ps.length) m := by
  induction h generalizing k with
  | nil => exact r
  | cons s _ ih =>
    have := ih (.step r s)
    rw [List.length_cons, show ∀ x, k + (x + 1) = k + 1 + x from fun x => by omega]
    exact this
def Dist (H : Nat) (fit : Nat → Nat → Bool) (m d : Nat) : Prop := Reach H fit d m ∧ ∀ k, Reach H fit k m → d ≤ k
def RDist (H : Nat) (fit : Nat → Nat → Bool) (m d : Nat) : Prop := RR H fit d m ∧ ∀ k, RR H fit k m → d ≤ k
theorem Dist.inj {m d d' : Nat} (h : Dist H fit m d) (h' : Dist H fit m d') : d = d' := Nat.le_antisymm (h.2 _ h'.1) (h'.2 _ h.1)
theorem RDist.inj {m d d' : Nat} (h : RDist H fit m d) (h' : RDist H fit m d') : d = d' := Nat.le_antisymm (h.2 _ h'.1) (h'.2 _ h.1)
/-- what a table of the levels holds -/
structure Lev (H : Nat) (fit : Nat → Nat → Bool) (kvs : List (Nat × Nat)) : Prop where
  nd : (kvs.map (·.1)).Nodup
  ok : ∀ m d, kget kvs m = some d ↔ Dist H fit m d
theorem Lev.of {kvs : List (Nat × Nat)} (nd : (kvs.map (·.1)).Nodup) (a : ∀ m d, kget kvs m = some d → Reach H fit d m) (z : kget kvs 0 = some 0)
    (b : ∀ t u d', Stp H fit t u → kget kvs t = some d' → ∃ d, kget kvs (t ||| u) = some d ∧ d ≤ d' + 1) : Lev H fit kvs := by
  have key : ∀ k m, Reach H fit k m → ∃ d, kget kvs m = some d ∧ d ≤ k := by
    intro k m r
    induction r with
    | zero => exact ⟨0, z, Nat.le_refl _⟩
    | step _ s ih =>
      obtain ⟨d', h1, h2⟩ := ih
      obtain ⟨d, h3, h4⟩ := b _ _ _ s h1
      exact ⟨d, h3, by omega⟩
  refine ⟨nd, fun m d => ⟨fun h => ⟨a m d h, fun k r => ?_⟩, fun h => ?_⟩⟩
  · obtain ⟨d', h1, h2⟩ := key k m r
    rw [h] at h1; cases h1; exact h2
  · obtain ⟨d', h1, h2⟩ := key d m h.1
    have := h.2 _ (a _ _ h1)
    rw [h1]; congr 1; omega
structure Rem (H : Nat) (fit : Nat → Nat → Bool) (kvs : List (Nat × Nat)) : Prop where
  ok : ∀ m d, kget kvs m = some d ↔ RDist H fit m d
theorem Rem.of {kvs : List (Nat × Nat)} (a : ∀ m d, kget kvs m = some d → RR H fit d m) (z : kget kvs (W H) = some 0)
    (b : ∀ t u d', Stp H fit t u → kget kvs (t ||| u) = some d' → ∃ d, kget kvs t = some d ∧ d ≤ d' + 1) : Rem H fit kvs := by
  have key : ∀ k m, RR H fit k m → ∃ d, kget kvs m = some d ∧ d ≤ k := by
    intro k m r
    induction r with
    | zero => exact ⟨0, z, Nat.le_refl _⟩
    | step s _ ih =>
      obtain ⟨d', h1, h2⟩ := ih
      obtain ⟨d, h3, h4⟩ := b _ _ _ s h1
      exact ⟨d, h3, by omega⟩
  refine ⟨fun m d => ⟨fun h => ⟨a m d h, fun k r => ?_⟩, fun h => ?_⟩⟩
  · obtain ⟨d', h1, h2⟩ := key k m r
    rw [h] at h1; cases h1; exact h2
  · obtain ⟨d', h1, h2⟩ := key d m h.1
    have := h.2 _ (a _ _ h1)
    rw [h1]; congr 1; omega
end
end K68
namespace K68
open PySem PySem.Spec PyProof.Rows L2 Mi
abbrev fitN (rooms : List Int) (needs : List (List Q4)) (t u : Nat) : Bool := fitB rooms needs t u
structure LI (H : Nat) (fit : Nat → Nat → Bool) (i : Nat) (kvs : List (Nat × Nat)) : Prop where
  nd : (kvs.map (·.1)).Nodup
  a : ∀ m d, kget kvs m = some d → Reach H fit d m
  z : kget kvs 0 = some 0
  b : ∀ t u d', t < i → Stp H fit t u → kget kvs t = some d' → ∃ d, kget kvs (t ||| u) = some d ∧ d ≤ d' + 1
theorem LI.len {H : Nat} {fit : Nat → Nat → Bool} {i : Nat} {kvs : List (Nat × Nat)} (h : LI H fit i kvs) (h4 : H ≤ 4) : kvs.length ≤ 16 := by
  have := nodup_lt 16 _ h.nd fun x hx => by
    obtain ⟨p, hp, rfl⟩ := List.mem_map.mp hx
    have := (h.a p.1 p.2 (kget_of_mem h.nd hp)).le h4
    have := W_lt h4
    omega
  rwa [List.length_map] at this
theorem levels_run {H : Nat} {rooms : List Int} {needs : List (List Q4)} (ok : Ok H rooms needs) :
    CL F_round_levels [eInts rooms, eNeeds needs] [] (fun d m => ∃ kvs, Lev H (fitN rooms needs) kvs ∧ backN d m = some (dN kvs)) := by
  have hw := W_lt ok.h4
  refine (c_def (by rfl)).mpr ?_
  unfold b_round_levels
  simp only [↓Mi.w_ret, ↓Mi.w_var0, ↓Mi.w_varS, ↓Mi.w_bin, ↓Mi.w_nil, ↓Mi.w_cons, ↓Mi.w_tup, ↓Mi.w_lst, ↓Mi.w_mut, ↓Mi.w_call, ↓Mi.w_if, ↓Mi.w_and, ↓Mi.w_or, ↓Mi.w_not, ↓Mi.w_B, ↓Mi.asb_bl, ↓Mi.w_andV, ↓Mi.w_orV, ↓Mi.w_notV, ↓Mi.w_tru, ↓Mi.tru_int, ↓Mi.tru_bl, ↓Mi.tru_non, ↓Mi.tru_tup, ↓Mi.tru_lst, ↓Mi.w_neg, ↓Mi.ex_int, ↓Mi.g_xor, ↓Mi.g_lt, ↓Mi.g_le, ↓Mi.g_gt, ↓Mi.g_ge, ↓Mi.g_mul, ↓Mi.g_mod, ↓Mi.g_div, ↓Mi.g_pow, ↓Mi.g_shl, ↓Mi.g_shr, ↓Mi.g_catT, ↓Mi.g_catL, ↓Mi.g_eqi, ↓Mi.g_nei, ↓Mi.g_eqb, ↓Mi.g_neb, ↓Mi.g_eqs, ↓Mi.g_nes, ↓Mi.g_eqt, ↓Mi.g_net, ↓Mi.g_is, ↓Mi.g_isnot, ↓Mi.g_ix_i, ↓Mi.g_ix_t, ↓Mi.ixv_tup, ↓Mi.ixv_lst, ↓Mi.ixv_dK, ↓Mi.g_in, ↓Mi.g_nin, ↓Mi.w_part, ↓Mi.w_sl, ↓Mi.sl_tup, ↓Mi.sl_lst, ↓Mi.sl_scr, ↓Mi.w_rev, ↓Mi.ex_lst, ↓Mi.w_get2, ↓Mi.c_g1, ↓Mi.c_max2, ↓Mi.c_min2, ↓Mi.c_tuple, ↓Mi.dtuple_tup, ↓Mi.dtuple_lst, ↓Mi.dtuple_ref, ↓Mi.w_isi, ↓Mi.setl_0, ↓Mi.setl_s, ↓Mi.w_append, ↓Mi.app_ref, ↓Mi.t_name, ↓Mi.t_tup, ↓Mi.t_nil, ↓Mi.t_cons, ↓Mi.s_next, ↓Mi.s_break, ↓Mi.s_cont, ↓Mi.s_set, ↓Mi.s_ret, ↓Mi.s_retN, ↓Mi.s_expr, ↓Mi.s_if, ↓Mi.s_asg, ↓Mi.s_store, ↓Mi.s_seq, ↓Mi.k_nx, ↓Mi.k_rt, ↓Mi.k_bk, ↓Mi.k_ct, ↓Mi.sto_s, ↓Mi.sto_L, ↓Mi.s_for, ↓Mi.s_while, ↓Mi.r_rt, ↓Mi.r_nx, ↓Mi.tn_nx, ↓Mi.tn_ct, ↓Mi.tn_bk, ↓Mi.tn_rt, ↓Mi.w_seqI, ↓Mi.w_enumI, ↓Mi.w_zipI, ↓Mi.w_range1, ↓Mi.w_range2, ↓Mi.w_range3, ↓Mi.seq_tup, ↓Mi.seq_lst, ↓Mi.seq_ref, ↓Mi.w_lc, ↓Mi.w_yes, ↓Mi.w_chain, ↓Mi.isi_ii, ↓Mi.isi_bi, ↓Mi.isi_tt, ↓Mi.is_non_dK, ↓Mi.is_non_non, ↓Mi.is_blbl, ↓Mi.upd_0, ↓Mi.upd_s, ↓Mi.see_ref, ↓Mi.see_tup, ↓Mi.see_lst, ↓Mi.see_int, ↓Mi.see_str, ↓Mi.see_bl, ↓Mi.see_non, ↓Mi.see_dK, ↓Mi.see_dT, ↓Mi.see_scr, ↓Mi.cell_0, ↓Mi.cell_s, ↓Mi.push_0, ↓Mi.push_1, ↓Mi.push_2, ↓Mi.push_3, ↓Mi.push_4, ↓Mi.push_5, ↓Mi.opt_some, ↓Mi.it_true, ↓Mi.it_false, ↓Mi.it_dec, ↓Mi.it_not, ↓Mi.g_andN, ↓Mi.g_orN, ↓Mi.g_add1, ↓Mi.n_dget, ↓Mi.n_look, ↓Mi.n_in, ↓Mi.n_sto, ↓Mi.n_disp, ↓Mi.keyd_i, ↓Mi.c_minN, ↓Mi.g_eqgetN, ↓Mi.g_negetI, ↓Mi.in_tupN, ↓Mi.n_look0, Mi.wipeR, Mi.dlen_tup, Mi.dlen_lst, Mi.dint_int, Mi.dlist_lst, Mi.dlist_tup, Mi.isl_lst, Mi.isd_dK, Mi.atI_0, Mi.atI_1, Mi.atI_2, Mi.atI_3, Mi.atI_4, List.length_cons, List.length_nil, Nat.reduceAdd, Nat.reduceLeDiff, true_and, and_true, Mi.forget, List.set_cons_zero, List.set_cons_succ, List.map_cons, List.map_nil, List.cons_append, List.nil_append, List.replicate, Nat.reduceSub, Nat.le_refl, ↓call_whole ok, Int.toNat_natCast]
  refine ⟨okR_nat (by omega), ?_⟩
  rw [range_nat]
  refine for_ok (fun done ρ μ => ∃ kvs, ρ = [some (eInts rooms), some (eNeeds needs), some (.int (W H : Nat)), some (.ref 0), none, none, none] ∧ μ = [⟨false, dN kvs⟩] ∧ LI H (fitN rooms needs) done.length kvs) _ (fun _ _ _ _ => rfl) ?_ ?_ ⟨[(0, 0)], rfl, rfl, ?_⟩
  · rintro done i rest ρ μ e ⟨kvs, rfl, rfl, hI⟩
    obtain ⟨rfl, hi⟩ := range_split e
    rw [List.length_range] at hI
    have hle : i ≤ W H := by omega
    simp only [↓Mi.w_ret, ↓Mi.w_var0, ↓Mi.w_varS, ↓Mi.w_bin, ↓Mi.w_nil, ↓Mi.w_cons, ↓Mi.w_tup, ↓Mi.w_lst, ↓Mi.w_mut, ↓Mi.w_call, ↓Mi.w_if, ↓Mi.w_and, ↓Mi.w_or, ↓Mi.w_not, ↓Mi.w_B, ↓Mi.asb_bl, ↓Mi.w_andV, ↓Mi.w_orV, ↓Mi.w_notV, ↓Mi.w_tru, ↓Mi.tru_int, ↓Mi.tru_bl, ↓Mi.tru_non, ↓Mi.tru_tup, ↓Mi.tru_lst, ↓Mi.w_neg, ↓Mi.ex_int, ↓Mi.g_xor, ↓Mi.g_lt, ↓Mi.g_le, ↓Mi.g_gt, ↓Mi.g_ge, ↓Mi.g_mul, ↓Mi.g_mod, ↓Mi.g_div, ↓Mi.g_pow, ↓Mi.g_shl, ↓Mi.g_shr, ↓Mi.g_catT, ↓Mi.g_catL, ↓Mi.g_eqi, ↓Mi.g_nei, ↓Mi.g_eqb, ↓Mi.g_neb, ↓Mi.g_eqs, ↓Mi.g_nes, ↓Mi.g_eqt, ↓Mi.g_net, ↓Mi.g_is, ↓Mi.g_isnot, ↓Mi.g_ix_i, ↓Mi.g_ix_t, ↓Mi.ixv_tup, ↓Mi.ixv_lst, ↓Mi.ixv_dK, ↓Mi.g_in, ↓Mi.g_nin, ↓Mi.w_part, ↓Mi.w_sl, ↓Mi.sl_tup, ↓Mi.sl_lst, ↓Mi.sl_scr, ↓Mi.w_rev, ↓Mi.ex_lst, ↓Mi.w_get2, ↓Mi.c_g1, ↓Mi.c_max2, ↓Mi.c_min2, ↓Mi.c_tuple, ↓Mi.dtuple_tup, ↓Mi.dtuple_lst, ↓Mi.dtuple_ref, ↓Mi.w_isi, ↓Mi.setl_0, ↓Mi.setl_s, ↓Mi.w_append, ↓Mi.app_ref, ↓Mi.t_name, ↓Mi.t_tup, ↓Mi.t_nil, ↓Mi.t_cons, ↓Mi.s_next, ↓Mi.s_break, ↓Mi.s_cont, ↓Mi.s_set, ↓Mi.s_ret, ↓Mi.s_retN, ↓Mi.s_expr, ↓Mi.s_if, ↓Mi.s_asg, ↓Mi.s_store, ↓Mi.s_seq, ↓Mi.k_nx, ↓Mi.k_rt, ↓Mi.k_bk, ↓Mi.k_ct, ↓Mi.sto_s, ↓Mi.sto_L, ↓Mi.s_for, ↓Mi.s_while, ↓Mi.r_rt, ↓Mi.r_nx, ↓Mi.tn_nx, ↓Mi.tn_ct, ↓Mi.tn_bk, ↓Mi.tn_rt, ↓Mi.w_seqI, ↓Mi.w_enumI, ↓Mi.w_zipI, ↓Mi.w_range1, ↓Mi.w_range2, ↓Mi.w_range3, ↓Mi.seq_tup, ↓Mi.seq_lst, ↓Mi.seq_ref, ↓Mi.w_lc, ↓Mi.w_yes, ↓Mi.w_chain, ↓Mi.isi_ii, ↓Mi.isi_bi, ↓Mi.isi_tt, ↓Mi.is_non_dK, ↓Mi.is_non_non, ↓Mi.is_blbl, ↓Mi.upd_0, ↓Mi.upd_s, ↓Mi.see_ref, ↓Mi.see_tup, ↓Mi.see_lst, ↓Mi.see_int, ↓Mi.see_str, ↓Mi.see_bl, ↓Mi.see_non, ↓Mi.see_dK, ↓Mi.see_dT, ↓Mi.see_scr, ↓Mi.cell_0, ↓Mi.cell_s, ↓Mi.push_0, ↓Mi.push_1, ↓Mi.push_2, ↓Mi.push_3, ↓Mi.push_4, ↓Mi.push_5, ↓Mi.opt_some, ↓Mi.it_true, ↓Mi.it_false, ↓Mi.it_dec, ↓Mi.it_not, ↓Mi.g_andN, ↓Mi.g_orN, ↓Mi.g_add1, ↓Mi.n_dget, ↓Mi.n_look, ↓Mi.n_in, ↓Mi.n_sto, ↓Mi.n_disp, ↓Mi.keyd_i, ↓Mi.c_minN, ↓Mi.g_eqgetN, ↓Mi.g_negetI, ↓Mi.in_tupN, ↓Mi.n_look0, Mi.wipeR, Mi.dlen_tup, Mi.dlen_lst, Mi.dint_int, Mi.dlist_lst, Mi.dlist_tup, Mi.isl_lst, Mi.isd_dK, Mi.atI_0, Mi.atI_1, Mi.atI_2, Mi.atI_3, Mi.atI_4, List.length_cons, List.length_nil, Nat.reduceAdd, Nat.reduceLeDiff, true_and, and_true, Mi.forget, List.set_cons_zero, List.set_cons_succ, List.map_cons, List.map_nil, List.cons_append, List.nil_append, List.replicate, Nat.reduceSub, Nat.le_refl, ↓g_subN hle, ↓call_parts (show W H - i < 16 by omega)]
    have hl : (List.range i ++ [i]).length = i + 1 := by simp
    cases hk : kget kvs i with
    | none =>
      simp only [Option.isSome_none, ↓it_false]
      refine ⟨kvs, rfl, ?_⟩
      rw [hl]
      refine ⟨hI.nd, hI.a, hI.z, fun t u d' h s hd => ?_⟩
      rcases Nat.lt_succ_iff_lt_or_eq.mp h with h | h
      · exact hI.b t u d' h s hd
      · subst h; rw [hk] at hd; cases hd
    | some di =>
      simp only [Option.isSome_some, ↓it_true]
      refine for_ok (fun done ρ μ => ∃ kvs, ρ = [some (eInts rooms), some (eNeeds needs), some (.int (W H : Nat)), some (.ref 0), some (.int (i : Nat)), none, none] ∧ μ = [⟨false, dN kvs⟩] ∧ LI H (fitN rooms needs) i kvs ∧ kget kvs i = some di ∧
        ∀ u ∈ done, fitN rooms needs i u = true → ∃ d, kget kvs (i ||| u) = some d ∧ d ≤ di + 1) _ (fun _ _ _ _ => rfl) ?_ ?_ ⟨kvs, rfl, rfl, hI, hk, fun _ h => by cases h⟩
      · rintro done u rest ρ μ e ⟨kvs, rfl, rfl, hI, hk, hd⟩
        have hu : u ∈ parts (W H - i) := by rw [e]; simp
        simp only [↓Mi.w_ret, ↓Mi.w_var0, ↓Mi.w_varS, ↓Mi.w_bin, ↓Mi.w_nil, ↓Mi.w_cons, ↓Mi.w_tup, ↓Mi.w_lst, ↓Mi.w_mut, ↓Mi.w_call, ↓Mi.w_if, ↓Mi.w_and, ↓Mi.w_or, ↓Mi.w_not, ↓Mi.w_B, ↓Mi.asb_bl, ↓Mi.w_andV, ↓Mi.w_orV, ↓Mi.w_notV, ↓Mi.w_tru, ↓Mi.tru_int, ↓Mi.tru_bl, ↓Mi.tru_non, ↓Mi.tru_tup, ↓Mi.tru_lst, ↓Mi.w_neg, ↓Mi.ex_int, ↓Mi.g_xor, ↓Mi.g_lt, ↓Mi.g_le, ↓Mi.g_gt, ↓Mi.g_ge, ↓Mi.g_mul, ↓Mi.g_mod, ↓Mi.g_div, ↓Mi.g_pow, ↓Mi.g_shl, ↓Mi.g_shr, ↓Mi.g_catT, ↓Mi.g_catL, ↓Mi.g_eqi, ↓Mi.g_nei, ↓Mi.g_eqb, ↓Mi.g_neb, ↓Mi.g_eqs, ↓Mi.g_nes, ↓Mi.g_eqt, ↓Mi.g_net, ↓Mi.g_is, ↓Mi.g_isnot, ↓Mi.g_ix_i, ↓Mi.g_ix_t, ↓Mi.ixv_tup, ↓Mi.ixv_lst, ↓Mi.ixv_dK, ↓Mi.g_in, ↓Mi.g_nin, ↓Mi.w_part, ↓Mi.w_sl, ↓Mi.sl_tup, ↓Mi.sl_lst, ↓Mi.sl_scr, ↓Mi.w_rev, ↓Mi.ex_lst, ↓Mi.w_get2, ↓Mi.c_g1, ↓Mi.c_max2, ↓Mi.c_min2, ↓Mi.c_tuple, ↓Mi.dtuple_tup, ↓Mi.dtuple_lst, ↓Mi.dtuple_ref, ↓Mi.w_isi, ↓Mi.setl_0, ↓Mi.setl_s, ↓Mi.w_append, ↓Mi.app_ref, ↓Mi.t_name, ↓Mi.t_tup, ↓Mi.t_nil, ↓Mi.t_cons, ↓Mi.s_next, ↓Mi.s_break, ↓Mi.s_cont, ↓Mi.s_set, ↓Mi.s_ret, ↓Mi.s_retN, ↓Mi.s_expr, ↓Mi.s_if, ↓Mi.s_asg, ↓Mi.s_store, ↓Mi.s_seq, ↓Mi.k_nx, ↓Mi.k_rt, ↓Mi.k_bk, ↓Mi.k_ct, ↓Mi.sto_s, ↓Mi.sto_L, ↓Mi.s_for, ↓Mi.s_while, ↓Mi.r_rt, ↓Mi.r_nx, ↓Mi.tn_nx, ↓Mi.tn_ct, ↓Mi.tn_bk, ↓Mi.tn_rt, ↓Mi.w_seqI, ↓Mi.w_enumI, ↓Mi.w_zipI, ↓Mi.w_range1, ↓Mi.w_range2, ↓Mi.w_range3, ↓Mi.seq_tup, ↓Mi.seq_lst, ↓Mi.seq_ref, ↓Mi.w_lc, ↓Mi.w_yes, ↓Mi.w_chain, ↓Mi.isi_ii, ↓Mi.isi_bi, ↓Mi.isi_tt, ↓Mi.is_non_dK, ↓Mi.is_non_non, ↓Mi.is_blbl, ↓Mi.upd_0, ↓Mi.upd_s, ↓Mi.see_ref, ↓Mi.see_tup, ↓Mi.see_lst, ↓Mi.see_int, ↓Mi.see_str, ↓Mi.see_bl, ↓Mi.see_non, ↓Mi.see_dK, ↓Mi.see_dT, ↓Mi.see_scr, ↓Mi.cell_0, ↓Mi.cell_s, ↓Mi.push_0, ↓Mi.push_1, ↓Mi.push_2, ↓Mi.push_3, ↓Mi.push_4, ↓Mi.push_5, ↓Mi.opt_some, ↓Mi.it_true, ↓Mi.it_false, ↓Mi.it_dec, ↓Mi.it_not, ↓Mi.g_andN, ↓Mi.g_orN, ↓Mi.g_add1, ↓Mi.n_dget, ↓Mi.n_look, ↓Mi.n_in, ↓Mi.n_sto, ↓Mi.n_disp, ↓Mi.keyd_i, ↓Mi.c_minN, ↓Mi.g_eqgetN, ↓Mi.g_negetI, ↓Mi.in_tupN, ↓Mi.n_look0, Mi.wipeR, Mi.dlen_tup, Mi.dlen_lst, Mi.dint_int, Mi.dlist_lst, Mi.dlist_tup, Mi.isl_lst, Mi.isd_dK, Mi.atI_0, Mi.atI_1, Mi.atI_2, Mi.atI_3, Mi.atI_4, List.length_cons, List.length_nil, Nat.reduceAdd, Nat.reduceLeDiff, true_and, and_true, Mi.forget, List.set_cons_zero, List.set_cons_succ, List.map_cons, List.map_nil, List.cons_append, List.nil_append, List.replicate, Nat.reduceSub, Nat.le_refl, ↓call_fits]
        cases hf : fitB rooms needs i u with
        | false =>
          simp only [↓it_false]
          refine ⟨kvs, rfl, hI, hk, fun v hv hfv => ?_⟩
          rcases List.mem_append.mp hv with hv | hv
          · exact hd v hv hfv
          · simp at hv; subst hv; rw [show fitN rooms needs i v = false from hf] at hfv; cases hfv
        | true =>
          have s : Stp H (fitN rooms needs) i u := ⟨hle, hu, hf⟩
          obtain ⟨f1, f2, f3, f4, f5, f6⟩ := s.facts ok.h4
          have hR := hI.a i di hk
          have hdi := (hR.le ok.h4).2.1
          simp only [↓it_true, ↓Mi.w_ret, ↓Mi.w_var0, ↓Mi.w_varS, ↓Mi.w_bin, ↓Mi.w_nil, ↓Mi.w_cons, ↓Mi.w_tup, ↓Mi.w_lst, ↓Mi.w_mut, ↓Mi.w_call, ↓Mi.w_if, ↓Mi.w_and, ↓Mi.w_or, ↓Mi.w_not, ↓Mi.w_B, ↓Mi.asb_bl, ↓Mi.w_andV, ↓Mi.w_orV, ↓Mi.w_notV, ↓Mi.w_tru, ↓Mi.tru_int, ↓Mi.tru_bl, ↓Mi.tru_non, ↓Mi.tru_tup, ↓Mi.tru_lst, ↓Mi.w_neg, ↓Mi.ex_int, ↓Mi.g_xor, ↓Mi.g_lt, ↓Mi.g_le, ↓Mi.g_gt, ↓Mi.g_ge, ↓Mi.g_mul, ↓Mi.g_mod, ↓Mi.g_div, ↓Mi.g_pow, ↓Mi.g_shl, ↓Mi.g_shr, ↓Mi.g_catT, ↓Mi.g_catL, ↓Mi.g_eqi, ↓Mi.g_nei, ↓Mi.g_eqb, ↓Mi.g_neb, ↓Mi.g_eqs, ↓Mi.g_nes, ↓Mi.g_eqt, ↓Mi.g_net, ↓Mi.g_is, ↓Mi.g_isnot, ↓Mi.g_ix_i, ↓Mi.g_ix_t, ↓Mi.ixv_tup, ↓Mi.ixv_lst, ↓Mi.ixv_dK, ↓Mi.g_in, ↓Mi.g_nin, ↓Mi.w_part, ↓Mi.w_sl, ↓Mi.sl_tup, ↓Mi.sl_lst, ↓Mi.sl_scr, ↓Mi.w_rev, ↓Mi.ex_lst, ↓Mi.w_get2, ↓Mi.c_g1, ↓Mi.c_max2, ↓Mi.c_min2, ↓Mi.c_tuple, ↓Mi.dtuple_tup, ↓Mi.dtuple_lst, ↓Mi.dtuple_ref, ↓Mi.w_isi, ↓Mi.setl_0, ↓Mi.setl_s, ↓Mi.w_append, ↓Mi.app_ref, ↓Mi.t_name, ↓Mi.t_tup, ↓Mi.t_nil, ↓Mi.t_cons, ↓Mi.s_next, ↓Mi.s_break, ↓Mi.s_cont, ↓Mi.s_set, ↓Mi.s_ret, ↓Mi.s_retN, ↓Mi.s_expr, ↓Mi.s_if, ↓Mi.s_asg, ↓Mi.s_store, ↓Mi.s_seq, ↓Mi.k_nx, ↓Mi.k_rt, ↓Mi.k_bk, ↓Mi.k_ct, ↓Mi.sto_s, ↓Mi.sto_L, ↓Mi.s_for, ↓Mi.s_while, ↓Mi.r_rt, ↓Mi.r_nx, ↓Mi.tn_nx, ↓Mi.tn_ct, ↓Mi.tn_bk, ↓Mi.tn_rt, ↓Mi.w_seqI, ↓Mi.w_enumI, ↓Mi.w_zipI, ↓Mi.w_range1, ↓Mi.w_range2, ↓Mi.w_range3, ↓Mi.seq_tup, ↓Mi.seq_lst, ↓Mi.seq_ref, ↓Mi.w_lc, ↓Mi.w_yes, ↓Mi.w_chain, ↓Mi.isi_ii, ↓Mi.isi_bi, ↓Mi.isi_tt, ↓Mi.is_non_dK, ↓Mi.is_non_non, ↓Mi.is_blbl, ↓Mi.upd_0, ↓Mi.upd_s, ↓Mi.see_ref, ↓Mi.see_tup, ↓Mi.see_lst, ↓Mi.see_int, ↓Mi.see_str, ↓Mi.see_bl, ↓Mi.see_non, ↓Mi.see_dK, ↓Mi.see_dT, ↓Mi.see_scr, ↓Mi.cell_0, ↓Mi.cell_s, ↓Mi.push_0, ↓Mi.push_1, ↓Mi.push_2, ↓Mi.push_3, ↓Mi.push_4, ↓Mi.push_5, ↓Mi.opt_some, ↓Mi.it_true, ↓Mi.it_false, ↓Mi.it_dec, ↓Mi.it_not, ↓Mi.g_andN, ↓Mi.g_orN, ↓Mi.g_add1, ↓Mi.n_dget, ↓Mi.n_look, ↓Mi.n_in, ↓Mi.n_sto, ↓Mi.n_disp, ↓Mi.keyd_i, ↓Mi.c_minN, ↓Mi.g_eqgetN, ↓Mi.g_negetI, ↓Mi.in_tupN, ↓Mi.n_look0, Mi.wipeR, Mi.dlen_tup, Mi.dlen_lst, Mi.dint_int, Mi.dlist_lst, Mi.dlist_tup, Mi.isl_lst, Mi.isd_dK, Mi.atI_0, Mi.atI_1, Mi.atI_2, Mi.atI_3, Mi.atI_4, List.length_cons, List.length_nil, Nat.reduceAdd, Nat.reduceLeDiff, true_and, and_true, Mi.forget, List.set_cons_zero, List.set_cons_succ, List.map_cons, List.map_nil, List.cons_append, List.nil_append, List.replicate, Nat.reduceSub, Nat.le_refl, ↓opt_eq hk]
          refine ⟨by have := hI.len ok.h4; omega, kput kvs (i ||| u) (min ((kget kvs (i ||| u)).getD (W H + 1)) (di + 1)), rfl, ?_, ?_, ?_⟩
          · refine ⟨kput_nodup hI.nd, fun m d h => ?_, ?_, fun t v d' h s hd => ?_⟩
            · rw [kget_put] at h
              split at h
              · rename_i em
                subst em
                cases hg : kget kvs (i ||| u) with
                | none =>
                  rw [hg] at h
                  simp only [Option.getD_none, Option.some.injEq] at h
                  rw [← h, Nat.min_eq_right (by omega)]
                  exact .step hR s
                | some d0 =>
                  rw [hg] at h
                  simp only [Option.getD_some, Option.some.injEq] at h
                  rcases Nat.le_total d0 (di + 1) with q | q
                  · rw [Nat.min_eq_left q] at h; subst h; exact hI.a _ _ hg
                  · rw [Nat.min_eq_right q] at h; subst h; exact .step hR s
              · exact hI.a m d h
            · rw [kget_put, if_neg (by omega)]; exact hI.z
            · rw [kget_put, if_neg (by omega)] at hd
              obtain ⟨d, h1, h2⟩ := hI.b t v d' h s hd
              rw [kget_put]
              split
              · rename_i em
                rw [← em, h1]
                exact ⟨_, rfl, by simp only [Option.getD_some]; omega⟩
              · exact ⟨d, h1, h2⟩
          · rw [kget_put, if_neg (by omega)]; exact hk
          · intro v hv hfv
            rw [kget_put]
            split
            · exact ⟨_, rfl, by omega⟩
            · rename_i hne
              rcases List.mem_append.mp hv with hv | hv
              · exact hd v hv hfv
              · simp at hv; subst hv; exact absurd rfl hne
      · rintro ρ μ ⟨kvs, rfl, rfl, hI, hk, hd⟩
        simp only [↓Mi.w_ret, ↓Mi.w_var0, ↓Mi.w_varS, ↓Mi.w_bin, ↓Mi.w_nil, ↓Mi.w_cons, ↓Mi.w_tup, ↓Mi.w_lst, ↓Mi.w_mut, ↓Mi.w_call, ↓Mi.w_if, ↓Mi.w_and, ↓Mi.w_or, ↓Mi.w_not, ↓Mi.w_B, ↓Mi.asb_bl, ↓Mi.w_andV, ↓Mi.w_orV, ↓Mi.w_notV, ↓Mi.w_tru, ↓Mi.tru_int, ↓Mi.tru_bl, ↓Mi.tru_non, ↓Mi.tru_tup, ↓Mi.tru_lst, ↓Mi.w_neg, ↓Mi.ex_int, ↓Mi.g_xor, ↓Mi.g_lt, ↓Mi.g_le, ↓Mi.g_gt, ↓Mi.g_ge, ↓Mi.g_mul, ↓Mi.g_mod, ↓Mi.g_div, ↓Mi.g_pow, ↓Mi.g_shl, ↓Mi.g_shr, ↓Mi.g_catT, ↓Mi.g_catL, ↓Mi.g_eqi, ↓Mi.g_nei, ↓Mi.g_eqb, ↓Mi.g_neb, ↓Mi.g_eqs, ↓Mi.g_nes, ↓Mi.g_eqt, ↓Mi.g_net, ↓Mi.g_is, ↓Mi.g_isnot, ↓Mi.g_ix_i, ↓Mi.g_ix_t, ↓Mi.ixv_tup, ↓Mi.ixv_lst, ↓Mi.ixv_dK, ↓Mi.g_in, ↓Mi.g_nin, ↓Mi.w_part, ↓Mi.w_sl, ↓Mi.sl_tup, ↓Mi.sl_lst, ↓Mi.sl_scr, ↓Mi.w_rev, ↓Mi.ex_lst, ↓Mi.w_get2, ↓Mi.c_g1, ↓Mi.c_max2, ↓Mi.c_min2, ↓Mi.c_tuple, ↓Mi.dtuple_tup, ↓Mi.dtuple_lst, ↓Mi.dtuple_ref, ↓Mi.w_isi, ↓Mi.setl_0, ↓Mi.setl_s, ↓Mi.w_append, ↓Mi.app_ref, ↓Mi.t_name, ↓Mi.t_tup, ↓Mi.t_nil, ↓Mi.t_cons, ↓Mi.s_next, ↓Mi.s_break, ↓Mi.s_cont, ↓Mi.s_set, ↓Mi.s_ret, ↓Mi.s_retN, ↓Mi.s_expr, ↓Mi.s_if, ↓Mi.s_asg, ↓Mi.s_store, ↓Mi.s_seq, ↓Mi.k_nx, ↓Mi.k_rt, ↓Mi.k_bk, ↓Mi.k_ct, ↓Mi.sto_s, ↓Mi.sto_L, ↓Mi.s_for, ↓Mi.s_while, ↓Mi.r_rt, ↓Mi.r_nx, ↓Mi.tn_nx, ↓Mi.tn_ct, ↓Mi.tn_bk, ↓Mi.tn_rt, ↓Mi.w_seqI, ↓Mi.w_enumI, ↓Mi.w_zipI, ↓Mi.w_range1, ↓Mi.w_range2, ↓Mi.w_range3, ↓Mi.seq_tup, ↓Mi.seq_lst, ↓Mi.seq_ref, ↓Mi.w_lc, ↓Mi.w_yes, ↓Mi.w_chain, ↓Mi.isi_ii, ↓Mi.isi_bi, ↓Mi.isi_tt, ↓Mi.is_non_dK, ↓Mi.is_non_non, ↓Mi.is_blbl, ↓Mi.upd_0, ↓Mi.upd_s, ↓Mi.see_ref, ↓Mi.see_tup, ↓Mi.see_lst, ↓Mi.see_int, ↓Mi.see_str, ↓Mi.see_bl, ↓Mi.see_non, ↓Mi.see_dK, ↓Mi.see_dT, ↓Mi.see_scr, ↓Mi.cell_0, ↓Mi.cell_s, ↓Mi.push_0, ↓Mi.push_1, ↓Mi.push_2, ↓Mi.push_3, ↓Mi.push_4, ↓Mi.push_5, ↓Mi.opt_some, ↓Mi.it_true, ↓Mi.it_false, ↓Mi.it_dec, ↓Mi.it_not, ↓Mi.g_andN, ↓Mi.g_orN, ↓Mi.g_add1, ↓Mi.n_dget, ↓Mi.n_look, ↓Mi.n_in, ↓Mi.n_sto, ↓Mi.n_disp, ↓Mi.keyd_i, ↓Mi.c_minN, ↓Mi.g_eqgetN, ↓Mi.g_negetI, ↓Mi.in_tupN, ↓Mi.n_look0, Mi.wipeR, Mi.dlen_tup, Mi.dlen_lst, Mi.dint_int, Mi.dlist_lst, Mi.dlist_tup, Mi.isl_lst, Mi.isd_dK, Mi.atI_0, Mi.atI_1, Mi.atI_2, Mi.atI_3, Mi.atI_4, List.length_cons, List.length_nil, Nat.reduceAdd, Nat.reduceLeDiff, true_and, and_true, Mi.forget, List.set_cons_zero, List.set_cons_succ, List.map_cons, List.map_nil, List.cons_append, List.nil_append, List.replicate, Nat.reduceSub, Nat.le_refl]
        refine ⟨kvs, rfl, ?_⟩
        rw [hl]
        refine ⟨hI.nd, hI.a, hI.z, fun t u d' h s hd' => ?_⟩
        rcases Nat.lt_succ_iff_lt_or_eq.mp h with h | h
        · exact hI.b t u d' h s hd'
        · subst h; rw [hk] at hd'; cases hd'
          exact hd u s.mem s.fit
  · rintro ρ μ ⟨kvs, rfl, rfl, hI⟩
    rw [List.length_range] at hI
    simp only [↓Mi.w_ret, ↓Mi.w_var0, ↓Mi.w_varS, ↓Mi.w_bin, ↓Mi.w_nil, ↓Mi.w_cons, ↓Mi.w_tup, ↓Mi.w_lst, ↓Mi.w_mut, ↓Mi.w_call, ↓Mi.w_if, ↓Mi.w_and, ↓Mi.w_or, ↓Mi.w_not, ↓Mi.w_B, ↓Mi.asb_bl, ↓Mi.w_andV, ↓Mi.w_orV, ↓Mi.w_notV, ↓Mi.w_tru, ↓Mi.tru_int, ↓Mi.tru_bl, ↓Mi.tru_non, ↓Mi.tru_tup, ↓Mi.tru_lst, ↓Mi.w_neg, ↓Mi.ex_int, ↓Mi.g_xor, ↓Mi.g_lt, ↓Mi.g_le, ↓Mi.g_gt, ↓Mi.g_ge, ↓Mi.g_mul, ↓Mi.g_mod, ↓Mi.g_div, ↓Mi.g_pow, ↓Mi.g_shl, ↓Mi.g_shr, ↓Mi.g_catT, ↓Mi.g_catL, ↓Mi.g_eqi, ↓Mi.g_nei, ↓Mi.g_eqb, ↓Mi.g_neb, ↓Mi.g_eqs, ↓Mi.g_nes, ↓Mi.g_eqt, ↓Mi.g_net, ↓Mi.g_is, ↓Mi.g_isnot, ↓Mi.g_ix_i, ↓Mi.g_ix_t, ↓Mi.ixv_tup, ↓Mi.ixv_lst, ↓Mi.ixv_dK, ↓Mi.g_in, ↓Mi.g_nin, ↓Mi.w_part, ↓Mi.w_sl, ↓Mi.sl_tup, ↓Mi.sl_lst, ↓Mi.sl_scr, ↓Mi.w_rev, ↓Mi.ex_lst, ↓Mi.w_get2, ↓Mi.c_g1, ↓Mi.c_max2, ↓Mi.c_min2, ↓Mi.c_tuple, ↓Mi.dtuple_tup, ↓Mi.dtuple_lst, ↓Mi.dtuple_ref, ↓Mi.w_isi, ↓Mi.setl_0, ↓Mi.setl_s, ↓Mi.w_append, ↓Mi.app_ref, ↓Mi.t_name, ↓Mi.t_tup, ↓Mi.t_nil, ↓Mi.t_cons, ↓Mi.s_next, ↓Mi.s_break, ↓Mi.s_cont, ↓Mi.s_set, ↓Mi.s_ret, ↓Mi.s_retN, ↓Mi.s_expr, ↓Mi.s_if, ↓Mi.s_asg, ↓Mi.s_store, ↓Mi.s_seq, ↓Mi.k_nx, ↓Mi.k_rt, ↓Mi.k_bk, ↓Mi.k_ct, ↓Mi.sto_s, ↓Mi.sto_L, ↓Mi.s_for, ↓Mi.s_while, ↓Mi.r_rt, ↓Mi.r_nx, ↓Mi.tn_nx, ↓Mi.tn_ct, ↓Mi.tn_bk, ↓Mi.tn_rt, ↓Mi.w_seqI, ↓Mi.w_enumI, ↓Mi.w_zipI, ↓Mi.w_range1, ↓Mi.w_range2, ↓Mi.w_range3, ↓Mi.seq_tup, ↓Mi.seq_lst, ↓Mi.seq_ref, ↓Mi.w_lc, ↓Mi.w_yes, ↓Mi.w_chain, ↓Mi.isi_ii, ↓Mi.isi_bi, ↓Mi.isi_tt, ↓Mi.is_non_dK, ↓Mi.is_non_non, ↓Mi.is_blbl, ↓Mi.upd_0, ↓Mi.upd_s, ↓Mi.see_ref, ↓Mi.see_tup, ↓Mi.see_lst, ↓Mi.see_int, ↓Mi.see_str, ↓Mi.see_bl, ↓Mi.see_non, ↓Mi.see_dK, ↓Mi.see_dT, ↓Mi.see_scr, ↓Mi.cell_0, ↓Mi.cell_s, ↓Mi.push_0, ↓Mi.push_1, ↓Mi.push_2, ↓Mi.push_3, ↓Mi.push_4, ↓Mi.push_5, ↓Mi.opt_some, ↓Mi.it_true, ↓Mi.it_false, ↓Mi.it_dec, ↓Mi.it_not, ↓Mi.g_andN, ↓Mi.g_orN, ↓Mi.g_add1, ↓Mi.n_dget, ↓Mi.n_look, ↓Mi.n_in, ↓Mi.n_sto, ↓Mi.n_disp, ↓Mi.keyd_i, ↓Mi.c_minN, ↓Mi.g_eqgetN, ↓Mi.g_negetI, ↓Mi.in_tupN, ↓Mi.n_look0, Mi.wipeR, Mi.dlen_tup, Mi.dlen_lst, Mi.dint_int, Mi.dlist_lst, Mi.dlist_tup, Mi.isl_lst, Mi.isd_dK, Mi.atI_0, Mi.atI_1, Mi.atI_2, Mi.atI_3, Mi.atI_4, List.length_cons, List.length_nil, Nat.reduceAdd, Nat.reduceLeDiff, true_and, and_true, Mi.forget, List.set_cons_zero, List.set_cons_succ, List.map_cons, List.map_nil, List.cons_append, List.nil_append, List.replicate, Nat.reduceSub, Nat.le_refl]
    refine ⟨kvs, .of hI.nd hI.a hI.z fun t u d' s h => ?_, backN_dN rfl⟩
    exact hI.b t u d' (by have := s.le; omega) s h
  · exact ⟨by simp, fun m d h => (by
      simp only [kget] at h
      split at h
      · rename_i e; cases h; subst e; exact .zero
      · cases h), rfl, fun t u d' h => by exact absurd h (Nat.not_lt_zero _)⟩
end K68
namespace K68
open PySem PySem.Spec PyProof.Rows L2 Mi
structure LR (H : Nat) (fit : Nat → Nat → Bool) (i j : Nat) (kvs : List (Nat × Nat)) : Prop where
  nd : (kvs.map (·.1)).Nodup
  a : ∀ m d, kget kvs m = some d → RR H fit d m ∧ i ≤ m
  z : kget kvs (W H) = some 0
  b : ∀ t u d', j ≤ t → Stp H fit t u → kget kvs (t ||| u) = some d' → ∃ d, kget kvs t = some d ∧ d ≤ d' + 1
theorem LR.len {H : Nat} {fit : Nat → Nat → Bool} {i j : Nat} {kvs : List (Nat × Nat)} (h : LR H fit i j kvs) (h4 : H ≤ 4) : kvs.length ≤ 16 := by
  have := nodup_lt 16 _ h.nd fun x hx => by
    obtain ⟨p, hp, rfl⟩ := List.mem_map.mp hx
    have := ((h.a p.1 p.2 (kget_of_mem h.nd hp)).1).le h4
    have := W_lt h4
    omega
  rwa [List.length_map] at this
theorem rangeDn_nat (W : Nat) : rangeDn ((W : Int) - 1) ((W : Int) - 1 - -1).toNat = (List.range W).map fun k => .int ((W - 1 - k : Nat) : Int) := by
  unfold rangeDn
  have : ((W : Int) - 1 - -1).toNat = W := by omega
  rw [this]
  refine List.map_congr_left fun k hk => ?_
  rw [List.mem_range] at hk
  congr 1
  omega
theorem left_run {H : Nat} {rooms : List Int} {needs : List (List Q4)} (ok : Ok H rooms needs) :
    CL F_rounds_left [eInts rooms, eNeeds needs] [] (fun d m => ∃ kvs, Rem H (fitN rooms needs) kvs ∧ backN d m = some (dN kvs)) := by
  have hw := W_lt ok.h4
  refine (c_def (by rfl)).mpr ?_
  unfold b_rounds_left
  simp only [↓Mi.w_ret, ↓Mi.w_var0, ↓Mi.w_varS, ↓Mi.w_bin, ↓Mi.w_nil, ↓Mi.w_cons, ↓Mi.w_tup, ↓Mi.w_lst, ↓Mi.w_mut, ↓Mi.w_call, ↓Mi.w_if, ↓Mi.w_and, ↓Mi.w_or, ↓Mi.w_not, ↓Mi.w_B, ↓Mi.asb_bl, ↓Mi.w_andV, ↓Mi.w_orV, ↓Mi.w_notV, ↓Mi.w_tru, ↓Mi.tru_int, ↓Mi.tru_bl, ↓Mi.tru_non, ↓Mi.tru_tup, ↓Mi.tru_lst, ↓Mi.w_neg, ↓Mi.ex_int, ↓Mi.g_xor, ↓Mi.g_lt, ↓Mi.g_le, ↓Mi.g_gt, ↓Mi.g_ge, ↓Mi.g_mul, ↓Mi.g_mod, ↓Mi.g_div, ↓Mi.g_pow, ↓Mi.g_shl, ↓Mi.g_shr, ↓Mi.g_catT, ↓Mi.g_catL, ↓Mi.g_eqi, ↓Mi.g_nei, ↓Mi.g_eqb, ↓Mi.g_neb, ↓Mi.g_eqs, ↓Mi.g_nes, ↓Mi.g_eqt, ↓Mi.g_net, ↓Mi.g_is, ↓Mi.g_isnot, ↓Mi.g_ix_i, ↓Mi.g_ix_t, ↓Mi.ixv_tup, ↓Mi.ixv_lst, ↓Mi.ixv_dK, ↓Mi.g_in, ↓Mi.g_nin, ↓Mi.w_part, ↓Mi.w_sl, ↓Mi.sl_tup, ↓Mi.sl_lst, ↓Mi.sl_scr, ↓Mi.w_rev, ↓Mi.ex_lst, ↓Mi.w_get2, ↓Mi.c_g1, ↓Mi.c_max2, ↓Mi.c_min2, ↓Mi.c_tuple, ↓Mi.dtuple_tup, ↓Mi.dtuple_lst, ↓Mi.dtuple_ref, ↓Mi.w_isi, ↓Mi.setl_0, ↓Mi.setl_s, ↓Mi.w_append, ↓Mi.app_ref, ↓Mi.t_name, ↓Mi.t_tup, ↓Mi.t_nil, ↓Mi.t_cons, ↓Mi.s_next, ↓Mi.s_break, ↓Mi.s_cont, ↓Mi.s_set, ↓Mi.s_ret, ↓Mi.s_retN, ↓Mi.s_expr, ↓Mi.s_if, ↓Mi.s_asg, ↓Mi.s_store, ↓Mi.s_seq, ↓Mi.k_nx, ↓Mi.k_rt, ↓Mi.k_bk, ↓Mi.k_ct, ↓Mi.sto_s, ↓Mi.sto_L, ↓Mi.s_for, ↓Mi.s_while, ↓Mi.r_rt, ↓Mi.r_nx, ↓Mi.tn_nx, ↓Mi.tn_ct, ↓Mi.tn_bk, ↓Mi.tn_rt, ↓Mi.w_seqI, ↓Mi.w_enumI, ↓Mi.w_zipI, ↓Mi.w_range1, ↓Mi.w_range2, ↓Mi.w_range3, ↓Mi.seq_tup, ↓Mi.seq_lst, ↓Mi.seq_ref, ↓Mi.w_lc, ↓Mi.w_yes, ↓Mi.w_chain, ↓Mi.isi_ii, ↓Mi.isi_bi, ↓Mi.isi_tt, ↓Mi.is_non_dK, ↓Mi.is_non_non, ↓Mi.is_blbl, ↓Mi.upd_0, ↓Mi.upd_s, ↓Mi.see_ref, ↓Mi.see_tup, ↓Mi.see_lst, ↓Mi.see_int, ↓Mi.see_str, ↓Mi.see_bl, ↓Mi.see_non, ↓Mi.see_dK, ↓Mi.see_dT, ↓Mi.see_scr, ↓Mi.cell_0, ↓Mi.cell_s, ↓Mi.push_0, ↓Mi.push_1, ↓Mi.push_2, ↓Mi.push_3, ↓Mi.push_4, ↓Mi.push_5, ↓Mi.opt_some, ↓Mi.it_true, ↓Mi.it_false, ↓Mi.it_dec, ↓Mi.it_not, ↓Mi.g_andN, ↓Mi.g_orN, ↓Mi.g_add1, ↓Mi.n_dget, ↓Mi.n_look, ↓Mi.n_in, ↓Mi.n_sto, ↓Mi.n_disp, ↓Mi.keyd_i, ↓Mi.c_minN, ↓Mi.g_eqgetN, ↓Mi.g_negetI, ↓Mi.in_tupN, ↓Mi.n_look0, Mi.wipeR, Mi.dlen_tup, Mi.dlen_lst, Mi.dint_int, Mi.dlist_lst, Mi.dlist_tup, Mi.isl_lst, Mi.isd_dK, Mi.atI_0, Mi.atI_1, Mi.atI_2, Mi.atI_3, Mi.atI_4, List.length_cons, List.length_nil, Nat.reduceAdd, Nat.reduceLeDiff, true_and, and_true, Mi.forget, List.set_cons_zero, List.set_cons_succ, List.map_cons, List.map_nil, List.cons_append, List.nil_append, List.replicate, Nat.reduceSub, Nat.le_refl, ↓call_whole ok, Int.toNat_natCast, ↓g_sub]
  refine ⟨?_, ?_⟩
  · unfold okR
    rw [decide_eq_true (by omega), decide_eq_true (by omega)]; rfl
  rw [rangeDn_nat]
  refine for_ok (fun done ρ μ => ∃ kvs, ρ = [some (eInts rooms), some (eNeeds needs), some (.int (W H : Nat)), some (.ref 0), none, none, none] ∧ μ = [⟨false, dN kvs⟩] ∧ LR H (fitN rooms needs) (W H - done.length) (W H - done.length) kvs) _ (fun _ _ _ _ => rfl) ?_ ?_ ⟨[(W H, 0)], rfl, rfl, ?_⟩
  · rintro done k rest ρ μ e ⟨kvs, rfl, rfl, hI⟩
    obtain ⟨rfl, hk⟩ := range_split e
    rw [List.length_range] at hI
    obtain ⟨i, hi⟩ : ∃ i, i = W H - 1 - k := ⟨_, rfl⟩
    rw [← hi]
    have hi2 : W H - k = i + 1 := by omega
    have hle : i ≤ W H := by omega
    rw [hi2] at hI
    simp only [↓Mi.w_ret, ↓Mi.w_var0, ↓Mi.w_varS, ↓Mi.w_bin, ↓Mi.w_nil, ↓Mi.w_cons, ↓Mi.w_tup, ↓Mi.w_lst, ↓Mi.w_mut, ↓Mi.w_call, ↓Mi.w_if, ↓Mi.w_and, ↓Mi.w_or, ↓Mi.w_not, ↓Mi.w_B, ↓Mi.asb_bl, ↓Mi.w_andV, ↓Mi.w_orV, ↓Mi.w_notV, ↓Mi.w_tru, ↓Mi.tru_int, ↓Mi.tru_bl, ↓Mi.tru_non, ↓Mi.tru_tup, ↓Mi.tru_lst, ↓Mi.w_neg, ↓Mi.ex_int, ↓Mi.g_xor, ↓Mi.g_lt, ↓Mi.g_le, ↓Mi.g_gt, ↓Mi.g_ge, ↓Mi.g_mul, ↓Mi.g_mod, ↓Mi.g_div, ↓Mi.g_pow, ↓Mi.g_shl, ↓Mi.g_shr, ↓Mi.g_catT, ↓Mi.g_catL, ↓Mi.g_eqi, ↓Mi.g_nei, ↓Mi.g_eqb, ↓Mi.g_neb, ↓Mi.g_eqs, ↓Mi.g_nes, ↓Mi.g_eqt, ↓Mi.g_net, ↓Mi.g_is, ↓Mi.g_isnot, ↓Mi.g_ix_i, ↓Mi.g_ix_t, ↓Mi.ixv_tup, ↓Mi.ixv_lst, ↓Mi.ixv_dK, ↓Mi.g_in, ↓Mi.g_nin, ↓Mi.w_part, ↓Mi.w_sl, ↓Mi.sl_tup, ↓Mi.sl_lst, ↓Mi.sl_scr, ↓Mi.w_rev, ↓Mi.ex_lst, ↓Mi.w_get2, ↓Mi.c_g1, ↓Mi.c_max2, ↓Mi.c_min2, ↓Mi.c_tuple, ↓Mi.dtuple_tup, ↓Mi.dtuple_lst, ↓Mi.dtuple_ref, ↓Mi.w_isi, ↓Mi.setl_0, ↓Mi.setl_s, ↓Mi.w_append, ↓Mi.app_ref, ↓Mi.t_name, ↓Mi.t_tup, ↓Mi.t_nil, ↓Mi.t_cons, ↓Mi.s_next, ↓Mi.s_break, ↓Mi.s_cont, ↓Mi.s_set, ↓Mi.s_ret, ↓Mi.s_retN, ↓Mi.s_expr, ↓Mi.s_if, ↓Mi.s_asg, ↓Mi.s_store, ↓Mi.s_seq, ↓Mi.k_nx, ↓Mi.k_rt, ↓Mi.k_bk, ↓Mi.k_ct, ↓Mi.sto_s, ↓Mi.sto_L, ↓Mi.s_for, ↓Mi.s_while, ↓Mi.r_rt, ↓Mi.r_nx, ↓Mi.tn_nx, ↓Mi.tn_ct, ↓Mi.tn_bk, ↓Mi.tn_rt, ↓Mi.w_seqI, ↓Mi.w_enumI, ↓Mi.w_zipI, ↓Mi.w_range1, ↓Mi.w_range2, ↓Mi.w_range3, ↓Mi.seq_tup, ↓Mi.seq_lst, ↓Mi.seq_ref, ↓Mi.w_lc, ↓Mi.w_yes, ↓Mi.w_chain, ↓Mi.isi_ii, ↓Mi.isi_bi, ↓Mi.isi_tt, ↓Mi.is_non_dK, ↓Mi.is_non_non, ↓Mi.is_blbl, ↓Mi.upd_0, ↓Mi.upd_s, ↓Mi.see_ref, ↓Mi.see_tup, ↓Mi.see_lst, ↓Mi.see_int, ↓Mi.see_str, ↓Mi.see_bl, ↓Mi.see_non, ↓Mi.see_dK, ↓Mi.see_dT, ↓Mi.see_scr, ↓Mi.cell_0, ↓Mi.cell_s, ↓Mi.push_0, ↓Mi.push_1, ↓Mi.push_2, ↓Mi.push_3, ↓Mi.push_4, ↓Mi.push_5, ↓Mi.opt_some, ↓Mi.it_true, ↓Mi.it_false, ↓Mi.it_dec, ↓Mi.it_not, ↓Mi.g_andN, ↓Mi.g_orN, ↓Mi.g_add1, ↓Mi.n_dget, ↓Mi.n_look, ↓Mi.n_in, ↓Mi.n_sto, ↓Mi.n_disp, ↓Mi.keyd_i, ↓Mi.c_minN, ↓Mi.g_eqgetN, ↓Mi.g_negetI, ↓Mi.in_tupN, ↓Mi.n_look0, Mi.wipeR, Mi.dlen_tup, Mi.dlen_lst, Mi.dint_int, Mi.dlist_lst, Mi.dlist_tup, Mi.isl_lst, Mi.isd_dK, Mi.atI_0, Mi.atI_1, Mi.atI_2, Mi.atI_3, Mi.atI_4, List.length_cons, List.length_nil, Nat.reduceAdd, Nat.reduceLeDiff, true_and, and_true, Mi.forget, List.set_cons_zero, List.set_cons_succ, List.map_cons, List.map_nil, List.cons_append, List.nil_append, List.replicate, Nat.reduceSub, Nat.le_refl, ↓g_subN hle, ↓call_parts (show W H - i < 16 by omega)]
    have hl : W H - (List.range k ++ [k]).length = i := by simp; omega
    have h0 : ∀ m d, kget kvs m = some d → i ≤ m := fun m d h => by have := (hI.a m d h).2; omega
    refine for_ok (fun done ρ μ => ∃ kvs, ρ = [some (eInts rooms), some (eNeeds needs), some (.int (W H : Nat)), some (.ref 0), some (.int (i : Nat)), none, none] ∧ μ = [⟨false, dN kvs⟩] ∧ LR H (fitN rooms needs) i (i + 1) kvs ∧
        ∀ u ∈ done, fitN rooms needs i u = true → ∀ d', kget kvs (i ||| u) = some d' → ∃ d, kget kvs i = some d ∧ d ≤ d' + 1) _ (fun _ _ _ _ => rfl) ?_ ?_ ⟨kvs, rfl, rfl, ⟨hI.nd, fun m d h => ⟨(hI.a m d h).1, h0 m d h⟩, hI.z, hI.b⟩, fun _ h => by cases h⟩
    · rintro done u rest ρ μ e ⟨kvs, rfl, rfl, hI, hd⟩
      have hu : u ∈ parts (W H - i) := by rw [e]; simp
      simp only [↓Mi.w_ret, ↓Mi.w_var0, ↓Mi.w_varS, ↓Mi.w_bin, ↓Mi.w_nil, ↓Mi.w_cons, ↓Mi.w_tup, ↓Mi.w_lst, ↓Mi.w_mut, ↓Mi.w_call, ↓Mi.w_if, ↓Mi.w_and, ↓Mi.w_or, ↓Mi.w_not, ↓Mi.w_B, ↓Mi.asb_bl, ↓Mi.w_andV, ↓Mi.w_orV, ↓Mi.w_notV, ↓Mi.w_tru, ↓Mi.tru_int, ↓Mi.tru_bl, ↓Mi.tru_non, ↓Mi.tru_tup, ↓Mi.tru_lst, ↓Mi.w_neg, ↓Mi.ex_int, ↓Mi.g_xor, ↓Mi.g_lt, ↓Mi.g_le, ↓Mi.g_gt, ↓Mi.g_ge, ↓Mi.g_mul, ↓Mi.g_mod, ↓Mi.g_div, ↓Mi.g_pow, ↓Mi.g_shl, ↓Mi.g_shr, ↓Mi.g_catT, ↓Mi.g_catL, ↓Mi.g_eqi, ↓Mi.g_nei, ↓Mi.g_eqb, ↓Mi.g_neb, ↓Mi.g_eqs, ↓Mi.g_nes, ↓Mi.g_eqt, ↓Mi.g_net, ↓Mi.g_is, ↓Mi.g_isnot, ↓Mi.g_ix_i, ↓Mi.g_ix_t, ↓Mi.ixv_tup, ↓Mi.ixv_lst, ↓Mi.ixv_dK, ↓Mi.g_in, ↓Mi.g_nin, ↓Mi.w_part, ↓Mi.w_sl, ↓Mi.sl_tup, ↓Mi.sl_lst, ↓Mi.sl_scr, ↓Mi.w_rev, ↓Mi.ex_lst, ↓Mi.w_get2, ↓Mi.c_g1, ↓Mi.c_max2, ↓Mi.c_min2, ↓Mi.c_tuple, ↓Mi.dtuple_tup, ↓Mi.dtuple_lst, ↓Mi.dtuple_ref, ↓Mi.w_isi, ↓Mi.setl_0, ↓Mi.setl_s, ↓Mi.w_append, ↓Mi.app_ref, ↓Mi.t_name, ↓Mi.t_tup, ↓Mi.t_nil, ↓Mi.t_cons, ↓Mi.s_next, ↓Mi.s_break, ↓Mi.s_cont, ↓Mi.s_set, ↓Mi.s_ret, ↓Mi.s_retN, ↓Mi.s_expr, ↓Mi.s_if, ↓Mi.s_asg, ↓Mi.s_store, ↓Mi.s_seq, ↓Mi.k_nx, ↓Mi.k_rt, ↓Mi.k_bk, ↓Mi.k_ct, ↓Mi.sto_s, ↓Mi.sto_L, ↓Mi.s_for, ↓Mi.s_while, ↓Mi.r_rt, ↓Mi.r_nx, ↓Mi.tn_nx, ↓Mi.tn_ct, ↓Mi.tn_bk, ↓Mi.tn_rt, ↓Mi.w_seqI, ↓Mi.w_enumI, ↓Mi.w_zipI, ↓Mi.w_range1, ↓Mi.w_range2, ↓Mi.w_range3, ↓Mi.seq_tup, ↓Mi.seq_lst, ↓Mi.seq_ref, ↓Mi.w_lc, ↓Mi.w_yes, ↓Mi.w_chain, ↓Mi.isi_ii, ↓Mi.isi_bi, ↓Mi.isi_tt, ↓Mi.is_non_dK, ↓Mi.is_non_non, ↓Mi.is_blbl, ↓Mi.upd_0, ↓Mi.upd_s, ↓Mi.see_ref, ↓Mi.see_tup, ↓Mi.see_lst, ↓Mi.see_int, ↓Mi.see_str, ↓Mi.see_bl, ↓Mi.see_non, ↓Mi.see_dK, ↓Mi.see_dT, ↓Mi.see_scr, ↓Mi.cell_0, ↓Mi.cell_s, ↓Mi.push_0, ↓Mi.push_1, ↓Mi.push_2, ↓Mi.push_3, ↓Mi.push_4, ↓Mi.push_5, ↓Mi.opt_some, ↓Mi.it_true, ↓Mi.it_false, ↓Mi.it_dec, ↓Mi.it_not, ↓Mi.g_andN, ↓Mi.g_orN, ↓Mi.g_add1, ↓Mi.n_dget, ↓Mi.n_look, ↓Mi.n_in, ↓Mi.n_sto, ↓Mi.n_disp, ↓Mi.keyd_i, ↓Mi.c_minN, ↓Mi.g_eqgetN, ↓Mi.g_negetI, ↓Mi.in_tupN, ↓Mi.n_look0, Mi.wipeR, Mi.dlen_tup, Mi.dlen_lst, Mi.dint_int, Mi.dlist_lst, Mi.dlist_tup, Mi.isl_lst, Mi.isd_dK, Mi.atI_0, Mi.atI_1, Mi.atI_2, Mi.atI_3, Mi.atI_4, List.length_cons, List.length_nil, Nat.reduceAdd, Nat.reduceLeDiff, true_and, and_true, Mi.forget, List.set_cons_zero, List.set_cons_succ, List.map_cons, List.map_nil, List.cons_append, List.nil_append, List.replicate, Nat.reduceSub, Nat.le_refl, ↓call_fits]
      have skip : fitB rooms needs i u = false ∨ kget kvs (i ||| u) = none → ∃ kvs_1, [(⟨false, dN kvs⟩ : Cell)] = [⟨false, dN kvs_1⟩] ∧ LR H (fitN rooms needs) i (i + 1) kvs_1 ∧
          ∀ v ∈ done ++ [u], fitN rooms needs i v = true → ∀ d', kget kvs_1 (i ||| v) = some d' → ∃ d, kget kvs_1 i = some d ∧ d ≤ d' + 1 := fun hh => by
        refine ⟨kvs, rfl, hI, fun v hv hfv d' hd' => ?_⟩
        rcases List.mem_append.mp hv with hv | hv
        · exact hd v hv hfv d' hd'
        · simp at hv; subst hv
          rcases hh with hh | hh
          · rw [show fitN rooms needs i v = false from hh] at hfv; cases hfv
          · rw [hh] at hd'; cases hd'
      cases hg : kget kvs (i ||| u) with
      | none =>
        simp only [Option.isSome_none, ↓it_false]
        exact skip (.inr hg)
      | some da =>
        simp only [Option.isSome_some, ↓it_true]
        cases hf : fitB rooms needs i u with
        | false =>
          simp only [↓it_false]
          exact skip (.inl hf)
        | true =>
          have s : Stp H (fitN rooms needs) i u := ⟨hle, hu, hf⟩
          obtain ⟨f1, f2, f3, f4, f5, f6⟩ := s.facts ok.h4
          have hR := (hI.a _ _ hg).1
          have hda := (hR.le ok.h4).2
          simp only [↓it_true, ↓Mi.w_ret, ↓Mi.w_var0, ↓Mi.w_varS, ↓Mi.w_bin, ↓Mi.w_nil, ↓Mi.w_cons, ↓Mi.w_tup, ↓Mi.w_lst, ↓Mi.w_mut, ↓Mi.w_call, ↓Mi.w_if, ↓Mi.w_and, ↓Mi.w_or, ↓Mi.w_not, ↓Mi.w_B, ↓Mi.asb_bl, ↓Mi.w_andV, ↓Mi.w_orV, ↓Mi.w_notV, ↓Mi.w_tru, ↓Mi.tru_int, ↓Mi.tru_bl, ↓Mi.tru_non, ↓Mi.tru_tup, ↓Mi.tru_lst, ↓Mi.w_neg, ↓Mi.ex_int, ↓Mi.g_xor, ↓Mi.g_lt, ↓Mi.g_le, ↓Mi.g_gt, ↓Mi.g_ge, ↓Mi.g_mul, ↓Mi.g_mod, ↓Mi.g_div, ↓Mi.g_pow, ↓Mi.g_shl, ↓Mi.g_shr, ↓Mi.g_catT, ↓Mi.g_catL, ↓Mi.g_eqi, ↓Mi.g_nei, ↓Mi.g_eqb, ↓Mi.g_neb, ↓Mi.g_eqs, ↓Mi.g_nes, ↓Mi.g_eqt, ↓Mi.g_net, ↓Mi.g_is, ↓Mi.g_isnot, ↓Mi.g_ix_i, ↓Mi.g_ix_t, ↓Mi.ixv_tup, ↓Mi.ixv_lst, ↓Mi.ixv_dK, ↓Mi.g_in, ↓Mi.g_nin, ↓Mi.w_part, ↓Mi.w_sl, ↓Mi.sl_tup, ↓Mi.sl_lst, ↓Mi.sl_scr, ↓Mi.w_rev, ↓Mi.ex_lst, ↓Mi.w_get2, ↓Mi.c_g1, ↓Mi.c_max2, ↓Mi.c_min2, ↓Mi.c_tuple, ↓Mi.dtuple_tup, ↓Mi.dtuple_lst, ↓Mi.dtuple_ref, ↓Mi.w_isi, ↓Mi.setl_0, ↓Mi.setl_s, ↓Mi.w_append, ↓Mi.app_ref, ↓Mi.t_name, ↓Mi.t_tup, ↓Mi.t_nil, ↓Mi.t_cons, ↓Mi.s_next, ↓Mi.s_break, ↓Mi.s_cont, ↓Mi.s_set, ↓Mi.s_ret, ↓Mi.s_retN, ↓Mi.s_expr, ↓Mi.s_if, ↓Mi.s_asg, ↓Mi.s_store, ↓Mi.s_seq, ↓Mi.k_nx, ↓Mi.k_rt, ↓Mi.k_bk, ↓Mi.k_ct, ↓Mi.sto_s, ↓Mi.sto_L, ↓Mi.s_for, ↓Mi.s_while, ↓Mi.r_rt, ↓Mi.r_nx, ↓Mi.tn_nx, ↓Mi.tn_ct, ↓Mi.tn_bk, ↓Mi.tn_rt, ↓Mi.w_seqI, ↓Mi.w_enumI, ↓Mi.w_zipI, ↓Mi.w_range1, ↓Mi.w_range2, ↓Mi.w_range3, ↓Mi.seq_tup, ↓Mi.seq_lst, ↓Mi.seq_ref, ↓Mi.w_lc, ↓Mi.w_yes, ↓Mi.w_chain, ↓Mi.isi_ii, ↓Mi.isi_bi, ↓Mi.isi_tt, ↓Mi.is_non_dK, ↓Mi.is_non_non, ↓Mi.is_blbl, ↓Mi.upd_0, ↓Mi.upd_s, ↓Mi.see_ref, ↓Mi.see_tup, ↓Mi.see_lst, ↓Mi.see_int, ↓Mi.see_str, ↓Mi.see_bl, ↓Mi.see_non, ↓Mi.see_dK, ↓Mi.see_dT, ↓Mi.see_scr, ↓Mi.cell_0, ↓Mi.cell_s, ↓Mi.push_0, ↓Mi.push_1, ↓Mi.push_2, ↓Mi.push_3, ↓Mi.push_4, ↓Mi.push_5, ↓Mi.opt_some, ↓Mi.it_true, ↓Mi.it_false, ↓Mi.it_dec, ↓Mi.it_not, ↓Mi.g_andN, ↓Mi.g_orN, ↓Mi.g_add1, ↓Mi.n_dget, ↓Mi.n_look, ↓Mi.n_in, ↓Mi.n_sto, ↓Mi.n_disp, ↓Mi.keyd_i, ↓Mi.c_minN, ↓Mi.g_eqgetN, ↓Mi.g_negetI, ↓Mi.in_tupN, ↓Mi.n_look0, Mi.wipeR, Mi.dlen_tup, Mi.dlen_lst, Mi.dint_int, Mi.dlist_lst, Mi.dlist_tup, Mi.isl_lst, Mi.isd_dK, Mi.atI_0, Mi.atI_1, Mi.atI_2, Mi.atI_3, Mi.atI_4, List.length_cons, List.length_nil, Nat.reduceAdd, Nat.reduceLeDiff, true_and, and_true, Mi.forget, List.set_cons_zero, List.set_cons_succ, List.map_cons, List.map_nil, List.cons_append, List.nil_append, List.replicate, Nat.reduceSub, Nat.le_refl, ↓opt_eq hg]
          refine ⟨by have := hI.len ok.h4; omega, kput kvs i (min ((kget kvs i).getD (W H + 1)) (da + 1)), rfl, ?_, ?_⟩
          · refine ⟨kput_nodup hI.nd, fun m d h => ?_, ?_, fun t v d' h s hd => ?_⟩
            · rw [kget_put] at h
              split at h
              · rename_i em
                subst em
                refine ⟨?_, Nat.le_refl _⟩
                cases hg2 : kget kvs m with
                | none =>
                  rw [hg2] at h
                  simp only [Option.getD_none, Option.some.injEq] at h
                  rw [← h, Nat.min_eq_right (by omega)]
                  exact .step s hR
                | some d0 =>
                  rw [hg2] at h
                  simp only [Option.getD_some, Option.some.injEq] at h
                  rcases Nat.le_total d0 (da + 1) with q | q
                  · rw [Nat.min_eq_left q] at h; subst h; exact (hI.a _ _ hg2).1
                  · rw [Nat.min_eq_right q] at h; subst h; exact .step s hR
              · exact hI.a m d h
            · rw [kget_put, if_neg (by omega)]; exact hI.z
            · obtain ⟨_, g2, _⟩ := s.facts ok.h4
              rw [kget_put, if_neg (by omega)] at hd
              rw [kget_put, if_neg (by omega)]
              exact hI.b t v d' h s hd
          · intro v hv hfv d' hd'
            rw [kget_put, if_pos rfl]
            rcases List.mem_append.mp hv with hv | hv
            · obtain ⟨_, g2, _⟩ := (show Stp H (fitN rooms needs) i v from ⟨hle, by rw [e]; simp [hv], hfv⟩).facts ok.h4
              rw [kget_put, if_neg (by omega)] at hd'
              obtain ⟨d, h1, h2⟩ := hd v hv hfv d' hd'
              rw [h1]
              exact ⟨_, rfl, by simp only [Option.getD_some]; omega⟩
            · simp at hv; subst hv
              rw [kget_put, if_neg (by omega)] at hd'
              rw [hg] at hd'; cases hd'
              exact ⟨_, rfl, by omega⟩
    · rintro ρ μ ⟨kvs, rfl, rfl, hI, hd⟩
      simp only [↓Mi.w_ret, ↓Mi.w_var0, ↓Mi.w_varS, ↓Mi.w_bin, ↓Mi.w_nil, ↓Mi.w_cons, ↓Mi.w_tup, ↓Mi.w_lst, ↓Mi.w_mut, ↓Mi.w_call, ↓Mi.w_if, ↓Mi.w_and, ↓Mi.w_or, ↓Mi.w_not, ↓Mi.w_B, ↓Mi.asb_bl, ↓Mi.w_andV, ↓Mi.w_orV, ↓Mi.w_notV, ↓Mi.w_tru, ↓Mi.tru_int, ↓Mi.tru_bl, ↓Mi.tru_non, ↓Mi.tru_tup, ↓Mi.tru_lst, ↓Mi.w_neg, ↓Mi.ex_int, ↓Mi.g_xor, ↓Mi.g_lt, ↓Mi.g_le, ↓Mi.g_gt, ↓Mi.g_ge, ↓Mi.g_mul, ↓Mi.g_mod, ↓Mi.g_div, ↓Mi.g_pow, ↓Mi.g_shl, ↓Mi.g_shr, ↓Mi.g_catT, ↓Mi.g_catL, ↓Mi.g_eqi, ↓Mi.g_nei, ↓Mi.g_eqb, ↓Mi.g_neb, ↓Mi.g_eqs, ↓Mi.g_nes, ↓Mi.g_eqt, ↓Mi.g_net, ↓Mi.g_is, ↓Mi.g_isnot, ↓Mi.g_ix_i, ↓Mi.g_ix_t, ↓Mi.ixv_tup, ↓Mi.ixv_lst, ↓Mi.ixv_dK, ↓Mi.g_in, ↓Mi.g_nin, ↓Mi.w_part, ↓Mi.w_sl, ↓Mi.sl_tup, ↓Mi.sl_lst, ↓Mi.sl_scr, ↓Mi.w_rev, ↓Mi.ex_lst, ↓Mi.w_get2, ↓Mi.c_g1, ↓Mi.c_max2, ↓Mi.c_min2, ↓Mi.c_tuple, ↓Mi.dtuple_tup, ↓Mi.dtuple_lst, ↓Mi.dtuple_ref, ↓Mi.w_isi, ↓Mi.setl_0, ↓Mi.setl_s, ↓Mi.w_append, ↓Mi.app_ref, ↓Mi.t_name, ↓Mi.t_tup, ↓Mi.t_nil, ↓Mi.t_cons, ↓Mi.s_next, ↓Mi.s_break, ↓Mi.s_cont, ↓Mi.s_set, ↓Mi.s_ret, ↓Mi.s_retN, ↓Mi.s_expr, ↓Mi.s_if, ↓Mi.s_asg, ↓Mi.s_store, ↓Mi.s_seq, ↓Mi.k_nx, ↓Mi.k_rt, ↓Mi.k_bk, ↓Mi.k_ct, ↓Mi.sto_s, ↓Mi.sto_L, ↓Mi.s_for, ↓Mi.s_while, ↓Mi.r_rt, ↓Mi.r_nx, ↓Mi.tn_nx, ↓Mi.tn_ct, ↓Mi.tn_bk, ↓Mi.tn_rt, ↓Mi.w_seqI, ↓Mi.w_enumI, ↓Mi.w_zipI, ↓Mi.w_range1, ↓Mi.w_range2, ↓Mi.w_range3, ↓Mi.seq_tup, ↓Mi.seq_lst, ↓Mi.seq_ref, ↓Mi.w_lc, ↓Mi.w_yes, ↓Mi.w_chain, ↓Mi.isi_ii, ↓Mi.isi_bi, ↓Mi.isi_tt, ↓Mi.is_non_dK, ↓Mi.is_non_non, ↓Mi.is_blbl, ↓Mi.upd_0, ↓Mi.upd_s, ↓Mi.see_ref, ↓Mi.see_tup, ↓Mi.see_lst, ↓Mi.see_int, ↓Mi.see_str, ↓Mi.see_bl, ↓Mi.see_non, ↓Mi.see_dK, ↓Mi.see_dT, ↓Mi.see_scr, ↓Mi.cell_0, ↓Mi.cell_s, ↓Mi.push_0, ↓Mi.push_1, ↓Mi.push_2, ↓Mi.push_3, ↓Mi.push_4, ↓Mi.push_5, ↓Mi.opt_some, ↓Mi.it_true, ↓Mi.it_false, ↓Mi.it_dec, ↓Mi.it_not, ↓Mi.g_andN, ↓Mi.g_orN, ↓Mi.g_add1, ↓Mi.n_dget, ↓Mi.n_look, ↓Mi.n_in, ↓Mi.n_sto, ↓Mi.n_disp, ↓Mi.keyd_i, ↓Mi.c_minN, ↓Mi.g_eqgetN, ↓Mi.g_negetI, ↓Mi.in_tupN, ↓Mi.n_look0, Mi.wipeR, Mi.dlen_tup, Mi.dlen_lst, Mi.dint_int, Mi.dlist_lst, Mi.dlist_tup, Mi.isl_lst, Mi.isd_dK, Mi.atI_0, Mi.atI_1, Mi.atI_2, Mi.atI_3, Mi.atI_4, List.length_cons, List.length_nil, Nat.reduceAdd, Nat.reduceLeDiff, true_and, and_true, Mi.forget, List.set_cons_zero, List.set_cons_succ, List.map_cons, List.map_nil, List.cons_append, List.nil_append, List.replicate, Nat.reduceSub, Nat.le_refl]
      refine ⟨kvs, rfl, ?_⟩
      rw [hl]
      refine ⟨hI.nd, hI.a, hI.z, fun t u d' h s hd' => ?_⟩
      rcases Nat.lt_or_eq_of_le h with h | h
      · exact hI.b t u d' h s hd'
      · subst h
        exact hd u s.mem s.fit d' hd'
  · rintro ρ μ ⟨kvs, rfl, rfl, hI⟩
    rw [List.length_range, Nat.sub_self] at hI
    simp only [↓Mi.w_ret, ↓Mi.w_var0, ↓Mi.w_varS, ↓Mi.w_bin, ↓Mi.w_nil, ↓Mi.w_cons, ↓Mi.w_tup, ↓Mi.w_lst, ↓Mi.w_mut, ↓Mi.w_call, ↓Mi.w_if, ↓Mi.w_and, ↓Mi.w_or, ↓Mi.w_not, ↓Mi.w_B, ↓Mi.asb_bl, ↓Mi.w_andV, ↓Mi.w_orV, ↓Mi.w_notV, ↓Mi.w_tru, ↓Mi.tru_int, ↓Mi.tru_bl, ↓Mi.tru_non, ↓Mi.tru_tup, ↓Mi.tru_lst, ↓Mi.w_neg, ↓Mi.ex_int, ↓Mi.g_xor, ↓Mi.g_lt, ↓Mi.g_le, ↓Mi.g_gt, ↓Mi.g_ge, ↓Mi.g_mul, ↓Mi.g_mod, ↓Mi.g_div, ↓Mi.g_pow, ↓Mi.g_shl, ↓Mi.g_shr, ↓Mi.g_catT, ↓Mi.g_catL, ↓Mi.g_eqi, ↓Mi.g_nei, ↓Mi.g_eqb, ↓Mi.g_neb, ↓Mi.g_eqs, ↓Mi.g_nes, ↓Mi.g_eqt, ↓Mi.g_net, ↓Mi.g_is, ↓Mi.g_isnot, ↓Mi.g_ix_i, ↓Mi.g_ix_t, ↓Mi.ixv_tup, ↓Mi.ixv_lst, ↓Mi.ixv_dK, ↓Mi.g_in, ↓Mi.g_nin, ↓Mi.w_part, ↓Mi.w_sl, ↓Mi.sl_tup, ↓Mi.sl_lst, ↓Mi.sl_scr, ↓Mi.w_rev, ↓Mi.ex_lst, ↓Mi.w_get2, ↓Mi.c_g1, ↓Mi.c_max2, ↓Mi.c_min2, ↓Mi.c_tuple, ↓Mi.dtuple_tup, ↓Mi.dtuple_lst, ↓Mi.dtuple_ref, ↓Mi.w_isi, ↓Mi.setl_0, ↓Mi.setl_s, ↓Mi.w_append, ↓Mi.app_ref, ↓Mi.t_name, ↓Mi.t_tup, ↓Mi.t_nil, ↓Mi.t_cons, ↓Mi.s_next, ↓Mi.s_break, ↓Mi.s_cont, ↓Mi.s_set, ↓Mi.s_ret, ↓Mi.s_retN, ↓Mi.s_expr, ↓Mi.s_if, ↓Mi.s_asg, ↓Mi.s_store, ↓Mi.s_seq, ↓Mi.k_nx, ↓Mi.k_rt, ↓Mi.k_bk, ↓Mi.k_ct, ↓Mi.sto_s, ↓Mi.sto_L, ↓Mi.s_for, ↓Mi.s_while, ↓Mi.r_rt, ↓Mi.r_nx, ↓Mi.tn_nx, ↓Mi.tn_ct, ↓Mi.tn_bk, ↓Mi.tn_rt, ↓Mi.w_seqI, ↓Mi.w_enumI, ↓Mi.w_zipI, ↓Mi.w_range1, ↓Mi.w_range2, ↓Mi.w_range3, ↓Mi.seq_tup, ↓Mi.seq_lst, ↓Mi.seq_ref, ↓Mi.w_lc, ↓Mi.w_yes, ↓Mi.w_chain, ↓Mi.isi_ii, ↓Mi.isi_bi, ↓Mi.isi_tt, ↓Mi.is_non_dK, ↓Mi.is_non_non, ↓Mi.is_blbl, ↓Mi.upd_0, ↓Mi.upd_s, ↓Mi.see_ref, ↓Mi.see_tup, ↓Mi.see_lst, ↓Mi.see_int, ↓Mi.see_str, ↓Mi.see_bl, ↓Mi.see_non, ↓Mi.see_dK, ↓Mi.see_dT, ↓Mi.see_scr, ↓Mi.cell_0, ↓Mi.cell_s, ↓Mi.push_0, ↓Mi.push_1, ↓Mi.push_2, ↓Mi.push_3, ↓Mi.push_4, ↓Mi.push_5, ↓Mi.opt_some, ↓Mi.it_true, ↓Mi.it_false, ↓Mi.it_dec, ↓Mi.it_not, ↓Mi.g_andN, ↓Mi.g_orN, ↓Mi.g_add1, ↓Mi.n_dget, ↓Mi.n_look, ↓Mi.n_in, ↓Mi.n_sto, ↓Mi.n_disp, ↓Mi.keyd_i, ↓Mi.c_minN, ↓Mi.g_eqgetN, ↓Mi.g_negetI, ↓Mi.in_tupN, ↓Mi.n_look0, Mi.wipeR, Mi.dlen_tup, Mi.dlen_lst, Mi.dint_int, Mi.dlist_lst, Mi.dlist_tup, Mi.isl_lst, Mi.isd_dK, Mi.atI_0, Mi.atI_1, Mi.atI_2, Mi.atI_3, Mi.atI_4, List.length_cons, List.length_nil, Nat.reduceAdd, Nat.reduceLeDiff, true_and, and_true, Mi.forget, List.set_cons_zero, List.set_cons_succ, List.map_cons, List.map_nil, List.cons_append, List.nil_append, List.replicate, Nat.reduceSub, Nat.le_refl]
    exact ⟨kvs, .of (fun m d h => (hI.a m d h).1) hI.z fun t u d' s h => hI.b t u d' (Nat.zero_le _) s h, backN_dN rfl⟩
  · refine ⟨by simp, fun m d h => ?_, ?_, fun t u d' h s hd => ?_⟩
    · simp only [kget] at h
      split at h
      · rename_i e; cases h; subst e; exact ⟨.zero, by simp⟩
      · cases h
    · simp [kget]
    · obtain ⟨g1, g2, _⟩ := s.facts ok.h4
      have h : W H - 0 ≤ t := h
      have := s.le
      omega
end K68
namespace K68
open PySem PySem.Spec PyProof.Rows L2 Mi
def ltN : List Nat → List Nat → Bool
  | [], [] => false
  | [], _ :: _ => true
  | _ :: _, [] => false
  | x :: xs, y :: ys => if x = y then ltN xs ys else decide (x < y)
theorem ltN_app : ∀ (a b x y : List Nat), a.length = b.length → ltN a b = true → ltN (a ++ x) (b ++ y) = true
  | [], [], x, y, _, h => by cases h
  | [], _ :: _, x, y, h, _ => by cases h
  | _ :: _, [], x, y, h, _ => by cases h
  | p :: a, q :: b, x, y, hl, h => by
    simp only [ltN, List.cons_append] at h ⊢
    split
    · rename_i e; rw [if_pos e] at h; exact ltN_app a b x y (by simpa using hl) h
    · rename_i e; rw [if_neg e] at h; exact h
theorem ltN_last : ∀ (a : List Nat) (u v : Nat), u < v → ltN (a ++ [u]) (a ++ [v]) = true
  | [], u, v, h => by simp [ltN, h]; omega
  | x :: a, u, v, h => by simp only [List.cons_append, ltN, if_true]; exact ltN_last a u v h
section
variable {H : Nat} {fit : Nat → Nat → Bool}
structure Gr (H : Nat) (fit : Nat → Nat → Bool) (D0 t : Nat) (rs : List Nat) : Prop where
  p : Pth H fit 0 rs t
  best : ∀ ps, Pth H fit 0 ps (W H) → ps.length = D0 → ltN rs (ps.take rs.length) = true ∨ ps.take rs.length = rs
structure Best (H : Nat) (fit : Nat → Nat → Bool) (D0 : Nat) (rs : List Nat) : Prop where
  p : Pth H fit 0 rs (W H)
  len : rs.length = D0
  best : ∀ ps, Pth H fit 0 ps (W H) → ps.length = D0 → ltN rs ps = true ∨ ps = rs
def good (H : Nat) (fit : Nat → Nat → Bool) (t d u : Nat) : Prop := RDist H fit (t ||| u) d ∧ fit t u = true
theorem Gr.step {D0 t d u : Nat} {rs : List Nat} (g : Gr H fit D0 t rs) (hd : RDist H fit t (d + 1)) (hl : rs.length + (d + 1) = D0) (s : Stp H fit t u) (hu : good H fit t d u)
    (hmin : ∀ v, v < u → Stp H fit t v → ¬ good H fit t d v) : Gr H fit D0 (t ||| u) (rs ++ [u]) := by
  refine ⟨g.p.app (.cons s .nil), fun ps hp hlen => ?_⟩
  have hn : rs.length < ps.length := by omega
  have e1 : ps.take (rs ++ [u]).length = ps.take rs.length ++ [ps[rs.length]] := by
    rw [List.length_append, List.length_singleton, List.take_succ_eq_append_getElem hn]
  rw [e1]
  rcases g.best ps hp hlen with h | h
  · exact .inl (ltN_app _ _ _ _ (by rw [List.length_take]; omega) h)
  · rw [h]
    have e2 : ps = rs ++ ps[rs.length] :: ps.drop (rs.length + 1) := by
      conv => lhs; rw [← List.take_append_drop rs.length ps, List.drop_eq_getElem_cons hn, h]
    obtain ⟨v, hv⟩ : ∃ v, v = ps[rs.length] := ⟨_, rfl⟩
    obtain ⟨rest, hr⟩ : ∃ r, r = ps.drop (rs.length + 1) := ⟨_, rfl⟩
    rw [← hv, ← hr] at e2
    rw [← hv]
    rw [e2] at hp hlen
    obtain ⟨m, h1, h2⟩ := hp.split
    have := g.p.det h1
    subst this
    cases h2 with
    | cons sv h3 =>
      have hk : rest.length = d := by simp at hlen; omega
      have hg : good H fit t d v := ⟨⟨hk ▸ h3.rr rfl, fun k r => by have := hd.2 _ (.step sv r); omega⟩, sv.fit⟩
      rcases Nat.lt_trichotomy u v with q | q | q
      · exact .inl (ltN_last _ _ _ q)
      · subst q; exact .inr rfl
      · exact absurd hg (hmin v q sv)
theorem RDist.ex (h4 : H ≤ 4) {t d : Nat} (h : RDist H fit t (d + 1)) : ∃ u, Stp H fit t u ∧ good H fit t d u := by
  cases h.1 with
  | step s r => exact ⟨_, s, ⟨r, fun k r' => by have := h.2 _ (.step s r'); omega⟩, s.fit⟩
theorem RDist.zero {t : Nat} (h : RDist H fit t 0) : t = W H := by
  cases h.1; rfl
theorem RDist.top : RDist H fit (W H) 0 := ⟨.zero, fun _ _ => Nat.zero_le _⟩
theorem dist_both {d : Nat} : Dist H fit (W H) d ↔ RDist H fit 0 d := by
  have a : ∀ k, Reach H fit k (W H) ↔ RR H fit k 0 := fun k => by
    constructor
    · intro h; obtain ⟨ps, h1, rfl⟩ := h.pth; exact h1.rr rfl
    · intro h
      obtain ⟨ps, h1, rfl⟩ := h.pth
      have := h1.reach .zero
      rwa [Nat.zero_add] at this
  unfold Dist RDist
  rw [a]
  exact ⟨fun h => ⟨h.1, fun k r => h.2 k ((a k).mpr r)⟩, fun h => ⟨h.1, fun k r => h.2 k ((a k).mp r)⟩⟩
theorem Gr.done {D0 : Nat} {rs : List Nat} (g : Gr H fit D0 (W H) rs) (hl : rs.length = D0) : Best H fit D0 rs :=
  ⟨g.p, hl, fun ps hp hlen => by
    have := g.best ps hp hlen
    rwa [hl, ← hlen, List.take_length] at this⟩
theorem Gr.start {D0 : Nat} : Gr H fit D0 0 [] := ⟨.nil, fun ps _ _ => .inr rfl⟩
/-- the levels' size -/
theorem Lev.len (h4 : H ≤ 4) {kvs : List (Nat × Nat)} (h : Lev H fit kvs) : kvs.length ≤ 16 := by
  have := nodup_lt 16 _ h.nd fun x hx => by
    obtain ⟨p, hp, rfl⟩ := List.mem_map.mp hx
    have := (((h.ok p.1 p.2).mp (kget_of_mem h.nd hp)).1).le h4
    have := W_lt h4
    omega
  rwa [List.length_map] at this
end
abbrev eTN (xs : List Nat) : D := .tup (xs.map fun x => .int (x : Nat))
def eP (p : Nat × Nat) : D := .tup [.int (p.1 : Nat), .int (p.2 : Nat)]
abbrev ePs (ps : List (Nat × Nat)) : D := .tup (ps.map eP)
def keysOf (kvs : List (Nat × Nat)) : List Nat := nsrt (kvs.map (·.1))
def pairsOf (kvs : List (Nat × Nat)) : List (Nat × Nat) := (keysOf kvs).map fun k => (k, (kget kvs k).getD 0)
abbrev stuckD (ks : List Nat) : D := .tup [.str (Str.ofString "stuck"), eTN ks, .tup []]
abbrev roundsD (rs : List Nat) (ps : List (Nat × Nat)) : D := .tup [.str (Str.ofString "rounds"), eTN rs, ePs ps]
def Told (H : Nat) (fit : Nat → Nat → Bool) (kvs : List (Nat × Nat)) (r : D) : Prop :=
  (kget kvs (W H) = none ∧ r = stuckD (keysOf kvs)) ∨ ∃ D0 rs, kget kvs (W H) = some D0 ∧ Best H fit D0 rs ∧ r = roundsD rs (pairsOf kvs)
theorem keysOf_mem {kvs : List (Nat × Nat)} {k : Nat} : k ∈ keysOf kvs ↔ k ∈ kvs.map (·.1) := (nsrt_perm _).mem_iff
theorem keysOf_len {kvs : List (Nat × Nat)} : (keysOf kvs).length = kvs.length := by
  unfold keysOf
  rw [(nsrt_perm _).length_eq, List.length_map]
theorem nrTN (xs : List Nat) : nr (eTN xs) = true := nrs_map (f := fun x : Nat => D.int (x : Int)) (fun _ => rfl) xs
theorem nrPs (xs : List (Nat × Nat)) : nr (ePs xs) = true := nrs_map (f := eP) (fun _ => rfl) xs
theorem fewest_run {H : Nat} {rooms : List Int} {needs : List (List Q4)} (ok : Ok H rooms needs) :
    CL F_fewest_rounds [eInts rooms, eNeeds needs] [] (fun d m => ∃ r, (∃ kvs, Lev H (fitN rooms needs) kvs ∧ Told H (fitN rooms needs) kvs r) ∧ backN d m = some r) := by
  have hw := W_lt ok.h4
  have hn : nrs [eInts rooms, eNeeds needs] = true := nrs2 (nr_eInts _) (nr_eNeeds _)
  obtain ⟨lv, hL, cL⟩ := pure_ex hn (levels_run ok)
  obtain ⟨lf, hR, cR⟩ := pure_ex hn (left_run ok)
  have hl := hL.len ok.h4
  refine (c_def (by rfl)).mpr ?_
  unfold b_fewest_rounds
  simp only [↓Mi.w_ret, ↓Mi.w_var0, ↓Mi.w_varS, ↓Mi.w_bin, ↓Mi.w_nil, ↓Mi.w_cons, ↓Mi.w_tup, ↓Mi.w_lst, ↓Mi.w_mut, ↓Mi.w_call, ↓Mi.w_if, ↓Mi.w_and, ↓Mi.w_or, ↓Mi.w_not, ↓Mi.w_B, ↓Mi.asb_bl, ↓Mi.w_andV, ↓Mi.w_orV, ↓Mi.w_notV, ↓Mi.w_tru, ↓Mi.tru_int, ↓Mi.tru_bl, ↓Mi.tru_non, ↓Mi.tru_tup, ↓Mi.tru_lst, ↓Mi.w_neg, ↓Mi.ex_int, ↓Mi.g_xor, ↓Mi.g_lt, ↓Mi.g_le, ↓Mi.g_gt, ↓Mi.g_ge, ↓Mi.g_mul, ↓Mi.g_mod, ↓Mi.g_div, ↓Mi.g_pow, ↓Mi.g_shl, ↓Mi.g_shr, ↓Mi.g_catT, ↓Mi.g_catL, ↓Mi.g_eqi, ↓Mi.g_nei, ↓Mi.g_eqb, ↓Mi.g_neb, ↓Mi.g_eqs, ↓Mi.g_nes, ↓Mi.g_eqt, ↓Mi.g_net, ↓Mi.g_is, ↓Mi.g_isnot, ↓Mi.g_ix_i, ↓Mi.g_ix_t, ↓Mi.ixv_tup, ↓Mi.ixv_lst, ↓Mi.ixv_dK, ↓Mi.g_in, ↓Mi.g_nin, ↓Mi.w_part, ↓Mi.w_sl, ↓Mi.sl_tup, ↓Mi.sl_lst, ↓Mi.sl_scr, ↓Mi.w_rev, ↓Mi.ex_lst, ↓Mi.w_get2, ↓Mi.c_g1, ↓Mi.c_max2, ↓Mi.c_min2, ↓Mi.c_tuple, ↓Mi.dtuple_tup, ↓Mi.dtuple_lst, ↓Mi.dtuple_ref, ↓Mi.w_isi, ↓Mi.setl_0, ↓Mi.setl_s, ↓Mi.w_append, ↓Mi.app_ref, ↓Mi.t_name, ↓Mi.t_tup, ↓Mi.t_nil, ↓Mi.t_cons, ↓Mi.s_next, ↓Mi.s_break, ↓Mi.s_cont, ↓Mi.s_set, ↓Mi.s_ret, ↓Mi.s_retN, ↓Mi.s_expr, ↓Mi.s_if, ↓Mi.s_asg, ↓Mi.s_store, ↓Mi.s_seq, ↓Mi.k_nx, ↓Mi.k_rt, ↓Mi.k_bk, ↓Mi.k_ct, ↓Mi.sto_s, ↓Mi.sto_L, ↓Mi.s_for, ↓Mi.s_while, ↓Mi.r_rt, ↓Mi.r_nx, ↓Mi.tn_nx, ↓Mi.tn_ct, ↓Mi.tn_bk, ↓Mi.tn_rt, ↓Mi.w_seqI, ↓Mi.w_enumI, ↓Mi.w_zipI, ↓Mi.w_range1, ↓Mi.w_range2, ↓Mi.w_range3, ↓Mi.seq_tup, ↓Mi.seq_lst, ↓Mi.seq_ref, ↓Mi.w_lc, ↓Mi.w_yes, ↓Mi.w_chain, ↓Mi.isi_ii, ↓Mi.isi_bi, ↓Mi.isi_tt, ↓Mi.is_non_dK, ↓Mi.is_non_non, ↓Mi.is_blbl, ↓Mi.upd_0, ↓Mi.upd_s, ↓Mi.see_ref, ↓Mi.see_tup, ↓Mi.see_lst, ↓Mi.see_int, ↓Mi.see_str, ↓Mi.see_bl, ↓Mi.see_non, ↓Mi.see_dK, ↓Mi.see_dT, ↓Mi.see_scr, ↓Mi.cell_0, ↓Mi.cell_s, ↓Mi.push_0, ↓Mi.push_1, ↓Mi.push_2, ↓Mi.push_3, ↓Mi.push_4, ↓Mi.push_5, ↓Mi.opt_some, ↓Mi.it_true, ↓Mi.it_false, ↓Mi.it_dec, ↓Mi.it_not, ↓Mi.g_andN, ↓Mi.g_orN, ↓Mi.g_add1, ↓Mi.n_dget, ↓Mi.n_look, ↓Mi.n_in, ↓Mi.n_sto, ↓Mi.n_disp, ↓Mi.keyd_i, ↓Mi.c_minN, ↓Mi.g_eqgetN, ↓Mi.g_negetI, ↓Mi.in_tupN, ↓Mi.n_look0, Mi.wipeR, Mi.dlen_tup, Mi.dlen_lst, Mi.dint_int, Mi.dlist_lst, Mi.dlist_tup, Mi.isl_lst, Mi.isd_dK, Mi.atI_0, Mi.atI_1, Mi.atI_2, Mi.atI_3, Mi.atI_4, List.length_cons, List.length_nil, Nat.reduceAdd, Nat.reduceLeDiff, true_and, and_true, Mi.forget, List.set_cons_zero, List.set_cons_succ, List.map_cons, List.map_nil, List.cons_append, List.nil_append, List.replicate, Nat.reduceSub, Nat.le_refl, ↓call_whole ok, ↓cL, ↓cR, ↓opt_eq (sorted_dN (show lv.length < 64 by omega)), ↓g_nin]
  cases hg : kget lv (W H) with
  | none =>
    simp only [Option.isSome_none, ↓it_false]
    refine ⟨_, ⟨lv, hL, .inl ⟨hg, ?_⟩⟩, backN_nr ?_⟩
    · rfl
    · exact nrs3 rfl (nrTN _) rfl
  | some D0 =>
    simp only [Option.isSome_some, ↓it_true]
    have hD := dist_both.mp ((hL.ok _ _).mp hg)
    have hD0 := (hD.1.le ok.h4).2
    refine while_ok (fun k ρ μ => ∃ t rs, ρ = [some (eInts rooms), some (eNeeds needs), some (dN lv), some (dN lf), some (.int (W H : Nat)), some (.ref 0), some (.int (t : Nat)), none, none, none] ∧ μ = [⟨false, .lst (rs.map fun x : Nat => .int (x : Nat))⟩] ∧
      Gr H (fitN rooms needs) D0 t rs ∧ RDist H (fitN rooms needs) t k ∧ rs.length + k = D0) ?_ D0 _ _ _ ?_ ⟨0, [], rfl, rfl, .start, hD, by simp⟩
    · rintro k ρ μ ⟨t, rs, rfl, rfl, hG, hd, hlen⟩
      have hle : t ≤ W H := (hd.1.le ok.h4).1
      have hk := (hd.1.le ok.h4).2
      simp only [↓Mi.w_ret, ↓Mi.w_var0, ↓Mi.w_varS, ↓Mi.w_bin, ↓Mi.w_nil, ↓Mi.w_cons, ↓Mi.w_tup, ↓Mi.w_lst, ↓Mi.w_mut, ↓Mi.w_call, ↓Mi.w_if, ↓Mi.w_and, ↓Mi.w_or, ↓Mi.w_not, ↓Mi.w_B, ↓Mi.asb_bl, ↓Mi.w_andV, ↓Mi.w_orV, ↓Mi.w_notV, ↓Mi.w_tru, ↓Mi.tru_int, ↓Mi.tru_bl, ↓Mi.tru_non, ↓Mi.tru_tup, ↓Mi.tru_lst, ↓Mi.w_neg, ↓Mi.ex_int, ↓Mi.g_xor, ↓Mi.g_lt, ↓Mi.g_le, ↓Mi.g_gt, ↓Mi.g_ge, ↓Mi.g_mul, ↓Mi.g_mod, ↓Mi.g_div, ↓Mi.g_pow, ↓Mi.g_shl, ↓Mi.g_shr, ↓Mi.g_catT, ↓Mi.g_catL, ↓Mi.g_eqi, ↓Mi.g_nei, ↓Mi.g_eqb, ↓Mi.g_neb, ↓Mi.g_eqs, ↓Mi.g_nes, ↓Mi.g_eqt, ↓Mi.g_net, ↓Mi.g_is, ↓Mi.g_isnot, ↓Mi.g_ix_i, ↓Mi.g_ix_t, ↓Mi.ixv_tup, ↓Mi.ixv_lst, ↓Mi.ixv_dK, ↓Mi.g_in, ↓Mi.g_nin, ↓Mi.w_part, ↓Mi.w_sl, ↓Mi.sl_tup, ↓Mi.sl_lst, ↓Mi.sl_scr, ↓Mi.w_rev, ↓Mi.ex_lst, ↓Mi.w_get2, ↓Mi.c_g1, ↓Mi.c_max2, ↓Mi.c_min2, ↓Mi.c_tuple, ↓Mi.dtuple_tup, ↓Mi.dtuple_lst, ↓Mi.dtuple_ref, ↓Mi.w_isi, ↓Mi.setl_0, ↓Mi.setl_s, ↓Mi.w_append, ↓Mi.app_ref, ↓Mi.t_name, ↓Mi.t_tup, ↓Mi.t_nil, ↓Mi.t_cons, ↓Mi.s_next, ↓Mi.s_break, ↓Mi.s_cont, ↓Mi.s_set, ↓Mi.s_ret, ↓Mi.s_retN, ↓Mi.s_expr, ↓Mi.s_if, ↓Mi.s_asg, ↓Mi.s_store, ↓Mi.s_seq, ↓Mi.k_nx, ↓Mi.k_rt, ↓Mi.k_bk, ↓Mi.k_ct, ↓Mi.sto_s, ↓Mi.sto_L, ↓Mi.s_for, ↓Mi.s_while, ↓Mi.r_rt, ↓Mi.r_nx, ↓Mi.tn_nx, ↓Mi.tn_ct, ↓Mi.tn_bk, ↓Mi.tn_rt, ↓Mi.w_seqI, ↓Mi.w_enumI, ↓Mi.w_zipI, ↓Mi.w_range1, ↓Mi.w_range2, ↓Mi.w_range3, ↓Mi.seq_tup, ↓Mi.seq_lst, ↓Mi.seq_ref, ↓Mi.w_lc, ↓Mi.w_yes, ↓Mi.w_chain, ↓Mi.isi_ii, ↓Mi.isi_bi, ↓Mi.isi_tt, ↓Mi.is_non_dK, ↓Mi.is_non_non, ↓Mi.is_blbl, ↓Mi.upd_0, ↓Mi.upd_s, ↓Mi.see_ref, ↓Mi.see_tup, ↓Mi.see_lst, ↓Mi.see_int, ↓Mi.see_str, ↓Mi.see_bl, ↓Mi.see_non, ↓Mi.see_dK, ↓Mi.see_dT, ↓Mi.see_scr, ↓Mi.cell_0, ↓Mi.cell_s, ↓Mi.push_0, ↓Mi.push_1, ↓Mi.push_2, ↓Mi.push_3, ↓Mi.push_4, ↓Mi.push_5, ↓Mi.opt_some, ↓Mi.it_true, ↓Mi.it_false, ↓Mi.it_dec, ↓Mi.it_not, ↓Mi.g_andN, ↓Mi.g_orN, ↓Mi.g_add1, ↓Mi.n_dget, ↓Mi.n_look, ↓Mi.n_in, ↓Mi.n_sto, ↓Mi.n_disp, ↓Mi.keyd_i, ↓Mi.c_minN, ↓Mi.g_eqgetN, ↓Mi.g_negetI, ↓Mi.in_tupN, ↓Mi.n_look0, Mi.wipeR, Mi.dlen_tup, Mi.dlen_lst, Mi.dint_int, Mi.dlist_lst, Mi.dlist_tup, Mi.isl_lst, Mi.isd_dK, Mi.atI_0, Mi.atI_1, Mi.atI_2, Mi.atI_3, Mi.atI_4, List.length_cons, List.length_nil, Nat.reduceAdd, Nat.reduceLeDiff, true_and, and_true, Mi.forget, List.set_cons_zero, List.set_cons_succ, List.map_cons, List.map_nil, List.cons_append, List.nil_append, List.replicate, Nat.reduceSub, Nat.le_refl, ↓g_subN hle, ↓call_parts (show W H - t < 16 by omega)]
      refine ⟨fun hne => ?_, fun he => ?_⟩
      · cases k with
        | zero => exact absurd (congrArg (fun n : Nat => (n : Int)) hd.zero) hne
        | succ d =>
          refine for_ok (fun done ρ μ => ρ = [some (eInts rooms), some (eNeeds needs), some (dN lv), some (dN lf), some (.int (W H : Nat)), some (.ref 0), some (.int (t : Nat)), none, none, none] ∧ μ = [⟨false, .lst (rs.map fun x : Nat => .int (x : Nat))⟩] ∧
            ∀ u ∈ done, ¬ good H (fitN rooms needs) t d u) _ (fun _ _ _ _ => rfl) ?_ ?_ ⟨rfl, rfl, fun _ h => by cases h⟩
          · rintro done u rest ρ μ e ⟨rfl, rfl, hno⟩
            have hu : u ∈ parts (W H - t) := by rw [e]; simp
            simp only [↓Mi.w_ret, ↓Mi.w_var0, ↓Mi.w_varS, ↓Mi.w_bin, ↓Mi.w_nil, ↓Mi.w_cons, ↓Mi.w_tup, ↓Mi.w_lst, ↓Mi.w_mut, ↓Mi.w_call, ↓Mi.w_if, ↓Mi.w_and, ↓Mi.w_or, ↓Mi.w_not, ↓Mi.w_B, ↓Mi.asb_bl, ↓Mi.w_andV, ↓Mi.w_orV, ↓Mi.w_notV, ↓Mi.w_tru, ↓Mi.tru_int, ↓Mi.tru_bl, ↓Mi.tru_non, ↓Mi.tru_tup, ↓Mi.tru_lst, ↓Mi.w_neg, ↓Mi.ex_int, ↓Mi.g_xor, ↓Mi.g_lt, ↓Mi.g_le, ↓Mi.g_gt, ↓Mi.g_ge, ↓Mi.g_mul, ↓Mi.g_mod, ↓Mi.g_div, ↓Mi.g_pow, ↓Mi.g_shl, ↓Mi.g_shr, ↓Mi.g_catT, ↓Mi.g_catL, ↓Mi.g_eqi, ↓Mi.g_nei, ↓Mi.g_eqb, ↓Mi.g_neb, ↓Mi.g_eqs, ↓Mi.g_nes, ↓Mi.g_eqt, ↓Mi.g_net, ↓Mi.g_is, ↓Mi.g_isnot, ↓Mi.g_ix_i, ↓Mi.g_ix_t, ↓Mi.ixv_tup, ↓Mi.ixv_lst, ↓Mi.ixv_dK, ↓Mi.g_in, ↓Mi.g_nin, ↓Mi.w_part, ↓Mi.w_sl, ↓Mi.sl_tup, ↓Mi.sl_lst, ↓Mi.sl_scr, ↓Mi.w_rev, ↓Mi.ex_lst, ↓Mi.w_get2, ↓Mi.c_g1, ↓Mi.c_max2, ↓Mi.c_min2, ↓Mi.c_tuple, ↓Mi.dtuple_tup, ↓Mi.dtuple_lst, ↓Mi.dtuple_ref, ↓Mi.w_isi, ↓Mi.setl_0, ↓Mi.setl_s, ↓Mi.w_append, ↓Mi.app_ref, ↓Mi.t_name, ↓Mi.t_tup, ↓Mi.t_nil, ↓Mi.t_cons, ↓Mi.s_next, ↓Mi.s_break, ↓Mi.s_cont, ↓Mi.s_set, ↓Mi.s_ret, ↓Mi.s_retN, ↓Mi.s_expr, ↓Mi.s_if, ↓Mi.s_asg, ↓Mi.s_store, ↓Mi.s_seq, ↓Mi.k_nx, ↓Mi.k_rt, ↓Mi.k_bk, ↓Mi.k_ct, ↓Mi.sto_s, ↓Mi.sto_L, ↓Mi.s_for, ↓Mi.s_while, ↓Mi.r_rt, ↓Mi.r_nx, ↓Mi.tn_nx, ↓Mi.tn_ct, ↓Mi.tn_bk, ↓Mi.tn_rt, ↓Mi.w_seqI, ↓Mi.w_enumI, ↓Mi.w_zipI, ↓Mi.w_range1, ↓Mi.w_range2, ↓Mi.w_range3, ↓Mi.seq_tup, ↓Mi.seq_lst, ↓Mi.seq_ref, ↓Mi.w_lc, ↓Mi.w_yes, ↓Mi.w_chain, ↓Mi.isi_ii, ↓Mi.isi_bi, ↓Mi.isi_tt, ↓Mi.is_non_dK, ↓Mi.is_non_non, ↓Mi.is_blbl, ↓Mi.upd_0, ↓Mi.upd_s, ↓Mi.see_ref, ↓Mi.see_tup, ↓Mi.see_lst, ↓Mi.see_int, ↓Mi.see_str, ↓Mi.see_bl, ↓Mi.see_non, ↓Mi.see_dK, ↓Mi.see_dT, ↓Mi.see_scr, ↓Mi.cell_0, ↓Mi.cell_s, ↓Mi.push_0, ↓Mi.push_1, ↓Mi.push_2, ↓Mi.push_3, ↓Mi.push_4, ↓Mi.push_5, ↓Mi.opt_some, ↓Mi.it_true, ↓Mi.it_false, ↓Mi.it_dec, ↓Mi.it_not, ↓Mi.g_andN, ↓Mi.g_orN, ↓Mi.g_add1, ↓Mi.n_dget, ↓Mi.n_look, ↓Mi.n_in, ↓Mi.n_sto, ↓Mi.n_disp, ↓Mi.keyd_i, ↓Mi.c_minN, ↓Mi.g_eqgetN, ↓Mi.g_negetI, ↓Mi.in_tupN, ↓Mi.n_look0, Mi.wipeR, Mi.dlen_tup, Mi.dlen_lst, Mi.dint_int, Mi.dlist_lst, Mi.dlist_tup, Mi.isl_lst, Mi.isd_dK, Mi.atI_0, Mi.atI_1, Mi.atI_2, Mi.atI_3, Mi.atI_4, List.length_cons, List.length_nil, Nat.reduceAdd, Nat.reduceLeDiff, true_and, and_true, Mi.forget, List.set_cons_zero, List.set_cons_succ, List.map_cons, List.map_nil, List.cons_append, List.nil_append, List.replicate, Nat.reduceSub, Nat.le_refl, ↓opt_eq ((hR.ok _ _).mpr hd), ↓g_sub, ↓call_fits]
            have hgood : ((((kget lf (t ||| u)).getD (W H + 1) : Nat) : Int) = ((d + 1 : Nat) : Int) - 1) ↔ RDist H (fitN rooms needs) (t ||| u) d := by
              rw [← hR.ok]
              cases hx : kget lf (t ||| u) with
              | none => simp only [Option.getD_none]; constructor <;> intro h <;> first | (cases h; done) | omega
              | some x => simp only [Option.getD_some, Option.some.injEq]; omega
            have skip : ¬ good H (fitN rooms needs) t d u → ∀ v ∈ done ++ [u], ¬ good H (fitN rooms needs) t d v := fun h v hv => by
              rcases List.mem_append.mp hv with hv | hv
              · exact hno v hv
              · simp at hv; subst hv; exact h
            refine ⟨fun h1 => ?_, fun h1 => skip fun hgd => h1 (hgood.mpr hgd.1)⟩
            have h1 := hgood.mp h1
            cases hf : fitB rooms needs t u with
            | false =>
              simp only [↓it_false]
              exact skip fun hgd => by have := hgd.2; rw [show fitN rooms needs t u = false from hf] at this; cases this
            | true =>
              have s : Stp H (fitN rooms needs) t u := ⟨hle, hu, hf⟩
              obtain ⟨f1, f2, f3, f4, f5, f6⟩ := s.facts ok.h4
              simp only [↓it_true, ↓Mi.w_ret, ↓Mi.w_var0, ↓Mi.w_varS, ↓Mi.w_bin, ↓Mi.w_nil, ↓Mi.w_cons, ↓Mi.w_tup, ↓Mi.w_lst, ↓Mi.w_mut, ↓Mi.w_call, ↓Mi.w_if, ↓Mi.w_and, ↓Mi.w_or, ↓Mi.w_not, ↓Mi.w_B, ↓Mi.asb_bl, ↓Mi.w_andV, ↓Mi.w_orV, ↓Mi.w_notV, ↓Mi.w_tru, ↓Mi.tru_int, ↓Mi.tru_bl, ↓Mi.tru_non, ↓Mi.tru_tup, ↓Mi.tru_lst, ↓Mi.w_neg, ↓Mi.ex_int, ↓Mi.g_xor, ↓Mi.g_lt, ↓Mi.g_le, ↓Mi.g_gt, ↓Mi.g_ge, ↓Mi.g_mul, ↓Mi.g_mod, ↓Mi.g_div, ↓Mi.g_pow, ↓Mi.g_shl, ↓Mi.g_shr, ↓Mi.g_catT, ↓Mi.g_catL, ↓Mi.g_eqi, ↓Mi.g_nei, ↓Mi.g_eqb, ↓Mi.g_neb, ↓Mi.g_eqs, ↓Mi.g_nes, ↓Mi.g_eqt, ↓Mi.g_net, ↓Mi.g_is, ↓Mi.g_isnot, ↓Mi.g_ix_i, ↓Mi.g_ix_t, ↓Mi.ixv_tup, ↓Mi.ixv_lst, ↓Mi.ixv_dK, ↓Mi.g_in, ↓Mi.g_nin, ↓Mi.w_part, ↓Mi.w_sl, ↓Mi.sl_tup, ↓Mi.sl_lst, ↓Mi.sl_scr, ↓Mi.w_rev, ↓Mi.ex_lst, ↓Mi.w_get2, ↓Mi.c_g1, ↓Mi.c_max2, ↓Mi.c_min2, ↓Mi.c_tuple, ↓Mi.dtuple_tup, ↓Mi.dtuple_lst, ↓Mi.dtuple_ref, ↓Mi.w_isi, ↓Mi.setl_0, ↓Mi.setl_s, ↓Mi.w_append, ↓Mi.app_ref, ↓Mi.t_name, ↓Mi.t_tup, ↓Mi.t_nil, ↓Mi.t_cons, ↓Mi.s_next, ↓Mi.s_break, ↓Mi.s_cont, ↓Mi.s_set, ↓Mi.s_ret, ↓Mi.s_retN, ↓Mi.s_expr, ↓Mi.s_if, ↓Mi.s_asg, ↓Mi.s_store, ↓Mi.s_seq, ↓Mi.k_nx, ↓Mi.k_rt, ↓Mi.k_bk, ↓Mi.k_ct, ↓Mi.sto_s, ↓Mi.sto_L, ↓Mi.s_for, ↓Mi.s_while, ↓Mi.r_rt, ↓Mi.r_nx, ↓Mi.tn_nx, ↓Mi.tn_ct, ↓Mi.tn_bk, ↓Mi.tn_rt, ↓Mi.w_seqI, ↓Mi.w_enumI, ↓Mi.w_zipI, ↓Mi.w_range1, ↓Mi.w_range2, ↓Mi.w_range3, ↓Mi.seq_tup, ↓Mi.seq_lst, ↓Mi.seq_ref, ↓Mi.w_lc, ↓Mi.w_yes, ↓Mi.w_chain, ↓Mi.isi_ii, ↓Mi.isi_bi, ↓Mi.isi_tt, ↓Mi.is_non_dK, ↓Mi.is_non_non, ↓Mi.is_blbl, ↓Mi.upd_0, ↓Mi.upd_s, ↓Mi.see_ref, ↓Mi.see_tup, ↓Mi.see_lst, ↓Mi.see_int, ↓Mi.see_str, ↓Mi.see_bl, ↓Mi.see_non, ↓Mi.see_dK, ↓Mi.see_dT, ↓Mi.see_scr, ↓Mi.cell_0, ↓Mi.cell_s, ↓Mi.push_0, ↓Mi.push_1, ↓Mi.push_2, ↓Mi.push_3, ↓Mi.push_4, ↓Mi.push_5, ↓Mi.opt_some, ↓Mi.it_true, ↓Mi.it_false, ↓Mi.it_dec, ↓Mi.it_not, ↓Mi.g_andN, ↓Mi.g_orN, ↓Mi.g_add1, ↓Mi.n_dget, ↓Mi.n_look, ↓Mi.n_in, ↓Mi.n_sto, ↓Mi.n_disp, ↓Mi.keyd_i, ↓Mi.c_minN, ↓Mi.g_eqgetN, ↓Mi.g_negetI, ↓Mi.in_tupN, ↓Mi.n_look0, Mi.wipeR, Mi.dlen_tup, Mi.dlen_lst, Mi.dint_int, Mi.dlist_lst, Mi.dlist_tup, Mi.isl_lst, Mi.isd_dK, Mi.atI_0, Mi.atI_1, Mi.atI_2, Mi.atI_3, Mi.atI_4, List.length_cons, List.length_nil, Nat.reduceAdd, Nat.reduceLeDiff, true_and, and_true, Mi.forget, List.set_cons_zero, List.set_cons_succ, List.map_cons, List.map_nil, List.cons_append, List.nil_append, List.replicate, Nat.reduceSub, Nat.le_refl, List.length_map]
              refine ⟨by omega, d, by omega, t ||| u, rs ++ [u], rfl, by simp, hG.step hd hlen s ⟨h1, hf⟩ (fun v hv sv => ?_), h1, by simp; omega⟩
              have hvm : v ∈ done := by
                have hv1 : v ∈ parts (W H - t) := sv.mem
                have hs := parts_sorted (W H - t)
                rw [e] at hv1 hs
                rw [List.pairwise_append] at hs
                rcases List.mem_append.mp hv1 with q | q
                · exact q
                · rcases List.mem_cons.mp q with q | q
                  · omega
                  · have := (List.pairwise_cons.mp hs.2.1).1 v q
                    omega
              exact hno v hvm
          · rintro ρ μ ⟨rfl, rfl, hno⟩
            obtain ⟨u, s, hgd⟩ := hd.ex ok.h4
            exact absurd hgd (hno u s.mem)
      · have het : t = W H := by
          have := Decidable.not_not.mp he
          omega
        subst het
        have hk0 : k = 0 := by omega
        subst hk0
        simp only [↓Mi.w_ret, ↓Mi.w_var0, ↓Mi.w_varS, ↓Mi.w_bin, ↓Mi.w_nil, ↓Mi.w_cons, ↓Mi.w_tup, ↓Mi.w_lst, ↓Mi.w_mut, ↓Mi.w_call, ↓Mi.w_if, ↓Mi.w_and, ↓Mi.w_or, ↓Mi.w_not, ↓Mi.w_B, ↓Mi.asb_bl, ↓Mi.w_andV, ↓Mi.w_orV, ↓Mi.w_notV, ↓Mi.w_tru, ↓Mi.tru_int, ↓Mi.tru_bl, ↓Mi.tru_non, ↓Mi.tru_tup, ↓Mi.tru_lst, ↓Mi.w_neg, ↓Mi.ex_int, ↓Mi.g_xor, ↓Mi.g_lt, ↓Mi.g_le, ↓Mi.g_gt, ↓Mi.g_ge, ↓Mi.g_mul, ↓Mi.g_mod, ↓Mi.g_div, ↓Mi.g_pow, ↓Mi.g_shl, ↓Mi.g_shr, ↓Mi.g_catT, ↓Mi.g_catL, ↓Mi.g_eqi, ↓Mi.g_nei, ↓Mi.g_eqb, ↓Mi.g_neb, ↓Mi.g_eqs, ↓Mi.g_nes, ↓Mi.g_eqt, ↓Mi.g_net, ↓Mi.g_is, ↓Mi.g_isnot, ↓Mi.g_ix_i, ↓Mi.g_ix_t, ↓Mi.ixv_tup, ↓Mi.ixv_lst, ↓Mi.ixv_dK, ↓Mi.g_in, ↓Mi.g_nin, ↓Mi.w_part, ↓Mi.w_sl, ↓Mi.sl_tup, ↓Mi.sl_lst, ↓Mi.sl_scr, ↓Mi.w_rev, ↓Mi.ex_lst, ↓Mi.w_get2, ↓Mi.c_g1, ↓Mi.c_max2, ↓Mi.c_min2, ↓Mi.c_tuple, ↓Mi.dtuple_tup, ↓Mi.dtuple_lst, ↓Mi.dtuple_ref, ↓Mi.w_isi, ↓Mi.setl_0, ↓Mi.setl_s, ↓Mi.w_append, ↓Mi.app_ref, ↓Mi.t_name, ↓Mi.t_tup, ↓Mi.t_nil, ↓Mi.t_cons, ↓Mi.s_next, ↓Mi.s_break, ↓Mi.s_cont, ↓Mi.s_set, ↓Mi.s_ret, ↓Mi.s_retN, ↓Mi.s_expr, ↓Mi.s_if, ↓Mi.s_asg, ↓Mi.s_store, ↓Mi.s_seq, ↓Mi.k_nx, ↓Mi.k_rt, ↓Mi.k_bk, ↓Mi.k_ct, ↓Mi.sto_s, ↓Mi.sto_L, ↓Mi.s_for, ↓Mi.s_while, ↓Mi.r_rt, ↓Mi.r_nx, ↓Mi.tn_nx, ↓Mi.tn_ct, ↓Mi.tn_bk, ↓Mi.tn_rt, ↓Mi.w_seqI, ↓Mi.w_enumI, ↓Mi.w_zipI, ↓Mi.w_range1, ↓Mi.w_range2, ↓Mi.w_range3, ↓Mi.seq_tup, ↓Mi.seq_lst, ↓Mi.seq_ref, ↓Mi.w_lc, ↓Mi.w_yes, ↓Mi.w_chain, ↓Mi.isi_ii, ↓Mi.isi_bi, ↓Mi.isi_tt, ↓Mi.is_non_dK, ↓Mi.is_non_non, ↓Mi.is_blbl, ↓Mi.upd_0, ↓Mi.upd_s, ↓Mi.see_ref, ↓Mi.see_tup, ↓Mi.see_lst, ↓Mi.see_int, ↓Mi.see_str, ↓Mi.see_bl, ↓Mi.see_non, ↓Mi.see_dK, ↓Mi.see_dT, ↓Mi.see_scr, ↓Mi.cell_0, ↓Mi.cell_s, ↓Mi.push_0, ↓Mi.push_1, ↓Mi.push_2, ↓Mi.push_3, ↓Mi.push_4, ↓Mi.push_5, ↓Mi.opt_some, ↓Mi.it_true, ↓Mi.it_false, ↓Mi.it_dec, ↓Mi.it_not, ↓Mi.g_andN, ↓Mi.g_orN, ↓Mi.g_add1, ↓Mi.n_dget, ↓Mi.n_look, ↓Mi.n_in, ↓Mi.n_sto, ↓Mi.n_disp, ↓Mi.keyd_i, ↓Mi.c_minN, ↓Mi.g_eqgetN, ↓Mi.g_negetI, ↓Mi.in_tupN, ↓Mi.n_look0, Mi.wipeR, Mi.dlen_tup, Mi.dlen_lst, Mi.dint_int, Mi.dlist_lst, Mi.dlist_tup, Mi.isl_lst, Mi.isd_dK, Mi.atI_0, Mi.atI_1, Mi.atI_2, Mi.atI_3, Mi.atI_4, List.length_cons, List.length_nil, Nat.reduceAdd, Nat.reduceLeDiff, true_and, and_true, Mi.forget, List.set_cons_zero, List.set_cons_succ, List.map_cons, List.map_nil, List.cons_append, List.nil_append, List.replicate, Nat.reduceSub, Nat.le_refl, ↓opt_eq (sorted_dN (show lv.length < 64 by omega)), List.length_map]
        refine ⟨by rw [(nsrt_perm _).length_eq, List.length_map]; omega, ?_⟩
        refine lc_map (f := fun k : Nat => eP (k, (kget lv k).getD 0)) rfl (fun k hk => ?_) ?_
        · have hm : k ∈ lv.map (·.1) := (nsrt_perm _).mem_iff.mp hk
          obtain ⟨v, hv⟩ : ∃ v, kget lv k = some v := by
            have := kget_isSome.mpr hm
            exact Option.isSome_iff_exists.mp this
          simp only [↓Mi.w_ret, ↓Mi.w_var0, ↓Mi.w_varS, ↓Mi.w_bin, ↓Mi.w_nil, ↓Mi.w_cons, ↓Mi.w_tup, ↓Mi.w_lst, ↓Mi.w_mut, ↓Mi.w_call, ↓Mi.w_if, ↓Mi.w_and, ↓Mi.w_or, ↓Mi.w_not, ↓Mi.w_B, ↓Mi.asb_bl, ↓Mi.w_andV, ↓Mi.w_orV, ↓Mi.w_notV, ↓Mi.w_tru, ↓Mi.tru_int, ↓Mi.tru_bl, ↓Mi.tru_non, ↓Mi.tru_tup, ↓Mi.tru_lst, ↓Mi.w_neg, ↓Mi.ex_int, ↓Mi.g_xor, ↓Mi.g_lt, ↓Mi.g_le, ↓Mi.g_gt, ↓Mi.g_ge, ↓Mi.g_mul, ↓Mi.g_mod, ↓Mi.g_div, ↓Mi.g_pow, ↓Mi.g_shl, ↓Mi.g_shr, ↓Mi.g_catT, ↓Mi.g_catL, ↓Mi.g_eqi, ↓Mi.g_nei, ↓Mi.g_eqb, ↓Mi.g_neb, ↓Mi.g_eqs, ↓Mi.g_nes, ↓Mi.g_eqt, ↓Mi.g_net, ↓Mi.g_is, ↓Mi.g_isnot, ↓Mi.g_ix_i, ↓Mi.g_ix_t, ↓Mi.ixv_tup, ↓Mi.ixv_lst, ↓Mi.ixv_dK, ↓Mi.g_in, ↓Mi.g_nin, ↓Mi.w_part, ↓Mi.w_sl, ↓Mi.sl_tup, ↓Mi.sl_lst, ↓Mi.sl_scr, ↓Mi.w_rev, ↓Mi.ex_lst, ↓Mi.w_get2, ↓Mi.c_g1, ↓Mi.c_max2, ↓Mi.c_min2, ↓Mi.c_tuple, ↓Mi.dtuple_tup, ↓Mi.dtuple_lst, ↓Mi.dtuple_ref, ↓Mi.w_isi, ↓Mi.setl_0, ↓Mi.setl_s, ↓Mi.w_append, ↓Mi.app_ref, ↓Mi.t_name, ↓Mi.t_tup, ↓Mi.t_nil, ↓Mi.t_cons, ↓Mi.s_next, ↓Mi.s_break, ↓Mi.s_cont, ↓Mi.s_set, ↓Mi.s_ret, ↓Mi.s_retN, ↓Mi.s_expr, ↓Mi.s_if, ↓Mi.s_asg, ↓Mi.s_store, ↓Mi.s_seq, ↓Mi.k_nx, ↓Mi.k_rt, ↓Mi.k_bk, ↓Mi.k_ct, ↓Mi.sto_s, ↓Mi.sto_L, ↓Mi.s_for, ↓Mi.s_while, ↓Mi.r_rt, ↓Mi.r_nx, ↓Mi.tn_nx, ↓Mi.tn_ct, ↓Mi.tn_bk, ↓Mi.tn_rt, ↓Mi.w_seqI, ↓Mi.w_enumI, ↓Mi.w_zipI, ↓Mi.w_range1, ↓Mi.w_range2, ↓Mi.w_range3, ↓Mi.seq_tup, ↓Mi.seq_lst, ↓Mi.seq_ref, ↓Mi.w_lc, ↓Mi.w_yes, ↓Mi.w_chain, ↓Mi.isi_ii, ↓Mi.isi_bi, ↓Mi.isi_tt, ↓Mi.is_non_dK, ↓Mi.is_non_non, ↓Mi.is_blbl, ↓Mi.upd_0, ↓Mi.upd_s, ↓Mi.see_ref, ↓Mi.see_tup, ↓Mi.see_lst, ↓Mi.see_int, ↓Mi.see_str, ↓Mi.see_bl, ↓Mi.see_non, ↓Mi.see_dK, ↓Mi.see_dT, ↓Mi.see_scr, ↓Mi.cell_0, ↓Mi.cell_s, ↓Mi.push_0, ↓Mi.push_1, ↓Mi.push_2, ↓Mi.push_3, ↓Mi.push_4, ↓Mi.push_5, ↓Mi.opt_some, ↓Mi.it_true, ↓Mi.it_false, ↓Mi.it_dec, ↓Mi.it_not, ↓Mi.g_andN, ↓Mi.g_orN, ↓Mi.g_add1, ↓Mi.n_dget, ↓Mi.n_look, ↓Mi.n_in, ↓Mi.n_sto, ↓Mi.n_disp, ↓Mi.keyd_i, ↓Mi.c_minN, ↓Mi.g_eqgetN, ↓Mi.g_negetI, ↓Mi.in_tupN, ↓Mi.n_look0, Mi.wipeR, Mi.dlen_tup, Mi.dlen_lst, Mi.dint_int, Mi.dlist_lst, Mi.dlist_tup, Mi.isl_lst, Mi.isd_dK, Mi.atI_0, Mi.atI_1, Mi.atI_2, Mi.atI_3, Mi.atI_4, List.length_cons, List.length_nil, Nat.reduceAdd, Nat.reduceLeDiff, true_and, and_true, Mi.forget, List.set_cons_zero, List.set_cons_succ, List.map_cons, List.map_nil, List.cons_append, List.nil_append, List.replicate, Nat.reduceSub, Nat.le_refl, ↓opt_eq hv]
          rw [hv]
          rfl
        · skip
          refine ⟨_, ⟨lv, hL, .inr ⟨D0, rs, hg, hG.done (by simpa using hlen), rfl⟩⟩, ?_⟩
          have e1 : (pairsOf lv).map eP = (nsrt (lv.map fun x => x.1)).map fun k : Nat => eP (k, (kget lv k).getD 0) := by
            unfold pairsOf keysOf
            rw [List.map_map]; rfl
          unfold roundsD ePs
          rw [e1]
          refine backN_nr (nrs3 rfl (nrTN _) ?_)
          exact nrs_map (f := fun k : Nat => eP (k, (kget lv k).getD 0)) (fun _ => rfl) _
    · have := (hD.1.le ok.h4).2
      omega
end K68
namespace K68
open PySem PySem.Spec PyProof.Rows L2 Mi
theorem call_iswhole (v lo hi : Int) (μ : Mem) (Q : D → Mem → Prop) : CL (pureF F_is_whole) [.int v, .int lo, .int hi] μ Q ↔ Q (.bl (decide (lo ≤ v ∧ v ≤ hi))) μ := by
  refine pure_ok rfl ?_
  refine (c_def (by rfl)).mpr ?_
  unfold b_is_whole
  simp only [↓Mi.w_ret, ↓Mi.w_var0, ↓Mi.w_varS, ↓Mi.w_bin, ↓Mi.w_nil, ↓Mi.w_cons, ↓Mi.w_tup, ↓Mi.w_lst, ↓Mi.w_mut, ↓Mi.w_call, ↓Mi.w_if, ↓Mi.w_and, ↓Mi.w_or, ↓Mi.w_not, ↓Mi.w_B, ↓Mi.asb_bl, ↓Mi.w_andV, ↓Mi.w_orV, ↓Mi.w_notV, ↓Mi.w_tru, ↓Mi.tru_int, ↓Mi.tru_bl, ↓Mi.tru_non, ↓Mi.tru_tup, ↓Mi.tru_lst, ↓Mi.w_neg, ↓Mi.ex_int, ↓Mi.g_add, ↓Mi.g_sub, ↓Mi.g_and, ↓Mi.g_or, ↓Mi.g_xor, ↓Mi.g_lt, ↓Mi.g_le, ↓Mi.g_gt, ↓Mi.g_ge, ↓Mi.g_mul, ↓Mi.g_mod, ↓Mi.g_div, ↓Mi.g_pow, ↓Mi.g_shl, ↓Mi.g_shr, ↓Mi.g_catT, ↓Mi.g_catL, ↓Mi.g_eqi, ↓Mi.g_nei, ↓Mi.g_eqb, ↓Mi.g_neb, ↓Mi.g_eqs, ↓Mi.g_nes, ↓Mi.g_eqt, ↓Mi.g_net, ↓Mi.g_is, ↓Mi.g_isnot, ↓Mi.g_ix_i, ↓Mi.g_ix_t, ↓Mi.ixv_tup, ↓Mi.ixv_lst, ↓Mi.ixv_dK, ↓Mi.g_in, ↓Mi.g_nin, ↓Mi.w_part, ↓Mi.w_sl, ↓Mi.sl_tup, ↓Mi.sl_lst, ↓Mi.sl_scr, ↓Mi.w_rev, ↓Mi.ex_lst, ↓Mi.w_get2, ↓Mi.look_dK, ↓Mi.c_g1, ↓Mi.c_max2, ↓Mi.c_min2, ↓Mi.c_tuple, ↓Mi.dtuple_tup, ↓Mi.dtuple_lst, ↓Mi.dtuple_ref, ↓Mi.w_isi, ↓Mi.setl_0, ↓Mi.setl_s, ↓Mi.w_append, ↓Mi.app_ref, ↓Mi.t_name, ↓Mi.t_tup, ↓Mi.t_nil, ↓Mi.t_cons, ↓Mi.s_next, ↓Mi.s_break, ↓Mi.s_cont, ↓Mi.s_set, ↓Mi.s_ret, ↓Mi.s_retN, ↓Mi.s_expr, ↓Mi.s_if, ↓Mi.s_asg, ↓Mi.s_store, ↓Mi.s_seq, ↓Mi.k_nx, ↓Mi.k_rt, ↓Mi.k_bk, ↓Mi.k_ct, ↓Mi.sto_s, ↓Mi.sto_L, ↓Mi.sto_K, ↓Mi.s_for, ↓Mi.s_while, ↓Mi.r_rt, ↓Mi.r_nx, ↓Mi.tn_nx, ↓Mi.tn_ct, ↓Mi.tn_bk, ↓Mi.tn_rt, ↓Mi.w_seqI, ↓Mi.w_enumI, ↓Mi.w_zipI, ↓Mi.w_range1, ↓Mi.w_range2, ↓Mi.w_range3, ↓Mi.seq_tup, ↓Mi.seq_lst, ↓Mi.seq_ref, ↓Mi.w_lc, ↓Mi.w_yes, ↓Mi.w_chain, ↓Mi.isi_ii, ↓Mi.isi_bi, ↓Mi.isi_tt, ↓Mi.is_non_dK, ↓Mi.is_non_non, ↓Mi.is_blbl, ↓Mi.upd_0, ↓Mi.upd_s, ↓Mi.see_ref, ↓Mi.see_tup, ↓Mi.see_lst, ↓Mi.see_int, ↓Mi.see_str, ↓Mi.see_bl, ↓Mi.see_non, ↓Mi.see_dK, ↓Mi.see_dT, ↓Mi.see_scr, ↓Mi.cell_0, ↓Mi.cell_s, ↓Mi.push_0, ↓Mi.push_1, ↓Mi.push_2, ↓Mi.push_3, ↓Mi.push_4, ↓Mi.push_5, ↓Mi.opt_some, ↓Mi.it_true, ↓Mi.it_false, ↓Mi.it_dec, ↓Mi.it_not, Mi.wipeR, Mi.dlen_tup, Mi.dlen_lst, Mi.dint_int, Mi.dlist_lst, Mi.dlist_tup, Mi.isl_lst, Mi.isd_dK, Mi.atI_0, Mi.atI_1, Mi.atI_2, Mi.atI_3, Mi.atI_4, List.length_cons, List.length_nil, Nat.reduceAdd, Nat.reduceLeDiff, true_and, and_true, Mi.forget, List.set_cons_zero, List.set_cons_succ, List.map_cons, List.map_nil, List.cons_append, List.nil_append, List.replicate, Nat.reduceSub, Nat.le_refl, Bool.not_false]
  refine ⟨fun h => ?_, fun h => ?_⟩
  · rw [backN_nr rfl]; simp [h]
  · rw [backN_nr rfl]; simp [h]
theorem call_isrow (ds : List D) (hn : nrs ds = true) (n : Int) (μ : Mem) (Q : D → Mem → Prop) : CL (pureF F_is_row) [.tup ds, .int n] μ Q ↔ Q (.bl (decide ((ds.length : Int) = n))) μ := by
  refine pure_ok (nrs2 (show nr (.tup ds) = true from hn) rfl) ?_
  refine (c_def (by rfl)).mpr ?_
  unfold b_is_row
  simp only [↓Mi.w_ret, ↓Mi.w_var0, ↓Mi.w_varS, ↓Mi.w_bin, ↓Mi.w_nil, ↓Mi.w_cons, ↓Mi.w_tup, ↓Mi.w_lst, ↓Mi.w_mut, ↓Mi.w_call, ↓Mi.w_if, ↓Mi.w_and, ↓Mi.w_or, ↓Mi.w_not, ↓Mi.w_B, ↓Mi.asb_bl, ↓Mi.w_andV, ↓Mi.w_orV, ↓Mi.w_notV, ↓Mi.w_tru, ↓Mi.tru_int, ↓Mi.tru_bl, ↓Mi.tru_non, ↓Mi.tru_tup, ↓Mi.tru_lst, ↓Mi.w_neg, ↓Mi.ex_int, ↓Mi.g_add, ↓Mi.g_sub, ↓Mi.g_and, ↓Mi.g_or, ↓Mi.g_xor, ↓Mi.g_lt, ↓Mi.g_le, ↓Mi.g_gt, ↓Mi.g_ge, ↓Mi.g_mul, ↓Mi.g_mod, ↓Mi.g_div, ↓Mi.g_pow, ↓Mi.g_shl, ↓Mi.g_shr, ↓Mi.g_catT, ↓Mi.g_catL, ↓Mi.g_eqi, ↓Mi.g_nei, ↓Mi.g_eqb, ↓Mi.g_neb, ↓Mi.g_eqs, ↓Mi.g_nes, ↓Mi.g_eqt, ↓Mi.g_net, ↓Mi.g_is, ↓Mi.g_isnot, ↓Mi.g_ix_i, ↓Mi.g_ix_t, ↓Mi.ixv_tup, ↓Mi.ixv_lst, ↓Mi.ixv_dK, ↓Mi.g_in, ↓Mi.g_nin, ↓Mi.w_part, ↓Mi.w_sl, ↓Mi.sl_tup, ↓Mi.sl_lst, ↓Mi.sl_scr, ↓Mi.w_rev, ↓Mi.ex_lst, ↓Mi.w_get2, ↓Mi.look_dK, ↓Mi.c_g1, ↓Mi.c_max2, ↓Mi.c_min2, ↓Mi.c_tuple, ↓Mi.dtuple_tup, ↓Mi.dtuple_lst, ↓Mi.dtuple_ref, ↓Mi.w_isi, ↓Mi.setl_0, ↓Mi.setl_s, ↓Mi.w_append, ↓Mi.app_ref, ↓Mi.t_name, ↓Mi.t_tup, ↓Mi.t_nil, ↓Mi.t_cons, ↓Mi.s_next, ↓Mi.s_break, ↓Mi.s_cont, ↓Mi.s_set, ↓Mi.s_ret, ↓Mi.s_retN, ↓Mi.s_expr, ↓Mi.s_if, ↓Mi.s_asg, ↓Mi.s_store, ↓Mi.s_seq, ↓Mi.k_nx, ↓Mi.k_rt, ↓Mi.k_bk, ↓Mi.k_ct, ↓Mi.sto_s, ↓Mi.sto_L, ↓Mi.sto_K, ↓Mi.s_for, ↓Mi.s_while, ↓Mi.r_rt, ↓Mi.r_nx, ↓Mi.tn_nx, ↓Mi.tn_ct, ↓Mi.tn_bk, ↓Mi.tn_rt, ↓Mi.w_seqI, ↓Mi.w_enumI, ↓Mi.w_zipI, ↓Mi.w_range1, ↓Mi.w_range2, ↓Mi.w_range3, ↓Mi.seq_tup, ↓Mi.seq_lst, ↓Mi.seq_ref, ↓Mi.w_lc, ↓Mi.w_yes, ↓Mi.w_chain, ↓Mi.isi_ii, ↓Mi.isi_bi, ↓Mi.isi_tt, ↓Mi.is_non_dK, ↓Mi.is_non_non, ↓Mi.is_blbl, ↓Mi.upd_0, ↓Mi.upd_s, ↓Mi.see_ref, ↓Mi.see_tup, ↓Mi.see_lst, ↓Mi.see_int, ↓Mi.see_str, ↓Mi.see_bl, ↓Mi.see_non, ↓Mi.see_dK, ↓Mi.see_dT, ↓Mi.see_scr, ↓Mi.cell_0, ↓Mi.cell_s, ↓Mi.push_0, ↓Mi.push_1, ↓Mi.push_2, ↓Mi.push_3, ↓Mi.push_4, ↓Mi.push_5, ↓Mi.opt_some, ↓Mi.it_true, ↓Mi.it_false, ↓Mi.it_dec, ↓Mi.it_not, Mi.wipeR, Mi.dlen_tup, Mi.dlen_lst, Mi.dint_int, Mi.dlist_lst, Mi.dlist_tup, Mi.isl_lst, Mi.isd_dK, Mi.atI_0, Mi.atI_1, Mi.atI_2, Mi.atI_3, Mi.atI_4, List.length_cons, List.length_nil, Nat.reduceAdd, Nat.reduceLeDiff, true_and, and_true, Mi.forget, List.set_cons_zero, List.set_cons_succ, List.map_cons, List.map_nil, List.cons_append, List.nil_append, List.replicate, Nat.reduceSub, Nat.le_refl]
  exact backN_nr rfl
theorem call_allwhole (xs : List Nat) (lo hi : Int) (μ : Mem) (Q : D → Mem → Prop) : CL (pureF F_all_whole) [eTN xs, .int lo, .int hi] μ Q ↔ Q (.bl (xs.all fun x => decide (lo ≤ (x : Int) ∧ (x : Int) ≤ hi))) μ := by
  refine pure_ok (nrs3 (nrTN _) rfl rfl) ?_
  refine (c_def (by rfl)).mpr ?_
  unfold b_all_whole
  simp only [↓Mi.w_ret, ↓Mi.w_var0, ↓Mi.w_varS, ↓Mi.w_bin, ↓Mi.w_nil, ↓Mi.w_cons, ↓Mi.w_tup, ↓Mi.w_lst, ↓Mi.w_mut, ↓Mi.w_call, ↓Mi.w_if, ↓Mi.w_and, ↓Mi.w_or, ↓Mi.w_not, ↓Mi.w_B, ↓Mi.asb_bl, ↓Mi.w_andV, ↓Mi.w_orV, ↓Mi.w_notV, ↓Mi.w_tru, ↓Mi.tru_int, ↓Mi.tru_bl, ↓Mi.tru_non, ↓Mi.tru_tup, ↓Mi.tru_lst, ↓Mi.w_neg, ↓Mi.ex_int, ↓Mi.g_add, ↓Mi.g_sub, ↓Mi.g_and, ↓Mi.g_or, ↓Mi.g_xor, ↓Mi.g_lt, ↓Mi.g_le, ↓Mi.g_gt, ↓Mi.g_ge, ↓Mi.g_mul, ↓Mi.g_mod, ↓Mi.g_div, ↓Mi.g_pow, ↓Mi.g_shl, ↓Mi.g_shr, ↓Mi.g_catT, ↓Mi.g_catL, ↓Mi.g_eqi, ↓Mi.g_nei, ↓Mi.g_eqb, ↓Mi.g_neb, ↓Mi.g_eqs, ↓Mi.g_nes, ↓Mi.g_eqt, ↓Mi.g_net, ↓Mi.g_is, ↓Mi.g_isnot, ↓Mi.g_ix_i, ↓Mi.g_ix_t, ↓Mi.ixv_tup, ↓Mi.ixv_lst, ↓Mi.ixv_dK, ↓Mi.g_in, ↓Mi.g_nin, ↓Mi.w_part, ↓Mi.w_sl, ↓Mi.sl_tup, ↓Mi.sl_lst, ↓Mi.sl_scr, ↓Mi.w_rev, ↓Mi.ex_lst, ↓Mi.w_get2, ↓Mi.look_dK, ↓Mi.c_g1, ↓Mi.c_max2, ↓Mi.c_min2, ↓Mi.c_tuple, ↓Mi.dtuple_tup, ↓Mi.dtuple_lst, ↓Mi.dtuple_ref, ↓Mi.w_isi, ↓Mi.setl_0, ↓Mi.setl_s, ↓Mi.w_append, ↓Mi.app_ref, ↓Mi.t_name, ↓Mi.t_tup, ↓Mi.t_nil, ↓Mi.t_cons, ↓Mi.s_next, ↓Mi.s_break, ↓Mi.s_cont, ↓Mi.s_set, ↓Mi.s_ret, ↓Mi.s_retN, ↓Mi.s_expr, ↓Mi.s_if, ↓Mi.s_asg, ↓Mi.s_store, ↓Mi.s_seq, ↓Mi.k_nx, ↓Mi.k_rt, ↓Mi.k_bk, ↓Mi.k_ct, ↓Mi.sto_s, ↓Mi.sto_L, ↓Mi.sto_K, ↓Mi.s_for, ↓Mi.s_while, ↓Mi.r_rt, ↓Mi.r_nx, ↓Mi.tn_nx, ↓Mi.tn_ct, ↓Mi.tn_bk, ↓Mi.tn_rt, ↓Mi.w_seqI, ↓Mi.w_enumI, ↓Mi.w_zipI, ↓Mi.w_range1, ↓Mi.w_range2, ↓Mi.w_range3, ↓Mi.seq_tup, ↓Mi.seq_lst, ↓Mi.seq_ref, ↓Mi.w_lc, ↓Mi.w_yes, ↓Mi.w_chain, ↓Mi.isi_ii, ↓Mi.isi_bi, ↓Mi.isi_tt, ↓Mi.is_non_dK, ↓Mi.is_non_non, ↓Mi.is_blbl, ↓Mi.upd_0, ↓Mi.upd_s, ↓Mi.see_ref, ↓Mi.see_tup, ↓Mi.see_lst, ↓Mi.see_int, ↓Mi.see_str, ↓Mi.see_bl, ↓Mi.see_non, ↓Mi.see_dK, ↓Mi.see_dT, ↓Mi.see_scr, ↓Mi.cell_0, ↓Mi.cell_s, ↓Mi.push_0, ↓Mi.push_1, ↓Mi.push_2, ↓Mi.push_3, ↓Mi.push_4, ↓Mi.push_5, ↓Mi.opt_some, ↓Mi.it_true, ↓Mi.it_false, ↓Mi.it_dec, ↓Mi.it_not, Mi.wipeR, Mi.dlen_tup, Mi.dlen_lst, Mi.dint_int, Mi.dlist_lst, Mi.dlist_tup, Mi.isl_lst, Mi.isd_dK, Mi.atI_0, Mi.atI_1, Mi.atI_2, Mi.atI_3, Mi.atI_4, List.length_cons, List.length_nil, Nat.reduceAdd, Nat.reduceLeDiff, true_and, and_true, Mi.forget, List.set_cons_zero, List.set_cons_succ, List.map_cons, List.map_nil, List.cons_append, List.nil_append, List.replicate, Nat.reduceSub, Nat.le_refl, Bool.not_true]
  refine for_ok (fun (done : List Nat) ρ μ => ρ = [some (eTN xs), some (.int lo), some (.int hi), none] ∧ μ = [] ∧ ∀ x ∈ done, lo ≤ (x : Int) ∧ (x : Int) ≤ hi) _ (fun _ _ _ _ => rfl) ?_ ?_ ⟨rfl, rfl, fun _ h => by cases h⟩
  · rintro done x rest ρ μ e ⟨rfl, rfl, hd⟩
    simp only [↓Mi.w_ret, ↓Mi.w_var0, ↓Mi.w_varS, ↓Mi.w_bin, ↓Mi.w_nil, ↓Mi.w_cons, ↓Mi.w_tup, ↓Mi.w_lst, ↓Mi.w_mut, ↓Mi.w_call, ↓Mi.w_if, ↓Mi.w_and, ↓Mi.w_or, ↓Mi.w_not, ↓Mi.w_B, ↓Mi.asb_bl, ↓Mi.w_andV, ↓Mi.w_orV, ↓Mi.w_notV, ↓Mi.w_tru, ↓Mi.tru_int, ↓Mi.tru_bl, ↓Mi.tru_non, ↓Mi.tru_tup, ↓Mi.tru_lst, ↓Mi.w_neg, ↓Mi.ex_int, ↓Mi.g_add, ↓Mi.g_sub, ↓Mi.g_and, ↓Mi.g_or, ↓Mi.g_xor, ↓Mi.g_lt, ↓Mi.g_le, ↓Mi.g_gt, ↓Mi.g_ge, ↓Mi.g_mul, ↓Mi.g_mod, ↓Mi.g_div, ↓Mi.g_pow, ↓Mi.g_shl, ↓Mi.g_shr, ↓Mi.g_catT, ↓Mi.g_catL, ↓Mi.g_eqi, ↓Mi.g_nei, ↓Mi.g_eqb, ↓Mi.g_neb, ↓Mi.g_eqs, ↓Mi.g_nes, ↓Mi.g_eqt, ↓Mi.g_net, ↓Mi.g_is, ↓Mi.g_isnot, ↓Mi.g_ix_i, ↓Mi.g_ix_t, ↓Mi.ixv_tup, ↓Mi.ixv_lst, ↓Mi.ixv_dK, ↓Mi.g_in, ↓Mi.g_nin, ↓Mi.w_part, ↓Mi.w_sl, ↓Mi.sl_tup, ↓Mi.sl_lst, ↓Mi.sl_scr, ↓Mi.w_rev, ↓Mi.ex_lst, ↓Mi.w_get2, ↓Mi.look_dK, ↓Mi.c_g1, ↓Mi.c_max2, ↓Mi.c_min2, ↓Mi.c_tuple, ↓Mi.dtuple_tup, ↓Mi.dtuple_lst, ↓Mi.dtuple_ref, ↓Mi.w_isi, ↓Mi.setl_0, ↓Mi.setl_s, ↓Mi.w_append, ↓Mi.app_ref, ↓Mi.t_name, ↓Mi.t_tup, ↓Mi.t_nil, ↓Mi.t_cons, ↓Mi.s_next, ↓Mi.s_break, ↓Mi.s_cont, ↓Mi.s_set, ↓Mi.s_ret, ↓Mi.s_retN, ↓Mi.s_expr, ↓Mi.s_if, ↓Mi.s_asg, ↓Mi.s_store, ↓Mi.s_seq, ↓Mi.k_nx, ↓Mi.k_rt, ↓Mi.k_bk, ↓Mi.k_ct, ↓Mi.sto_s, ↓Mi.sto_L, ↓Mi.sto_K, ↓Mi.s_for, ↓Mi.s_while, ↓Mi.r_rt, ↓Mi.r_nx, ↓Mi.tn_nx, ↓Mi.tn_ct, ↓Mi.tn_bk, ↓Mi.tn_rt, ↓Mi.w_seqI, ↓Mi.w_enumI, ↓Mi.w_zipI, ↓Mi.w_range1, ↓Mi.w_range2, ↓Mi.w_range3, ↓Mi.seq_tup, ↓Mi.seq_lst, ↓Mi.seq_ref, ↓Mi.w_lc, ↓Mi.w_yes, ↓Mi.w_chain, ↓Mi.isi_ii, ↓Mi.isi_bi, ↓Mi.isi_tt, ↓Mi.is_non_dK, ↓Mi.is_non_non, ↓Mi.is_blbl, ↓Mi.upd_0, ↓Mi.upd_s, ↓Mi.see_ref, ↓Mi.see_tup, ↓Mi.see_lst, ↓Mi.see_int, ↓Mi.see_str, ↓Mi.see_bl, ↓Mi.see_non, ↓Mi.see_dK, ↓Mi.see_dT, ↓Mi.see_scr, ↓Mi.cell_0, ↓Mi.cell_s, ↓Mi.push_0, ↓Mi.push_1, ↓Mi.push_2, ↓Mi.push_3, ↓Mi.push_4, ↓Mi.push_5, ↓Mi.opt_some, ↓Mi.it_true, ↓Mi.it_false, ↓Mi.it_dec, ↓Mi.it_not, Mi.wipeR, Mi.dlen_tup, Mi.dlen_lst, Mi.dint_int, Mi.dlist_lst, Mi.dlist_tup, Mi.isl_lst, Mi.isd_dK, Mi.atI_0, Mi.atI_1, Mi.atI_2, Mi.atI_3, Mi.atI_4, List.length_cons, List.length_nil, Nat.reduceAdd, Nat.reduceLeDiff, true_and, and_true, Mi.forget, List.set_cons_zero, List.set_cons_succ, List.map_cons, List.map_nil, List.cons_append, List.nil_append, List.replicate, Nat.reduceSub, Nat.le_refl, ↓call_iswhole]
    refine ⟨fun h1 => ?_, fun h1 => ?_⟩
    · intro y hy
      rcases List.mem_append.mp hy with hy | hy
      · exact hd y hy
      · simp at hy; subst hy; exact h1
    · refine (backN_nr rfl).trans ?_
      have : (xs.all fun x => decide (lo ≤ (x : Int) ∧ (x : Int) ≤ hi)) = false := by
        rw [List.all_eq_false]
        exact ⟨x, by rw [e]; simp, by simpa using h1⟩
      rw [this]
  · rintro ρ μ ⟨rfl, rfl, hd⟩
    simp only [↓Mi.w_ret, ↓Mi.w_var0, ↓Mi.w_varS, ↓Mi.w_bin, ↓Mi.w_nil, ↓Mi.w_cons, ↓Mi.w_tup, ↓Mi.w_lst, ↓Mi.w_mut, ↓Mi.w_call, ↓Mi.w_if, ↓Mi.w_and, ↓Mi.w_or, ↓Mi.w_not, ↓Mi.w_B, ↓Mi.asb_bl, ↓Mi.w_andV, ↓Mi.w_orV, ↓Mi.w_notV, ↓Mi.w_tru, ↓Mi.tru_int, ↓Mi.tru_bl, ↓Mi.tru_non, ↓Mi.tru_tup, ↓Mi.tru_lst, ↓Mi.w_neg, ↓Mi.ex_int, ↓Mi.g_add, ↓Mi.g_sub, ↓Mi.g_and, ↓Mi.g_or, ↓Mi.g_xor, ↓Mi.g_lt, ↓Mi.g_le, ↓Mi.g_gt, ↓Mi.g_ge, ↓Mi.g_mul, ↓Mi.g_mod, ↓Mi.g_div, ↓Mi.g_pow, ↓Mi.g_shl, ↓Mi.g_shr, ↓Mi.g_catT, ↓Mi.g_catL, ↓Mi.g_eqi, ↓Mi.g_nei, ↓Mi.g_eqb, ↓Mi.g_neb, ↓Mi.g_eqs, ↓Mi.g_nes, ↓Mi.g_eqt, ↓Mi.g_net, ↓Mi.g_is, ↓Mi.g_isnot, ↓Mi.g_ix_i, ↓Mi.g_ix_t, ↓Mi.ixv_tup, ↓Mi.ixv_lst, ↓Mi.ixv_dK, ↓Mi.g_in, ↓Mi.g_nin, ↓Mi.w_part, ↓Mi.w_sl, ↓Mi.sl_tup, ↓Mi.sl_lst, ↓Mi.sl_scr, ↓Mi.w_rev, ↓Mi.ex_lst, ↓Mi.w_get2, ↓Mi.look_dK, ↓Mi.c_g1, ↓Mi.c_max2, ↓Mi.c_min2, ↓Mi.c_tuple, ↓Mi.dtuple_tup, ↓Mi.dtuple_lst, ↓Mi.dtuple_ref, ↓Mi.w_isi, ↓Mi.setl_0, ↓Mi.setl_s, ↓Mi.w_append, ↓Mi.app_ref, ↓Mi.t_name, ↓Mi.t_tup, ↓Mi.t_nil, ↓Mi.t_cons, ↓Mi.s_next, ↓Mi.s_break, ↓Mi.s_cont, ↓Mi.s_set, ↓Mi.s_ret, ↓Mi.s_retN, ↓Mi.s_expr, ↓Mi.s_if, ↓Mi.s_asg, ↓Mi.s_store, ↓Mi.s_seq, ↓Mi.k_nx, ↓Mi.k_rt, ↓Mi.k_bk, ↓Mi.k_ct, ↓Mi.sto_s, ↓Mi.sto_L, ↓Mi.sto_K, ↓Mi.s_for, ↓Mi.s_while, ↓Mi.r_rt, ↓Mi.r_nx, ↓Mi.tn_nx, ↓Mi.tn_ct, ↓Mi.tn_bk, ↓Mi.tn_rt, ↓Mi.w_seqI, ↓Mi.w_enumI, ↓Mi.w_zipI, ↓Mi.w_range1, ↓Mi.w_range2, ↓Mi.w_range3, ↓Mi.seq_tup, ↓Mi.seq_lst, ↓Mi.seq_ref, ↓Mi.w_lc, ↓Mi.w_yes, ↓Mi.w_chain, ↓Mi.isi_ii, ↓Mi.isi_bi, ↓Mi.isi_tt, ↓Mi.is_non_dK, ↓Mi.is_non_non, ↓Mi.is_blbl, ↓Mi.upd_0, ↓Mi.upd_s, ↓Mi.see_ref, ↓Mi.see_tup, ↓Mi.see_lst, ↓Mi.see_int, ↓Mi.see_str, ↓Mi.see_bl, ↓Mi.see_non, ↓Mi.see_dK, ↓Mi.see_dT, ↓Mi.see_scr, ↓Mi.cell_0, ↓Mi.cell_s, ↓Mi.push_0, ↓Mi.push_1, ↓Mi.push_2, ↓Mi.push_3, ↓Mi.push_4, ↓Mi.push_5, ↓Mi.opt_some, ↓Mi.it_true, ↓Mi.it_false, ↓Mi.it_dec, ↓Mi.it_not, Mi.wipeR, Mi.dlen_tup, Mi.dlen_lst, Mi.dint_int, Mi.dlist_lst, Mi.dlist_tup, Mi.isl_lst, Mi.isd_dK, Mi.atI_0, Mi.atI_1, Mi.atI_2, Mi.atI_3, Mi.atI_4, List.length_cons, List.length_nil, Nat.reduceAdd, Nat.reduceLeDiff, true_and, and_true, Mi.forget, List.set_cons_zero, List.set_cons_succ, List.map_cons, List.map_nil, List.cons_append, List.nil_append, List.replicate, Nat.reduceSub, Nat.le_refl]
    refine (backN_nr rfl).trans ?_
    have : (xs.all fun x => decide (lo ≤ (x : Int) ∧ (x : Int) ≤ hi)) = true := by
      rw [List.all_eq_true]
      exact fun x hx => decide_eq_true (hd x hx)
    rw [this]
def lastI (done : List (Nat × Nat)) : Int := match done.getLast? with
  | none => -1
  | some p => p.1
theorem lastI_app (done : List (Nat × Nat)) (p : Nat × Nat) : lastI (done ++ [p]) = p.1 := by simp [lastI]
structure GoodPs (H : Nat) (ps : List (Nat × Nat)) : Prop where
  up : ps.Pairwise fun p q => p.1 < q.1
  le : ∀ p ∈ ps, p.1 ≤ W H ∧ p.2 ≤ 99
theorem GoodPs.nd {H : Nat} {ps : List (Nat × Nat)} (g : GoodPs H ps) : (ps.map (·.1)).Nodup := by
  unfold List.Nodup
  rw [List.pairwise_map]
  exact g.up.imp fun h => by omega
theorem GoodPs.len {H : Nat} {ps : List (Nat × Nat)} (g : GoodPs H ps) (h4 : H ≤ 4) : ps.length ≤ 16 := by
  have := nodup_lt 16 _ g.nd fun x hx => by
    obtain ⟨p, hp, rfl⟩ := List.mem_map.mp hx
    have := (g.le p hp).1
    have := W_lt h4
    omega
  rwa [List.length_map] at this
theorem kput_new {ps : List (Nat × Nat)} {k v : Nat} (h : k ∉ ps.map (·.1)) : kput ps k v = ps ++ [(k, v)] := by
  unfold kput; rw [if_neg h]
theorem call_pairs {H : Nat} {rooms : List Int} {needs : List (List Q4)} (ok : Ok H rooms needs) {ps : List (Nat × Nat)} (g : GoodPs H ps) (μ : Mem) (Q : D → Mem → Prop) : CL (pureF F_pairs_dict) [eNeeds needs, ePs ps] μ Q ↔ Q (dN ps) μ := by
  refine pure_ok (nrs2 (nr_eNeeds _) (nrPs _)) ?_
  refine (c_def (by rfl)).mpr ?_
  unfold b_pairs_dict
  simp only [↓Mi.w_ret, ↓Mi.w_var0, ↓Mi.w_varS, ↓Mi.w_bin, ↓Mi.w_nil, ↓Mi.w_cons, ↓Mi.w_tup, ↓Mi.w_lst, ↓Mi.w_mut, ↓Mi.w_call, ↓Mi.w_if, ↓Mi.w_and, ↓Mi.w_or, ↓Mi.w_not, ↓Mi.w_B, ↓Mi.asb_bl, ↓Mi.w_andV, ↓Mi.w_orV, ↓Mi.w_notV, ↓Mi.w_tru, ↓Mi.tru_int, ↓Mi.tru_bl, ↓Mi.tru_non, ↓Mi.tru_tup, ↓Mi.tru_lst, ↓Mi.w_neg, ↓Mi.ex_int, ↓Mi.g_xor, ↓Mi.g_lt, ↓Mi.g_le, ↓Mi.g_gt, ↓Mi.g_ge, ↓Mi.g_mul, ↓Mi.g_mod, ↓Mi.g_div, ↓Mi.g_pow, ↓Mi.g_shl, ↓Mi.g_shr, ↓Mi.g_catT, ↓Mi.g_catL, ↓Mi.g_eqi, ↓Mi.g_nei, ↓Mi.g_eqb, ↓Mi.g_neb, ↓Mi.g_eqs, ↓Mi.g_nes, ↓Mi.g_eqt, ↓Mi.g_net, ↓Mi.g_is, ↓Mi.g_isnot, ↓Mi.g_ix_i, ↓Mi.g_ix_t, ↓Mi.ixv_tup, ↓Mi.ixv_lst, ↓Mi.ixv_dK, ↓Mi.g_in, ↓Mi.g_nin, ↓Mi.w_part, ↓Mi.w_sl, ↓Mi.sl_tup, ↓Mi.sl_lst, ↓Mi.sl_scr, ↓Mi.w_rev, ↓Mi.ex_lst, ↓Mi.w_get2, ↓Mi.c_g1, ↓Mi.c_max2, ↓Mi.c_min2, ↓Mi.c_tuple, ↓Mi.dtuple_tup, ↓Mi.dtuple_lst, ↓Mi.dtuple_ref, ↓Mi.w_isi, ↓Mi.setl_0, ↓Mi.setl_s, ↓Mi.w_append, ↓Mi.app_ref, ↓Mi.t_name, ↓Mi.t_tup, ↓Mi.t_nil, ↓Mi.t_cons, ↓Mi.s_next, ↓Mi.s_break, ↓Mi.s_cont, ↓Mi.s_set, ↓Mi.s_ret, ↓Mi.s_retN, ↓Mi.s_expr, ↓Mi.s_if, ↓Mi.s_asg, ↓Mi.s_store, ↓Mi.s_seq, ↓Mi.k_nx, ↓Mi.k_rt, ↓Mi.k_bk, ↓Mi.k_ct, ↓Mi.sto_s, ↓Mi.sto_L, ↓Mi.s_for, ↓Mi.s_while, ↓Mi.r_rt, ↓Mi.r_nx, ↓Mi.tn_nx, ↓Mi.tn_ct, ↓Mi.tn_bk, ↓Mi.tn_rt, ↓Mi.w_seqI, ↓Mi.w_enumI, ↓Mi.w_zipI, ↓Mi.w_range1, ↓Mi.w_range2, ↓Mi.w_range3, ↓Mi.seq_tup, ↓Mi.seq_lst, ↓Mi.seq_ref, ↓Mi.w_lc, ↓Mi.w_yes, ↓Mi.w_chain, ↓Mi.isi_ii, ↓Mi.isi_bi, ↓Mi.isi_tt, ↓Mi.is_non_dK, ↓Mi.is_non_non, ↓Mi.is_blbl, ↓Mi.upd_0, ↓Mi.upd_s, ↓Mi.see_ref, ↓Mi.see_tup, ↓Mi.see_lst, ↓Mi.see_int, ↓Mi.see_str, ↓Mi.see_bl, ↓Mi.see_non, ↓Mi.see_dK, ↓Mi.see_dT, ↓Mi.see_scr, ↓Mi.cell_0, ↓Mi.cell_s, ↓Mi.push_0, ↓Mi.push_1, ↓Mi.push_2, ↓Mi.push_3, ↓Mi.push_4, ↓Mi.push_5, ↓Mi.opt_some, ↓Mi.it_true, ↓Mi.it_false, ↓Mi.it_dec, ↓Mi.it_not, ↓Mi.g_andN, ↓Mi.g_orN, ↓Mi.g_add1, ↓Mi.n_dget, ↓Mi.n_look, ↓Mi.n_in, ↓Mi.n_sto, ↓Mi.n_disp, ↓Mi.keyd_i, ↓Mi.c_minN, ↓Mi.g_eqgetN, ↓Mi.g_negetI, ↓Mi.in_tupN, ↓Mi.n_look0, Mi.wipeR, Mi.dlen_tup, Mi.dlen_lst, Mi.dint_int, Mi.dlist_lst, Mi.dlist_tup, Mi.isl_lst, Mi.isd_dK, Mi.atI_0, Mi.atI_1, Mi.atI_2, Mi.atI_3, Mi.atI_4, List.length_cons, List.length_nil, Nat.reduceAdd, Nat.reduceLeDiff, true_and, and_true, Mi.forget, List.set_cons_zero, List.set_cons_succ, List.map_cons, List.map_nil, List.cons_append, List.nil_append, List.replicate, Nat.reduceSub, Nat.le_refl, Bool.not_true]
  refine for_ok (fun (done : List (Nat × Nat)) ρ μ => ρ = [some (eNeeds needs), some (ePs ps), some (.ref 0), some (.int (lastI done)), none] ∧ μ = [⟨false, dN done⟩]) _ (fun _ _ _ _ => rfl) ?_ ?_ ⟨rfl, rfl⟩
  · rintro done p rest ρ μ e ⟨rfl, rfl⟩
    unfold eP
    have hp := g.le p (by rw [e]; simp)
    have hlow : lastI done + 1 ≤ (p.1 : Int) := by
      have := g.up
      rw [e, List.pairwise_append] at this
      unfold lastI
      split
      · omega
      · rename_i q hq
        have := this.2.2 q (List.mem_of_getLast? hq) p List.mem_cons_self
        omega
    have hnew : p.1 ∉ done.map (·.1) := fun hm => by
      obtain ⟨q, hq, eq⟩ := List.mem_map.mp hm
      have := g.up
      rw [e, List.pairwise_append] at this
      have := this.2.2 q hq p List.mem_cons_self
      omega
    have hlen : done.length ≤ 16 := by
      have := g.len ok.h4
      rw [e, List.length_append] at this
      omega
    have h1 : lastI done + 1 ≤ (p.1 : Int) ∧ (p.1 : Int) ≤ (W H : Nat) := ⟨hlow, by omega⟩
    have h2 : (0 : Int) ≤ (p.2 : Int) ∧ (p.2 : Int) ≤ 99 := ⟨by omega, by omega⟩
    have h3 : (([D.int (p.1 : Nat), D.int (p.2 : Nat)].length : Nat) : Int) = 2 := rfl
    simp only [↓Mi.w_ret, ↓Mi.w_var0, ↓Mi.w_varS, ↓Mi.w_bin, ↓Mi.w_nil, ↓Mi.w_cons, ↓Mi.w_tup, ↓Mi.w_lst, ↓Mi.w_mut, ↓Mi.w_call, ↓Mi.w_if, ↓Mi.w_and, ↓Mi.w_or, ↓Mi.w_not, ↓Mi.w_B, ↓Mi.asb_bl, ↓Mi.w_andV, ↓Mi.w_orV, ↓Mi.w_notV, ↓Mi.w_tru, ↓Mi.tru_int, ↓Mi.tru_bl, ↓Mi.tru_non, ↓Mi.tru_tup, ↓Mi.tru_lst, ↓Mi.w_neg, ↓Mi.ex_int, ↓Mi.g_xor, ↓Mi.g_lt, ↓Mi.g_le, ↓Mi.g_gt, ↓Mi.g_ge, ↓Mi.g_mul, ↓Mi.g_mod, ↓Mi.g_div, ↓Mi.g_pow, ↓Mi.g_shl, ↓Mi.g_shr, ↓Mi.g_catT, ↓Mi.g_catL, ↓Mi.g_eqi, ↓Mi.g_nei, ↓Mi.g_eqb, ↓Mi.g_neb, ↓Mi.g_eqs, ↓Mi.g_nes, ↓Mi.g_eqt, ↓Mi.g_net, ↓Mi.g_is, ↓Mi.g_isnot, ↓Mi.g_ix_i, ↓Mi.g_ix_t, ↓Mi.ixv_tup, ↓Mi.ixv_lst, ↓Mi.ixv_dK, ↓Mi.g_in, ↓Mi.g_nin, ↓Mi.w_part, ↓Mi.w_sl, ↓Mi.sl_tup, ↓Mi.sl_lst, ↓Mi.sl_scr, ↓Mi.w_rev, ↓Mi.ex_lst, ↓Mi.w_get2, ↓Mi.c_g1, ↓Mi.c_max2, ↓Mi.c_min2, ↓Mi.c_tuple, ↓Mi.dtuple_tup, ↓Mi.dtuple_lst, ↓Mi.dtuple_ref, ↓Mi.w_isi, ↓Mi.setl_0, ↓Mi.setl_s, ↓Mi.w_append, ↓Mi.app_ref, ↓Mi.t_name, ↓Mi.t_tup, ↓Mi.t_nil, ↓Mi.t_cons, ↓Mi.s_next, ↓Mi.s_break, ↓Mi.s_cont, ↓Mi.s_set, ↓Mi.s_ret, ↓Mi.s_retN, ↓Mi.s_expr, ↓Mi.s_if, ↓Mi.s_asg, ↓Mi.s_store, ↓Mi.s_seq, ↓Mi.k_nx, ↓Mi.k_rt, ↓Mi.k_bk, ↓Mi.k_ct, ↓Mi.sto_s, ↓Mi.sto_L, ↓Mi.s_for, ↓Mi.s_while, ↓Mi.r_rt, ↓Mi.r_nx, ↓Mi.tn_nx, ↓Mi.tn_ct, ↓Mi.tn_bk, ↓Mi.tn_rt, ↓Mi.w_seqI, ↓Mi.w_enumI, ↓Mi.w_zipI, ↓Mi.w_range1, ↓Mi.w_range2, ↓Mi.w_range3, ↓Mi.seq_tup, ↓Mi.seq_lst, ↓Mi.seq_ref, ↓Mi.w_lc, ↓Mi.w_yes, ↓Mi.w_chain, ↓Mi.isi_ii, ↓Mi.isi_bi, ↓Mi.isi_tt, ↓Mi.is_non_dK, ↓Mi.is_non_non, ↓Mi.is_blbl, ↓Mi.upd_0, ↓Mi.upd_s, ↓Mi.see_ref, ↓Mi.see_tup, ↓Mi.see_lst, ↓Mi.see_int, ↓Mi.see_str, ↓Mi.see_bl, ↓Mi.see_non, ↓Mi.see_dK, ↓Mi.see_dT, ↓Mi.see_scr, ↓Mi.cell_0, ↓Mi.cell_s, ↓Mi.push_0, ↓Mi.push_1, ↓Mi.push_2, ↓Mi.push_3, ↓Mi.push_4, ↓Mi.push_5, ↓Mi.opt_some, ↓Mi.it_true, ↓Mi.it_false, ↓Mi.it_dec, ↓Mi.it_not, ↓Mi.g_andN, ↓Mi.g_orN, ↓Mi.g_add1, ↓Mi.n_dget, ↓Mi.n_look, ↓Mi.n_in, ↓Mi.n_sto, ↓Mi.n_disp, ↓Mi.keyd_i, ↓Mi.c_minN, ↓Mi.g_eqgetN, ↓Mi.g_negetI, ↓Mi.in_tupN, ↓Mi.n_look0, Mi.wipeR, Mi.dlen_tup, Mi.dlen_lst, Mi.dint_int, Mi.dlist_lst, Mi.dlist_tup, Mi.isl_lst, Mi.isd_dK, Mi.atI_0, Mi.atI_1, Mi.atI_2, Mi.atI_3, Mi.atI_4, List.length_cons, List.length_nil, Nat.reduceAdd, Nat.reduceLeDiff, true_and, and_true, Mi.forget, List.set_cons_zero, List.set_cons_succ, List.map_cons, List.map_nil, List.cons_append, List.nil_append, List.replicate, Nat.reduceSub, Nat.le_refl, ↓call_isrow _ (show nrs [D.int (p.1 : Nat), D.int (p.2 : Nat)] = true from rfl), ↓it_t h3, ↓g_add, ↓call_whole ok, ↓call_iswhole, ↓it_t h1, ↓it_t h2]
    refine ⟨by omega, ?_⟩
    rw [lastI_app, kput_new hnew]
    exact ⟨rfl, rfl⟩
  · rintro ρ μ ⟨rfl, rfl⟩
    simp only [↓Mi.w_ret, ↓Mi.w_var0, ↓Mi.w_varS, ↓Mi.w_bin, ↓Mi.w_nil, ↓Mi.w_cons, ↓Mi.w_tup, ↓Mi.w_lst, ↓Mi.w_mut, ↓Mi.w_call, ↓Mi.w_if, ↓Mi.w_and, ↓Mi.w_or, ↓Mi.w_not, ↓Mi.w_B, ↓Mi.asb_bl, ↓Mi.w_andV, ↓Mi.w_orV, ↓Mi.w_notV, ↓Mi.w_tru, ↓Mi.tru_int, ↓Mi.tru_bl, ↓Mi.tru_non, ↓Mi.tru_tup, ↓Mi.tru_lst, ↓Mi.w_neg, ↓Mi.ex_int, ↓Mi.g_xor, ↓Mi.g_lt, ↓Mi.g_le, ↓Mi.g_gt, ↓Mi.g_ge, ↓Mi.g_mul, ↓Mi.g_mod, ↓Mi.g_div, ↓Mi.g_pow, ↓Mi.g_shl, ↓Mi.g_shr, ↓Mi.g_catT, ↓Mi.g_catL, ↓Mi.g_eqi, ↓Mi.g_nei, ↓Mi.g_eqb, ↓Mi.g_neb, ↓Mi.g_eqs, ↓Mi.g_nes, ↓Mi.g_eqt, ↓Mi.g_net, ↓Mi.g_is, ↓Mi.g_isnot, ↓Mi.g_ix_i, ↓Mi.g_ix_t, ↓Mi.ixv_tup, ↓Mi.ixv_lst, ↓Mi.ixv_dK, ↓Mi.g_in, ↓Mi.g_nin, ↓Mi.w_part, ↓Mi.w_sl, ↓Mi.sl_tup, ↓Mi.sl_lst, ↓Mi.sl_scr, ↓Mi.w_rev, ↓Mi.ex_lst, ↓Mi.w_get2, ↓Mi.c_g1, ↓Mi.c_max2, ↓Mi.c_min2, ↓Mi.c_tuple, ↓Mi.dtuple_tup, ↓Mi.dtuple_lst, ↓Mi.dtuple_ref, ↓Mi.w_isi, ↓Mi.setl_0, ↓Mi.setl_s, ↓Mi.w_append, ↓Mi.app_ref, ↓Mi.t_name, ↓Mi.t_tup, ↓Mi.t_nil, ↓Mi.t_cons, ↓Mi.s_next, ↓Mi.s_break, ↓Mi.s_cont, ↓Mi.s_set, ↓Mi.s_ret, ↓Mi.s_retN, ↓Mi.s_expr, ↓Mi.s_if, ↓Mi.s_asg, ↓Mi.s_store, ↓Mi.s_seq, ↓Mi.k_nx, ↓Mi.k_rt, ↓Mi.k_bk, ↓Mi.k_ct, ↓Mi.sto_s, ↓Mi.sto_L, ↓Mi.s_for, ↓Mi.s_while, ↓Mi.r_rt, ↓Mi.r_nx, ↓Mi.tn_nx, ↓Mi.tn_ct, ↓Mi.tn_bk, ↓Mi.tn_rt, ↓Mi.w_seqI, ↓Mi.w_enumI, ↓Mi.w_zipI, ↓Mi.w_range1, ↓Mi.w_range2, ↓Mi.w_range3, ↓Mi.seq_tup, ↓Mi.seq_lst, ↓Mi.seq_ref, ↓Mi.w_lc, ↓Mi.w_yes, ↓Mi.w_chain, ↓Mi.isi_ii, ↓Mi.isi_bi, ↓Mi.isi_tt, ↓Mi.is_non_dK, ↓Mi.is_non_non, ↓Mi.is_blbl, ↓Mi.upd_0, ↓Mi.upd_s, ↓Mi.see_ref, ↓Mi.see_tup, ↓Mi.see_lst, ↓Mi.see_int, ↓Mi.see_str, ↓Mi.see_bl, ↓Mi.see_non, ↓Mi.see_dK, ↓Mi.see_dT, ↓Mi.see_scr, ↓Mi.cell_0, ↓Mi.cell_s, ↓Mi.push_0, ↓Mi.push_1, ↓Mi.push_2, ↓Mi.push_3, ↓Mi.push_4, ↓Mi.push_5, ↓Mi.opt_some, ↓Mi.it_true, ↓Mi.it_false, ↓Mi.it_dec, ↓Mi.it_not, ↓Mi.g_andN, ↓Mi.g_orN, ↓Mi.g_add1, ↓Mi.n_dget, ↓Mi.n_look, ↓Mi.n_in, ↓Mi.n_sto, ↓Mi.n_disp, ↓Mi.keyd_i, ↓Mi.c_minN, ↓Mi.g_eqgetN, ↓Mi.g_negetI, ↓Mi.in_tupN, ↓Mi.n_look0, Mi.wipeR, Mi.dlen_tup, Mi.dlen_lst, Mi.dint_int, Mi.dlist_lst, Mi.dlist_tup, Mi.isl_lst, Mi.isd_dK, Mi.atI_0, Mi.atI_1, Mi.atI_2, Mi.atI_3, Mi.atI_4, List.length_cons, List.length_nil, Nat.reduceAdd, Nat.reduceLeDiff, true_and, and_true, Mi.forget, List.set_cons_zero, List.set_cons_succ, List.map_cons, List.map_nil, List.cons_append, List.nil_append, List.replicate, Nat.reduceSub, Nat.le_refl]
    exact backN_dN rfl
def runB (H : Nat) (fit : Nat → Nat → Bool) : Nat → List Nat → Bool
  | t, [] => decide (t = W H)
  | t, u :: us => if t &&& u = 0 ∧ fit t u = true then runB H fit (t ||| u) us else false
theorem call_rhold {H : Nat} {rooms : List Int} {needs : List (List Q4)} (ok : Ok H rooms needs) (us : List Nat) (μ : Mem) (Q : D → Mem → Prop) :
    CL (pureF F_rounds_hold) [eInts rooms, eNeeds needs, eTN us] μ Q ↔ Q (.bl ((us.all fun x => decide ((1 : Int) ≤ (x : Int) ∧ (x : Int) ≤ (W H : Nat))) && runB H (fitN rooms needs) 0 us)) μ := by
  refine pure_ok (nrs3 (nr_eInts _) (nr_eNeeds _) (nrTN _)) ?_
  refine (c_def (by rfl)).mpr ?_
  unfold b_rounds_hold
  simp only [↓Mi.w_ret, ↓Mi.w_var0, ↓Mi.w_varS, ↓Mi.w_bin, ↓Mi.w_nil, ↓Mi.w_cons, ↓Mi.w_tup, ↓Mi.w_lst, ↓Mi.w_mut, ↓Mi.w_call, ↓Mi.w_if, ↓Mi.w_and, ↓Mi.w_or, ↓Mi.w_not, ↓Mi.w_B, ↓Mi.asb_bl, ↓Mi.w_andV, ↓Mi.w_orV, ↓Mi.w_notV, ↓Mi.w_tru, ↓Mi.tru_int, ↓Mi.tru_bl, ↓Mi.tru_non, ↓Mi.tru_tup, ↓Mi.tru_lst, ↓Mi.w_neg, ↓Mi.ex_int, ↓Mi.g_xor, ↓Mi.g_lt, ↓Mi.g_le, ↓Mi.g_gt, ↓Mi.g_ge, ↓Mi.g_mul, ↓Mi.g_mod, ↓Mi.g_div, ↓Mi.g_pow, ↓Mi.g_shl, ↓Mi.g_shr, ↓Mi.g_catT, ↓Mi.g_catL, ↓Mi.g_eqi, ↓Mi.g_nei, ↓Mi.g_eqb, ↓Mi.g_neb, ↓Mi.g_eqs, ↓Mi.g_nes, ↓Mi.g_eqt, ↓Mi.g_net, ↓Mi.g_is, ↓Mi.g_isnot, ↓Mi.g_ix_i, ↓Mi.g_ix_t, ↓Mi.ixv_tup, ↓Mi.ixv_lst, ↓Mi.ixv_dK, ↓Mi.g_in, ↓Mi.g_nin, ↓Mi.w_part, ↓Mi.w_sl, ↓Mi.sl_tup, ↓Mi.sl_lst, ↓Mi.sl_scr, ↓Mi.w_rev, ↓Mi.ex_lst, ↓Mi.w_get2, ↓Mi.c_g1, ↓Mi.c_max2, ↓Mi.c_min2, ↓Mi.c_tuple, ↓Mi.dtuple_tup, ↓Mi.dtuple_lst, ↓Mi.dtuple_ref, ↓Mi.w_isi, ↓Mi.setl_0, ↓Mi.setl_s, ↓Mi.w_append, ↓Mi.app_ref, ↓Mi.t_name, ↓Mi.t_tup, ↓Mi.t_nil, ↓Mi.t_cons, ↓Mi.s_next, ↓Mi.s_break, ↓Mi.s_cont, ↓Mi.s_set, ↓Mi.s_ret, ↓Mi.s_retN, ↓Mi.s_expr, ↓Mi.s_if, ↓Mi.s_asg, ↓Mi.s_store, ↓Mi.s_seq, ↓Mi.k_nx, ↓Mi.k_rt, ↓Mi.k_bk, ↓Mi.k_ct, ↓Mi.sto_s, ↓Mi.sto_L, ↓Mi.s_for, ↓Mi.s_while, ↓Mi.r_rt, ↓Mi.r_nx, ↓Mi.tn_nx, ↓Mi.tn_ct, ↓Mi.tn_bk, ↓Mi.tn_rt, ↓Mi.w_seqI, ↓Mi.w_enumI, ↓Mi.w_zipI, ↓Mi.w_range1, ↓Mi.w_range2, ↓Mi.w_range3, ↓Mi.seq_tup, ↓Mi.seq_lst, ↓Mi.seq_ref, ↓Mi.w_lc, ↓Mi.w_yes, ↓Mi.w_chain, ↓Mi.isi_ii, ↓Mi.isi_bi, ↓Mi.isi_tt, ↓Mi.is_non_dK, ↓Mi.is_non_non, ↓Mi.is_blbl, ↓Mi.upd_0, ↓Mi.upd_s, ↓Mi.see_ref, ↓Mi.see_tup, ↓Mi.see_lst, ↓Mi.see_int, ↓Mi.see_str, ↓Mi.see_bl, ↓Mi.see_non, ↓Mi.see_dK, ↓Mi.see_dT, ↓Mi.see_scr, ↓Mi.cell_0, ↓Mi.cell_s, ↓Mi.push_0, ↓Mi.push_1, ↓Mi.push_2, ↓Mi.push_3, ↓Mi.push_4, ↓Mi.push_5, ↓Mi.opt_some, ↓Mi.it_true, ↓Mi.it_false, ↓Mi.it_dec, ↓Mi.it_not, ↓Mi.g_andN, ↓Mi.g_orN, ↓Mi.g_add1, ↓Mi.n_dget, ↓Mi.n_look, ↓Mi.n_in, ↓Mi.n_sto, ↓Mi.n_disp, ↓Mi.keyd_i, ↓Mi.c_minN, ↓Mi.g_eqgetN, ↓Mi.g_negetI, ↓Mi.in_tupN, ↓Mi.n_look0, Mi.wipeR, Mi.dlen_tup, Mi.dlen_lst, Mi.dint_int, Mi.dlist_lst, Mi.dlist_tup, Mi.isl_lst, Mi.isd_dK, Mi.atI_0, Mi.atI_1, Mi.atI_2, Mi.atI_3, Mi.atI_4, List.length_cons, List.length_nil, Nat.reduceAdd, Nat.reduceLeDiff, true_and, and_true, Mi.forget, List.set_cons_zero, List.set_cons_succ, List.map_cons, List.map_nil, List.cons_append, List.nil_append, List.replicate, Nat.reduceSub, Nat.le_refl, ↓call_whole ok, ↓call_allwhole]
  cases (us.all fun x => decide ((1 : Int) ≤ (x : Int) ∧ (x : Int) ≤ (W H : Nat))) with
  | false =>
    simp only [↓it_false, Bool.false_and]
    exact backN_nr rfl
  | true =>
    simp only [↓it_true, Bool.true_and]
    refine for_ok (fun (done : List Nat) ρ μ => ∃ t, ρ = [some (eInts rooms), some (eNeeds needs), some (eTN us), some (.int (W H : Nat)), some (.int (t : Nat)), none] ∧ μ = [] ∧ ∀ rest, us = done ++ rest → runB H (fitN rooms needs) 0 us = runB H (fitN rooms needs) t rest) _ (fun _ _ _ _ => rfl) ?_ ?_ ⟨0, rfl, rfl, fun rest e => by rw [e]; rfl⟩
    · rintro done u rest ρ μ e ⟨t, rfl, rfl, hr⟩
      have hr := hr _ e
      simp only [↓Mi.w_ret, ↓Mi.w_var0, ↓Mi.w_varS, ↓Mi.w_bin, ↓Mi.w_nil, ↓Mi.w_cons, ↓Mi.w_tup, ↓Mi.w_lst, ↓Mi.w_mut, ↓Mi.w_call, ↓Mi.w_if, ↓Mi.w_and, ↓Mi.w_or, ↓Mi.w_not, ↓Mi.w_B, ↓Mi.asb_bl, ↓Mi.w_andV, ↓Mi.w_orV, ↓Mi.w_notV, ↓Mi.w_tru, ↓Mi.tru_int, ↓Mi.tru_bl, ↓Mi.tru_non, ↓Mi.tru_tup, ↓Mi.tru_lst, ↓Mi.w_neg, ↓Mi.ex_int, ↓Mi.g_xor, ↓Mi.g_lt, ↓Mi.g_le, ↓Mi.g_gt, ↓Mi.g_ge, ↓Mi.g_mul, ↓Mi.g_mod, ↓Mi.g_div, ↓Mi.g_pow, ↓Mi.g_shl, ↓Mi.g_shr, ↓Mi.g_catT, ↓Mi.g_catL, ↓Mi.g_eqi, ↓Mi.g_nei, ↓Mi.g_eqb, ↓Mi.g_neb, ↓Mi.g_eqs, ↓Mi.g_nes, ↓Mi.g_eqt, ↓Mi.g_net, ↓Mi.g_is, ↓Mi.g_isnot, ↓Mi.g_ix_i, ↓Mi.g_ix_t, ↓Mi.ixv_tup, ↓Mi.ixv_lst, ↓Mi.ixv_dK, ↓Mi.g_in, ↓Mi.g_nin, ↓Mi.w_part, ↓Mi.w_sl, ↓Mi.sl_tup, ↓Mi.sl_lst, ↓Mi.sl_scr, ↓Mi.w_rev, ↓Mi.ex_lst, ↓Mi.w_get2, ↓Mi.c_g1, ↓Mi.c_max2, ↓Mi.c_min2, ↓Mi.c_tuple, ↓Mi.dtuple_tup, ↓Mi.dtuple_lst, ↓Mi.dtuple_ref, ↓Mi.w_isi, ↓Mi.setl_0, ↓Mi.setl_s, ↓Mi.w_append, ↓Mi.app_ref, ↓Mi.t_name, ↓Mi.t_tup, ↓Mi.t_nil, ↓Mi.t_cons, ↓Mi.s_next, ↓Mi.s_break, ↓Mi.s_cont, ↓Mi.s_set, ↓Mi.s_ret, ↓Mi.s_retN, ↓Mi.s_expr, ↓Mi.s_if, ↓Mi.s_asg, ↓Mi.s_store, ↓Mi.s_seq, ↓Mi.k_nx, ↓Mi.k_rt, ↓Mi.k_bk, ↓Mi.k_ct, ↓Mi.sto_s, ↓Mi.sto_L, ↓Mi.s_for, ↓Mi.s_while, ↓Mi.r_rt, ↓Mi.r_nx, ↓Mi.tn_nx, ↓Mi.tn_ct, ↓Mi.tn_bk, ↓Mi.tn_rt, ↓Mi.w_seqI, ↓Mi.w_enumI, ↓Mi.w_zipI, ↓Mi.w_range1, ↓Mi.w_range2, ↓Mi.w_range3, ↓Mi.seq_tup, ↓Mi.seq_lst, ↓Mi.seq_ref, ↓Mi.w_lc, ↓Mi.w_yes, ↓Mi.w_chain, ↓Mi.isi_ii, ↓Mi.isi_bi, ↓Mi.isi_tt, ↓Mi.is_non_dK, ↓Mi.is_non_non, ↓Mi.is_blbl, ↓Mi.upd_0, ↓Mi.upd_s, ↓Mi.see_ref, ↓Mi.see_tup, ↓Mi.see_lst, ↓Mi.see_int, ↓Mi.see_str, ↓Mi.see_bl, ↓Mi.see_non, ↓Mi.see_dK, ↓Mi.see_dT, ↓Mi.see_scr, ↓Mi.cell_0, ↓Mi.cell_s, ↓Mi.push_0, ↓Mi.push_1, ↓Mi.push_2, ↓Mi.push_3, ↓Mi.push_4, ↓Mi.push_5, ↓Mi.opt_some, ↓Mi.it_true, ↓Mi.it_false, ↓Mi.it_dec, ↓Mi.it_not, ↓Mi.g_andN, ↓Mi.g_orN, ↓Mi.g_add1, ↓Mi.n_dget, ↓Mi.n_look, ↓Mi.n_in, ↓Mi.n_sto, ↓Mi.n_disp, ↓Mi.keyd_i, ↓Mi.c_minN, ↓Mi.g_eqgetN, ↓Mi.g_negetI, ↓Mi.in_tupN, ↓Mi.n_look0, Mi.wipeR, Mi.dlen_tup, Mi.dlen_lst, Mi.dint_int, Mi.dlist_lst, Mi.dlist_tup, Mi.isl_lst, Mi.isd_dK, Mi.atI_0, Mi.atI_1, Mi.atI_2, Mi.atI_3, Mi.atI_4, List.length_cons, List.length_nil, Nat.reduceAdd, Nat.reduceLeDiff, true_and, and_true, Mi.forget, List.set_cons_zero, List.set_cons_succ, List.map_cons, List.map_nil, List.cons_append, List.nil_append, List.replicate, Nat.reduceSub, Nat.le_refl, ↓call_fits]
      have hz : ((t &&& u : Nat) : Int) ≠ 0 ↔ ¬ t &&& u = 0 := by omega
      refine ⟨fun h1 => ?_, fun h1 => ?_⟩
      · refine (backN_nr rfl).trans ?_
        rw [hr]
        simp only [runB]
        rw [if_neg (fun h => hz.mp h1 h.1)]
      · cases hf : fitB rooms needs t u with
        | false =>
          simp only [↓it_false]
          refine (backN_nr rfl).trans ?_
          rw [hr]
          simp only [runB]
          rw [if_neg (fun h => by rw [show fitN rooms needs t u = false from hf] at h; cases h.2)]
        | true =>
          simp only [↓it_true]
          refine ⟨t ||| u, rfl, fun rest' e' => ?_⟩
          have : rest = rest' := by
            rw [e] at e'
            simpa using e'
          subst this
          rw [hr]
          simp only [runB]
          rw [if_pos ⟨Decidable.not_not.mp (fun h => h1 (hz.mpr h)), hf⟩]
    · rintro ρ μ ⟨t, rfl, rfl, hr⟩
      have hr := hr [] (by simp)
      simp only [↓Mi.w_ret, ↓Mi.w_var0, ↓Mi.w_varS, ↓Mi.w_bin, ↓Mi.w_nil, ↓Mi.w_cons, ↓Mi.w_tup, ↓Mi.w_lst, ↓Mi.w_mut, ↓Mi.w_call, ↓Mi.w_if, ↓Mi.w_and, ↓Mi.w_or, ↓Mi.w_not, ↓Mi.w_B, ↓Mi.asb_bl, ↓Mi.w_andV, ↓Mi.w_orV, ↓Mi.w_notV, ↓Mi.w_tru, ↓Mi.tru_int, ↓Mi.tru_bl, ↓Mi.tru_non, ↓Mi.tru_tup, ↓Mi.tru_lst, ↓Mi.w_neg, ↓Mi.ex_int, ↓Mi.g_xor, ↓Mi.g_lt, ↓Mi.g_le, ↓Mi.g_gt, ↓Mi.g_ge, ↓Mi.g_mul, ↓Mi.g_mod, ↓Mi.g_div, ↓Mi.g_pow, ↓Mi.g_shl, ↓Mi.g_shr, ↓Mi.g_catT, ↓Mi.g_catL, ↓Mi.g_eqi, ↓Mi.g_nei, ↓Mi.g_eqb, ↓Mi.g_neb, ↓Mi.g_eqs, ↓Mi.g_nes, ↓Mi.g_eqt, ↓Mi.g_net, ↓Mi.g_is, ↓Mi.g_isnot, ↓Mi.g_ix_i, ↓Mi.g_ix_t, ↓Mi.ixv_tup, ↓Mi.ixv_lst, ↓Mi.ixv_dK, ↓Mi.g_in, ↓Mi.g_nin, ↓Mi.w_part, ↓Mi.w_sl, ↓Mi.sl_tup, ↓Mi.sl_lst, ↓Mi.sl_scr, ↓Mi.w_rev, ↓Mi.ex_lst, ↓Mi.w_get2, ↓Mi.c_g1, ↓Mi.c_max2, ↓Mi.c_min2, ↓Mi.c_tuple, ↓Mi.dtuple_tup, ↓Mi.dtuple_lst, ↓Mi.dtuple_ref, ↓Mi.w_isi, ↓Mi.setl_0, ↓Mi.setl_s, ↓Mi.w_append, ↓Mi.app_ref, ↓Mi.t_name, ↓Mi.t_tup, ↓Mi.t_nil, ↓Mi.t_cons, ↓Mi.s_next, ↓Mi.s_break, ↓Mi.s_cont, ↓Mi.s_set, ↓Mi.s_ret, ↓Mi.s_retN, ↓Mi.s_expr, ↓Mi.s_if, ↓Mi.s_asg, ↓Mi.s_store, ↓Mi.s_seq, ↓Mi.k_nx, ↓Mi.k_rt, ↓Mi.k_bk, ↓Mi.k_ct, ↓Mi.sto_s, ↓Mi.sto_L, ↓Mi.s_for, ↓Mi.s_while, ↓Mi.r_rt, ↓Mi.r_nx, ↓Mi.tn_nx, ↓Mi.tn_ct, ↓Mi.tn_bk, ↓Mi.tn_rt, ↓Mi.w_seqI, ↓Mi.w_enumI, ↓Mi.w_zipI, ↓Mi.w_range1, ↓Mi.w_range2, ↓Mi.w_range3, ↓Mi.seq_tup, ↓Mi.seq_lst, ↓Mi.seq_ref, ↓Mi.w_lc, ↓Mi.w_yes, ↓Mi.w_chain, ↓Mi.isi_ii, ↓Mi.isi_bi, ↓Mi.isi_tt, ↓Mi.is_non_dK, ↓Mi.is_non_non, ↓Mi.is_blbl, ↓Mi.upd_0, ↓Mi.upd_s, ↓Mi.see_ref, ↓Mi.see_tup, ↓Mi.see_lst, ↓Mi.see_int, ↓Mi.see_str, ↓Mi.see_bl, ↓Mi.see_non, ↓Mi.see_dK, ↓Mi.see_dT, ↓Mi.see_scr, ↓Mi.cell_0, ↓Mi.cell_s, ↓Mi.push_0, ↓Mi.push_1, ↓Mi.push_2, ↓Mi.push_3, ↓Mi.push_4, ↓Mi.push_5, ↓Mi.opt_some, ↓Mi.it_true, ↓Mi.it_false, ↓Mi.it_dec, ↓Mi.it_not, ↓Mi.g_andN, ↓Mi.g_orN, ↓Mi.g_add1, ↓Mi.n_dget, ↓Mi.n_look, ↓Mi.n_in, ↓Mi.n_sto, ↓Mi.n_disp, ↓Mi.keyd_i, ↓Mi.c_minN, ↓Mi.g_eqgetN, ↓Mi.g_negetI, ↓Mi.in_tupN, ↓Mi.n_look0, Mi.wipeR, Mi.dlen_tup, Mi.dlen_lst, Mi.dint_int, Mi.dlist_lst, Mi.dlist_tup, Mi.isl_lst, Mi.isd_dK, Mi.atI_0, Mi.atI_1, Mi.atI_2, Mi.atI_3, Mi.atI_4, List.length_cons, List.length_nil, Nat.reduceAdd, Nat.reduceLeDiff, true_and, and_true, Mi.forget, List.set_cons_zero, List.set_cons_succ, List.map_cons, List.map_nil, List.cons_append, List.nil_append, List.replicate, Nat.reduceSub, Nat.le_refl]
      refine (backN_nr rfl).trans ?_
      rw [hr]
      simp only [runB]
      congr 2
      exact decide_eq_decide.mpr ⟨fun h => by omega, fun h => by omega⟩
end K68
namespace K68
open PySem PySem.Spec PyProof.Rows L2 Mi
def pOk (H : Nat) (fit : Nat → Nat → Bool) (ps : List (Nat × Nat)) (t u : Nat) : Prop := fit t u = true → ∃ d, kget ps (t ||| u) = some d ∧ ∀ v, kget ps t = some v → d ≤ v + 1
/-- what levels_hold asks -/
def LH (H : Nat) (fit : Nat → Nat → Bool) (ps : List (Nat × Nat)) : Prop := kget ps 0 = some 0 ∧ ∀ p ∈ ps, ∀ u ∈ parts (W H - p.1), pOk H fit ps p.1 u
theorem lhold_run {H : Nat} {rooms : List Int} {needs : List (List Q4)} (ok : Ok H rooms needs) {ps : List (Nat × Nat)} (g : GoodPs H ps) :
    CL F_levels_hold [eInts rooms, eNeeds needs, dN ps] [] (fun d m => ∃ b : Bool, (b = true ↔ LH H (fitN rooms needs) ps) ∧ backI d m = some (.bl b)) := by
  have hw := W_lt ok.h4
  refine (c_def (by rfl)).mpr ?_
  unfold b_levels_hold
  simp only [↓Mi.w_ret, ↓Mi.w_var0, ↓Mi.w_varS, ↓Mi.w_bin, ↓Mi.w_nil, ↓Mi.w_cons, ↓Mi.w_tup, ↓Mi.w_lst, ↓Mi.w_mut, ↓Mi.w_call, ↓Mi.w_if, ↓Mi.w_and, ↓Mi.w_or, ↓Mi.w_not, ↓Mi.w_B, ↓Mi.asb_bl, ↓Mi.w_andV, ↓Mi.w_orV, ↓Mi.w_notV, ↓Mi.w_tru, ↓Mi.tru_int, ↓Mi.tru_bl, ↓Mi.tru_non, ↓Mi.tru_tup, ↓Mi.tru_lst, ↓Mi.w_neg, ↓Mi.ex_int, ↓Mi.g_xor, ↓Mi.g_lt, ↓Mi.g_le, ↓Mi.g_gt, ↓Mi.g_ge, ↓Mi.g_mul, ↓Mi.g_mod, ↓Mi.g_div, ↓Mi.g_pow, ↓Mi.g_shl, ↓Mi.g_shr, ↓Mi.g_catT, ↓Mi.g_catL, ↓Mi.g_eqi, ↓Mi.g_nei, ↓Mi.g_eqb, ↓Mi.g_neb, ↓Mi.g_eqs, ↓Mi.g_nes, ↓Mi.g_eqt, ↓Mi.g_net, ↓Mi.g_is, ↓Mi.g_isnot, ↓Mi.g_ix_i, ↓Mi.g_ix_t, ↓Mi.ixv_tup, ↓Mi.ixv_lst, ↓Mi.ixv_dK, ↓Mi.g_in, ↓Mi.g_nin, ↓Mi.w_part, ↓Mi.w_sl, ↓Mi.sl_tup, ↓Mi.sl_lst, ↓Mi.sl_scr, ↓Mi.w_rev, ↓Mi.ex_lst, ↓Mi.w_get2, ↓Mi.c_g1, ↓Mi.c_max2, ↓Mi.c_min2, ↓Mi.c_tuple, ↓Mi.dtuple_tup, ↓Mi.dtuple_lst, ↓Mi.dtuple_ref, ↓Mi.w_isi, ↓Mi.setl_0, ↓Mi.setl_s, ↓Mi.w_append, ↓Mi.app_ref, ↓Mi.t_name, ↓Mi.t_tup, ↓Mi.t_nil, ↓Mi.t_cons, ↓Mi.s_next, ↓Mi.s_break, ↓Mi.s_cont, ↓Mi.s_set, ↓Mi.s_ret, ↓Mi.s_retN, ↓Mi.s_expr, ↓Mi.s_if, ↓Mi.s_asg, ↓Mi.s_store, ↓Mi.s_seq, ↓Mi.k_nx, ↓Mi.k_rt, ↓Mi.k_bk, ↓Mi.k_ct, ↓Mi.sto_s, ↓Mi.sto_L, ↓Mi.s_for, ↓Mi.s_while, ↓Mi.r_rt, ↓Mi.r_nx, ↓Mi.tn_nx, ↓Mi.tn_ct, ↓Mi.tn_bk, ↓Mi.tn_rt, ↓Mi.w_seqI, ↓Mi.w_enumI, ↓Mi.w_zipI, ↓Mi.w_range1, ↓Mi.w_range2, ↓Mi.w_range3, ↓Mi.seq_tup, ↓Mi.seq_lst, ↓Mi.seq_ref, ↓Mi.w_lc, ↓Mi.w_yes, ↓Mi.w_chain, ↓Mi.isi_ii, ↓Mi.isi_bi, ↓Mi.isi_tt, ↓Mi.is_non_dK, ↓Mi.is_non_non, ↓Mi.is_blbl, ↓Mi.upd_0, ↓Mi.upd_s, ↓Mi.see_ref, ↓Mi.see_tup, ↓Mi.see_lst, ↓Mi.see_int, ↓Mi.see_str, ↓Mi.see_bl, ↓Mi.see_non, ↓Mi.see_dK, ↓Mi.see_dT, ↓Mi.see_scr, ↓Mi.cell_0, ↓Mi.cell_s, ↓Mi.push_0, ↓Mi.push_1, ↓Mi.push_2, ↓Mi.push_3, ↓Mi.push_4, ↓Mi.push_5, ↓Mi.opt_some, ↓Mi.it_true, ↓Mi.it_false, ↓Mi.it_dec, ↓Mi.it_not, ↓Mi.g_andN, ↓Mi.g_orN, ↓Mi.g_add1, ↓Mi.n_dget, ↓Mi.n_look, ↓Mi.n_in, ↓Mi.n_sto, ↓Mi.n_disp, ↓Mi.keyd_i, ↓Mi.c_minN, ↓Mi.g_eqgetN, ↓Mi.g_negetI, ↓Mi.in_tupN, ↓Mi.n_look0, Mi.wipeR, Mi.dlen_tup, Mi.dlen_lst, Mi.dint_int, Mi.dlist_lst, Mi.dlist_tup, Mi.isl_lst, Mi.isd_dK, Mi.atI_0, Mi.atI_1, Mi.atI_2, Mi.atI_3, Mi.atI_4, List.length_cons, List.length_nil, Nat.reduceAdd, Nat.reduceLeDiff, true_and, and_true, Mi.forget, List.set_cons_zero, List.set_cons_succ, List.map_cons, List.map_nil, List.cons_append, List.nil_append, List.replicate, Nat.reduceSub, Nat.le_refl, ↓call_whole ok]
  have hz : ((kget ps 0).map fun n : Nat => (n : Int)).getD (-1) = 0 ↔ kget ps 0 = some 0 := by
    cases h : kget ps 0 with
    | none => simp
    | some k => simp
  refine ⟨fun h1 => ⟨false, ⟨fun h => Bool.noConfusion h, fun h => absurd (hz.mpr h.1) h1⟩, backI_imm rfl⟩, fun h1 => ?_⟩
  have h0 : kget ps 0 = some 0 := hz.mp (Decidable.not_not.mp h1)
  refine (s_forD_K rfl).mpr ?_
  have e : (ps.map fun p => (Sum.inl (p.1 : Int) : Key)).map keyV = ps.map fun p => D.int (p.1 : Int) := by rw [List.map_map]; rfl
  rw [e]
  simp only [↓Mi.w_ret, ↓Mi.w_var0, ↓Mi.w_varS, ↓Mi.w_bin, ↓Mi.w_nil, ↓Mi.w_cons, ↓Mi.w_tup, ↓Mi.w_lst, ↓Mi.w_mut, ↓Mi.w_call, ↓Mi.w_if, ↓Mi.w_and, ↓Mi.w_or, ↓Mi.w_not, ↓Mi.w_B, ↓Mi.asb_bl, ↓Mi.w_andV, ↓Mi.w_orV, ↓Mi.w_notV, ↓Mi.w_tru, ↓Mi.tru_int, ↓Mi.tru_bl, ↓Mi.tru_non, ↓Mi.tru_tup, ↓Mi.tru_lst, ↓Mi.w_neg, ↓Mi.ex_int, ↓Mi.g_xor, ↓Mi.g_lt, ↓Mi.g_le, ↓Mi.g_gt, ↓Mi.g_ge, ↓Mi.g_mul, ↓Mi.g_mod, ↓Mi.g_div, ↓Mi.g_pow, ↓Mi.g_shl, ↓Mi.g_shr, ↓Mi.g_catT, ↓Mi.g_catL, ↓Mi.g_eqi, ↓Mi.g_nei, ↓Mi.g_eqb, ↓Mi.g_neb, ↓Mi.g_eqs, ↓Mi.g_nes, ↓Mi.g_eqt, ↓Mi.g_net, ↓Mi.g_is, ↓Mi.g_isnot, ↓Mi.g_ix_i, ↓Mi.g_ix_t, ↓Mi.ixv_tup, ↓Mi.ixv_lst, ↓Mi.ixv_dK, ↓Mi.g_in, ↓Mi.g_nin, ↓Mi.w_part, ↓Mi.w_sl, ↓Mi.sl_tup, ↓Mi.sl_lst, ↓Mi.sl_scr, ↓Mi.w_rev, ↓Mi.ex_lst, ↓Mi.w_get2, ↓Mi.c_g1, ↓Mi.c_max2, ↓Mi.c_min2, ↓Mi.c_tuple, ↓Mi.dtuple_tup, ↓Mi.dtuple_lst, ↓Mi.dtuple_ref, ↓Mi.w_isi, ↓Mi.setl_0, ↓Mi.setl_s, ↓Mi.w_append, ↓Mi.app_ref, ↓Mi.t_name, ↓Mi.t_tup, ↓Mi.t_nil, ↓Mi.t_cons, ↓Mi.s_next, ↓Mi.s_break, ↓Mi.s_cont, ↓Mi.s_set, ↓Mi.s_ret, ↓Mi.s_retN, ↓Mi.s_expr, ↓Mi.s_if, ↓Mi.s_asg, ↓Mi.s_store, ↓Mi.s_seq, ↓Mi.k_nx, ↓Mi.k_rt, ↓Mi.k_bk, ↓Mi.k_ct, ↓Mi.sto_s, ↓Mi.sto_L, ↓Mi.s_for, ↓Mi.s_while, ↓Mi.r_rt, ↓Mi.r_nx, ↓Mi.tn_nx, ↓Mi.tn_ct, ↓Mi.tn_bk, ↓Mi.tn_rt, ↓Mi.w_seqI, ↓Mi.w_enumI, ↓Mi.w_zipI, ↓Mi.w_range1, ↓Mi.w_range2, ↓Mi.w_range3, ↓Mi.seq_tup, ↓Mi.seq_lst, ↓Mi.seq_ref, ↓Mi.w_lc, ↓Mi.w_yes, ↓Mi.w_chain, ↓Mi.isi_ii, ↓Mi.isi_bi, ↓Mi.isi_tt, ↓Mi.is_non_dK, ↓Mi.is_non_non, ↓Mi.is_blbl, ↓Mi.upd_0, ↓Mi.upd_s, ↓Mi.see_ref, ↓Mi.see_tup, ↓Mi.see_lst, ↓Mi.see_int, ↓Mi.see_str, ↓Mi.see_bl, ↓Mi.see_non, ↓Mi.see_dK, ↓Mi.see_dT, ↓Mi.see_scr, ↓Mi.cell_0, ↓Mi.cell_s, ↓Mi.push_0, ↓Mi.push_1, ↓Mi.push_2, ↓Mi.push_3, ↓Mi.push_4, ↓Mi.push_5, ↓Mi.opt_some, ↓Mi.it_true, ↓Mi.it_false, ↓Mi.it_dec, ↓Mi.it_not, ↓Mi.g_andN, ↓Mi.g_orN, ↓Mi.g_add1, ↓Mi.n_dget, ↓Mi.n_look, ↓Mi.n_in, ↓Mi.n_sto, ↓Mi.n_disp, ↓Mi.keyd_i, ↓Mi.c_minN, ↓Mi.g_eqgetN, ↓Mi.g_negetI, ↓Mi.in_tupN, ↓Mi.n_look0, Mi.wipeR, Mi.dlen_tup, Mi.dlen_lst, Mi.dint_int, Mi.dlist_lst, Mi.dlist_tup, Mi.isl_lst, Mi.isd_dK, Mi.atI_0, Mi.atI_1, Mi.atI_2, Mi.atI_3, Mi.atI_4, List.length_cons, List.length_nil, Nat.reduceAdd, Nat.reduceLeDiff, true_and, and_true, Mi.forget, List.set_cons_zero, List.set_cons_succ, List.map_cons, List.map_nil, List.cons_append, List.nil_append, List.replicate, Nat.reduceSub, Nat.le_refl]
  refine for_ok (fun (done : List (Nat × Nat)) ρ μ => ρ = [some (eInts rooms), some (eNeeds needs), some (dN ps), some (.int (W H : Nat)), none, none] ∧ μ = [] ∧ ∀ p ∈ done, ∀ u ∈ parts (W H - p.1), pOk H (fitN rooms needs) ps p.1 u) _ (fun _ _ _ _ => rfl) ?_ ?_ ⟨rfl, rfl, fun _ h => by cases h⟩
  · rintro done p rest ρ μ e ⟨rfl, rfl, hd⟩
    have hm : p ∈ ps := by rw [e]; simp
    have hp := g.le p hm
    have hk : kget ps p.1 = some p.2 := kget_of_mem g.nd hm
    simp only [↓Mi.w_ret, ↓Mi.w_var0, ↓Mi.w_varS, ↓Mi.w_bin, ↓Mi.w_nil, ↓Mi.w_cons, ↓Mi.w_tup, ↓Mi.w_lst, ↓Mi.w_mut, ↓Mi.w_call, ↓Mi.w_if, ↓Mi.w_and, ↓Mi.w_or, ↓Mi.w_not, ↓Mi.w_B, ↓Mi.asb_bl, ↓Mi.w_andV, ↓Mi.w_orV, ↓Mi.w_notV, ↓Mi.w_tru, ↓Mi.tru_int, ↓Mi.tru_bl, ↓Mi.tru_non, ↓Mi.tru_tup, ↓Mi.tru_lst, ↓Mi.w_neg, ↓Mi.ex_int, ↓Mi.g_xor, ↓Mi.g_lt, ↓Mi.g_le, ↓Mi.g_gt, ↓Mi.g_ge, ↓Mi.g_mul, ↓Mi.g_mod, ↓Mi.g_div, ↓Mi.g_pow, ↓Mi.g_shl, ↓Mi.g_shr, ↓Mi.g_catT, ↓Mi.g_catL, ↓Mi.g_eqi, ↓Mi.g_nei, ↓Mi.g_eqb, ↓Mi.g_neb, ↓Mi.g_eqs, ↓Mi.g_nes, ↓Mi.g_eqt, ↓Mi.g_net, ↓Mi.g_is, ↓Mi.g_isnot, ↓Mi.g_ix_i, ↓Mi.g_ix_t, ↓Mi.ixv_tup, ↓Mi.ixv_lst, ↓Mi.ixv_dK, ↓Mi.g_in, ↓Mi.g_nin, ↓Mi.w_part, ↓Mi.w_sl, ↓Mi.sl_tup, ↓Mi.sl_lst, ↓Mi.sl_scr, ↓Mi.w_rev, ↓Mi.ex_lst, ↓Mi.w_get2, ↓Mi.c_g1, ↓Mi.c_max2, ↓Mi.c_min2, ↓Mi.c_tuple, ↓Mi.dtuple_tup, ↓Mi.dtuple_lst, ↓Mi.dtuple_ref, ↓Mi.w_isi, ↓Mi.setl_0, ↓Mi.setl_s, ↓Mi.w_append, ↓Mi.app_ref, ↓Mi.t_name, ↓Mi.t_tup, ↓Mi.t_nil, ↓Mi.t_cons, ↓Mi.s_next, ↓Mi.s_break, ↓Mi.s_cont, ↓Mi.s_set, ↓Mi.s_ret, ↓Mi.s_retN, ↓Mi.s_expr, ↓Mi.s_if, ↓Mi.s_asg, ↓Mi.s_store, ↓Mi.s_seq, ↓Mi.k_nx, ↓Mi.k_rt, ↓Mi.k_bk, ↓Mi.k_ct, ↓Mi.sto_s, ↓Mi.sto_L, ↓Mi.s_for, ↓Mi.s_while, ↓Mi.r_rt, ↓Mi.r_nx, ↓Mi.tn_nx, ↓Mi.tn_ct, ↓Mi.tn_bk, ↓Mi.tn_rt, ↓Mi.w_seqI, ↓Mi.w_enumI, ↓Mi.w_zipI, ↓Mi.w_range1, ↓Mi.w_range2, ↓Mi.w_range3, ↓Mi.seq_tup, ↓Mi.seq_lst, ↓Mi.seq_ref, ↓Mi.w_lc, ↓Mi.w_yes, ↓Mi.w_chain, ↓Mi.isi_ii, ↓Mi.isi_bi, ↓Mi.isi_tt, ↓Mi.is_non_dK, ↓Mi.is_non_non, ↓Mi.is_blbl, ↓Mi.upd_0, ↓Mi.upd_s, ↓Mi.see_ref, ↓Mi.see_tup, ↓Mi.see_lst, ↓Mi.see_int, ↓Mi.see_str, ↓Mi.see_bl, ↓Mi.see_non, ↓Mi.see_dK, ↓Mi.see_dT, ↓Mi.see_scr, ↓Mi.cell_0, ↓Mi.cell_s, ↓Mi.push_0, ↓Mi.push_1, ↓Mi.push_2, ↓Mi.push_3, ↓Mi.push_4, ↓Mi.push_5, ↓Mi.opt_some, ↓Mi.it_true, ↓Mi.it_false, ↓Mi.it_dec, ↓Mi.it_not, ↓Mi.g_andN, ↓Mi.g_orN, ↓Mi.g_add1, ↓Mi.n_dget, ↓Mi.n_look, ↓Mi.n_in, ↓Mi.n_sto, ↓Mi.n_disp, ↓Mi.keyd_i, ↓Mi.c_minN, ↓Mi.g_eqgetN, ↓Mi.g_negetI, ↓Mi.in_tupN, ↓Mi.n_look0, Mi.wipeR, Mi.dlen_tup, Mi.dlen_lst, Mi.dint_int, Mi.dlist_lst, Mi.dlist_tup, Mi.isl_lst, Mi.isd_dK, Mi.atI_0, Mi.atI_1, Mi.atI_2, Mi.atI_3, Mi.atI_4, List.length_cons, List.length_nil, Nat.reduceAdd, Nat.reduceLeDiff, true_and, and_true, Mi.forget, List.set_cons_zero, List.set_cons_succ, List.map_cons, List.map_nil, List.cons_append, List.nil_append, List.replicate, Nat.reduceSub, Nat.le_refl, ↓g_subN hp.1, ↓call_parts (show W H - p.1 < 16 by omega)]
    refine for_ok (fun (don : List Nat) ρ μ => ρ = [some (eInts rooms), some (eNeeds needs), some (dN ps), some (.int (W H : Nat)), some (.int (p.1 : Nat)), none] ∧ μ = [] ∧ ∀ u ∈ don, pOk H (fitN rooms needs) ps p.1 u) _ (fun _ _ _ _ => rfl) ?_ ?_ ⟨rfl, rfl, fun _ h => by cases h⟩
    · rintro don u rest' ρ μ e' ⟨rfl, rfl, hdn⟩
      have hu : u ∈ parts (W H - p.1) := by rw [e']; simp
      simp only [↓Mi.w_ret, ↓Mi.w_var0, ↓Mi.w_varS, ↓Mi.w_bin, ↓Mi.w_nil, ↓Mi.w_cons, ↓Mi.w_tup, ↓Mi.w_lst, ↓Mi.w_mut, ↓Mi.w_call, ↓Mi.w_if, ↓Mi.w_and, ↓Mi.w_or, ↓Mi.w_not, ↓Mi.w_B, ↓Mi.asb_bl, ↓Mi.w_andV, ↓Mi.w_orV, ↓Mi.w_notV, ↓Mi.w_tru, ↓Mi.tru_int, ↓Mi.tru_bl, ↓Mi.tru_non, ↓Mi.tru_tup, ↓Mi.tru_lst, ↓Mi.w_neg, ↓Mi.ex_int, ↓Mi.g_xor, ↓Mi.g_lt, ↓Mi.g_le, ↓Mi.g_gt, ↓Mi.g_ge, ↓Mi.g_mul, ↓Mi.g_mod, ↓Mi.g_div, ↓Mi.g_pow, ↓Mi.g_shl, ↓Mi.g_shr, ↓Mi.g_catT, ↓Mi.g_catL, ↓Mi.g_eqi, ↓Mi.g_nei, ↓Mi.g_eqb, ↓Mi.g_neb, ↓Mi.g_eqs, ↓Mi.g_nes, ↓Mi.g_eqt, ↓Mi.g_net, ↓Mi.g_is, ↓Mi.g_isnot, ↓Mi.g_ix_i, ↓Mi.g_ix_t, ↓Mi.ixv_tup, ↓Mi.ixv_lst, ↓Mi.ixv_dK, ↓Mi.g_in, ↓Mi.g_nin, ↓Mi.w_part, ↓Mi.w_sl, ↓Mi.sl_tup, ↓Mi.sl_lst, ↓Mi.sl_scr, ↓Mi.w_rev, ↓Mi.ex_lst, ↓Mi.w_get2, ↓Mi.c_g1, ↓Mi.c_max2, ↓Mi.c_min2, ↓Mi.c_tuple, ↓Mi.dtuple_tup, ↓Mi.dtuple_lst, ↓Mi.dtuple_ref, ↓Mi.w_isi, ↓Mi.setl_0, ↓Mi.setl_s, ↓Mi.w_append, ↓Mi.app_ref, ↓Mi.t_name, ↓Mi.t_tup, ↓Mi.t_nil, ↓Mi.t_cons, ↓Mi.s_next, ↓Mi.s_break, ↓Mi.s_cont, ↓Mi.s_set, ↓Mi.s_ret, ↓Mi.s_retN, ↓Mi.s_expr, ↓Mi.s_if, ↓Mi.s_asg, ↓Mi.s_store, ↓Mi.s_seq, ↓Mi.k_nx, ↓Mi.k_rt, ↓Mi.k_bk, ↓Mi.k_ct, ↓Mi.sto_s, ↓Mi.sto_L, ↓Mi.s_for, ↓Mi.s_while, ↓Mi.r_rt, ↓Mi.r_nx, ↓Mi.tn_nx, ↓Mi.tn_ct, ↓Mi.tn_bk, ↓Mi.tn_rt, ↓Mi.w_seqI, ↓Mi.w_enumI, ↓Mi.w_zipI, ↓Mi.w_range1, ↓Mi.w_range2, ↓Mi.w_range3, ↓Mi.seq_tup, ↓Mi.seq_lst, ↓Mi.seq_ref, ↓Mi.w_lc, ↓Mi.w_yes, ↓Mi.w_chain, ↓Mi.isi_ii, ↓Mi.isi_bi, ↓Mi.isi_tt, ↓Mi.is_non_dK, ↓Mi.is_non_non, ↓Mi.is_blbl, ↓Mi.upd_0, ↓Mi.upd_s, ↓Mi.see_ref, ↓Mi.see_tup, ↓Mi.see_lst, ↓Mi.see_int, ↓Mi.see_str, ↓Mi.see_bl, ↓Mi.see_non, ↓Mi.see_dK, ↓Mi.see_dT, ↓Mi.see_scr, ↓Mi.cell_0, ↓Mi.cell_s, ↓Mi.push_0, ↓Mi.push_1, ↓Mi.push_2, ↓Mi.push_3, ↓Mi.push_4, ↓Mi.push_5, ↓Mi.opt_some, ↓Mi.it_true, ↓Mi.it_false, ↓Mi.it_dec, ↓Mi.it_not, ↓Mi.g_andN, ↓Mi.g_orN, ↓Mi.g_add1, ↓Mi.n_dget, ↓Mi.n_look, ↓Mi.n_in, ↓Mi.n_sto, ↓Mi.n_disp, ↓Mi.keyd_i, ↓Mi.c_minN, ↓Mi.g_eqgetN, ↓Mi.g_negetI, ↓Mi.in_tupN, ↓Mi.n_look0, Mi.wipeR, Mi.dlen_tup, Mi.dlen_lst, Mi.dint_int, Mi.dlist_lst, Mi.dlist_tup, Mi.isl_lst, Mi.isd_dK, Mi.atI_0, Mi.atI_1, Mi.atI_2, Mi.atI_3, Mi.atI_4, List.length_cons, List.length_nil, Nat.reduceAdd, Nat.reduceLeDiff, true_and, and_true, Mi.forget, List.set_cons_zero, List.set_cons_succ, List.map_cons, List.map_nil, List.cons_append, List.nil_append, List.replicate, Nat.reduceSub, Nat.le_refl, ↓call_fits, ↓g_nin, ↓opt_eq hk]
      have next : pOk H (fitN rooms needs) ps p.1 u → ∀ v ∈ don ++ [u], pOk H (fitN rooms needs) ps p.1 v := fun h v hv => by
        rcases List.mem_append.mp hv with hv | hv
        · exact hdn v hv
        · simp at hv; subst hv; exact h
      have bad : ¬ pOk H (fitN rooms needs) ps p.1 u → ∃ b, (b = true ↔ LH H (fitN rooms needs) ps) ∧ backI (D.bl false) [] = some (D.bl b) := fun h =>
        ⟨false, ⟨fun h => Bool.noConfusion h, fun hh => absurd (hh.2 p hm u hu) h⟩, backI_imm rfl⟩
      cases hf : fitB rooms needs p.1 u with
      | false =>
        simp only [↓it_false]
        exact next fun h => by rw [show fitN rooms needs p.1 u = false from hf] at h; cases h
      | true =>
        simp only [↓it_true]
        cases hg : kget ps (p.1 ||| u) with
        | none =>
          simp only [Option.isSome_none, ↓it_false]
          refine bad fun h => ?_
          obtain ⟨d, h1, _⟩ := h hf
          rw [hg] at h1; cases h1
        | some d =>
          simp only [Option.isSome_some, ↓it_true, ↓Mi.w_ret, ↓Mi.w_var0, ↓Mi.w_varS, ↓Mi.w_bin, ↓Mi.w_nil, ↓Mi.w_cons, ↓Mi.w_tup, ↓Mi.w_lst, ↓Mi.w_mut, ↓Mi.w_call, ↓Mi.w_if, ↓Mi.w_and, ↓Mi.w_or, ↓Mi.w_not, ↓Mi.w_B, ↓Mi.asb_bl, ↓Mi.w_andV, ↓Mi.w_orV, ↓Mi.w_notV, ↓Mi.w_tru, ↓Mi.tru_int, ↓Mi.tru_bl, ↓Mi.tru_non, ↓Mi.tru_tup, ↓Mi.tru_lst, ↓Mi.w_neg, ↓Mi.ex_int, ↓Mi.g_xor, ↓Mi.g_lt, ↓Mi.g_le, ↓Mi.g_gt, ↓Mi.g_ge, ↓Mi.g_mul, ↓Mi.g_mod, ↓Mi.g_div, ↓Mi.g_pow, ↓Mi.g_shl, ↓Mi.g_shr, ↓Mi.g_catT, ↓Mi.g_catL, ↓Mi.g_eqi, ↓Mi.g_nei, ↓Mi.g_eqb, ↓Mi.g_neb, ↓Mi.g_eqs, ↓Mi.g_nes, ↓Mi.g_eqt, ↓Mi.g_net, ↓Mi.g_is, ↓Mi.g_isnot, ↓Mi.g_ix_i, ↓Mi.g_ix_t, ↓Mi.ixv_tup, ↓Mi.ixv_lst, ↓Mi.ixv_dK, ↓Mi.g_in, ↓Mi.g_nin, ↓Mi.w_part, ↓Mi.w_sl, ↓Mi.sl_tup, ↓Mi.sl_lst, ↓Mi.sl_scr, ↓Mi.w_rev, ↓Mi.ex_lst, ↓Mi.w_get2, ↓Mi.c_g1, ↓Mi.c_max2, ↓Mi.c_min2, ↓Mi.c_tuple, ↓Mi.dtuple_tup, ↓Mi.dtuple_lst, ↓Mi.dtuple_ref, ↓Mi.w_isi, ↓Mi.setl_0, ↓Mi.setl_s, ↓Mi.w_append, ↓Mi.app_ref, ↓Mi.t_name, ↓Mi.t_tup, ↓Mi.t_nil, ↓Mi.t_cons, ↓Mi.s_next, ↓Mi.s_break, ↓Mi.s_cont, ↓Mi.s_set, ↓Mi.s_ret, ↓Mi.s_retN, ↓Mi.s_expr, ↓Mi.s_if, ↓Mi.s_asg, ↓Mi.s_store, ↓Mi.s_seq, ↓Mi.k_nx, ↓Mi.k_rt, ↓Mi.k_bk, ↓Mi.k_ct, ↓Mi.sto_s, ↓Mi.sto_L, ↓Mi.s_for, ↓Mi.s_while, ↓Mi.r_rt, ↓Mi.r_nx, ↓Mi.tn_nx, ↓Mi.tn_ct, ↓Mi.tn_bk, ↓Mi.tn_rt, ↓Mi.w_seqI, ↓Mi.w_enumI, ↓Mi.w_zipI, ↓Mi.w_range1, ↓Mi.w_range2, ↓Mi.w_range3, ↓Mi.seq_tup, ↓Mi.seq_lst, ↓Mi.seq_ref, ↓Mi.w_lc, ↓Mi.w_yes, ↓Mi.w_chain, ↓Mi.isi_ii, ↓Mi.isi_bi, ↓Mi.isi_tt, ↓Mi.is_non_dK, ↓Mi.is_non_non, ↓Mi.is_blbl, ↓Mi.upd_0, ↓Mi.upd_s, ↓Mi.see_ref, ↓Mi.see_tup, ↓Mi.see_lst, ↓Mi.see_int, ↓Mi.see_str, ↓Mi.see_bl, ↓Mi.see_non, ↓Mi.see_dK, ↓Mi.see_dT, ↓Mi.see_scr, ↓Mi.cell_0, ↓Mi.cell_s, ↓Mi.push_0, ↓Mi.push_1, ↓Mi.push_2, ↓Mi.push_3, ↓Mi.push_4, ↓Mi.push_5, ↓Mi.opt_some, ↓Mi.it_true, ↓Mi.it_false, ↓Mi.it_dec, ↓Mi.it_not, ↓Mi.g_andN, ↓Mi.g_orN, ↓Mi.g_add1, ↓Mi.n_dget, ↓Mi.n_look, ↓Mi.n_in, ↓Mi.n_sto, ↓Mi.n_disp, ↓Mi.keyd_i, ↓Mi.c_minN, ↓Mi.g_eqgetN, ↓Mi.g_negetI, ↓Mi.in_tupN, ↓Mi.n_look0, Mi.wipeR, Mi.dlen_tup, Mi.dlen_lst, Mi.dint_int, Mi.dlist_lst, Mi.dlist_tup, Mi.isl_lst, Mi.isd_dK, Mi.atI_0, Mi.atI_1, Mi.atI_2, Mi.atI_3, Mi.atI_4, List.length_cons, List.length_nil, Nat.reduceAdd, Nat.reduceLeDiff, true_and, and_true, Mi.forget, List.set_cons_zero, List.set_cons_succ, List.map_cons, List.map_nil, List.cons_append, List.nil_append, List.replicate, Nat.reduceSub, Nat.le_refl, ↓opt_eq hg]
          refine ⟨fun h1 => bad fun h => ?_, fun h1 => next fun _ => ⟨d, hg, fun v hv => ?_⟩⟩
          · obtain ⟨d', h2, h3⟩ := h hf
            rw [hg] at h2; cases h2
            have := h3 _ hk
            omega
          · rw [hk] at hv; cases hv; omega
    · rintro ρ μ ⟨rfl, rfl, hdn⟩
      simp only [↓Mi.w_ret, ↓Mi.w_var0, ↓Mi.w_varS, ↓Mi.w_bin, ↓Mi.w_nil, ↓Mi.w_cons, ↓Mi.w_tup, ↓Mi.w_lst, ↓Mi.w_mut, ↓Mi.w_call, ↓Mi.w_if, ↓Mi.w_and, ↓Mi.w_or, ↓Mi.w_not, ↓Mi.w_B, ↓Mi.asb_bl, ↓Mi.w_andV, ↓Mi.w_orV, ↓Mi.w_notV, ↓Mi.w_tru, ↓Mi.tru_int, ↓Mi.tru_bl, ↓Mi.tru_non, ↓Mi.tru_tup, ↓Mi.tru_lst, ↓Mi.w_neg, ↓Mi.ex_int, ↓Mi.g_xor, ↓Mi.g_lt, ↓Mi.g_le, ↓Mi.g_gt, ↓Mi.g_ge, ↓Mi.g_mul, ↓Mi.g_mod, ↓Mi.g_div, ↓Mi.g_pow, ↓Mi.g_shl, ↓Mi.g_shr, ↓Mi.g_catT, ↓Mi.g_catL, ↓Mi.g_eqi, ↓Mi.g_nei, ↓Mi.g_eqb, ↓Mi.g_neb, ↓Mi.g_eqs, ↓Mi.g_nes, ↓Mi.g_eqt, ↓Mi.g_net, ↓Mi.g_is, ↓Mi.g_isnot, ↓Mi.g_ix_i, ↓Mi.g_ix_t, ↓Mi.ixv_tup, ↓Mi.ixv_lst, ↓Mi.ixv_dK, ↓Mi.g_in, ↓Mi.g_nin, ↓Mi.w_part, ↓Mi.w_sl, ↓Mi.sl_tup, ↓Mi.sl_lst, ↓Mi.sl_scr, ↓Mi.w_rev, ↓Mi.ex_lst, ↓Mi.w_get2, ↓Mi.c_g1, ↓Mi.c_max2, ↓Mi.c_min2, ↓Mi.c_tuple, ↓Mi.dtuple_tup, ↓Mi.dtuple_lst, ↓Mi.dtuple_ref, ↓Mi.w_isi, ↓Mi.setl_0, ↓Mi.setl_s, ↓Mi.w_append, ↓Mi.app_ref, ↓Mi.t_name, ↓Mi.t_tup, ↓Mi.t_nil, ↓Mi.t_cons, ↓Mi.s_next, ↓Mi.s_break, ↓Mi.s_cont, ↓Mi.s_set, ↓Mi.s_ret, ↓Mi.s_retN, ↓Mi.s_expr, ↓Mi.s_if, ↓Mi.s_asg, ↓Mi.s_store, ↓Mi.s_seq, ↓Mi.k_nx, ↓Mi.k_rt, ↓Mi.k_bk, ↓Mi.k_ct, ↓Mi.sto_s, ↓Mi.sto_L, ↓Mi.s_for, ↓Mi.s_while, ↓Mi.r_rt, ↓Mi.r_nx, ↓Mi.tn_nx, ↓Mi.tn_ct, ↓Mi.tn_bk, ↓Mi.tn_rt, ↓Mi.w_seqI, ↓Mi.w_enumI, ↓Mi.w_zipI, ↓Mi.w_range1, ↓Mi.w_range2, ↓Mi.w_range3, ↓Mi.seq_tup, ↓Mi.seq_lst, ↓Mi.seq_ref, ↓Mi.w_lc, ↓Mi.w_yes, ↓Mi.w_chain, ↓Mi.isi_ii, ↓Mi.isi_bi, ↓Mi.isi_tt, ↓Mi.is_non_dK, ↓Mi.is_non_non, ↓Mi.is_blbl, ↓Mi.upd_0, ↓Mi.upd_s, ↓Mi.see_ref, ↓Mi.see_tup, ↓Mi.see_lst, ↓Mi.see_int, ↓Mi.see_str, ↓Mi.see_bl, ↓Mi.see_non, ↓Mi.see_dK, ↓Mi.see_dT, ↓Mi.see_scr, ↓Mi.cell_0, ↓Mi.cell_s, ↓Mi.push_0, ↓Mi.push_1, ↓Mi.push_2, ↓Mi.push_3, ↓Mi.push_4, ↓Mi.push_5, ↓Mi.opt_some, ↓Mi.it_true, ↓Mi.it_false, ↓Mi.it_dec, ↓Mi.it_not, ↓Mi.g_andN, ↓Mi.g_orN, ↓Mi.g_add1, ↓Mi.n_dget, ↓Mi.n_look, ↓Mi.n_in, ↓Mi.n_sto, ↓Mi.n_disp, ↓Mi.keyd_i, ↓Mi.c_minN, ↓Mi.g_eqgetN, ↓Mi.g_negetI, ↓Mi.in_tupN, ↓Mi.n_look0, Mi.wipeR, Mi.dlen_tup, Mi.dlen_lst, Mi.dint_int, Mi.dlist_lst, Mi.dlist_tup, Mi.isl_lst, Mi.isd_dK, Mi.atI_0, Mi.atI_1, Mi.atI_2, Mi.atI_3, Mi.atI_4, List.length_cons, List.length_nil, Nat.reduceAdd, Nat.reduceLeDiff, true_and, and_true, Mi.forget, List.set_cons_zero, List.set_cons_succ, List.map_cons, List.map_nil, List.cons_append, List.nil_append, List.replicate, Nat.reduceSub, Nat.le_refl]
      refine fun q hq => ?_
      rcases List.mem_append.mp hq with hq | hq
      · exact hd q hq
      · simp at hq; subst hq; exact hdn
  · rintro ρ μ ⟨rfl, rfl, hd⟩
    simp only [↓Mi.w_ret, ↓Mi.w_var0, ↓Mi.w_varS, ↓Mi.w_bin, ↓Mi.w_nil, ↓Mi.w_cons, ↓Mi.w_tup, ↓Mi.w_lst, ↓Mi.w_mut, ↓Mi.w_call, ↓Mi.w_if, ↓Mi.w_and, ↓Mi.w_or, ↓Mi.w_not, ↓Mi.w_B, ↓Mi.asb_bl, ↓Mi.w_andV, ↓Mi.w_orV, ↓Mi.w_notV, ↓Mi.w_tru, ↓Mi.tru_int, ↓Mi.tru_bl, ↓Mi.tru_non, ↓Mi.tru_tup, ↓Mi.tru_lst, ↓Mi.w_neg, ↓Mi.ex_int, ↓Mi.g_xor, ↓Mi.g_lt, ↓Mi.g_le, ↓Mi.g_gt, ↓Mi.g_ge, ↓Mi.g_mul, ↓Mi.g_mod, ↓Mi.g_div, ↓Mi.g_pow, ↓Mi.g_shl, ↓Mi.g_shr, ↓Mi.g_catT, ↓Mi.g_catL, ↓Mi.g_eqi, ↓Mi.g_nei, ↓Mi.g_eqb, ↓Mi.g_neb, ↓Mi.g_eqs, ↓Mi.g_nes, ↓Mi.g_eqt, ↓Mi.g_net, ↓Mi.g_is, ↓Mi.g_isnot, ↓Mi.g_ix_i, ↓Mi.g_ix_t, ↓Mi.ixv_tup, ↓Mi.ixv_lst, ↓Mi.ixv_dK, ↓Mi.g_in, ↓Mi.g_nin, ↓Mi.w_part, ↓Mi.w_sl, ↓Mi.sl_tup, ↓Mi.sl_lst, ↓Mi.sl_scr, ↓Mi.w_rev, ↓Mi.ex_lst, ↓Mi.w_get2, ↓Mi.c_g1, ↓Mi.c_max2, ↓Mi.c_min2, ↓Mi.c_tuple, ↓Mi.dtuple_tup, ↓Mi.dtuple_lst, ↓Mi.dtuple_ref, ↓Mi.w_isi, ↓Mi.setl_0, ↓Mi.setl_s, ↓Mi.w_append, ↓Mi.app_ref, ↓Mi.t_name, ↓Mi.t_tup, ↓Mi.t_nil, ↓Mi.t_cons, ↓Mi.s_next, ↓Mi.s_break, ↓Mi.s_cont, ↓Mi.s_set, ↓Mi.s_ret, ↓Mi.s_retN, ↓Mi.s_expr, ↓Mi.s_if, ↓Mi.s_asg, ↓Mi.s_store, ↓Mi.s_seq, ↓Mi.k_nx, ↓Mi.k_rt, ↓Mi.k_bk, ↓Mi.k_ct, ↓Mi.sto_s, ↓Mi.sto_L, ↓Mi.s_for, ↓Mi.s_while, ↓Mi.r_rt, ↓Mi.r_nx, ↓Mi.tn_nx, ↓Mi.tn_ct, ↓Mi.tn_bk, ↓Mi.tn_rt, ↓Mi.w_seqI, ↓Mi.w_enumI, ↓Mi.w_zipI, ↓Mi.w_range1, ↓Mi.w_range2, ↓Mi.w_range3, ↓Mi.seq_tup, ↓Mi.seq_lst, ↓Mi.seq_ref, ↓Mi.w_lc, ↓Mi.w_yes, ↓Mi.w_chain, ↓Mi.isi_ii, ↓Mi.isi_bi, ↓Mi.isi_tt, ↓Mi.is_non_dK, ↓Mi.is_non_non, ↓Mi.is_blbl, ↓Mi.upd_0, ↓Mi.upd_s, ↓Mi.see_ref, ↓Mi.see_tup, ↓Mi.see_lst, ↓Mi.see_int, ↓Mi.see_str, ↓Mi.see_bl, ↓Mi.see_non, ↓Mi.see_dK, ↓Mi.see_dT, ↓Mi.see_scr, ↓Mi.cell_0, ↓Mi.cell_s, ↓Mi.push_0, ↓Mi.push_1, ↓Mi.push_2, ↓Mi.push_3, ↓Mi.push_4, ↓Mi.push_5, ↓Mi.opt_some, ↓Mi.it_true, ↓Mi.it_false, ↓Mi.it_dec, ↓Mi.it_not, ↓Mi.g_andN, ↓Mi.g_orN, ↓Mi.g_add1, ↓Mi.n_dget, ↓Mi.n_look, ↓Mi.n_in, ↓Mi.n_sto, ↓Mi.n_disp, ↓Mi.keyd_i, ↓Mi.c_minN, ↓Mi.g_eqgetN, ↓Mi.g_negetI, ↓Mi.in_tupN, ↓Mi.n_look0, Mi.wipeR, Mi.dlen_tup, Mi.dlen_lst, Mi.dint_int, Mi.dlist_lst, Mi.dlist_tup, Mi.isl_lst, Mi.isd_dK, Mi.atI_0, Mi.atI_1, Mi.atI_2, Mi.atI_3, Mi.atI_4, List.length_cons, List.length_nil, Nat.reduceAdd, Nat.reduceLeDiff, true_and, and_true, Mi.forget, List.set_cons_zero, List.set_cons_succ, List.map_cons, List.map_nil, List.cons_append, List.nil_append, List.replicate, Nat.reduceSub, Nat.le_refl]
    exact ⟨true, ⟨fun _ => ⟨h0, hd⟩, fun _ => rfl⟩, backI_imm rfl⟩
theorem call_lhold {H : Nat} {rooms : List Int} {needs : List (List Q4)} (ok : Ok H rooms needs) {ps : List (Nat × Nat)} (g : GoodPs H ps) :
    ∃ b : Bool, (b = true ↔ LH H (fitN rooms needs) ps) ∧ ∀ (μ : Mem) (Q : D → Mem → Prop), CL (borF F_levels_hold) [eInts rooms, eNeeds needs, dN ps] μ Q ↔ Q (.bl b) μ :=
  bor_ex (μ0 := []) (r := D.bl) (nrs3 (nr_eInts _) (nr_eNeeds _) nr_dN) (fun μ => rfl) (lhold_run ok g)
def allW (H : Nat) (lo : Int) (us : List Nat) : Bool := us.all fun x => decide (lo ≤ (x : Int) ∧ (x : Int) ≤ (W H : Nat))
theorem judge_r {H : Nat} {rooms : List Int} {needs : List (List Q4)} (ok : Ok H rooms needs) (us : List Nat) {ps : List (Nat × Nat)} (g : GoodPs H ps) :
    ∃ b : Bool, (b = true ↔ (allW H 1 us && runB H (fitN rooms needs) 0 us) = true ∧ LH H (fitN rooms needs) ps ∧ kget ps (W H) = some us.length) ∧ ∀ (μ : Mem) (Q : D → Mem → Prop), CL (pureF F_judge_rounds) [eInts rooms, eNeeds needs, roundsD us ps] μ Q ↔ Q (.bl b) μ := by
  have hn : nrs [D.str (Str.ofString "rounds"), eTN us, ePs ps] = true := nrs3 rfl (nrTN _) (nrPs _)
  refine pure_ex (r := D.bl) (nrs3 (nr_eInts _) (nr_eNeeds _) hn) ?_
  obtain ⟨b, hb, cb⟩ := call_lhold ok g
  refine (c_def (by rfl)).mpr ?_
  unfold b_judge_rounds
  have h3 : (([D.str (Str.ofString "rounds"), eTN us, ePs ps].length : Nat) : Int) = 3 := rfl
  have hs : PyData.strOk (Str.ofString "rounds") = true := by decide +kernel
  have he : (Str.ofString "rounds" == Str.ofString "rounds") = true := by decide +kernel
  simp only [↓Mi.w_ret, ↓Mi.w_var0, ↓Mi.w_varS, ↓Mi.w_bin, ↓Mi.w_nil, ↓Mi.w_cons, ↓Mi.w_tup, ↓Mi.w_lst, ↓Mi.w_mut, ↓Mi.w_call, ↓Mi.w_if, ↓Mi.w_and, ↓Mi.w_or, ↓Mi.w_not, ↓Mi.w_B, ↓Mi.asb_bl, ↓Mi.w_andV, ↓Mi.w_orV, ↓Mi.w_notV, ↓Mi.w_tru, ↓Mi.tru_int, ↓Mi.tru_bl, ↓Mi.tru_non, ↓Mi.tru_tup, ↓Mi.tru_lst, ↓Mi.w_neg, ↓Mi.ex_int, ↓Mi.g_xor, ↓Mi.g_lt, ↓Mi.g_le, ↓Mi.g_gt, ↓Mi.g_ge, ↓Mi.g_mul, ↓Mi.g_mod, ↓Mi.g_div, ↓Mi.g_pow, ↓Mi.g_shl, ↓Mi.g_shr, ↓Mi.g_catT, ↓Mi.g_catL, ↓Mi.g_eqi, ↓Mi.g_nei, ↓Mi.g_eqb, ↓Mi.g_neb, ↓Mi.g_eqs, ↓Mi.g_nes, ↓Mi.g_eqt, ↓Mi.g_net, ↓Mi.g_is, ↓Mi.g_isnot, ↓Mi.g_ix_i, ↓Mi.g_ix_t, ↓Mi.ixv_tup, ↓Mi.ixv_lst, ↓Mi.ixv_dK, ↓Mi.g_in, ↓Mi.g_nin, ↓Mi.w_part, ↓Mi.w_sl, ↓Mi.sl_tup, ↓Mi.sl_lst, ↓Mi.sl_scr, ↓Mi.w_rev, ↓Mi.ex_lst, ↓Mi.w_get2, ↓Mi.c_g1, ↓Mi.c_max2, ↓Mi.c_min2, ↓Mi.c_tuple, ↓Mi.dtuple_tup, ↓Mi.dtuple_lst, ↓Mi.dtuple_ref, ↓Mi.w_isi, ↓Mi.setl_0, ↓Mi.setl_s, ↓Mi.w_append, ↓Mi.app_ref, ↓Mi.t_name, ↓Mi.t_tup, ↓Mi.t_nil, ↓Mi.t_cons, ↓Mi.s_next, ↓Mi.s_break, ↓Mi.s_cont, ↓Mi.s_set, ↓Mi.s_ret, ↓Mi.s_retN, ↓Mi.s_expr, ↓Mi.s_if, ↓Mi.s_asg, ↓Mi.s_store, ↓Mi.s_seq, ↓Mi.k_nx, ↓Mi.k_rt, ↓Mi.k_bk, ↓Mi.k_ct, ↓Mi.sto_s, ↓Mi.sto_L, ↓Mi.s_for, ↓Mi.s_while, ↓Mi.r_rt, ↓Mi.r_nx, ↓Mi.tn_nx, ↓Mi.tn_ct, ↓Mi.tn_bk, ↓Mi.tn_rt, ↓Mi.w_seqI, ↓Mi.w_enumI, ↓Mi.w_zipI, ↓Mi.w_range1, ↓Mi.w_range2, ↓Mi.w_range3, ↓Mi.seq_tup, ↓Mi.seq_lst, ↓Mi.seq_ref, ↓Mi.w_lc, ↓Mi.w_yes, ↓Mi.w_chain, ↓Mi.isi_ii, ↓Mi.isi_bi, ↓Mi.isi_tt, ↓Mi.is_non_dK, ↓Mi.is_non_non, ↓Mi.is_blbl, ↓Mi.upd_0, ↓Mi.upd_s, ↓Mi.see_ref, ↓Mi.see_tup, ↓Mi.see_lst, ↓Mi.see_int, ↓Mi.see_str, ↓Mi.see_bl, ↓Mi.see_non, ↓Mi.see_dK, ↓Mi.see_dT, ↓Mi.see_scr, ↓Mi.cell_0, ↓Mi.cell_s, ↓Mi.push_0, ↓Mi.push_1, ↓Mi.push_2, ↓Mi.push_3, ↓Mi.push_4, ↓Mi.push_5, ↓Mi.opt_some, ↓Mi.it_true, ↓Mi.it_false, ↓Mi.it_dec, ↓Mi.it_not, ↓Mi.g_andN, ↓Mi.g_orN, ↓Mi.g_add1, ↓Mi.n_dget, ↓Mi.n_look, ↓Mi.n_in, ↓Mi.n_sto, ↓Mi.n_disp, ↓Mi.keyd_i, ↓Mi.c_minN, ↓Mi.g_eqgetN, ↓Mi.g_negetI, ↓Mi.in_tupN, ↓Mi.n_look0, Mi.wipeR, Mi.dlen_tup, Mi.dlen_lst, Mi.dint_int, Mi.dlist_lst, Mi.dlist_tup, Mi.isl_lst, Mi.isd_dK, Mi.atI_0, Mi.atI_1, Mi.atI_2, Mi.atI_3, Mi.atI_4, List.length_cons, List.length_nil, Nat.reduceAdd, Nat.reduceLeDiff, true_and, and_true, Mi.forget, List.set_cons_zero, List.set_cons_succ, List.map_cons, List.map_nil, List.cons_append, List.nil_append, List.replicate, Nat.reduceSub, Nat.le_refl, ↓call_isrow _ hn, ↓it_t h3, ↓call_whole ok, hs, ↓it_b he, ↓call_pairs ok g, ↓call_rhold ok us, Bool.not_false, Bool.not_true, ↓cb, ↓g_eqgetI]
  rw [List.length_map]
  have e1 : (us.all fun x => decide ((1 : Int) ≤ (x : Int) ∧ (x : Int) ≤ (W H : Nat))) = allW H 1 us := rfl
  rw [e1]
  cases ha : (allW H 1 us && runB H (fitN rooms needs) 0 us) with
  | false => exact ⟨false, ⟨fun h => Bool.noConfusion h, fun h => Bool.noConfusion h.1⟩, backN_nr rfl⟩
  | true =>
    rw [it_true]
    cases b with
    | false => exact ⟨false, ⟨fun h => Bool.noConfusion h, fun h => hb.mpr h.2.1⟩, backN_nr rfl⟩
    | true =>
      rw [it_true]
      refine ⟨_, ?_, backN_nr rfl⟩
      rw [decide_eq_true_eq]
      cases hk : kget ps (W H) with
      | none => simp
      | some d =>
        simp [hb.mp rfl]
        omega
theorem judge_s {H : Nat} {rooms : List Int} {needs : List (List Q4)} (ok : Ok H rooms needs) (ks : List Nat) (hle : ∀ k ∈ ks, k ≤ W H) (up : ks.Pairwise (· < ·)) :
    ∃ b : Bool, (b = true ↔ W H ∉ ks ∧ LH H (fitN rooms needs) (ks.map fun k => (k, 0))) ∧ ∀ (μ : Mem) (Q : D → Mem → Prop), CL (pureF F_judge_rounds) [eInts rooms, eNeeds needs, stuckD ks] μ Q ↔ Q (.bl b) μ := by
  have hn : nrs [D.str (Str.ofString "stuck"), eTN ks, .tup []] = true := nrs3 rfl (nrTN _) rfl
  refine pure_ex (r := D.bl) (nrs3 (nr_eInts _) (nr_eNeeds _) hn) ?_
  have g : GoodPs H (ks.map fun k => (k, 0)) := ⟨by rw [List.pairwise_map]; exact up, fun p hp => by
    obtain ⟨k, hk, rfl⟩ := List.mem_map.mp hp
    exact ⟨hle k hk, by omega⟩⟩
  have hl := g.len ok.h4
  rw [List.length_map] at hl
  obtain ⟨b, hb, cb⟩ := call_lhold ok g
  refine (c_def (by rfl)).mpr ?_
  unfold b_judge_rounds
  have h3 : (([D.str (Str.ofString "stuck"), eTN ks, .tup []].length : Nat) : Int) = 3 := rfl
  have hs : PyData.strOk (Str.ofString "rounds") = true := by decide +kernel
  have hs2 : PyData.strOk (Str.ofString "stuck") = true := by decide +kernel
  have he : (Str.ofString "stuck" == Str.ofString "rounds") = false := by decide +kernel
  have he2 : (Str.ofString "stuck" == Str.ofString "stuck") = true := by decide +kernel
  have ht : gEqO (.tup []) (.tup []) = some true := rfl
  have hall : (ks.all fun x => decide ((0 : Int) ≤ (x : Int) ∧ (x : Int) ≤ (W H : Nat))) = true := by
    rw [List.all_eq_true]
    intro x hx
    have := hle x hx
    exact decide_eq_true ⟨by omega, by omega⟩
  simp only [↓Mi.w_ret, ↓Mi.w_var0, ↓Mi.w_varS, ↓Mi.w_bin, ↓Mi.w_nil, ↓Mi.w_cons, ↓Mi.w_tup, ↓Mi.w_lst, ↓Mi.w_mut, ↓Mi.w_call, ↓Mi.w_if, ↓Mi.w_and, ↓Mi.w_or, ↓Mi.w_not, ↓Mi.w_B, ↓Mi.asb_bl, ↓Mi.w_andV, ↓Mi.w_orV, ↓Mi.w_notV, ↓Mi.w_tru, ↓Mi.tru_int, ↓Mi.tru_bl, ↓Mi.tru_non, ↓Mi.tru_tup, ↓Mi.tru_lst, ↓Mi.w_neg, ↓Mi.ex_int, ↓Mi.g_xor, ↓Mi.g_lt, ↓Mi.g_le, ↓Mi.g_gt, ↓Mi.g_ge, ↓Mi.g_mul, ↓Mi.g_mod, ↓Mi.g_div, ↓Mi.g_pow, ↓Mi.g_shl, ↓Mi.g_shr, ↓Mi.g_catT, ↓Mi.g_catL, ↓Mi.g_eqi, ↓Mi.g_nei, ↓Mi.g_eqb, ↓Mi.g_neb, ↓Mi.g_eqs, ↓Mi.g_nes, ↓Mi.g_eqt, ↓Mi.g_net, ↓Mi.g_is, ↓Mi.g_isnot, ↓Mi.g_ix_i, ↓Mi.g_ix_t, ↓Mi.ixv_tup, ↓Mi.ixv_lst, ↓Mi.ixv_dK, ↓Mi.g_in, ↓Mi.g_nin, ↓Mi.w_part, ↓Mi.w_sl, ↓Mi.sl_tup, ↓Mi.sl_lst, ↓Mi.sl_scr, ↓Mi.w_rev, ↓Mi.ex_lst, ↓Mi.w_get2, ↓Mi.c_g1, ↓Mi.c_max2, ↓Mi.c_min2, ↓Mi.c_tuple, ↓Mi.dtuple_tup, ↓Mi.dtuple_lst, ↓Mi.dtuple_ref, ↓Mi.w_isi, ↓Mi.setl_0, ↓Mi.setl_s, ↓Mi.w_append, ↓Mi.app_ref, ↓Mi.t_name, ↓Mi.t_tup, ↓Mi.t_nil, ↓Mi.t_cons, ↓Mi.s_next, ↓Mi.s_break, ↓Mi.s_cont, ↓Mi.s_set, ↓Mi.s_ret, ↓Mi.s_retN, ↓Mi.s_expr, ↓Mi.s_if, ↓Mi.s_asg, ↓Mi.s_store, ↓Mi.s_seq, ↓Mi.k_nx, ↓Mi.k_rt, ↓Mi.k_bk, ↓Mi.k_ct, ↓Mi.sto_s, ↓Mi.sto_L, ↓Mi.s_for, ↓Mi.s_while, ↓Mi.r_rt, ↓Mi.r_nx, ↓Mi.tn_nx, ↓Mi.tn_ct, ↓Mi.tn_bk, ↓Mi.tn_rt, ↓Mi.w_seqI, ↓Mi.w_enumI, ↓Mi.w_zipI, ↓Mi.w_range1, ↓Mi.w_range2, ↓Mi.w_range3, ↓Mi.seq_tup, ↓Mi.seq_lst, ↓Mi.seq_ref, ↓Mi.w_lc, ↓Mi.w_yes, ↓Mi.w_chain, ↓Mi.isi_ii, ↓Mi.isi_bi, ↓Mi.isi_tt, ↓Mi.is_non_dK, ↓Mi.is_non_non, ↓Mi.is_blbl, ↓Mi.upd_0, ↓Mi.upd_s, ↓Mi.see_ref, ↓Mi.see_tup, ↓Mi.see_lst, ↓Mi.see_int, ↓Mi.see_str, ↓Mi.see_bl, ↓Mi.see_non, ↓Mi.see_dK, ↓Mi.see_dT, ↓Mi.see_scr, ↓Mi.cell_0, ↓Mi.cell_s, ↓Mi.push_0, ↓Mi.push_1, ↓Mi.push_2, ↓Mi.push_3, ↓Mi.push_4, ↓Mi.push_5, ↓Mi.opt_some, ↓Mi.it_true, ↓Mi.it_false, ↓Mi.it_dec, ↓Mi.it_not, ↓Mi.g_andN, ↓Mi.g_orN, ↓Mi.g_add1, ↓Mi.n_dget, ↓Mi.n_look, ↓Mi.n_in, ↓Mi.n_sto, ↓Mi.n_disp, ↓Mi.keyd_i, ↓Mi.c_minN, ↓Mi.g_eqgetN, ↓Mi.g_negetI, ↓Mi.in_tupN, ↓Mi.n_look0, Mi.wipeR, Mi.dlen_tup, Mi.dlen_lst, Mi.dint_int, Mi.dlist_lst, Mi.dlist_tup, Mi.isl_lst, Mi.isd_dK, Mi.atI_0, Mi.atI_1, Mi.atI_2, Mi.atI_3, Mi.atI_4, List.length_cons, List.length_nil, Nat.reduceAdd, Nat.reduceLeDiff, true_and, and_true, Mi.forget, List.set_cons_zero, List.set_cons_succ, List.map_cons, List.map_nil, List.cons_append, List.nil_append, List.replicate, Nat.reduceSub, Nat.le_refl, ↓call_isrow _ hn, ↓it_t h3, ↓call_whole ok, hs, hs2, ↓it_nb he, ↓it_b he2, ↓opt_eq ht, ↓call_allwhole, ↓it_b hall, Bool.not_false, Bool.not_true]
  refine ⟨fun hm => ⟨false, ⟨fun h => Bool.noConfusion h, fun h => absurd hm h.1⟩, backN_nr rfl⟩, fun hm => ⟨by rw [List.length_map]; omega, ?_⟩⟩
  refine lc_map (f := fun k : Nat => eP (k, 0)) rfl (fun k hk => ?_) ?_
  · simp only [↓Mi.w_ret, ↓Mi.w_var0, ↓Mi.w_varS, ↓Mi.w_bin, ↓Mi.w_nil, ↓Mi.w_cons, ↓Mi.w_tup, ↓Mi.w_lst, ↓Mi.w_mut, ↓Mi.w_call, ↓Mi.w_if, ↓Mi.w_and, ↓Mi.w_or, ↓Mi.w_not, ↓Mi.w_B, ↓Mi.asb_bl, ↓Mi.w_andV, ↓Mi.w_orV, ↓Mi.w_notV, ↓Mi.w_tru, ↓Mi.tru_int, ↓Mi.tru_bl, ↓Mi.tru_non, ↓Mi.tru_tup, ↓Mi.tru_lst, ↓Mi.w_neg, ↓Mi.ex_int, ↓Mi.g_xor, ↓Mi.g_lt, ↓Mi.g_le, ↓Mi.g_gt, ↓Mi.g_ge, ↓Mi.g_mul, ↓Mi.g_mod, ↓Mi.g_div, ↓Mi.g_pow, ↓Mi.g_shl, ↓Mi.g_shr, ↓Mi.g_catT, ↓Mi.g_catL, ↓Mi.g_eqi, ↓Mi.g_nei, ↓Mi.g_eqb, ↓Mi.g_neb, ↓Mi.g_eqs, ↓Mi.g_nes, ↓Mi.g_eqt, ↓Mi.g_net, ↓Mi.g_is, ↓Mi.g_isnot, ↓Mi.g_ix_i, ↓Mi.g_ix_t, ↓Mi.ixv_tup, ↓Mi.ixv_lst, ↓Mi.ixv_dK, ↓Mi.g_in, ↓Mi.g_nin, ↓Mi.w_part, ↓Mi.w_sl, ↓Mi.sl_tup, ↓Mi.sl_lst, ↓Mi.sl_scr, ↓Mi.w_rev, ↓Mi.ex_lst, ↓Mi.w_get2, ↓Mi.c_g1, ↓Mi.c_max2, ↓Mi.c_min2, ↓Mi.c_tuple, ↓Mi.dtuple_tup, ↓Mi.dtuple_lst, ↓Mi.dtuple_ref, ↓Mi.w_isi, ↓Mi.setl_0, ↓Mi.setl_s, ↓Mi.w_append, ↓Mi.app_ref, ↓Mi.t_name, ↓Mi.t_tup, ↓Mi.t_nil, ↓Mi.t_cons, ↓Mi.s_next, ↓Mi.s_break, ↓Mi.s_cont, ↓Mi.s_set, ↓Mi.s_ret, ↓Mi.s_retN, ↓Mi.s_expr, ↓Mi.s_if, ↓Mi.s_asg, ↓Mi.s_store, ↓Mi.s_seq, ↓Mi.k_nx, ↓Mi.k_rt, ↓Mi.k_bk, ↓Mi.k_ct, ↓Mi.sto_s, ↓Mi.sto_L, ↓Mi.s_for, ↓Mi.s_while, ↓Mi.r_rt, ↓Mi.r_nx, ↓Mi.tn_nx, ↓Mi.tn_ct, ↓Mi.tn_bk, ↓Mi.tn_rt, ↓Mi.w_seqI, ↓Mi.w_enumI, ↓Mi.w_zipI, ↓Mi.w_range1, ↓Mi.w_range2, ↓Mi.w_range3, ↓Mi.seq_tup, ↓Mi.seq_lst, ↓Mi.seq_ref, ↓Mi.w_lc, ↓Mi.w_yes, ↓Mi.w_chain, ↓Mi.isi_ii, ↓Mi.isi_bi, ↓Mi.isi_tt, ↓Mi.is_non_dK, ↓Mi.is_non_non, ↓Mi.is_blbl, ↓Mi.upd_0, ↓Mi.upd_s, ↓Mi.see_ref, ↓Mi.see_tup, ↓Mi.see_lst, ↓Mi.see_int, ↓Mi.see_str, ↓Mi.see_bl, ↓Mi.see_non, ↓Mi.see_dK, ↓Mi.see_dT, ↓Mi.see_scr, ↓Mi.cell_0, ↓Mi.cell_s, ↓Mi.push_0, ↓Mi.push_1, ↓Mi.push_2, ↓Mi.push_3, ↓Mi.push_4, ↓Mi.push_5, ↓Mi.opt_some, ↓Mi.it_true, ↓Mi.it_false, ↓Mi.it_dec, ↓Mi.it_not, ↓Mi.g_andN, ↓Mi.g_orN, ↓Mi.g_add1, ↓Mi.n_dget, ↓Mi.n_look, ↓Mi.n_in, ↓Mi.n_sto, ↓Mi.n_disp, ↓Mi.keyd_i, ↓Mi.c_minN, ↓Mi.g_eqgetN, ↓Mi.g_negetI, ↓Mi.in_tupN, ↓Mi.n_look0, Mi.wipeR, Mi.dlen_tup, Mi.dlen_lst, Mi.dint_int, Mi.dlist_lst, Mi.dlist_tup, Mi.isl_lst, Mi.isd_dK, Mi.atI_0, Mi.atI_1, Mi.atI_2, Mi.atI_3, Mi.atI_4, List.length_cons, List.length_nil, Nat.reduceAdd, Nat.reduceLeDiff, true_and, and_true, Mi.forget, List.set_cons_zero, List.set_cons_succ, List.map_cons, List.map_nil, List.cons_append, List.nil_append, List.replicate, Nat.reduceSub, Nat.le_refl]
    rfl
  · have e : ks.map (fun k : Nat => eP (k, 0)) = (ks.map fun k => (k, 0)).map eP := by rw [List.map_map]; rfl
    rw [e]
    simp only [↓Mi.w_ret, ↓Mi.w_var0, ↓Mi.w_varS, ↓Mi.w_bin, ↓Mi.w_nil, ↓Mi.w_cons, ↓Mi.w_tup, ↓Mi.w_lst, ↓Mi.w_mut, ↓Mi.w_call, ↓Mi.w_if, ↓Mi.w_and, ↓Mi.w_or, ↓Mi.w_not, ↓Mi.w_B, ↓Mi.asb_bl, ↓Mi.w_andV, ↓Mi.w_orV, ↓Mi.w_notV, ↓Mi.w_tru, ↓Mi.tru_int, ↓Mi.tru_bl, ↓Mi.tru_non, ↓Mi.tru_tup, ↓Mi.tru_lst, ↓Mi.w_neg, ↓Mi.ex_int, ↓Mi.g_xor, ↓Mi.g_lt, ↓Mi.g_le, ↓Mi.g_gt, ↓Mi.g_ge, ↓Mi.g_mul, ↓Mi.g_mod, ↓Mi.g_div, ↓Mi.g_pow, ↓Mi.g_shl, ↓Mi.g_shr, ↓Mi.g_catT, ↓Mi.g_catL, ↓Mi.g_eqi, ↓Mi.g_nei, ↓Mi.g_eqb, ↓Mi.g_neb, ↓Mi.g_eqs, ↓Mi.g_nes, ↓Mi.g_eqt, ↓Mi.g_net, ↓Mi.g_is, ↓Mi.g_isnot, ↓Mi.g_ix_i, ↓Mi.g_ix_t, ↓Mi.ixv_tup, ↓Mi.ixv_lst, ↓Mi.ixv_dK, ↓Mi.g_in, ↓Mi.g_nin, ↓Mi.w_part, ↓Mi.w_sl, ↓Mi.sl_tup, ↓Mi.sl_lst, ↓Mi.sl_scr, ↓Mi.w_rev, ↓Mi.ex_lst, ↓Mi.w_get2, ↓Mi.c_g1, ↓Mi.c_max2, ↓Mi.c_min2, ↓Mi.c_tuple, ↓Mi.dtuple_tup, ↓Mi.dtuple_lst, ↓Mi.dtuple_ref, ↓Mi.w_isi, ↓Mi.setl_0, ↓Mi.setl_s, ↓Mi.w_append, ↓Mi.app_ref, ↓Mi.t_name, ↓Mi.t_tup, ↓Mi.t_nil, ↓Mi.t_cons, ↓Mi.s_next, ↓Mi.s_break, ↓Mi.s_cont, ↓Mi.s_set, ↓Mi.s_ret, ↓Mi.s_retN, ↓Mi.s_expr, ↓Mi.s_if, ↓Mi.s_asg, ↓Mi.s_store, ↓Mi.s_seq, ↓Mi.k_nx, ↓Mi.k_rt, ↓Mi.k_bk, ↓Mi.k_ct, ↓Mi.sto_s, ↓Mi.sto_L, ↓Mi.s_for, ↓Mi.s_while, ↓Mi.r_rt, ↓Mi.r_nx, ↓Mi.tn_nx, ↓Mi.tn_ct, ↓Mi.tn_bk, ↓Mi.tn_rt, ↓Mi.w_seqI, ↓Mi.w_enumI, ↓Mi.w_zipI, ↓Mi.w_range1, ↓Mi.w_range2, ↓Mi.w_range3, ↓Mi.seq_tup, ↓Mi.seq_lst, ↓Mi.seq_ref, ↓Mi.w_lc, ↓Mi.w_yes, ↓Mi.w_chain, ↓Mi.isi_ii, ↓Mi.isi_bi, ↓Mi.isi_tt, ↓Mi.is_non_dK, ↓Mi.is_non_non, ↓Mi.is_blbl, ↓Mi.upd_0, ↓Mi.upd_s, ↓Mi.see_ref, ↓Mi.see_tup, ↓Mi.see_lst, ↓Mi.see_int, ↓Mi.see_str, ↓Mi.see_bl, ↓Mi.see_non, ↓Mi.see_dK, ↓Mi.see_dT, ↓Mi.see_scr, ↓Mi.cell_0, ↓Mi.cell_s, ↓Mi.push_0, ↓Mi.push_1, ↓Mi.push_2, ↓Mi.push_3, ↓Mi.push_4, ↓Mi.push_5, ↓Mi.opt_some, ↓Mi.it_true, ↓Mi.it_false, ↓Mi.it_dec, ↓Mi.it_not, ↓Mi.g_andN, ↓Mi.g_orN, ↓Mi.g_add1, ↓Mi.n_dget, ↓Mi.n_look, ↓Mi.n_in, ↓Mi.n_sto, ↓Mi.n_disp, ↓Mi.keyd_i, ↓Mi.c_minN, ↓Mi.g_eqgetN, ↓Mi.g_negetI, ↓Mi.in_tupN, ↓Mi.n_look0, Mi.wipeR, Mi.dlen_tup, Mi.dlen_lst, Mi.dint_int, Mi.dlist_lst, Mi.dlist_tup, Mi.isl_lst, Mi.isd_dK, Mi.atI_0, Mi.atI_1, Mi.atI_2, Mi.atI_3, Mi.atI_4, List.length_cons, List.length_nil, Nat.reduceAdd, Nat.reduceLeDiff, true_and, and_true, Mi.forget, List.set_cons_zero, List.set_cons_succ, List.map_cons, List.map_nil, List.cons_append, List.nil_append, List.replicate, Nat.reduceSub, Nat.le_refl, ↓call_pairs ok g, ↓cb, Bool.not_false]
    exact ⟨b, ⟨fun h => ⟨hm, hb.mp h⟩, fun h => hb.mpr h.2⟩, backN_nr rfl⟩
end K68
namespace K68
open PySem PySem.Spec PyProof.Rows L2 Mi
/-! ## breadth first -/
def eT (xs : List Nat) : D := .tup (xs.map fun x => .int (x : Nat))
abbrev dP (pt : List (Nat × List (List Nat))) : D := .dK (pt.map fun p => Sum.inl (p.1 : Int)) (pt.map fun p => .lst (p.2.map eT))
theorem p_dget {pt : List (Nat × List (List Nat))} {k : Nat} {K : D → Prop} : OPT (dget (pt.map fun p => (Sum.inl (p.1 : Int) : Key)) (pt.map fun p => D.lst (p.2.map eT)) (.inl (k : Int))) K ↔ OPT (kget pt k) fun x => K (.lst (x.map eT)) := opt_dget (fv := fun x : List (List Nat) => D.lst (x.map eT))
theorem p_sto {pt : List (Nat × List (List Nat))} {k : Nat} {x : List (List Nat)} {μ : Mem} {K : Mem → Prop} : STO (.ref 0) (.int (k : Int)) (.lst (x.map eT)) (⟨false, dP pt⟩ :: μ) K ↔ pt.length < 16777216 ∧ K (⟨false, dP (kput pt k x)⟩ :: μ) := sto_N (fv := fun x : List (List Nat) => D.lst (x.map eT))
theorem p_sto0 {pt : List (Nat × List (List Nat))} {k : Nat} {μ : Mem} {K : Mem → Prop} : STO (.ref 0) (.int (k : Int)) (.lst []) (⟨false, dP pt⟩ :: μ) K ↔ pt.length < 16777216 ∧ K (⟨false, dP (kput pt k [])⟩ :: μ) := p_sto (x := [])
theorem p_sto2 {pt : List (Nat × List (List Nat))} {k : Nat} {x y : List (List Nat)} {μ : Mem} {K : Mem → Prop} : STO (.ref 0) (.int (k : Int)) (.lst (x.map eT ++ y.map eT)) (⟨false, dP pt⟩ :: μ) K ↔ pt.length < 16777216 ∧ K (⟨false, dP (kput pt k (x ++ y))⟩ :: μ) := by
  rw [← List.map_append, p_sto]
section
variable {H : Nat} {fit : Nat → Nat → Bool}
/-- the pairs looked at reach m -/
def Via (H : Nat) (fit : Nat → Nat → Bool) (Pr : Nat → Nat → Prop) (m : Nat) : Prop := ∃ t u, Pr t u ∧ Stp H fit t u ∧ t ||| u = m
structure BI (H : Nat) (fit : Nat → Nat → Bool) (k : Nat) (L : List Nat) (Pr : Nat → Nat → Prop) (bd : Nat → Nat) (lv : List (Nat × Nat)) (pt : List (Nat × List (List Nat))) (later : List Nat) : Prop where
  nd : (lv.map (·.1)).Nodup
  ks : pt.map (·.1) = lv.map (·.1)
  lv : ∀ m d, kget lv m = some d ↔ (Dist H fit m d ∧ d ≤ k) ∨ (d = k + 1 ∧ Dist H fit m d ∧ Via H fit Pr m)
  la : ∀ m, m ∈ later ↔ Dist H fit m (k + 1) ∧ Via H fit Pr m
  ln : later.Nodup
  old : ∀ m d, Dist H fit m d → d ≤ k → ∃ ps, kget pt m = some ps ∧ ps.length ≤ 16 ^ d ∧ ∀ q, q ∈ ps ↔ Pth H fit 0 q m ∧ q.length = d
  new : ∀ m, m ∈ later → ∃ ps, kget pt m = some ps ∧ ps.length ≤ bd m ∧ ∀ q, q ∈ ps ↔ ∃ t u q', Pr t u ∧ Stp H fit t u ∧ t ||| u = m ∧ q = q' ++ [u] ∧ Pth H fit 0 q' t ∧ q'.length = k
theorem Dist.le (h4 : H ≤ 4) {m d : Nat} (h : Dist H fit m d) : m ≤ W H ∧ d ≤ 4 := by
  have a := h.1.le h4
  have := W_lt h4
  have := pc_le m (by omega)
  omega
theorem dist_step {t u k : Nat} (h : Dist H fit t k) (s : Stp H fit t u) : (∃ d, d ≤ k ∧ Dist H fit (t ||| u) d) ∨ Dist H fit (t ||| u) (k + 1) := by
  have r := Reach.step h.1 s
  by_cases hx : ∃ d, d ≤ k ∧ Reach H fit d (t ||| u)
  · left
    obtain ⟨d, hd, hr⟩ := hx
    have : ∀ n, n ≤ k → Reach H fit n (t ||| u) → ∃ d, d ≤ n ∧ Dist H fit (t ||| u) d := by
      intro n
      induction n using Nat.strongRecOn with
      | ind n ih =>
        intro hn hr
        by_cases hy : ∃ j, j < n ∧ Reach H fit j (t ||| u)
        · obtain ⟨j, h1, h2⟩ := hy
          obtain ⟨d, h3, h4⟩ := ih j h1 (by omega) h2
          exact ⟨d, by omega, h4⟩
        · exact ⟨n, Nat.le_refl _, hr, fun j hj => Nat.le_of_not_lt fun hl => hy ⟨j, hl, hj⟩⟩
    obtain ⟨d', h1, h2⟩ := this d hd hr
    exact ⟨d', by omega, h2⟩
  · exact .inr ⟨r, fun j hj => Nat.le_of_not_lt fun hl => hx ⟨j, by omega, hj⟩⟩
theorem dist_pre {m k : Nat} (h : Dist H fit m (k + 1)) {t u : Nat} (s : Stp H fit t u) (e : t ||| u = m) (r : Reach H fit k t) : Dist H fit t k :=
  ⟨r, fun j hj => by have r' := Reach.step hj s; rw [e] at r'; have := h.2 _ r'; omega⟩
theorem BI.len (h4 : H ≤ 4) {k : Nat} {L : List Nat} {Pr : Nat → Nat → Prop} {bd : Nat → Nat} {lv : List (Nat × Nat)} {pt : List (Nat × List (List Nat))} {later : List Nat} (h : BI H fit k L Pr bd lv pt later) : lv.length ≤ 16 ∧ pt.length ≤ 16 ∧ later.length ≤ 16 := by
  have hw := W_lt h4
  have a := nodup_lt 16 _ h.nd fun x hx => by
    obtain ⟨p, hp, rfl⟩ := List.mem_map.mp hx
    have := (h.lv p.1 p.2).mp (kget_of_mem h.nd hp)
    rcases this with q | q
    · have := q.1.le h4; omega
    · have := q.2.1.le h4; omega
  have b := congrArg List.length h.ks
  have c := nodup_lt 16 _ h.ln fun x hx => by
    have := ((h.la x).mp hx).1.le h4; omega
  simp only [List.length_map] at a b
  omega
/-- one more pair is looked at: one that does not step on, or steps where it was shorter -/
theorem BI.skip {k : Nat} {L : List Nat} {Pr Pr' : Nat → Nat → Prop} {bd bd' : Nat → Nat} {lv : List (Nat × Nat)} {pt : List (Nat × List (List Nat))} {later : List Nat} (h : BI H fit k L Pr bd lv pt later)
    (hp : ∀ t u, Pr t u → Pr' t u) (hq : ∀ t u, Pr' t u → Stp H fit t u → Dist H fit (t ||| u) (k + 1) → Pr t u) (hb : ∀ m, bd m ≤ bd' m) : BI H fit k L Pr' bd' lv pt later := by
  have hv : ∀ m, Dist H fit m (k + 1) → (Via H fit Pr m ↔ Via H fit Pr' m) := fun m hd =>
    ⟨fun ⟨t, u, a, b, c⟩ => ⟨t, u, hp _ _ a, b, c⟩, fun ⟨t, u, a, b, c⟩ => ⟨t, u, hq _ _ a b (c ▸ hd), b, c⟩⟩
  refine ⟨h.nd, h.ks, fun m d => ?_, fun m => ?_, h.ln, h.old, fun m hm => ?_⟩
  · rw [h.lv]
    constructor
    · rintro (q | ⟨e, q, v⟩)
      · exact .inl q
      · exact .inr ⟨e, q, (hv m (e ▸ q)).mp v⟩
    · rintro (q | ⟨e, q, v⟩)
      · exact .inl q
      · exact .inr ⟨e, q, (hv m (e ▸ q)).mpr v⟩
  · rw [h.la]
    exact ⟨fun q => ⟨q.1, (hv m q.1).mp q.2⟩, fun q => ⟨q.1, (hv m q.1).mpr q.2⟩⟩
  · obtain ⟨ps, h1, h2, h3⟩ := h.new m hm
    refine ⟨ps, h1, Nat.le_trans h2 (hb m), fun q => ?_⟩
    have hd := ((h.la m).mp hm).1
    rw [h3]
    exact ⟨fun ⟨t, u, q', a, b, c, r⟩ => ⟨t, u, q', hp _ _ a, b, c, r⟩, fun ⟨t, u, q', a, b, c, r⟩ => ⟨t, u, q', hq _ _ a b (c ▸ hd), b, c, r⟩⟩
/-- one more pair, that steps on -/
theorem BI.step {k : Nat} {L : List Nat} {Pr Pr' : Nat → Nat → Prop} {bd bd' : Nat → Nat} {lv : List (Nat × Nat)} {pt : List (Nat × List (List Nat))} {later : List Nat} (h : BI H fit k L Pr bd lv pt later)
    {t u : Nat} (s : Stp H fit t u) (hd : Dist H fit (t ||| u) (k + 1)) {pt0 : List (List Nat)} (h0 : kget pt t = some pt0) (ht : Dist H fit t k)
    (hp : ∀ x y, Pr' x y ↔ Pr x y ∨ (x = t ∧ y = u)) (hb : ∀ m, m ≠ t ||| u → bd m ≤ bd' m) {lv' : List (Nat × Nat)} {later' : List Nat} {old : List (List Nat)}
    (hcase : (kget lv (t ||| u) = none ∧ lv' = kput lv (t ||| u) (k + 1) ∧ later' = later ++ [t ||| u] ∧ old = []) ∨ ((t ||| u) ∈ later ∧ lv' = lv ∧ later' = later ∧ kget pt (t ||| u) = some old))
    (hb' : old.length + pt0.length ≤ bd' (t ||| u)) :
    BI H fit k L Pr' bd' lv' (kput pt (t ||| u) (old ++ pt0.map (· ++ [u]))) later' := by
  obtain ⟨m0, hm0⟩ : ∃ m0, m0 = t ||| u := ⟨_, rfl⟩
  rw [← hm0] at hd hcase hb hb' ⊢
  obtain ⟨pt1, hpt1, _, hq0⟩ := h.old t k ht (Nat.le_refl _)
  rw [h0] at hpt1; cases hpt1
  have via_o : ∀ m, m ≠ m0 → (Via H fit Pr' m ↔ Via H fit Pr m) := fun m hm => by
    constructor
    · rintro ⟨x, y, a, b, c⟩
      rcases (hp x y).mp a with a | ⟨rfl, rfl⟩
      · exact ⟨x, y, a, b, c⟩
      · exact absurd (c.symm.trans hm0.symm) hm
    · rintro ⟨x, y, a, b, c⟩
      exact ⟨x, y, (hp x y).mpr (.inl a), b, c⟩
  have via_0 : Via H fit Pr' m0 := ⟨t, u, (hp t u).mpr (.inr ⟨rfl, rfl⟩), s, hm0.symm⟩
  have inl : ∀ m, m ∈ later' ↔ m ∈ later ∨ m = m0 := fun m => by
    rcases hcase with ⟨_, _, rfl, _⟩ | ⟨c, _, rfl, _⟩
    · rw [List.mem_append, List.mem_singleton]
    · exact ⟨.inl, fun h => h.elim id fun e => e ▸ c⟩
  have get : ∀ m, kget lv' m = if m = m0 then some (k + 1) else kget lv m := fun m => by
    rcases hcase with ⟨_, rfl, _, _⟩ | ⟨c, rfl, _, _⟩
    · exact kget_put ..
    · split
      · rename_i e
        have := (h.la m0).mp c
        rw [e]
        exact (h.lv _ _).mpr (.inr ⟨rfl, this⟩)
      · rfl
  have oldq : ∀ q, q ∈ old ↔ ∃ x y q', Pr x y ∧ Stp H fit x y ∧ x ||| y = m0 ∧ q = q' ++ [y] ∧ Pth H fit 0 q' x ∧ q'.length = k := fun q => by
    rcases hcase with ⟨c, _, _, rfl⟩ | ⟨c, _, _, c4⟩
    · refine ⟨fun h => (by cases h), fun ⟨x, y, q', a, b, e, _⟩ => ?_⟩
      have := (h.lv m0 (k + 1)).mpr (.inr ⟨rfl, hd, x, y, a, b, e⟩)
      rw [c] at this; cases this
    · obtain ⟨ps, h1, _, h3⟩ := h.new m0 c
      rw [c4] at h1; cases h1
      exact h3 q
  refine ⟨?_, ?_, fun m d => ?_, fun m => ?_, ?_, fun m d hm hl => ?_, fun m hm => ?_⟩
  · rcases hcase with ⟨_, rfl, _, _⟩ | ⟨_, rfl, _, _⟩
    · exact kput_nodup h.nd
    · exact h.nd
  · rw [kput_keys, h.ks]
    rcases hcase with ⟨_, rfl, _, _⟩ | ⟨c, rfl, _, _⟩
    · rw [kput_keys]
    · have := (h.la m0).mp c
      have := (h.lv m0 (k + 1)).mpr (.inr ⟨rfl, this⟩)
      rw [if_pos (kget_isSome.mp (by rw [this]; rfl))]
  · rw [get]
    split
    · rename_i e; subst e
      constructor
      · intro e; cases e; exact .inr ⟨rfl, hd, via_0⟩
      · rintro (⟨a, b⟩ | ⟨a, _⟩)
        · have := a.inj hd; omega
        · rw [a]
    · rename_i e
      rw [h.lv, via_o m e]
  · rw [inl, h.la]
    by_cases e : m = m0
    · subst e
      exact ⟨fun _ => ⟨hd, via_0⟩, fun _ => .inr rfl⟩
    · rw [via_o m e]
      exact ⟨fun q => q.resolve_right e, .inl⟩
  · rcases hcase with ⟨c, _, rfl, _⟩ | ⟨_, _, rfl, _⟩
    · rw [List.nodup_append]
      refine ⟨h.ln, by simp, fun a ha b hb => ?_⟩
      simp at hb; subst hb
      rintro rfl
      have := (h.lv a (k + 1)).mpr (.inr ⟨rfl, (h.la a).mp ha⟩)
      rw [c] at this; cases this
    · exact h.ln
  · have hne : m ≠ m0 := fun e => by subst e; have := hm.inj hd; omega
    obtain ⟨ps, h1, h2, h3⟩ := h.old m d hm hl
    exact ⟨ps, by rw [kget_put, if_neg hne]; exact h1, h2, h3⟩
  · by_cases e : m = m0
    · subst e
      refine ⟨_, by rw [kget_put, if_pos rfl], by rw [List.length_append, List.length_map]; exact hb', fun q => ?_⟩
      rw [List.mem_append, oldq, List.mem_map]
      constructor
      · rintro (⟨x, y, q', a, r⟩ | ⟨q', a, rfl⟩)
        · exact ⟨x, y, q', (hp x y).mpr (.inl a), r⟩
        · have := (hq0 q').mp a
          exact ⟨t, u, q', (hp t u).mpr (.inr ⟨rfl, rfl⟩), s, hm0.symm, rfl, this.1, this.2⟩
      · rintro ⟨x, y, q', a, b, c, d, e1, e2⟩
        rcases (hp x y).mp a with a | ⟨rfl, rfl⟩
        · exact .inl ⟨x, y, q', a, b, c, d, e1, e2⟩
        · exact .inr ⟨q', (hq0 q').mpr ⟨e1, e2⟩, d.symm⟩
    · have hml : m ∈ later := ((inl m).mp hm).resolve_right e
      obtain ⟨ps, h1, h2, h3⟩ := h.new m hml
      refine ⟨ps, by rw [kget_put, if_neg e]; exact h1, Nat.le_trans h2 (hb m e), fun q => ?_⟩
      rw [h3]
      constructor
      · rintro ⟨x, y, q', a, r⟩
        exact ⟨x, y, q', (hp x y).mpr (.inl a), r⟩
      · rintro ⟨x, y, q', a, b, c, r⟩
        rcases (hp x y).mp a with a | ⟨rfl, rfl⟩
        · exact ⟨x, y, q', a, b, c, r⟩
        · exact absurd (c.symm.trans hm0.symm) e
/-- between two turns -/
structure BO (H : Nat) (fit : Nat → Nat → Bool) (k : Nat) (L : List Nat) (lv : List (Nat × Nat)) (pt : List (Nat × List (List Nat))) : Prop where
  nd : (lv.map (·.1)).Nodup
  ks : pt.map (·.1) = lv.map (·.1)
  lv : ∀ m d, kget lv m = some d ↔ Dist H fit m d ∧ d ≤ k
  la : ∀ m, m ∈ L ↔ Dist H fit m k
  ln : L.Nodup
  old : ∀ m d, Dist H fit m d → d ≤ k → ∃ ps, kget pt m = some ps ∧ ps.length ≤ 16 ^ d ∧ ∀ q, q ∈ ps ↔ Pth H fit 0 q m ∧ q.length = d
theorem BO.start : BO H fit 0 [0] [(0, 0)] [(0, [[]])] := by
  have z : ∀ m, Reach H fit 0 m ↔ m = 0 := fun m => ⟨fun h => (by cases h; rfl), fun h => (by rw [h]; exact .zero)⟩
  have dz : ∀ m, Dist H fit m 0 ↔ m = 0 := fun m => ⟨fun h => (z m).mp h.1, fun h => ⟨(z m).mpr h, fun _ _ => Nat.zero_le _⟩⟩
  refine ⟨by simp, rfl, fun m d => ?_, fun m => ?_, by simp, fun m d hm hl => ?_⟩
  · simp only [kget]
    constructor
    · intro h
      split at h
      · rename_i e; cases h; exact ⟨(dz m).mpr e.symm, Nat.le_refl _⟩
      · cases h
    · rintro ⟨h1, h2⟩
      obtain rfl : d = 0 := by omega
      rw [if_pos ((dz m).mp h1).symm]
  · rw [List.mem_singleton]; exact (dz m).symm
  · obtain rfl : d = 0 := by omega
    obtain rfl := (dz m).mp hm
    refine ⟨_, rfl, by simp, fun q => ?_⟩
    rw [List.mem_singleton]
    constructor
    · rintro rfl; exact ⟨.nil, rfl⟩
    · rintro ⟨_, h⟩; exact List.length_eq_zero_iff.mp h
theorem BO.bi {k : Nat} {L : List Nat} {lv : List (Nat × Nat)} {pt : List (Nat × List (List Nat))} {bd : Nat → Nat} (h : BO H fit k L lv pt) : BI H fit k L (fun _ _ => False) bd lv pt [] :=
  ⟨h.nd, h.ks, fun m d => by rw [h.lv]; exact ⟨.inl, fun q => q.elim id fun ⟨_, _, _, _, q, _⟩ => q.elim⟩, fun m => ⟨fun q => (by cases q), fun ⟨_, _, _, q, _⟩ => q.elim⟩, List.nodup_nil, h.old, fun m hm => by cases hm⟩
theorem BI.bo {k : Nat} {L : List Nat} {lv : List (Nat × Nat)} {pt : List (Nat × List (List Nat))} {later : List Nat} {bd : Nat → Nat} {Pr : Nat → Nat → Prop} (h : BI H fit k L Pr bd lv pt later)
    (hall : ∀ t u, Dist H fit t k → Stp H fit t u → Pr t u) (hb : ∀ m, bd m ≤ 16 ^ (k + 1)) : BO H fit (k + 1) later lv pt := by
  have via : ∀ m, Dist H fit m (k + 1) → Via H fit Pr m := fun m hm => by
    have r := hm.1
    generalize hk : k + 1 = n at r
    cases r with
    | zero => cases hk
    | step r s => cases hk; exact ⟨_, _, hall _ _ (dist_pre hm s rfl r) s, s, rfl⟩
  refine ⟨h.nd, h.ks, fun m d => ?_, fun m => ?_, h.ln, fun m d hm hl => ?_⟩
  · rw [h.lv]
    constructor
    · rintro (⟨a, b⟩ | ⟨a, b, _⟩)
      · exact ⟨a, by omega⟩
      · exact ⟨b, by omega⟩
    · rintro ⟨a, b⟩
      rcases Nat.lt_or_eq_of_le b with b | b
      · exact .inl ⟨a, by omega⟩
      · exact .inr ⟨b, a, via m (b ▸ a)⟩
  · rw [h.la]
    exact ⟨fun q => q.1, fun q => ⟨q, via m q⟩⟩
  · rcases Nat.lt_or_eq_of_le hl with b | b
    · exact h.old m d hm (by omega)
    · subst b
      obtain ⟨ps, h1, h2, h3⟩ := h.new m ((h.la m).mpr ⟨hm, via m hm⟩)
      refine ⟨ps, h1, Nat.le_trans h2 (hb m), fun q => ?_⟩
      rw [h3]
      constructor
      · rintro ⟨t, u, q', a, s, e, rfl, p, l⟩
        exact ⟨p.app (.cons s (e ▸ .nil)), by rw [List.length_append, l]; rfl⟩
      · rintro ⟨p, l⟩
        obtain ⟨q', u, rfl⟩ : ∃ q' u, q = q' ++ [u] := by
          rcases List.eq_nil_or_concat q with e | ⟨q', u, e⟩
          · subst e; cases l
          · exact ⟨q', u, by rw [e, List.concat_eq_append]⟩
        obtain ⟨t, p1, p2⟩ := p.split
        cases p2 with
        | cons s p3 =>
          cases p3
          have l' : q'.length = k := by simpa using l
          have r := p1.reach .zero
          rw [Nat.zero_add, l'] at r
          exact ⟨t, u, q', hall t u (dist_pre hm s rfl r) s, s, rfl, rfl, p1, l'⟩
end
end K68
namespace K68
open PySem PySem.Spec PyProof.Rows L2 Mi
def Lvl (lvl : D) (L : List Nat) (ex : Mem) : Prop := lvl = .lst (L.map fun x : Nat => .int (x : Nat)) ∨ ∃ n, lvl = .ref (n + 2) ∧ ex[n]? = some ⟨false, .lst (L.map fun x : Nat => .int (x : Nat))⟩
theorem lvl_seq {lvl : D} {L : List Nat} {ex : Mem} (h : Lvl lvl L ex) : ∃ gd, (∀ a b c, seqOf (a :: b :: (ex ++ [c])) lvl = some (L.map fun x : Nat => D.int (x : Nat), gd)) ∧ ∀ a b c, gd (a :: b :: (ex ++ [c])) = true := by
  rcases h with rfl | ⟨n, rfl, h⟩
  · exact ⟨_, fun _ _ _ => rfl, fun _ _ _ => rfl⟩
  · have hn : n < ex.length := by
      rw [List.getElem?_eq_some_iff] at h
      exact h.1
    have e : ∀ a b c : Cell, (a :: b :: (ex ++ [c]))[n + 2]? = some ⟨false, .lst (L.map fun x : Nat => .int (x : Nat))⟩ := fun a b c => by
      show (ex ++ [c])[n]? = _
      rw [List.getElem?_append_left hn, h]
    refine ⟨sameL (L.map fun x : Nat => D.int (x : Nat)) (n + 2), fun a b c => ?_, fun a b c => ?_⟩
    · unfold seqOf
      simp only [e]
    · unfold sameL
      simp only [e]
      exact beqDs_refl _
def bdI (t k n : Nat) (don : List Nat) (m : Nat) : Nat := n * 16 ^ k + if don.any (fun u => decide (t ||| u = m ∧ t &&& u = 0)) then 16 ^ k else 0
def mf3 (t u : Nat) : Bool := !(decide (t &&& u = 0)) || decide (t ||| u = t + u)
theorem mf3_all : ((List.range 16).all fun t => (List.range 16).all fun u => mf3 t u) = true := by decide +kernel
theorem or_add (t : Nat) (ht : t < 16) (u : Nat) (hu : u < 16) (h : t &&& u = 0) : t ||| u = t + u := by
  have a := mf3_all
  rw [List.all_eq_true] at a
  have a := a t (List.mem_range.mpr ht)
  rw [List.all_eq_true] at a
  have a := a u (List.mem_range.mpr hu)
  unfold mf3 at a
  simpa [h] using a
theorem rows_run {H : Nat} {rooms : List Int} {needs : List (List Q4)} (ok : Ok H rooms needs) :
    CL F__law_rows [eInts rooms, eNeeds needs, .int (W H : Nat)] [] (fun d m => ∃ x : List (Nat × Nat) × List (Nat × List (List Nat)), (∃ L, BO H (fitN rooms needs) 6 L x.1 x.2) ∧ backN d m = some (.tup [dN x.1, dP x.2])) := by
  have hw := W_lt ok.h4
  have h4 := ok.h4
  have hrow : ∀ row ∈ needs, row.length ≤ 1000 := fun r hr => by rw [ok.row r hr]; omega
  refine (c_def (by rfl)).mpr ?_
  unfold b__law_rows
  simp only [↓Mi.w_ret, ↓Mi.w_var0, ↓Mi.w_varS, ↓Mi.w_bin, ↓Mi.w_nil, ↓Mi.w_cons, ↓Mi.w_tup, ↓Mi.w_lst, ↓Mi.w_mut, ↓Mi.w_call, ↓Mi.w_if, ↓Mi.w_and, ↓Mi.w_or, ↓Mi.w_not, ↓Mi.w_B, ↓Mi.asb_bl, ↓Mi.w_andV, ↓Mi.w_orV, ↓Mi.w_notV, ↓Mi.w_tru, ↓Mi.tru_int, ↓Mi.tru_bl, ↓Mi.tru_non, ↓Mi.tru_tup, ↓Mi.tru_lst, ↓Mi.w_neg, ↓Mi.ex_int, ↓Mi.g_xor, ↓Mi.g_lt, ↓Mi.g_le, ↓Mi.g_gt, ↓Mi.g_ge, ↓Mi.g_mul, ↓Mi.g_mod, ↓Mi.g_div, ↓Mi.g_pow, ↓Mi.g_shl, ↓Mi.g_shr, ↓Mi.g_catT, ↓Mi.g_catL, ↓Mi.g_eqi, ↓Mi.g_nei, ↓Mi.g_eqb, ↓Mi.g_neb, ↓Mi.g_eqs, ↓Mi.g_nes, ↓Mi.g_eqt, ↓Mi.g_net, ↓Mi.g_is, ↓Mi.g_isnot, ↓Mi.g_ix_i, ↓Mi.g_ix_t, ↓Mi.ixv_tup, ↓Mi.ixv_lst, ↓Mi.ixv_dK, ↓Mi.g_in, ↓Mi.g_nin, ↓Mi.w_part, ↓Mi.w_sl, ↓Mi.sl_tup, ↓Mi.sl_lst, ↓Mi.sl_scr, ↓Mi.w_rev, ↓Mi.ex_lst, ↓Mi.w_get2, ↓Mi.c_g1, ↓Mi.c_max2, ↓Mi.c_min2, ↓Mi.c_tuple, ↓Mi.dtuple_tup, ↓Mi.dtuple_lst, ↓Mi.dtuple_ref, ↓Mi.w_isi, ↓Mi.setl_0, ↓Mi.setl_s, ↓Mi.w_append, ↓Mi.app_ref, ↓Mi.t_name, ↓Mi.t_tup, ↓Mi.t_nil, ↓Mi.t_cons, ↓Mi.s_next, ↓Mi.s_break, ↓Mi.s_cont, ↓Mi.s_set, ↓Mi.s_ret, ↓Mi.s_retN, ↓Mi.s_expr, ↓Mi.s_if, ↓Mi.s_asg, ↓Mi.s_store, ↓Mi.s_seq, ↓Mi.k_nx, ↓Mi.k_rt, ↓Mi.k_bk, ↓Mi.k_ct, ↓Mi.sto_s, ↓Mi.sto_L, ↓Mi.s_for, ↓Mi.s_while, ↓Mi.r_rt, ↓Mi.r_nx, ↓Mi.tn_nx, ↓Mi.tn_ct, ↓Mi.tn_bk, ↓Mi.tn_rt, ↓Mi.w_seqI, ↓Mi.w_enumI, ↓Mi.w_zipI, ↓Mi.w_range1, ↓Mi.w_range2, ↓Mi.w_range3, ↓Mi.seq_tup, ↓Mi.seq_lst, ↓Mi.seq_ref, ↓Mi.w_lc, ↓Mi.w_yes, ↓Mi.w_chain, ↓Mi.isi_ii, ↓Mi.isi_bi, ↓Mi.isi_tt, ↓Mi.is_non_dK, ↓Mi.is_non_non, ↓Mi.is_blbl, ↓Mi.upd_0, ↓Mi.upd_s, ↓Mi.see_ref, ↓Mi.see_tup, ↓Mi.see_lst, ↓Mi.see_int, ↓Mi.see_str, ↓Mi.see_bl, ↓Mi.see_non, ↓Mi.see_dK, ↓Mi.see_dT, ↓Mi.see_scr, ↓Mi.cell_0, ↓Mi.cell_s, ↓Mi.push_0, ↓Mi.push_1, ↓Mi.push_2, ↓Mi.push_3, ↓Mi.push_4, ↓Mi.push_5, ↓Mi.opt_some, ↓Mi.it_true, ↓Mi.it_false, ↓Mi.it_dec, ↓Mi.it_not, ↓Mi.g_andN, ↓Mi.g_orN, ↓Mi.g_add1, ↓Mi.n_dget, ↓Mi.n_look, ↓Mi.n_in, ↓Mi.n_sto, ↓Mi.n_disp, ↓Mi.keyd_i, ↓Mi.c_minN, ↓Mi.g_eqgetN, ↓Mi.g_negetI, ↓Mi.in_tupN, ↓Mi.n_look0, Mi.wipeR, Mi.dlen_tup, Mi.dlen_lst, Mi.dint_int, Mi.dlist_lst, Mi.dlist_tup, Mi.isl_lst, Mi.isd_dK, Mi.atI_0, Mi.atI_1, Mi.atI_2, Mi.atI_3, Mi.atI_4, List.length_cons, List.length_nil, Nat.reduceAdd, Nat.reduceLeDiff, true_and, and_true, Mi.forget, List.set_cons_zero, List.set_cons_succ, List.map_cons, List.map_nil, List.cons_append, List.nil_append, List.replicate, Nat.reduceSub, Nat.le_refl]
  refine ⟨by decide, ?_⟩
  rw [show rangeL 0 (Int.toNat 6) = (List.range 6).map fun k : Nat => D.int (k : Nat) from range_nat 6]
  refine for_ok (fun (done : List Nat) ρ μ => ∃ L lv pt lvl ex, ρ = [some (eInts rooms), some (eNeeds needs), some (.int (W H : Nat)), some (.ref 0), some (.ref 1), some lvl, none, none, none, none, none, none] ∧ μ = ⟨false, dN lv⟩ :: ⟨false, dP pt⟩ :: ex ∧
    Lvl lvl L ex ∧ BO H (fitN rooms needs) done.length L lv pt) _ (fun _ _ _ _ => rfl) ?_ ?_ ⟨[0], [(0, 0)], [(0, [[]])], _, [], rfl, rfl, .inl rfl, .start⟩
  · rintro done k rest ρ μ e ⟨L, lv, pt, lvl, ex, rfl, rfl, hlvl, hB⟩
    obtain ⟨rfl, hk⟩ := range_split e
    rw [List.length_range] at hB
    obtain ⟨gd, hseq, hgd⟩ := lvl_seq hlvl
    simp only [↓Mi.w_ret, ↓Mi.w_var0, ↓Mi.w_varS, ↓Mi.w_bin, ↓Mi.w_nil, ↓Mi.w_cons, ↓Mi.w_tup, ↓Mi.w_lst, ↓Mi.w_mut, ↓Mi.w_call, ↓Mi.w_if, ↓Mi.w_and, ↓Mi.w_or, ↓Mi.w_not, ↓Mi.w_B, ↓Mi.asb_bl, ↓Mi.w_andV, ↓Mi.w_orV, ↓Mi.w_notV, ↓Mi.w_tru, ↓Mi.tru_int, ↓Mi.tru_bl, ↓Mi.tru_non, ↓Mi.tru_tup, ↓Mi.tru_lst, ↓Mi.w_neg, ↓Mi.ex_int, ↓Mi.g_xor, ↓Mi.g_lt, ↓Mi.g_le, ↓Mi.g_gt, ↓Mi.g_ge, ↓Mi.g_mul, ↓Mi.g_mod, ↓Mi.g_div, ↓Mi.g_pow, ↓Mi.g_shl, ↓Mi.g_shr, ↓Mi.g_catT, ↓Mi.g_catL, ↓Mi.g_eqi, ↓Mi.g_nei, ↓Mi.g_eqb, ↓Mi.g_neb, ↓Mi.g_eqs, ↓Mi.g_nes, ↓Mi.g_eqt, ↓Mi.g_net, ↓Mi.g_is, ↓Mi.g_isnot, ↓Mi.g_ix_i, ↓Mi.g_ix_t, ↓Mi.ixv_tup, ↓Mi.ixv_lst, ↓Mi.ixv_dK, ↓Mi.g_in, ↓Mi.g_nin, ↓Mi.w_part, ↓Mi.w_sl, ↓Mi.sl_tup, ↓Mi.sl_lst, ↓Mi.sl_scr, ↓Mi.w_rev, ↓Mi.ex_lst, ↓Mi.w_get2, ↓Mi.c_g1, ↓Mi.c_max2, ↓Mi.c_min2, ↓Mi.c_tuple, ↓Mi.dtuple_tup, ↓Mi.dtuple_lst, ↓Mi.dtuple_ref, ↓Mi.w_isi, ↓Mi.setl_0, ↓Mi.setl_s, ↓Mi.w_append, ↓Mi.app_ref, ↓Mi.t_name, ↓Mi.t_tup, ↓Mi.t_nil, ↓Mi.t_cons, ↓Mi.s_next, ↓Mi.s_break, ↓Mi.s_cont, ↓Mi.s_set, ↓Mi.s_ret, ↓Mi.s_retN, ↓Mi.s_expr, ↓Mi.s_if, ↓Mi.s_asg, ↓Mi.s_store, ↓Mi.s_seq, ↓Mi.k_nx, ↓Mi.k_rt, ↓Mi.k_bk, ↓Mi.k_ct, ↓Mi.sto_s, ↓Mi.sto_L, ↓Mi.s_for, ↓Mi.s_while, ↓Mi.r_rt, ↓Mi.r_nx, ↓Mi.tn_nx, ↓Mi.tn_ct, ↓Mi.tn_bk, ↓Mi.tn_rt, ↓Mi.w_seqI, ↓Mi.w_enumI, ↓Mi.w_zipI, ↓Mi.w_range1, ↓Mi.w_range2, ↓Mi.w_range3, ↓Mi.seq_tup, ↓Mi.seq_lst, ↓Mi.seq_ref, ↓Mi.w_lc, ↓Mi.w_yes, ↓Mi.w_chain, ↓Mi.isi_ii, ↓Mi.isi_bi, ↓Mi.isi_tt, ↓Mi.is_non_dK, ↓Mi.is_non_non, ↓Mi.is_blbl, ↓Mi.upd_0, ↓Mi.upd_s, ↓Mi.see_ref, ↓Mi.see_tup, ↓Mi.see_lst, ↓Mi.see_int, ↓Mi.see_str, ↓Mi.see_bl, ↓Mi.see_non, ↓Mi.see_dK, ↓Mi.see_dT, ↓Mi.see_scr, ↓Mi.cell_0, ↓Mi.cell_s, ↓Mi.push_0, ↓Mi.push_1, ↓Mi.push_2, ↓Mi.push_3, ↓Mi.push_4, ↓Mi.push_5, ↓Mi.opt_some, ↓Mi.it_true, ↓Mi.it_false, ↓Mi.it_dec, ↓Mi.it_not, ↓Mi.g_andN, ↓Mi.g_orN, ↓Mi.g_add1, ↓Mi.n_dget, ↓Mi.n_look, ↓Mi.n_in, ↓Mi.n_sto, ↓Mi.n_disp, ↓Mi.keyd_i, ↓Mi.c_minN, ↓Mi.g_eqgetN, ↓Mi.g_negetI, ↓Mi.in_tupN, ↓Mi.n_look0, Mi.wipeR, Mi.dlen_tup, Mi.dlen_lst, Mi.dint_int, Mi.dlist_lst, Mi.dlist_tup, Mi.isl_lst, Mi.isd_dK, Mi.atI_0, Mi.atI_1, Mi.atI_2, Mi.atI_3, Mi.atI_4, List.length_cons, List.length_nil, Nat.reduceAdd, Nat.reduceLeDiff, true_and, and_true, Mi.forget, List.set_cons_zero, List.set_cons_succ, List.map_cons, List.map_nil, List.cons_append, List.nil_append, List.replicate, Nat.reduceSub, Nat.le_refl, ↓push_ex2, ↓opt_eq (hseq _ _ _)]
    have hLlen : L.length ≤ 16 := nodup_lt 16 _ hB.ln fun x hx => by
      have := ((hB.la x).mp hx).le h4; omega
    refine for_ok (fun (done : List Nat) ρ μ => ∃ lv pt later, ρ = [some (eInts rooms), some (eNeeds needs), some (.int (W H : Nat)), some (.ref 0), some (.ref 1), some lvl, some (.int (k : Nat)), some (.ref (ex.length + 2)), none, none, none, none] ∧
      μ = ⟨false, dN lv⟩ :: ⟨false, dP pt⟩ :: (ex ++ [⟨false, .lst (later.map fun x : Nat => .int (x : Nat))⟩]) ∧
      BI H (fitN rooms needs) k L (fun x y => x ∈ done ∧ 1 ≤ y ∧ y ≤ W H) (fun _ => done.length * 16 ^ k) lv pt later) L (fun _ _ _ h => by obtain ⟨lv, pt, later, _, rfl, _⟩ := h; exact hgd _ _ _) ?_ ?_ ⟨lv, pt, [], rfl, rfl, ?_⟩
    · rintro done t rest' ρ μ e' ⟨lv, pt, later, rfl, rfl, hI⟩
      have htL : t ∈ L := by rw [e']; simp
      have htd := (hB.la t).mp htL
      have htw := (htd.le h4).1
      have htn : t ∉ done := fun hm => by
        have := hB.ln
        rw [e', List.nodup_append] at this
        exact this.2.2 t hm t List.mem_cons_self rfl
      have hdl : done.length + 1 ≤ 16 := by
        rw [e', List.length_append, List.length_cons] at hLlen
        omega
      simp only [↓Mi.w_ret, ↓Mi.w_var0, ↓Mi.w_varS, ↓Mi.w_bin, ↓Mi.w_nil, ↓Mi.w_cons, ↓Mi.w_tup, ↓Mi.w_lst, ↓Mi.w_mut, ↓Mi.w_call, ↓Mi.w_if, ↓Mi.w_and, ↓Mi.w_or, ↓Mi.w_not, ↓Mi.w_B, ↓Mi.asb_bl, ↓Mi.w_andV, ↓Mi.w_orV, ↓Mi.w_notV, ↓Mi.w_tru, ↓Mi.tru_int, ↓Mi.tru_bl, ↓Mi.tru_non, ↓Mi.tru_tup, ↓Mi.tru_lst, ↓Mi.w_neg, ↓Mi.ex_int, ↓Mi.g_xor, ↓Mi.g_lt, ↓Mi.g_le, ↓Mi.g_gt, ↓Mi.g_ge, ↓Mi.g_mul, ↓Mi.g_mod, ↓Mi.g_div, ↓Mi.g_pow, ↓Mi.g_shl, ↓Mi.g_shr, ↓Mi.g_catT, ↓Mi.g_catL, ↓Mi.g_eqi, ↓Mi.g_nei, ↓Mi.g_eqb, ↓Mi.g_neb, ↓Mi.g_eqs, ↓Mi.g_nes, ↓Mi.g_eqt, ↓Mi.g_net, ↓Mi.g_is, ↓Mi.g_isnot, ↓Mi.g_ix_i, ↓Mi.g_ix_t, ↓Mi.ixv_tup, ↓Mi.ixv_lst, ↓Mi.ixv_dK, ↓Mi.g_in, ↓Mi.g_nin, ↓Mi.w_part, ↓Mi.w_sl, ↓Mi.sl_tup, ↓Mi.sl_lst, ↓Mi.sl_scr, ↓Mi.w_rev, ↓Mi.ex_lst, ↓Mi.w_get2, ↓Mi.c_g1, ↓Mi.c_max2, ↓Mi.c_min2, ↓Mi.c_tuple, ↓Mi.dtuple_tup, ↓Mi.dtuple_lst, ↓Mi.dtuple_ref, ↓Mi.w_isi, ↓Mi.setl_0, ↓Mi.setl_s, ↓Mi.w_append, ↓Mi.app_ref, ↓Mi.t_name, ↓Mi.t_tup, ↓Mi.t_nil, ↓Mi.t_cons, ↓Mi.s_next, ↓Mi.s_break, ↓Mi.s_cont, ↓Mi.s_set, ↓Mi.s_ret, ↓Mi.s_retN, ↓Mi.s_expr, ↓Mi.s_if, ↓Mi.s_asg, ↓Mi.s_store, ↓Mi.s_seq, ↓Mi.k_nx, ↓Mi.k_rt, ↓Mi.k_bk, ↓Mi.k_ct, ↓Mi.sto_s, ↓Mi.sto_L, ↓Mi.s_for, ↓Mi.s_while, ↓Mi.r_rt, ↓Mi.r_nx, ↓Mi.tn_nx, ↓Mi.tn_ct, ↓Mi.tn_bk, ↓Mi.tn_rt, ↓Mi.w_seqI, ↓Mi.w_enumI, ↓Mi.w_zipI, ↓Mi.w_range1, ↓Mi.w_range2, ↓Mi.w_range3, ↓Mi.seq_tup, ↓Mi.seq_lst, ↓Mi.seq_ref, ↓Mi.w_lc, ↓Mi.w_yes, ↓Mi.w_chain, ↓Mi.isi_ii, ↓Mi.isi_bi, ↓Mi.isi_tt, ↓Mi.is_non_dK, ↓Mi.is_non_non, ↓Mi.is_blbl, ↓Mi.upd_0, ↓Mi.upd_s, ↓Mi.see_ref, ↓Mi.see_tup, ↓Mi.see_lst, ↓Mi.see_int, ↓Mi.see_str, ↓Mi.see_bl, ↓Mi.see_non, ↓Mi.see_dK, ↓Mi.see_dT, ↓Mi.see_scr, ↓Mi.cell_0, ↓Mi.cell_s, ↓Mi.push_0, ↓Mi.push_1, ↓Mi.push_2, ↓Mi.push_3, ↓Mi.push_4, ↓Mi.push_5, ↓Mi.opt_some, ↓Mi.it_true, ↓Mi.it_false, ↓Mi.it_dec, ↓Mi.it_not, ↓Mi.g_andN, ↓Mi.g_orN, ↓Mi.g_add1, ↓Mi.n_dget, ↓Mi.n_look, ↓Mi.n_in, ↓Mi.n_sto, ↓Mi.n_disp, ↓Mi.keyd_i, ↓Mi.c_minN, ↓Mi.g_eqgetN, ↓Mi.g_negetI, ↓Mi.in_tupN, ↓Mi.n_look0, Mi.wipeR, Mi.dlen_tup, Mi.dlen_lst, Mi.dint_int, Mi.dlist_lst, Mi.dlist_tup, Mi.isl_lst, Mi.isd_dK, Mi.atI_0, Mi.atI_1, Mi.atI_2, Mi.atI_3, Mi.atI_4, List.length_cons, List.length_nil, Nat.reduceAdd, Nat.reduceLeDiff, true_and, and_true, Mi.forget, List.set_cons_zero, List.set_cons_succ, List.map_cons, List.map_nil, List.cons_append, List.nil_append, List.replicate, Nat.reduceSub, Nat.le_refl]
      refine ⟨?_, ?_⟩
      · unfold okR
        rw [decide_eq_true (by omega), decide_eq_true (by omega), decide_eq_true (by omega), decide_eq_true (by omega)]; rfl
      rw [show rangeL 1 (((W H + 1 : Nat) : Int) - 1).toNat = ((List.range (W H)).map (· + 1)).map fun k : Nat => D.int (k : Nat) from by
        rw [show (((W H + 1 : Nat) : Int) - 1).toNat = W H from by omega]; exact rangeL_one _]
      refine for_ok (fun (don : List Nat) ρ μ => ∃ lv pt later, ρ = [some (eInts rooms), some (eNeeds needs), some (.int (W H : Nat)), some (.ref 0), some (.ref 1), some lvl, some (.int (k : Nat)), some (.ref (ex.length + 2)), some (.int (t : Nat)), none, none, none] ∧
        μ = ⟨false, dN lv⟩ :: ⟨false, dP pt⟩ :: (ex ++ [⟨false, .lst (later.map fun x : Nat => .int (x : Nat))⟩]) ∧
        BI H (fitN rooms needs) k L (fun x y => (x ∈ done ∧ 1 ≤ y ∧ y ≤ W H) ∨ (x = t ∧ y ∈ don)) (bdI t k done.length don) lv pt later) _ (fun _ _ _ _ => rfl) ?_ ?_ ⟨lv, pt, later, rfl, rfl, ?_⟩
      · rintro don u rest'' ρ μ e'' ⟨lv, pt, later, rfl, rfl, hI⟩
        have hu : 1 ≤ u ∧ u ≤ W H := by
          have : u ∈ (List.range (W H)).map (· + 1) := by rw [e'']; simp
          obtain ⟨x, hx, rfl⟩ := List.mem_map.mp this
          rw [List.mem_range] at hx
          omega
        have hun : u ∉ don := fun hm => by
          have : ((List.range (W H)).map (· + 1)).Pairwise (· ≠ ·) := by
            rw [List.pairwise_map]
            exact List.nodup_range.imp fun h => by omega
          rw [e'', List.pairwise_append] at this
          exact this.2.2 u hm u List.mem_cons_self rfl
        have hlens := hI.len h4
        simp only [↓Mi.w_ret, ↓Mi.w_var0, ↓Mi.w_varS, ↓Mi.w_bin, ↓Mi.w_nil, ↓Mi.w_cons, ↓Mi.w_tup, ↓Mi.w_lst, ↓Mi.w_mut, ↓Mi.w_call, ↓Mi.w_if, ↓Mi.w_and, ↓Mi.w_or, ↓Mi.w_not, ↓Mi.w_B, ↓Mi.asb_bl, ↓Mi.w_andV, ↓Mi.w_orV, ↓Mi.w_notV, ↓Mi.w_tru, ↓Mi.tru_int, ↓Mi.tru_bl, ↓Mi.tru_non, ↓Mi.tru_tup, ↓Mi.tru_lst, ↓Mi.w_neg, ↓Mi.ex_int, ↓Mi.g_xor, ↓Mi.g_lt, ↓Mi.g_le, ↓Mi.g_gt, ↓Mi.g_ge, ↓Mi.g_mul, ↓Mi.g_mod, ↓Mi.g_div, ↓Mi.g_pow, ↓Mi.g_shl, ↓Mi.g_shr, ↓Mi.g_catT, ↓Mi.g_catL, ↓Mi.g_eqi, ↓Mi.g_nei, ↓Mi.g_eqb, ↓Mi.g_neb, ↓Mi.g_eqs, ↓Mi.g_nes, ↓Mi.g_eqt, ↓Mi.g_net, ↓Mi.g_is, ↓Mi.g_isnot, ↓Mi.g_ix_i, ↓Mi.g_ix_t, ↓Mi.ixv_tup, ↓Mi.ixv_lst, ↓Mi.ixv_dK, ↓Mi.g_in, ↓Mi.g_nin, ↓Mi.w_part, ↓Mi.w_sl, ↓Mi.sl_tup, ↓Mi.sl_lst, ↓Mi.sl_scr, ↓Mi.w_rev, ↓Mi.ex_lst, ↓Mi.w_get2, ↓Mi.c_g1, ↓Mi.c_max2, ↓Mi.c_min2, ↓Mi.c_tuple, ↓Mi.dtuple_tup, ↓Mi.dtuple_lst, ↓Mi.dtuple_ref, ↓Mi.w_isi, ↓Mi.setl_0, ↓Mi.setl_s, ↓Mi.w_append, ↓Mi.app_ref, ↓Mi.t_name, ↓Mi.t_tup, ↓Mi.t_nil, ↓Mi.t_cons, ↓Mi.s_next, ↓Mi.s_break, ↓Mi.s_cont, ↓Mi.s_set, ↓Mi.s_ret, ↓Mi.s_retN, ↓Mi.s_expr, ↓Mi.s_if, ↓Mi.s_asg, ↓Mi.s_store, ↓Mi.s_seq, ↓Mi.k_nx, ↓Mi.k_rt, ↓Mi.k_bk, ↓Mi.k_ct, ↓Mi.sto_s, ↓Mi.sto_L, ↓Mi.s_for, ↓Mi.s_while, ↓Mi.r_rt, ↓Mi.r_nx, ↓Mi.tn_nx, ↓Mi.tn_ct, ↓Mi.tn_bk, ↓Mi.tn_rt, ↓Mi.w_seqI, ↓Mi.w_enumI, ↓Mi.w_zipI, ↓Mi.w_range1, ↓Mi.w_range2, ↓Mi.w_range3, ↓Mi.seq_tup, ↓Mi.seq_lst, ↓Mi.seq_ref, ↓Mi.w_lc, ↓Mi.w_yes, ↓Mi.w_chain, ↓Mi.isi_ii, ↓Mi.isi_bi, ↓Mi.isi_tt, ↓Mi.is_non_dK, ↓Mi.is_non_non, ↓Mi.is_blbl, ↓Mi.upd_0, ↓Mi.upd_s, ↓Mi.see_ref, ↓Mi.see_tup, ↓Mi.see_lst, ↓Mi.see_int, ↓Mi.see_str, ↓Mi.see_bl, ↓Mi.see_non, ↓Mi.see_dK, ↓Mi.see_dT, ↓Mi.see_scr, ↓Mi.cell_0, ↓Mi.cell_s, ↓Mi.push_0, ↓Mi.push_1, ↓Mi.push_2, ↓Mi.push_3, ↓Mi.push_4, ↓Mi.push_5, ↓Mi.opt_some, ↓Mi.it_true, ↓Mi.it_false, ↓Mi.it_dec, ↓Mi.it_not, ↓Mi.g_andN, ↓Mi.g_orN, ↓Mi.g_add1, ↓Mi.n_dget, ↓Mi.n_look, ↓Mi.n_in, ↓Mi.n_sto, ↓Mi.n_disp, ↓Mi.keyd_i, ↓Mi.c_minN, ↓Mi.g_eqgetN, ↓Mi.g_negetI, ↓Mi.in_tupN, ↓Mi.n_look0, Mi.wipeR, Mi.dlen_tup, Mi.dlen_lst, Mi.dint_int, Mi.dlist_lst, Mi.dlist_tup, Mi.isl_lst, Mi.isd_dK, Mi.atI_0, Mi.atI_1, Mi.atI_2, Mi.atI_3, Mi.atI_4, List.length_cons, List.length_nil, Nat.reduceAdd, Nat.reduceLeDiff, true_and, and_true, Mi.forget, List.set_cons_zero, List.set_cons_succ, List.map_cons, List.map_nil, List.cons_append, List.nil_append, List.replicate, Nat.reduceSub, Nat.le_refl, ↓call_lfits rooms needs _ _ ok.len ok.l3 hrow]
        have skip : (Stp H (fitN rooms needs) t u → Dist H (fitN rooms needs) (t ||| u) (k + 1) → False) → BI H (fitN rooms needs) k L (fun x y => (x ∈ done ∧ 1 ≤ y ∧ y ≤ W H) ∨ (x = t ∧ y ∈ don ++ [u])) (bdI t k done.length (don ++ [u])) lv pt later := fun hno =>
          hI.skip (fun x y h => h.imp id fun h => ⟨h.1, List.mem_append_left _ h.2⟩) (fun x y h s hd => by
            rcases h with h | ⟨rfl, h⟩
            · exact .inl h
            · rcases List.mem_append.mp h with h | h
              · exact .inr ⟨rfl, h⟩
              · simp at h; subst h; exact (hno s hd).elim) fun m => by
            unfold bdI
            rw [List.any_append]
            cases don.any fun u => decide (t ||| u = m ∧ t &&& u = 0) <;> simp
        have cz : ((t &&& u : Nat) : Int) = 0 ↔ t &&& u = 0 := by omega
        refine ⟨fun h1 => ?_, fun h1 => ⟨lv, pt, later, rfl, skip fun s _ => h1 (cz.mpr (s.facts h4).2.2.2.1)⟩⟩
        cases hf : fitB rooms needs t u with
        | false =>
          simp only [↓it_false]
          exact ⟨lv, pt, later, rfl, skip fun s _ => by have := s.fit; rw [show fitN rooms needs t u = false from hf] at this; cases this⟩
        | true =>
          simp only [↓it_true]
          have s : Stp H (fitN rooms needs) t u := ⟨htw, mask_back H (by omega) t (by omega) u (by omega) htw hu.2 hu.1 (cz.mp h1), hf⟩
          obtain ⟨f1, f2, f3, f4, f5, f6⟩ := s.facts h4
          obtain ⟨pt0, hpt0, hpl, hptq⟩ := hI.old t k htd (Nat.le_refl _)
          rcases dist_step htd s with ⟨d, hdk, hd⟩ | hd
          · have hg : kget lv (t ||| u) = some d := (hI.lv _ _).mpr (.inl ⟨hd, hdk⟩)
            simp only [↓it_b (show (kget lv (t ||| u)).isSome = true from by rw [hg]; rfl), ↓opt_eq hg]
            exact ⟨fun h => by omega, fun _ => ⟨lv, pt, later, rfl, skip fun _ hd' => by have := hd.inj hd'; omega⟩⟩
          · have hk3 := (hd.le h4).2
            have hpow : 16 ^ k ≤ 4096 := by
              have : 16 ^ k ≤ 16 ^ 3 := Nat.pow_le_pow_right (by omega) (by omega)
              omega
            have hany : (don.any fun v => decide (t ||| v = t ||| u ∧ t &&& v = 0)) = false := by
              rw [List.any_eq_false]
              intro v hv h
              rw [decide_eq_true_eq] at h
              have hv2 : v ≤ W H := by
                have : v ∈ (List.range (W H)).map (· + 1) := by rw [e'']; simp [hv]
                obtain ⟨x, hx, rfl⟩ := List.mem_map.mp this
                rw [List.mem_range] at hx
                omega
              have a1 := or_add t (by omega) v (by omega) h.2
              have a2 := or_add t (by omega) u (by omega) f4
              have : v = u := by omega
              exact hun (this ▸ hv)
            have hbd : bdI t k done.length (don ++ [u]) (t ||| u) = done.length * 16 ^ k + 16 ^ k := by
              unfold bdI
              rw [List.any_append, hany]
              simp [f4]
            have hbd0 : bdI t k done.length don (t ||| u) = done.length * 16 ^ k := by
              unfold bdI
              rw [hany]
              simp
            have hmono : ∀ m, bdI t k done.length don m ≤ bdI t k done.length (don ++ [u]) m := fun m => by
              unfold bdI
              rw [List.any_append]
              cases don.any fun u => decide (t ||| u = m ∧ t &&& u = 0) <;> simp
            have hdp : done.length * 16 ^ k ≤ 15 * 4096 := Nat.mul_le_mul (by omega) hpow
            have hPr : ∀ x y, ((x ∈ done ∧ 1 ≤ y ∧ y ≤ W H) ∨ (x = t ∧ y ∈ don ++ [u])) ↔ ((x ∈ done ∧ 1 ≤ y ∧ y ≤ W H) ∨ (x = t ∧ y ∈ don)) ∨ (x = t ∧ y = u) := fun x y => by
              rw [List.mem_append, List.mem_singleton, and_or_left, or_assoc]
            have lcstep : ∀ (M : Mem) (q : List Nat), q ∈ pt0 → WG (fgName 11) (eT q) [some (eInts rooms), some (eNeeds needs), some (D.int (W H : Nat)), some (D.ref 0), some (D.ref 1), some lvl, some (D.int (k : Nat)), some (D.ref (ex.length + 2)), some (D.int (t : Nat)), some (D.int (u : Nat)), some (D.int (t ||| u : Nat)), none] M
                fun ρ1 μ1 => WE (fBin gPlus (fVar 11) (fTup (fCons (fVar 9) fNil))) ρ1 μ1 fun y μ3 => y = eT (q ++ [u]) ∧ μ3 = M := fun M q hq => by
              have hql := ((hptq q).mp hq).2
              unfold eT
              simp only [↓Mi.w_ret, ↓Mi.w_var0, ↓Mi.w_varS, ↓Mi.w_bin, ↓Mi.w_nil, ↓Mi.w_cons, ↓Mi.w_tup, ↓Mi.w_lst, ↓Mi.w_mut, ↓Mi.w_call, ↓Mi.w_if, ↓Mi.w_and, ↓Mi.w_or, ↓Mi.w_not, ↓Mi.w_B, ↓Mi.asb_bl, ↓Mi.w_andV, ↓Mi.w_orV, ↓Mi.w_notV, ↓Mi.w_tru, ↓Mi.tru_int, ↓Mi.tru_bl, ↓Mi.tru_non, ↓Mi.tru_tup, ↓Mi.tru_lst, ↓Mi.w_neg, ↓Mi.ex_int, ↓Mi.g_xor, ↓Mi.g_lt, ↓Mi.g_le, ↓Mi.g_gt, ↓Mi.g_ge, ↓Mi.g_mul, ↓Mi.g_mod, ↓Mi.g_div, ↓Mi.g_pow, ↓Mi.g_shl, ↓Mi.g_shr, ↓Mi.g_catT, ↓Mi.g_catL, ↓Mi.g_eqi, ↓Mi.g_nei, ↓Mi.g_eqb, ↓Mi.g_neb, ↓Mi.g_eqs, ↓Mi.g_nes, ↓Mi.g_eqt, ↓Mi.g_net, ↓Mi.g_is, ↓Mi.g_isnot, ↓Mi.g_ix_i, ↓Mi.g_ix_t, ↓Mi.ixv_tup, ↓Mi.ixv_lst, ↓Mi.ixv_dK, ↓Mi.g_in, ↓Mi.g_nin, ↓Mi.w_part, ↓Mi.w_sl, ↓Mi.sl_tup, ↓Mi.sl_lst, ↓Mi.sl_scr, ↓Mi.w_rev, ↓Mi.ex_lst, ↓Mi.w_get2, ↓Mi.c_g1, ↓Mi.c_max2, ↓Mi.c_min2, ↓Mi.c_tuple, ↓Mi.dtuple_tup, ↓Mi.dtuple_lst, ↓Mi.dtuple_ref, ↓Mi.w_isi, ↓Mi.setl_0, ↓Mi.setl_s, ↓Mi.w_append, ↓Mi.app_ref, ↓Mi.t_name, ↓Mi.t_tup, ↓Mi.t_nil, ↓Mi.t_cons, ↓Mi.s_next, ↓Mi.s_break, ↓Mi.s_cont, ↓Mi.s_set, ↓Mi.s_ret, ↓Mi.s_retN, ↓Mi.s_expr, ↓Mi.s_if, ↓Mi.s_asg, ↓Mi.s_store, ↓Mi.s_seq, ↓Mi.k_nx, ↓Mi.k_rt, ↓Mi.k_bk, ↓Mi.k_ct, ↓Mi.sto_s, ↓Mi.sto_L, ↓Mi.s_for, ↓Mi.s_while, ↓Mi.r_rt, ↓Mi.r_nx, ↓Mi.tn_nx, ↓Mi.tn_ct, ↓Mi.tn_bk, ↓Mi.tn_rt, ↓Mi.w_seqI, ↓Mi.w_enumI, ↓Mi.w_zipI, ↓Mi.w_range1, ↓Mi.w_range2, ↓Mi.w_range3, ↓Mi.seq_tup, ↓Mi.seq_lst, ↓Mi.seq_ref, ↓Mi.w_lc, ↓Mi.w_yes, ↓Mi.w_chain, ↓Mi.isi_ii, ↓Mi.isi_bi, ↓Mi.isi_tt, ↓Mi.is_non_dK, ↓Mi.is_non_non, ↓Mi.is_blbl, ↓Mi.upd_0, ↓Mi.upd_s, ↓Mi.see_ref, ↓Mi.see_tup, ↓Mi.see_lst, ↓Mi.see_int, ↓Mi.see_str, ↓Mi.see_bl, ↓Mi.see_non, ↓Mi.see_dK, ↓Mi.see_dT, ↓Mi.see_scr, ↓Mi.cell_0, ↓Mi.cell_s, ↓Mi.push_0, ↓Mi.push_1, ↓Mi.push_2, ↓Mi.push_3, ↓Mi.push_4, ↓Mi.push_5, ↓Mi.opt_some, ↓Mi.it_true, ↓Mi.it_false, ↓Mi.it_dec, ↓Mi.it_not, ↓Mi.g_andN, ↓Mi.g_orN, ↓Mi.g_add1, ↓Mi.n_dget, ↓Mi.n_look, ↓Mi.n_in, ↓Mi.n_sto, ↓Mi.n_disp, ↓Mi.keyd_i, ↓Mi.c_minN, ↓Mi.g_eqgetN, ↓Mi.g_negetI, ↓Mi.in_tupN, ↓Mi.n_look0, Mi.wipeR, Mi.dlen_tup, Mi.dlen_lst, Mi.dint_int, Mi.dlist_lst, Mi.dlist_tup, Mi.isl_lst, Mi.isd_dK, Mi.atI_0, Mi.atI_1, Mi.atI_2, Mi.atI_3, Mi.atI_4, List.length_cons, List.length_nil, Nat.reduceAdd, Nat.reduceLeDiff, true_and, and_true, Mi.forget, List.set_cons_zero, List.set_cons_succ, List.map_cons, List.map_nil, List.cons_append, List.nil_append, List.replicate, Nat.reduceSub, Nat.le_refl, List.length_map]
              refine ⟨by omega, ?_⟩
              simp
            have emap : pt0.map (fun q => eT (q ++ [u])) = (pt0.map (· ++ [u])).map eT := by rw [List.map_map]; rfl
            cases hg : kget lv (t ||| u) with
            | some d =>
              have hd1 : d = k + 1 ∧ (t ||| u) ∈ later := by
                rcases (hI.lv _ _).mp hg with h | h
                · have := h.1.inj hd; omega
                · exact ⟨h.1, (hI.la _).mpr ⟨hd, h.2.2⟩⟩
              obtain ⟨rfl, hml⟩ := hd1
              obtain ⟨old, hold, hol, _⟩ := hI.new _ hml
              simp only [Option.isSome_some, ↓it_true, ↓opt_some, ↓p_dget, ↓opt_eq hold, ↓opt_eq hpt0, ↓Mi.w_ret, ↓Mi.w_var0, ↓Mi.w_varS, ↓Mi.w_bin, ↓Mi.w_nil, ↓Mi.w_cons, ↓Mi.w_tup, ↓Mi.w_lst, ↓Mi.w_mut, ↓Mi.w_call, ↓Mi.w_if, ↓Mi.w_and, ↓Mi.w_or, ↓Mi.w_not, ↓Mi.w_B, ↓Mi.asb_bl, ↓Mi.w_andV, ↓Mi.w_orV, ↓Mi.w_notV, ↓Mi.w_tru, ↓Mi.tru_int, ↓Mi.tru_bl, ↓Mi.tru_non, ↓Mi.tru_tup, ↓Mi.tru_lst, ↓Mi.w_neg, ↓Mi.ex_int, ↓Mi.g_xor, ↓Mi.g_lt, ↓Mi.g_le, ↓Mi.g_gt, ↓Mi.g_ge, ↓Mi.g_mul, ↓Mi.g_mod, ↓Mi.g_div, ↓Mi.g_pow, ↓Mi.g_shl, ↓Mi.g_shr, ↓Mi.g_catT, ↓Mi.g_catL, ↓Mi.g_eqi, ↓Mi.g_nei, ↓Mi.g_eqb, ↓Mi.g_neb, ↓Mi.g_eqs, ↓Mi.g_nes, ↓Mi.g_eqt, ↓Mi.g_net, ↓Mi.g_is, ↓Mi.g_isnot, ↓Mi.g_ix_i, ↓Mi.g_ix_t, ↓Mi.ixv_tup, ↓Mi.ixv_lst, ↓Mi.ixv_dK, ↓Mi.g_in, ↓Mi.g_nin, ↓Mi.w_part, ↓Mi.w_sl, ↓Mi.sl_tup, ↓Mi.sl_lst, ↓Mi.sl_scr, ↓Mi.w_rev, ↓Mi.ex_lst, ↓Mi.w_get2, ↓Mi.c_g1, ↓Mi.c_max2, ↓Mi.c_min2, ↓Mi.c_tuple, ↓Mi.dtuple_tup, ↓Mi.dtuple_lst, ↓Mi.dtuple_ref, ↓Mi.w_isi, ↓Mi.setl_0, ↓Mi.setl_s, ↓Mi.w_append, ↓Mi.app_ref, ↓Mi.t_name, ↓Mi.t_tup, ↓Mi.t_nil, ↓Mi.t_cons, ↓Mi.s_next, ↓Mi.s_break, ↓Mi.s_cont, ↓Mi.s_set, ↓Mi.s_ret, ↓Mi.s_retN, ↓Mi.s_expr, ↓Mi.s_if, ↓Mi.s_asg, ↓Mi.s_store, ↓Mi.s_seq, ↓Mi.k_nx, ↓Mi.k_rt, ↓Mi.k_bk, ↓Mi.k_ct, ↓Mi.sto_s, ↓Mi.sto_L, ↓Mi.s_for, ↓Mi.s_while, ↓Mi.r_rt, ↓Mi.r_nx, ↓Mi.tn_nx, ↓Mi.tn_ct, ↓Mi.tn_bk, ↓Mi.tn_rt, ↓Mi.w_seqI, ↓Mi.w_enumI, ↓Mi.w_zipI, ↓Mi.w_range1, ↓Mi.w_range2, ↓Mi.w_range3, ↓Mi.seq_tup, ↓Mi.seq_lst, ↓Mi.seq_ref, ↓Mi.w_lc, ↓Mi.w_yes, ↓Mi.w_chain, ↓Mi.isi_ii, ↓Mi.isi_bi, ↓Mi.isi_tt, ↓Mi.is_non_dK, ↓Mi.is_non_non, ↓Mi.is_blbl, ↓Mi.upd_0, ↓Mi.upd_s, ↓Mi.see_ref, ↓Mi.see_tup, ↓Mi.see_lst, ↓Mi.see_int, ↓Mi.see_str, ↓Mi.see_bl, ↓Mi.see_non, ↓Mi.see_dK, ↓Mi.see_dT, ↓Mi.see_scr, ↓Mi.cell_0, ↓Mi.cell_s, ↓Mi.push_0, ↓Mi.push_1, ↓Mi.push_2, ↓Mi.push_3, ↓Mi.push_4, ↓Mi.push_5, ↓Mi.opt_some, ↓Mi.it_true, ↓Mi.it_false, ↓Mi.it_dec, ↓Mi.it_not, ↓Mi.g_andN, ↓Mi.g_orN, ↓Mi.g_add1, ↓Mi.n_dget, ↓Mi.n_look, ↓Mi.n_in, ↓Mi.n_sto, ↓Mi.n_disp, ↓Mi.keyd_i, ↓Mi.c_minN, ↓Mi.g_eqgetN, ↓Mi.g_negetI, ↓Mi.in_tupN, ↓Mi.n_look0, Mi.wipeR, Mi.dlen_tup, Mi.dlen_lst, Mi.dint_int, Mi.dlist_lst, Mi.dlist_tup, Mi.isl_lst, Mi.isd_dK, Mi.atI_0, Mi.atI_1, Mi.atI_2, Mi.atI_3, Mi.atI_4, List.length_cons, List.length_nil, Nat.reduceAdd, Nat.reduceLeDiff, true_and, and_true, Mi.forget, List.set_cons_zero, List.set_cons_succ, List.map_cons, List.map_nil, List.cons_append, List.nil_append, List.replicate, Nat.reduceSub, Nat.le_refl, List.length_map]
              refine ⟨fun _ => ⟨by omega, ?_⟩, fun h => absurd trivial h⟩
              refine lc_map rfl (lcstep _) ?_
              rw [emap]
              simp only [↓Mi.w_ret, ↓Mi.w_var0, ↓Mi.w_varS, ↓Mi.w_bin, ↓Mi.w_nil, ↓Mi.w_cons, ↓Mi.w_tup, ↓Mi.w_lst, ↓Mi.w_mut, ↓Mi.w_call, ↓Mi.w_if, ↓Mi.w_and, ↓Mi.w_or, ↓Mi.w_not, ↓Mi.w_B, ↓Mi.asb_bl, ↓Mi.w_andV, ↓Mi.w_orV, ↓Mi.w_notV, ↓Mi.w_tru, ↓Mi.tru_int, ↓Mi.tru_bl, ↓Mi.tru_non, ↓Mi.tru_tup, ↓Mi.tru_lst, ↓Mi.w_neg, ↓Mi.ex_int, ↓Mi.g_xor, ↓Mi.g_lt, ↓Mi.g_le, ↓Mi.g_gt, ↓Mi.g_ge, ↓Mi.g_mul, ↓Mi.g_mod, ↓Mi.g_div, ↓Mi.g_pow, ↓Mi.g_shl, ↓Mi.g_shr, ↓Mi.g_catT, ↓Mi.g_catL, ↓Mi.g_eqi, ↓Mi.g_nei, ↓Mi.g_eqb, ↓Mi.g_neb, ↓Mi.g_eqs, ↓Mi.g_nes, ↓Mi.g_eqt, ↓Mi.g_net, ↓Mi.g_is, ↓Mi.g_isnot, ↓Mi.g_ix_i, ↓Mi.g_ix_t, ↓Mi.ixv_tup, ↓Mi.ixv_lst, ↓Mi.ixv_dK, ↓Mi.g_in, ↓Mi.g_nin, ↓Mi.w_part, ↓Mi.w_sl, ↓Mi.sl_tup, ↓Mi.sl_lst, ↓Mi.sl_scr, ↓Mi.w_rev, ↓Mi.ex_lst, ↓Mi.w_get2, ↓Mi.c_g1, ↓Mi.c_max2, ↓Mi.c_min2, ↓Mi.c_tuple, ↓Mi.dtuple_tup, ↓Mi.dtuple_lst, ↓Mi.dtuple_ref, ↓Mi.w_isi, ↓Mi.setl_0, ↓Mi.setl_s, ↓Mi.w_append, ↓Mi.app_ref, ↓Mi.t_name, ↓Mi.t_tup, ↓Mi.t_nil, ↓Mi.t_cons, ↓Mi.s_next, ↓Mi.s_break, ↓Mi.s_cont, ↓Mi.s_set, ↓Mi.s_ret, ↓Mi.s_retN, ↓Mi.s_expr, ↓Mi.s_if, ↓Mi.s_asg, ↓Mi.s_store, ↓Mi.s_seq, ↓Mi.k_nx, ↓Mi.k_rt, ↓Mi.k_bk, ↓Mi.k_ct, ↓Mi.sto_s, ↓Mi.sto_L, ↓Mi.s_for, ↓Mi.s_while, ↓Mi.r_rt, ↓Mi.r_nx, ↓Mi.tn_nx, ↓Mi.tn_ct, ↓Mi.tn_bk, ↓Mi.tn_rt, ↓Mi.w_seqI, ↓Mi.w_enumI, ↓Mi.w_zipI, ↓Mi.w_range1, ↓Mi.w_range2, ↓Mi.w_range3, ↓Mi.seq_tup, ↓Mi.seq_lst, ↓Mi.seq_ref, ↓Mi.w_lc, ↓Mi.w_yes, ↓Mi.w_chain, ↓Mi.isi_ii, ↓Mi.isi_bi, ↓Mi.isi_tt, ↓Mi.is_non_dK, ↓Mi.is_non_non, ↓Mi.is_blbl, ↓Mi.upd_0, ↓Mi.upd_s, ↓Mi.see_ref, ↓Mi.see_tup, ↓Mi.see_lst, ↓Mi.see_int, ↓Mi.see_str, ↓Mi.see_bl, ↓Mi.see_non, ↓Mi.see_dK, ↓Mi.see_dT, ↓Mi.see_scr, ↓Mi.cell_0, ↓Mi.cell_s, ↓Mi.push_0, ↓Mi.push_1, ↓Mi.push_2, ↓Mi.push_3, ↓Mi.push_4, ↓Mi.push_5, ↓Mi.opt_some, ↓Mi.it_true, ↓Mi.it_false, ↓Mi.it_dec, ↓Mi.it_not, ↓Mi.g_andN, ↓Mi.g_orN, ↓Mi.g_add1, ↓Mi.n_dget, ↓Mi.n_look, ↓Mi.n_in, ↓Mi.n_sto, ↓Mi.n_disp, ↓Mi.keyd_i, ↓Mi.c_minN, ↓Mi.g_eqgetN, ↓Mi.g_negetI, ↓Mi.in_tupN, ↓Mi.n_look0, Mi.wipeR, Mi.dlen_tup, Mi.dlen_lst, Mi.dint_int, Mi.dlist_lst, Mi.dlist_tup, Mi.isl_lst, Mi.isd_dK, Mi.atI_0, Mi.atI_1, Mi.atI_2, Mi.atI_3, Mi.atI_4, List.length_cons, List.length_nil, Nat.reduceAdd, Nat.reduceLeDiff, true_and, and_true, Mi.forget, List.set_cons_zero, List.set_cons_succ, List.map_cons, List.map_nil, List.cons_append, List.nil_append, List.replicate, Nat.reduceSub, Nat.le_refl, ↓p_sto2, List.length_map]
              refine ⟨by rw [hbd0] at hol; omega, by omega, lv, _, later, rfl, ?_⟩
              refine hI.step s hd hpt0 htd hPr (fun m _ => hmono m) (.inr ⟨hml, rfl, rfl, hold⟩) ?_
              rw [hbd]; rw [hbd0] at hol; omega
            | none =>
              have h1' : kget (kput lv (t ||| u) (k + 1)) (t ||| u) = some (k + 1) := by rw [kget_put, if_pos rfl]
              have h2' : kget (kput pt (t ||| u) []) (t ||| u) = some [] := by rw [kget_put, if_pos rfl]
              have h3' : kget (kput pt (t ||| u) []) t = some pt0 := by rw [kget_put, if_neg (by omega)]; exact hpt0
              have hkl : (kput pt (t ||| u) []).length ≤ 17 := by
                unfold kput
                split
                · have := congrArg List.length (krep_keys pt (t ||| u) [])
                  simp only [List.length_map] at this
                  omega
                · simp; omega
              simp only [Option.isSome_none, ↓it_false, ↓Mi.w_ret, ↓Mi.w_var0, ↓Mi.w_varS, ↓Mi.w_bin, ↓Mi.w_nil, ↓Mi.w_cons, ↓Mi.w_tup, ↓Mi.w_lst, ↓Mi.w_mut, ↓Mi.w_call, ↓Mi.w_if, ↓Mi.w_and, ↓Mi.w_or, ↓Mi.w_not, ↓Mi.w_B, ↓Mi.asb_bl, ↓Mi.w_andV, ↓Mi.w_orV, ↓Mi.w_notV, ↓Mi.w_tru, ↓Mi.tru_int, ↓Mi.tru_bl, ↓Mi.tru_non, ↓Mi.tru_tup, ↓Mi.tru_lst, ↓Mi.w_neg, ↓Mi.ex_int, ↓Mi.g_xor, ↓Mi.g_lt, ↓Mi.g_le, ↓Mi.g_gt, ↓Mi.g_ge, ↓Mi.g_mul, ↓Mi.g_mod, ↓Mi.g_div, ↓Mi.g_pow, ↓Mi.g_shl, ↓Mi.g_shr, ↓Mi.g_catT, ↓Mi.g_catL, ↓Mi.g_eqi, ↓Mi.g_nei, ↓Mi.g_eqb, ↓Mi.g_neb, ↓Mi.g_eqs, ↓Mi.g_nes, ↓Mi.g_eqt, ↓Mi.g_net, ↓Mi.g_is, ↓Mi.g_isnot, ↓Mi.g_ix_i, ↓Mi.g_ix_t, ↓Mi.ixv_tup, ↓Mi.ixv_lst, ↓Mi.ixv_dK, ↓Mi.g_in, ↓Mi.g_nin, ↓Mi.w_part, ↓Mi.w_sl, ↓Mi.sl_tup, ↓Mi.sl_lst, ↓Mi.sl_scr, ↓Mi.w_rev, ↓Mi.ex_lst, ↓Mi.w_get2, ↓Mi.c_g1, ↓Mi.c_max2, ↓Mi.c_min2, ↓Mi.c_tuple, ↓Mi.dtuple_tup, ↓Mi.dtuple_lst, ↓Mi.dtuple_ref, ↓Mi.w_isi, ↓Mi.setl_0, ↓Mi.setl_s, ↓Mi.w_append, ↓Mi.app_ref, ↓Mi.t_name, ↓Mi.t_tup, ↓Mi.t_nil, ↓Mi.t_cons, ↓Mi.s_next, ↓Mi.s_break, ↓Mi.s_cont, ↓Mi.s_set, ↓Mi.s_ret, ↓Mi.s_retN, ↓Mi.s_expr, ↓Mi.s_if, ↓Mi.s_asg, ↓Mi.s_store, ↓Mi.s_seq, ↓Mi.k_nx, ↓Mi.k_rt, ↓Mi.k_bk, ↓Mi.k_ct, ↓Mi.sto_s, ↓Mi.sto_L, ↓Mi.s_for, ↓Mi.s_while, ↓Mi.r_rt, ↓Mi.r_nx, ↓Mi.tn_nx, ↓Mi.tn_ct, ↓Mi.tn_bk, ↓Mi.tn_rt, ↓Mi.w_seqI, ↓Mi.w_enumI, ↓Mi.w_zipI, ↓Mi.w_range1, ↓Mi.w_range2, ↓Mi.w_range3, ↓Mi.seq_tup, ↓Mi.seq_lst, ↓Mi.seq_ref, ↓Mi.w_lc, ↓Mi.w_yes, ↓Mi.w_chain, ↓Mi.isi_ii, ↓Mi.isi_bi, ↓Mi.isi_tt, ↓Mi.is_non_dK, ↓Mi.is_non_non, ↓Mi.is_blbl, ↓Mi.upd_0, ↓Mi.upd_s, ↓Mi.see_ref, ↓Mi.see_tup, ↓Mi.see_lst, ↓Mi.see_int, ↓Mi.see_str, ↓Mi.see_bl, ↓Mi.see_non, ↓Mi.see_dK, ↓Mi.see_dT, ↓Mi.see_scr, ↓Mi.cell_0, ↓Mi.cell_s, ↓Mi.push_0, ↓Mi.push_1, ↓Mi.push_2, ↓Mi.push_3, ↓Mi.push_4, ↓Mi.push_5, ↓Mi.opt_some, ↓Mi.it_true, ↓Mi.it_false, ↓Mi.it_dec, ↓Mi.it_not, ↓Mi.g_andN, ↓Mi.g_orN, ↓Mi.g_add1, ↓Mi.n_dget, ↓Mi.n_look, ↓Mi.n_in, ↓Mi.n_sto, ↓Mi.n_disp, ↓Mi.keyd_i, ↓Mi.c_minN, ↓Mi.g_eqgetN, ↓Mi.g_negetI, ↓Mi.in_tupN, ↓Mi.n_look0, Mi.wipeR, Mi.dlen_tup, Mi.dlen_lst, Mi.dint_int, Mi.dlist_lst, Mi.dlist_tup, Mi.isl_lst, Mi.isd_dK, Mi.atI_0, Mi.atI_1, Mi.atI_2, Mi.atI_3, Mi.atI_4, List.length_cons, List.length_nil, Nat.reduceAdd, Nat.reduceLeDiff, true_and, and_true, Mi.forget, List.set_cons_zero, List.set_cons_succ, List.map_cons, List.map_nil, List.cons_append, List.nil_append, List.replicate, Nat.reduceSub, Nat.le_refl, ↓p_sto0, ↓cell_end, ↓setl_end, ↓opt_eq h1', ↓p_dget, ↓opt_eq h2', ↓opt_eq h3', List.length_map]
              refine ⟨by omega, by omega, by omega, fun _ => ⟨by omega, ?_⟩, fun h => absurd trivial h⟩
              refine lc_map rfl (lcstep _) ?_
              rw [emap]
              simp only [↓Mi.w_ret, ↓Mi.w_var0, ↓Mi.w_varS, ↓Mi.w_bin, ↓Mi.w_nil, ↓Mi.w_cons, ↓Mi.w_tup, ↓Mi.w_lst, ↓Mi.w_mut, ↓Mi.w_call, ↓Mi.w_if, ↓Mi.w_and, ↓Mi.w_or, ↓Mi.w_not, ↓Mi.w_B, ↓Mi.asb_bl, ↓Mi.w_andV, ↓Mi.w_orV, ↓Mi.w_notV, ↓Mi.w_tru, ↓Mi.tru_int, ↓Mi.tru_bl, ↓Mi.tru_non, ↓Mi.tru_tup, ↓Mi.tru_lst, ↓Mi.w_neg, ↓Mi.ex_int, ↓Mi.g_xor, ↓Mi.g_lt, ↓Mi.g_le, ↓Mi.g_gt, ↓Mi.g_ge, ↓Mi.g_mul, ↓Mi.g_mod, ↓Mi.g_div, ↓Mi.g_pow, ↓Mi.g_shl, ↓Mi.g_shr, ↓Mi.g_catT, ↓Mi.g_catL, ↓Mi.g_eqi, ↓Mi.g_nei, ↓Mi.g_eqb, ↓Mi.g_neb, ↓Mi.g_eqs, ↓Mi.g_nes, ↓Mi.g_eqt, ↓Mi.g_net, ↓Mi.g_is, ↓Mi.g_isnot, ↓Mi.g_ix_i, ↓Mi.g_ix_t, ↓Mi.ixv_tup, ↓Mi.ixv_lst, ↓Mi.ixv_dK, ↓Mi.g_in, ↓Mi.g_nin, ↓Mi.w_part, ↓Mi.w_sl, ↓Mi.sl_tup, ↓Mi.sl_lst, ↓Mi.sl_scr, ↓Mi.w_rev, ↓Mi.ex_lst, ↓Mi.w_get2, ↓Mi.c_g1, ↓Mi.c_max2, ↓Mi.c_min2, ↓Mi.c_tuple, ↓Mi.dtuple_tup, ↓Mi.dtuple_lst, ↓Mi.dtuple_ref, ↓Mi.w_isi, ↓Mi.setl_0, ↓Mi.setl_s, ↓Mi.w_append, ↓Mi.app_ref, ↓Mi.t_name, ↓Mi.t_tup, ↓Mi.t_nil, ↓Mi.t_cons, ↓Mi.s_next, ↓Mi.s_break, ↓Mi.s_cont, ↓Mi.s_set, ↓Mi.s_ret, ↓Mi.s_retN, ↓Mi.s_expr, ↓Mi.s_if, ↓Mi.s_asg, ↓Mi.s_store, ↓Mi.s_seq, ↓Mi.k_nx, ↓Mi.k_rt, ↓Mi.k_bk, ↓Mi.k_ct, ↓Mi.sto_s, ↓Mi.sto_L, ↓Mi.s_for, ↓Mi.s_while, ↓Mi.r_rt, ↓Mi.r_nx, ↓Mi.tn_nx, ↓Mi.tn_ct, ↓Mi.tn_bk, ↓Mi.tn_rt, ↓Mi.w_seqI, ↓Mi.w_enumI, ↓Mi.w_zipI, ↓Mi.w_range1, ↓Mi.w_range2, ↓Mi.w_range3, ↓Mi.seq_tup, ↓Mi.seq_lst, ↓Mi.seq_ref, ↓Mi.w_lc, ↓Mi.w_yes, ↓Mi.w_chain, ↓Mi.isi_ii, ↓Mi.isi_bi, ↓Mi.isi_tt, ↓Mi.is_non_dK, ↓Mi.is_non_non, ↓Mi.is_blbl, ↓Mi.upd_0, ↓Mi.upd_s, ↓Mi.see_ref, ↓Mi.see_tup, ↓Mi.see_lst, ↓Mi.see_int, ↓Mi.see_str, ↓Mi.see_bl, ↓Mi.see_non, ↓Mi.see_dK, ↓Mi.see_dT, ↓Mi.see_scr, ↓Mi.cell_0, ↓Mi.cell_s, ↓Mi.push_0, ↓Mi.push_1, ↓Mi.push_2, ↓Mi.push_3, ↓Mi.push_4, ↓Mi.push_5, ↓Mi.opt_some, ↓Mi.it_true, ↓Mi.it_false, ↓Mi.it_dec, ↓Mi.it_not, ↓Mi.g_andN, ↓Mi.g_orN, ↓Mi.g_add1, ↓Mi.n_dget, ↓Mi.n_look, ↓Mi.n_in, ↓Mi.n_sto, ↓Mi.n_disp, ↓Mi.keyd_i, ↓Mi.c_minN, ↓Mi.g_eqgetN, ↓Mi.g_negetI, ↓Mi.in_tupN, ↓Mi.n_look0, Mi.wipeR, Mi.dlen_tup, Mi.dlen_lst, Mi.dint_int, Mi.dlist_lst, Mi.dlist_tup, Mi.isl_lst, Mi.isd_dK, Mi.atI_0, Mi.atI_1, Mi.atI_2, Mi.atI_3, Mi.atI_4, List.length_cons, List.length_nil, Nat.reduceAdd, Nat.reduceLeDiff, true_and, and_true, Mi.forget, List.set_cons_zero, List.set_cons_succ, List.map_cons, List.map_nil, List.cons_append, List.nil_append, List.replicate, Nat.reduceSub, Nat.le_refl, ↓p_sto, ↓p_sto2, List.length_map]
              refine ⟨by omega, by omega, kput lv (t ||| u) (k + 1), kput pt (t ||| u) (pt0.map (· ++ [u])), later ++ [t ||| u], ?_, ?_⟩
              · rw [List.map_append, kput_put]; rfl
              · refine hI.step (old := []) s hd hpt0 htd hPr (fun m _ => hmono m) (.inl ⟨hg, rfl, rfl, rfl⟩) ?_
                rw [hbd]; simp; omega
      · rintro ρ μ ⟨lv, pt, later, rfl, rfl, hI⟩
        simp only [↓Mi.w_ret, ↓Mi.w_var0, ↓Mi.w_varS, ↓Mi.w_bin, ↓Mi.w_nil, ↓Mi.w_cons, ↓Mi.w_tup, ↓Mi.w_lst, ↓Mi.w_mut, ↓Mi.w_call, ↓Mi.w_if, ↓Mi.w_and, ↓Mi.w_or, ↓Mi.w_not, ↓Mi.w_B, ↓Mi.asb_bl, ↓Mi.w_andV, ↓Mi.w_orV, ↓Mi.w_notV, ↓Mi.w_tru, ↓Mi.tru_int, ↓Mi.tru_bl, ↓Mi.tru_non, ↓Mi.tru_tup, ↓Mi.tru_lst, ↓Mi.w_neg, ↓Mi.ex_int, ↓Mi.g_xor, ↓Mi.g_lt, ↓Mi.g_le, ↓Mi.g_gt, ↓Mi.g_ge, ↓Mi.g_mul, ↓Mi.g_mod, ↓Mi.g_div, ↓Mi.g_pow, ↓Mi.g_shl, ↓Mi.g_shr, ↓Mi.g_catT, ↓Mi.g_catL, ↓Mi.g_eqi, ↓Mi.g_nei, ↓Mi.g_eqb, ↓Mi.g_neb, ↓Mi.g_eqs, ↓Mi.g_nes, ↓Mi.g_eqt, ↓Mi.g_net, ↓Mi.g_is, ↓Mi.g_isnot, ↓Mi.g_ix_i, ↓Mi.g_ix_t, ↓Mi.ixv_tup, ↓Mi.ixv_lst, ↓Mi.ixv_dK, ↓Mi.g_in, ↓Mi.g_nin, ↓Mi.w_part, ↓Mi.w_sl, ↓Mi.sl_tup, ↓Mi.sl_lst, ↓Mi.sl_scr, ↓Mi.w_rev, ↓Mi.ex_lst, ↓Mi.w_get2, ↓Mi.c_g1, ↓Mi.c_max2, ↓Mi.c_min2, ↓Mi.c_tuple, ↓Mi.dtuple_tup, ↓Mi.dtuple_lst, ↓Mi.dtuple_ref, ↓Mi.w_isi, ↓Mi.setl_0, ↓Mi.setl_s, ↓Mi.w_append, ↓Mi.app_ref, ↓Mi.t_name, ↓Mi.t_tup, ↓Mi.t_nil, ↓Mi.t_cons, ↓Mi.s_next, ↓Mi.s_break, ↓Mi.s_cont, ↓Mi.s_set, ↓Mi.s_ret, ↓Mi.s_retN, ↓Mi.s_expr, ↓Mi.s_if, ↓Mi.s_asg, ↓Mi.s_store, ↓Mi.s_seq, ↓Mi.k_nx, ↓Mi.k_rt, ↓Mi.k_bk, ↓Mi.k_ct, ↓Mi.sto_s, ↓Mi.sto_L, ↓Mi.s_for, ↓Mi.s_while, ↓Mi.r_rt, ↓Mi.r_nx, ↓Mi.tn_nx, ↓Mi.tn_ct, ↓Mi.tn_bk, ↓Mi.tn_rt, ↓Mi.w_seqI, ↓Mi.w_enumI, ↓Mi.w_zipI, ↓Mi.w_range1, ↓Mi.w_range2, ↓Mi.w_range3, ↓Mi.seq_tup, ↓Mi.seq_lst, ↓Mi.seq_ref, ↓Mi.w_lc, ↓Mi.w_yes, ↓Mi.w_chain, ↓Mi.isi_ii, ↓Mi.isi_bi, ↓Mi.isi_tt, ↓Mi.is_non_dK, ↓Mi.is_non_non, ↓Mi.is_blbl, ↓Mi.upd_0, ↓Mi.upd_s, ↓Mi.see_ref, ↓Mi.see_tup, ↓Mi.see_lst, ↓Mi.see_int, ↓Mi.see_str, ↓Mi.see_bl, ↓Mi.see_non, ↓Mi.see_dK, ↓Mi.see_dT, ↓Mi.see_scr, ↓Mi.cell_0, ↓Mi.cell_s, ↓Mi.push_0, ↓Mi.push_1, ↓Mi.push_2, ↓Mi.push_3, ↓Mi.push_4, ↓Mi.push_5, ↓Mi.opt_some, ↓Mi.it_true, ↓Mi.it_false, ↓Mi.it_dec, ↓Mi.it_not, ↓Mi.g_andN, ↓Mi.g_orN, ↓Mi.g_add1, ↓Mi.n_dget, ↓Mi.n_look, ↓Mi.n_in, ↓Mi.n_sto, ↓Mi.n_disp, ↓Mi.keyd_i, ↓Mi.c_minN, ↓Mi.g_eqgetN, ↓Mi.g_negetI, ↓Mi.in_tupN, ↓Mi.n_look0, Mi.wipeR, Mi.dlen_tup, Mi.dlen_lst, Mi.dint_int, Mi.dlist_lst, Mi.dlist_tup, Mi.isl_lst, Mi.isd_dK, Mi.atI_0, Mi.atI_1, Mi.atI_2, Mi.atI_3, Mi.atI_4, List.length_cons, List.length_nil, Nat.reduceAdd, Nat.reduceLeDiff, true_and, and_true, Mi.forget, List.set_cons_zero, List.set_cons_succ, List.map_cons, List.map_nil, List.cons_append, List.nil_append, List.replicate, Nat.reduceSub, Nat.le_refl]
        refine ⟨lv, pt, later, rfl, hI.skip (fun x y h => ?_) (fun x y h s _ => ?_) fun m => ?_⟩
        · rcases h with h | ⟨rfl, h⟩
          · exact ⟨List.mem_append_left _ h.1, h.2⟩
          · obtain ⟨z, hz, rfl⟩ := List.mem_map.mp h
            rw [List.mem_range] at hz
            exact ⟨by simp, by omega, by omega⟩
        · rcases List.mem_append.mp h.1 with q | q
          · exact .inl ⟨q, h.2⟩
          · simp at q; subst q
            refine .inr ⟨rfl, List.mem_map.mpr ⟨y - 1, ?_, by omega⟩⟩
            rw [List.mem_range]; omega
        · unfold bdI
          rw [List.length_append, List.length_singleton, Nat.add_mul, Nat.one_mul]
          have : 0 ≤ 16 ^ k := Nat.zero_le _
          generalize 16 ^ k = z at *
          generalize done.length * z = w at *
          split <;> omega
      · exact hI.skip (fun x y h => .inl h) (fun x y h _ _ => h.elim id fun h => absurd h.2 (by simp)) fun m => by unfold bdI; omega
    · rintro ρ μ ⟨lv, pt, later, rfl, rfl, hI⟩
      simp only [↓Mi.w_ret, ↓Mi.w_var0, ↓Mi.w_varS, ↓Mi.w_bin, ↓Mi.w_nil, ↓Mi.w_cons, ↓Mi.w_tup, ↓Mi.w_lst, ↓Mi.w_mut, ↓Mi.w_call, ↓Mi.w_if, ↓Mi.w_and, ↓Mi.w_or, ↓Mi.w_not, ↓Mi.w_B, ↓Mi.asb_bl, ↓Mi.w_andV, ↓Mi.w_orV, ↓Mi.w_notV, ↓Mi.w_tru, ↓Mi.tru_int, ↓Mi.tru_bl, ↓Mi.tru_non, ↓Mi.tru_tup, ↓Mi.tru_lst, ↓Mi.w_neg, ↓Mi.ex_int, ↓Mi.g_xor, ↓Mi.g_lt, ↓Mi.g_le, ↓Mi.g_gt, ↓Mi.g_ge, ↓Mi.g_mul, ↓Mi.g_mod, ↓Mi.g_div, ↓Mi.g_pow, ↓Mi.g_shl, ↓Mi.g_shr, ↓Mi.g_catT, ↓Mi.g_catL, ↓Mi.g_eqi, ↓Mi.g_nei, ↓Mi.g_eqb, ↓Mi.g_neb, ↓Mi.g_eqs, ↓Mi.g_nes, ↓Mi.g_eqt, ↓Mi.g_net, ↓Mi.g_is, ↓Mi.g_isnot, ↓Mi.g_ix_i, ↓Mi.g_ix_t, ↓Mi.ixv_tup, ↓Mi.ixv_lst, ↓Mi.ixv_dK, ↓Mi.g_in, ↓Mi.g_nin, ↓Mi.w_part, ↓Mi.w_sl, ↓Mi.sl_tup, ↓Mi.sl_lst, ↓Mi.sl_scr, ↓Mi.w_rev, ↓Mi.ex_lst, ↓Mi.w_get2, ↓Mi.c_g1, ↓Mi.c_max2, ↓Mi.c_min2, ↓Mi.c_tuple, ↓Mi.dtuple_tup, ↓Mi.dtuple_lst, ↓Mi.dtuple_ref, ↓Mi.w_isi, ↓Mi.setl_0, ↓Mi.setl_s, ↓Mi.w_append, ↓Mi.app_ref, ↓Mi.t_name, ↓Mi.t_tup, ↓Mi.t_nil, ↓Mi.t_cons, ↓Mi.s_next, ↓Mi.s_break, ↓Mi.s_cont, ↓Mi.s_set, ↓Mi.s_ret, ↓Mi.s_retN, ↓Mi.s_expr, ↓Mi.s_if, ↓Mi.s_asg, ↓Mi.s_store, ↓Mi.s_seq, ↓Mi.k_nx, ↓Mi.k_rt, ↓Mi.k_bk, ↓Mi.k_ct, ↓Mi.sto_s, ↓Mi.sto_L, ↓Mi.s_for, ↓Mi.s_while, ↓Mi.r_rt, ↓Mi.r_nx, ↓Mi.tn_nx, ↓Mi.tn_ct, ↓Mi.tn_bk, ↓Mi.tn_rt, ↓Mi.w_seqI, ↓Mi.w_enumI, ↓Mi.w_zipI, ↓Mi.w_range1, ↓Mi.w_range2, ↓Mi.w_range3, ↓Mi.seq_tup, ↓Mi.seq_lst, ↓Mi.seq_ref, ↓Mi.w_lc, ↓Mi.w_yes, ↓Mi.w_chain, ↓Mi.isi_ii, ↓Mi.isi_bi, ↓Mi.isi_tt, ↓Mi.is_non_dK, ↓Mi.is_non_non, ↓Mi.is_blbl, ↓Mi.upd_0, ↓Mi.upd_s, ↓Mi.see_ref, ↓Mi.see_tup, ↓Mi.see_lst, ↓Mi.see_int, ↓Mi.see_str, ↓Mi.see_bl, ↓Mi.see_non, ↓Mi.see_dK, ↓Mi.see_dT, ↓Mi.see_scr, ↓Mi.cell_0, ↓Mi.cell_s, ↓Mi.push_0, ↓Mi.push_1, ↓Mi.push_2, ↓Mi.push_3, ↓Mi.push_4, ↓Mi.push_5, ↓Mi.opt_some, ↓Mi.it_true, ↓Mi.it_false, ↓Mi.it_dec, ↓Mi.it_not, ↓Mi.g_andN, ↓Mi.g_orN, ↓Mi.g_add1, ↓Mi.n_dget, ↓Mi.n_look, ↓Mi.n_in, ↓Mi.n_sto, ↓Mi.n_disp, ↓Mi.keyd_i, ↓Mi.c_minN, ↓Mi.g_eqgetN, ↓Mi.g_negetI, ↓Mi.in_tupN, ↓Mi.n_look0, Mi.wipeR, Mi.dlen_tup, Mi.dlen_lst, Mi.dint_int, Mi.dlist_lst, Mi.dlist_tup, Mi.isl_lst, Mi.isd_dK, Mi.atI_0, Mi.atI_1, Mi.atI_2, Mi.atI_3, Mi.atI_4, List.length_cons, List.length_nil, Nat.reduceAdd, Nat.reduceLeDiff, true_and, and_true, Mi.forget, List.set_cons_zero, List.set_cons_succ, List.map_cons, List.map_nil, List.cons_append, List.nil_append, List.replicate, Nat.reduceSub, Nat.le_refl]
      have hkl : (List.range k ++ [k]).length = k + 1 := by simp
      rw [hkl]
      refine ⟨later, lv, pt, _, ex ++ [⟨false, .lst (later.map fun x : Nat => .int (x : Nat))⟩], rfl, rfl, .inr ⟨ex.length, rfl, ?_⟩, hI.bo (fun t u hd s => ⟨(hB.la t).mpr hd, ?_⟩) fun m => ?_⟩
      · rw [List.getElem?_append_right (Nat.le_refl _), Nat.sub_self]; rfl
      · have := s.facts h4; omega
      · rw [Nat.pow_succ, Nat.mul_comm]
        exact Nat.mul_le_mul_left _ hLlen
    · exact hB.bi.skip (bd := fun _ => 0) (fun x y h => h.elim) (fun x y h _ _ => absurd h.1 (by simp)) fun m => Nat.zero_le _
  · rintro ρ μ ⟨L, lv, pt, lvl, ex, rfl, rfl, hlvl, hB⟩
    simp only [↓Mi.w_ret, ↓Mi.w_var0, ↓Mi.w_varS, ↓Mi.w_bin, ↓Mi.w_nil, ↓Mi.w_cons, ↓Mi.w_tup, ↓Mi.w_lst, ↓Mi.w_mut, ↓Mi.w_call, ↓Mi.w_if, ↓Mi.w_and, ↓Mi.w_or, ↓Mi.w_not, ↓Mi.w_B, ↓Mi.asb_bl, ↓Mi.w_andV, ↓Mi.w_orV, ↓Mi.w_notV, ↓Mi.w_tru, ↓Mi.tru_int, ↓Mi.tru_bl, ↓Mi.tru_non, ↓Mi.tru_tup, ↓Mi.tru_lst, ↓Mi.w_neg, ↓Mi.ex_int, ↓Mi.g_xor, ↓Mi.g_lt, ↓Mi.g_le, ↓Mi.g_gt, ↓Mi.g_ge, ↓Mi.g_mul, ↓Mi.g_mod, ↓Mi.g_div, ↓Mi.g_pow, ↓Mi.g_shl, ↓Mi.g_shr, ↓Mi.g_catT, ↓Mi.g_catL, ↓Mi.g_eqi, ↓Mi.g_nei, ↓Mi.g_eqb, ↓Mi.g_neb, ↓Mi.g_eqs, ↓Mi.g_nes, ↓Mi.g_eqt, ↓Mi.g_net, ↓Mi.g_is, ↓Mi.g_isnot, ↓Mi.g_ix_i, ↓Mi.g_ix_t, ↓Mi.ixv_tup, ↓Mi.ixv_lst, ↓Mi.ixv_dK, ↓Mi.g_in, ↓Mi.g_nin, ↓Mi.w_part, ↓Mi.w_sl, ↓Mi.sl_tup, ↓Mi.sl_lst, ↓Mi.sl_scr, ↓Mi.w_rev, ↓Mi.ex_lst, ↓Mi.w_get2, ↓Mi.c_g1, ↓Mi.c_max2, ↓Mi.c_min2, ↓Mi.c_tuple, ↓Mi.dtuple_tup, ↓Mi.dtuple_lst, ↓Mi.dtuple_ref, ↓Mi.w_isi, ↓Mi.setl_0, ↓Mi.setl_s, ↓Mi.w_append, ↓Mi.app_ref, ↓Mi.t_name, ↓Mi.t_tup, ↓Mi.t_nil, ↓Mi.t_cons, ↓Mi.s_next, ↓Mi.s_break, ↓Mi.s_cont, ↓Mi.s_set, ↓Mi.s_ret, ↓Mi.s_retN, ↓Mi.s_expr, ↓Mi.s_if, ↓Mi.s_asg, ↓Mi.s_store, ↓Mi.s_seq, ↓Mi.k_nx, ↓Mi.k_rt, ↓Mi.k_bk, ↓Mi.k_ct, ↓Mi.sto_s, ↓Mi.sto_L, ↓Mi.s_for, ↓Mi.s_while, ↓Mi.r_rt, ↓Mi.r_nx, ↓Mi.tn_nx, ↓Mi.tn_ct, ↓Mi.tn_bk, ↓Mi.tn_rt, ↓Mi.w_seqI, ↓Mi.w_enumI, ↓Mi.w_zipI, ↓Mi.w_range1, ↓Mi.w_range2, ↓Mi.w_range3, ↓Mi.seq_tup, ↓Mi.seq_lst, ↓Mi.seq_ref, ↓Mi.w_lc, ↓Mi.w_yes, ↓Mi.w_chain, ↓Mi.isi_ii, ↓Mi.isi_bi, ↓Mi.isi_tt, ↓Mi.is_non_dK, ↓Mi.is_non_non, ↓Mi.is_blbl, ↓Mi.upd_0, ↓Mi.upd_s, ↓Mi.see_ref, ↓Mi.see_tup, ↓Mi.see_lst, ↓Mi.see_int, ↓Mi.see_str, ↓Mi.see_bl, ↓Mi.see_non, ↓Mi.see_dK, ↓Mi.see_dT, ↓Mi.see_scr, ↓Mi.cell_0, ↓Mi.cell_s, ↓Mi.push_0, ↓Mi.push_1, ↓Mi.push_2, ↓Mi.push_3, ↓Mi.push_4, ↓Mi.push_5, ↓Mi.opt_some, ↓Mi.it_true, ↓Mi.it_false, ↓Mi.it_dec, ↓Mi.it_not, ↓Mi.g_andN, ↓Mi.g_orN, ↓Mi.g_add1, ↓Mi.n_dget, ↓Mi.n_look, ↓Mi.n_in, ↓Mi.n_sto, ↓Mi.n_disp, ↓Mi.keyd_i, ↓Mi.c_minN, ↓Mi.g_eqgetN, ↓Mi.g_negetI, ↓Mi.in_tupN, ↓Mi.n_look0, Mi.wipeR, Mi.dlen_tup, Mi.dlen_lst, Mi.dint_int, Mi.dlist_lst, Mi.dlist_tup, Mi.isl_lst, Mi.isd_dK, Mi.atI_0, Mi.atI_1, Mi.atI_2, Mi.atI_3, Mi.atI_4, List.length_cons, List.length_nil, Nat.reduceAdd, Nat.reduceLeDiff, true_and, and_true, Mi.forget, List.set_cons_zero, List.set_cons_succ, List.map_cons, List.map_nil, List.cons_append, List.nil_append, List.replicate, Nat.reduceSub, Nat.le_refl]
    refine ⟨(lv, pt), ⟨L, hB⟩, ?_⟩
    have n1 : nr (dP pt) = true := nrs_map (f := fun p : Nat × List (List Nat) => D.lst (p.2.map eT)) (fun p => nrs_map (f := eT) (fun q => nrTN q) p.2) pt
    have f1 : ∀ M : Mem, frz true nr 5 (⟨false, dN lv⟩ :: ⟨false, dP pt⟩ :: M) (.ref 0) = some (dN lv) := fun M => frz_box (c := ⟨false, dN lv⟩) rfl rfl nr_dN
    have f2 : ∀ M : Mem, frz true nr 5 (⟨false, dN lv⟩ :: ⟨false, dP pt⟩ :: M) (.ref 1) = some (dP pt) := fun M => frz_box (c := ⟨false, dP pt⟩) rfl rfl n1
    unfold backN
    rw [show frz true nr 6 _ (.tup [.ref 0, .ref 1]) = (match optAll (frz true nr 5 _) [.ref 0, .ref 1] with | some es => some (.tup es) | none => none) from rfl]
    simp only [optAll, f1, f2]
end K68
namespace K68
open PySem PySem.Spec PyProof.Rows L2 Mi
/-! ## the draws -/
abbrev dS (a b : Int) (c : Nat) (e : Int) (xs : List Int) : D := .lst [.int a, .int b, .int (c : Nat), .int e, .lst (xs.map D.int)]
theorem begin_ok (ns : List Int) (Q : D → Mem → Prop) (h : ∀ xs : List Int, Q (.ref 0) [⟨false, dS 0 0 0 0 xs⟩]) : CL F__law_begin [.scr ns] [] Q := by
  refine (c_def (by rfl)).mpr ?_
  unfold b__law_begin
  simp only [↓Mi.w_ret, ↓Mi.w_var0, ↓Mi.w_varS, ↓Mi.w_bin, ↓Mi.w_nil, ↓Mi.w_cons, ↓Mi.w_tup, ↓Mi.w_lst, ↓Mi.w_mut, ↓Mi.w_call, ↓Mi.w_if, ↓Mi.w_and, ↓Mi.w_or, ↓Mi.w_not, ↓Mi.w_B, ↓Mi.asb_bl, ↓Mi.w_andV, ↓Mi.w_orV, ↓Mi.w_notV, ↓Mi.w_tru, ↓Mi.tru_int, ↓Mi.tru_bl, ↓Mi.tru_non, ↓Mi.tru_tup, ↓Mi.tru_lst, ↓Mi.w_neg, ↓Mi.ex_int, ↓Mi.g_add, ↓Mi.g_sub, ↓Mi.g_and, ↓Mi.g_or, ↓Mi.g_xor, ↓Mi.g_lt, ↓Mi.g_le, ↓Mi.g_gt, ↓Mi.g_ge, ↓Mi.g_mul, ↓Mi.g_mod, ↓Mi.g_div, ↓Mi.g_pow, ↓Mi.g_shl, ↓Mi.g_shr, ↓Mi.g_catT, ↓Mi.g_catL, ↓Mi.g_eqi, ↓Mi.g_nei, ↓Mi.g_eqb, ↓Mi.g_neb, ↓Mi.g_eqs, ↓Mi.g_nes, ↓Mi.g_eqt, ↓Mi.g_net, ↓Mi.g_is, ↓Mi.g_isnot, ↓Mi.g_ix_i, ↓Mi.g_ix_t, ↓Mi.ixv_tup, ↓Mi.ixv_lst, ↓Mi.ixv_dK, ↓Mi.g_in, ↓Mi.g_nin, ↓Mi.w_part, ↓Mi.w_sl, ↓Mi.sl_tup, ↓Mi.sl_lst, ↓Mi.sl_scr, ↓Mi.w_rev, ↓Mi.ex_lst, ↓Mi.w_get2, ↓Mi.look_dK, ↓Mi.c_g1, ↓Mi.c_max2, ↓Mi.c_min2, ↓Mi.c_tuple, ↓Mi.dtuple_tup, ↓Mi.dtuple_lst, ↓Mi.dtuple_ref, ↓Mi.w_isi, ↓Mi.setl_0, ↓Mi.setl_s, ↓Mi.w_append, ↓Mi.app_ref, ↓Mi.t_name, ↓Mi.t_tup, ↓Mi.t_nil, ↓Mi.t_cons, ↓Mi.s_next, ↓Mi.s_break, ↓Mi.s_cont, ↓Mi.s_set, ↓Mi.s_ret, ↓Mi.s_retN, ↓Mi.s_expr, ↓Mi.s_if, ↓Mi.s_asg, ↓Mi.s_store, ↓Mi.s_seq, ↓Mi.k_nx, ↓Mi.k_rt, ↓Mi.k_bk, ↓Mi.k_ct, ↓Mi.sto_s, ↓Mi.sto_L, ↓Mi.sto_K, ↓Mi.s_for, ↓Mi.s_while, ↓Mi.r_rt, ↓Mi.r_nx, ↓Mi.tn_nx, ↓Mi.tn_ct, ↓Mi.tn_bk, ↓Mi.tn_rt, ↓Mi.w_seqI, ↓Mi.w_enumI, ↓Mi.w_zipI, ↓Mi.w_range1, ↓Mi.w_range2, ↓Mi.w_range3, ↓Mi.seq_tup, ↓Mi.seq_lst, ↓Mi.seq_ref, ↓Mi.w_lc, ↓Mi.w_yes, ↓Mi.w_chain, ↓Mi.isi_ii, ↓Mi.isi_bi, ↓Mi.isi_tt, ↓Mi.is_non_dK, ↓Mi.is_non_non, ↓Mi.is_blbl, ↓Mi.upd_0, ↓Mi.upd_s, ↓Mi.see_ref, ↓Mi.see_tup, ↓Mi.see_lst, ↓Mi.see_int, ↓Mi.see_str, ↓Mi.see_bl, ↓Mi.see_non, ↓Mi.see_dK, ↓Mi.see_dT, ↓Mi.see_scr, ↓Mi.cell_0, ↓Mi.cell_s, ↓Mi.push_0, ↓Mi.push_1, ↓Mi.push_2, ↓Mi.push_3, ↓Mi.push_4, ↓Mi.push_5, ↓Mi.opt_some, ↓Mi.it_true, ↓Mi.it_false, ↓Mi.it_dec, ↓Mi.it_not, Mi.wipeR, Mi.dlen_tup, Mi.dlen_lst, Mi.dint_int, Mi.dlist_lst, Mi.dlist_tup, Mi.isl_lst, Mi.isd_dK, Mi.atI_0, Mi.atI_1, Mi.atI_2, Mi.atI_3, Mi.atI_4, List.length_cons, List.length_nil, Nat.reduceAdd, Nat.reduceLeDiff, true_and, and_true, Mi.forget, List.set_cons_zero, List.set_cons_succ, List.map_cons, List.map_nil, List.cons_append, List.nil_append, List.replicate, Nat.reduceSub, Nat.le_refl]
  have e : Mi.cutD (ns.map D.int) none (some 63) = ((ns.drop (HT.sIx (ns.map D.int).length 0 none)).take (HT.sIx (ns.map D.int).length (ns.map D.int).length (some 63) - HT.sIx (ns.map D.int).length 0 none)).map D.int := by
    unfold Mi.cutD
    rw [List.map_take, List.map_drop]
  rw [e]
  exact h _
theorem draw_ok {a b : Int} {c : Nat} {e : Int} {xs : List Int} {M : Mem} (hb : 0 ≤ b) (many : Int) (hm : many < 1000000) (Q : D → Mem → Prop)
    (h : ∀ (r a' b' : Int) (c' : Nat) (e' : Int), 0 ≤ b' → 0 ≤ r → (r < many ∨ r = 0) → Q (.int r) (⟨false, dS a' b' c' e' xs⟩ :: M)) : CL F__law_draw [.ref 0, .int many] (⟨false, dS a b c e xs⟩ :: M) Q := by
  refine (c_def (by rfl)).mpr ?_
  unfold b__law_draw
  by_cases hc : c < xs.length
  · have hx : xs[c]? = some xs[c] := List.getElem?_eq_getElem hc
    have hl : ((c : Nat) : Int) < ((xs.map D.int).length : Nat) := by rw [List.length_map]; omega
    simp only [↓Mi.w_ret, ↓Mi.w_var0, ↓Mi.w_varS, ↓Mi.w_bin, ↓Mi.w_nil, ↓Mi.w_cons, ↓Mi.w_tup, ↓Mi.w_lst, ↓Mi.w_mut, ↓Mi.w_call, ↓Mi.w_if, ↓Mi.w_and, ↓Mi.w_or, ↓Mi.w_not, ↓Mi.w_B, ↓Mi.asb_bl, ↓Mi.w_andV, ↓Mi.w_orV, ↓Mi.w_notV, ↓Mi.w_tru, ↓Mi.tru_int, ↓Mi.tru_bl, ↓Mi.tru_non, ↓Mi.tru_tup, ↓Mi.tru_lst, ↓Mi.w_neg, ↓Mi.ex_int, ↓Mi.g_add, ↓Mi.g_sub, ↓Mi.g_and, ↓Mi.g_or, ↓Mi.g_xor, ↓Mi.g_lt, ↓Mi.g_le, ↓Mi.g_gt, ↓Mi.g_ge, ↓Mi.g_mul, ↓Mi.g_mod, ↓Mi.g_div, ↓Mi.g_pow, ↓Mi.g_shl, ↓Mi.g_shr, ↓Mi.g_catT, ↓Mi.g_catL, ↓Mi.g_eqi, ↓Mi.g_nei, ↓Mi.g_eqb, ↓Mi.g_neb, ↓Mi.g_eqs, ↓Mi.g_nes, ↓Mi.g_eqt, ↓Mi.g_net, ↓Mi.g_is, ↓Mi.g_isnot, ↓Mi.g_ix_i, ↓Mi.g_ix_t, ↓Mi.ixv_tup, ↓Mi.ixv_dK, ↓Mi.g_in, ↓Mi.g_nin, ↓Mi.w_part, ↓Mi.w_sl, ↓Mi.sl_tup, ↓Mi.sl_lst, ↓Mi.sl_scr, ↓Mi.w_rev, ↓Mi.ex_lst, ↓Mi.w_get2, ↓Mi.look_dK, ↓Mi.c_g1, ↓Mi.c_max2, ↓Mi.c_min2, ↓Mi.c_tuple, ↓Mi.dtuple_tup, ↓Mi.dtuple_lst, ↓Mi.dtuple_ref, ↓Mi.w_isi, ↓Mi.setl_0, ↓Mi.setl_s, ↓Mi.w_append, ↓Mi.app_ref, ↓Mi.t_name, ↓Mi.t_tup, ↓Mi.t_nil, ↓Mi.t_cons, ↓Mi.s_next, ↓Mi.s_break, ↓Mi.s_cont, ↓Mi.s_set, ↓Mi.s_ret, ↓Mi.s_retN, ↓Mi.s_expr, ↓Mi.s_if, ↓Mi.s_asg, ↓Mi.s_store, ↓Mi.s_seq, ↓Mi.k_nx, ↓Mi.k_rt, ↓Mi.k_bk, ↓Mi.k_ct, ↓Mi.sto_s, ↓Mi.sto_K, ↓Mi.s_for, ↓Mi.s_while, ↓Mi.r_rt, ↓Mi.r_nx, ↓Mi.tn_nx, ↓Mi.tn_ct, ↓Mi.tn_bk, ↓Mi.tn_rt, ↓Mi.w_seqI, ↓Mi.w_enumI, ↓Mi.w_zipI, ↓Mi.w_range1, ↓Mi.w_range2, ↓Mi.w_range3, ↓Mi.seq_tup, ↓Mi.seq_lst, ↓Mi.seq_ref, ↓Mi.w_lc, ↓Mi.w_yes, ↓Mi.w_chain, ↓Mi.isi_ii, ↓Mi.isi_bi, ↓Mi.isi_tt, ↓Mi.is_non_dK, ↓Mi.is_non_non, ↓Mi.is_blbl, ↓Mi.upd_0, ↓Mi.upd_s, ↓Mi.see_ref, ↓Mi.see_tup, ↓Mi.see_lst, ↓Mi.see_int, ↓Mi.see_str, ↓Mi.see_bl, ↓Mi.see_non, ↓Mi.see_dK, ↓Mi.see_dT, ↓Mi.see_scr, ↓Mi.cell_0, ↓Mi.cell_s, ↓Mi.push_0, ↓Mi.push_1, ↓Mi.push_2, ↓Mi.push_3, ↓Mi.push_4, ↓Mi.push_5, ↓Mi.opt_some, ↓Mi.it_true, ↓Mi.it_false, ↓Mi.it_dec, ↓Mi.it_not, ↓Mi.sd_0, ↓Mi.sd_1, ↓Mi.sd_2, ↓Mi.sd_3, ↓Mi.ixv_0, ↓Mi.ixv_1, ↓Mi.ixv_2, ↓Mi.ixv_3, ↓Mi.ixv_4, ↓Mi.int_int, ↓Mi.len_lst, ↓Mi.len_tup, Mi.wipeR, Mi.dlen_tup, Mi.dlen_lst, Mi.dint_int, Mi.dlist_lst, Mi.dlist_tup, Mi.isl_lst, Mi.isd_dK, Mi.atI_0, Mi.atI_1, Mi.atI_2, Mi.atI_3, Mi.atI_4, List.length_cons, List.length_nil, Nat.reduceAdd, Nat.reduceLeDiff, true_and, and_true, Mi.forget, List.set_cons_zero, List.set_cons_succ, List.map_cons, List.map_nil, List.cons_append, List.nil_append, List.replicate, Nat.reduceSub, Nat.le_refl, ↓opt_at hx, ↓it_t hl, ↓ixv_lst]
    refine ⟨fun _ => h 0 a b c e hb (Int.le_refl _) (.inr rfl), fun hm2 => ?_⟩
    have hp : 0 < many := by omega
    have fm : ∀ x : Int, 0 ≤ x.fmod many ∧ x.fmod many < many := fun x => ⟨Int.fmod_nonneg_of_pos x hp, Int.fmod_lt_of_pos x hp⟩
    have fd : ∀ x : Int, 0 ≤ x → 0 ≤ x.fdiv many := fun x hx => by rw [Int.fdiv_eq_ediv_of_nonneg _ (by omega)]; exact Int.ediv_nonneg hx (by omega)
    have sq : ∀ x : Int, -2 ^ 64 < x.fmod 2147483647 ∧ x.fmod 2147483647 < 2 ^ 64 := fun x => by
      have h1 := Int.fmod_nonneg_of_pos x (show (0 : Int) < 2147483647 by decide)
      have h2 := Int.fmod_lt_of_pos x (show (0 : Int) < 2147483647 by decide)
      omega
    have h7 : (7 : Int) ≠ 0 ∧ Int.natAbs 7 < 1073741824 := ⟨by decide, by decide⟩
    have hm3 : many ≠ 0 ∧ many.natAbs < 1073741824 := ⟨by omega, by omega⟩
    repeat' (first | (intro _) | exact hm3 | exact h7 | refine And.intro ?_ ?_)
    all_goals first
      | omega
      | exact .inr ⟨by decide, by decide⟩
      | exact .inl (sq _)
      | exact h _ _ _ (c + 1) _ (fd _ (by omega)) (fm _).1 (.inl (fm _).2)
      | exact h _ _ _ (c + 1) _ (by omega) (fm _).1 (.inl (fm _).2)
      | exact h _ _ _ c _ (fd _ (by omega)) (fm _).1 (.inl (fm _).2)
      | exact h _ _ _ c _ (by omega) (fm _).1 (.inl (fm _).2)
  · have hl : ¬ ((c : Nat) : Int) < ((xs.map D.int).length : Nat) := by rw [List.length_map]; omega
    simp only [↓Mi.w_ret, ↓Mi.w_var0, ↓Mi.w_varS, ↓Mi.w_bin, ↓Mi.w_nil, ↓Mi.w_cons, ↓Mi.w_tup, ↓Mi.w_lst, ↓Mi.w_mut, ↓Mi.w_call, ↓Mi.w_if, ↓Mi.w_and, ↓Mi.w_or, ↓Mi.w_not, ↓Mi.w_B, ↓Mi.asb_bl, ↓Mi.w_andV, ↓Mi.w_orV, ↓Mi.w_notV, ↓Mi.w_tru, ↓Mi.tru_int, ↓Mi.tru_bl, ↓Mi.tru_non, ↓Mi.tru_tup, ↓Mi.tru_lst, ↓Mi.w_neg, ↓Mi.ex_int, ↓Mi.g_add, ↓Mi.g_sub, ↓Mi.g_and, ↓Mi.g_or, ↓Mi.g_xor, ↓Mi.g_lt, ↓Mi.g_le, ↓Mi.g_gt, ↓Mi.g_ge, ↓Mi.g_mul, ↓Mi.g_mod, ↓Mi.g_div, ↓Mi.g_pow, ↓Mi.g_shl, ↓Mi.g_shr, ↓Mi.g_catT, ↓Mi.g_catL, ↓Mi.g_eqi, ↓Mi.g_nei, ↓Mi.g_eqb, ↓Mi.g_neb, ↓Mi.g_eqs, ↓Mi.g_nes, ↓Mi.g_eqt, ↓Mi.g_net, ↓Mi.g_is, ↓Mi.g_isnot, ↓Mi.g_ix_i, ↓Mi.g_ix_t, ↓Mi.ixv_tup, ↓Mi.ixv_dK, ↓Mi.g_in, ↓Mi.g_nin, ↓Mi.w_part, ↓Mi.w_sl, ↓Mi.sl_tup, ↓Mi.sl_lst, ↓Mi.sl_scr, ↓Mi.w_rev, ↓Mi.ex_lst, ↓Mi.w_get2, ↓Mi.look_dK, ↓Mi.c_g1, ↓Mi.c_max2, ↓Mi.c_min2, ↓Mi.c_tuple, ↓Mi.dtuple_tup, ↓Mi.dtuple_lst, ↓Mi.dtuple_ref, ↓Mi.w_isi, ↓Mi.setl_0, ↓Mi.setl_s, ↓Mi.w_append, ↓Mi.app_ref, ↓Mi.t_name, ↓Mi.t_tup, ↓Mi.t_nil, ↓Mi.t_cons, ↓Mi.s_next, ↓Mi.s_break, ↓Mi.s_cont, ↓Mi.s_set, ↓Mi.s_ret, ↓Mi.s_retN, ↓Mi.s_expr, ↓Mi.s_if, ↓Mi.s_asg, ↓Mi.s_store, ↓Mi.s_seq, ↓Mi.k_nx, ↓Mi.k_rt, ↓Mi.k_bk, ↓Mi.k_ct, ↓Mi.sto_s, ↓Mi.sto_K, ↓Mi.s_for, ↓Mi.s_while, ↓Mi.r_rt, ↓Mi.r_nx, ↓Mi.tn_nx, ↓Mi.tn_ct, ↓Mi.tn_bk, ↓Mi.tn_rt, ↓Mi.w_seqI, ↓Mi.w_enumI, ↓Mi.w_zipI, ↓Mi.w_range1, ↓Mi.w_range2, ↓Mi.w_range3, ↓Mi.seq_tup, ↓Mi.seq_lst, ↓Mi.seq_ref, ↓Mi.w_lc, ↓Mi.w_yes, ↓Mi.w_chain, ↓Mi.isi_ii, ↓Mi.isi_bi, ↓Mi.isi_tt, ↓Mi.is_non_dK, ↓Mi.is_non_non, ↓Mi.is_blbl, ↓Mi.upd_0, ↓Mi.upd_s, ↓Mi.see_ref, ↓Mi.see_tup, ↓Mi.see_lst, ↓Mi.see_int, ↓Mi.see_str, ↓Mi.see_bl, ↓Mi.see_non, ↓Mi.see_dK, ↓Mi.see_dT, ↓Mi.see_scr, ↓Mi.cell_0, ↓Mi.cell_s, ↓Mi.push_0, ↓Mi.push_1, ↓Mi.push_2, ↓Mi.push_3, ↓Mi.push_4, ↓Mi.push_5, ↓Mi.opt_some, ↓Mi.it_true, ↓Mi.it_false, ↓Mi.it_dec, ↓Mi.it_not, ↓Mi.sd_0, ↓Mi.sd_1, ↓Mi.sd_2, ↓Mi.sd_3, ↓Mi.ixv_0, ↓Mi.ixv_1, ↓Mi.ixv_2, ↓Mi.ixv_3, ↓Mi.ixv_4, ↓Mi.int_int, ↓Mi.len_lst, ↓Mi.len_tup, Mi.wipeR, Mi.dlen_tup, Mi.dlen_lst, Mi.dint_int, Mi.dlist_lst, Mi.dlist_tup, Mi.isl_lst, Mi.isd_dK, Mi.atI_0, Mi.atI_1, Mi.atI_2, Mi.atI_3, Mi.atI_4, List.length_cons, List.length_nil, Nat.reduceAdd, Nat.reduceLeDiff, true_and, and_true, Mi.forget, List.set_cons_zero, List.set_cons_succ, List.map_cons, List.map_nil, List.cons_append, List.nil_append, List.replicate, Nat.reduceSub, Nat.le_refl, ↓it_f hl]
    refine ⟨fun _ => h 0 a b c e hb (Int.le_refl _) (.inr rfl), fun hm2 => ?_⟩
    have hp : 0 < many := by omega
    have fm : ∀ x : Int, 0 ≤ x.fmod many ∧ x.fmod many < many := fun x => ⟨Int.fmod_nonneg_of_pos x hp, Int.fmod_lt_of_pos x hp⟩
    have fd : ∀ x : Int, 0 ≤ x → 0 ≤ x.fdiv many := fun x hx => by rw [Int.fdiv_eq_ediv_of_nonneg _ (by omega)]; exact Int.ediv_nonneg hx (by omega)
    have sq : ∀ x : Int, -2 ^ 64 < x.fmod 2147483647 ∧ x.fmod 2147483647 < 2 ^ 64 := fun x => by
      have h1 := Int.fmod_nonneg_of_pos x (show (0 : Int) < 2147483647 by decide)
      have h2 := Int.fmod_lt_of_pos x (show (0 : Int) < 2147483647 by decide)
      omega
    have h7 : (7 : Int) ≠ 0 ∧ Int.natAbs 7 < 1073741824 := ⟨by decide, by decide⟩
    have hm3 : many ≠ 0 ∧ many.natAbs < 1073741824 := ⟨by omega, by omega⟩
    repeat' (first | (intro _) | exact hm3 | exact h7 | refine And.intro ?_ ?_)
    all_goals first
      | omega
      | exact .inr ⟨by decide, by decide⟩
      | exact .inl (sq _)
      | exact h _ _ _ (c + 1) _ (fd _ (by omega)) (fm _).1 (.inl (fm _).2)
      | exact h _ _ _ (c + 1) _ (by omega) (fm _).1 (.inl (fm _).2)
      | exact h _ _ _ c _ (fd _ (by omega)) (fm _).1 (.inl (fm _).2)
      | exact h _ _ _ c _ (by omega) (fm _).1 (.inl (fm _).2)
end K68
namespace K68
open PySem PySem.Spec PyProof.Rows L2 Mi
def b_lawB : FS :=
    sSeq (sAsg (fCall (pureF F__law_rows) (fCons (fVar 5) (fCons (fVar 4) (fCons (fVar 3) (fNil))))) (fgTup 2 (fgCons (fgName 12) (fgCons (fgName 13) (fgNil)))))
    (sSeq (sSet 14 (fCall (pureF F_fewest_rounds) (fCons (fVar 5) (fCons (fVar 4) (fNil)))))
    (sSeq (sIf (fB (fBin gIsNot (fCall (pureF F_judge_rounds) (fCons (fVar 5) (fCons (fVar 4) (fCons (fVar 14) (fNil))))) (ret (.bl true))))
    (sRet (ret (.bl false)))
    (sNext))
    (sSeq (sIf (fB (fBin gNin (fVar 3) (fVar 12)))
    (sSeq (sIf (fB (fBin gNe (fVar 14) (fTup (fCons (ret (.str (PySem.Str.ofString "stuck"))) (fCons (fCall (dTuple) (fCons (fCall (g1 dSorted) (fCons (fVar 12) (fNil))) (fNil))) (fCons (fTup (fNil)) (fNil)))))))
    (sRet (ret (.bl false)))
    (sNext))
    (sSeq (sSet 15 (fTup (fCons (ret (.str (PySem.Str.ofString "stuck"))) (fCons (fBin gPlus (fCall (dTuple) (fCons (fCall (g1 dSorted) (fCons (fVar 12) (fNil))) (fNil))) (fTup (fCons (fVar 3) (fNil)))) (fCons (fTup (fNil)) (fNil))))))
    (sSeq (sSet 16 (fTup (fCons (ret (.str (PySem.Str.ofString "stuck"))) (fCons (fSl gSlA (fCall (dTuple) (fCons (fCall (g1 dSorted) (fCons (fVar 12) (fNil))) (fNil))) (fPart (ret (.int 1))) (ret none)) (fCons (fTup (fNil)) (fNil))))))
    (sRet (fAndV (fBin gIs (fCall (pureF F_judge_rounds) (fCons (fVar 5) (fCons (fVar 4) (fCons (fVar 15) (fNil))))) (ret (.bl false))) (fBin gIs (fCall (pureF F_judge_rounds) (fCons (fVar 5) (fCons (fVar 4) (fCons (fVar 16) (fNil))))) (ret (.bl false))))))))
    (sNext))
    (sSeq (sIf (fB (fBin gNe (fVar 14) (fTup (fCons (ret (.str (PySem.Str.ofString "rounds"))) (fCons (fCall (g1 dMinT) (fCons (fBin gIx (fVar 13) (fVar 3)) (fNil))) (fCons (fCall (dTuple) (fCons (fLc (fiSeq (fCall (g1 dSorted) (fCons (fVar 12) (fNil)))) (fgName 25) (ftYes) (fTup (fCons (fVar 25) (fCons (fBin gIx (fVar 12) (fVar 25)) (fNil)))) [25]) (fNil))) (fNil)))))))
    (sRet (ret (.bl false)))
    (sNext))
    (sSeq (sAsg (fVar 14) (fgTup 3 (fgCons (fgName 17) (fgCons (fgName 18) (fgCons (fgName 19) (fgNil))))))
    (sSeq (sIf (fAnd (fB (fBin gIsNot (fCall (pureF F_judge_rounds) (fCons (fVar 5) (fCons (fVar 4) (fCons (fTup (fCons (fVar 17) (fCons (fBin gPlus (fVar 18) (fTup (fCons (fVar 3) (fNil)))) (fCons (fVar 19) (fNil))))) (fNil))))) (ret (.bl false)))) (fB (fBin gGt (fVar 3) (ret (.int 0)))))
    (sRet (ret (.bl false)))
    (sNext))
    (sSeq (sSet 20 (fCall F__law_draw (fCons (fVar 1) (fCons (fCall (g1 dLen) (fCons (fVar 19) (fNil))) (fNil)))))
    (sSeq (sSet 16 (fBin gPlus (fSl gSlA (fVar 19) (ret none) (fPart (fVar 20))) (fSl gSlA (fVar 19) (fPart (fBin gPlus (fVar 20) (ret (.int 1)))) (ret none))))
    (sSeq (sIf (fB (fBin gIsNot (fCall (pureF F_judge_rounds) (fCons (fVar 5) (fCons (fVar 4) (fCons (fTup (fCons (fVar 17) (fCons (fVar 18) (fCons (fVar 16) (fNil))))) (fNil))))) (ret (.bl false))))
    (sRet (ret (.bl false)))
    (sNext))
    (sSeq (sSet 21 (fBin gPlus (fSl gSlA (fVar 19) (ret none) (fPart (fBin gSub (fCall (g1 dLen) (fCons (fVar 19) (fNil))) (ret (.int 1))))) (fTup (fCons (fTup (fCons (fBin gIx (fBin gIx (fVar 19) (fBin gSub (fCall (g1 dLen) (fCons (fVar 19) (fNil))) (ret (.int 1)))) (ret (.int 0))) (fCons (fBin gPlus (fBin gIx (fBin gIx (fVar 19) (fBin gSub (fCall (g1 dLen) (fCons (fVar 19) (fNil))) (ret (.int 1)))) (ret (.int 1))) (ret (.int 1))) (fNil)))) (fNil)))))
    (sSeq (sIf (fB (fBin gIsNot (fCall (pureF F_judge_rounds) (fCons (fVar 5) (fCons (fVar 4) (fCons (fTup (fCons (fVar 17) (fCons (fVar 18) (fCons (fVar 21) (fNil))))) (fNil))))) (ret (.bl false))))
    (sRet (ret (.bl false)))
    (sNext))
    (sRet (fBin gIs (fCall (pureF F_judge_rounds) (fCons (fVar 5) (fCons (fVar 4) (fCons (fTup (fCons (ret (.str (PySem.Str.ofString "stuck"))) (fCons (fCall (dTuple) (fCons (fCall (g1 dSorted) (fCons (fVar 12) (fNil))) (fNil))) (fCons (fTup (fNil)) (fNil))))) (fNil))))) (ret (.bl false)))))))))))))))

theorem opt_sum {xs : List Int} {K : D → Prop} : OPT (dSum (.lst (xs.map D.int))) K ↔ K (.int xs.sum) := by
  have : intsOf (xs.map D.int) = some xs := by
    induction xs with
    | nil => rfl
    | cons x xs ih => simp only [List.map_cons, intsOf, ih]
  refine opt_eq ?_
  simp only [dSum, this]
/-- what the law has drawn -/
def HeadOk (Q : D → Mem → Prop) (scr : D) : Prop := ∀ (H : Nat) (rooms : List Int) (needs : List (List Q4)) (a b : Int) (c : Nat) (e : Int) (xs : List Int) (M : Mem), Ok H rooms needs → 0 ≤ b →
  WS b_lawB [some scr, some (.ref 0), some (.int (H : Nat)), some (.int (W H : Nat)), some (eNeeds needs), some (eInts rooms), none, none, none, none, none, none, none, none, none, none, none, none, none, none, none, none, none, none, none, none] (⟨false, dS a b c e xs⟩ :: M) (RET Q)
theorem head_ok (ns : List Int) (Q : D → Mem → Prop) (h : HeadOk Q (.scr ns)) : CL F_law [.scr ns] [] Q := by
  refine (c_def (by rfl)).mpr ?_
  unfold b_law
  refine s_seq.mpr ?_
  simp only [↓Mi.w_ret, ↓Mi.w_var0, ↓Mi.w_varS, ↓Mi.w_bin, ↓Mi.w_nil, ↓Mi.w_cons, ↓Mi.w_tup, ↓Mi.w_lst, ↓Mi.w_mut, ↓Mi.w_call, ↓Mi.w_if, ↓Mi.w_and, ↓Mi.w_or, ↓Mi.w_not, ↓Mi.w_B, ↓Mi.asb_bl, ↓Mi.w_andV, ↓Mi.w_orV, ↓Mi.w_notV, ↓Mi.w_tru, ↓Mi.tru_int, ↓Mi.tru_bl, ↓Mi.tru_non, ↓Mi.tru_tup, ↓Mi.tru_lst, ↓Mi.w_neg, ↓Mi.ex_int, ↓Mi.g_xor, ↓Mi.g_lt, ↓Mi.g_le, ↓Mi.g_gt, ↓Mi.g_ge, ↓Mi.g_mul, ↓Mi.g_mod, ↓Mi.g_div, ↓Mi.g_pow, ↓Mi.g_shl, ↓Mi.g_shr, ↓Mi.g_catT, ↓Mi.g_catL, ↓Mi.g_eqi, ↓Mi.g_nei, ↓Mi.g_eqb, ↓Mi.g_neb, ↓Mi.g_eqs, ↓Mi.g_nes, ↓Mi.g_eqt, ↓Mi.g_net, ↓Mi.g_is, ↓Mi.g_isnot, ↓Mi.g_ix_i, ↓Mi.g_ix_t, ↓Mi.ixv_tup, ↓Mi.ixv_lst, ↓Mi.ixv_dK, ↓Mi.g_in, ↓Mi.g_nin, ↓Mi.w_part, ↓Mi.w_sl, ↓Mi.sl_tup, ↓Mi.sl_lst, ↓Mi.sl_scr, ↓Mi.w_rev, ↓Mi.ex_lst, ↓Mi.w_get2, ↓Mi.c_g1, ↓Mi.c_max2, ↓Mi.c_min2, ↓Mi.c_tuple, ↓Mi.dtuple_tup, ↓Mi.dtuple_lst, ↓Mi.dtuple_ref, ↓Mi.w_isi, ↓Mi.setl_0, ↓Mi.setl_s, ↓Mi.w_append, ↓Mi.app_ref, ↓Mi.t_name, ↓Mi.t_tup, ↓Mi.t_nil, ↓Mi.t_cons, ↓Mi.s_next, ↓Mi.s_break, ↓Mi.s_cont, ↓Mi.s_set, ↓Mi.s_ret, ↓Mi.s_retN, ↓Mi.s_expr, ↓Mi.s_if, ↓Mi.s_asg, ↓Mi.s_store, ↓Mi.k_rt, ↓Mi.k_bk, ↓Mi.k_ct, ↓Mi.sto_s, ↓Mi.sto_L, ↓Mi.s_for, ↓Mi.s_while, ↓Mi.r_rt, ↓Mi.r_nx, ↓Mi.tn_nx, ↓Mi.tn_ct, ↓Mi.tn_bk, ↓Mi.tn_rt, ↓Mi.w_seqI, ↓Mi.w_enumI, ↓Mi.w_zipI, ↓Mi.w_range1, ↓Mi.w_range2, ↓Mi.w_range3, ↓Mi.seq_tup, ↓Mi.seq_lst, ↓Mi.seq_ref, ↓Mi.w_lc, ↓Mi.w_yes, ↓Mi.w_chain, ↓Mi.isi_ii, ↓Mi.isi_bi, ↓Mi.isi_tt, ↓Mi.is_non_dK, ↓Mi.is_non_non, ↓Mi.is_blbl, ↓Mi.upd_0, ↓Mi.upd_s, ↓Mi.see_ref, ↓Mi.see_tup, ↓Mi.see_lst, ↓Mi.see_int, ↓Mi.see_str, ↓Mi.see_bl, ↓Mi.see_non, ↓Mi.see_dK, ↓Mi.see_dT, ↓Mi.see_scr, ↓Mi.cell_0, ↓Mi.cell_s, ↓Mi.push_0, ↓Mi.push_1, ↓Mi.push_2, ↓Mi.push_3, ↓Mi.push_4, ↓Mi.push_5, ↓Mi.opt_some, ↓Mi.it_true, ↓Mi.it_false, ↓Mi.it_dec, ↓Mi.it_not, ↓Mi.g_andN, ↓Mi.g_orN, ↓Mi.g_add1, ↓Mi.n_dget, ↓Mi.n_look, ↓Mi.n_in, ↓Mi.n_sto, ↓Mi.n_disp, ↓Mi.keyd_i, ↓Mi.c_minN, ↓Mi.g_eqgetN, ↓Mi.g_negetI, ↓Mi.in_tupN, ↓Mi.n_look0, Mi.wipeR, Mi.dlen_tup, Mi.dlen_lst, Mi.dint_int, Mi.dlist_lst, Mi.dlist_tup, Mi.isl_lst, Mi.isd_dK, Mi.atI_0, Mi.atI_1, Mi.atI_2, Mi.atI_3, Mi.atI_4, List.length_cons, List.length_nil, Nat.reduceAdd, Nat.reduceLeDiff, true_and, and_true, Mi.forget, List.set_cons_zero, List.set_cons_succ, List.map_cons, List.map_nil, List.cons_append, List.nil_append, List.replicate, Nat.reduceSub, Nat.le_refl]
  refine begin_ok ns _ fun xs => k_nx.mpr ?_
  refine s_seq.mpr ?_
  simp only [↓Mi.w_ret, ↓Mi.w_var0, ↓Mi.w_varS, ↓Mi.w_bin, ↓Mi.w_nil, ↓Mi.w_cons, ↓Mi.w_tup, ↓Mi.w_lst, ↓Mi.w_mut, ↓Mi.w_call, ↓Mi.w_if, ↓Mi.w_and, ↓Mi.w_or, ↓Mi.w_not, ↓Mi.w_B, ↓Mi.asb_bl, ↓Mi.w_andV, ↓Mi.w_orV, ↓Mi.w_notV, ↓Mi.w_tru, ↓Mi.tru_int, ↓Mi.tru_bl, ↓Mi.tru_non, ↓Mi.tru_tup, ↓Mi.tru_lst, ↓Mi.w_neg, ↓Mi.ex_int, ↓Mi.g_xor, ↓Mi.g_lt, ↓Mi.g_le, ↓Mi.g_gt, ↓Mi.g_ge, ↓Mi.g_mul, ↓Mi.g_mod, ↓Mi.g_div, ↓Mi.g_pow, ↓Mi.g_shl, ↓Mi.g_shr, ↓Mi.g_catT, ↓Mi.g_catL, ↓Mi.g_eqi, ↓Mi.g_nei, ↓Mi.g_eqb, ↓Mi.g_neb, ↓Mi.g_eqs, ↓Mi.g_nes, ↓Mi.g_eqt, ↓Mi.g_net, ↓Mi.g_is, ↓Mi.g_isnot, ↓Mi.g_ix_i, ↓Mi.g_ix_t, ↓Mi.ixv_tup, ↓Mi.ixv_lst, ↓Mi.ixv_dK, ↓Mi.g_in, ↓Mi.g_nin, ↓Mi.w_part, ↓Mi.w_sl, ↓Mi.sl_tup, ↓Mi.sl_lst, ↓Mi.sl_scr, ↓Mi.w_rev, ↓Mi.ex_lst, ↓Mi.w_get2, ↓Mi.c_g1, ↓Mi.c_max2, ↓Mi.c_min2, ↓Mi.c_tuple, ↓Mi.dtuple_tup, ↓Mi.dtuple_lst, ↓Mi.dtuple_ref, ↓Mi.w_isi, ↓Mi.setl_0, ↓Mi.setl_s, ↓Mi.w_append, ↓Mi.app_ref, ↓Mi.t_name, ↓Mi.t_tup, ↓Mi.t_nil, ↓Mi.t_cons, ↓Mi.s_next, ↓Mi.s_break, ↓Mi.s_cont, ↓Mi.s_set, ↓Mi.s_ret, ↓Mi.s_retN, ↓Mi.s_expr, ↓Mi.s_if, ↓Mi.s_asg, ↓Mi.s_store, ↓Mi.k_rt, ↓Mi.k_bk, ↓Mi.k_ct, ↓Mi.sto_s, ↓Mi.sto_L, ↓Mi.s_for, ↓Mi.s_while, ↓Mi.r_rt, ↓Mi.r_nx, ↓Mi.tn_nx, ↓Mi.tn_ct, ↓Mi.tn_bk, ↓Mi.tn_rt, ↓Mi.w_seqI, ↓Mi.w_enumI, ↓Mi.w_zipI, ↓Mi.w_range1, ↓Mi.w_range2, ↓Mi.w_range3, ↓Mi.seq_tup, ↓Mi.seq_lst, ↓Mi.seq_ref, ↓Mi.w_lc, ↓Mi.w_yes, ↓Mi.w_chain, ↓Mi.isi_ii, ↓Mi.isi_bi, ↓Mi.isi_tt, ↓Mi.is_non_dK, ↓Mi.is_non_non, ↓Mi.is_blbl, ↓Mi.upd_0, ↓Mi.upd_s, ↓Mi.see_ref, ↓Mi.see_tup, ↓Mi.see_lst, ↓Mi.see_int, ↓Mi.see_str, ↓Mi.see_bl, ↓Mi.see_non, ↓Mi.see_dK, ↓Mi.see_dT, ↓Mi.see_scr, ↓Mi.cell_0, ↓Mi.cell_s, ↓Mi.push_0, ↓Mi.push_1, ↓Mi.push_2, ↓Mi.push_3, ↓Mi.push_4, ↓Mi.push_5, ↓Mi.opt_some, ↓Mi.it_true, ↓Mi.it_false, ↓Mi.it_dec, ↓Mi.it_not, ↓Mi.g_andN, ↓Mi.g_orN, ↓Mi.g_add1, ↓Mi.n_dget, ↓Mi.n_look, ↓Mi.n_in, ↓Mi.n_sto, ↓Mi.n_disp, ↓Mi.keyd_i, ↓Mi.c_minN, ↓Mi.g_eqgetN, ↓Mi.g_negetI, ↓Mi.in_tupN, ↓Mi.n_look0, Mi.wipeR, Mi.dlen_tup, Mi.dlen_lst, Mi.dint_int, Mi.dlist_lst, Mi.dlist_tup, Mi.isl_lst, Mi.isd_dK, Mi.atI_0, Mi.atI_1, Mi.atI_2, Mi.atI_3, Mi.atI_4, List.length_cons, List.length_nil, Nat.reduceAdd, Nat.reduceLeDiff, true_and, and_true, Mi.forget, List.set_cons_zero, List.set_cons_succ, List.map_cons, List.map_nil, List.cons_append, List.nil_append, List.replicate, Nat.reduceSub, Nat.le_refl]
  refine draw_ok (Int.le_refl _) 5 (by decide) _ fun r a b c e hb hr hr5 => k_nx.mpr ?_
  obtain ⟨H, rfl⟩ := Int.eq_ofNat_of_zero_le hr
  have hH : H ≤ 4 := by omega
  refine s_seq.mpr ?_
  simp only [↓Mi.w_ret, ↓Mi.w_var0, ↓Mi.w_varS, ↓Mi.w_bin, ↓Mi.w_nil, ↓Mi.w_cons, ↓Mi.w_tup, ↓Mi.w_lst, ↓Mi.w_mut, ↓Mi.w_call, ↓Mi.w_if, ↓Mi.w_and, ↓Mi.w_or, ↓Mi.w_not, ↓Mi.w_B, ↓Mi.asb_bl, ↓Mi.w_andV, ↓Mi.w_orV, ↓Mi.w_notV, ↓Mi.w_tru, ↓Mi.tru_int, ↓Mi.tru_bl, ↓Mi.tru_non, ↓Mi.tru_tup, ↓Mi.tru_lst, ↓Mi.w_neg, ↓Mi.ex_int, ↓Mi.g_xor, ↓Mi.g_lt, ↓Mi.g_le, ↓Mi.g_gt, ↓Mi.g_ge, ↓Mi.g_mul, ↓Mi.g_mod, ↓Mi.g_div, ↓Mi.g_pow, ↓Mi.g_shl, ↓Mi.g_shr, ↓Mi.g_catT, ↓Mi.g_catL, ↓Mi.g_eqi, ↓Mi.g_nei, ↓Mi.g_eqb, ↓Mi.g_neb, ↓Mi.g_eqs, ↓Mi.g_nes, ↓Mi.g_eqt, ↓Mi.g_net, ↓Mi.g_is, ↓Mi.g_isnot, ↓Mi.g_ix_i, ↓Mi.g_ix_t, ↓Mi.ixv_tup, ↓Mi.ixv_lst, ↓Mi.ixv_dK, ↓Mi.g_in, ↓Mi.g_nin, ↓Mi.w_part, ↓Mi.w_sl, ↓Mi.sl_tup, ↓Mi.sl_lst, ↓Mi.sl_scr, ↓Mi.w_rev, ↓Mi.ex_lst, ↓Mi.w_get2, ↓Mi.c_g1, ↓Mi.c_max2, ↓Mi.c_min2, ↓Mi.c_tuple, ↓Mi.dtuple_tup, ↓Mi.dtuple_lst, ↓Mi.dtuple_ref, ↓Mi.w_isi, ↓Mi.setl_0, ↓Mi.setl_s, ↓Mi.w_append, ↓Mi.app_ref, ↓Mi.t_name, ↓Mi.t_tup, ↓Mi.t_nil, ↓Mi.t_cons, ↓Mi.s_next, ↓Mi.s_break, ↓Mi.s_cont, ↓Mi.s_set, ↓Mi.s_ret, ↓Mi.s_retN, ↓Mi.s_expr, ↓Mi.s_if, ↓Mi.s_asg, ↓Mi.s_store, ↓Mi.k_rt, ↓Mi.k_bk, ↓Mi.k_ct, ↓Mi.sto_s, ↓Mi.sto_L, ↓Mi.s_for, ↓Mi.s_while, ↓Mi.r_rt, ↓Mi.r_nx, ↓Mi.tn_nx, ↓Mi.tn_ct, ↓Mi.tn_bk, ↓Mi.tn_rt, ↓Mi.w_seqI, ↓Mi.w_enumI, ↓Mi.w_zipI, ↓Mi.w_range1, ↓Mi.w_range2, ↓Mi.w_range3, ↓Mi.seq_tup, ↓Mi.seq_lst, ↓Mi.seq_ref, ↓Mi.w_lc, ↓Mi.w_yes, ↓Mi.w_chain, ↓Mi.isi_ii, ↓Mi.isi_bi, ↓Mi.isi_tt, ↓Mi.is_non_dK, ↓Mi.is_non_non, ↓Mi.is_blbl, ↓Mi.upd_0, ↓Mi.upd_s, ↓Mi.see_ref, ↓Mi.see_tup, ↓Mi.see_lst, ↓Mi.see_int, ↓Mi.see_str, ↓Mi.see_bl, ↓Mi.see_non, ↓Mi.see_dK, ↓Mi.see_dT, ↓Mi.see_scr, ↓Mi.cell_0, ↓Mi.cell_s, ↓Mi.push_0, ↓Mi.push_1, ↓Mi.push_2, ↓Mi.push_3, ↓Mi.push_4, ↓Mi.push_5, ↓Mi.opt_some, ↓Mi.it_true, ↓Mi.it_false, ↓Mi.it_dec, ↓Mi.it_not, ↓Mi.g_andN, ↓Mi.g_orN, ↓Mi.g_add1, ↓Mi.n_dget, ↓Mi.n_look, ↓Mi.n_in, ↓Mi.n_sto, ↓Mi.n_disp, ↓Mi.keyd_i, ↓Mi.c_minN, ↓Mi.g_eqgetN, ↓Mi.g_negetI, ↓Mi.in_tupN, ↓Mi.n_look0, Mi.wipeR, Mi.dlen_tup, Mi.dlen_lst, Mi.dint_int, Mi.dlist_lst, Mi.dlist_tup, Mi.isl_lst, Mi.isd_dK, Mi.atI_0, Mi.atI_1, Mi.atI_2, Mi.atI_3, Mi.atI_4, List.length_cons, List.length_nil, Nat.reduceAdd, Nat.reduceLeDiff, true_and, and_true, Mi.forget, List.set_cons_zero, List.set_cons_succ, List.map_cons, List.map_nil, List.cons_append, List.nil_append, List.replicate, Nat.reduceSub, Nat.le_refl, Int.toNat_natCast, ↓g_sub, w_int]
  refine ⟨⟨by omega, by omega, by decide⟩, k_nx.mpr ?_⟩
  refine s_seq.mpr ?_
  simp only [↓Mi.w_ret, ↓Mi.w_var0, ↓Mi.w_varS, ↓Mi.w_bin, ↓Mi.w_nil, ↓Mi.w_cons, ↓Mi.w_tup, ↓Mi.w_lst, ↓Mi.w_mut, ↓Mi.w_call, ↓Mi.w_if, ↓Mi.w_and, ↓Mi.w_or, ↓Mi.w_not, ↓Mi.w_B, ↓Mi.asb_bl, ↓Mi.w_andV, ↓Mi.w_orV, ↓Mi.w_notV, ↓Mi.w_tru, ↓Mi.tru_int, ↓Mi.tru_bl, ↓Mi.tru_non, ↓Mi.tru_tup, ↓Mi.tru_lst, ↓Mi.w_neg, ↓Mi.ex_int, ↓Mi.g_xor, ↓Mi.g_lt, ↓Mi.g_le, ↓Mi.g_gt, ↓Mi.g_ge, ↓Mi.g_mul, ↓Mi.g_mod, ↓Mi.g_div, ↓Mi.g_pow, ↓Mi.g_shl, ↓Mi.g_shr, ↓Mi.g_catT, ↓Mi.g_catL, ↓Mi.g_eqi, ↓Mi.g_nei, ↓Mi.g_eqb, ↓Mi.g_neb, ↓Mi.g_eqs, ↓Mi.g_nes, ↓Mi.g_eqt, ↓Mi.g_net, ↓Mi.g_is, ↓Mi.g_isnot, ↓Mi.g_ix_i, ↓Mi.g_ix_t, ↓Mi.ixv_tup, ↓Mi.ixv_lst, ↓Mi.ixv_dK, ↓Mi.g_in, ↓Mi.g_nin, ↓Mi.w_part, ↓Mi.w_sl, ↓Mi.sl_tup, ↓Mi.sl_lst, ↓Mi.sl_scr, ↓Mi.w_rev, ↓Mi.ex_lst, ↓Mi.w_get2, ↓Mi.c_g1, ↓Mi.c_max2, ↓Mi.c_min2, ↓Mi.c_tuple, ↓Mi.dtuple_tup, ↓Mi.dtuple_lst, ↓Mi.dtuple_ref, ↓Mi.w_isi, ↓Mi.setl_0, ↓Mi.setl_s, ↓Mi.w_append, ↓Mi.app_ref, ↓Mi.t_name, ↓Mi.t_tup, ↓Mi.t_nil, ↓Mi.t_cons, ↓Mi.s_next, ↓Mi.s_break, ↓Mi.s_cont, ↓Mi.s_set, ↓Mi.s_ret, ↓Mi.s_retN, ↓Mi.s_expr, ↓Mi.s_if, ↓Mi.s_asg, ↓Mi.s_store, ↓Mi.k_rt, ↓Mi.k_bk, ↓Mi.k_ct, ↓Mi.sto_s, ↓Mi.sto_L, ↓Mi.s_for, ↓Mi.s_while, ↓Mi.r_rt, ↓Mi.r_nx, ↓Mi.tn_nx, ↓Mi.tn_ct, ↓Mi.tn_bk, ↓Mi.tn_rt, ↓Mi.w_seqI, ↓Mi.w_enumI, ↓Mi.w_zipI, ↓Mi.w_range1, ↓Mi.w_range2, ↓Mi.w_range3, ↓Mi.seq_tup, ↓Mi.seq_lst, ↓Mi.seq_ref, ↓Mi.w_lc, ↓Mi.w_yes, ↓Mi.w_chain, ↓Mi.isi_ii, ↓Mi.isi_bi, ↓Mi.isi_tt, ↓Mi.is_non_dK, ↓Mi.is_non_non, ↓Mi.is_blbl, ↓Mi.upd_0, ↓Mi.upd_s, ↓Mi.see_ref, ↓Mi.see_tup, ↓Mi.see_lst, ↓Mi.see_int, ↓Mi.see_str, ↓Mi.see_bl, ↓Mi.see_non, ↓Mi.see_dK, ↓Mi.see_dT, ↓Mi.see_scr, ↓Mi.cell_0, ↓Mi.cell_s, ↓Mi.push_0, ↓Mi.push_1, ↓Mi.push_2, ↓Mi.push_3, ↓Mi.push_4, ↓Mi.push_5, ↓Mi.opt_some, ↓Mi.it_true, ↓Mi.it_false, ↓Mi.it_dec, ↓Mi.it_not, ↓Mi.g_andN, ↓Mi.g_orN, ↓Mi.g_add1, ↓Mi.n_dget, ↓Mi.n_look, ↓Mi.n_in, ↓Mi.n_sto, ↓Mi.n_disp, ↓Mi.keyd_i, ↓Mi.c_minN, ↓Mi.g_eqgetN, ↓Mi.g_negetI, ↓Mi.in_tupN, ↓Mi.n_look0, Mi.wipeR, Mi.dlen_tup, Mi.dlen_lst, Mi.dint_int, Mi.dlist_lst, Mi.dlist_tup, Mi.isl_lst, Mi.isd_dK, Mi.atI_0, Mi.atI_1, Mi.atI_2, Mi.atI_3, Mi.atI_4, List.length_cons, List.length_nil, Nat.reduceAdd, Nat.reduceLeDiff, true_and, and_true, Mi.forget, List.set_cons_zero, List.set_cons_succ, List.map_cons, List.map_nil, List.cons_append, List.nil_append, List.replicate, Nat.reduceSub, Nat.le_refl]
  refine k_nx.mpr ?_
  refine s_seq.mpr ?_
  simp only [↓Mi.w_ret, ↓Mi.w_var0, ↓Mi.w_varS, ↓Mi.w_bin, ↓Mi.w_nil, ↓Mi.w_cons, ↓Mi.w_tup, ↓Mi.w_lst, ↓Mi.w_mut, ↓Mi.w_call, ↓Mi.w_if, ↓Mi.w_and, ↓Mi.w_or, ↓Mi.w_not, ↓Mi.w_B, ↓Mi.asb_bl, ↓Mi.w_andV, ↓Mi.w_orV, ↓Mi.w_notV, ↓Mi.w_tru, ↓Mi.tru_int, ↓Mi.tru_bl, ↓Mi.tru_non, ↓Mi.tru_tup, ↓Mi.tru_lst, ↓Mi.w_neg, ↓Mi.ex_int, ↓Mi.g_xor, ↓Mi.g_lt, ↓Mi.g_le, ↓Mi.g_gt, ↓Mi.g_ge, ↓Mi.g_mul, ↓Mi.g_mod, ↓Mi.g_div, ↓Mi.g_pow, ↓Mi.g_shl, ↓Mi.g_shr, ↓Mi.g_catT, ↓Mi.g_catL, ↓Mi.g_eqi, ↓Mi.g_nei, ↓Mi.g_eqb, ↓Mi.g_neb, ↓Mi.g_eqs, ↓Mi.g_nes, ↓Mi.g_eqt, ↓Mi.g_net, ↓Mi.g_is, ↓Mi.g_isnot, ↓Mi.g_ix_i, ↓Mi.g_ix_t, ↓Mi.ixv_tup, ↓Mi.ixv_lst, ↓Mi.ixv_dK, ↓Mi.g_in, ↓Mi.g_nin, ↓Mi.w_part, ↓Mi.w_sl, ↓Mi.sl_tup, ↓Mi.sl_lst, ↓Mi.sl_scr, ↓Mi.w_rev, ↓Mi.ex_lst, ↓Mi.w_get2, ↓Mi.c_g1, ↓Mi.c_max2, ↓Mi.c_min2, ↓Mi.c_tuple, ↓Mi.dtuple_tup, ↓Mi.dtuple_lst, ↓Mi.dtuple_ref, ↓Mi.w_isi, ↓Mi.setl_0, ↓Mi.setl_s, ↓Mi.w_append, ↓Mi.app_ref, ↓Mi.t_name, ↓Mi.t_tup, ↓Mi.t_nil, ↓Mi.t_cons, ↓Mi.s_next, ↓Mi.s_break, ↓Mi.s_cont, ↓Mi.s_set, ↓Mi.s_ret, ↓Mi.s_retN, ↓Mi.s_expr, ↓Mi.s_if, ↓Mi.s_asg, ↓Mi.s_store, ↓Mi.k_rt, ↓Mi.k_bk, ↓Mi.k_ct, ↓Mi.sto_s, ↓Mi.sto_L, ↓Mi.s_for, ↓Mi.s_while, ↓Mi.r_rt, ↓Mi.r_nx, ↓Mi.tn_nx, ↓Mi.tn_ct, ↓Mi.tn_bk, ↓Mi.tn_rt, ↓Mi.w_seqI, ↓Mi.w_enumI, ↓Mi.w_zipI, ↓Mi.w_range1, ↓Mi.w_range2, ↓Mi.w_range3, ↓Mi.seq_tup, ↓Mi.seq_lst, ↓Mi.seq_ref, ↓Mi.w_lc, ↓Mi.w_yes, ↓Mi.w_chain, ↓Mi.isi_ii, ↓Mi.isi_bi, ↓Mi.isi_tt, ↓Mi.is_non_dK, ↓Mi.is_non_non, ↓Mi.is_blbl, ↓Mi.upd_0, ↓Mi.upd_s, ↓Mi.see_ref, ↓Mi.see_tup, ↓Mi.see_lst, ↓Mi.see_int, ↓Mi.see_str, ↓Mi.see_bl, ↓Mi.see_non, ↓Mi.see_dK, ↓Mi.see_dT, ↓Mi.see_scr, ↓Mi.cell_0, ↓Mi.cell_s, ↓Mi.push_0, ↓Mi.push_1, ↓Mi.push_2, ↓Mi.push_3, ↓Mi.push_4, ↓Mi.push_5, ↓Mi.opt_some, ↓Mi.it_true, ↓Mi.it_false, ↓Mi.it_dec, ↓Mi.it_not, ↓Mi.g_andN, ↓Mi.g_orN, ↓Mi.g_add1, ↓Mi.n_dget, ↓Mi.n_look, ↓Mi.n_in, ↓Mi.n_sto, ↓Mi.n_disp, ↓Mi.keyd_i, ↓Mi.c_minN, ↓Mi.g_eqgetN, ↓Mi.g_negetI, ↓Mi.in_tupN, ↓Mi.n_look0, Mi.wipeR, Mi.dlen_tup, Mi.dlen_lst, Mi.dint_int, Mi.dlist_lst, Mi.dlist_tup, Mi.isl_lst, Mi.isd_dK, Mi.atI_0, Mi.atI_1, Mi.atI_2, Mi.atI_3, Mi.atI_4, List.length_cons, List.length_nil, Nat.reduceAdd, Nat.reduceLeDiff, true_and, and_true, Mi.forget, List.set_cons_zero, List.set_cons_succ, List.map_cons, List.map_nil, List.cons_append, List.nil_append, List.replicate, Nat.reduceSub, Nat.le_refl]
  refine k_nx.mpr ?_
  refine s_seq.mpr ?_
  simp only [↓Mi.w_ret, ↓Mi.w_var0, ↓Mi.w_varS, ↓Mi.w_bin, ↓Mi.w_nil, ↓Mi.w_cons, ↓Mi.w_tup, ↓Mi.w_lst, ↓Mi.w_mut, ↓Mi.w_call, ↓Mi.w_if, ↓Mi.w_and, ↓Mi.w_or, ↓Mi.w_not, ↓Mi.w_B, ↓Mi.asb_bl, ↓Mi.w_andV, ↓Mi.w_orV, ↓Mi.w_notV, ↓Mi.w_tru, ↓Mi.tru_int, ↓Mi.tru_bl, ↓Mi.tru_non, ↓Mi.tru_tup, ↓Mi.tru_lst, ↓Mi.w_neg, ↓Mi.ex_int, ↓Mi.g_xor, ↓Mi.g_lt, ↓Mi.g_le, ↓Mi.g_gt, ↓Mi.g_ge, ↓Mi.g_mul, ↓Mi.g_mod, ↓Mi.g_div, ↓Mi.g_pow, ↓Mi.g_shl, ↓Mi.g_shr, ↓Mi.g_catT, ↓Mi.g_catL, ↓Mi.g_eqi, ↓Mi.g_nei, ↓Mi.g_eqb, ↓Mi.g_neb, ↓Mi.g_eqs, ↓Mi.g_nes, ↓Mi.g_eqt, ↓Mi.g_net, ↓Mi.g_is, ↓Mi.g_isnot, ↓Mi.g_ix_i, ↓Mi.g_ix_t, ↓Mi.ixv_tup, ↓Mi.ixv_lst, ↓Mi.ixv_dK, ↓Mi.g_in, ↓Mi.g_nin, ↓Mi.w_part, ↓Mi.w_sl, ↓Mi.sl_tup, ↓Mi.sl_lst, ↓Mi.sl_scr, ↓Mi.w_rev, ↓Mi.ex_lst, ↓Mi.w_get2, ↓Mi.c_g1, ↓Mi.c_max2, ↓Mi.c_min2, ↓Mi.c_tuple, ↓Mi.dtuple_tup, ↓Mi.dtuple_lst, ↓Mi.dtuple_ref, ↓Mi.w_isi, ↓Mi.setl_0, ↓Mi.setl_s, ↓Mi.w_append, ↓Mi.app_ref, ↓Mi.t_name, ↓Mi.t_tup, ↓Mi.t_nil, ↓Mi.t_cons, ↓Mi.s_next, ↓Mi.s_break, ↓Mi.s_cont, ↓Mi.s_set, ↓Mi.s_ret, ↓Mi.s_retN, ↓Mi.s_expr, ↓Mi.s_if, ↓Mi.s_asg, ↓Mi.s_store, ↓Mi.k_rt, ↓Mi.k_bk, ↓Mi.k_ct, ↓Mi.sto_s, ↓Mi.sto_L, ↓Mi.s_for, ↓Mi.s_while, ↓Mi.r_rt, ↓Mi.r_nx, ↓Mi.tn_nx, ↓Mi.tn_ct, ↓Mi.tn_bk, ↓Mi.tn_rt, ↓Mi.w_seqI, ↓Mi.w_enumI, ↓Mi.w_zipI, ↓Mi.w_range1, ↓Mi.w_range2, ↓Mi.w_range3, ↓Mi.seq_tup, ↓Mi.seq_lst, ↓Mi.seq_ref, ↓Mi.w_lc, ↓Mi.w_yes, ↓Mi.w_chain, ↓Mi.isi_ii, ↓Mi.isi_bi, ↓Mi.isi_tt, ↓Mi.is_non_dK, ↓Mi.is_non_non, ↓Mi.is_blbl, ↓Mi.upd_0, ↓Mi.upd_s, ↓Mi.see_ref, ↓Mi.see_tup, ↓Mi.see_lst, ↓Mi.see_int, ↓Mi.see_str, ↓Mi.see_bl, ↓Mi.see_non, ↓Mi.see_dK, ↓Mi.see_dT, ↓Mi.see_scr, ↓Mi.cell_0, ↓Mi.cell_s, ↓Mi.push_0, ↓Mi.push_1, ↓Mi.push_2, ↓Mi.push_3, ↓Mi.push_4, ↓Mi.push_5, ↓Mi.opt_some, ↓Mi.it_true, ↓Mi.it_false, ↓Mi.it_dec, ↓Mi.it_not, ↓Mi.g_andN, ↓Mi.g_orN, ↓Mi.g_add1, ↓Mi.n_dget, ↓Mi.n_look, ↓Mi.n_in, ↓Mi.n_sto, ↓Mi.n_disp, ↓Mi.keyd_i, ↓Mi.c_minN, ↓Mi.g_eqgetN, ↓Mi.g_negetI, ↓Mi.in_tupN, ↓Mi.n_look0, Mi.wipeR, Mi.dlen_tup, Mi.dlen_lst, Mi.dint_int, Mi.dlist_lst, Mi.dlist_tup, Mi.isl_lst, Mi.isd_dK, Mi.atI_0, Mi.atI_1, Mi.atI_2, Mi.atI_3, Mi.atI_4, List.length_cons, List.length_nil, Nat.reduceAdd, Nat.reduceLeDiff, true_and, and_true, Mi.forget, List.set_cons_zero, List.set_cons_succ, List.map_cons, List.map_nil, List.cons_append, List.nil_append, List.replicate, Nat.reduceSub, Nat.le_refl]
  refine draw_ok hb 3 (by decide) _ fun r a b c e hb hr hr5 => ?_
  simp only [↓Mi.w_ret, ↓Mi.w_var0, ↓Mi.w_varS, ↓Mi.w_bin, ↓Mi.w_nil, ↓Mi.w_cons, ↓Mi.w_tup, ↓Mi.w_lst, ↓Mi.w_mut, ↓Mi.w_call, ↓Mi.w_if, ↓Mi.w_and, ↓Mi.w_or, ↓Mi.w_not, ↓Mi.w_B, ↓Mi.asb_bl, ↓Mi.w_andV, ↓Mi.w_orV, ↓Mi.w_notV, ↓Mi.w_tru, ↓Mi.tru_int, ↓Mi.tru_bl, ↓Mi.tru_non, ↓Mi.tru_tup, ↓Mi.tru_lst, ↓Mi.w_neg, ↓Mi.ex_int, ↓Mi.g_xor, ↓Mi.g_lt, ↓Mi.g_le, ↓Mi.g_gt, ↓Mi.g_ge, ↓Mi.g_mul, ↓Mi.g_mod, ↓Mi.g_div, ↓Mi.g_pow, ↓Mi.g_shl, ↓Mi.g_shr, ↓Mi.g_catT, ↓Mi.g_catL, ↓Mi.g_eqi, ↓Mi.g_nei, ↓Mi.g_eqb, ↓Mi.g_neb, ↓Mi.g_eqs, ↓Mi.g_nes, ↓Mi.g_eqt, ↓Mi.g_net, ↓Mi.g_is, ↓Mi.g_isnot, ↓Mi.g_ix_i, ↓Mi.g_ix_t, ↓Mi.ixv_tup, ↓Mi.ixv_lst, ↓Mi.ixv_dK, ↓Mi.g_in, ↓Mi.g_nin, ↓Mi.w_part, ↓Mi.w_sl, ↓Mi.sl_tup, ↓Mi.sl_lst, ↓Mi.sl_scr, ↓Mi.w_rev, ↓Mi.ex_lst, ↓Mi.w_get2, ↓Mi.c_g1, ↓Mi.c_max2, ↓Mi.c_min2, ↓Mi.c_tuple, ↓Mi.dtuple_tup, ↓Mi.dtuple_lst, ↓Mi.dtuple_ref, ↓Mi.w_isi, ↓Mi.setl_0, ↓Mi.setl_s, ↓Mi.w_append, ↓Mi.app_ref, ↓Mi.t_name, ↓Mi.t_tup, ↓Mi.t_nil, ↓Mi.t_cons, ↓Mi.s_next, ↓Mi.s_break, ↓Mi.s_cont, ↓Mi.s_set, ↓Mi.s_ret, ↓Mi.s_retN, ↓Mi.s_expr, ↓Mi.s_if, ↓Mi.s_asg, ↓Mi.s_store, ↓Mi.k_rt, ↓Mi.k_bk, ↓Mi.k_ct, ↓Mi.sto_s, ↓Mi.sto_L, ↓Mi.s_for, ↓Mi.s_while, ↓Mi.r_rt, ↓Mi.r_nx, ↓Mi.tn_nx, ↓Mi.tn_ct, ↓Mi.tn_bk, ↓Mi.tn_rt, ↓Mi.w_seqI, ↓Mi.w_enumI, ↓Mi.w_zipI, ↓Mi.w_range1, ↓Mi.w_range2, ↓Mi.w_range3, ↓Mi.seq_tup, ↓Mi.seq_lst, ↓Mi.seq_ref, ↓Mi.w_lc, ↓Mi.w_yes, ↓Mi.w_chain, ↓Mi.isi_ii, ↓Mi.isi_bi, ↓Mi.isi_tt, ↓Mi.is_non_dK, ↓Mi.is_non_non, ↓Mi.is_blbl, ↓Mi.upd_0, ↓Mi.upd_s, ↓Mi.see_ref, ↓Mi.see_tup, ↓Mi.see_lst, ↓Mi.see_int, ↓Mi.see_str, ↓Mi.see_bl, ↓Mi.see_non, ↓Mi.see_dK, ↓Mi.see_dT, ↓Mi.see_scr, ↓Mi.cell_0, ↓Mi.cell_s, ↓Mi.push_0, ↓Mi.push_1, ↓Mi.push_2, ↓Mi.push_3, ↓Mi.push_4, ↓Mi.push_5, ↓Mi.opt_some, ↓Mi.it_true, ↓Mi.it_false, ↓Mi.it_dec, ↓Mi.it_not, ↓Mi.g_andN, ↓Mi.g_orN, ↓Mi.g_add1, ↓Mi.n_dget, ↓Mi.n_look, ↓Mi.n_in, ↓Mi.n_sto, ↓Mi.n_disp, ↓Mi.keyd_i, ↓Mi.c_minN, ↓Mi.g_eqgetN, ↓Mi.g_negetI, ↓Mi.in_tupN, ↓Mi.n_look0, Mi.wipeR, Mi.dlen_tup, Mi.dlen_lst, Mi.dint_int, Mi.dlist_lst, Mi.dlist_tup, Mi.isl_lst, Mi.isd_dK, Mi.atI_0, Mi.atI_1, Mi.atI_2, Mi.atI_3, Mi.atI_4, List.length_cons, List.length_nil, Nat.reduceAdd, Nat.reduceLeDiff, true_and, and_true, Mi.forget, List.set_cons_zero, List.set_cons_succ, List.map_cons, List.map_nil, List.cons_append, List.nil_append, List.replicate, Nat.reduceSub, Nat.le_refl, ↓g_add]
  refine ⟨by unfold okR; rw [decide_eq_true (by omega), decide_eq_true (by omega)]; rfl, ?_⟩
  obtain ⟨n, hn⟩ := Int.eq_ofNat_of_zero_le (show 0 ≤ 1 + r by omega)
  rw [hn, Int.toNat_natCast, range_nat]
  have hn3 : 1 ≤ n ∧ n ≤ 3 := by omega
  refine for_ok (fun (done : List Nat) ρ μ => ∃ (a b : Int) (c : Nat) (e : Int) (needs : List (List Q4)) (rooms : List Int),
    ρ = [some (D.scr ns), some (D.ref 0), some (D.int (H : Nat)), some (D.int (W H : Nat)), some (D.ref 1), some (D.ref 2), none, none, none, none, none, none, none, none, none, none, none, none, none, none, none, none, none, none, none, none] ∧
    μ = [⟨false, dS a b c e xs⟩, ⟨false, .lst (needs.map eRow)⟩, ⟨false, .lst (rooms.map D.int)⟩] ∧ 0 ≤ b ∧ needs.length = done.length ∧ rooms.length = done.length ∧ ∀ r ∈ needs, r.length = H) _ (fun _ _ _ _ => rfl) ?_ ?_ ⟨a, b, c, e, [], [], rfl, rfl, hb, rfl, rfl, fun _ h => by cases h⟩
  · rintro done i rest ρ μ e0 ⟨a, b, c, e, needs, rooms, rfl, rfl, hb, hl1, hl2, hrows⟩
    have hdl : done.length ≤ 3 := by
      have := congrArg List.length e0
      simp at this; omega
    simp only [↓Mi.w_ret, ↓Mi.w_var0, ↓Mi.w_varS, ↓Mi.w_bin, ↓Mi.w_nil, ↓Mi.w_cons, ↓Mi.w_tup, ↓Mi.w_lst, ↓Mi.w_mut, ↓Mi.w_call, ↓Mi.w_if, ↓Mi.w_and, ↓Mi.w_or, ↓Mi.w_not, ↓Mi.w_B, ↓Mi.asb_bl, ↓Mi.w_andV, ↓Mi.w_orV, ↓Mi.w_notV, ↓Mi.w_tru, ↓Mi.tru_int, ↓Mi.tru_bl, ↓Mi.tru_non, ↓Mi.tru_tup, ↓Mi.tru_lst, ↓Mi.w_neg, ↓Mi.ex_int, ↓Mi.g_xor, ↓Mi.g_lt, ↓Mi.g_le, ↓Mi.g_gt, ↓Mi.g_ge, ↓Mi.g_mul, ↓Mi.g_mod, ↓Mi.g_div, ↓Mi.g_pow, ↓Mi.g_shl, ↓Mi.g_shr, ↓Mi.g_catT, ↓Mi.g_catL, ↓Mi.g_eqi, ↓Mi.g_nei, ↓Mi.g_eqb, ↓Mi.g_neb, ↓Mi.g_eqs, ↓Mi.g_nes, ↓Mi.g_eqt, ↓Mi.g_net, ↓Mi.g_is, ↓Mi.g_isnot, ↓Mi.g_ix_i, ↓Mi.g_ix_t, ↓Mi.ixv_tup, ↓Mi.ixv_lst, ↓Mi.ixv_dK, ↓Mi.g_in, ↓Mi.g_nin, ↓Mi.w_part, ↓Mi.w_sl, ↓Mi.sl_tup, ↓Mi.sl_lst, ↓Mi.sl_scr, ↓Mi.w_rev, ↓Mi.ex_lst, ↓Mi.w_get2, ↓Mi.c_g1, ↓Mi.c_max2, ↓Mi.c_min2, ↓Mi.c_tuple, ↓Mi.dtuple_tup, ↓Mi.dtuple_lst, ↓Mi.dtuple_ref, ↓Mi.w_isi, ↓Mi.setl_0, ↓Mi.setl_s, ↓Mi.w_append, ↓Mi.app_ref, ↓Mi.t_name, ↓Mi.t_tup, ↓Mi.t_nil, ↓Mi.t_cons, ↓Mi.s_next, ↓Mi.s_break, ↓Mi.s_cont, ↓Mi.s_set, ↓Mi.s_ret, ↓Mi.s_retN, ↓Mi.s_expr, ↓Mi.s_if, ↓Mi.s_asg, ↓Mi.s_store, ↓Mi.k_rt, ↓Mi.k_bk, ↓Mi.k_ct, ↓Mi.sto_s, ↓Mi.sto_L, ↓Mi.s_for, ↓Mi.s_while, ↓Mi.r_rt, ↓Mi.r_nx, ↓Mi.tn_nx, ↓Mi.tn_ct, ↓Mi.tn_bk, ↓Mi.tn_rt, ↓Mi.w_seqI, ↓Mi.w_enumI, ↓Mi.w_zipI, ↓Mi.w_range1, ↓Mi.w_range2, ↓Mi.w_range3, ↓Mi.seq_tup, ↓Mi.seq_lst, ↓Mi.seq_ref, ↓Mi.w_lc, ↓Mi.w_yes, ↓Mi.w_chain, ↓Mi.isi_ii, ↓Mi.isi_bi, ↓Mi.isi_tt, ↓Mi.is_non_dK, ↓Mi.is_non_non, ↓Mi.is_blbl, ↓Mi.upd_0, ↓Mi.upd_s, ↓Mi.see_ref, ↓Mi.see_tup, ↓Mi.see_lst, ↓Mi.see_int, ↓Mi.see_str, ↓Mi.see_bl, ↓Mi.see_non, ↓Mi.see_dK, ↓Mi.see_dT, ↓Mi.see_scr, ↓Mi.cell_0, ↓Mi.cell_s, ↓Mi.push_0, ↓Mi.push_1, ↓Mi.push_2, ↓Mi.push_3, ↓Mi.push_4, ↓Mi.push_5, ↓Mi.opt_some, ↓Mi.it_true, ↓Mi.it_false, ↓Mi.it_dec, ↓Mi.it_not, ↓Mi.g_andN, ↓Mi.g_orN, ↓Mi.g_add1, ↓Mi.n_dget, ↓Mi.n_look, ↓Mi.n_in, ↓Mi.n_sto, ↓Mi.n_disp, ↓Mi.keyd_i, ↓Mi.c_minN, ↓Mi.g_eqgetN, ↓Mi.g_negetI, ↓Mi.in_tupN, ↓Mi.n_look0, Mi.wipeR, Mi.dlen_tup, Mi.dlen_lst, Mi.dint_int, Mi.dlist_lst, Mi.dlist_tup, Mi.isl_lst, Mi.isd_dK, Mi.atI_0, Mi.atI_1, Mi.atI_2, Mi.atI_3, Mi.atI_4, List.length_cons, List.length_nil, Nat.reduceAdd, Nat.reduceLeDiff, true_and, and_true, Mi.forget, List.set_cons_zero, List.set_cons_succ, List.map_cons, List.map_nil, List.cons_append, List.nil_append, List.replicate, Nat.reduceSub, Nat.le_refl]
    refine s_seq.mpr ?_
    simp only [↓Mi.w_ret, ↓Mi.w_var0, ↓Mi.w_varS, ↓Mi.w_bin, ↓Mi.w_nil, ↓Mi.w_cons, ↓Mi.w_tup, ↓Mi.w_lst, ↓Mi.w_mut, ↓Mi.w_call, ↓Mi.w_if, ↓Mi.w_and, ↓Mi.w_or, ↓Mi.w_not, ↓Mi.w_B, ↓Mi.asb_bl, ↓Mi.w_andV, ↓Mi.w_orV, ↓Mi.w_notV, ↓Mi.w_tru, ↓Mi.tru_int, ↓Mi.tru_bl, ↓Mi.tru_non, ↓Mi.tru_tup, ↓Mi.tru_lst, ↓Mi.w_neg, ↓Mi.ex_int, ↓Mi.g_xor, ↓Mi.g_lt, ↓Mi.g_le, ↓Mi.g_gt, ↓Mi.g_ge, ↓Mi.g_mul, ↓Mi.g_mod, ↓Mi.g_div, ↓Mi.g_pow, ↓Mi.g_shl, ↓Mi.g_shr, ↓Mi.g_catT, ↓Mi.g_catL, ↓Mi.g_eqi, ↓Mi.g_nei, ↓Mi.g_eqb, ↓Mi.g_neb, ↓Mi.g_eqs, ↓Mi.g_nes, ↓Mi.g_eqt, ↓Mi.g_net, ↓Mi.g_is, ↓Mi.g_isnot, ↓Mi.g_ix_i, ↓Mi.g_ix_t, ↓Mi.ixv_tup, ↓Mi.ixv_lst, ↓Mi.ixv_dK, ↓Mi.g_in, ↓Mi.g_nin, ↓Mi.w_part, ↓Mi.w_sl, ↓Mi.sl_tup, ↓Mi.sl_lst, ↓Mi.sl_scr, ↓Mi.w_rev, ↓Mi.ex_lst, ↓Mi.w_get2, ↓Mi.c_g1, ↓Mi.c_max2, ↓Mi.c_min2, ↓Mi.c_tuple, ↓Mi.dtuple_tup, ↓Mi.dtuple_lst, ↓Mi.dtuple_ref, ↓Mi.w_isi, ↓Mi.setl_0, ↓Mi.setl_s, ↓Mi.w_append, ↓Mi.app_ref, ↓Mi.t_name, ↓Mi.t_tup, ↓Mi.t_nil, ↓Mi.t_cons, ↓Mi.s_next, ↓Mi.s_break, ↓Mi.s_cont, ↓Mi.s_set, ↓Mi.s_ret, ↓Mi.s_retN, ↓Mi.s_expr, ↓Mi.s_if, ↓Mi.s_asg, ↓Mi.s_store, ↓Mi.k_rt, ↓Mi.k_bk, ↓Mi.k_ct, ↓Mi.sto_s, ↓Mi.sto_L, ↓Mi.s_for, ↓Mi.s_while, ↓Mi.r_rt, ↓Mi.r_nx, ↓Mi.tn_nx, ↓Mi.tn_ct, ↓Mi.tn_bk, ↓Mi.tn_rt, ↓Mi.w_seqI, ↓Mi.w_enumI, ↓Mi.w_zipI, ↓Mi.w_range1, ↓Mi.w_range2, ↓Mi.w_range3, ↓Mi.seq_tup, ↓Mi.seq_lst, ↓Mi.seq_ref, ↓Mi.w_lc, ↓Mi.w_yes, ↓Mi.w_chain, ↓Mi.isi_ii, ↓Mi.isi_bi, ↓Mi.isi_tt, ↓Mi.is_non_dK, ↓Mi.is_non_non, ↓Mi.is_blbl, ↓Mi.upd_0, ↓Mi.upd_s, ↓Mi.see_ref, ↓Mi.see_tup, ↓Mi.see_lst, ↓Mi.see_int, ↓Mi.see_str, ↓Mi.see_bl, ↓Mi.see_non, ↓Mi.see_dK, ↓Mi.see_dT, ↓Mi.see_scr, ↓Mi.cell_0, ↓Mi.cell_s, ↓Mi.push_0, ↓Mi.push_1, ↓Mi.push_2, ↓Mi.push_3, ↓Mi.push_4, ↓Mi.push_5, ↓Mi.opt_some, ↓Mi.it_true, ↓Mi.it_false, ↓Mi.it_dec, ↓Mi.it_not, ↓Mi.g_andN, ↓Mi.g_orN, ↓Mi.g_add1, ↓Mi.n_dget, ↓Mi.n_look, ↓Mi.n_in, ↓Mi.n_sto, ↓Mi.n_disp, ↓Mi.keyd_i, ↓Mi.c_minN, ↓Mi.g_eqgetN, ↓Mi.g_negetI, ↓Mi.in_tupN, ↓Mi.n_look0, Mi.wipeR, Mi.dlen_tup, Mi.dlen_lst, Mi.dint_int, Mi.dlist_lst, Mi.dlist_tup, Mi.isl_lst, Mi.isd_dK, Mi.atI_0, Mi.atI_1, Mi.atI_2, Mi.atI_3, Mi.atI_4, List.length_cons, List.length_nil, Nat.reduceAdd, Nat.reduceLeDiff, true_and, and_true, Mi.forget, List.set_cons_zero, List.set_cons_succ, List.map_cons, List.map_nil, List.cons_append, List.nil_append, List.replicate, Nat.reduceSub, Nat.le_refl, Int.toNat_natCast]
    refine ⟨okR_nat (by omega), ?_⟩
    rw [range_nat]
    refine ⟨by simp; omega, ?_⟩
    refine lc_ok (fun (don : List Nat) ys μ => ∃ (a b : Int) (c : Nat) (e : Int) (qs : List Q4), ys = qs.map eQ ∧ qs.length = don.length ∧ 0 ≤ b ∧ μ = [⟨false, dS a b c e xs⟩, ⟨false, .lst (needs.map eRow)⟩, ⟨false, .lst (rooms.map D.int)⟩]) _ (fun _ _ _ _ => rfl) ?_ ?_ ⟨a, b, c, e, [], rfl, rfl, hb, rfl⟩
    · rintro don j rest' ys μ e1 ⟨a, b, c, e, qs, rfl, hq, hb, rfl⟩
      simp only [↓Mi.w_ret, ↓Mi.w_var0, ↓Mi.w_varS, ↓Mi.w_bin, ↓Mi.w_nil, ↓Mi.w_cons, ↓Mi.w_tup, ↓Mi.w_lst, ↓Mi.w_mut, ↓Mi.w_call, ↓Mi.w_if, ↓Mi.w_and, ↓Mi.w_or, ↓Mi.w_not, ↓Mi.w_B, ↓Mi.asb_bl, ↓Mi.w_andV, ↓Mi.w_orV, ↓Mi.w_notV, ↓Mi.w_tru, ↓Mi.tru_int, ↓Mi.tru_bl, ↓Mi.tru_non, ↓Mi.tru_tup, ↓Mi.tru_lst, ↓Mi.w_neg, ↓Mi.ex_int, ↓Mi.g_xor, ↓Mi.g_lt, ↓Mi.g_le, ↓Mi.g_gt, ↓Mi.g_ge, ↓Mi.g_mul, ↓Mi.g_mod, ↓Mi.g_div, ↓Mi.g_pow, ↓Mi.g_shl, ↓Mi.g_shr, ↓Mi.g_catT, ↓Mi.g_catL, ↓Mi.g_eqi, ↓Mi.g_nei, ↓Mi.g_eqb, ↓Mi.g_neb, ↓Mi.g_eqs, ↓Mi.g_nes, ↓Mi.g_eqt, ↓Mi.g_net, ↓Mi.g_is, ↓Mi.g_isnot, ↓Mi.g_ix_i, ↓Mi.g_ix_t, ↓Mi.ixv_tup, ↓Mi.ixv_lst, ↓Mi.ixv_dK, ↓Mi.g_in, ↓Mi.g_nin, ↓Mi.w_part, ↓Mi.w_sl, ↓Mi.sl_tup, ↓Mi.sl_lst, ↓Mi.sl_scr, ↓Mi.w_rev, ↓Mi.ex_lst, ↓Mi.w_get2, ↓Mi.c_g1, ↓Mi.c_max2, ↓Mi.c_min2, ↓Mi.c_tuple, ↓Mi.dtuple_tup, ↓Mi.dtuple_lst, ↓Mi.dtuple_ref, ↓Mi.w_isi, ↓Mi.setl_0, ↓Mi.setl_s, ↓Mi.w_append, ↓Mi.app_ref, ↓Mi.t_name, ↓Mi.t_tup, ↓Mi.t_nil, ↓Mi.t_cons, ↓Mi.s_next, ↓Mi.s_break, ↓Mi.s_cont, ↓Mi.s_set, ↓Mi.s_ret, ↓Mi.s_retN, ↓Mi.s_expr, ↓Mi.s_if, ↓Mi.s_asg, ↓Mi.s_store, ↓Mi.k_rt, ↓Mi.k_bk, ↓Mi.k_ct, ↓Mi.sto_s, ↓Mi.sto_L, ↓Mi.s_for, ↓Mi.s_while, ↓Mi.r_rt, ↓Mi.r_nx, ↓Mi.tn_nx, ↓Mi.tn_ct, ↓Mi.tn_bk, ↓Mi.tn_rt, ↓Mi.w_seqI, ↓Mi.w_enumI, ↓Mi.w_zipI, ↓Mi.w_range1, ↓Mi.w_range2, ↓Mi.w_range3, ↓Mi.seq_tup, ↓Mi.seq_lst, ↓Mi.seq_ref, ↓Mi.w_lc, ↓Mi.w_yes, ↓Mi.w_chain, ↓Mi.isi_ii, ↓Mi.isi_bi, ↓Mi.isi_tt, ↓Mi.is_non_dK, ↓Mi.is_non_non, ↓Mi.is_blbl, ↓Mi.upd_0, ↓Mi.upd_s, ↓Mi.see_ref, ↓Mi.see_tup, ↓Mi.see_lst, ↓Mi.see_int, ↓Mi.see_str, ↓Mi.see_bl, ↓Mi.see_non, ↓Mi.see_dK, ↓Mi.see_dT, ↓Mi.see_scr, ↓Mi.cell_0, ↓Mi.cell_s, ↓Mi.push_0, ↓Mi.push_1, ↓Mi.push_2, ↓Mi.push_3, ↓Mi.push_4, ↓Mi.push_5, ↓Mi.opt_some, ↓Mi.it_true, ↓Mi.it_false, ↓Mi.it_dec, ↓Mi.it_not, ↓Mi.g_andN, ↓Mi.g_orN, ↓Mi.g_add1, ↓Mi.n_dget, ↓Mi.n_look, ↓Mi.n_in, ↓Mi.n_sto, ↓Mi.n_disp, ↓Mi.keyd_i, ↓Mi.c_minN, ↓Mi.g_eqgetN, ↓Mi.g_negetI, ↓Mi.in_tupN, ↓Mi.n_look0, Mi.wipeR, Mi.dlen_tup, Mi.dlen_lst, Mi.dint_int, Mi.dlist_lst, Mi.dlist_tup, Mi.isl_lst, Mi.isd_dK, Mi.atI_0, Mi.atI_1, Mi.atI_2, Mi.atI_3, Mi.atI_4, List.length_cons, List.length_nil, Nat.reduceAdd, Nat.reduceLeDiff, true_and, and_true, Mi.forget, List.set_cons_zero, List.set_cons_succ, List.map_cons, List.map_nil, List.cons_append, List.nil_append, List.replicate, Nat.reduceSub, Nat.le_refl]
      refine ⟨by decide, ?_⟩
      rw [show rangeL 0 (Int.toNat 4) = (List.range 4).map fun k : Nat => D.int (k : Nat) from range_nat 4]
      refine ⟨by simp, ?_⟩
      refine lc_ok (fun (don : List Nat) ys μ => ∃ (a b : Int) (c : Nat) (e : Int) (vs : List Int), ys = vs.map D.int ∧ vs.length = don.length ∧ 0 ≤ b ∧ μ = [⟨false, dS a b c e xs⟩, ⟨false, .lst (needs.map eRow)⟩, ⟨false, .lst (rooms.map D.int)⟩]) _ (fun _ _ _ _ => rfl) ?_ ?_ ⟨a, b, c, e, [], rfl, rfl, hb, rfl⟩
      · rintro don' j' rest'' ys μ e2 ⟨a, b, c, e, vs, rfl, hv, hb, rfl⟩
        simp only [↓Mi.w_ret, ↓Mi.w_var0, ↓Mi.w_varS, ↓Mi.w_bin, ↓Mi.w_nil, ↓Mi.w_cons, ↓Mi.w_tup, ↓Mi.w_lst, ↓Mi.w_mut, ↓Mi.w_call, ↓Mi.w_if, ↓Mi.w_and, ↓Mi.w_or, ↓Mi.w_not, ↓Mi.w_B, ↓Mi.asb_bl, ↓Mi.w_andV, ↓Mi.w_orV, ↓Mi.w_notV, ↓Mi.w_tru, ↓Mi.tru_int, ↓Mi.tru_bl, ↓Mi.tru_non, ↓Mi.tru_tup, ↓Mi.tru_lst, ↓Mi.w_neg, ↓Mi.ex_int, ↓Mi.g_xor, ↓Mi.g_lt, ↓Mi.g_le, ↓Mi.g_gt, ↓Mi.g_ge, ↓Mi.g_mul, ↓Mi.g_mod, ↓Mi.g_div, ↓Mi.g_pow, ↓Mi.g_shl, ↓Mi.g_shr, ↓Mi.g_catT, ↓Mi.g_catL, ↓Mi.g_eqi, ↓Mi.g_nei, ↓Mi.g_eqb, ↓Mi.g_neb, ↓Mi.g_eqs, ↓Mi.g_nes, ↓Mi.g_eqt, ↓Mi.g_net, ↓Mi.g_is, ↓Mi.g_isnot, ↓Mi.g_ix_i, ↓Mi.g_ix_t, ↓Mi.ixv_tup, ↓Mi.ixv_lst, ↓Mi.ixv_dK, ↓Mi.g_in, ↓Mi.g_nin, ↓Mi.w_part, ↓Mi.w_sl, ↓Mi.sl_tup, ↓Mi.sl_lst, ↓Mi.sl_scr, ↓Mi.w_rev, ↓Mi.ex_lst, ↓Mi.w_get2, ↓Mi.c_g1, ↓Mi.c_max2, ↓Mi.c_min2, ↓Mi.c_tuple, ↓Mi.dtuple_tup, ↓Mi.dtuple_lst, ↓Mi.dtuple_ref, ↓Mi.w_isi, ↓Mi.setl_0, ↓Mi.setl_s, ↓Mi.w_append, ↓Mi.app_ref, ↓Mi.t_name, ↓Mi.t_tup, ↓Mi.t_nil, ↓Mi.t_cons, ↓Mi.s_next, ↓Mi.s_break, ↓Mi.s_cont, ↓Mi.s_set, ↓Mi.s_ret, ↓Mi.s_retN, ↓Mi.s_expr, ↓Mi.s_if, ↓Mi.s_asg, ↓Mi.s_store, ↓Mi.k_rt, ↓Mi.k_bk, ↓Mi.k_ct, ↓Mi.sto_s, ↓Mi.sto_L, ↓Mi.s_for, ↓Mi.s_while, ↓Mi.r_rt, ↓Mi.r_nx, ↓Mi.tn_nx, ↓Mi.tn_ct, ↓Mi.tn_bk, ↓Mi.tn_rt, ↓Mi.w_seqI, ↓Mi.w_enumI, ↓Mi.w_zipI, ↓Mi.w_range1, ↓Mi.w_range2, ↓Mi.w_range3, ↓Mi.seq_tup, ↓Mi.seq_lst, ↓Mi.seq_ref, ↓Mi.w_lc, ↓Mi.w_yes, ↓Mi.w_chain, ↓Mi.isi_ii, ↓Mi.isi_bi, ↓Mi.isi_tt, ↓Mi.is_non_dK, ↓Mi.is_non_non, ↓Mi.is_blbl, ↓Mi.upd_0, ↓Mi.upd_s, ↓Mi.see_ref, ↓Mi.see_tup, ↓Mi.see_lst, ↓Mi.see_int, ↓Mi.see_str, ↓Mi.see_bl, ↓Mi.see_non, ↓Mi.see_dK, ↓Mi.see_dT, ↓Mi.see_scr, ↓Mi.cell_0, ↓Mi.cell_s, ↓Mi.push_0, ↓Mi.push_1, ↓Mi.push_2, ↓Mi.push_3, ↓Mi.push_4, ↓Mi.push_5, ↓Mi.opt_some, ↓Mi.it_true, ↓Mi.it_false, ↓Mi.it_dec, ↓Mi.it_not, ↓Mi.g_andN, ↓Mi.g_orN, ↓Mi.g_add1, ↓Mi.n_dget, ↓Mi.n_look, ↓Mi.n_in, ↓Mi.n_sto, ↓Mi.n_disp, ↓Mi.keyd_i, ↓Mi.c_minN, ↓Mi.g_eqgetN, ↓Mi.g_negetI, ↓Mi.in_tupN, ↓Mi.n_look0, Mi.wipeR, Mi.dlen_tup, Mi.dlen_lst, Mi.dint_int, Mi.dlist_lst, Mi.dlist_tup, Mi.isl_lst, Mi.isd_dK, Mi.atI_0, Mi.atI_1, Mi.atI_2, Mi.atI_3, Mi.atI_4, List.length_cons, List.length_nil, Nat.reduceAdd, Nat.reduceLeDiff, true_and, and_true, Mi.forget, List.set_cons_zero, List.set_cons_succ, List.map_cons, List.map_nil, List.cons_append, List.nil_append, List.replicate, Nat.reduceSub, Nat.le_refl]
        refine draw_ok hb 4 (by decide) _ fun r a b c e hb _ _ => ⟨a, b, c, e, vs ++ [r], by simp, by simp [hv], hb, rfl⟩
      · rintro ys μ ⟨a, b, c, e, vs, rfl, hv, hb, rfl⟩
        match vs, hv with
        | [v0, v1, v2, v3], _ => exact ⟨a, b, c, e, qs ++ [(v0, v1, v2, v3)], by simp [eQ], by simp [hq], hb, rfl⟩
    · rintro ys μ ⟨a, b, c, e, qs, rfl, hq, hb, rfl⟩
      rw [List.length_range] at hq
      refine k_nx.mpr ?_
      refine s_seq.mpr ?_
      simp only [↓Mi.w_ret, ↓Mi.w_var0, ↓Mi.w_varS, ↓Mi.w_bin, ↓Mi.w_nil, ↓Mi.w_cons, ↓Mi.w_tup, ↓Mi.w_lst, ↓Mi.w_mut, ↓Mi.w_call, ↓Mi.w_if, ↓Mi.w_and, ↓Mi.w_or, ↓Mi.w_not, ↓Mi.w_B, ↓Mi.asb_bl, ↓Mi.w_andV, ↓Mi.w_orV, ↓Mi.w_notV, ↓Mi.w_tru, ↓Mi.tru_int, ↓Mi.tru_bl, ↓Mi.tru_non, ↓Mi.tru_tup, ↓Mi.tru_lst, ↓Mi.w_neg, ↓Mi.ex_int, ↓Mi.g_xor, ↓Mi.g_lt, ↓Mi.g_le, ↓Mi.g_gt, ↓Mi.g_ge, ↓Mi.g_mul, ↓Mi.g_mod, ↓Mi.g_div, ↓Mi.g_pow, ↓Mi.g_shl, ↓Mi.g_shr, ↓Mi.g_catT, ↓Mi.g_catL, ↓Mi.g_eqi, ↓Mi.g_nei, ↓Mi.g_eqb, ↓Mi.g_neb, ↓Mi.g_eqs, ↓Mi.g_nes, ↓Mi.g_eqt, ↓Mi.g_net, ↓Mi.g_is, ↓Mi.g_isnot, ↓Mi.g_ix_i, ↓Mi.g_ix_t, ↓Mi.ixv_tup, ↓Mi.ixv_lst, ↓Mi.ixv_dK, ↓Mi.g_in, ↓Mi.g_nin, ↓Mi.w_part, ↓Mi.w_sl, ↓Mi.sl_tup, ↓Mi.sl_lst, ↓Mi.sl_scr, ↓Mi.w_rev, ↓Mi.ex_lst, ↓Mi.w_get2, ↓Mi.c_g1, ↓Mi.c_max2, ↓Mi.c_min2, ↓Mi.c_tuple, ↓Mi.dtuple_tup, ↓Mi.dtuple_lst, ↓Mi.dtuple_ref, ↓Mi.w_isi, ↓Mi.setl_0, ↓Mi.setl_s, ↓Mi.w_append, ↓Mi.app_ref, ↓Mi.t_name, ↓Mi.t_tup, ↓Mi.t_nil, ↓Mi.t_cons, ↓Mi.s_next, ↓Mi.s_break, ↓Mi.s_cont, ↓Mi.s_set, ↓Mi.s_ret, ↓Mi.s_retN, ↓Mi.s_expr, ↓Mi.s_if, ↓Mi.s_asg, ↓Mi.s_store, ↓Mi.k_rt, ↓Mi.k_bk, ↓Mi.k_ct, ↓Mi.sto_s, ↓Mi.sto_L, ↓Mi.s_for, ↓Mi.s_while, ↓Mi.r_rt, ↓Mi.r_nx, ↓Mi.tn_nx, ↓Mi.tn_ct, ↓Mi.tn_bk, ↓Mi.tn_rt, ↓Mi.w_seqI, ↓Mi.w_enumI, ↓Mi.w_zipI, ↓Mi.w_range1, ↓Mi.w_range2, ↓Mi.w_range3, ↓Mi.seq_tup, ↓Mi.seq_lst, ↓Mi.seq_ref, ↓Mi.w_lc, ↓Mi.w_yes, ↓Mi.w_chain, ↓Mi.isi_ii, ↓Mi.isi_bi, ↓Mi.isi_tt, ↓Mi.is_non_dK, ↓Mi.is_non_non, ↓Mi.is_blbl, ↓Mi.upd_0, ↓Mi.upd_s, ↓Mi.see_ref, ↓Mi.see_tup, ↓Mi.see_lst, ↓Mi.see_int, ↓Mi.see_str, ↓Mi.see_bl, ↓Mi.see_non, ↓Mi.see_dK, ↓Mi.see_dT, ↓Mi.see_scr, ↓Mi.cell_0, ↓Mi.cell_s, ↓Mi.push_0, ↓Mi.push_1, ↓Mi.push_2, ↓Mi.push_3, ↓Mi.push_4, ↓Mi.push_5, ↓Mi.opt_some, ↓Mi.it_true, ↓Mi.it_false, ↓Mi.it_dec, ↓Mi.it_not, ↓Mi.g_andN, ↓Mi.g_orN, ↓Mi.g_add1, ↓Mi.n_dget, ↓Mi.n_look, ↓Mi.n_in, ↓Mi.n_sto, ↓Mi.n_disp, ↓Mi.keyd_i, ↓Mi.c_minN, ↓Mi.g_eqgetN, ↓Mi.g_negetI, ↓Mi.in_tupN, ↓Mi.n_look0, Mi.wipeR, Mi.dlen_tup, Mi.dlen_lst, Mi.dint_int, Mi.dlist_lst, Mi.dlist_tup, Mi.isl_lst, Mi.isd_dK, Mi.atI_0, Mi.atI_1, Mi.atI_2, Mi.atI_3, Mi.atI_4, List.length_cons, List.length_nil, Nat.reduceAdd, Nat.reduceLeDiff, true_and, and_true, Mi.forget, List.set_cons_zero, List.set_cons_succ, List.map_cons, List.map_nil, List.cons_append, List.nil_append, List.replicate, Nat.reduceSub, Nat.le_refl, List.length_map]
      refine ⟨by omega, k_nx.mpr ?_⟩
      refine s_seq.mpr ?_
      simp only [↓Mi.w_ret, ↓Mi.w_var0, ↓Mi.w_varS, ↓Mi.w_bin, ↓Mi.w_nil, ↓Mi.w_cons, ↓Mi.w_tup, ↓Mi.w_lst, ↓Mi.w_mut, ↓Mi.w_call, ↓Mi.w_if, ↓Mi.w_and, ↓Mi.w_or, ↓Mi.w_not, ↓Mi.w_B, ↓Mi.asb_bl, ↓Mi.w_andV, ↓Mi.w_orV, ↓Mi.w_notV, ↓Mi.w_tru, ↓Mi.tru_int, ↓Mi.tru_bl, ↓Mi.tru_non, ↓Mi.tru_tup, ↓Mi.tru_lst, ↓Mi.w_neg, ↓Mi.ex_int, ↓Mi.g_xor, ↓Mi.g_lt, ↓Mi.g_le, ↓Mi.g_gt, ↓Mi.g_ge, ↓Mi.g_mul, ↓Mi.g_mod, ↓Mi.g_div, ↓Mi.g_pow, ↓Mi.g_shl, ↓Mi.g_shr, ↓Mi.g_catT, ↓Mi.g_catL, ↓Mi.g_eqi, ↓Mi.g_nei, ↓Mi.g_eqb, ↓Mi.g_neb, ↓Mi.g_eqs, ↓Mi.g_nes, ↓Mi.g_eqt, ↓Mi.g_net, ↓Mi.g_is, ↓Mi.g_isnot, ↓Mi.g_ix_i, ↓Mi.g_ix_t, ↓Mi.ixv_tup, ↓Mi.ixv_lst, ↓Mi.ixv_dK, ↓Mi.g_in, ↓Mi.g_nin, ↓Mi.w_part, ↓Mi.w_sl, ↓Mi.sl_tup, ↓Mi.sl_lst, ↓Mi.sl_scr, ↓Mi.w_rev, ↓Mi.ex_lst, ↓Mi.w_get2, ↓Mi.c_g1, ↓Mi.c_max2, ↓Mi.c_min2, ↓Mi.c_tuple, ↓Mi.dtuple_tup, ↓Mi.dtuple_lst, ↓Mi.dtuple_ref, ↓Mi.w_isi, ↓Mi.setl_0, ↓Mi.setl_s, ↓Mi.w_append, ↓Mi.app_ref, ↓Mi.t_name, ↓Mi.t_tup, ↓Mi.t_nil, ↓Mi.t_cons, ↓Mi.s_next, ↓Mi.s_break, ↓Mi.s_cont, ↓Mi.s_set, ↓Mi.s_ret, ↓Mi.s_retN, ↓Mi.s_expr, ↓Mi.s_if, ↓Mi.s_asg, ↓Mi.s_store, ↓Mi.k_rt, ↓Mi.k_bk, ↓Mi.k_ct, ↓Mi.sto_s, ↓Mi.sto_L, ↓Mi.s_for, ↓Mi.s_while, ↓Mi.r_rt, ↓Mi.r_nx, ↓Mi.tn_nx, ↓Mi.tn_ct, ↓Mi.tn_bk, ↓Mi.tn_rt, ↓Mi.w_seqI, ↓Mi.w_enumI, ↓Mi.w_zipI, ↓Mi.w_range1, ↓Mi.w_range2, ↓Mi.w_range3, ↓Mi.seq_tup, ↓Mi.seq_lst, ↓Mi.seq_ref, ↓Mi.w_lc, ↓Mi.w_yes, ↓Mi.w_chain, ↓Mi.isi_ii, ↓Mi.isi_bi, ↓Mi.isi_tt, ↓Mi.is_non_dK, ↓Mi.is_non_non, ↓Mi.is_blbl, ↓Mi.upd_0, ↓Mi.upd_s, ↓Mi.see_ref, ↓Mi.see_tup, ↓Mi.see_lst, ↓Mi.see_int, ↓Mi.see_str, ↓Mi.see_bl, ↓Mi.see_non, ↓Mi.see_dK, ↓Mi.see_dT, ↓Mi.see_scr, ↓Mi.cell_0, ↓Mi.cell_s, ↓Mi.push_0, ↓Mi.push_1, ↓Mi.push_2, ↓Mi.push_3, ↓Mi.push_4, ↓Mi.push_5, ↓Mi.opt_some, ↓Mi.it_true, ↓Mi.it_false, ↓Mi.it_dec, ↓Mi.it_not, ↓Mi.g_andN, ↓Mi.g_orN, ↓Mi.g_add1, ↓Mi.n_dget, ↓Mi.n_look, ↓Mi.n_in, ↓Mi.n_sto, ↓Mi.n_disp, ↓Mi.keyd_i, ↓Mi.c_minN, ↓Mi.g_eqgetN, ↓Mi.g_negetI, ↓Mi.in_tupN, ↓Mi.n_look0, Mi.wipeR, Mi.dlen_tup, Mi.dlen_lst, Mi.dint_int, Mi.dlist_lst, Mi.dlist_tup, Mi.isl_lst, Mi.isd_dK, Mi.atI_0, Mi.atI_1, Mi.atI_2, Mi.atI_3, Mi.atI_4, List.length_cons, List.length_nil, Nat.reduceAdd, Nat.reduceLeDiff, true_and, and_true, Mi.forget, List.set_cons_zero, List.set_cons_succ, List.map_cons, List.map_nil, List.cons_append, List.nil_append, List.replicate, Nat.reduceSub, Nat.le_refl, List.length_map]
      refine ⟨by omega, ?_⟩
      refine lc_map (f := fun q : Q4 => .int (q.1 + q.2.2.1)) rfl (fun q hq => ?_) ?_
      · unfold eQ
        simp only [↓Mi.w_ret, ↓Mi.w_var0, ↓Mi.w_varS, ↓Mi.w_bin, ↓Mi.w_nil, ↓Mi.w_cons, ↓Mi.w_tup, ↓Mi.w_lst, ↓Mi.w_mut, ↓Mi.w_call, ↓Mi.w_if, ↓Mi.w_and, ↓Mi.w_or, ↓Mi.w_not, ↓Mi.w_B, ↓Mi.asb_bl, ↓Mi.w_andV, ↓Mi.w_orV, ↓Mi.w_notV, ↓Mi.w_tru, ↓Mi.tru_int, ↓Mi.tru_bl, ↓Mi.tru_non, ↓Mi.tru_tup, ↓Mi.tru_lst, ↓Mi.w_neg, ↓Mi.ex_int, ↓Mi.g_xor, ↓Mi.g_lt, ↓Mi.g_le, ↓Mi.g_gt, ↓Mi.g_ge, ↓Mi.g_mul, ↓Mi.g_mod, ↓Mi.g_div, ↓Mi.g_pow, ↓Mi.g_shl, ↓Mi.g_shr, ↓Mi.g_catT, ↓Mi.g_catL, ↓Mi.g_eqi, ↓Mi.g_nei, ↓Mi.g_eqb, ↓Mi.g_neb, ↓Mi.g_eqs, ↓Mi.g_nes, ↓Mi.g_eqt, ↓Mi.g_net, ↓Mi.g_is, ↓Mi.g_isnot, ↓Mi.g_ix_i, ↓Mi.g_ix_t, ↓Mi.ixv_tup, ↓Mi.ixv_lst, ↓Mi.ixv_dK, ↓Mi.g_in, ↓Mi.g_nin, ↓Mi.w_part, ↓Mi.w_sl, ↓Mi.sl_tup, ↓Mi.sl_lst, ↓Mi.sl_scr, ↓Mi.w_rev, ↓Mi.ex_lst, ↓Mi.w_get2, ↓Mi.c_g1, ↓Mi.c_max2, ↓Mi.c_min2, ↓Mi.c_tuple, ↓Mi.dtuple_tup, ↓Mi.dtuple_lst, ↓Mi.dtuple_ref, ↓Mi.w_isi, ↓Mi.setl_0, ↓Mi.setl_s, ↓Mi.w_append, ↓Mi.app_ref, ↓Mi.t_name, ↓Mi.t_tup, ↓Mi.t_nil, ↓Mi.t_cons, ↓Mi.s_next, ↓Mi.s_break, ↓Mi.s_cont, ↓Mi.s_set, ↓Mi.s_ret, ↓Mi.s_retN, ↓Mi.s_expr, ↓Mi.s_if, ↓Mi.s_asg, ↓Mi.s_store, ↓Mi.k_rt, ↓Mi.k_bk, ↓Mi.k_ct, ↓Mi.sto_s, ↓Mi.sto_L, ↓Mi.s_for, ↓Mi.s_while, ↓Mi.r_rt, ↓Mi.r_nx, ↓Mi.tn_nx, ↓Mi.tn_ct, ↓Mi.tn_bk, ↓Mi.tn_rt, ↓Mi.w_seqI, ↓Mi.w_enumI, ↓Mi.w_zipI, ↓Mi.w_range1, ↓Mi.w_range2, ↓Mi.w_range3, ↓Mi.seq_tup, ↓Mi.seq_lst, ↓Mi.seq_ref, ↓Mi.w_lc, ↓Mi.w_yes, ↓Mi.w_chain, ↓Mi.isi_ii, ↓Mi.isi_bi, ↓Mi.isi_tt, ↓Mi.is_non_dK, ↓Mi.is_non_non, ↓Mi.is_blbl, ↓Mi.upd_0, ↓Mi.upd_s, ↓Mi.see_ref, ↓Mi.see_tup, ↓Mi.see_lst, ↓Mi.see_int, ↓Mi.see_str, ↓Mi.see_bl, ↓Mi.see_non, ↓Mi.see_dK, ↓Mi.see_dT, ↓Mi.see_scr, ↓Mi.cell_0, ↓Mi.cell_s, ↓Mi.push_0, ↓Mi.push_1, ↓Mi.push_2, ↓Mi.push_3, ↓Mi.push_4, ↓Mi.push_5, ↓Mi.opt_some, ↓Mi.it_true, ↓Mi.it_false, ↓Mi.it_dec, ↓Mi.it_not, ↓Mi.g_andN, ↓Mi.g_orN, ↓Mi.g_add1, ↓Mi.n_dget, ↓Mi.n_look, ↓Mi.n_in, ↓Mi.n_sto, ↓Mi.n_disp, ↓Mi.keyd_i, ↓Mi.c_minN, ↓Mi.g_eqgetN, ↓Mi.g_negetI, ↓Mi.in_tupN, ↓Mi.n_look0, Mi.wipeR, Mi.dlen_tup, Mi.dlen_lst, Mi.dint_int, Mi.dlist_lst, Mi.dlist_tup, Mi.isl_lst, Mi.isd_dK, Mi.atI_0, Mi.atI_1, Mi.atI_2, Mi.atI_3, Mi.atI_4, List.length_cons, List.length_nil, Nat.reduceAdd, Nat.reduceLeDiff, true_and, and_true, Mi.forget, List.set_cons_zero, List.set_cons_succ, List.map_cons, List.map_nil, List.cons_append, List.nil_append, List.replicate, Nat.reduceSub, Nat.le_refl, ↓g_add]
      have e1 : qs.map (fun q : Q4 => D.int (q.1 + q.2.2.1)) ++ [D.int 0] = (qs.map (fun q : Q4 => q.1 + q.2.2.1) ++ [0]).map D.int := by simp
      simp only [↓Mi.w_ret, ↓Mi.w_var0, ↓Mi.w_varS, ↓Mi.w_bin, ↓Mi.w_nil, ↓Mi.w_cons, ↓Mi.w_tup, ↓Mi.w_lst, ↓Mi.w_mut, ↓Mi.w_call, ↓Mi.w_if, ↓Mi.w_and, ↓Mi.w_or, ↓Mi.w_not, ↓Mi.w_B, ↓Mi.asb_bl, ↓Mi.w_andV, ↓Mi.w_orV, ↓Mi.w_notV, ↓Mi.w_tru, ↓Mi.tru_int, ↓Mi.tru_bl, ↓Mi.tru_non, ↓Mi.tru_tup, ↓Mi.tru_lst, ↓Mi.w_neg, ↓Mi.ex_int, ↓Mi.g_xor, ↓Mi.g_lt, ↓Mi.g_le, ↓Mi.g_gt, ↓Mi.g_ge, ↓Mi.g_mul, ↓Mi.g_mod, ↓Mi.g_div, ↓Mi.g_pow, ↓Mi.g_shl, ↓Mi.g_shr, ↓Mi.g_catT, ↓Mi.g_catL, ↓Mi.g_eqi, ↓Mi.g_nei, ↓Mi.g_eqb, ↓Mi.g_neb, ↓Mi.g_eqs, ↓Mi.g_nes, ↓Mi.g_eqt, ↓Mi.g_net, ↓Mi.g_is, ↓Mi.g_isnot, ↓Mi.g_ix_i, ↓Mi.g_ix_t, ↓Mi.ixv_tup, ↓Mi.ixv_lst, ↓Mi.ixv_dK, ↓Mi.g_in, ↓Mi.g_nin, ↓Mi.w_part, ↓Mi.w_sl, ↓Mi.sl_tup, ↓Mi.sl_lst, ↓Mi.sl_scr, ↓Mi.w_rev, ↓Mi.ex_lst, ↓Mi.w_get2, ↓Mi.c_g1, ↓Mi.c_max2, ↓Mi.c_min2, ↓Mi.c_tuple, ↓Mi.dtuple_tup, ↓Mi.dtuple_lst, ↓Mi.dtuple_ref, ↓Mi.w_isi, ↓Mi.setl_0, ↓Mi.setl_s, ↓Mi.w_append, ↓Mi.app_ref, ↓Mi.t_name, ↓Mi.t_tup, ↓Mi.t_nil, ↓Mi.t_cons, ↓Mi.s_next, ↓Mi.s_break, ↓Mi.s_cont, ↓Mi.s_set, ↓Mi.s_ret, ↓Mi.s_retN, ↓Mi.s_expr, ↓Mi.s_if, ↓Mi.s_asg, ↓Mi.s_store, ↓Mi.k_rt, ↓Mi.k_bk, ↓Mi.k_ct, ↓Mi.sto_s, ↓Mi.sto_L, ↓Mi.s_for, ↓Mi.s_while, ↓Mi.r_rt, ↓Mi.r_nx, ↓Mi.tn_nx, ↓Mi.tn_ct, ↓Mi.tn_bk, ↓Mi.tn_rt, ↓Mi.w_seqI, ↓Mi.w_enumI, ↓Mi.w_zipI, ↓Mi.w_range1, ↓Mi.w_range2, ↓Mi.w_range3, ↓Mi.seq_tup, ↓Mi.seq_lst, ↓Mi.seq_ref, ↓Mi.w_lc, ↓Mi.w_yes, ↓Mi.w_chain, ↓Mi.isi_ii, ↓Mi.isi_bi, ↓Mi.isi_tt, ↓Mi.is_non_dK, ↓Mi.is_non_non, ↓Mi.is_blbl, ↓Mi.upd_0, ↓Mi.upd_s, ↓Mi.see_ref, ↓Mi.see_tup, ↓Mi.see_lst, ↓Mi.see_int, ↓Mi.see_str, ↓Mi.see_bl, ↓Mi.see_non, ↓Mi.see_dK, ↓Mi.see_dT, ↓Mi.see_scr, ↓Mi.cell_0, ↓Mi.cell_s, ↓Mi.push_0, ↓Mi.push_1, ↓Mi.push_2, ↓Mi.push_3, ↓Mi.push_4, ↓Mi.push_5, ↓Mi.opt_some, ↓Mi.it_true, ↓Mi.it_false, ↓Mi.it_dec, ↓Mi.it_not, ↓Mi.g_andN, ↓Mi.g_orN, ↓Mi.g_add1, ↓Mi.n_dget, ↓Mi.n_look, ↓Mi.n_in, ↓Mi.n_sto, ↓Mi.n_disp, ↓Mi.keyd_i, ↓Mi.c_minN, ↓Mi.g_eqgetN, ↓Mi.g_negetI, ↓Mi.in_tupN, ↓Mi.n_look0, Mi.wipeR, Mi.dlen_tup, Mi.dlen_lst, Mi.dint_int, Mi.dlist_lst, Mi.dlist_tup, Mi.isl_lst, Mi.isd_dK, Mi.atI_0, Mi.atI_1, Mi.atI_2, Mi.atI_3, Mi.atI_4, List.length_cons, List.length_nil, Nat.reduceAdd, Nat.reduceLeDiff, true_and, and_true, Mi.forget, List.set_cons_zero, List.set_cons_succ, List.map_cons, List.map_nil, List.cons_append, List.nil_append, List.replicate, Nat.reduceSub, Nat.le_refl, List.length_map]
      refine ⟨by omega, ?_⟩
      rw [e1, opt_sum]
      refine ⟨by omega, ?_⟩
      refine lc_map (f := fun q : Q4 => .int (q.2.1 + q.2.2.2)) rfl (fun q hq => ?_) ?_
      · unfold eQ
        simp only [↓Mi.w_ret, ↓Mi.w_var0, ↓Mi.w_varS, ↓Mi.w_bin, ↓Mi.w_nil, ↓Mi.w_cons, ↓Mi.w_tup, ↓Mi.w_lst, ↓Mi.w_mut, ↓Mi.w_call, ↓Mi.w_if, ↓Mi.w_and, ↓Mi.w_or, ↓Mi.w_not, ↓Mi.w_B, ↓Mi.asb_bl, ↓Mi.w_andV, ↓Mi.w_orV, ↓Mi.w_notV, ↓Mi.w_tru, ↓Mi.tru_int, ↓Mi.tru_bl, ↓Mi.tru_non, ↓Mi.tru_tup, ↓Mi.tru_lst, ↓Mi.w_neg, ↓Mi.ex_int, ↓Mi.g_xor, ↓Mi.g_lt, ↓Mi.g_le, ↓Mi.g_gt, ↓Mi.g_ge, ↓Mi.g_mul, ↓Mi.g_mod, ↓Mi.g_div, ↓Mi.g_pow, ↓Mi.g_shl, ↓Mi.g_shr, ↓Mi.g_catT, ↓Mi.g_catL, ↓Mi.g_eqi, ↓Mi.g_nei, ↓Mi.g_eqb, ↓Mi.g_neb, ↓Mi.g_eqs, ↓Mi.g_nes, ↓Mi.g_eqt, ↓Mi.g_net, ↓Mi.g_is, ↓Mi.g_isnot, ↓Mi.g_ix_i, ↓Mi.g_ix_t, ↓Mi.ixv_tup, ↓Mi.ixv_lst, ↓Mi.ixv_dK, ↓Mi.g_in, ↓Mi.g_nin, ↓Mi.w_part, ↓Mi.w_sl, ↓Mi.sl_tup, ↓Mi.sl_lst, ↓Mi.sl_scr, ↓Mi.w_rev, ↓Mi.ex_lst, ↓Mi.w_get2, ↓Mi.c_g1, ↓Mi.c_max2, ↓Mi.c_min2, ↓Mi.c_tuple, ↓Mi.dtuple_tup, ↓Mi.dtuple_lst, ↓Mi.dtuple_ref, ↓Mi.w_isi, ↓Mi.setl_0, ↓Mi.setl_s, ↓Mi.w_append, ↓Mi.app_ref, ↓Mi.t_name, ↓Mi.t_tup, ↓Mi.t_nil, ↓Mi.t_cons, ↓Mi.s_next, ↓Mi.s_break, ↓Mi.s_cont, ↓Mi.s_set, ↓Mi.s_ret, ↓Mi.s_retN, ↓Mi.s_expr, ↓Mi.s_if, ↓Mi.s_asg, ↓Mi.s_store, ↓Mi.k_rt, ↓Mi.k_bk, ↓Mi.k_ct, ↓Mi.sto_s, ↓Mi.sto_L, ↓Mi.s_for, ↓Mi.s_while, ↓Mi.r_rt, ↓Mi.r_nx, ↓Mi.tn_nx, ↓Mi.tn_ct, ↓Mi.tn_bk, ↓Mi.tn_rt, ↓Mi.w_seqI, ↓Mi.w_enumI, ↓Mi.w_zipI, ↓Mi.w_range1, ↓Mi.w_range2, ↓Mi.w_range3, ↓Mi.seq_tup, ↓Mi.seq_lst, ↓Mi.seq_ref, ↓Mi.w_lc, ↓Mi.w_yes, ↓Mi.w_chain, ↓Mi.isi_ii, ↓Mi.isi_bi, ↓Mi.isi_tt, ↓Mi.is_non_dK, ↓Mi.is_non_non, ↓Mi.is_blbl, ↓Mi.upd_0, ↓Mi.upd_s, ↓Mi.see_ref, ↓Mi.see_tup, ↓Mi.see_lst, ↓Mi.see_int, ↓Mi.see_str, ↓Mi.see_bl, ↓Mi.see_non, ↓Mi.see_dK, ↓Mi.see_dT, ↓Mi.see_scr, ↓Mi.cell_0, ↓Mi.cell_s, ↓Mi.push_0, ↓Mi.push_1, ↓Mi.push_2, ↓Mi.push_3, ↓Mi.push_4, ↓Mi.push_5, ↓Mi.opt_some, ↓Mi.it_true, ↓Mi.it_false, ↓Mi.it_dec, ↓Mi.it_not, ↓Mi.g_andN, ↓Mi.g_orN, ↓Mi.g_add1, ↓Mi.n_dget, ↓Mi.n_look, ↓Mi.n_in, ↓Mi.n_sto, ↓Mi.n_disp, ↓Mi.keyd_i, ↓Mi.c_minN, ↓Mi.g_eqgetN, ↓Mi.g_negetI, ↓Mi.in_tupN, ↓Mi.n_look0, Mi.wipeR, Mi.dlen_tup, Mi.dlen_lst, Mi.dint_int, Mi.dlist_lst, Mi.dlist_tup, Mi.isl_lst, Mi.isd_dK, Mi.atI_0, Mi.atI_1, Mi.atI_2, Mi.atI_3, Mi.atI_4, List.length_cons, List.length_nil, Nat.reduceAdd, Nat.reduceLeDiff, true_and, and_true, Mi.forget, List.set_cons_zero, List.set_cons_succ, List.map_cons, List.map_nil, List.cons_append, List.nil_append, List.replicate, Nat.reduceSub, Nat.le_refl, ↓g_add]
      have e2 : qs.map (fun q : Q4 => D.int (q.2.1 + q.2.2.2)) ++ [D.int 0] = (qs.map (fun q : Q4 => q.2.1 + q.2.2.2) ++ [0]).map D.int := by simp
      simp only [↓Mi.w_ret, ↓Mi.w_var0, ↓Mi.w_varS, ↓Mi.w_bin, ↓Mi.w_nil, ↓Mi.w_cons, ↓Mi.w_tup, ↓Mi.w_lst, ↓Mi.w_mut, ↓Mi.w_call, ↓Mi.w_if, ↓Mi.w_and, ↓Mi.w_or, ↓Mi.w_not, ↓Mi.w_B, ↓Mi.asb_bl, ↓Mi.w_andV, ↓Mi.w_orV, ↓Mi.w_notV, ↓Mi.w_tru, ↓Mi.tru_int, ↓Mi.tru_bl, ↓Mi.tru_non, ↓Mi.tru_tup, ↓Mi.tru_lst, ↓Mi.w_neg, ↓Mi.ex_int, ↓Mi.g_xor, ↓Mi.g_lt, ↓Mi.g_le, ↓Mi.g_gt, ↓Mi.g_ge, ↓Mi.g_mul, ↓Mi.g_mod, ↓Mi.g_div, ↓Mi.g_pow, ↓Mi.g_shl, ↓Mi.g_shr, ↓Mi.g_catT, ↓Mi.g_catL, ↓Mi.g_eqi, ↓Mi.g_nei, ↓Mi.g_eqb, ↓Mi.g_neb, ↓Mi.g_eqs, ↓Mi.g_nes, ↓Mi.g_eqt, ↓Mi.g_net, ↓Mi.g_is, ↓Mi.g_isnot, ↓Mi.g_ix_i, ↓Mi.g_ix_t, ↓Mi.ixv_tup, ↓Mi.ixv_lst, ↓Mi.ixv_dK, ↓Mi.g_in, ↓Mi.g_nin, ↓Mi.w_part, ↓Mi.w_sl, ↓Mi.sl_tup, ↓Mi.sl_lst, ↓Mi.sl_scr, ↓Mi.w_rev, ↓Mi.ex_lst, ↓Mi.w_get2, ↓Mi.c_g1, ↓Mi.c_max2, ↓Mi.c_min2, ↓Mi.c_tuple, ↓Mi.dtuple_tup, ↓Mi.dtuple_lst, ↓Mi.dtuple_ref, ↓Mi.w_isi, ↓Mi.setl_0, ↓Mi.setl_s, ↓Mi.w_append, ↓Mi.app_ref, ↓Mi.t_name, ↓Mi.t_tup, ↓Mi.t_nil, ↓Mi.t_cons, ↓Mi.s_next, ↓Mi.s_break, ↓Mi.s_cont, ↓Mi.s_set, ↓Mi.s_ret, ↓Mi.s_retN, ↓Mi.s_expr, ↓Mi.s_if, ↓Mi.s_asg, ↓Mi.s_store, ↓Mi.k_rt, ↓Mi.k_bk, ↓Mi.k_ct, ↓Mi.sto_s, ↓Mi.sto_L, ↓Mi.s_for, ↓Mi.s_while, ↓Mi.r_rt, ↓Mi.r_nx, ↓Mi.tn_nx, ↓Mi.tn_ct, ↓Mi.tn_bk, ↓Mi.tn_rt, ↓Mi.w_seqI, ↓Mi.w_enumI, ↓Mi.w_zipI, ↓Mi.w_range1, ↓Mi.w_range2, ↓Mi.w_range3, ↓Mi.seq_tup, ↓Mi.seq_lst, ↓Mi.seq_ref, ↓Mi.w_lc, ↓Mi.w_yes, ↓Mi.w_chain, ↓Mi.isi_ii, ↓Mi.isi_bi, ↓Mi.isi_tt, ↓Mi.is_non_dK, ↓Mi.is_non_non, ↓Mi.is_blbl, ↓Mi.upd_0, ↓Mi.upd_s, ↓Mi.see_ref, ↓Mi.see_tup, ↓Mi.see_lst, ↓Mi.see_int, ↓Mi.see_str, ↓Mi.see_bl, ↓Mi.see_non, ↓Mi.see_dK, ↓Mi.see_dT, ↓Mi.see_scr, ↓Mi.cell_0, ↓Mi.cell_s, ↓Mi.push_0, ↓Mi.push_1, ↓Mi.push_2, ↓Mi.push_3, ↓Mi.push_4, ↓Mi.push_5, ↓Mi.opt_some, ↓Mi.it_true, ↓Mi.it_false, ↓Mi.it_dec, ↓Mi.it_not, ↓Mi.g_andN, ↓Mi.g_orN, ↓Mi.g_add1, ↓Mi.n_dget, ↓Mi.n_look, ↓Mi.n_in, ↓Mi.n_sto, ↓Mi.n_disp, ↓Mi.keyd_i, ↓Mi.c_minN, ↓Mi.g_eqgetN, ↓Mi.g_negetI, ↓Mi.in_tupN, ↓Mi.n_look0, Mi.wipeR, Mi.dlen_tup, Mi.dlen_lst, Mi.dint_int, Mi.dlist_lst, Mi.dlist_tup, Mi.isl_lst, Mi.isd_dK, Mi.atI_0, Mi.atI_1, Mi.atI_2, Mi.atI_3, Mi.atI_4, List.length_cons, List.length_nil, Nat.reduceAdd, Nat.reduceLeDiff, true_and, and_true, Mi.forget, List.set_cons_zero, List.set_cons_succ, List.map_cons, List.map_nil, List.cons_append, List.nil_append, List.replicate, Nat.reduceSub, Nat.le_refl, List.length_map]
      refine ⟨by omega, ?_⟩
      rw [e2, opt_sum]
      simp only [↓Mi.w_ret, ↓Mi.w_var0, ↓Mi.w_varS, ↓Mi.w_bin, ↓Mi.w_nil, ↓Mi.w_cons, ↓Mi.w_tup, ↓Mi.w_lst, ↓Mi.w_mut, ↓Mi.w_call, ↓Mi.w_if, ↓Mi.w_and, ↓Mi.w_or, ↓Mi.w_not, ↓Mi.w_B, ↓Mi.asb_bl, ↓Mi.w_andV, ↓Mi.w_orV, ↓Mi.w_notV, ↓Mi.w_tru, ↓Mi.tru_int, ↓Mi.tru_bl, ↓Mi.tru_non, ↓Mi.tru_tup, ↓Mi.tru_lst, ↓Mi.w_neg, ↓Mi.ex_int, ↓Mi.g_xor, ↓Mi.g_lt, ↓Mi.g_le, ↓Mi.g_gt, ↓Mi.g_ge, ↓Mi.g_mul, ↓Mi.g_mod, ↓Mi.g_div, ↓Mi.g_pow, ↓Mi.g_shl, ↓Mi.g_shr, ↓Mi.g_catT, ↓Mi.g_catL, ↓Mi.g_eqi, ↓Mi.g_nei, ↓Mi.g_eqb, ↓Mi.g_neb, ↓Mi.g_eqs, ↓Mi.g_nes, ↓Mi.g_eqt, ↓Mi.g_net, ↓Mi.g_is, ↓Mi.g_isnot, ↓Mi.g_ix_i, ↓Mi.g_ix_t, ↓Mi.ixv_tup, ↓Mi.ixv_lst, ↓Mi.ixv_dK, ↓Mi.g_in, ↓Mi.g_nin, ↓Mi.w_part, ↓Mi.w_sl, ↓Mi.sl_tup, ↓Mi.sl_lst, ↓Mi.sl_scr, ↓Mi.w_rev, ↓Mi.ex_lst, ↓Mi.w_get2, ↓Mi.c_g1, ↓Mi.c_max2, ↓Mi.c_min2, ↓Mi.c_tuple, ↓Mi.dtuple_tup, ↓Mi.dtuple_lst, ↓Mi.dtuple_ref, ↓Mi.w_isi, ↓Mi.setl_0, ↓Mi.setl_s, ↓Mi.w_append, ↓Mi.app_ref, ↓Mi.t_name, ↓Mi.t_tup, ↓Mi.t_nil, ↓Mi.t_cons, ↓Mi.s_next, ↓Mi.s_break, ↓Mi.s_cont, ↓Mi.s_set, ↓Mi.s_ret, ↓Mi.s_retN, ↓Mi.s_expr, ↓Mi.s_if, ↓Mi.s_asg, ↓Mi.s_store, ↓Mi.k_rt, ↓Mi.k_bk, ↓Mi.k_ct, ↓Mi.sto_s, ↓Mi.sto_L, ↓Mi.s_for, ↓Mi.s_while, ↓Mi.r_rt, ↓Mi.r_nx, ↓Mi.tn_nx, ↓Mi.tn_ct, ↓Mi.tn_bk, ↓Mi.tn_rt, ↓Mi.w_seqI, ↓Mi.w_enumI, ↓Mi.w_zipI, ↓Mi.w_range1, ↓Mi.w_range2, ↓Mi.w_range3, ↓Mi.seq_tup, ↓Mi.seq_lst, ↓Mi.seq_ref, ↓Mi.w_lc, ↓Mi.w_yes, ↓Mi.w_chain, ↓Mi.isi_ii, ↓Mi.isi_bi, ↓Mi.isi_tt, ↓Mi.is_non_dK, ↓Mi.is_non_non, ↓Mi.is_blbl, ↓Mi.upd_0, ↓Mi.upd_s, ↓Mi.see_ref, ↓Mi.see_tup, ↓Mi.see_lst, ↓Mi.see_int, ↓Mi.see_str, ↓Mi.see_bl, ↓Mi.see_non, ↓Mi.see_dK, ↓Mi.see_dT, ↓Mi.see_scr, ↓Mi.cell_0, ↓Mi.cell_s, ↓Mi.push_0, ↓Mi.push_1, ↓Mi.push_2, ↓Mi.push_3, ↓Mi.push_4, ↓Mi.push_5, ↓Mi.opt_some, ↓Mi.it_true, ↓Mi.it_false, ↓Mi.it_dec, ↓Mi.it_not, ↓Mi.g_andN, ↓Mi.g_orN, ↓Mi.g_add1, ↓Mi.n_dget, ↓Mi.n_look, ↓Mi.n_in, ↓Mi.n_sto, ↓Mi.n_disp, ↓Mi.keyd_i, ↓Mi.c_minN, ↓Mi.g_eqgetN, ↓Mi.g_negetI, ↓Mi.in_tupN, ↓Mi.n_look0, Mi.wipeR, Mi.dlen_tup, Mi.dlen_lst, Mi.dint_int, Mi.dlist_lst, Mi.dlist_tup, Mi.isl_lst, Mi.isd_dK, Mi.atI_0, Mi.atI_1, Mi.atI_2, Mi.atI_3, Mi.atI_4, List.length_cons, List.length_nil, Nat.reduceAdd, Nat.reduceLeDiff, true_and, and_true, Mi.forget, List.set_cons_zero, List.set_cons_succ, List.map_cons, List.map_nil, List.cons_append, List.nil_append, List.replicate, Nat.reduceSub, Nat.le_refl]
      refine k_nx.mpr ?_
      simp only [↓Mi.w_ret, ↓Mi.w_var0, ↓Mi.w_varS, ↓Mi.w_bin, ↓Mi.w_nil, ↓Mi.w_cons, ↓Mi.w_tup, ↓Mi.w_lst, ↓Mi.w_mut, ↓Mi.w_call, ↓Mi.w_if, ↓Mi.w_and, ↓Mi.w_or, ↓Mi.w_not, ↓Mi.w_B, ↓Mi.asb_bl, ↓Mi.w_andV, ↓Mi.w_orV, ↓Mi.w_notV, ↓Mi.w_tru, ↓Mi.tru_int, ↓Mi.tru_bl, ↓Mi.tru_non, ↓Mi.tru_tup, ↓Mi.tru_lst, ↓Mi.w_neg, ↓Mi.ex_int, ↓Mi.g_xor, ↓Mi.g_lt, ↓Mi.g_le, ↓Mi.g_gt, ↓Mi.g_ge, ↓Mi.g_mul, ↓Mi.g_mod, ↓Mi.g_div, ↓Mi.g_pow, ↓Mi.g_shl, ↓Mi.g_shr, ↓Mi.g_catT, ↓Mi.g_catL, ↓Mi.g_eqi, ↓Mi.g_nei, ↓Mi.g_eqb, ↓Mi.g_neb, ↓Mi.g_eqs, ↓Mi.g_nes, ↓Mi.g_eqt, ↓Mi.g_net, ↓Mi.g_is, ↓Mi.g_isnot, ↓Mi.g_ix_i, ↓Mi.g_ix_t, ↓Mi.ixv_tup, ↓Mi.ixv_lst, ↓Mi.ixv_dK, ↓Mi.g_in, ↓Mi.g_nin, ↓Mi.w_part, ↓Mi.w_sl, ↓Mi.sl_tup, ↓Mi.sl_lst, ↓Mi.sl_scr, ↓Mi.w_rev, ↓Mi.ex_lst, ↓Mi.w_get2, ↓Mi.c_g1, ↓Mi.c_max2, ↓Mi.c_min2, ↓Mi.c_tuple, ↓Mi.dtuple_tup, ↓Mi.dtuple_lst, ↓Mi.dtuple_ref, ↓Mi.w_isi, ↓Mi.setl_0, ↓Mi.setl_s, ↓Mi.w_append, ↓Mi.app_ref, ↓Mi.t_name, ↓Mi.t_tup, ↓Mi.t_nil, ↓Mi.t_cons, ↓Mi.s_next, ↓Mi.s_break, ↓Mi.s_cont, ↓Mi.s_set, ↓Mi.s_ret, ↓Mi.s_retN, ↓Mi.s_expr, ↓Mi.s_if, ↓Mi.s_asg, ↓Mi.s_store, ↓Mi.k_rt, ↓Mi.k_bk, ↓Mi.k_ct, ↓Mi.sto_s, ↓Mi.sto_L, ↓Mi.s_for, ↓Mi.s_while, ↓Mi.r_rt, ↓Mi.r_nx, ↓Mi.tn_nx, ↓Mi.tn_ct, ↓Mi.tn_bk, ↓Mi.tn_rt, ↓Mi.w_seqI, ↓Mi.w_enumI, ↓Mi.w_zipI, ↓Mi.w_range1, ↓Mi.w_range2, ↓Mi.w_range3, ↓Mi.seq_tup, ↓Mi.seq_lst, ↓Mi.seq_ref, ↓Mi.w_lc, ↓Mi.w_yes, ↓Mi.w_chain, ↓Mi.isi_ii, ↓Mi.isi_bi, ↓Mi.isi_tt, ↓Mi.is_non_dK, ↓Mi.is_non_non, ↓Mi.is_blbl, ↓Mi.upd_0, ↓Mi.upd_s, ↓Mi.see_ref, ↓Mi.see_tup, ↓Mi.see_lst, ↓Mi.see_int, ↓Mi.see_str, ↓Mi.see_bl, ↓Mi.see_non, ↓Mi.see_dK, ↓Mi.see_dT, ↓Mi.see_scr, ↓Mi.cell_0, ↓Mi.cell_s, ↓Mi.push_0, ↓Mi.push_1, ↓Mi.push_2, ↓Mi.push_3, ↓Mi.push_4, ↓Mi.push_5, ↓Mi.opt_some, ↓Mi.it_true, ↓Mi.it_false, ↓Mi.it_dec, ↓Mi.it_not, ↓Mi.g_andN, ↓Mi.g_orN, ↓Mi.g_add1, ↓Mi.n_dget, ↓Mi.n_look, ↓Mi.n_in, ↓Mi.n_sto, ↓Mi.n_disp, ↓Mi.keyd_i, ↓Mi.c_minN, ↓Mi.g_eqgetN, ↓Mi.g_negetI, ↓Mi.in_tupN, ↓Mi.n_look0, Mi.wipeR, Mi.dlen_tup, Mi.dlen_lst, Mi.dint_int, Mi.dlist_lst, Mi.dlist_tup, Mi.isl_lst, Mi.isd_dK, Mi.atI_0, Mi.atI_1, Mi.atI_2, Mi.atI_3, Mi.atI_4, List.length_cons, List.length_nil, Nat.reduceAdd, Nat.reduceLeDiff, true_and, and_true, Mi.forget, List.set_cons_zero, List.set_cons_succ, List.map_cons, List.map_nil, List.cons_append, List.nil_append, List.replicate, Nat.reduceSub, Nat.le_refl]
      refine draw_ok hb 7 (by decide) _ fun r a b c e hb _ _ => ?_
      simp only [↓Mi.w_ret, ↓Mi.w_var0, ↓Mi.w_varS, ↓Mi.w_bin, ↓Mi.w_nil, ↓Mi.w_cons, ↓Mi.w_tup, ↓Mi.w_lst, ↓Mi.w_mut, ↓Mi.w_call, ↓Mi.w_if, ↓Mi.w_and, ↓Mi.w_or, ↓Mi.w_not, ↓Mi.w_B, ↓Mi.asb_bl, ↓Mi.w_andV, ↓Mi.w_orV, ↓Mi.w_notV, ↓Mi.w_tru, ↓Mi.tru_int, ↓Mi.tru_bl, ↓Mi.tru_non, ↓Mi.tru_tup, ↓Mi.tru_lst, ↓Mi.w_neg, ↓Mi.ex_int, ↓Mi.g_xor, ↓Mi.g_lt, ↓Mi.g_le, ↓Mi.g_gt, ↓Mi.g_ge, ↓Mi.g_mul, ↓Mi.g_mod, ↓Mi.g_div, ↓Mi.g_pow, ↓Mi.g_shl, ↓Mi.g_shr, ↓Mi.g_catT, ↓Mi.g_catL, ↓Mi.g_eqi, ↓Mi.g_nei, ↓Mi.g_eqb, ↓Mi.g_neb, ↓Mi.g_eqs, ↓Mi.g_nes, ↓Mi.g_eqt, ↓Mi.g_net, ↓Mi.g_is, ↓Mi.g_isnot, ↓Mi.g_ix_i, ↓Mi.g_ix_t, ↓Mi.ixv_tup, ↓Mi.ixv_lst, ↓Mi.ixv_dK, ↓Mi.g_in, ↓Mi.g_nin, ↓Mi.w_part, ↓Mi.w_sl, ↓Mi.sl_tup, ↓Mi.sl_lst, ↓Mi.sl_scr, ↓Mi.w_rev, ↓Mi.ex_lst, ↓Mi.w_get2, ↓Mi.c_g1, ↓Mi.c_max2, ↓Mi.c_min2, ↓Mi.c_tuple, ↓Mi.dtuple_tup, ↓Mi.dtuple_lst, ↓Mi.dtuple_ref, ↓Mi.w_isi, ↓Mi.setl_0, ↓Mi.setl_s, ↓Mi.w_append, ↓Mi.app_ref, ↓Mi.t_name, ↓Mi.t_tup, ↓Mi.t_nil, ↓Mi.t_cons, ↓Mi.s_next, ↓Mi.s_break, ↓Mi.s_cont, ↓Mi.s_set, ↓Mi.s_ret, ↓Mi.s_retN, ↓Mi.s_expr, ↓Mi.s_if, ↓Mi.s_asg, ↓Mi.s_store, ↓Mi.k_rt, ↓Mi.k_bk, ↓Mi.k_ct, ↓Mi.sto_s, ↓Mi.sto_L, ↓Mi.s_for, ↓Mi.s_while, ↓Mi.r_rt, ↓Mi.r_nx, ↓Mi.tn_nx, ↓Mi.tn_ct, ↓Mi.tn_bk, ↓Mi.tn_rt, ↓Mi.w_seqI, ↓Mi.w_enumI, ↓Mi.w_zipI, ↓Mi.w_range1, ↓Mi.w_range2, ↓Mi.w_range3, ↓Mi.seq_tup, ↓Mi.seq_lst, ↓Mi.seq_ref, ↓Mi.w_lc, ↓Mi.w_yes, ↓Mi.w_chain, ↓Mi.isi_ii, ↓Mi.isi_bi, ↓Mi.isi_tt, ↓Mi.is_non_dK, ↓Mi.is_non_non, ↓Mi.is_blbl, ↓Mi.upd_0, ↓Mi.upd_s, ↓Mi.see_ref, ↓Mi.see_tup, ↓Mi.see_lst, ↓Mi.see_int, ↓Mi.see_str, ↓Mi.see_bl, ↓Mi.see_non, ↓Mi.see_dK, ↓Mi.see_dT, ↓Mi.see_scr, ↓Mi.cell_0, ↓Mi.cell_s, ↓Mi.push_0, ↓Mi.push_1, ↓Mi.push_2, ↓Mi.push_3, ↓Mi.push_4, ↓Mi.push_5, ↓Mi.opt_some, ↓Mi.it_true, ↓Mi.it_false, ↓Mi.it_dec, ↓Mi.it_not, ↓Mi.g_andN, ↓Mi.g_orN, ↓Mi.g_add1, ↓Mi.n_dget, ↓Mi.n_look, ↓Mi.n_in, ↓Mi.n_sto, ↓Mi.n_disp, ↓Mi.keyd_i, ↓Mi.c_minN, ↓Mi.g_eqgetN, ↓Mi.g_negetI, ↓Mi.in_tupN, ↓Mi.n_look0, Mi.wipeR, Mi.dlen_tup, Mi.dlen_lst, Mi.dint_int, Mi.dlist_lst, Mi.dlist_tup, Mi.isl_lst, Mi.isd_dK, Mi.atI_0, Mi.atI_1, Mi.atI_2, Mi.atI_3, Mi.atI_4, List.length_cons, List.length_nil, Nat.reduceAdd, Nat.reduceLeDiff, true_and, and_true, Mi.forget, List.set_cons_zero, List.set_cons_succ, List.map_cons, List.map_nil, List.cons_append, List.nil_append, List.replicate, Nat.reduceSub, Nat.le_refl, ↓g_add, ↓g_sub, List.length_map]
      refine ⟨by omega, a, b, c, e, needs ++ [qs], rooms ++ [max 0 (max (qs.map (fun q : Q4 => q.1 + q.2.2.1) ++ [0]).sum (qs.map (fun q : Q4 => q.2.1 + q.2.2.2) ++ [0]).sum + r - 1)], ?_, hb, by simp [hl1], by simp [hl2], fun r hr => ?_⟩
      · rw [List.map_append, List.map_append]; rfl
      · rcases List.mem_append.mp hr with hr | hr
        · exact hrows r hr
        · simp at hr; subst hr; exact hq
  · rintro ρ μ ⟨a, b, c, e, needs, rooms, rfl, rfl, hb, hl1, hl2, hrows⟩
    rw [List.length_range] at hl1 hl2
    refine k_nx.mpr ?_
    refine s_seq.mpr ?_
    simp only [↓Mi.w_ret, ↓Mi.w_var0, ↓Mi.w_varS, ↓Mi.w_bin, ↓Mi.w_nil, ↓Mi.w_cons, ↓Mi.w_tup, ↓Mi.w_lst, ↓Mi.w_mut, ↓Mi.w_call, ↓Mi.w_if, ↓Mi.w_and, ↓Mi.w_or, ↓Mi.w_not, ↓Mi.w_B, ↓Mi.asb_bl, ↓Mi.w_andV, ↓Mi.w_orV, ↓Mi.w_notV, ↓Mi.w_tru, ↓Mi.tru_int, ↓Mi.tru_bl, ↓Mi.tru_non, ↓Mi.tru_tup, ↓Mi.tru_lst, ↓Mi.w_neg, ↓Mi.ex_int, ↓Mi.g_xor, ↓Mi.g_lt, ↓Mi.g_le, ↓Mi.g_gt, ↓Mi.g_ge, ↓Mi.g_mul, ↓Mi.g_mod, ↓Mi.g_div, ↓Mi.g_pow, ↓Mi.g_shl, ↓Mi.g_shr, ↓Mi.g_catT, ↓Mi.g_catL, ↓Mi.g_eqi, ↓Mi.g_nei, ↓Mi.g_eqb, ↓Mi.g_neb, ↓Mi.g_eqs, ↓Mi.g_nes, ↓Mi.g_eqt, ↓Mi.g_net, ↓Mi.g_is, ↓Mi.g_isnot, ↓Mi.g_ix_i, ↓Mi.g_ix_t, ↓Mi.ixv_tup, ↓Mi.ixv_lst, ↓Mi.ixv_dK, ↓Mi.g_in, ↓Mi.g_nin, ↓Mi.w_part, ↓Mi.w_sl, ↓Mi.sl_tup, ↓Mi.sl_lst, ↓Mi.sl_scr, ↓Mi.w_rev, ↓Mi.ex_lst, ↓Mi.w_get2, ↓Mi.c_g1, ↓Mi.c_max2, ↓Mi.c_min2, ↓Mi.c_tuple, ↓Mi.dtuple_tup, ↓Mi.dtuple_lst, ↓Mi.dtuple_ref, ↓Mi.w_isi, ↓Mi.setl_0, ↓Mi.setl_s, ↓Mi.w_append, ↓Mi.app_ref, ↓Mi.t_name, ↓Mi.t_tup, ↓Mi.t_nil, ↓Mi.t_cons, ↓Mi.s_next, ↓Mi.s_break, ↓Mi.s_cont, ↓Mi.s_set, ↓Mi.s_ret, ↓Mi.s_retN, ↓Mi.s_expr, ↓Mi.s_if, ↓Mi.s_asg, ↓Mi.s_store, ↓Mi.k_rt, ↓Mi.k_bk, ↓Mi.k_ct, ↓Mi.sto_s, ↓Mi.sto_L, ↓Mi.s_for, ↓Mi.s_while, ↓Mi.r_rt, ↓Mi.r_nx, ↓Mi.tn_nx, ↓Mi.tn_ct, ↓Mi.tn_bk, ↓Mi.tn_rt, ↓Mi.w_seqI, ↓Mi.w_enumI, ↓Mi.w_zipI, ↓Mi.w_range1, ↓Mi.w_range2, ↓Mi.w_range3, ↓Mi.seq_tup, ↓Mi.seq_lst, ↓Mi.seq_ref, ↓Mi.w_lc, ↓Mi.w_yes, ↓Mi.w_chain, ↓Mi.isi_ii, ↓Mi.isi_bi, ↓Mi.isi_tt, ↓Mi.is_non_dK, ↓Mi.is_non_non, ↓Mi.is_blbl, ↓Mi.upd_0, ↓Mi.upd_s, ↓Mi.see_ref, ↓Mi.see_tup, ↓Mi.see_lst, ↓Mi.see_int, ↓Mi.see_str, ↓Mi.see_bl, ↓Mi.see_non, ↓Mi.see_dK, ↓Mi.see_dT, ↓Mi.see_scr, ↓Mi.cell_0, ↓Mi.cell_s, ↓Mi.push_0, ↓Mi.push_1, ↓Mi.push_2, ↓Mi.push_3, ↓Mi.push_4, ↓Mi.push_5, ↓Mi.opt_some, ↓Mi.it_true, ↓Mi.it_false, ↓Mi.it_dec, ↓Mi.it_not, ↓Mi.g_andN, ↓Mi.g_orN, ↓Mi.g_add1, ↓Mi.n_dget, ↓Mi.n_look, ↓Mi.n_in, ↓Mi.n_sto, ↓Mi.n_disp, ↓Mi.keyd_i, ↓Mi.c_minN, ↓Mi.g_eqgetN, ↓Mi.g_negetI, ↓Mi.in_tupN, ↓Mi.n_look0, Mi.wipeR, Mi.dlen_tup, Mi.dlen_lst, Mi.dint_int, Mi.dlist_lst, Mi.dlist_tup, Mi.isl_lst, Mi.isd_dK, Mi.atI_0, Mi.atI_1, Mi.atI_2, Mi.atI_3, Mi.atI_4, List.length_cons, List.length_nil, Nat.reduceAdd, Nat.reduceLeDiff, true_and, and_true, Mi.forget, List.set_cons_zero, List.set_cons_succ, List.map_cons, List.map_nil, List.cons_append, List.nil_append, List.replicate, Nat.reduceSub, Nat.le_refl]
    refine k_nx.mpr ?_
    refine s_seq.mpr ?_
    simp only [↓Mi.w_ret, ↓Mi.w_var0, ↓Mi.w_varS, ↓Mi.w_bin, ↓Mi.w_nil, ↓Mi.w_cons, ↓Mi.w_tup, ↓Mi.w_lst, ↓Mi.w_mut, ↓Mi.w_call, ↓Mi.w_if, ↓Mi.w_and, ↓Mi.w_or, ↓Mi.w_not, ↓Mi.w_B, ↓Mi.asb_bl, ↓Mi.w_andV, ↓Mi.w_orV, ↓Mi.w_notV, ↓Mi.w_tru, ↓Mi.tru_int, ↓Mi.tru_bl, ↓Mi.tru_non, ↓Mi.tru_tup, ↓Mi.tru_lst, ↓Mi.w_neg, ↓Mi.ex_int, ↓Mi.g_xor, ↓Mi.g_lt, ↓Mi.g_le, ↓Mi.g_gt, ↓Mi.g_ge, ↓Mi.g_mul, ↓Mi.g_mod, ↓Mi.g_div, ↓Mi.g_pow, ↓Mi.g_shl, ↓Mi.g_shr, ↓Mi.g_catT, ↓Mi.g_catL, ↓Mi.g_eqi, ↓Mi.g_nei, ↓Mi.g_eqb, ↓Mi.g_neb, ↓Mi.g_eqs, ↓Mi.g_nes, ↓Mi.g_eqt, ↓Mi.g_net, ↓Mi.g_is, ↓Mi.g_isnot, ↓Mi.g_ix_i, ↓Mi.g_ix_t, ↓Mi.ixv_tup, ↓Mi.ixv_lst, ↓Mi.ixv_dK, ↓Mi.g_in, ↓Mi.g_nin, ↓Mi.w_part, ↓Mi.w_sl, ↓Mi.sl_tup, ↓Mi.sl_lst, ↓Mi.sl_scr, ↓Mi.w_rev, ↓Mi.ex_lst, ↓Mi.w_get2, ↓Mi.c_g1, ↓Mi.c_max2, ↓Mi.c_min2, ↓Mi.c_tuple, ↓Mi.dtuple_tup, ↓Mi.dtuple_lst, ↓Mi.dtuple_ref, ↓Mi.w_isi, ↓Mi.setl_0, ↓Mi.setl_s, ↓Mi.w_append, ↓Mi.app_ref, ↓Mi.t_name, ↓Mi.t_tup, ↓Mi.t_nil, ↓Mi.t_cons, ↓Mi.s_next, ↓Mi.s_break, ↓Mi.s_cont, ↓Mi.s_set, ↓Mi.s_ret, ↓Mi.s_retN, ↓Mi.s_expr, ↓Mi.s_if, ↓Mi.s_asg, ↓Mi.s_store, ↓Mi.k_rt, ↓Mi.k_bk, ↓Mi.k_ct, ↓Mi.sto_s, ↓Mi.sto_L, ↓Mi.s_for, ↓Mi.s_while, ↓Mi.r_rt, ↓Mi.r_nx, ↓Mi.tn_nx, ↓Mi.tn_ct, ↓Mi.tn_bk, ↓Mi.tn_rt, ↓Mi.w_seqI, ↓Mi.w_enumI, ↓Mi.w_zipI, ↓Mi.w_range1, ↓Mi.w_range2, ↓Mi.w_range3, ↓Mi.seq_tup, ↓Mi.seq_lst, ↓Mi.seq_ref, ↓Mi.w_lc, ↓Mi.w_yes, ↓Mi.w_chain, ↓Mi.isi_ii, ↓Mi.isi_bi, ↓Mi.isi_tt, ↓Mi.is_non_dK, ↓Mi.is_non_non, ↓Mi.is_blbl, ↓Mi.upd_0, ↓Mi.upd_s, ↓Mi.see_ref, ↓Mi.see_tup, ↓Mi.see_lst, ↓Mi.see_int, ↓Mi.see_str, ↓Mi.see_bl, ↓Mi.see_non, ↓Mi.see_dK, ↓Mi.see_dT, ↓Mi.see_scr, ↓Mi.cell_0, ↓Mi.cell_s, ↓Mi.push_0, ↓Mi.push_1, ↓Mi.push_2, ↓Mi.push_3, ↓Mi.push_4, ↓Mi.push_5, ↓Mi.opt_some, ↓Mi.it_true, ↓Mi.it_false, ↓Mi.it_dec, ↓Mi.it_not, ↓Mi.g_andN, ↓Mi.g_orN, ↓Mi.g_add1, ↓Mi.n_dget, ↓Mi.n_look, ↓Mi.n_in, ↓Mi.n_sto, ↓Mi.n_disp, ↓Mi.keyd_i, ↓Mi.c_minN, ↓Mi.g_eqgetN, ↓Mi.g_negetI, ↓Mi.in_tupN, ↓Mi.n_look0, Mi.wipeR, Mi.dlen_tup, Mi.dlen_lst, Mi.dint_int, Mi.dlist_lst, Mi.dlist_tup, Mi.isl_lst, Mi.isd_dK, Mi.atI_0, Mi.atI_1, Mi.atI_2, Mi.atI_3, Mi.atI_4, List.length_cons, List.length_nil, Nat.reduceAdd, Nat.reduceLeDiff, true_and, and_true, Mi.forget, List.set_cons_zero, List.set_cons_succ, List.map_cons, List.map_nil, List.cons_append, List.nil_append, List.replicate, Nat.reduceSub, Nat.le_refl]
    refine k_nx.mpr ?_
    have ok : Ok H rooms needs := ⟨by omega, by rintro rfl; simp at hl1; omega, hrows, hH, by omega⟩
    have hw := W_lt hH
    have hrow : ∀ row ∈ needs, row.length ≤ 1000 := fun r hr => by rw [hrows r hr]; omega
    refine s_seq.mpr ?_
    simp only [↓Mi.w_ret, ↓Mi.w_var0, ↓Mi.w_varS, ↓Mi.w_bin, ↓Mi.w_nil, ↓Mi.w_cons, ↓Mi.w_tup, ↓Mi.w_lst, ↓Mi.w_mut, ↓Mi.w_call, ↓Mi.w_if, ↓Mi.w_and, ↓Mi.w_or, ↓Mi.w_not, ↓Mi.w_B, ↓Mi.asb_bl, ↓Mi.w_andV, ↓Mi.w_orV, ↓Mi.w_notV, ↓Mi.w_tru, ↓Mi.tru_int, ↓Mi.tru_bl, ↓Mi.tru_non, ↓Mi.tru_tup, ↓Mi.tru_lst, ↓Mi.w_neg, ↓Mi.ex_int, ↓Mi.g_xor, ↓Mi.g_lt, ↓Mi.g_le, ↓Mi.g_gt, ↓Mi.g_ge, ↓Mi.g_mul, ↓Mi.g_mod, ↓Mi.g_div, ↓Mi.g_pow, ↓Mi.g_shl, ↓Mi.g_shr, ↓Mi.g_catT, ↓Mi.g_catL, ↓Mi.g_eqi, ↓Mi.g_nei, ↓Mi.g_eqb, ↓Mi.g_neb, ↓Mi.g_eqs, ↓Mi.g_nes, ↓Mi.g_eqt, ↓Mi.g_net, ↓Mi.g_is, ↓Mi.g_isnot, ↓Mi.g_ix_i, ↓Mi.g_ix_t, ↓Mi.ixv_tup, ↓Mi.ixv_lst, ↓Mi.ixv_dK, ↓Mi.g_in, ↓Mi.g_nin, ↓Mi.w_part, ↓Mi.w_sl, ↓Mi.sl_tup, ↓Mi.sl_lst, ↓Mi.sl_scr, ↓Mi.w_rev, ↓Mi.ex_lst, ↓Mi.w_get2, ↓Mi.c_g1, ↓Mi.c_max2, ↓Mi.c_min2, ↓Mi.c_tuple, ↓Mi.dtuple_tup, ↓Mi.dtuple_lst, ↓Mi.dtuple_ref, ↓Mi.w_isi, ↓Mi.setl_0, ↓Mi.setl_s, ↓Mi.w_append, ↓Mi.app_ref, ↓Mi.t_name, ↓Mi.t_tup, ↓Mi.t_nil, ↓Mi.t_cons, ↓Mi.s_next, ↓Mi.s_break, ↓Mi.s_cont, ↓Mi.s_set, ↓Mi.s_ret, ↓Mi.s_retN, ↓Mi.s_expr, ↓Mi.s_if, ↓Mi.s_asg, ↓Mi.s_store, ↓Mi.k_rt, ↓Mi.k_bk, ↓Mi.k_ct, ↓Mi.sto_s, ↓Mi.sto_L, ↓Mi.s_for, ↓Mi.s_while, ↓Mi.r_rt, ↓Mi.r_nx, ↓Mi.tn_nx, ↓Mi.tn_ct, ↓Mi.tn_bk, ↓Mi.tn_rt, ↓Mi.w_seqI, ↓Mi.w_enumI, ↓Mi.w_zipI, ↓Mi.w_range1, ↓Mi.w_range2, ↓Mi.w_range3, ↓Mi.seq_tup, ↓Mi.seq_lst, ↓Mi.seq_ref, ↓Mi.w_lc, ↓Mi.w_yes, ↓Mi.w_chain, ↓Mi.isi_ii, ↓Mi.isi_bi, ↓Mi.isi_tt, ↓Mi.is_non_dK, ↓Mi.is_non_non, ↓Mi.is_blbl, ↓Mi.upd_0, ↓Mi.upd_s, ↓Mi.see_ref, ↓Mi.see_tup, ↓Mi.see_lst, ↓Mi.see_int, ↓Mi.see_str, ↓Mi.see_bl, ↓Mi.see_non, ↓Mi.see_dK, ↓Mi.see_dT, ↓Mi.see_scr, ↓Mi.cell_0, ↓Mi.cell_s, ↓Mi.push_0, ↓Mi.push_1, ↓Mi.push_2, ↓Mi.push_3, ↓Mi.push_4, ↓Mi.push_5, ↓Mi.opt_some, ↓Mi.it_true, ↓Mi.it_false, ↓Mi.it_dec, ↓Mi.it_not, ↓Mi.g_andN, ↓Mi.g_orN, ↓Mi.g_add1, ↓Mi.n_dget, ↓Mi.n_look, ↓Mi.n_in, ↓Mi.n_sto, ↓Mi.n_disp, ↓Mi.keyd_i, ↓Mi.c_minN, ↓Mi.g_eqgetN, ↓Mi.g_negetI, ↓Mi.in_tupN, ↓Mi.n_look0, Mi.wipeR, Mi.dlen_tup, Mi.dlen_lst, Mi.dint_int, Mi.dlist_lst, Mi.dlist_tup, Mi.isl_lst, Mi.isd_dK, Mi.atI_0, Mi.atI_1, Mi.atI_2, Mi.atI_3, Mi.atI_4, List.length_cons, List.length_nil, Nat.reduceAdd, Nat.reduceLeDiff, true_and, and_true, Mi.forget, List.set_cons_zero, List.set_cons_succ, List.map_cons, List.map_nil, List.cons_append, List.nil_append, List.replicate, Nat.reduceSub, Nat.le_refl]
    refine ⟨by decide, ?_⟩
    rw [show rangeL 0 (Int.toNat 4) = (List.range 4).map fun k : Nat => D.int (k : Nat) from range_nat 4]
    refine for_ok (fun (done : List Nat) ρ μ => ∃ (a b : Int) (c : Nat) (e : Int),
      ρ = [some (D.scr ns), some (D.ref 0), some (D.int (H : Nat)), some (D.int (W H : Nat)), some (eNeeds needs), some (eInts rooms), none, none, none, none, none, none, none, none, none, none, none, none, none, none, none, none, none, none, none, none] ∧
      μ = [⟨false, dS a b c e xs⟩, ⟨false, .lst (needs.map eRow)⟩, ⟨false, .lst (rooms.map D.int)⟩] ∧ 0 ≤ b) _ (fun _ _ _ _ => rfl) ?_ ?_ ⟨a, b, c, e, rfl, rfl, hb⟩
    · rintro done i rest ρ μ e0 ⟨a, b, c, e, rfl, rfl, hb⟩
      simp only [↓Mi.w_ret, ↓Mi.w_var0, ↓Mi.w_varS, ↓Mi.w_bin, ↓Mi.w_nil, ↓Mi.w_cons, ↓Mi.w_tup, ↓Mi.w_lst, ↓Mi.w_mut, ↓Mi.w_call, ↓Mi.w_if, ↓Mi.w_and, ↓Mi.w_or, ↓Mi.w_not, ↓Mi.w_B, ↓Mi.asb_bl, ↓Mi.w_andV, ↓Mi.w_orV, ↓Mi.w_notV, ↓Mi.w_tru, ↓Mi.tru_int, ↓Mi.tru_bl, ↓Mi.tru_non, ↓Mi.tru_tup, ↓Mi.tru_lst, ↓Mi.w_neg, ↓Mi.ex_int, ↓Mi.g_xor, ↓Mi.g_lt, ↓Mi.g_le, ↓Mi.g_gt, ↓Mi.g_ge, ↓Mi.g_mul, ↓Mi.g_mod, ↓Mi.g_div, ↓Mi.g_pow, ↓Mi.g_shl, ↓Mi.g_shr, ↓Mi.g_catT, ↓Mi.g_catL, ↓Mi.g_eqi, ↓Mi.g_nei, ↓Mi.g_eqb, ↓Mi.g_neb, ↓Mi.g_eqs, ↓Mi.g_nes, ↓Mi.g_eqt, ↓Mi.g_net, ↓Mi.g_is, ↓Mi.g_isnot, ↓Mi.g_ix_i, ↓Mi.g_ix_t, ↓Mi.ixv_tup, ↓Mi.ixv_lst, ↓Mi.ixv_dK, ↓Mi.g_in, ↓Mi.g_nin, ↓Mi.w_part, ↓Mi.w_sl, ↓Mi.sl_tup, ↓Mi.sl_lst, ↓Mi.sl_scr, ↓Mi.w_rev, ↓Mi.ex_lst, ↓Mi.w_get2, ↓Mi.c_g1, ↓Mi.c_max2, ↓Mi.c_min2, ↓Mi.c_tuple, ↓Mi.dtuple_tup, ↓Mi.dtuple_lst, ↓Mi.dtuple_ref, ↓Mi.w_isi, ↓Mi.setl_0, ↓Mi.setl_s, ↓Mi.w_append, ↓Mi.app_ref, ↓Mi.t_name, ↓Mi.t_tup, ↓Mi.t_nil, ↓Mi.t_cons, ↓Mi.s_next, ↓Mi.s_break, ↓Mi.s_cont, ↓Mi.s_set, ↓Mi.s_ret, ↓Mi.s_retN, ↓Mi.s_expr, ↓Mi.s_if, ↓Mi.s_asg, ↓Mi.s_store, ↓Mi.k_rt, ↓Mi.k_bk, ↓Mi.k_ct, ↓Mi.sto_s, ↓Mi.sto_L, ↓Mi.s_for, ↓Mi.s_while, ↓Mi.r_rt, ↓Mi.r_nx, ↓Mi.tn_nx, ↓Mi.tn_ct, ↓Mi.tn_bk, ↓Mi.tn_rt, ↓Mi.w_seqI, ↓Mi.w_enumI, ↓Mi.w_zipI, ↓Mi.w_range1, ↓Mi.w_range2, ↓Mi.w_range3, ↓Mi.seq_tup, ↓Mi.seq_lst, ↓Mi.seq_ref, ↓Mi.w_lc, ↓Mi.w_yes, ↓Mi.w_chain, ↓Mi.isi_ii, ↓Mi.isi_bi, ↓Mi.isi_tt, ↓Mi.is_non_dK, ↓Mi.is_non_non, ↓Mi.is_blbl, ↓Mi.upd_0, ↓Mi.upd_s, ↓Mi.see_ref, ↓Mi.see_tup, ↓Mi.see_lst, ↓Mi.see_int, ↓Mi.see_str, ↓Mi.see_bl, ↓Mi.see_non, ↓Mi.see_dK, ↓Mi.see_dT, ↓Mi.see_scr, ↓Mi.cell_0, ↓Mi.cell_s, ↓Mi.push_0, ↓Mi.push_1, ↓Mi.push_2, ↓Mi.push_3, ↓Mi.push_4, ↓Mi.push_5, ↓Mi.opt_some, ↓Mi.it_true, ↓Mi.it_false, ↓Mi.it_dec, ↓Mi.it_not, ↓Mi.g_andN, ↓Mi.g_orN, ↓Mi.g_add1, ↓Mi.n_dget, ↓Mi.n_look, ↓Mi.n_in, ↓Mi.n_sto, ↓Mi.n_disp, ↓Mi.keyd_i, ↓Mi.c_minN, ↓Mi.g_eqgetN, ↓Mi.g_negetI, ↓Mi.in_tupN, ↓Mi.n_look0, Mi.wipeR, Mi.dlen_tup, Mi.dlen_lst, Mi.dint_int, Mi.dlist_lst, Mi.dlist_tup, Mi.isl_lst, Mi.isd_dK, Mi.atI_0, Mi.atI_1, Mi.atI_2, Mi.atI_3, Mi.atI_4, List.length_cons, List.length_nil, Nat.reduceAdd, Nat.reduceLeDiff, true_and, and_true, Mi.forget, List.set_cons_zero, List.set_cons_succ, List.map_cons, List.map_nil, List.cons_append, List.nil_append, List.replicate, Nat.reduceSub, Nat.le_refl]
      refine s_seq.mpr ?_
      simp only [↓Mi.w_ret, ↓Mi.w_var0, ↓Mi.w_varS, ↓Mi.w_bin, ↓Mi.w_nil, ↓Mi.w_cons, ↓Mi.w_tup, ↓Mi.w_lst, ↓Mi.w_mut, ↓Mi.w_call, ↓Mi.w_if, ↓Mi.w_and, ↓Mi.w_or, ↓Mi.w_not, ↓Mi.w_B, ↓Mi.asb_bl, ↓Mi.w_andV, ↓Mi.w_orV, ↓Mi.w_notV, ↓Mi.w_tru, ↓Mi.tru_int, ↓Mi.tru_bl, ↓Mi.tru_non, ↓Mi.tru_tup, ↓Mi.tru_lst, ↓Mi.w_neg, ↓Mi.ex_int, ↓Mi.g_xor, ↓Mi.g_lt, ↓Mi.g_le, ↓Mi.g_gt, ↓Mi.g_ge, ↓Mi.g_mul, ↓Mi.g_mod, ↓Mi.g_div, ↓Mi.g_pow, ↓Mi.g_shl, ↓Mi.g_shr, ↓Mi.g_catT, ↓Mi.g_catL, ↓Mi.g_eqi, ↓Mi.g_nei, ↓Mi.g_eqb, ↓Mi.g_neb, ↓Mi.g_eqs, ↓Mi.g_nes, ↓Mi.g_eqt, ↓Mi.g_net, ↓Mi.g_is, ↓Mi.g_isnot, ↓Mi.g_ix_i, ↓Mi.g_ix_t, ↓Mi.ixv_tup, ↓Mi.ixv_lst, ↓Mi.ixv_dK, ↓Mi.g_in, ↓Mi.g_nin, ↓Mi.w_part, ↓Mi.w_sl, ↓Mi.sl_tup, ↓Mi.sl_lst, ↓Mi.sl_scr, ↓Mi.w_rev, ↓Mi.ex_lst, ↓Mi.w_get2, ↓Mi.c_g1, ↓Mi.c_max2, ↓Mi.c_min2, ↓Mi.c_tuple, ↓Mi.dtuple_tup, ↓Mi.dtuple_lst, ↓Mi.dtuple_ref, ↓Mi.w_isi, ↓Mi.setl_0, ↓Mi.setl_s, ↓Mi.w_append, ↓Mi.app_ref, ↓Mi.t_name, ↓Mi.t_tup, ↓Mi.t_nil, ↓Mi.t_cons, ↓Mi.s_next, ↓Mi.s_break, ↓Mi.s_cont, ↓Mi.s_set, ↓Mi.s_ret, ↓Mi.s_retN, ↓Mi.s_expr, ↓Mi.s_if, ↓Mi.s_asg, ↓Mi.s_store, ↓Mi.k_rt, ↓Mi.k_bk, ↓Mi.k_ct, ↓Mi.sto_s, ↓Mi.sto_L, ↓Mi.s_for, ↓Mi.s_while, ↓Mi.r_rt, ↓Mi.r_nx, ↓Mi.tn_nx, ↓Mi.tn_ct, ↓Mi.tn_bk, ↓Mi.tn_rt, ↓Mi.w_seqI, ↓Mi.w_enumI, ↓Mi.w_zipI, ↓Mi.w_range1, ↓Mi.w_range2, ↓Mi.w_range3, ↓Mi.seq_tup, ↓Mi.seq_lst, ↓Mi.seq_ref, ↓Mi.w_lc, ↓Mi.w_yes, ↓Mi.w_chain, ↓Mi.isi_ii, ↓Mi.isi_bi, ↓Mi.isi_tt, ↓Mi.is_non_dK, ↓Mi.is_non_non, ↓Mi.is_blbl, ↓Mi.upd_0, ↓Mi.upd_s, ↓Mi.see_ref, ↓Mi.see_tup, ↓Mi.see_lst, ↓Mi.see_int, ↓Mi.see_str, ↓Mi.see_bl, ↓Mi.see_non, ↓Mi.see_dK, ↓Mi.see_dT, ↓Mi.see_scr, ↓Mi.cell_0, ↓Mi.cell_s, ↓Mi.push_0, ↓Mi.push_1, ↓Mi.push_2, ↓Mi.push_3, ↓Mi.push_4, ↓Mi.push_5, ↓Mi.opt_some, ↓Mi.it_true, ↓Mi.it_false, ↓Mi.it_dec, ↓Mi.it_not, ↓Mi.g_andN, ↓Mi.g_orN, ↓Mi.g_add1, ↓Mi.n_dget, ↓Mi.n_look, ↓Mi.n_in, ↓Mi.n_sto, ↓Mi.n_disp, ↓Mi.keyd_i, ↓Mi.c_minN, ↓Mi.g_eqgetN, ↓Mi.g_negetI, ↓Mi.in_tupN, ↓Mi.n_look0, Mi.wipeR, Mi.dlen_tup, Mi.dlen_lst, Mi.dint_int, Mi.dlist_lst, Mi.dlist_tup, Mi.isl_lst, Mi.isd_dK, Mi.atI_0, Mi.atI_1, Mi.atI_2, Mi.atI_3, Mi.atI_4, List.length_cons, List.length_nil, Nat.reduceAdd, Nat.reduceLeDiff, true_and, and_true, Mi.forget, List.set_cons_zero, List.set_cons_succ, List.map_cons, List.map_nil, List.cons_append, List.nil_append, List.replicate, Nat.reduceSub, Nat.le_refl]
      refine draw_ok hb _ (by omega) _ fun t a b c e hb _ _ => k_nx.mpr ?_
      refine s_seq.mpr ?_
      simp only [↓Mi.w_ret, ↓Mi.w_var0, ↓Mi.w_varS, ↓Mi.w_bin, ↓Mi.w_nil, ↓Mi.w_cons, ↓Mi.w_tup, ↓Mi.w_lst, ↓Mi.w_mut, ↓Mi.w_call, ↓Mi.w_if, ↓Mi.w_and, ↓Mi.w_or, ↓Mi.w_not, ↓Mi.w_B, ↓Mi.asb_bl, ↓Mi.w_andV, ↓Mi.w_orV, ↓Mi.w_notV, ↓Mi.w_tru, ↓Mi.tru_int, ↓Mi.tru_bl, ↓Mi.tru_non, ↓Mi.tru_tup, ↓Mi.tru_lst, ↓Mi.w_neg, ↓Mi.ex_int, ↓Mi.g_xor, ↓Mi.g_lt, ↓Mi.g_le, ↓Mi.g_gt, ↓Mi.g_ge, ↓Mi.g_mul, ↓Mi.g_mod, ↓Mi.g_div, ↓Mi.g_pow, ↓Mi.g_shl, ↓Mi.g_shr, ↓Mi.g_catT, ↓Mi.g_catL, ↓Mi.g_eqi, ↓Mi.g_nei, ↓Mi.g_eqb, ↓Mi.g_neb, ↓Mi.g_eqs, ↓Mi.g_nes, ↓Mi.g_eqt, ↓Mi.g_net, ↓Mi.g_is, ↓Mi.g_isnot, ↓Mi.g_ix_i, ↓Mi.g_ix_t, ↓Mi.ixv_tup, ↓Mi.ixv_lst, ↓Mi.ixv_dK, ↓Mi.g_in, ↓Mi.g_nin, ↓Mi.w_part, ↓Mi.w_sl, ↓Mi.sl_tup, ↓Mi.sl_lst, ↓Mi.sl_scr, ↓Mi.w_rev, ↓Mi.ex_lst, ↓Mi.w_get2, ↓Mi.c_g1, ↓Mi.c_max2, ↓Mi.c_min2, ↓Mi.c_tuple, ↓Mi.dtuple_tup, ↓Mi.dtuple_lst, ↓Mi.dtuple_ref, ↓Mi.w_isi, ↓Mi.setl_0, ↓Mi.setl_s, ↓Mi.w_append, ↓Mi.app_ref, ↓Mi.t_name, ↓Mi.t_tup, ↓Mi.t_nil, ↓Mi.t_cons, ↓Mi.s_next, ↓Mi.s_break, ↓Mi.s_cont, ↓Mi.s_set, ↓Mi.s_ret, ↓Mi.s_retN, ↓Mi.s_expr, ↓Mi.s_if, ↓Mi.s_asg, ↓Mi.s_store, ↓Mi.k_rt, ↓Mi.k_bk, ↓Mi.k_ct, ↓Mi.sto_s, ↓Mi.sto_L, ↓Mi.s_for, ↓Mi.s_while, ↓Mi.r_rt, ↓Mi.r_nx, ↓Mi.tn_nx, ↓Mi.tn_ct, ↓Mi.tn_bk, ↓Mi.tn_rt, ↓Mi.w_seqI, ↓Mi.w_enumI, ↓Mi.w_zipI, ↓Mi.w_range1, ↓Mi.w_range2, ↓Mi.w_range3, ↓Mi.seq_tup, ↓Mi.seq_lst, ↓Mi.seq_ref, ↓Mi.w_lc, ↓Mi.w_yes, ↓Mi.w_chain, ↓Mi.isi_ii, ↓Mi.isi_bi, ↓Mi.isi_tt, ↓Mi.is_non_dK, ↓Mi.is_non_non, ↓Mi.is_blbl, ↓Mi.upd_0, ↓Mi.upd_s, ↓Mi.see_ref, ↓Mi.see_tup, ↓Mi.see_lst, ↓Mi.see_int, ↓Mi.see_str, ↓Mi.see_bl, ↓Mi.see_non, ↓Mi.see_dK, ↓Mi.see_dT, ↓Mi.see_scr, ↓Mi.cell_0, ↓Mi.cell_s, ↓Mi.push_0, ↓Mi.push_1, ↓Mi.push_2, ↓Mi.push_3, ↓Mi.push_4, ↓Mi.push_5, ↓Mi.opt_some, ↓Mi.it_true, ↓Mi.it_false, ↓Mi.it_dec, ↓Mi.it_not, ↓Mi.g_andN, ↓Mi.g_orN, ↓Mi.g_add1, ↓Mi.n_dget, ↓Mi.n_look, ↓Mi.n_in, ↓Mi.n_sto, ↓Mi.n_disp, ↓Mi.keyd_i, ↓Mi.c_minN, ↓Mi.g_eqgetN, ↓Mi.g_negetI, ↓Mi.in_tupN, ↓Mi.n_look0, Mi.wipeR, Mi.dlen_tup, Mi.dlen_lst, Mi.dint_int, Mi.dlist_lst, Mi.dlist_tup, Mi.isl_lst, Mi.isd_dK, Mi.atI_0, Mi.atI_1, Mi.atI_2, Mi.atI_3, Mi.atI_4, List.length_cons, List.length_nil, Nat.reduceAdd, Nat.reduceLeDiff, true_and, and_true, Mi.forget, List.set_cons_zero, List.set_cons_succ, List.map_cons, List.map_nil, List.cons_append, List.nil_append, List.replicate, Nat.reduceSub, Nat.le_refl]
      refine draw_ok hb _ (by omega) _ fun u a b c e hb _ _ => ?_
      simp only [↓Mi.w_ret, ↓Mi.w_var0, ↓Mi.w_varS, ↓Mi.w_bin, ↓Mi.w_nil, ↓Mi.w_cons, ↓Mi.w_tup, ↓Mi.w_lst, ↓Mi.w_mut, ↓Mi.w_call, ↓Mi.w_if, ↓Mi.w_and, ↓Mi.w_or, ↓Mi.w_not, ↓Mi.w_B, ↓Mi.asb_bl, ↓Mi.w_andV, ↓Mi.w_orV, ↓Mi.w_notV, ↓Mi.w_tru, ↓Mi.tru_int, ↓Mi.tru_bl, ↓Mi.tru_non, ↓Mi.tru_tup, ↓Mi.tru_lst, ↓Mi.w_neg, ↓Mi.ex_int, ↓Mi.g_xor, ↓Mi.g_lt, ↓Mi.g_le, ↓Mi.g_gt, ↓Mi.g_ge, ↓Mi.g_mul, ↓Mi.g_mod, ↓Mi.g_div, ↓Mi.g_pow, ↓Mi.g_shl, ↓Mi.g_shr, ↓Mi.g_catT, ↓Mi.g_catL, ↓Mi.g_eqi, ↓Mi.g_nei, ↓Mi.g_eqb, ↓Mi.g_neb, ↓Mi.g_eqs, ↓Mi.g_nes, ↓Mi.g_eqt, ↓Mi.g_net, ↓Mi.g_is, ↓Mi.g_isnot, ↓Mi.g_ix_i, ↓Mi.g_ix_t, ↓Mi.ixv_tup, ↓Mi.ixv_lst, ↓Mi.ixv_dK, ↓Mi.g_in, ↓Mi.g_nin, ↓Mi.w_part, ↓Mi.w_sl, ↓Mi.sl_tup, ↓Mi.sl_lst, ↓Mi.sl_scr, ↓Mi.w_rev, ↓Mi.ex_lst, ↓Mi.w_get2, ↓Mi.c_g1, ↓Mi.c_max2, ↓Mi.c_min2, ↓Mi.c_tuple, ↓Mi.dtuple_tup, ↓Mi.dtuple_lst, ↓Mi.dtuple_ref, ↓Mi.w_isi, ↓Mi.setl_0, ↓Mi.setl_s, ↓Mi.w_append, ↓Mi.app_ref, ↓Mi.t_name, ↓Mi.t_tup, ↓Mi.t_nil, ↓Mi.t_cons, ↓Mi.s_next, ↓Mi.s_break, ↓Mi.s_cont, ↓Mi.s_set, ↓Mi.s_ret, ↓Mi.s_retN, ↓Mi.s_expr, ↓Mi.s_if, ↓Mi.s_asg, ↓Mi.s_store, ↓Mi.k_rt, ↓Mi.k_bk, ↓Mi.k_ct, ↓Mi.sto_s, ↓Mi.sto_L, ↓Mi.s_for, ↓Mi.s_while, ↓Mi.r_rt, ↓Mi.r_nx, ↓Mi.tn_nx, ↓Mi.tn_ct, ↓Mi.tn_bk, ↓Mi.tn_rt, ↓Mi.w_seqI, ↓Mi.w_enumI, ↓Mi.w_zipI, ↓Mi.w_range1, ↓Mi.w_range2, ↓Mi.w_range3, ↓Mi.seq_tup, ↓Mi.seq_lst, ↓Mi.seq_ref, ↓Mi.w_lc, ↓Mi.w_yes, ↓Mi.w_chain, ↓Mi.isi_ii, ↓Mi.isi_bi, ↓Mi.isi_tt, ↓Mi.is_non_dK, ↓Mi.is_non_non, ↓Mi.is_blbl, ↓Mi.upd_0, ↓Mi.upd_s, ↓Mi.see_ref, ↓Mi.see_tup, ↓Mi.see_lst, ↓Mi.see_int, ↓Mi.see_str, ↓Mi.see_bl, ↓Mi.see_non, ↓Mi.see_dK, ↓Mi.see_dT, ↓Mi.see_scr, ↓Mi.cell_0, ↓Mi.cell_s, ↓Mi.push_0, ↓Mi.push_1, ↓Mi.push_2, ↓Mi.push_3, ↓Mi.push_4, ↓Mi.push_5, ↓Mi.opt_some, ↓Mi.it_true, ↓Mi.it_false, ↓Mi.it_dec, ↓Mi.it_not, ↓Mi.g_andN, ↓Mi.g_orN, ↓Mi.g_add1, ↓Mi.n_dget, ↓Mi.n_look, ↓Mi.n_in, ↓Mi.n_sto, ↓Mi.n_disp, ↓Mi.keyd_i, ↓Mi.c_minN, ↓Mi.g_eqgetN, ↓Mi.g_negetI, ↓Mi.in_tupN, ↓Mi.n_look0, Mi.wipeR, Mi.dlen_tup, Mi.dlen_lst, Mi.dint_int, Mi.dlist_lst, Mi.dlist_tup, Mi.isl_lst, Mi.isd_dK, Mi.atI_0, Mi.atI_1, Mi.atI_2, Mi.atI_3, Mi.atI_4, List.length_cons, List.length_nil, Nat.reduceAdd, Nat.reduceLeDiff, true_and, and_true, Mi.forget, List.set_cons_zero, List.set_cons_succ, List.map_cons, List.map_nil, List.cons_append, List.nil_append, List.replicate, Nat.reduceSub, Nat.le_refl, ↓g_sub, ↓Mi.g_and]
      refine k_nx.mpr ?_
      simp only [↓Mi.w_ret, ↓Mi.w_var0, ↓Mi.w_varS, ↓Mi.w_bin, ↓Mi.w_nil, ↓Mi.w_cons, ↓Mi.w_tup, ↓Mi.w_lst, ↓Mi.w_mut, ↓Mi.w_call, ↓Mi.w_if, ↓Mi.w_and, ↓Mi.w_or, ↓Mi.w_not, ↓Mi.w_B, ↓Mi.asb_bl, ↓Mi.w_andV, ↓Mi.w_orV, ↓Mi.w_notV, ↓Mi.w_tru, ↓Mi.tru_int, ↓Mi.tru_bl, ↓Mi.tru_non, ↓Mi.tru_tup, ↓Mi.tru_lst, ↓Mi.w_neg, ↓Mi.ex_int, ↓Mi.g_xor, ↓Mi.g_lt, ↓Mi.g_le, ↓Mi.g_gt, ↓Mi.g_ge, ↓Mi.g_mul, ↓Mi.g_mod, ↓Mi.g_div, ↓Mi.g_pow, ↓Mi.g_shl, ↓Mi.g_shr, ↓Mi.g_catT, ↓Mi.g_catL, ↓Mi.g_eqi, ↓Mi.g_nei, ↓Mi.g_eqb, ↓Mi.g_neb, ↓Mi.g_eqs, ↓Mi.g_nes, ↓Mi.g_eqt, ↓Mi.g_net, ↓Mi.g_is, ↓Mi.g_isnot, ↓Mi.g_ix_i, ↓Mi.g_ix_t, ↓Mi.ixv_tup, ↓Mi.ixv_lst, ↓Mi.ixv_dK, ↓Mi.g_in, ↓Mi.g_nin, ↓Mi.w_part, ↓Mi.w_sl, ↓Mi.sl_tup, ↓Mi.sl_lst, ↓Mi.sl_scr, ↓Mi.w_rev, ↓Mi.ex_lst, ↓Mi.w_get2, ↓Mi.c_g1, ↓Mi.c_max2, ↓Mi.c_min2, ↓Mi.c_tuple, ↓Mi.dtuple_tup, ↓Mi.dtuple_lst, ↓Mi.dtuple_ref, ↓Mi.w_isi, ↓Mi.setl_0, ↓Mi.setl_s, ↓Mi.w_append, ↓Mi.app_ref, ↓Mi.t_name, ↓Mi.t_tup, ↓Mi.t_nil, ↓Mi.t_cons, ↓Mi.s_next, ↓Mi.s_break, ↓Mi.s_cont, ↓Mi.s_set, ↓Mi.s_ret, ↓Mi.s_retN, ↓Mi.s_expr, ↓Mi.s_if, ↓Mi.s_asg, ↓Mi.s_store, ↓Mi.k_rt, ↓Mi.k_bk, ↓Mi.k_ct, ↓Mi.sto_s, ↓Mi.sto_L, ↓Mi.s_for, ↓Mi.s_while, ↓Mi.r_rt, ↓Mi.r_nx, ↓Mi.tn_nx, ↓Mi.tn_ct, ↓Mi.tn_bk, ↓Mi.tn_rt, ↓Mi.w_seqI, ↓Mi.w_enumI, ↓Mi.w_zipI, ↓Mi.w_range1, ↓Mi.w_range2, ↓Mi.w_range3, ↓Mi.seq_tup, ↓Mi.seq_lst, ↓Mi.seq_ref, ↓Mi.w_lc, ↓Mi.w_yes, ↓Mi.w_chain, ↓Mi.isi_ii, ↓Mi.isi_bi, ↓Mi.isi_tt, ↓Mi.is_non_dK, ↓Mi.is_non_non, ↓Mi.is_blbl, ↓Mi.upd_0, ↓Mi.upd_s, ↓Mi.see_ref, ↓Mi.see_tup, ↓Mi.see_lst, ↓Mi.see_int, ↓Mi.see_str, ↓Mi.see_bl, ↓Mi.see_non, ↓Mi.see_dK, ↓Mi.see_dT, ↓Mi.see_scr, ↓Mi.cell_0, ↓Mi.cell_s, ↓Mi.push_0, ↓Mi.push_1, ↓Mi.push_2, ↓Mi.push_3, ↓Mi.push_4, ↓Mi.push_5, ↓Mi.opt_some, ↓Mi.it_true, ↓Mi.it_false, ↓Mi.it_dec, ↓Mi.it_not, ↓Mi.g_andN, ↓Mi.g_orN, ↓Mi.g_add1, ↓Mi.n_dget, ↓Mi.n_look, ↓Mi.n_in, ↓Mi.n_sto, ↓Mi.n_disp, ↓Mi.keyd_i, ↓Mi.c_minN, ↓Mi.g_eqgetN, ↓Mi.g_negetI, ↓Mi.in_tupN, ↓Mi.n_look0, Mi.wipeR, Mi.dlen_tup, Mi.dlen_lst, Mi.dint_int, Mi.dlist_lst, Mi.dlist_tup, Mi.isl_lst, Mi.isd_dK, Mi.atI_0, Mi.atI_1, Mi.atI_2, Mi.atI_3, Mi.atI_4, List.length_cons, List.length_nil, Nat.reduceAdd, Nat.reduceLeDiff, true_and, and_true, Mi.forget, List.set_cons_zero, List.set_cons_succ, List.map_cons, List.map_nil, List.cons_append, List.nil_append, List.replicate, Nat.reduceSub, Nat.le_refl, ↓call_fits, ↓call_lfits rooms needs _ _ ok.len ok.l3 hrow]
      refine (it_b (by cases fitB rooms needs t (Builtin.bitAnd u ((W H : Nat) - t)) <;> rfl)).mpr ⟨a, b, c, e, rfl, hb⟩
    · rintro ρ μ ⟨a, b, c, e, rfl, rfl, hb⟩
      refine k_nx.mpr ?_
      exact h H rooms needs a b c e xs _ ok hb
end K68
namespace K68
open PySem PySem.Spec PyProof.Rows L2 Mi
theorem ltN_irr : ∀ a : List Nat, ltN a a = false
  | [] => rfl
  | x :: a => by simp only [ltN, if_true]; exact ltN_irr a
theorem ltN_asym : ∀ a b : List Nat, ltN a b = true → ltN b a = false
  | [], [], h => by cases h
  | [], _ :: _, _ => rfl
  | _ :: _, [], h => by cases h
  | x :: a, y :: b, h => by
    simp only [ltN] at h ⊢
    by_cases e : x = y
    · rw [if_pos e] at h; rw [if_pos e.symm]; exact ltN_asym a b h
    · rw [if_neg e] at h; rw [if_neg (fun q => e q.symm)]
      simp only [decide_eq_true_eq, decide_eq_false_iff_not] at h ⊢
      omega
abbrev cN (q : List Nat) : List Int := q.map fun x : Nat => (x : Int)
theorem ltI_nat : ∀ a b : List Nat, ltI (cN a) (cN b) = ltN a b
  | [], [] => rfl
  | [], _ :: _ => rfl
  | _ :: _, [] => rfl
  | x :: a, y :: b => by
    simp only [cN, List.map_cons, ltI, ltN]
    by_cases e : x = y
    · rw [if_pos e, if_pos (by rw [e])]; exact ltI_nat a b
    · rw [if_neg e, if_neg (fun q => e (by omega))]
      exact decide_eq_decide.mpr ⟨fun h => by omega, fun h => by omega⟩
theorem least_ok (rs : List Nat) : ∀ (P : List (List Nat)) (p : List Nat), (p = rs ∨ rs ∈ P) → (∀ q ∈ p :: P, ltN rs q = true ∨ q = rs) → leastT (cN p) (P.map cN) = cN rs
  | [], p, h, _ => by
    rcases h with rfl | h
    · rfl
    · cases h
  | y :: P, p, h, hall => by
    have e : leastT (cN p) ((y :: P).map cN) = leastT (if ltI (cN y) (cN p) = true then cN y else cN p) (P.map cN) := rfl
    rw [e, ltI_nat]
    have hy := hall y (by simp)
    have hp := hall p (by simp)
    by_cases hl : ltN y p = true
    · rw [if_pos hl]
      refine least_ok rs P y ?_ fun q hq => hall q (by rcases List.mem_cons.mp hq with rfl | hq <;> simp [*])
      rcases h with rfl | h
      · rcases hy with hy | hy
        · rw [ltN_asym _ _ hy] at hl; cases hl
        · exact .inl hy
      · rcases List.mem_cons.mp h with h | h
        · exact .inl h.symm
        · exact .inr h
    · rw [if_neg hl]
      refine least_ok rs P p ?_ fun q hq => hall q (by rcases List.mem_cons.mp hq with rfl | hq <;> simp [*])
      rcases h with h | h
      · exact .inl h
      · rcases List.mem_cons.mp h with h | h
        · subst h
          rcases hp with hp | hp
          · exact absurd hp hl
          · exact .inl hp
        · exact .inr h
theorem tInts_nat (P : List (List Nat)) : tIntss (P.map eT) = some (P.map cN) := by
  have e : ∀ q : List Nat, tInts (eT q) = some (cN q) := fun q => by
    unfold eT tInts
    dsimp only
    induction q with
    | nil => rfl
    | cons x q ih => simp only [List.map_cons, intsOf, ih]
  induction P with
  | nil => rfl
  | cons p P ih => simp only [List.map_cons, tIntss, e, ih]
theorem min_ok {rs : List Nat} {P : List (List Nat)} (h : rs ∈ P) (hall : ∀ q ∈ P, ltN rs q = true ∨ q = rs) : dMinT (.lst (P.map eT)) = some (eTN rs) := by
  cases P with
  | nil => cases h
  | cons p P =>
    unfold dMinT
    dsimp only
    rw [tInts_nat, List.map_cons]
    dsimp only
    rw [least_ok rs P p ((List.mem_cons.mp h).imp (fun e => e.symm) id) hall, List.map_map]
    rfl
section
variable {H : Nat} {fit : Nat → Nat → Bool}
theorem perm_of {as bs : List Nat} (ha : as.Nodup) (hb : bs.Nodup) (h : ∀ x, x ∈ as ↔ x ∈ bs) : as.Perm bs := by
  rw [List.perm_iff_count]
  intro x
  by_cases hx : x ∈ as
  · rw [ha.count, hb.count, if_pos hx, if_pos ((h x).mp hx)]
  · rw [ha.count, hb.count, if_neg hx, if_neg (fun q => hx ((h x).mpr q))]
theorem Lev.same {a b : List (Nat × Nat)} (ha : Lev H fit a) (hb : Lev H fit b) : (∀ m, kget a m = kget b m) ∧ keysOf a = keysOf b ∧ pairsOf a = pairsOf b := by
  have h1 : ∀ m, kget a m = kget b m := fun m => by
    cases h : kget b m with
    | some d => exact (ha.ok m d).mpr ((hb.ok m d).mp h)
    | none =>
      cases h2 : kget a m with
      | none => rfl
      | some d => rw [(hb.ok m d).mpr ((ha.ok m d).mp h2)] at h; cases h
  have h2 : keysOf a = keysOf b := nsrt_same (perm_of ha.nd hb.nd fun x => by rw [← kget_isSome, ← kget_isSome, h1])
  refine ⟨h1, h2, ?_⟩
  unfold pairsOf
  rw [h2]
  refine List.map_congr_left fun k _ => ?_
  rw [h1]
theorem keys_up {kvs : List (Nat × Nat)} (h : (kvs.map (·.1)).Nodup) : (keysOf kvs).Pairwise (· < ·) := by
  have h1 := nsrt_le (kvs.map (·.1))
  have h2 : (keysOf kvs).Nodup := (nsrt_perm _).nodup_iff.mpr h
  exact (List.Pairwise.and h1 h2).imp fun ⟨a, b⟩ => by omega
theorem Lev.key {kvs : List (Nat × Nat)} (h : Lev H fit kvs) {m : Nat} : m ∈ keysOf kvs ↔ ∃ d, Dist H fit m d := by
  rw [keysOf_mem, ← kget_isSome, Option.isSome_iff_exists]
  exact ⟨fun ⟨d, q⟩ => ⟨d, (h.ok m d).mp q⟩, fun ⟨d, q⟩ => ⟨d, (h.ok m d).mpr q⟩⟩
theorem pairs_keys {kvs : List (Nat × Nat)} : (pairsOf kvs).map (·.1) = keysOf kvs := by
  unfold pairsOf
  rw [List.map_map]
  exact List.map_id _
theorem pairs_get {kvs : List (Nat × Nat)} (hn : (kvs.map (·.1)).Nodup) (m : Nat) : kget (pairsOf kvs) m = kget kvs m := by
  have nd : ((pairsOf kvs).map (·.1)).Nodup := by rw [pairs_keys]; exact (nsrt_perm _).nodup_iff.mpr hn
  cases h : kget kvs m with
  | none =>
    rw [kget_none, pairs_keys, keysOf_mem]
    exact kget_none.mp h
  | some d =>
    refine kget_of_mem nd (List.mem_map.mpr ⟨m, keysOf_mem.mpr (kget_isSome.mp (by rw [h]; rfl)), by rw [h]; rfl⟩)
theorem Lev.good (h4 : H ≤ 4) {kvs : List (Nat × Nat)} (h : Lev H fit kvs) : GoodPs H (pairsOf kvs) := by
  refine ⟨?_, fun p hp => ?_⟩
  · unfold pairsOf
    rw [List.pairwise_map]
    exact keys_up h.nd
  · have : kget (pairsOf kvs) p.1 = some p.2 := kget_of_mem (by rw [pairs_keys]; exact (nsrt_perm _).nodup_iff.mpr h.nd) hp
    rw [pairs_get h.nd, h.ok] at this
    have := this.le h4
    omega
theorem Dist.zero : Dist H fit 0 0 := ⟨.zero, fun _ _ => Nat.zero_le _⟩
theorem Lev.lh (h4 : H ≤ 4) {kvs : List (Nat × Nat)} (h : Lev H fit kvs) : LH H fit (pairsOf kvs) := by
  have g := h.good h4
  refine ⟨by rw [pairs_get h.nd, h.ok]; exact .zero, fun p hp u hu hf => ?_⟩
  have hp2 : kget (pairsOf kvs) p.1 = some p.2 := kget_of_mem g.nd hp
  rw [pairs_get h.nd, h.ok] at hp2
  have s : Stp H fit p.1 u := ⟨(g.le p hp).1, hu, hf⟩
  have : ∃ d, d ≤ p.2 + 1 ∧ Dist H fit (p.1 ||| u) d := by
    rcases dist_step hp2 s with ⟨d, h1, h2⟩ | h2
    · exact ⟨d, by omega, h2⟩
    · exact ⟨_, Nat.le_refl _, h2⟩
  obtain ⟨d, h1, h2⟩ := this
  refine ⟨d, by rw [pairs_get h.nd, h.ok]; exact h2, fun v hv => ?_⟩
  rw [pairs_get h.nd, h.ok] at hv
  have := hv.inj hp2
  omega
/-- what levels_hold lets through holds every mask that can be reached -/
theorem LH.reach {ps : List (Nat × Nat)} (h : LH H fit ps) (h4 : H ≤ 4) {k m : Nat} (r : Reach H fit k m) : m ∈ ps.map (·.1) := by
  induction r with
  | zero => exact kget_isSome.mp (by rw [h.1]; rfl)
  | step r s ih =>
    obtain ⟨p, hp, e⟩ := List.mem_map.mp ih
    obtain ⟨d, h1, _⟩ := h.2 p hp _ (by rw [e]; exact s.mem) (by rw [e]; exact s.fit)
    rw [e] at h1
    exact kget_isSome.mp (by rw [h1]; rfl)
theorem Pth.all (h4 : H ≤ 4) {t m : Nat} {ps : List Nat} (h : Pth H fit t ps m) : (ps.all fun x => decide ((1 : Int) ≤ (x : Int) ∧ (x : Int) ≤ (W H : Nat))) = true := by
  induction h with
  | nil => rfl
  | cons s _ ih =>
    have := s.facts h4
    rw [List.all_cons, ih, Bool.and_true]
    exact decide_eq_true ⟨by omega, by omega⟩
theorem Pth.run (h4 : H ≤ 4) {t m : Nat} {ps qs : List Nat} (h : Pth H fit t ps m) : runB H fit t (ps ++ qs) = runB H fit m qs := by
  induction h with
  | nil => rfl
  | cons s _ ih =>
    have := s.facts h4
    rw [List.cons_append]
    simp only [runB]
    rw [if_pos ⟨this.2.2.2.1, s.fit⟩, ih]
theorem BO.lev (h4 : H ≤ 4) {L : List Nat} {lv : List (Nat × Nat)} {pt : List (Nat × List (List Nat))} (h : BO H fit 6 L lv pt) : Lev H fit lv :=
  ⟨h.nd, fun m d => by rw [h.lv]; exact ⟨fun q => q.1, fun q => ⟨q, by have := q.le h4; omega⟩⟩⟩
end
theorem cut_to {α : Type} (f : α → D) (xs : List α) (k : Nat) : Mi.cutD (xs.map f) none (some (k : Int)) = (xs.take k).map f := by
  unfold Mi.cutD
  rw [HT.sIx_none, HT.sIx_nat, List.drop_zero, Nat.sub_zero, List.map_take]
  rw [List.length_map]
  rcases Nat.le_total k xs.length with h | h
  · rw [Nat.min_eq_left h]
  · rw [Nat.min_eq_right h, List.take_of_length_le (by simp), List.take_of_length_le (by simpa using h)]
theorem cut_from {α : Type} (f : α → D) (xs : List α) (k : Nat) : Mi.cutD (xs.map f) (some (k : Int)) none = (xs.drop k).map f := by
  unfold Mi.cutD
  rw [HT.sIx_none, HT.sIx_nat, List.map_drop, List.length_map]
  rcases Nat.le_total k xs.length with h | h
  · rw [Nat.min_eq_left h, List.take_of_length_le (by simp)]
  · rw [Nat.min_eq_right h, List.drop_of_length_le (by simp), List.drop_of_length_le (by simpa using h)]; simp
theorem ok_eTN (xs : List Nat) (n : Nat) : okD (n + 1) (eTN xs) = true := okDs_map (f := fun x : Nat => D.int (x : Int)) (fun _ => by cases n <;> rfl) xs
theorem ok_ePs (xs : List (Nat × Nat)) (n : Nat) : okD (n + 2) (ePs xs) = true := okDs_map (f := eP) (fun _ => by cases n <;> rfl) xs
theorem ok_stuck (ks : List Nat) : okD 60 (stuckD ks) = true := by
  have hs : PyData.strOk (Str.ofString "stuck") = true := by decide +kernel
  have h := ok_eTN ks 58
  show (PyData.strOk _ && (okD 59 (eTN ks) && (true && true))) = true
  rw [hs, h]; rfl
theorem ok_rounds (rs : List Nat) (ps : List (Nat × Nat)) : okD 60 (roundsD rs ps) = true := by
  have hs : PyData.strOk (Str.ofString "rounds") = true := by decide +kernel
  have h := ok_eTN rs 58
  have h2 := ok_ePs ps 57
  show (PyData.strOk _ && (okD 59 (eTN rs) && (okD 59 (ePs ps) && true))) = true
  rw [hs, h, h2]; rfl
theorem zero_get (ks : List Nat) (m : Nat) : kget (ks.map fun k => (k, 0)) m = if m ∈ ks then some 0 else none := by
  induction ks with
  | nil => rfl
  | cons k ks ih =>
    simp only [List.map_cons, kget, ih, List.mem_cons]
    by_cases e : k = m
    · simp [e]
    · have e2 : ¬ m = k := fun q => e q.symm
      rw [if_neg e]
      simp only [e2, false_or]
theorem Lev.lh0 {H : Nat} {fit : Nat → Nat → Bool} (h4 : H ≤ 4) {kvs : List (Nat × Nat)} (h : Lev H fit kvs) : LH H fit ((keysOf kvs).map fun k => (k, 0)) := by
  refine ⟨by rw [zero_get, if_pos (h.key.mpr ⟨0, .zero⟩)], fun p hp u hu hf => ?_⟩
  obtain ⟨k, hk, rfl⟩ := List.mem_map.mp hp
  obtain ⟨d, hd⟩ := h.key.mp hk
  have s : Stp H fit k u := ⟨(hd.le h4).1, hu, hf⟩
  have : ∃ d, Dist H fit (k ||| u) d := by
    rcases dist_step hd s with ⟨d, _, h2⟩ | h2
    · exact ⟨d, h2⟩
    · exact ⟨_, h2⟩
  refine ⟨0, by rw [zero_get, if_pos (h.key.mpr this)], fun v hv => by omega⟩
theorem tail_ok {H : Nat} {rooms : List Int} {needs : List (List Q4)} (ok : Ok H rooms needs) (scr : D) (a b : Int) (c : Nat) (e : Int) (xs : List Int) (M : Mem) (hb : 0 ≤ b) :
    WS b_lawB [some scr, some (.ref 0), some (.int (H : Nat)), some (.int (W H : Nat)), some (eNeeds needs), some (eInts rooms), none, none, none, none, none, none, none, none, none, none, none, none, none, none, none, none, none, none, none, none] (⟨false, dS a b c e xs⟩ :: M) (RET fun d _ => d = .bl true) := by
  have h4 := ok.h4
  have hw := W_lt h4
  obtain ⟨⟨lv, pt⟩, ⟨L, hB⟩, cR⟩ := pure_ex (nrs3 (nr_eInts rooms) (nr_eNeeds needs) rfl) (rows_run ok)
  obtain ⟨r, ⟨kvs, hL', hT⟩, cF⟩ := pure_ex (r := id) (nrs2 (nr_eInts rooms) (nr_eNeeds needs)) (fewest_run ok)
  dsimp only [id] at cF hB cR
  have hL := hB.lev h4
  obtain ⟨s1, s2, s3⟩ := hL'.same hL
  unfold Told at hT
  rw [s1, s2, s3] at hT
  have hl := hL.len h4
  have g := hL.good h4
  have hup := keys_up hL.nd
  have hkle : ∀ k ∈ keysOf lv, k ≤ W H := fun k hk => by
    obtain ⟨d, hd⟩ := hL.key.mp hk
    exact (hd.le h4).1
  have h0 : 0 ∈ keysOf lv := hL.key.mpr ⟨0, .zero⟩
  unfold b_lawB
  refine s_seq.mpr ?_
  simp only [↓Mi.w_ret, ↓Mi.w_var0, ↓Mi.w_varS, ↓Mi.w_bin, ↓Mi.w_nil, ↓Mi.w_cons, ↓Mi.w_tup, ↓Mi.w_lst, ↓Mi.w_mut, ↓Mi.w_call, ↓Mi.w_if, ↓Mi.w_and, ↓Mi.w_or, ↓Mi.w_not, ↓Mi.w_B, ↓Mi.asb_bl, ↓Mi.w_andV, ↓Mi.w_orV, ↓Mi.w_notV, ↓Mi.w_tru, ↓Mi.tru_int, ↓Mi.tru_bl, ↓Mi.tru_non, ↓Mi.tru_tup, ↓Mi.tru_lst, ↓Mi.w_neg, ↓Mi.ex_int, ↓Mi.g_xor, ↓Mi.g_lt, ↓Mi.g_le, ↓Mi.g_gt, ↓Mi.g_ge, ↓Mi.g_mul, ↓Mi.g_mod, ↓Mi.g_div, ↓Mi.g_pow, ↓Mi.g_shl, ↓Mi.g_shr, ↓Mi.g_catT, ↓Mi.g_catL, ↓Mi.g_eqi, ↓Mi.g_nei, ↓Mi.g_eqb, ↓Mi.g_neb, ↓Mi.g_eqs, ↓Mi.g_nes, ↓Mi.g_eqt, ↓Mi.g_net, ↓Mi.g_is, ↓Mi.g_isnot, ↓Mi.g_ix_i, ↓Mi.g_ix_t, ↓Mi.ixv_tup, ↓Mi.ixv_lst, ↓Mi.ixv_dK, ↓Mi.g_in, ↓Mi.g_nin, ↓Mi.w_part, ↓Mi.w_sl, ↓Mi.sl_tup, ↓Mi.sl_lst, ↓Mi.sl_scr, ↓Mi.w_rev, ↓Mi.ex_lst, ↓Mi.w_get2, ↓Mi.c_g1, ↓Mi.c_max2, ↓Mi.c_min2, ↓Mi.c_tuple, ↓Mi.dtuple_tup, ↓Mi.dtuple_lst, ↓Mi.dtuple_ref, ↓Mi.w_isi, ↓Mi.setl_0, ↓Mi.setl_s, ↓Mi.w_append, ↓Mi.app_ref, ↓Mi.t_name, ↓Mi.t_tup, ↓Mi.t_nil, ↓Mi.t_cons, ↓Mi.s_next, ↓Mi.s_break, ↓Mi.s_cont, ↓Mi.s_set, ↓Mi.s_ret, ↓Mi.s_retN, ↓Mi.s_expr, ↓Mi.s_if, ↓Mi.s_asg, ↓Mi.s_store, ↓Mi.k_rt, ↓Mi.k_bk, ↓Mi.k_ct, ↓Mi.sto_s, ↓Mi.sto_L, ↓Mi.s_for, ↓Mi.s_while, ↓Mi.r_rt, ↓Mi.r_nx, ↓Mi.tn_nx, ↓Mi.tn_ct, ↓Mi.tn_bk, ↓Mi.tn_rt, ↓Mi.w_seqI, ↓Mi.w_enumI, ↓Mi.w_zipI, ↓Mi.w_range1, ↓Mi.w_range2, ↓Mi.w_range3, ↓Mi.seq_tup, ↓Mi.seq_lst, ↓Mi.seq_ref, ↓Mi.w_lc, ↓Mi.w_yes, ↓Mi.w_chain, ↓Mi.isi_ii, ↓Mi.isi_bi, ↓Mi.isi_tt, ↓Mi.is_non_dK, ↓Mi.is_non_non, ↓Mi.is_blbl, ↓Mi.upd_0, ↓Mi.upd_s, ↓Mi.see_ref, ↓Mi.see_tup, ↓Mi.see_lst, ↓Mi.see_int, ↓Mi.see_str, ↓Mi.see_bl, ↓Mi.see_non, ↓Mi.see_dK, ↓Mi.see_dT, ↓Mi.see_scr, ↓Mi.cell_0, ↓Mi.cell_s, ↓Mi.push_0, ↓Mi.push_1, ↓Mi.push_2, ↓Mi.push_3, ↓Mi.push_4, ↓Mi.push_5, ↓Mi.opt_some, ↓Mi.it_true, ↓Mi.it_false, ↓Mi.it_dec, ↓Mi.it_not, ↓Mi.g_andN, ↓Mi.g_orN, ↓Mi.g_add1, ↓Mi.n_dget, ↓Mi.n_look, ↓Mi.n_in, ↓Mi.n_sto, ↓Mi.n_disp, ↓Mi.keyd_i, ↓Mi.c_minN, ↓Mi.g_eqgetN, ↓Mi.g_negetI, ↓Mi.in_tupN, ↓Mi.n_look0, Mi.wipeR, Mi.dlen_tup, Mi.dlen_lst, Mi.dint_int, Mi.dlist_lst, Mi.dlist_tup, Mi.isl_lst, Mi.isd_dK, Mi.atI_0, Mi.atI_1, Mi.atI_2, Mi.atI_3, Mi.atI_4, List.length_cons, List.length_nil, Nat.reduceAdd, Nat.reduceLeDiff, true_and, and_true, Mi.forget, List.set_cons_zero, List.set_cons_succ, List.map_cons, List.map_nil, List.cons_append, List.nil_append, List.replicate, Nat.reduceSub, Nat.le_refl, ↓cR]
  refine k_nx.mpr ?_
  refine s_seq.mpr ?_
  simp only [↓Mi.w_ret, ↓Mi.w_var0, ↓Mi.w_varS, ↓Mi.w_bin, ↓Mi.w_nil, ↓Mi.w_cons, ↓Mi.w_tup, ↓Mi.w_lst, ↓Mi.w_mut, ↓Mi.w_call, ↓Mi.w_if, ↓Mi.w_and, ↓Mi.w_or, ↓Mi.w_not, ↓Mi.w_B, ↓Mi.asb_bl, ↓Mi.w_andV, ↓Mi.w_orV, ↓Mi.w_notV, ↓Mi.w_tru, ↓Mi.tru_int, ↓Mi.tru_bl, ↓Mi.tru_non, ↓Mi.tru_tup, ↓Mi.tru_lst, ↓Mi.w_neg, ↓Mi.ex_int, ↓Mi.g_xor, ↓Mi.g_lt, ↓Mi.g_le, ↓Mi.g_gt, ↓Mi.g_ge, ↓Mi.g_mul, ↓Mi.g_mod, ↓Mi.g_div, ↓Mi.g_pow, ↓Mi.g_shl, ↓Mi.g_shr, ↓Mi.g_catT, ↓Mi.g_catL, ↓Mi.g_eqi, ↓Mi.g_nei, ↓Mi.g_eqb, ↓Mi.g_neb, ↓Mi.g_eqs, ↓Mi.g_nes, ↓Mi.g_eqt, ↓Mi.g_net, ↓Mi.g_is, ↓Mi.g_isnot, ↓Mi.g_ix_i, ↓Mi.g_ix_t, ↓Mi.ixv_tup, ↓Mi.ixv_lst, ↓Mi.ixv_dK, ↓Mi.g_in, ↓Mi.g_nin, ↓Mi.w_part, ↓Mi.w_sl, ↓Mi.sl_tup, ↓Mi.sl_lst, ↓Mi.sl_scr, ↓Mi.w_rev, ↓Mi.ex_lst, ↓Mi.w_get2, ↓Mi.c_g1, ↓Mi.c_max2, ↓Mi.c_min2, ↓Mi.c_tuple, ↓Mi.dtuple_tup, ↓Mi.dtuple_lst, ↓Mi.dtuple_ref, ↓Mi.w_isi, ↓Mi.setl_0, ↓Mi.setl_s, ↓Mi.w_append, ↓Mi.app_ref, ↓Mi.t_name, ↓Mi.t_tup, ↓Mi.t_nil, ↓Mi.t_cons, ↓Mi.s_next, ↓Mi.s_break, ↓Mi.s_cont, ↓Mi.s_set, ↓Mi.s_ret, ↓Mi.s_retN, ↓Mi.s_expr, ↓Mi.s_if, ↓Mi.s_asg, ↓Mi.s_store, ↓Mi.k_rt, ↓Mi.k_bk, ↓Mi.k_ct, ↓Mi.sto_s, ↓Mi.sto_L, ↓Mi.s_for, ↓Mi.s_while, ↓Mi.r_rt, ↓Mi.r_nx, ↓Mi.tn_nx, ↓Mi.tn_ct, ↓Mi.tn_bk, ↓Mi.tn_rt, ↓Mi.w_seqI, ↓Mi.w_enumI, ↓Mi.w_zipI, ↓Mi.w_range1, ↓Mi.w_range2, ↓Mi.w_range3, ↓Mi.seq_tup, ↓Mi.seq_lst, ↓Mi.seq_ref, ↓Mi.w_lc, ↓Mi.w_yes, ↓Mi.w_chain, ↓Mi.isi_ii, ↓Mi.isi_bi, ↓Mi.isi_tt, ↓Mi.is_non_dK, ↓Mi.is_non_non, ↓Mi.is_blbl, ↓Mi.upd_0, ↓Mi.upd_s, ↓Mi.see_ref, ↓Mi.see_tup, ↓Mi.see_lst, ↓Mi.see_int, ↓Mi.see_str, ↓Mi.see_bl, ↓Mi.see_non, ↓Mi.see_dK, ↓Mi.see_dT, ↓Mi.see_scr, ↓Mi.cell_0, ↓Mi.cell_s, ↓Mi.push_0, ↓Mi.push_1, ↓Mi.push_2, ↓Mi.push_3, ↓Mi.push_4, ↓Mi.push_5, ↓Mi.opt_some, ↓Mi.it_true, ↓Mi.it_false, ↓Mi.it_dec, ↓Mi.it_not, ↓Mi.g_andN, ↓Mi.g_orN, ↓Mi.g_add1, ↓Mi.n_dget, ↓Mi.n_look, ↓Mi.n_in, ↓Mi.n_sto, ↓Mi.n_disp, ↓Mi.keyd_i, ↓Mi.c_minN, ↓Mi.g_eqgetN, ↓Mi.g_negetI, ↓Mi.in_tupN, ↓Mi.n_look0, Mi.wipeR, Mi.dlen_tup, Mi.dlen_lst, Mi.dint_int, Mi.dlist_lst, Mi.dlist_tup, Mi.isl_lst, Mi.isd_dK, Mi.atI_0, Mi.atI_1, Mi.atI_2, Mi.atI_3, Mi.atI_4, List.length_cons, List.length_nil, Nat.reduceAdd, Nat.reduceLeDiff, true_and, and_true, Mi.forget, List.set_cons_zero, List.set_cons_succ, List.map_cons, List.map_nil, List.cons_append, List.nil_append, List.replicate, Nat.reduceSub, Nat.le_refl, ↓cF]
  refine k_nx.mpr ?_
  rcases hT with ⟨hg, rfl⟩ | ⟨D0, rs, hg, hbest, rfl⟩
  · -- stuck
    have hWn : W H ∉ keysOf lv := fun hm => by
      obtain ⟨d, hd⟩ := hL.key.mp hm
      rw [(hL.ok _ _).mpr hd] at hg; cases hg
    obtain ⟨b1, hb1, c1⟩ := judge_s ok (keysOf lv) hkle hup
    obtain ⟨b2, hb2, c2⟩ := judge_s ok (keysOf lv ++ [W H]) (fun k hk => by
      rcases List.mem_append.mp hk with hk | hk
      · exact hkle k hk
      · simp at hk; rw [hk]; exact Nat.le_refl _) (by
      rw [List.pairwise_append]
      refine ⟨hup, by simp, fun x hx y hy => ?_⟩
      simp only [List.mem_singleton] at hy
      have := hkle x hx
      have : x ≠ W H := fun q => hWn (q ▸ hx)
      omega)
    obtain ⟨b3, hb3, c3⟩ := judge_s ok ((keysOf lv).drop 1) (fun k hk => hkle k (List.mem_of_mem_drop hk)) (hup.sublist (List.drop_sublist _ _))
    obtain rfl : b1 = true := hb1.mpr ⟨hWn, hL.lh0 h4⟩
    obtain rfl : b2 = false := by
      cases b2 with
      | false => rfl
      | true => exact absurd (by simp) (hb2.mp rfl).1
    obtain rfl : b3 = false := by
      cases b3 with
      | false => rfl
      | true =>
        have h1 := (hb3.mp rfl).2.1
        rw [zero_get] at h1
        split at h1
        · rename_i hm
          cases hk : keysOf lv with
          | nil => rw [hk] at h0; cases h0
          | cons x ks =>
            rw [hk] at hm hup
            have := (List.pairwise_cons.mp hup).1 0 hm
            omega
        · cases h1
    rw [stuckD, eTN, List.map_append, List.map_cons, List.map_nil] at c2
    have e3 : Mi.cutD ((keysOf lv).map fun x : Nat => D.int (x : Int)) (some 1) none = ((keysOf lv).drop 1).map fun x : Nat => D.int (x : Int) := cut_from _ _ 1
    rw [stuckD, eTN, ← e3] at c3
    have hs : dSorted (dN lv) = some (.lst ((keysOf lv).map fun n : Nat => D.int (n : Int))) := sorted_dN (by omega)
    simp only [↓Mi.w_ret, ↓Mi.w_var0, ↓Mi.w_varS, ↓Mi.w_bin, ↓Mi.w_nil, ↓Mi.w_cons, ↓Mi.w_tup, ↓Mi.w_lst, ↓Mi.w_mut, ↓Mi.w_call, ↓Mi.w_if, ↓Mi.w_and, ↓Mi.w_or, ↓Mi.w_not, ↓Mi.w_B, ↓Mi.asb_bl, ↓Mi.w_andV, ↓Mi.w_orV, ↓Mi.w_notV, ↓Mi.w_tru, ↓Mi.tru_int, ↓Mi.tru_bl, ↓Mi.tru_non, ↓Mi.tru_tup, ↓Mi.tru_lst, ↓Mi.w_neg, ↓Mi.ex_int, ↓Mi.g_xor, ↓Mi.g_lt, ↓Mi.g_le, ↓Mi.g_gt, ↓Mi.g_ge, ↓Mi.g_mul, ↓Mi.g_mod, ↓Mi.g_div, ↓Mi.g_pow, ↓Mi.g_shl, ↓Mi.g_shr, ↓Mi.g_catT, ↓Mi.g_catL, ↓Mi.g_eqi, ↓Mi.g_nei, ↓Mi.g_eqb, ↓Mi.g_neb, ↓Mi.g_eqs, ↓Mi.g_nes, ↓Mi.g_eqt, ↓Mi.g_net, ↓Mi.g_is, ↓Mi.g_isnot, ↓Mi.g_ix_i, ↓Mi.g_ix_t, ↓Mi.ixv_tup, ↓Mi.ixv_lst, ↓Mi.ixv_dK, ↓Mi.g_in, ↓Mi.g_nin, ↓Mi.w_part, ↓Mi.w_sl, ↓Mi.sl_tup, ↓Mi.sl_lst, ↓Mi.sl_scr, ↓Mi.w_rev, ↓Mi.ex_lst, ↓Mi.w_get2, ↓Mi.c_g1, ↓Mi.c_max2, ↓Mi.c_min2, ↓Mi.c_tuple, ↓Mi.dtuple_tup, ↓Mi.dtuple_lst, ↓Mi.dtuple_ref, ↓Mi.w_isi, ↓Mi.setl_0, ↓Mi.setl_s, ↓Mi.w_append, ↓Mi.app_ref, ↓Mi.t_name, ↓Mi.t_tup, ↓Mi.t_nil, ↓Mi.t_cons, ↓Mi.s_next, ↓Mi.s_break, ↓Mi.s_cont, ↓Mi.s_set, ↓Mi.s_ret, ↓Mi.s_retN, ↓Mi.s_expr, ↓Mi.s_if, ↓Mi.s_asg, ↓Mi.s_store, ↓Mi.s_seq, ↓Mi.k_nx, ↓Mi.k_rt, ↓Mi.k_bk, ↓Mi.k_ct, ↓Mi.sto_s, ↓Mi.sto_L, ↓Mi.s_for, ↓Mi.s_while, ↓Mi.r_rt, ↓Mi.r_nx, ↓Mi.tn_nx, ↓Mi.tn_ct, ↓Mi.tn_bk, ↓Mi.tn_rt, ↓Mi.w_seqI, ↓Mi.w_enumI, ↓Mi.w_zipI, ↓Mi.w_range1, ↓Mi.w_range2, ↓Mi.w_range3, ↓Mi.seq_tup, ↓Mi.seq_lst, ↓Mi.seq_ref, ↓Mi.w_lc, ↓Mi.w_yes, ↓Mi.w_chain, ↓Mi.isi_ii, ↓Mi.isi_bi, ↓Mi.isi_tt, ↓Mi.is_non_dK, ↓Mi.is_non_non, ↓Mi.is_blbl, ↓Mi.upd_0, ↓Mi.upd_s, ↓Mi.see_ref, ↓Mi.see_tup, ↓Mi.see_lst, ↓Mi.see_int, ↓Mi.see_str, ↓Mi.see_bl, ↓Mi.see_non, ↓Mi.see_dK, ↓Mi.see_dT, ↓Mi.see_scr, ↓Mi.cell_0, ↓Mi.cell_s, ↓Mi.push_0, ↓Mi.push_1, ↓Mi.push_2, ↓Mi.push_3, ↓Mi.push_4, ↓Mi.push_5, ↓Mi.opt_some, ↓Mi.it_true, ↓Mi.it_false, ↓Mi.it_dec, ↓Mi.it_not, ↓Mi.g_andN, ↓Mi.g_orN, ↓Mi.g_add1, ↓Mi.n_dget, ↓Mi.n_look, ↓Mi.n_in, ↓Mi.n_sto, ↓Mi.n_disp, ↓Mi.keyd_i, ↓Mi.c_minN, ↓Mi.g_eqgetN, ↓Mi.g_negetI, ↓Mi.in_tupN, ↓Mi.n_look0, Mi.wipeR, Mi.dlen_tup, Mi.dlen_lst, Mi.dint_int, Mi.dlist_lst, Mi.dlist_tup, Mi.isl_lst, Mi.isd_dK, Mi.atI_0, Mi.atI_1, Mi.atI_2, Mi.atI_3, Mi.atI_4, List.length_cons, List.length_nil, Nat.reduceAdd, Nat.reduceLeDiff, true_and, and_true, Mi.forget, List.set_cons_zero, List.set_cons_succ, List.map_cons, List.map_nil, List.cons_append, List.nil_append, List.replicate, Nat.reduceSub, Nat.le_refl, ↓c1, ↓it_t (rfl : true = true), ↓it_nb (show (kget lv (W H)).isSome = false from by rw [hg]; rfl), ↓opt_eq hs, ↓opt_eq (gEqO_same (ok_stuck (keysOf lv))), ↓c2, ↓c3]
    rw [List.length_map, keysOf_len]
    exact ⟨by omega, by simp⟩
  · obtain ⟨P, hP, _, hPq⟩ := hB.old (W H) D0 ((hL.ok _ _).mp hg) (by have := (((hL.ok _ _).mp hg).le h4).2; omega)
    have hmin : dMinT (.lst (P.map eT)) = some (eTN rs) := min_ok ((hPq rs).mpr ⟨hbest.p, hbest.len⟩) fun q hq => hbest.best q ((hPq q).mp hq).1 ((hPq q).mp hq).2
    obtain ⟨b1, hb1, c1⟩ := judge_r ok rs g
    have hps : kget (pairsOf lv) (W H) = some D0 := by rw [pairs_get hL.nd]; exact hg
    obtain rfl : b1 = true := hb1.mpr ⟨by
      have h1 := hbest.p.run h4 (qs := [])
      rw [List.append_nil] at h1
      rw [Bool.and_eq_true]
      exact ⟨hbest.p.all h4, by rw [h1]; simp [runB]⟩, hL.lh h4, by rw [hps, hbest.len]⟩
    obtain ⟨b2, hb2, c2⟩ := judge_r ok (rs ++ [W H]) g
    have hWm : W H ∈ keysOf lv := hL.key.mpr ⟨D0, (hL.ok _ _).mp hg⟩
    obtain ⟨b4, hb4, c4⟩ := judge_s ok (keysOf lv) hkle hup
    obtain rfl : b4 = false := by
      cases b4 with
      | false => rfl
      | true => exact absurd hWm (hb4.mp rfl).1
    have hb2' : b2 = true → ¬ 0 < W H := fun hb hpos => by
      have h1 := (hb2.mp hb).1
      rw [Bool.and_eq_true] at h1
      have h2 := h1.2
      rw [hbest.p.run h4] at h2
      simp only [runB] at h2
      rw [if_neg (fun q => by have := q.1; rw [Nat.and_self] at this; omega)] at h2
      cases h2
    have hs : dSorted (dN lv) = some (.lst ((keysOf lv).map fun n : Nat => D.int (n : Int))) := sorted_dN (by omega)
    have hgS : (kget lv (W H)).isSome = true := by rw [hg]; rfl
    refine s_seq.mpr ?_
    simp only [↓Mi.w_ret, ↓Mi.w_var0, ↓Mi.w_varS, ↓Mi.w_bin, ↓Mi.w_nil, ↓Mi.w_cons, ↓Mi.w_tup, ↓Mi.w_lst, ↓Mi.w_mut, ↓Mi.w_call, ↓Mi.w_if, ↓Mi.w_and, ↓Mi.w_or, ↓Mi.w_not, ↓Mi.w_B, ↓Mi.asb_bl, ↓Mi.w_andV, ↓Mi.w_orV, ↓Mi.w_notV, ↓Mi.w_tru, ↓Mi.tru_int, ↓Mi.tru_bl, ↓Mi.tru_non, ↓Mi.tru_tup, ↓Mi.tru_lst, ↓Mi.w_neg, ↓Mi.ex_int, ↓Mi.g_xor, ↓Mi.g_lt, ↓Mi.g_le, ↓Mi.g_gt, ↓Mi.g_ge, ↓Mi.g_mul, ↓Mi.g_mod, ↓Mi.g_div, ↓Mi.g_pow, ↓Mi.g_shl, ↓Mi.g_shr, ↓Mi.g_catT, ↓Mi.g_catL, ↓Mi.g_eqi, ↓Mi.g_nei, ↓Mi.g_eqb, ↓Mi.g_neb, ↓Mi.g_eqs, ↓Mi.g_nes, ↓Mi.g_eqt, ↓Mi.g_net, ↓Mi.g_is, ↓Mi.g_isnot, ↓Mi.g_ix_i, ↓Mi.g_ix_t, ↓Mi.ixv_tup, ↓Mi.ixv_lst, ↓Mi.ixv_dK, ↓Mi.g_in, ↓Mi.g_nin, ↓Mi.w_part, ↓Mi.w_sl, ↓Mi.sl_tup, ↓Mi.sl_lst, ↓Mi.sl_scr, ↓Mi.w_rev, ↓Mi.ex_lst, ↓Mi.w_get2, ↓Mi.c_g1, ↓Mi.c_max2, ↓Mi.c_min2, ↓Mi.c_tuple, ↓Mi.dtuple_tup, ↓Mi.dtuple_lst, ↓Mi.dtuple_ref, ↓Mi.w_isi, ↓Mi.setl_0, ↓Mi.setl_s, ↓Mi.w_append, ↓Mi.app_ref, ↓Mi.t_name, ↓Mi.t_tup, ↓Mi.t_nil, ↓Mi.t_cons, ↓Mi.s_next, ↓Mi.s_break, ↓Mi.s_cont, ↓Mi.s_set, ↓Mi.s_ret, ↓Mi.s_retN, ↓Mi.s_expr, ↓Mi.s_if, ↓Mi.s_asg, ↓Mi.s_store, ↓Mi.k_rt, ↓Mi.k_bk, ↓Mi.k_ct, ↓Mi.sto_s, ↓Mi.sto_L, ↓Mi.s_for, ↓Mi.s_while, ↓Mi.r_rt, ↓Mi.r_nx, ↓Mi.tn_nx, ↓Mi.tn_ct, ↓Mi.tn_bk, ↓Mi.tn_rt, ↓Mi.w_seqI, ↓Mi.w_enumI, ↓Mi.w_zipI, ↓Mi.w_range1, ↓Mi.w_range2, ↓Mi.w_range3, ↓Mi.seq_tup, ↓Mi.seq_lst, ↓Mi.seq_ref, ↓Mi.w_lc, ↓Mi.w_yes, ↓Mi.w_chain, ↓Mi.isi_ii, ↓Mi.isi_bi, ↓Mi.isi_tt, ↓Mi.is_non_dK, ↓Mi.is_non_non, ↓Mi.is_blbl, ↓Mi.upd_0, ↓Mi.upd_s, ↓Mi.see_ref, ↓Mi.see_tup, ↓Mi.see_lst, ↓Mi.see_int, ↓Mi.see_str, ↓Mi.see_bl, ↓Mi.see_non, ↓Mi.see_dK, ↓Mi.see_dT, ↓Mi.see_scr, ↓Mi.cell_0, ↓Mi.cell_s, ↓Mi.push_0, ↓Mi.push_1, ↓Mi.push_2, ↓Mi.push_3, ↓Mi.push_4, ↓Mi.push_5, ↓Mi.opt_some, ↓Mi.it_true, ↓Mi.it_false, ↓Mi.it_dec, ↓Mi.it_not, ↓Mi.g_andN, ↓Mi.g_orN, ↓Mi.g_add1, ↓Mi.n_dget, ↓Mi.n_look, ↓Mi.n_in, ↓Mi.n_sto, ↓Mi.n_disp, ↓Mi.keyd_i, ↓Mi.c_minN, ↓Mi.g_eqgetN, ↓Mi.g_negetI, ↓Mi.in_tupN, ↓Mi.n_look0, Mi.wipeR, Mi.dlen_tup, Mi.dlen_lst, Mi.dint_int, Mi.dlist_lst, Mi.dlist_tup, Mi.isl_lst, Mi.isd_dK, Mi.atI_0, Mi.atI_1, Mi.atI_2, Mi.atI_3, Mi.atI_4, List.length_cons, List.length_nil, Nat.reduceAdd, Nat.reduceLeDiff, true_and, and_true, Mi.forget, List.set_cons_zero, List.set_cons_succ, List.map_cons, List.map_nil, List.cons_append, List.nil_append, List.replicate, Nat.reduceSub, Nat.le_refl, ↓c1, ↓it_t (rfl : true = true)]
    refine k_nx.mpr ?_
    refine s_seq.mpr ?_
    simp only [↓Mi.w_ret, ↓Mi.w_var0, ↓Mi.w_varS, ↓Mi.w_bin, ↓Mi.w_nil, ↓Mi.w_cons, ↓Mi.w_tup, ↓Mi.w_lst, ↓Mi.w_mut, ↓Mi.w_call, ↓Mi.w_if, ↓Mi.w_and, ↓Mi.w_or, ↓Mi.w_not, ↓Mi.w_B, ↓Mi.asb_bl, ↓Mi.w_andV, ↓Mi.w_orV, ↓Mi.w_notV, ↓Mi.w_tru, ↓Mi.tru_int, ↓Mi.tru_bl, ↓Mi.tru_non, ↓Mi.tru_tup, ↓Mi.tru_lst, ↓Mi.w_neg, ↓Mi.ex_int, ↓Mi.g_xor, ↓Mi.g_lt, ↓Mi.g_le, ↓Mi.g_gt, ↓Mi.g_ge, ↓Mi.g_mul, ↓Mi.g_mod, ↓Mi.g_div, ↓Mi.g_pow, ↓Mi.g_shl, ↓Mi.g_shr, ↓Mi.g_catT, ↓Mi.g_catL, ↓Mi.g_eqi, ↓Mi.g_nei, ↓Mi.g_eqb, ↓Mi.g_neb, ↓Mi.g_eqs, ↓Mi.g_nes, ↓Mi.g_eqt, ↓Mi.g_net, ↓Mi.g_is, ↓Mi.g_isnot, ↓Mi.g_ix_i, ↓Mi.g_ix_t, ↓Mi.ixv_tup, ↓Mi.ixv_lst, ↓Mi.ixv_dK, ↓Mi.g_in, ↓Mi.g_nin, ↓Mi.w_part, ↓Mi.w_sl, ↓Mi.sl_tup, ↓Mi.sl_lst, ↓Mi.sl_scr, ↓Mi.w_rev, ↓Mi.ex_lst, ↓Mi.w_get2, ↓Mi.c_g1, ↓Mi.c_max2, ↓Mi.c_min2, ↓Mi.c_tuple, ↓Mi.dtuple_tup, ↓Mi.dtuple_lst, ↓Mi.dtuple_ref, ↓Mi.w_isi, ↓Mi.setl_0, ↓Mi.setl_s, ↓Mi.w_append, ↓Mi.app_ref, ↓Mi.t_name, ↓Mi.t_tup, ↓Mi.t_nil, ↓Mi.t_cons, ↓Mi.s_next, ↓Mi.s_break, ↓Mi.s_cont, ↓Mi.s_set, ↓Mi.s_ret, ↓Mi.s_retN, ↓Mi.s_expr, ↓Mi.s_if, ↓Mi.s_asg, ↓Mi.s_store, ↓Mi.k_rt, ↓Mi.k_bk, ↓Mi.k_ct, ↓Mi.sto_s, ↓Mi.sto_L, ↓Mi.s_for, ↓Mi.s_while, ↓Mi.r_rt, ↓Mi.r_nx, ↓Mi.tn_nx, ↓Mi.tn_ct, ↓Mi.tn_bk, ↓Mi.tn_rt, ↓Mi.w_seqI, ↓Mi.w_enumI, ↓Mi.w_zipI, ↓Mi.w_range1, ↓Mi.w_range2, ↓Mi.w_range3, ↓Mi.seq_tup, ↓Mi.seq_lst, ↓Mi.seq_ref, ↓Mi.w_lc, ↓Mi.w_yes, ↓Mi.w_chain, ↓Mi.isi_ii, ↓Mi.isi_bi, ↓Mi.isi_tt, ↓Mi.is_non_dK, ↓Mi.is_non_non, ↓Mi.is_blbl, ↓Mi.upd_0, ↓Mi.upd_s, ↓Mi.see_ref, ↓Mi.see_tup, ↓Mi.see_lst, ↓Mi.see_int, ↓Mi.see_str, ↓Mi.see_bl, ↓Mi.see_non, ↓Mi.see_dK, ↓Mi.see_dT, ↓Mi.see_scr, ↓Mi.cell_0, ↓Mi.cell_s, ↓Mi.push_0, ↓Mi.push_1, ↓Mi.push_2, ↓Mi.push_3, ↓Mi.push_4, ↓Mi.push_5, ↓Mi.opt_some, ↓Mi.it_true, ↓Mi.it_false, ↓Mi.it_dec, ↓Mi.it_not, ↓Mi.g_andN, ↓Mi.g_orN, ↓Mi.g_add1, ↓Mi.n_dget, ↓Mi.n_look, ↓Mi.n_in, ↓Mi.n_sto, ↓Mi.n_disp, ↓Mi.keyd_i, ↓Mi.c_minN, ↓Mi.g_eqgetN, ↓Mi.g_negetI, ↓Mi.in_tupN, ↓Mi.n_look0, Mi.wipeR, Mi.dlen_tup, Mi.dlen_lst, Mi.dint_int, Mi.dlist_lst, Mi.dlist_tup, Mi.isl_lst, Mi.isd_dK, Mi.atI_0, Mi.atI_1, Mi.atI_2, Mi.atI_3, Mi.atI_4, List.length_cons, List.length_nil, Nat.reduceAdd, Nat.reduceLeDiff, true_and, and_true, Mi.forget, List.set_cons_zero, List.set_cons_succ, List.map_cons, List.map_nil, List.cons_append, List.nil_append, List.replicate, Nat.reduceSub, Nat.le_refl, ↓it_b hgS]
    refine k_nx.mpr ?_
    refine s_seq.mpr ?_
    simp only [↓Mi.w_ret, ↓Mi.w_var0, ↓Mi.w_varS, ↓Mi.w_bin, ↓Mi.w_nil, ↓Mi.w_cons, ↓Mi.w_tup, ↓Mi.w_lst, ↓Mi.w_mut, ↓Mi.w_call, ↓Mi.w_if, ↓Mi.w_and, ↓Mi.w_or, ↓Mi.w_not, ↓Mi.w_B, ↓Mi.asb_bl, ↓Mi.w_andV, ↓Mi.w_orV, ↓Mi.w_notV, ↓Mi.w_tru, ↓Mi.tru_int, ↓Mi.tru_bl, ↓Mi.tru_non, ↓Mi.tru_tup, ↓Mi.tru_lst, ↓Mi.w_neg, ↓Mi.ex_int, ↓Mi.g_xor, ↓Mi.g_lt, ↓Mi.g_le, ↓Mi.g_gt, ↓Mi.g_ge, ↓Mi.g_mul, ↓Mi.g_mod, ↓Mi.g_div, ↓Mi.g_pow, ↓Mi.g_shl, ↓Mi.g_shr, ↓Mi.g_catT, ↓Mi.g_catL, ↓Mi.g_eqi, ↓Mi.g_nei, ↓Mi.g_eqb, ↓Mi.g_neb, ↓Mi.g_eqs, ↓Mi.g_nes, ↓Mi.g_eqt, ↓Mi.g_net, ↓Mi.g_is, ↓Mi.g_isnot, ↓Mi.g_ix_i, ↓Mi.g_ix_t, ↓Mi.ixv_tup, ↓Mi.ixv_lst, ↓Mi.ixv_dK, ↓Mi.g_in, ↓Mi.g_nin, ↓Mi.w_part, ↓Mi.w_sl, ↓Mi.sl_tup, ↓Mi.sl_lst, ↓Mi.sl_scr, ↓Mi.w_rev, ↓Mi.ex_lst, ↓Mi.w_get2, ↓Mi.c_g1, ↓Mi.c_max2, ↓Mi.c_min2, ↓Mi.c_tuple, ↓Mi.dtuple_tup, ↓Mi.dtuple_lst, ↓Mi.dtuple_ref, ↓Mi.w_isi, ↓Mi.setl_0, ↓Mi.setl_s, ↓Mi.w_append, ↓Mi.app_ref, ↓Mi.t_name, ↓Mi.t_tup, ↓Mi.t_nil, ↓Mi.t_cons, ↓Mi.s_next, ↓Mi.s_break, ↓Mi.s_cont, ↓Mi.s_set, ↓Mi.s_ret, ↓Mi.s_retN, ↓Mi.s_expr, ↓Mi.s_if, ↓Mi.s_asg, ↓Mi.s_store, ↓Mi.k_rt, ↓Mi.k_bk, ↓Mi.k_ct, ↓Mi.sto_s, ↓Mi.sto_L, ↓Mi.s_for, ↓Mi.s_while, ↓Mi.r_rt, ↓Mi.r_nx, ↓Mi.tn_nx, ↓Mi.tn_ct, ↓Mi.tn_bk, ↓Mi.tn_rt, ↓Mi.w_seqI, ↓Mi.w_enumI, ↓Mi.w_zipI, ↓Mi.w_range1, ↓Mi.w_range2, ↓Mi.w_range3, ↓Mi.seq_tup, ↓Mi.seq_lst, ↓Mi.seq_ref, ↓Mi.w_lc, ↓Mi.w_yes, ↓Mi.w_chain, ↓Mi.isi_ii, ↓Mi.isi_bi, ↓Mi.isi_tt, ↓Mi.is_non_dK, ↓Mi.is_non_non, ↓Mi.is_blbl, ↓Mi.upd_0, ↓Mi.upd_s, ↓Mi.see_ref, ↓Mi.see_tup, ↓Mi.see_lst, ↓Mi.see_int, ↓Mi.see_str, ↓Mi.see_bl, ↓Mi.see_non, ↓Mi.see_dK, ↓Mi.see_dT, ↓Mi.see_scr, ↓Mi.cell_0, ↓Mi.cell_s, ↓Mi.push_0, ↓Mi.push_1, ↓Mi.push_2, ↓Mi.push_3, ↓Mi.push_4, ↓Mi.push_5, ↓Mi.opt_some, ↓Mi.it_true, ↓Mi.it_false, ↓Mi.it_dec, ↓Mi.it_not, ↓Mi.g_andN, ↓Mi.g_orN, ↓Mi.g_add1, ↓Mi.n_dget, ↓Mi.n_look, ↓Mi.n_in, ↓Mi.n_sto, ↓Mi.n_disp, ↓Mi.keyd_i, ↓Mi.c_minN, ↓Mi.g_eqgetN, ↓Mi.g_negetI, ↓Mi.in_tupN, ↓Mi.n_look0, Mi.wipeR, Mi.dlen_tup, Mi.dlen_lst, Mi.dint_int, Mi.dlist_lst, Mi.dlist_tup, Mi.isl_lst, Mi.isd_dK, Mi.atI_0, Mi.atI_1, Mi.atI_2, Mi.atI_3, Mi.atI_4, List.length_cons, List.length_nil, Nat.reduceAdd, Nat.reduceLeDiff, true_and, and_true, Mi.forget, List.set_cons_zero, List.set_cons_succ, List.map_cons, List.map_nil, List.cons_append, List.nil_append, List.replicate, Nat.reduceSub, Nat.le_refl, ↓p_dget, ↓opt_eq hP, ↓opt_eq hmin, ↓opt_eq hs]
    refine ⟨by rw [List.length_map, keysOf_len]; omega, ?_⟩
    refine lc_map (f := fun k : Nat => eP (k, (kget lv k).getD 0)) rfl (fun k hk => ?_) ?_
    · obtain ⟨v, hv⟩ : ∃ v, kget lv k = some v := Option.isSome_iff_exists.mp (kget_isSome.mpr (keysOf_mem.mp hk))
      simp only [↓Mi.w_ret, ↓Mi.w_var0, ↓Mi.w_varS, ↓Mi.w_bin, ↓Mi.w_nil, ↓Mi.w_cons, ↓Mi.w_tup, ↓Mi.w_lst, ↓Mi.w_mut, ↓Mi.w_call, ↓Mi.w_if, ↓Mi.w_and, ↓Mi.w_or, ↓Mi.w_not, ↓Mi.w_B, ↓Mi.asb_bl, ↓Mi.w_andV, ↓Mi.w_orV, ↓Mi.w_notV, ↓Mi.w_tru, ↓Mi.tru_int, ↓Mi.tru_bl, ↓Mi.tru_non, ↓Mi.tru_tup, ↓Mi.tru_lst, ↓Mi.w_neg, ↓Mi.ex_int, ↓Mi.g_xor, ↓Mi.g_lt, ↓Mi.g_le, ↓Mi.g_gt, ↓Mi.g_ge, ↓Mi.g_mul, ↓Mi.g_mod, ↓Mi.g_div, ↓Mi.g_pow, ↓Mi.g_shl, ↓Mi.g_shr, ↓Mi.g_catT, ↓Mi.g_catL, ↓Mi.g_eqi, ↓Mi.g_nei, ↓Mi.g_eqb, ↓Mi.g_neb, ↓Mi.g_eqs, ↓Mi.g_nes, ↓Mi.g_eqt, ↓Mi.g_net, ↓Mi.g_is, ↓Mi.g_isnot, ↓Mi.g_ix_i, ↓Mi.g_ix_t, ↓Mi.ixv_tup, ↓Mi.ixv_lst, ↓Mi.ixv_dK, ↓Mi.g_in, ↓Mi.g_nin, ↓Mi.w_part, ↓Mi.w_sl, ↓Mi.sl_tup, ↓Mi.sl_lst, ↓Mi.sl_scr, ↓Mi.w_rev, ↓Mi.ex_lst, ↓Mi.w_get2, ↓Mi.c_g1, ↓Mi.c_max2, ↓Mi.c_min2, ↓Mi.c_tuple, ↓Mi.dtuple_tup, ↓Mi.dtuple_lst, ↓Mi.dtuple_ref, ↓Mi.w_isi, ↓Mi.setl_0, ↓Mi.setl_s, ↓Mi.w_append, ↓Mi.app_ref, ↓Mi.t_name, ↓Mi.t_tup, ↓Mi.t_nil, ↓Mi.t_cons, ↓Mi.s_next, ↓Mi.s_break, ↓Mi.s_cont, ↓Mi.s_set, ↓Mi.s_ret, ↓Mi.s_retN, ↓Mi.s_expr, ↓Mi.s_if, ↓Mi.s_asg, ↓Mi.s_store, ↓Mi.k_rt, ↓Mi.k_bk, ↓Mi.k_ct, ↓Mi.sto_s, ↓Mi.sto_L, ↓Mi.s_for, ↓Mi.s_while, ↓Mi.r_rt, ↓Mi.r_nx, ↓Mi.tn_nx, ↓Mi.tn_ct, ↓Mi.tn_bk, ↓Mi.tn_rt, ↓Mi.w_seqI, ↓Mi.w_enumI, ↓Mi.w_zipI, ↓Mi.w_range1, ↓Mi.w_range2, ↓Mi.w_range3, ↓Mi.seq_tup, ↓Mi.seq_lst, ↓Mi.seq_ref, ↓Mi.w_lc, ↓Mi.w_yes, ↓Mi.w_chain, ↓Mi.isi_ii, ↓Mi.isi_bi, ↓Mi.isi_tt, ↓Mi.is_non_dK, ↓Mi.is_non_non, ↓Mi.is_blbl, ↓Mi.upd_0, ↓Mi.upd_s, ↓Mi.see_ref, ↓Mi.see_tup, ↓Mi.see_lst, ↓Mi.see_int, ↓Mi.see_str, ↓Mi.see_bl, ↓Mi.see_non, ↓Mi.see_dK, ↓Mi.see_dT, ↓Mi.see_scr, ↓Mi.cell_0, ↓Mi.cell_s, ↓Mi.push_0, ↓Mi.push_1, ↓Mi.push_2, ↓Mi.push_3, ↓Mi.push_4, ↓Mi.push_5, ↓Mi.opt_some, ↓Mi.it_true, ↓Mi.it_false, ↓Mi.it_dec, ↓Mi.it_not, ↓Mi.g_andN, ↓Mi.g_orN, ↓Mi.g_add1, ↓Mi.n_dget, ↓Mi.n_look, ↓Mi.n_in, ↓Mi.n_sto, ↓Mi.n_disp, ↓Mi.keyd_i, ↓Mi.c_minN, ↓Mi.g_eqgetN, ↓Mi.g_negetI, ↓Mi.in_tupN, ↓Mi.n_look0, Mi.wipeR, Mi.dlen_tup, Mi.dlen_lst, Mi.dint_int, Mi.dlist_lst, Mi.dlist_tup, Mi.isl_lst, Mi.isd_dK, Mi.atI_0, Mi.atI_1, Mi.atI_2, Mi.atI_3, Mi.atI_4, List.length_cons, List.length_nil, Nat.reduceAdd, Nat.reduceLeDiff, true_and, and_true, Mi.forget, List.set_cons_zero, List.set_cons_succ, List.map_cons, List.map_nil, List.cons_append, List.nil_append, List.replicate, Nat.reduceSub, Nat.le_refl, ↓opt_eq hv]
      rw [hv]
      rfl
    have e : (keysOf lv).map (fun k : Nat => eP (k, (kget lv k).getD 0)) = (pairsOf lv).map eP := by unfold pairsOf; rw [List.map_map]; rfl
    rw [e]
    refine (opt_eq (gEqO_same (ok_rounds rs (pairsOf lv)))).mpr ?_
    rw [it_true]
    refine k_nx.mpr ?_
    refine s_seq.mpr ?_
    simp only [↓Mi.w_ret, ↓Mi.w_var0, ↓Mi.w_varS, ↓Mi.w_bin, ↓Mi.w_nil, ↓Mi.w_cons, ↓Mi.w_tup, ↓Mi.w_lst, ↓Mi.w_mut, ↓Mi.w_call, ↓Mi.w_if, ↓Mi.w_and, ↓Mi.w_or, ↓Mi.w_not, ↓Mi.w_B, ↓Mi.asb_bl, ↓Mi.w_andV, ↓Mi.w_orV, ↓Mi.w_notV, ↓Mi.w_tru, ↓Mi.tru_int, ↓Mi.tru_bl, ↓Mi.tru_non, ↓Mi.tru_tup, ↓Mi.tru_lst, ↓Mi.w_neg, ↓Mi.ex_int, ↓Mi.g_xor, ↓Mi.g_lt, ↓Mi.g_le, ↓Mi.g_gt, ↓Mi.g_ge, ↓Mi.g_mul, ↓Mi.g_mod, ↓Mi.g_div, ↓Mi.g_pow, ↓Mi.g_shl, ↓Mi.g_shr, ↓Mi.g_catT, ↓Mi.g_catL, ↓Mi.g_eqi, ↓Mi.g_nei, ↓Mi.g_eqb, ↓Mi.g_neb, ↓Mi.g_eqs, ↓Mi.g_nes, ↓Mi.g_eqt, ↓Mi.g_net, ↓Mi.g_is, ↓Mi.g_isnot, ↓Mi.g_ix_i, ↓Mi.g_ix_t, ↓Mi.ixv_tup, ↓Mi.ixv_lst, ↓Mi.ixv_dK, ↓Mi.g_in, ↓Mi.g_nin, ↓Mi.w_part, ↓Mi.w_sl, ↓Mi.sl_tup, ↓Mi.sl_lst, ↓Mi.sl_scr, ↓Mi.w_rev, ↓Mi.ex_lst, ↓Mi.w_get2, ↓Mi.c_g1, ↓Mi.c_max2, ↓Mi.c_min2, ↓Mi.c_tuple, ↓Mi.dtuple_tup, ↓Mi.dtuple_lst, ↓Mi.dtuple_ref, ↓Mi.w_isi, ↓Mi.setl_0, ↓Mi.setl_s, ↓Mi.w_append, ↓Mi.app_ref, ↓Mi.t_name, ↓Mi.t_tup, ↓Mi.t_nil, ↓Mi.t_cons, ↓Mi.s_next, ↓Mi.s_break, ↓Mi.s_cont, ↓Mi.s_set, ↓Mi.s_ret, ↓Mi.s_retN, ↓Mi.s_expr, ↓Mi.s_if, ↓Mi.s_asg, ↓Mi.s_store, ↓Mi.k_rt, ↓Mi.k_bk, ↓Mi.k_ct, ↓Mi.sto_s, ↓Mi.sto_L, ↓Mi.s_for, ↓Mi.s_while, ↓Mi.r_rt, ↓Mi.r_nx, ↓Mi.tn_nx, ↓Mi.tn_ct, ↓Mi.tn_bk, ↓Mi.tn_rt, ↓Mi.w_seqI, ↓Mi.w_enumI, ↓Mi.w_zipI, ↓Mi.w_range1, ↓Mi.w_range2, ↓Mi.w_range3, ↓Mi.seq_tup, ↓Mi.seq_lst, ↓Mi.seq_ref, ↓Mi.w_lc, ↓Mi.w_yes, ↓Mi.w_chain, ↓Mi.isi_ii, ↓Mi.isi_bi, ↓Mi.isi_tt, ↓Mi.is_non_dK, ↓Mi.is_non_non, ↓Mi.is_blbl, ↓Mi.upd_0, ↓Mi.upd_s, ↓Mi.see_ref, ↓Mi.see_tup, ↓Mi.see_lst, ↓Mi.see_int, ↓Mi.see_str, ↓Mi.see_bl, ↓Mi.see_non, ↓Mi.see_dK, ↓Mi.see_dT, ↓Mi.see_scr, ↓Mi.cell_0, ↓Mi.cell_s, ↓Mi.push_0, ↓Mi.push_1, ↓Mi.push_2, ↓Mi.push_3, ↓Mi.push_4, ↓Mi.push_5, ↓Mi.opt_some, ↓Mi.it_true, ↓Mi.it_false, ↓Mi.it_dec, ↓Mi.it_not, ↓Mi.g_andN, ↓Mi.g_orN, ↓Mi.g_add1, ↓Mi.n_dget, ↓Mi.n_look, ↓Mi.n_in, ↓Mi.n_sto, ↓Mi.n_disp, ↓Mi.keyd_i, ↓Mi.c_minN, ↓Mi.g_eqgetN, ↓Mi.g_negetI, ↓Mi.in_tupN, ↓Mi.n_look0, Mi.wipeR, Mi.dlen_tup, Mi.dlen_lst, Mi.dint_int, Mi.dlist_lst, Mi.dlist_tup, Mi.isl_lst, Mi.isd_dK, Mi.atI_0, Mi.atI_1, Mi.atI_2, Mi.atI_3, Mi.atI_4, List.length_cons, List.length_nil, Nat.reduceAdd, Nat.reduceLeDiff, true_and, and_true, Mi.forget, List.set_cons_zero, List.set_cons_succ, List.map_cons, List.map_nil, List.cons_append, List.nil_append, List.replicate, Nat.reduceSub, Nat.le_refl]
    refine k_nx.mpr ?_
    obtain ⟨ps, hpse⟩ : ∃ ps, ps = pairsOf lv := ⟨_, rfl⟩
    have hnd := g.nd
    have hgl := g.len h4
    have hLH := hL.lh h4
    have hkeys : ∀ m d, Dist H (fitN rooms needs) m d → (m, d) ∈ pairsOf lv := fun m d hd => kget_mem (by rw [pairs_get hL.nd]; exact (hL.ok _ _).mpr hd)
    have hval : ∀ p ∈ pairsOf lv, Dist H (fitN rooms needs) p.1 p.2 := fun p hp => by
      have := kget_of_mem hnd hp
      rw [pairs_get hL.nd] at this
      exact (hL.ok _ _).mp this
    obtain rfl : b2 = false := by
      cases b2 with
      | false => rfl
      | true =>
        refine absurd ?_ (hb2' rfl)
        have h1 := (hb2.mp rfl).1
        rw [Bool.and_eq_true] at h1
        have h2 := h1.1
        unfold allW at h2
        rw [List.all_eq_true] at h2
        have := h2 (W H) (by simp)
        rw [decide_eq_true_eq] at this
        omega
    rw [roundsD, eTN, List.map_append, List.map_cons, List.map_nil] at c2
    have hWd := (hL.ok _ _).mp hg
    have hpos : 0 < (pairsOf lv).length := List.length_pos_of_mem (hkeys _ _ hWd)
    have hrl : rs.length ≤ 16 := by have := (hWd.le h4).2; have := hbest.len; omega
    refine s_seq.mpr ?_
    simp only [↓Mi.w_ret, ↓Mi.w_var0, ↓Mi.w_varS, ↓Mi.w_bin, ↓Mi.w_nil, ↓Mi.w_cons, ↓Mi.w_tup, ↓Mi.w_lst, ↓Mi.w_mut, ↓Mi.w_call, ↓Mi.w_if, ↓Mi.w_and, ↓Mi.w_or, ↓Mi.w_not, ↓Mi.w_B, ↓Mi.asb_bl, ↓Mi.w_andV, ↓Mi.w_orV, ↓Mi.w_notV, ↓Mi.w_tru, ↓Mi.tru_int, ↓Mi.tru_bl, ↓Mi.tru_non, ↓Mi.tru_tup, ↓Mi.tru_lst, ↓Mi.w_neg, ↓Mi.ex_int, ↓Mi.g_xor, ↓Mi.g_lt, ↓Mi.g_le, ↓Mi.g_gt, ↓Mi.g_ge, ↓Mi.g_mul, ↓Mi.g_mod, ↓Mi.g_div, ↓Mi.g_pow, ↓Mi.g_shl, ↓Mi.g_shr, ↓Mi.g_catT, ↓Mi.g_catL, ↓Mi.g_eqi, ↓Mi.g_nei, ↓Mi.g_eqb, ↓Mi.g_neb, ↓Mi.g_eqs, ↓Mi.g_nes, ↓Mi.g_eqt, ↓Mi.g_net, ↓Mi.g_is, ↓Mi.g_isnot, ↓Mi.g_ix_i, ↓Mi.g_ix_t, ↓Mi.ixv_tup, ↓Mi.ixv_lst, ↓Mi.ixv_dK, ↓Mi.g_in, ↓Mi.g_nin, ↓Mi.w_part, ↓Mi.w_sl, ↓Mi.sl_tup, ↓Mi.sl_lst, ↓Mi.sl_scr, ↓Mi.w_rev, ↓Mi.ex_lst, ↓Mi.w_get2, ↓Mi.c_g1, ↓Mi.c_max2, ↓Mi.c_min2, ↓Mi.c_tuple, ↓Mi.dtuple_tup, ↓Mi.dtuple_lst, ↓Mi.dtuple_ref, ↓Mi.w_isi, ↓Mi.setl_0, ↓Mi.setl_s, ↓Mi.w_append, ↓Mi.app_ref, ↓Mi.t_name, ↓Mi.t_tup, ↓Mi.t_nil, ↓Mi.t_cons, ↓Mi.s_next, ↓Mi.s_break, ↓Mi.s_cont, ↓Mi.s_set, ↓Mi.s_ret, ↓Mi.s_retN, ↓Mi.s_expr, ↓Mi.s_if, ↓Mi.s_asg, ↓Mi.s_store, ↓Mi.k_rt, ↓Mi.k_bk, ↓Mi.k_ct, ↓Mi.sto_s, ↓Mi.sto_L, ↓Mi.s_for, ↓Mi.s_while, ↓Mi.r_rt, ↓Mi.r_nx, ↓Mi.tn_nx, ↓Mi.tn_ct, ↓Mi.tn_bk, ↓Mi.tn_rt, ↓Mi.w_seqI, ↓Mi.w_enumI, ↓Mi.w_zipI, ↓Mi.w_range1, ↓Mi.w_range2, ↓Mi.w_range3, ↓Mi.seq_tup, ↓Mi.seq_lst, ↓Mi.seq_ref, ↓Mi.w_lc, ↓Mi.w_yes, ↓Mi.w_chain, ↓Mi.isi_ii, ↓Mi.isi_bi, ↓Mi.isi_tt, ↓Mi.is_non_dK, ↓Mi.is_non_non, ↓Mi.is_blbl, ↓Mi.upd_0, ↓Mi.upd_s, ↓Mi.see_ref, ↓Mi.see_tup, ↓Mi.see_lst, ↓Mi.see_int, ↓Mi.see_str, ↓Mi.see_bl, ↓Mi.see_non, ↓Mi.see_dK, ↓Mi.see_dT, ↓Mi.see_scr, ↓Mi.cell_0, ↓Mi.cell_s, ↓Mi.push_0, ↓Mi.push_1, ↓Mi.push_2, ↓Mi.push_3, ↓Mi.push_4, ↓Mi.push_5, ↓Mi.opt_some, ↓Mi.it_true, ↓Mi.it_false, ↓Mi.it_dec, ↓Mi.it_not, ↓Mi.g_andN, ↓Mi.g_orN, ↓Mi.g_add1, ↓Mi.n_dget, ↓Mi.n_look, ↓Mi.n_in, ↓Mi.n_sto, ↓Mi.n_disp, ↓Mi.keyd_i, ↓Mi.c_minN, ↓Mi.g_eqgetN, ↓Mi.g_negetI, ↓Mi.in_tupN, ↓Mi.n_look0, Mi.wipeR, Mi.dlen_tup, Mi.dlen_lst, Mi.dint_int, Mi.dlist_lst, Mi.dlist_tup, Mi.isl_lst, Mi.isd_dK, Mi.atI_0, Mi.atI_1, Mi.atI_2, Mi.atI_3, Mi.atI_4, List.length_cons, List.length_nil, Nat.reduceAdd, Nat.reduceLeDiff, true_and, and_true, Mi.forget, List.set_cons_zero, List.set_cons_succ, List.map_cons, List.map_nil, List.cons_append, List.nil_append, List.replicate, Nat.reduceSub, Nat.le_refl, ↓c2, ↓it_t (rfl : false = false), List.length_map]
    refine ⟨by omega, k_nx.mpr ?_⟩
    refine s_seq.mpr ?_
    simp only [↓Mi.w_ret, ↓Mi.w_var0, ↓Mi.w_varS, ↓Mi.w_bin, ↓Mi.w_nil, ↓Mi.w_cons, ↓Mi.w_tup, ↓Mi.w_lst, ↓Mi.w_mut, ↓Mi.w_call, ↓Mi.w_if, ↓Mi.w_and, ↓Mi.w_or, ↓Mi.w_not, ↓Mi.w_B, ↓Mi.asb_bl, ↓Mi.w_andV, ↓Mi.w_orV, ↓Mi.w_notV, ↓Mi.w_tru, ↓Mi.tru_int, ↓Mi.tru_bl, ↓Mi.tru_non, ↓Mi.tru_tup, ↓Mi.tru_lst, ↓Mi.w_neg, ↓Mi.ex_int, ↓Mi.g_xor, ↓Mi.g_lt, ↓Mi.g_le, ↓Mi.g_gt, ↓Mi.g_ge, ↓Mi.g_mul, ↓Mi.g_mod, ↓Mi.g_div, ↓Mi.g_pow, ↓Mi.g_shl, ↓Mi.g_shr, ↓Mi.g_catT, ↓Mi.g_catL, ↓Mi.g_eqi, ↓Mi.g_nei, ↓Mi.g_eqb, ↓Mi.g_neb, ↓Mi.g_eqs, ↓Mi.g_nes, ↓Mi.g_eqt, ↓Mi.g_net, ↓Mi.g_is, ↓Mi.g_isnot, ↓Mi.g_ix_i, ↓Mi.g_ix_t, ↓Mi.ixv_tup, ↓Mi.ixv_lst, ↓Mi.ixv_dK, ↓Mi.g_in, ↓Mi.g_nin, ↓Mi.w_part, ↓Mi.w_sl, ↓Mi.sl_tup, ↓Mi.sl_lst, ↓Mi.sl_scr, ↓Mi.w_rev, ↓Mi.ex_lst, ↓Mi.w_get2, ↓Mi.c_g1, ↓Mi.c_max2, ↓Mi.c_min2, ↓Mi.c_tuple, ↓Mi.dtuple_tup, ↓Mi.dtuple_lst, ↓Mi.dtuple_ref, ↓Mi.w_isi, ↓Mi.setl_0, ↓Mi.setl_s, ↓Mi.w_append, ↓Mi.app_ref, ↓Mi.t_name, ↓Mi.t_tup, ↓Mi.t_nil, ↓Mi.t_cons, ↓Mi.s_next, ↓Mi.s_break, ↓Mi.s_cont, ↓Mi.s_set, ↓Mi.s_ret, ↓Mi.s_retN, ↓Mi.s_expr, ↓Mi.s_if, ↓Mi.s_asg, ↓Mi.s_store, ↓Mi.k_rt, ↓Mi.k_bk, ↓Mi.k_ct, ↓Mi.sto_s, ↓Mi.sto_L, ↓Mi.s_for, ↓Mi.s_while, ↓Mi.r_rt, ↓Mi.r_nx, ↓Mi.tn_nx, ↓Mi.tn_ct, ↓Mi.tn_bk, ↓Mi.tn_rt, ↓Mi.w_seqI, ↓Mi.w_enumI, ↓Mi.w_zipI, ↓Mi.w_range1, ↓Mi.w_range2, ↓Mi.w_range3, ↓Mi.seq_tup, ↓Mi.seq_lst, ↓Mi.seq_ref, ↓Mi.w_lc, ↓Mi.w_yes, ↓Mi.w_chain, ↓Mi.isi_ii, ↓Mi.isi_bi, ↓Mi.isi_tt, ↓Mi.is_non_dK, ↓Mi.is_non_non, ↓Mi.is_blbl, ↓Mi.upd_0, ↓Mi.upd_s, ↓Mi.see_ref, ↓Mi.see_tup, ↓Mi.see_lst, ↓Mi.see_int, ↓Mi.see_str, ↓Mi.see_bl, ↓Mi.see_non, ↓Mi.see_dK, ↓Mi.see_dT, ↓Mi.see_scr, ↓Mi.cell_0, ↓Mi.cell_s, ↓Mi.push_0, ↓Mi.push_1, ↓Mi.push_2, ↓Mi.push_3, ↓Mi.push_4, ↓Mi.push_5, ↓Mi.opt_some, ↓Mi.it_true, ↓Mi.it_false, ↓Mi.it_dec, ↓Mi.it_not, ↓Mi.g_andN, ↓Mi.g_orN, ↓Mi.g_add1, ↓Mi.n_dget, ↓Mi.n_look, ↓Mi.n_in, ↓Mi.n_sto, ↓Mi.n_disp, ↓Mi.keyd_i, ↓Mi.c_minN, ↓Mi.g_eqgetN, ↓Mi.g_negetI, ↓Mi.in_tupN, ↓Mi.n_look0, Mi.wipeR, Mi.dlen_tup, Mi.dlen_lst, Mi.dint_int, Mi.dlist_lst, Mi.dlist_tup, Mi.isl_lst, Mi.isd_dK, Mi.atI_0, Mi.atI_1, Mi.atI_2, Mi.atI_3, Mi.atI_4, List.length_cons, List.length_nil, Nat.reduceAdd, Nat.reduceLeDiff, true_and, and_true, Mi.forget, List.set_cons_zero, List.set_cons_succ, List.map_cons, List.map_nil, List.cons_append, List.nil_append, List.replicate, Nat.reduceSub, Nat.le_refl, List.length_map]
    refine draw_ok hb _ (by omega) _ fun r a b c e hb hr hr2 => k_nx.mpr ?_
    obtain ⟨k, rfl⟩ := Int.eq_ofNat_of_zero_le hr
    have hk : k < (pairsOf lv).length := by omega
    refine s_seq.mpr ?_
    simp only [↓Mi.w_ret, ↓Mi.w_var0, ↓Mi.w_varS, ↓Mi.w_bin, ↓Mi.w_nil, ↓Mi.w_cons, ↓Mi.w_tup, ↓Mi.w_lst, ↓Mi.w_mut, ↓Mi.w_call, ↓Mi.w_if, ↓Mi.w_and, ↓Mi.w_or, ↓Mi.w_not, ↓Mi.w_B, ↓Mi.asb_bl, ↓Mi.w_andV, ↓Mi.w_orV, ↓Mi.w_notV, ↓Mi.w_tru, ↓Mi.tru_int, ↓Mi.tru_bl, ↓Mi.tru_non, ↓Mi.tru_tup, ↓Mi.tru_lst, ↓Mi.w_neg, ↓Mi.ex_int, ↓Mi.g_xor, ↓Mi.g_lt, ↓Mi.g_le, ↓Mi.g_gt, ↓Mi.g_ge, ↓Mi.g_mul, ↓Mi.g_mod, ↓Mi.g_div, ↓Mi.g_pow, ↓Mi.g_shl, ↓Mi.g_shr, ↓Mi.g_catT, ↓Mi.g_catL, ↓Mi.g_eqi, ↓Mi.g_nei, ↓Mi.g_eqb, ↓Mi.g_neb, ↓Mi.g_eqs, ↓Mi.g_nes, ↓Mi.g_eqt, ↓Mi.g_net, ↓Mi.g_is, ↓Mi.g_isnot, ↓Mi.g_ix_i, ↓Mi.g_ix_t, ↓Mi.ixv_tup, ↓Mi.ixv_lst, ↓Mi.ixv_dK, ↓Mi.g_in, ↓Mi.g_nin, ↓Mi.w_part, ↓Mi.w_sl, ↓Mi.sl_tup, ↓Mi.sl_lst, ↓Mi.sl_scr, ↓Mi.w_rev, ↓Mi.ex_lst, ↓Mi.w_get2, ↓Mi.c_g1, ↓Mi.c_max2, ↓Mi.c_min2, ↓Mi.c_tuple, ↓Mi.dtuple_tup, ↓Mi.dtuple_lst, ↓Mi.dtuple_ref, ↓Mi.w_isi, ↓Mi.setl_0, ↓Mi.setl_s, ↓Mi.w_append, ↓Mi.app_ref, ↓Mi.t_name, ↓Mi.t_tup, ↓Mi.t_nil, ↓Mi.t_cons, ↓Mi.s_next, ↓Mi.s_break, ↓Mi.s_cont, ↓Mi.s_set, ↓Mi.s_ret, ↓Mi.s_retN, ↓Mi.s_expr, ↓Mi.s_if, ↓Mi.s_asg, ↓Mi.s_store, ↓Mi.k_rt, ↓Mi.k_bk, ↓Mi.k_ct, ↓Mi.sto_s, ↓Mi.sto_L, ↓Mi.s_for, ↓Mi.s_while, ↓Mi.r_rt, ↓Mi.r_nx, ↓Mi.tn_nx, ↓Mi.tn_ct, ↓Mi.tn_bk, ↓Mi.tn_rt, ↓Mi.w_seqI, ↓Mi.w_enumI, ↓Mi.w_zipI, ↓Mi.w_range1, ↓Mi.w_range2, ↓Mi.w_range3, ↓Mi.seq_tup, ↓Mi.seq_lst, ↓Mi.seq_ref, ↓Mi.w_lc, ↓Mi.w_yes, ↓Mi.w_chain, ↓Mi.isi_ii, ↓Mi.isi_bi, ↓Mi.isi_tt, ↓Mi.is_non_dK, ↓Mi.is_non_non, ↓Mi.is_blbl, ↓Mi.upd_0, ↓Mi.upd_s, ↓Mi.see_ref, ↓Mi.see_tup, ↓Mi.see_lst, ↓Mi.see_int, ↓Mi.see_str, ↓Mi.see_bl, ↓Mi.see_non, ↓Mi.see_dK, ↓Mi.see_dT, ↓Mi.see_scr, ↓Mi.cell_0, ↓Mi.cell_s, ↓Mi.push_0, ↓Mi.push_1, ↓Mi.push_2, ↓Mi.push_3, ↓Mi.push_4, ↓Mi.push_5, ↓Mi.opt_some, ↓Mi.it_true, ↓Mi.it_false, ↓Mi.it_dec, ↓Mi.it_not, ↓Mi.g_andN, ↓Mi.g_orN, ↓Mi.g_add1, ↓Mi.n_dget, ↓Mi.n_look, ↓Mi.n_in, ↓Mi.n_sto, ↓Mi.n_disp, ↓Mi.keyd_i, ↓Mi.c_minN, ↓Mi.g_eqgetN, ↓Mi.g_negetI, ↓Mi.in_tupN, ↓Mi.n_look0, Mi.wipeR, Mi.dlen_tup, Mi.dlen_lst, Mi.dint_int, Mi.dlist_lst, Mi.dlist_tup, Mi.isl_lst, Mi.isd_dK, Mi.atI_0, Mi.atI_1, Mi.atI_2, Mi.atI_3, Mi.atI_4, List.length_cons, List.length_nil, Nat.reduceAdd, Nat.reduceLeDiff, true_and, and_true, Mi.forget, List.set_cons_zero, List.set_cons_succ, List.map_cons, List.map_nil, List.cons_append, List.nil_append, List.replicate, Nat.reduceSub, Nat.le_refl]
    rw [cut_to eP, cut_from eP, ← List.map_append]
    refine ⟨by rw [List.length_map, List.length_map, List.length_take, List.length_drop]; omega, k_nx.mpr ?_⟩
    have hsp := split_at hk
    have hup2 := g.up
    rw [hsp, List.pairwise_append] at hup2
    have hsub : ((pairsOf lv).take k ++ (pairsOf lv).drop (k + 1)).Sublist (pairsOf lv) := by
      conv => rhs; rw [hsp]
      exact List.Sublist.append (List.Sublist.refl _) (List.sublist_cons_self _ _)
    have g3 : GoodPs H ((pairsOf lv).take k ++ (pairsOf lv).drop (k + 1)) := ⟨g.up.sublist hsub, fun p hp => g.le p (hsub.subset hp)⟩
    obtain ⟨b3, hb3, c3⟩ := judge_r ok rs g3
    obtain rfl : b3 = false := by
      cases b3 with
      | false => rfl
      | true =>
        have h1 := (hb3.mp rfl).2.1
        have hd := hval _ (List.getElem_mem hk)
        obtain ⟨q, hq, hqe⟩ := List.mem_map.mp (h1.reach h4 hd.1)
        rcases List.mem_append.mp hq with hq | hq
        · have := hup2.2.2 q hq _ List.mem_cons_self; omega
        · have := (List.pairwise_cons.mp hup2.2.1).1 q hq; omega
    refine s_seq.mpr ?_
    simp only [↓Mi.w_ret, ↓Mi.w_var0, ↓Mi.w_varS, ↓Mi.w_bin, ↓Mi.w_nil, ↓Mi.w_cons, ↓Mi.w_tup, ↓Mi.w_lst, ↓Mi.w_mut, ↓Mi.w_call, ↓Mi.w_if, ↓Mi.w_and, ↓Mi.w_or, ↓Mi.w_not, ↓Mi.w_B, ↓Mi.asb_bl, ↓Mi.w_andV, ↓Mi.w_orV, ↓Mi.w_notV, ↓Mi.w_tru, ↓Mi.tru_int, ↓Mi.tru_bl, ↓Mi.tru_non, ↓Mi.tru_tup, ↓Mi.tru_lst, ↓Mi.w_neg, ↓Mi.ex_int, ↓Mi.g_xor, ↓Mi.g_lt, ↓Mi.g_le, ↓Mi.g_gt, ↓Mi.g_ge, ↓Mi.g_mul, ↓Mi.g_mod, ↓Mi.g_div, ↓Mi.g_pow, ↓Mi.g_shl, ↓Mi.g_shr, ↓Mi.g_catT, ↓Mi.g_catL, ↓Mi.g_eqi, ↓Mi.g_nei, ↓Mi.g_eqb, ↓Mi.g_neb, ↓Mi.g_eqs, ↓Mi.g_nes, ↓Mi.g_eqt, ↓Mi.g_net, ↓Mi.g_is, ↓Mi.g_isnot, ↓Mi.g_ix_i, ↓Mi.g_ix_t, ↓Mi.ixv_tup, ↓Mi.ixv_lst, ↓Mi.ixv_dK, ↓Mi.g_in, ↓Mi.g_nin, ↓Mi.w_part, ↓Mi.w_sl, ↓Mi.sl_tup, ↓Mi.sl_lst, ↓Mi.sl_scr, ↓Mi.w_rev, ↓Mi.ex_lst, ↓Mi.w_get2, ↓Mi.c_g1, ↓Mi.c_max2, ↓Mi.c_min2, ↓Mi.c_tuple, ↓Mi.dtuple_tup, ↓Mi.dtuple_lst, ↓Mi.dtuple_ref, ↓Mi.w_isi, ↓Mi.setl_0, ↓Mi.setl_s, ↓Mi.w_append, ↓Mi.app_ref, ↓Mi.t_name, ↓Mi.t_tup, ↓Mi.t_nil, ↓Mi.t_cons, ↓Mi.s_next, ↓Mi.s_break, ↓Mi.s_cont, ↓Mi.s_set, ↓Mi.s_ret, ↓Mi.s_retN, ↓Mi.s_expr, ↓Mi.s_if, ↓Mi.s_asg, ↓Mi.s_store, ↓Mi.k_rt, ↓Mi.k_bk, ↓Mi.k_ct, ↓Mi.sto_s, ↓Mi.sto_L, ↓Mi.s_for, ↓Mi.s_while, ↓Mi.r_rt, ↓Mi.r_nx, ↓Mi.tn_nx, ↓Mi.tn_ct, ↓Mi.tn_bk, ↓Mi.tn_rt, ↓Mi.w_seqI, ↓Mi.w_enumI, ↓Mi.w_zipI, ↓Mi.w_range1, ↓Mi.w_range2, ↓Mi.w_range3, ↓Mi.seq_tup, ↓Mi.seq_lst, ↓Mi.seq_ref, ↓Mi.w_lc, ↓Mi.w_yes, ↓Mi.w_chain, ↓Mi.isi_ii, ↓Mi.isi_bi, ↓Mi.isi_tt, ↓Mi.is_non_dK, ↓Mi.is_non_non, ↓Mi.is_blbl, ↓Mi.upd_0, ↓Mi.upd_s, ↓Mi.see_ref, ↓Mi.see_tup, ↓Mi.see_lst, ↓Mi.see_int, ↓Mi.see_str, ↓Mi.see_bl, ↓Mi.see_non, ↓Mi.see_dK, ↓Mi.see_dT, ↓Mi.see_scr, ↓Mi.cell_0, ↓Mi.cell_s, ↓Mi.push_0, ↓Mi.push_1, ↓Mi.push_2, ↓Mi.push_3, ↓Mi.push_4, ↓Mi.push_5, ↓Mi.opt_some, ↓Mi.it_true, ↓Mi.it_false, ↓Mi.it_dec, ↓Mi.it_not, ↓Mi.g_andN, ↓Mi.g_orN, ↓Mi.g_add1, ↓Mi.n_dget, ↓Mi.n_look, ↓Mi.n_in, ↓Mi.n_sto, ↓Mi.n_disp, ↓Mi.keyd_i, ↓Mi.c_minN, ↓Mi.g_eqgetN, ↓Mi.g_negetI, ↓Mi.in_tupN, ↓Mi.n_look0, Mi.wipeR, Mi.dlen_tup, Mi.dlen_lst, Mi.dint_int, Mi.dlist_lst, Mi.dlist_tup, Mi.isl_lst, Mi.isd_dK, Mi.atI_0, Mi.atI_1, Mi.atI_2, Mi.atI_3, Mi.atI_4, List.length_cons, List.length_nil, Nat.reduceAdd, Nat.reduceLeDiff, true_and, and_true, Mi.forget, List.set_cons_zero, List.set_cons_succ, List.map_cons, List.map_nil, List.cons_append, List.nil_append, List.replicate, Nat.reduceSub, Nat.le_refl, ↓c3, ↓it_t (rfl : false = false)]
    refine k_nx.mpr ?_
    -- the last pair
    obtain ⟨n, hn⟩ : ∃ n, (pairsOf lv).length = n + 1 := ⟨(pairsOf lv).length - 1, by omega⟩
    have hlast : (pairsOf lv)[n]? = some (W H, D0) := by
      have hm := hkeys _ _ hWd
      obtain ⟨i, hi, hie⟩ := List.getElem_of_mem hm
      have hni : n < (pairsOf lv).length := by omega
      rcases Nat.lt_or_eq_of_le (show i ≤ n by omega) with h | h
      · have := List.pairwise_iff_getElem.mp g.up i n hi hni h
        rw [hie] at this
        have := (g.le _ (List.getElem_mem hni)).1
        omega
      · subst h
        rw [List.getElem?_eq_getElem hi, hie]
    have hn2 : n < (pairsOf lv).length := by omega
    have hlast2 : (pairsOf lv)[n] = (W H, D0) := by
      rw [List.getElem?_eq_getElem hn2] at hlast
      exact Option.some.inj hlast
    have hat : ∀ {Q : D → Prop}, OPT (atI ((pairsOf lv).map eP) (n : Int)) Q ↔ Q (.tup [.int (W H : Nat), .int (D0 : Nat)]) := fun {Q} => opt_at (f := eP) hlast
    have hsp5 := split_at hn2
    have hup5 := g.up
    rw [hsp5, hlast2, List.pairwise_append] at hup5
    have g5 : GoodPs H ((pairsOf lv).take n ++ [(W H, D0 + 1)]) := by
      refine ⟨?_, fun p hp => ?_⟩
      · rw [List.pairwise_append]
        refine ⟨hup5.1, by simp, fun x hx y hy => ?_⟩
        simp only [List.mem_singleton] at hy
        subst hy
        exact hup5.2.2 x hx (W H, D0) List.mem_cons_self
      · rcases List.mem_append.mp hp with hp | hp
        · exact g.le p (List.mem_of_mem_take hp)
        · simp only [List.mem_singleton] at hp
          subst hp
          have := (hWd.le h4).2
          exact ⟨Nat.le_refl _, by show D0 + 1 ≤ 99; omega⟩
    obtain ⟨b5, hb5, c5⟩ := judge_r ok rs g5
    obtain rfl : b5 = false := by
      cases b5 with
      | false => rfl
      | true =>
        have h1 := (hb5.mp rfl).2.2
        rw [kget_of_mem (v := D0 + 1) g5.nd (by simp)] at h1
        have := Option.some.inj h1
        have := hbest.len
        omega
    rw [roundsD, ePs, List.map_append, List.map_cons, List.map_nil] at c5
    have c5' : ∀ (μ : Mem) (Q : D → Mem → Prop), CL (pureF F_judge_rounds) [eInts rooms, eNeeds needs, .tup [.str (Str.ofString "rounds"), eTN rs, .tup ((((pairsOf lv).take n).map eP) ++ [.tup [.int (W H : Nat), .int ((D0 + 1 : Nat) : Int)]])]] μ Q ↔ Q (.bl false) μ := c5
    refine s_seq.mpr ?_
    simp only [↓Mi.w_ret, ↓Mi.w_var0, ↓Mi.w_varS, ↓Mi.w_bin, ↓Mi.w_nil, ↓Mi.w_cons, ↓Mi.w_tup, ↓Mi.w_lst, ↓Mi.w_mut, ↓Mi.w_call, ↓Mi.w_if, ↓Mi.w_and, ↓Mi.w_or, ↓Mi.w_not, ↓Mi.w_B, ↓Mi.asb_bl, ↓Mi.w_andV, ↓Mi.w_orV, ↓Mi.w_notV, ↓Mi.w_tru, ↓Mi.tru_int, ↓Mi.tru_bl, ↓Mi.tru_non, ↓Mi.tru_tup, ↓Mi.tru_lst, ↓Mi.w_neg, ↓Mi.ex_int, ↓Mi.g_xor, ↓Mi.g_lt, ↓Mi.g_le, ↓Mi.g_gt, ↓Mi.g_ge, ↓Mi.g_mul, ↓Mi.g_mod, ↓Mi.g_div, ↓Mi.g_pow, ↓Mi.g_shl, ↓Mi.g_shr, ↓Mi.g_catT, ↓Mi.g_catL, ↓Mi.g_eqi, ↓Mi.g_nei, ↓Mi.g_eqb, ↓Mi.g_neb, ↓Mi.g_eqs, ↓Mi.g_nes, ↓Mi.g_eqt, ↓Mi.g_net, ↓Mi.g_is, ↓Mi.g_isnot, ↓Mi.g_ix_i, ↓Mi.g_ix_t, ↓Mi.ixv_tup, ↓Mi.ixv_lst, ↓Mi.ixv_dK, ↓Mi.g_in, ↓Mi.g_nin, ↓Mi.w_part, ↓Mi.w_sl, ↓Mi.sl_tup, ↓Mi.sl_lst, ↓Mi.sl_scr, ↓Mi.w_rev, ↓Mi.ex_lst, ↓Mi.w_get2, ↓Mi.c_g1, ↓Mi.c_max2, ↓Mi.c_min2, ↓Mi.c_tuple, ↓Mi.dtuple_tup, ↓Mi.dtuple_lst, ↓Mi.dtuple_ref, ↓Mi.w_isi, ↓Mi.setl_0, ↓Mi.setl_s, ↓Mi.w_append, ↓Mi.app_ref, ↓Mi.t_name, ↓Mi.t_tup, ↓Mi.t_nil, ↓Mi.t_cons, ↓Mi.s_next, ↓Mi.s_break, ↓Mi.s_cont, ↓Mi.s_set, ↓Mi.s_ret, ↓Mi.s_retN, ↓Mi.s_expr, ↓Mi.s_if, ↓Mi.s_asg, ↓Mi.s_store, ↓Mi.k_rt, ↓Mi.k_bk, ↓Mi.k_ct, ↓Mi.sto_s, ↓Mi.sto_L, ↓Mi.s_for, ↓Mi.s_while, ↓Mi.r_rt, ↓Mi.r_nx, ↓Mi.tn_nx, ↓Mi.tn_ct, ↓Mi.tn_bk, ↓Mi.tn_rt, ↓Mi.w_seqI, ↓Mi.w_enumI, ↓Mi.w_zipI, ↓Mi.w_range1, ↓Mi.w_range2, ↓Mi.w_range3, ↓Mi.seq_tup, ↓Mi.seq_lst, ↓Mi.seq_ref, ↓Mi.w_lc, ↓Mi.w_yes, ↓Mi.w_chain, ↓Mi.isi_ii, ↓Mi.isi_bi, ↓Mi.isi_tt, ↓Mi.is_non_dK, ↓Mi.is_non_non, ↓Mi.is_blbl, ↓Mi.upd_0, ↓Mi.upd_s, ↓Mi.see_ref, ↓Mi.see_tup, ↓Mi.see_lst, ↓Mi.see_int, ↓Mi.see_str, ↓Mi.see_bl, ↓Mi.see_non, ↓Mi.see_dK, ↓Mi.see_dT, ↓Mi.see_scr, ↓Mi.cell_0, ↓Mi.cell_s, ↓Mi.push_0, ↓Mi.push_1, ↓Mi.push_2, ↓Mi.push_3, ↓Mi.push_4, ↓Mi.push_5, ↓Mi.opt_some, ↓Mi.it_true, ↓Mi.it_false, ↓Mi.it_dec, ↓Mi.it_not, ↓Mi.g_andN, ↓Mi.g_orN, ↓Mi.g_add1, ↓Mi.n_dget, ↓Mi.n_look, ↓Mi.n_in, ↓Mi.n_sto, ↓Mi.n_disp, ↓Mi.keyd_i, ↓Mi.c_minN, ↓Mi.g_eqgetN, ↓Mi.g_negetI, ↓Mi.in_tupN, ↓Mi.n_look0, Mi.wipeR, Mi.dlen_tup, Mi.dlen_lst, Mi.dint_int, Mi.dlist_lst, Mi.dlist_tup, Mi.isl_lst, Mi.isd_dK, Mi.atI_0, Mi.atI_1, Mi.atI_2, Mi.atI_3, Mi.atI_4, List.length_cons, List.length_nil, Nat.reduceAdd, Nat.reduceLeDiff, true_and, and_true, Mi.forget, List.set_cons_zero, List.set_cons_succ, List.map_cons, List.map_nil, List.cons_append, List.nil_append, List.replicate, Nat.reduceSub, Nat.le_refl, List.length_map, hn, ↓g_sub1 (Nat.le_add_left 1 n), Nat.add_sub_cancel]
    refine hat.mpr ?_
    simp only [↓Mi.w_ret, ↓Mi.w_var0, ↓Mi.w_varS, ↓Mi.w_bin, ↓Mi.w_nil, ↓Mi.w_cons, ↓Mi.w_tup, ↓Mi.w_lst, ↓Mi.w_mut, ↓Mi.w_call, ↓Mi.w_if, ↓Mi.w_and, ↓Mi.w_or, ↓Mi.w_not, ↓Mi.w_B, ↓Mi.asb_bl, ↓Mi.w_andV, ↓Mi.w_orV, ↓Mi.w_notV, ↓Mi.w_tru, ↓Mi.tru_int, ↓Mi.tru_bl, ↓Mi.tru_non, ↓Mi.tru_tup, ↓Mi.tru_lst, ↓Mi.w_neg, ↓Mi.ex_int, ↓Mi.g_xor, ↓Mi.g_lt, ↓Mi.g_le, ↓Mi.g_gt, ↓Mi.g_ge, ↓Mi.g_mul, ↓Mi.g_mod, ↓Mi.g_div, ↓Mi.g_pow, ↓Mi.g_shl, ↓Mi.g_shr, ↓Mi.g_catT, ↓Mi.g_catL, ↓Mi.g_eqi, ↓Mi.g_nei, ↓Mi.g_eqb, ↓Mi.g_neb, ↓Mi.g_eqs, ↓Mi.g_nes, ↓Mi.g_eqt, ↓Mi.g_net, ↓Mi.g_is, ↓Mi.g_isnot, ↓Mi.g_ix_i, ↓Mi.g_ix_t, ↓Mi.ixv_tup, ↓Mi.ixv_lst, ↓Mi.ixv_dK, ↓Mi.g_in, ↓Mi.g_nin, ↓Mi.w_part, ↓Mi.w_sl, ↓Mi.sl_tup, ↓Mi.sl_lst, ↓Mi.sl_scr, ↓Mi.w_rev, ↓Mi.ex_lst, ↓Mi.w_get2, ↓Mi.c_g1, ↓Mi.c_max2, ↓Mi.c_min2, ↓Mi.c_tuple, ↓Mi.dtuple_tup, ↓Mi.dtuple_lst, ↓Mi.dtuple_ref, ↓Mi.w_isi, ↓Mi.setl_0, ↓Mi.setl_s, ↓Mi.w_append, ↓Mi.app_ref, ↓Mi.t_name, ↓Mi.t_tup, ↓Mi.t_nil, ↓Mi.t_cons, ↓Mi.s_next, ↓Mi.s_break, ↓Mi.s_cont, ↓Mi.s_set, ↓Mi.s_ret, ↓Mi.s_retN, ↓Mi.s_expr, ↓Mi.s_if, ↓Mi.s_asg, ↓Mi.s_store, ↓Mi.k_rt, ↓Mi.k_bk, ↓Mi.k_ct, ↓Mi.sto_s, ↓Mi.sto_L, ↓Mi.s_for, ↓Mi.s_while, ↓Mi.r_rt, ↓Mi.r_nx, ↓Mi.tn_nx, ↓Mi.tn_ct, ↓Mi.tn_bk, ↓Mi.tn_rt, ↓Mi.w_seqI, ↓Mi.w_enumI, ↓Mi.w_zipI, ↓Mi.w_range1, ↓Mi.w_range2, ↓Mi.w_range3, ↓Mi.seq_tup, ↓Mi.seq_lst, ↓Mi.seq_ref, ↓Mi.w_lc, ↓Mi.w_yes, ↓Mi.w_chain, ↓Mi.isi_ii, ↓Mi.isi_bi, ↓Mi.isi_tt, ↓Mi.is_non_dK, ↓Mi.is_non_non, ↓Mi.is_blbl, ↓Mi.upd_0, ↓Mi.upd_s, ↓Mi.see_ref, ↓Mi.see_tup, ↓Mi.see_lst, ↓Mi.see_int, ↓Mi.see_str, ↓Mi.see_bl, ↓Mi.see_non, ↓Mi.see_dK, ↓Mi.see_dT, ↓Mi.see_scr, ↓Mi.cell_0, ↓Mi.cell_s, ↓Mi.push_0, ↓Mi.push_1, ↓Mi.push_2, ↓Mi.push_3, ↓Mi.push_4, ↓Mi.push_5, ↓Mi.opt_some, ↓Mi.it_true, ↓Mi.it_false, ↓Mi.it_dec, ↓Mi.it_not, ↓Mi.g_andN, ↓Mi.g_orN, ↓Mi.g_add1, ↓Mi.n_dget, ↓Mi.n_look, ↓Mi.n_in, ↓Mi.n_sto, ↓Mi.n_disp, ↓Mi.keyd_i, ↓Mi.c_minN, ↓Mi.g_eqgetN, ↓Mi.g_negetI, ↓Mi.in_tupN, ↓Mi.n_look0, Mi.wipeR, Mi.dlen_tup, Mi.dlen_lst, Mi.dint_int, Mi.dlist_lst, Mi.dlist_tup, Mi.isl_lst, Mi.isd_dK, Mi.atI_0, Mi.atI_1, Mi.atI_2, Mi.atI_3, Mi.atI_4, List.length_cons, List.length_nil, Nat.reduceAdd, Nat.reduceLeDiff, true_and, and_true, Mi.forget, List.set_cons_zero, List.set_cons_succ, List.map_cons, List.map_nil, List.cons_append, List.nil_append, List.replicate, Nat.reduceSub, Nat.le_refl]
    refine hat.mpr ?_
    simp only [↓Mi.w_ret, ↓Mi.w_var0, ↓Mi.w_varS, ↓Mi.w_bin, ↓Mi.w_nil, ↓Mi.w_cons, ↓Mi.w_tup, ↓Mi.w_lst, ↓Mi.w_mut, ↓Mi.w_call, ↓Mi.w_if, ↓Mi.w_and, ↓Mi.w_or, ↓Mi.w_not, ↓Mi.w_B, ↓Mi.asb_bl, ↓Mi.w_andV, ↓Mi.w_orV, ↓Mi.w_notV, ↓Mi.w_tru, ↓Mi.tru_int, ↓Mi.tru_bl, ↓Mi.tru_non, ↓Mi.tru_tup, ↓Mi.tru_lst, ↓Mi.w_neg, ↓Mi.ex_int, ↓Mi.g_xor, ↓Mi.g_lt, ↓Mi.g_le, ↓Mi.g_gt, ↓Mi.g_ge, ↓Mi.g_mul, ↓Mi.g_mod, ↓Mi.g_div, ↓Mi.g_pow, ↓Mi.g_shl, ↓Mi.g_shr, ↓Mi.g_catT, ↓Mi.g_catL, ↓Mi.g_eqi, ↓Mi.g_nei, ↓Mi.g_eqb, ↓Mi.g_neb, ↓Mi.g_eqs, ↓Mi.g_nes, ↓Mi.g_eqt, ↓Mi.g_net, ↓Mi.g_is, ↓Mi.g_isnot, ↓Mi.g_ix_i, ↓Mi.g_ix_t, ↓Mi.ixv_tup, ↓Mi.ixv_lst, ↓Mi.ixv_dK, ↓Mi.g_in, ↓Mi.g_nin, ↓Mi.w_part, ↓Mi.w_sl, ↓Mi.sl_tup, ↓Mi.sl_lst, ↓Mi.sl_scr, ↓Mi.w_rev, ↓Mi.ex_lst, ↓Mi.w_get2, ↓Mi.c_g1, ↓Mi.c_max2, ↓Mi.c_min2, ↓Mi.c_tuple, ↓Mi.dtuple_tup, ↓Mi.dtuple_lst, ↓Mi.dtuple_ref, ↓Mi.w_isi, ↓Mi.setl_0, ↓Mi.setl_s, ↓Mi.w_append, ↓Mi.app_ref, ↓Mi.t_name, ↓Mi.t_tup, ↓Mi.t_nil, ↓Mi.t_cons, ↓Mi.s_next, ↓Mi.s_break, ↓Mi.s_cont, ↓Mi.s_set, ↓Mi.s_ret, ↓Mi.s_retN, ↓Mi.s_expr, ↓Mi.s_if, ↓Mi.s_asg, ↓Mi.s_store, ↓Mi.k_rt, ↓Mi.k_bk, ↓Mi.k_ct, ↓Mi.sto_s, ↓Mi.sto_L, ↓Mi.s_for, ↓Mi.s_while, ↓Mi.r_rt, ↓Mi.r_nx, ↓Mi.tn_nx, ↓Mi.tn_ct, ↓Mi.tn_bk, ↓Mi.tn_rt, ↓Mi.w_seqI, ↓Mi.w_enumI, ↓Mi.w_zipI, ↓Mi.w_range1, ↓Mi.w_range2, ↓Mi.w_range3, ↓Mi.seq_tup, ↓Mi.seq_lst, ↓Mi.seq_ref, ↓Mi.w_lc, ↓Mi.w_yes, ↓Mi.w_chain, ↓Mi.isi_ii, ↓Mi.isi_bi, ↓Mi.isi_tt, ↓Mi.is_non_dK, ↓Mi.is_non_non, ↓Mi.is_blbl, ↓Mi.upd_0, ↓Mi.upd_s, ↓Mi.see_ref, ↓Mi.see_tup, ↓Mi.see_lst, ↓Mi.see_int, ↓Mi.see_str, ↓Mi.see_bl, ↓Mi.see_non, ↓Mi.see_dK, ↓Mi.see_dT, ↓Mi.see_scr, ↓Mi.cell_0, ↓Mi.cell_s, ↓Mi.push_0, ↓Mi.push_1, ↓Mi.push_2, ↓Mi.push_3, ↓Mi.push_4, ↓Mi.push_5, ↓Mi.opt_some, ↓Mi.it_true, ↓Mi.it_false, ↓Mi.it_dec, ↓Mi.it_not, ↓Mi.g_andN, ↓Mi.g_orN, ↓Mi.g_add1, ↓Mi.n_dget, ↓Mi.n_look, ↓Mi.n_in, ↓Mi.n_sto, ↓Mi.n_disp, ↓Mi.keyd_i, ↓Mi.c_minN, ↓Mi.g_eqgetN, ↓Mi.g_negetI, ↓Mi.in_tupN, ↓Mi.n_look0, Mi.wipeR, Mi.dlen_tup, Mi.dlen_lst, Mi.dint_int, Mi.dlist_lst, Mi.dlist_tup, Mi.isl_lst, Mi.isd_dK, Mi.atI_0, Mi.atI_1, Mi.atI_2, Mi.atI_3, Mi.atI_4, List.length_cons, List.length_nil, Nat.reduceAdd, Nat.reduceLeDiff, true_and, and_true, Mi.forget, List.set_cons_zero, List.set_cons_succ, List.map_cons, List.map_nil, List.cons_append, List.nil_append, List.replicate, Nat.reduceSub, Nat.le_refl]
    rw [cut_to eP]
    refine ⟨by rw [List.length_map, List.length_take]; omega, k_nx.mpr ?_⟩
    refine s_seq.mpr ?_
    simp only [↓Mi.w_ret, ↓Mi.w_var0, ↓Mi.w_varS, ↓Mi.w_bin, ↓Mi.w_nil, ↓Mi.w_cons, ↓Mi.w_tup, ↓Mi.w_lst, ↓Mi.w_mut, ↓Mi.w_call, ↓Mi.w_if, ↓Mi.w_and, ↓Mi.w_or, ↓Mi.w_not, ↓Mi.w_B, ↓Mi.asb_bl, ↓Mi.w_andV, ↓Mi.w_orV, ↓Mi.w_notV, ↓Mi.w_tru, ↓Mi.tru_int, ↓Mi.tru_bl, ↓Mi.tru_non, ↓Mi.tru_tup, ↓Mi.tru_lst, ↓Mi.w_neg, ↓Mi.ex_int, ↓Mi.g_xor, ↓Mi.g_lt, ↓Mi.g_le, ↓Mi.g_gt, ↓Mi.g_ge, ↓Mi.g_mul, ↓Mi.g_mod, ↓Mi.g_div, ↓Mi.g_pow, ↓Mi.g_shl, ↓Mi.g_shr, ↓Mi.g_catT, ↓Mi.g_catL, ↓Mi.g_eqi, ↓Mi.g_nei, ↓Mi.g_eqb, ↓Mi.g_neb, ↓Mi.g_eqs, ↓Mi.g_nes, ↓Mi.g_eqt, ↓Mi.g_net, ↓Mi.g_is, ↓Mi.g_isnot, ↓Mi.g_ix_i, ↓Mi.g_ix_t, ↓Mi.ixv_tup, ↓Mi.ixv_lst, ↓Mi.ixv_dK, ↓Mi.g_in, ↓Mi.g_nin, ↓Mi.w_part, ↓Mi.w_sl, ↓Mi.sl_tup, ↓Mi.sl_lst, ↓Mi.sl_scr, ↓Mi.w_rev, ↓Mi.ex_lst, ↓Mi.w_get2, ↓Mi.c_g1, ↓Mi.c_max2, ↓Mi.c_min2, ↓Mi.c_tuple, ↓Mi.dtuple_tup, ↓Mi.dtuple_lst, ↓Mi.dtuple_ref, ↓Mi.w_isi, ↓Mi.setl_0, ↓Mi.setl_s, ↓Mi.w_append, ↓Mi.app_ref, ↓Mi.t_name, ↓Mi.t_tup, ↓Mi.t_nil, ↓Mi.t_cons, ↓Mi.s_next, ↓Mi.s_break, ↓Mi.s_cont, ↓Mi.s_set, ↓Mi.s_ret, ↓Mi.s_retN, ↓Mi.s_expr, ↓Mi.s_if, ↓Mi.s_asg, ↓Mi.s_store, ↓Mi.k_rt, ↓Mi.k_bk, ↓Mi.k_ct, ↓Mi.sto_s, ↓Mi.sto_L, ↓Mi.s_for, ↓Mi.s_while, ↓Mi.r_rt, ↓Mi.r_nx, ↓Mi.tn_nx, ↓Mi.tn_ct, ↓Mi.tn_bk, ↓Mi.tn_rt, ↓Mi.w_seqI, ↓Mi.w_enumI, ↓Mi.w_zipI, ↓Mi.w_range1, ↓Mi.w_range2, ↓Mi.w_range3, ↓Mi.seq_tup, ↓Mi.seq_lst, ↓Mi.seq_ref, ↓Mi.w_lc, ↓Mi.w_yes, ↓Mi.w_chain, ↓Mi.isi_ii, ↓Mi.isi_bi, ↓Mi.isi_tt, ↓Mi.is_non_dK, ↓Mi.is_non_non, ↓Mi.is_blbl, ↓Mi.upd_0, ↓Mi.upd_s, ↓Mi.see_ref, ↓Mi.see_tup, ↓Mi.see_lst, ↓Mi.see_int, ↓Mi.see_str, ↓Mi.see_bl, ↓Mi.see_non, ↓Mi.see_dK, ↓Mi.see_dT, ↓Mi.see_scr, ↓Mi.cell_0, ↓Mi.cell_s, ↓Mi.push_0, ↓Mi.push_1, ↓Mi.push_2, ↓Mi.push_3, ↓Mi.push_4, ↓Mi.push_5, ↓Mi.opt_some, ↓Mi.it_true, ↓Mi.it_false, ↓Mi.it_dec, ↓Mi.it_not, ↓Mi.g_andN, ↓Mi.g_orN, ↓Mi.g_add1, ↓Mi.n_dget, ↓Mi.n_look, ↓Mi.n_in, ↓Mi.n_sto, ↓Mi.n_disp, ↓Mi.keyd_i, ↓Mi.c_minN, ↓Mi.g_eqgetN, ↓Mi.g_negetI, ↓Mi.in_tupN, ↓Mi.n_look0, Mi.wipeR, Mi.dlen_tup, Mi.dlen_lst, Mi.dint_int, Mi.dlist_lst, Mi.dlist_tup, Mi.isl_lst, Mi.isd_dK, Mi.atI_0, Mi.atI_1, Mi.atI_2, Mi.atI_3, Mi.atI_4, List.length_cons, List.length_nil, Nat.reduceAdd, Nat.reduceLeDiff, true_and, and_true, Mi.forget, List.set_cons_zero, List.set_cons_succ, List.map_cons, List.map_nil, List.cons_append, List.nil_append, List.replicate, Nat.reduceSub, Nat.le_refl, ↓c5', ↓it_t (rfl : false = false)]
    refine k_nx.mpr ?_
    simp only [↓Mi.w_ret, ↓Mi.w_var0, ↓Mi.w_varS, ↓Mi.w_bin, ↓Mi.w_nil, ↓Mi.w_cons, ↓Mi.w_tup, ↓Mi.w_lst, ↓Mi.w_mut, ↓Mi.w_call, ↓Mi.w_if, ↓Mi.w_and, ↓Mi.w_or, ↓Mi.w_not, ↓Mi.w_B, ↓Mi.asb_bl, ↓Mi.w_andV, ↓Mi.w_orV, ↓Mi.w_notV, ↓Mi.w_tru, ↓Mi.tru_int, ↓Mi.tru_bl, ↓Mi.tru_non, ↓Mi.tru_tup, ↓Mi.tru_lst, ↓Mi.w_neg, ↓Mi.ex_int, ↓Mi.g_xor, ↓Mi.g_lt, ↓Mi.g_le, ↓Mi.g_gt, ↓Mi.g_ge, ↓Mi.g_mul, ↓Mi.g_mod, ↓Mi.g_div, ↓Mi.g_pow, ↓Mi.g_shl, ↓Mi.g_shr, ↓Mi.g_catT, ↓Mi.g_catL, ↓Mi.g_eqi, ↓Mi.g_nei, ↓Mi.g_eqb, ↓Mi.g_neb, ↓Mi.g_eqs, ↓Mi.g_nes, ↓Mi.g_eqt, ↓Mi.g_net, ↓Mi.g_is, ↓Mi.g_isnot, ↓Mi.g_ix_i, ↓Mi.g_ix_t, ↓Mi.ixv_tup, ↓Mi.ixv_lst, ↓Mi.ixv_dK, ↓Mi.g_in, ↓Mi.g_nin, ↓Mi.w_part, ↓Mi.w_sl, ↓Mi.sl_tup, ↓Mi.sl_lst, ↓Mi.sl_scr, ↓Mi.w_rev, ↓Mi.ex_lst, ↓Mi.w_get2, ↓Mi.c_g1, ↓Mi.c_max2, ↓Mi.c_min2, ↓Mi.c_tuple, ↓Mi.dtuple_tup, ↓Mi.dtuple_lst, ↓Mi.dtuple_ref, ↓Mi.w_isi, ↓Mi.setl_0, ↓Mi.setl_s, ↓Mi.w_append, ↓Mi.app_ref, ↓Mi.t_name, ↓Mi.t_tup, ↓Mi.t_nil, ↓Mi.t_cons, ↓Mi.s_next, ↓Mi.s_break, ↓Mi.s_cont, ↓Mi.s_set, ↓Mi.s_ret, ↓Mi.s_retN, ↓Mi.s_expr, ↓Mi.s_if, ↓Mi.s_asg, ↓Mi.s_store, ↓Mi.k_rt, ↓Mi.k_bk, ↓Mi.k_ct, ↓Mi.sto_s, ↓Mi.sto_L, ↓Mi.s_for, ↓Mi.s_while, ↓Mi.r_rt, ↓Mi.r_nx, ↓Mi.tn_nx, ↓Mi.tn_ct, ↓Mi.tn_bk, ↓Mi.tn_rt, ↓Mi.w_seqI, ↓Mi.w_enumI, ↓Mi.w_zipI, ↓Mi.w_range1, ↓Mi.w_range2, ↓Mi.w_range3, ↓Mi.seq_tup, ↓Mi.seq_lst, ↓Mi.seq_ref, ↓Mi.w_lc, ↓Mi.w_yes, ↓Mi.w_chain, ↓Mi.isi_ii, ↓Mi.isi_bi, ↓Mi.isi_tt, ↓Mi.is_non_dK, ↓Mi.is_non_non, ↓Mi.is_blbl, ↓Mi.upd_0, ↓Mi.upd_s, ↓Mi.see_ref, ↓Mi.see_tup, ↓Mi.see_lst, ↓Mi.see_int, ↓Mi.see_str, ↓Mi.see_bl, ↓Mi.see_non, ↓Mi.see_dK, ↓Mi.see_dT, ↓Mi.see_scr, ↓Mi.cell_0, ↓Mi.cell_s, ↓Mi.push_0, ↓Mi.push_1, ↓Mi.push_2, ↓Mi.push_3, ↓Mi.push_4, ↓Mi.push_5, ↓Mi.opt_some, ↓Mi.it_true, ↓Mi.it_false, ↓Mi.it_dec, ↓Mi.it_not, ↓Mi.g_andN, ↓Mi.g_orN, ↓Mi.g_add1, ↓Mi.n_dget, ↓Mi.n_look, ↓Mi.n_in, ↓Mi.n_sto, ↓Mi.n_disp, ↓Mi.keyd_i, ↓Mi.c_minN, ↓Mi.g_eqgetN, ↓Mi.g_negetI, ↓Mi.in_tupN, ↓Mi.n_look0, Mi.wipeR, Mi.dlen_tup, Mi.dlen_lst, Mi.dint_int, Mi.dlist_lst, Mi.dlist_tup, Mi.isl_lst, Mi.isd_dK, Mi.atI_0, Mi.atI_1, Mi.atI_2, Mi.atI_3, Mi.atI_4, List.length_cons, List.length_nil, Nat.reduceAdd, Nat.reduceLeDiff, true_and, and_true, Mi.forget, List.set_cons_zero, List.set_cons_succ, List.map_cons, List.map_nil, List.cons_append, List.nil_append, List.replicate, Nat.reduceSub, Nat.le_refl, ↓opt_eq hs, ↓c4]
    simp
theorem law_true (ns : List Int) (hl : ns.length ≤ 63) : ∃ μ', F_law [.scr ns] [] = some (.bl true, μ') := by
  obtain ⟨d, m, e, h⟩ := head_ok ns (fun d _ => d = .bl true) fun H rooms needs a b c e xs M ok hb => tail_ok ok _ a b c e xs M hb
  subst h
  exact ⟨m, e⟩
end K68
namespace K68
open PySem PySem.Spec PyProof.Rows L2 Mi
theorem all_mk {l : PySem.W.OpenLaw} {w : World} {K : PySem.W.Frag} {h : Heap} {mg : Str → Option Value} {fa : Addr} (X : K.In h) (G : h.Ns mainGlobals mg) (hfa : mg "law" = some (.ref fa))
    {od0 an0 : Option Addr} {sl0 : Array (Option Value)} {oc0 kV0 dc0 pm0 cd0 ct0 : Value} {f0 : Addr}
    (a0 : PySem.W.nsIn K mainGlobals "_law_begin" = some (some (.ref f0))) (l0 : K.lookup f0 = some ⟨oc0, od0, .func (PySem.W.fnOf "_law_begin" "_law_begin" (defArgs s__law_begin) (defBody s__law_begin) (defScope s__law_begin) .none kV0 dc0 pm0 an0 cd0 ct0), sl0⟩) (c0 : PySem.W.codeIn K cd0 "_law_begin" = true) (k0 : PySem.W.keepIn K (.ref f0) = true)
    {od1 an1 : Option Addr} {sl1 : Array (Option Value)} {oc1 kV1 dc1 pm1 cd1 ct1 : Value} {f1 : Addr}
    (a1 : PySem.W.nsIn K mainGlobals "_law_draw" = some (some (.ref f1))) (l1 : K.lookup f1 = some ⟨oc1, od1, .func (PySem.W.fnOf "_law_draw" "_law_draw" (defArgs s__law_draw) (defBody s__law_draw) (defScope s__law_draw) .none kV1 dc1 pm1 an1 cd1 ct1), sl1⟩) (c1 : PySem.W.codeIn K cd1 "_law_draw" = true) (k1 : PySem.W.keepIn K (.ref f1) = true)
    {od2 an2 : Option Addr} {sl2 : Array (Option Value)} {oc2 kV2 dc2 pm2 cd2 ct2 : Value} {f2 : Addr}
    (a2 : PySem.W.nsIn K mainGlobals "most_rows" = some (some (.ref f2))) (l2 : K.lookup f2 = some ⟨oc2, od2, .func (PySem.W.fnOf "most_rows" "most_rows" (defArgs s_most_rows) (defBody s_most_rows) (defScope s_most_rows) .none kV2 dc2 pm2 an2 cd2 ct2), sl2⟩) (c2 : PySem.W.codeIn K cd2 "most_rows" = true) (k2 : PySem.W.keepIn K (.ref f2) = true)
    {od3 an3 : Option Addr} {sl3 : Array (Option Value)} {oc3 kV3 dc3 pm3 cd3 ct3 : Value} {f3 : Addr}
    (a3 : PySem.W.nsIn K mainGlobals "fits_round" = some (some (.ref f3))) (l3 : K.lookup f3 = some ⟨oc3, od3, .func (PySem.W.fnOf "fits_round" "fits_round" (defArgs s_fits_round) (defBody s_fits_round) (defScope s_fits_round) .none kV3 dc3 pm3 an3 cd3 ct3), sl3⟩) (c3 : PySem.W.codeIn K cd3 "fits_round" = true) (k3 : PySem.W.keepIn K (.ref f3) = true)
    {od4 an4 : Option Addr} {sl4 : Array (Option Value)} {oc4 kV4 dc4 pm4 cd4 ct4 : Value} {f4 : Addr}
    (a4 : PySem.W.nsIn K mainGlobals "_law_fits" = some (some (.ref f4))) (l4 : K.lookup f4 = some ⟨oc4, od4, .func (PySem.W.fnOf "_law_fits" "_law_fits" (defArgs s__law_fits) (defBody s__law_fits) (defScope s__law_fits) .none kV4 dc4 pm4 an4 cd4 ct4), sl4⟩) (c4 : PySem.W.codeIn K cd4 "_law_fits" = true) (k4 : PySem.W.keepIn K (.ref f4) = true)
    {od5 an5 : Option Addr} {sl5 : Array (Option Value)} {oc5 kV5 dc5 pm5 cd5 ct5 : Value} {f5 : Addr}
    (a5 : PySem.W.nsIn K mainGlobals "_law_rows" = some (some (.ref f5))) (l5 : K.lookup f5 = some ⟨oc5, od5, .func (PySem.W.fnOf "_law_rows" "_law_rows" (defArgs s__law_rows) (defBody s__law_rows) (defScope s__law_rows) .none kV5 dc5 pm5 an5 cd5 ct5), sl5⟩) (c5 : PySem.W.codeIn K cd5 "_law_rows" = true) (k5 : PySem.W.keepIn K (.ref f5) = true)
    {od6 an6 : Option Addr} {sl6 : Array (Option Value)} {oc6 kV6 dc6 pm6 cd6 ct6 : Value} {f6 : Addr}
    (a6 : PySem.W.nsIn K mainGlobals "whole_mask" = some (some (.ref f6))) (l6 : K.lookup f6 = some ⟨oc6, od6, .func (PySem.W.fnOf "whole_mask" "whole_mask" (defArgs s_whole_mask) (defBody s_whole_mask) (defScope s_whole_mask) .none kV6 dc6 pm6 an6 cd6 ct6), sl6⟩) (c6 : PySem.W.codeIn K cd6 "whole_mask" = true) (k6 : PySem.W.keepIn K (.ref f6) = true)
    {od7 an7 : Option Addr} {sl7 : Array (Option Value)} {oc7 kV7 dc7 pm7 cd7 ct7 : Value} {f7 : Addr}
    (a7 : PySem.W.nsIn K mainGlobals "parts_within" = some (some (.ref f7))) (l7 : K.lookup f7 = some ⟨oc7, od7, .func (PySem.W.fnOf "parts_within" "parts_within" (defArgs s_parts_within) (defBody s_parts_within) (defScope s_parts_within) .none kV7 dc7 pm7 an7 cd7 ct7), sl7⟩) (c7 : PySem.W.codeIn K cd7 "parts_within" = true) (k7 : PySem.W.keepIn K (.ref f7) = true)
    {od8 an8 : Option Addr} {sl8 : Array (Option Value)} {oc8 kV8 dc8 pm8 cd8 ct8 : Value} {f8 : Addr}
    (a8 : PySem.W.nsIn K mainGlobals "round_levels" = some (some (.ref f8))) (l8 : K.lookup f8 = some ⟨oc8, od8, .func (PySem.W.fnOf "round_levels" "round_levels" (defArgs s_round_levels) (defBody s_round_levels) (defScope s_round_levels) .none kV8 dc8 pm8 an8 cd8 ct8), sl8⟩) (c8 : PySem.W.codeIn K cd8 "round_levels" = true) (k8 : PySem.W.keepIn K (.ref f8) = true)
    {od9 an9 : Option Addr} {sl9 : Array (Option Value)} {oc9 kV9 dc9 pm9 cd9 ct9 : Value} {f9 : Addr}
    (a9 : PySem.W.nsIn K mainGlobals "rounds_left" = some (some (.ref f9))) (l9 : K.lookup f9 = some ⟨oc9, od9, .func (PySem.W.fnOf "rounds_left" "rounds_left" (defArgs s_rounds_left) (defBody s_rounds_left) (defScope s_rounds_left) .none kV9 dc9 pm9 an9 cd9 ct9), sl9⟩) (c9 : PySem.W.codeIn K cd9 "rounds_left" = true) (k9 : PySem.W.keepIn K (.ref f9) = true)
    {od10 an10 : Option Addr} {sl10 : Array (Option Value)} {oc10 kV10 dc10 pm10 cd10 ct10 : Value} {f10 : Addr}
    (a10 : PySem.W.nsIn K mainGlobals "fewest_rounds" = some (some (.ref f10))) (l10 : K.lookup f10 = some ⟨oc10, od10, .func (PySem.W.fnOf "fewest_rounds" "fewest_rounds" (defArgs s_fewest_rounds) (defBody s_fewest_rounds) (defScope s_fewest_rounds) .none kV10 dc10 pm10 an10 cd10 ct10), sl10⟩) (c10 : PySem.W.codeIn K cd10 "fewest_rounds" = true) (k10 : PySem.W.keepIn K (.ref f10) = true)
    {od11 an11 : Option Addr} {sl11 : Array (Option Value)} {oc11 kV11 dc11 pm11 cd11 ct11 : Value} {f11 : Addr}
    (a11 : PySem.W.nsIn K mainGlobals "is_row" = some (some (.ref f11))) (l11 : K.lookup f11 = some ⟨oc11, od11, .func (PySem.W.fnOf "is_row" "is_row" (defArgs s_is_row) (defBody s_is_row) (defScope s_is_row) .none kV11 dc11 pm11 an11 cd11 ct11), sl11⟩) (c11 : PySem.W.codeIn K cd11 "is_row" = true) (k11 : PySem.W.keepIn K (.ref f11) = true)
    {od12 an12 : Option Addr} {sl12 : Array (Option Value)} {oc12 kV12 dc12 pm12 cd12 ct12 : Value} {f12 : Addr}
    (a12 : PySem.W.nsIn K mainGlobals "is_whole" = some (some (.ref f12))) (l12 : K.lookup f12 = some ⟨oc12, od12, .func (PySem.W.fnOf "is_whole" "is_whole" (defArgs s_is_whole) (defBody s_is_whole) (defScope s_is_whole) .none kV12 dc12 pm12 an12 cd12 ct12), sl12⟩) (c12 : PySem.W.codeIn K cd12 "is_whole" = true) (k12 : PySem.W.keepIn K (.ref f12) = true)
    {od13 an13 : Option Addr} {sl13 : Array (Option Value)} {oc13 kV13 dc13 pm13 cd13 ct13 : Value} {f13 : Addr}
    (a13 : PySem.W.nsIn K mainGlobals "pairs_dict" = some (some (.ref f13))) (l13 : K.lookup f13 = some ⟨oc13, od13, .func (PySem.W.fnOf "pairs_dict" "pairs_dict" (defArgs s_pairs_dict) (defBody s_pairs_dict) (defScope s_pairs_dict) .none kV13 dc13 pm13 an13 cd13 ct13), sl13⟩) (c13 : PySem.W.codeIn K cd13 "pairs_dict" = true) (k13 : PySem.W.keepIn K (.ref f13) = true)
    {od14 an14 : Option Addr} {sl14 : Array (Option Value)} {oc14 kV14 dc14 pm14 cd14 ct14 : Value} {f14 : Addr}
    (a14 : PySem.W.nsIn K mainGlobals "all_whole" = some (some (.ref f14))) (l14 : K.lookup f14 = some ⟨oc14, od14, .func (PySem.W.fnOf "all_whole" "all_whole" (defArgs s_all_whole) (defBody s_all_whole) (defScope s_all_whole) .none kV14 dc14 pm14 an14 cd14 ct14), sl14⟩) (c14 : PySem.W.codeIn K cd14 "all_whole" = true) (k14 : PySem.W.keepIn K (.ref f14) = true)
    {od15 an15 : Option Addr} {sl15 : Array (Option Value)} {oc15 kV15 dc15 pm15 cd15 ct15 : Value} {f15 : Addr}
    (a15 : PySem.W.nsIn K mainGlobals "rounds_hold" = some (some (.ref f15))) (l15 : K.lookup f15 = some ⟨oc15, od15, .func (PySem.W.fnOf "rounds_hold" "rounds_hold" (defArgs s_rounds_hold) (defBody s_rounds_hold) (defScope s_rounds_hold) .none kV15 dc15 pm15 an15 cd15 ct15), sl15⟩) (c15 : PySem.W.codeIn K cd15 "rounds_hold" = true) (k15 : PySem.W.keepIn K (.ref f15) = true)
    {od16 an16 : Option Addr} {sl16 : Array (Option Value)} {oc16 kV16 dc16 pm16 cd16 ct16 : Value} {f16 : Addr}
    (a16 : PySem.W.nsIn K mainGlobals "levels_hold" = some (some (.ref f16))) (l16 : K.lookup f16 = some ⟨oc16, od16, .func (PySem.W.fnOf "levels_hold" "levels_hold" (defArgs s_levels_hold) (defBody s_levels_hold) (defScope s_levels_hold) .none kV16 dc16 pm16 an16 cd16 ct16), sl16⟩) (c16 : PySem.W.codeIn K cd16 "levels_hold" = true) (k16 : PySem.W.keepIn K (.ref f16) = true)
    {od17 an17 : Option Addr} {sl17 : Array (Option Value)} {oc17 kV17 dc17 pm17 cd17 ct17 : Value} {f17 : Addr}
    (a17 : PySem.W.nsIn K mainGlobals "judge_rounds" = some (some (.ref f17))) (l17 : K.lookup f17 = some ⟨oc17, od17, .func (PySem.W.fnOf "judge_rounds" "judge_rounds" (defArgs s_judge_rounds) (defBody s_judge_rounds) (defScope s_judge_rounds) .none kV17 dc17 pm17 an17 cd17 ct17), sl17⟩) (c17 : PySem.W.codeIn K cd17 "judge_rounds" = true) (k17 : PySem.W.keepIn K (.ref f17) = true)
    {od18 an18 : Option Addr} {sl18 : Array (Option Value)} {oc18 kV18 dc18 pm18 cd18 ct18 : Value} {f18 : Addr}
    (a18 : PySem.W.nsIn K mainGlobals "law" = some (some (.ref f18))) (l18 : K.lookup f18 = some ⟨oc18, od18, .func (PySem.W.fnOf "law" "law" (defArgs s_law) (defBody s_law) (defScope s_law) .none kV18 dc18 pm18 an18 cd18 ct18), sl18⟩) (c18 : PySem.W.codeIn K cd18 "law" = true) (k18 : PySem.W.keepIn K (.ref f18) = true)
    (z_bool : PySem.W.nsIn K mainGlobals "bool" = some none)
    (z_enumerate : PySem.W.nsIn K mainGlobals "enumerate" = some none)
    (z_int : PySem.W.nsIn K mainGlobals "int" = some none)
    (z_isinstance : PySem.W.nsIn K mainGlobals "isinstance" = some none)
    (z_len : PySem.W.nsIn K mainGlobals "len" = some none)
    (z_list : PySem.W.nsIn K mainGlobals "list" = some none)
    (z_max : PySem.W.nsIn K mainGlobals "max" = some none)
    (z_min : PySem.W.nsIn K mainGlobals "min" = some none)
    (z_range : PySem.W.nsIn K mainGlobals "range" = some none)
    (z_sorted : PySem.W.nsIn K mainGlobals "sorted" = some none)
    (z_sum : PySem.W.nsIn K mainGlobals "sum" = some none)
    (z_tuple : PySem.W.nsIn K mainGlobals "tuple" = some none)
    (z_zip : PySem.W.nsIn K mainGlobals "zip" = some none)
    : ∃ fd : FuncData, (∀ (s : Shared) (v : Value), BindsTo s fd ⟨[v], []⟩ [("script", v)]) ∧ ∀ base : Heap, K.In base → base.Ns mainGlobals mg → FnOk l.prog w K mg base CX0 5 fa fd [("script" : Str)] (spF K F_law) := by
  have e := hfa.symm.trans (PySem.W.mg_of X G a18)
  cases e
  let T : Txt K mg := ⟨f0,
    _,
    fun_mk (st := s__law_begin) l0 c0 k0,
    PySem.W.mg_of X G a0,
    (fun_mk (st := s__law_begin) l0 c0 k0).binds (ps := [("script" : Str)]) fun _ _ _ _ _ _ us hl => match us, hl with | [_], _ => rfl,
    f1,
    _,
    fun_mk (st := s__law_draw) l1 c1 k1,
    PySem.W.mg_of X G a1,
    (fun_mk (st := s__law_draw) l1 c1 k1).binds (ps := [("d" : Str), ("many" : Str)]) fun _ _ _ _ _ _ us hl => match us, hl with | [_, _], _ => rfl,
    f2,
    _,
    fun_mk (st := s_most_rows) l2 c2 k2,
    PySem.W.mg_of X G a2,
    (fun_mk (st := s_most_rows) l2 c2 k2).binds (ps := [("row" : Str), ("turned" : Str), ("turning" : Str)]) fun _ _ _ _ _ _ us hl => match us, hl with | [_, _, _], _ => rfl,
    f3,
    _,
    fun_mk (st := s_fits_round) l3 c3 k3,
    PySem.W.mg_of X G a3,
    (fun_mk (st := s_fits_round) l3 c3 k3).binds (ps := [("rooms" : Str), ("needs" : Str), ("turned" : Str), ("turning" : Str)]) fun _ _ _ _ _ _ us hl => match us, hl with | [_, _, _, _], _ => rfl,
    f4,
    _,
    fun_mk (st := s__law_fits) l4 c4 k4,
    PySem.W.mg_of X G a4,
    (fun_mk (st := s__law_fits) l4 c4 k4).binds (ps := [("rooms" : Str), ("needs" : Str), ("turned" : Str), ("turning" : Str)]) fun _ _ _ _ _ _ us hl => match us, hl with | [_, _, _, _], _ => rfl,
    f5,
    _,
    fun_mk (st := s__law_rows) l5 c5 k5,
    PySem.W.mg_of X G a5,
    (fun_mk (st := s__law_rows) l5 c5 k5).binds (ps := [("rooms" : Str), ("needs" : Str), ("whole" : Str)]) fun _ _ _ _ _ _ us hl => match us, hl with | [_, _, _], _ => rfl,
    f6,
    _,
    fun_mk (st := s_whole_mask) l6 c6 k6,
    PySem.W.mg_of X G a6,
    (fun_mk (st := s_whole_mask) l6 c6 k6).binds (ps := [("needs" : Str)]) fun _ _ _ _ _ _ us hl => match us, hl with | [_], _ => rfl,
    f7,
    _,
    fun_mk (st := s_parts_within) l7 c7 k7,
    PySem.W.mg_of X G a7,
    (fun_mk (st := s_parts_within) l7 c7 k7).binds (ps := [("mask" : Str)]) fun _ _ _ _ _ _ us hl => match us, hl with | [_], _ => rfl,
    f8,
    _,
    fun_mk (st := s_round_levels) l8 c8 k8,
    PySem.W.mg_of X G a8,
    (fun_mk (st := s_round_levels) l8 c8 k8).binds (ps := [("rooms" : Str), ("needs" : Str)]) fun _ _ _ _ _ _ us hl => match us, hl with | [_, _], _ => rfl,
    f9,
    _,
    fun_mk (st := s_rounds_left) l9 c9 k9,
    PySem.W.mg_of X G a9,
    (fun_mk (st := s_rounds_left) l9 c9 k9).binds (ps := [("rooms" : Str), ("needs" : Str)]) fun _ _ _ _ _ _ us hl => match us, hl with | [_, _], _ => rfl,
    f10,
    _,
    fun_mk (st := s_fewest_rounds) l10 c10 k10,
    PySem.W.mg_of X G a10,
    (fun_mk (st := s_fewest_rounds) l10 c10 k10).binds (ps := [("rooms" : Str), ("needs" : Str)]) fun _ _ _ _ _ _ us hl => match us, hl with | [_, _], _ => rfl,
    f11,
    _,
    fun_mk (st := s_is_row) l11 c11 k11,
    PySem.W.mg_of X G a11,
    (fun_mk (st := s_is_row) l11 c11 k11).binds (ps := [("value" : Str), ("length" : Str)]) fun _ _ _ _ _ _ us hl => match us, hl with | [_, _], _ => rfl,
    f12,
    _,
    fun_mk (st := s_is_whole) l12 c12 k12,
    PySem.W.mg_of X G a12,
    (fun_mk (st := s_is_whole) l12 c12 k12).binds (ps := [("value" : Str), ("low" : Str), ("high" : Str)]) fun _ _ _ _ _ _ us hl => match us, hl with | [_, _, _], _ => rfl,
    f13,
    _,
    fun_mk (st := s_pairs_dict) l13 c13 k13,
    PySem.W.mg_of X G a13,
    (fun_mk (st := s_pairs_dict) l13 c13 k13).binds (ps := [("needs" : Str), ("pairs" : Str)]) fun _ _ _ _ _ _ us hl => match us, hl with | [_, _], _ => rfl,
    f14,
    _,
    fun_mk (st := s_all_whole) l14 c14 k14,
    PySem.W.mg_of X G a14,
    (fun_mk (st := s_all_whole) l14 c14 k14).binds (ps := [("values" : Str), ("low" : Str), ("high" : Str)]) fun _ _ _ _ _ _ us hl => match us, hl with | [_, _, _], _ => rfl,
    f15,
    _,
    fun_mk (st := s_rounds_hold) l15 c15 k15,
    PySem.W.mg_of X G a15,
    (fun_mk (st := s_rounds_hold) l15 c15 k15).binds (ps := [("rooms" : Str), ("needs" : Str), ("rounds" : Str)]) fun _ _ _ _ _ _ us hl => match us, hl with | [_, _, _], _ => rfl,
    f16,
    _,
    fun_mk (st := s_levels_hold) l16 c16 k16,
    PySem.W.mg_of X G a16,
    (fun_mk (st := s_levels_hold) l16 c16 k16).binds (ps := [("rooms" : Str), ("needs" : Str), ("levels" : Str)]) fun _ _ _ _ _ _ us hl => match us, hl with | [_, _, _], _ => rfl,
    f17,
    _,
    fun_mk (st := s_judge_rounds) l17 c17 k17,
    PySem.W.mg_of X G a17,
    (fun_mk (st := s_judge_rounds) l17 c17 k17).binds (ps := [("rooms" : Str), ("needs" : Str), ("result" : Str)]) fun _ _ _ _ _ _ us hl => match us, hl with | [_, _, _], _ => rfl,
    _,
    _,
    fun_mk (st := s_law) l18 c18 k18,
    PySem.W.mg_of X G a18,
    (fun_mk (st := s_law) l18 c18 k18).binds (ps := [("script" : Str)]) fun _ _ _ _ _ _ us hl => match us, hl with | [_], _ => rfl,
    PySem.W.mg_none_of X G z_bool,
    PySem.W.mg_none_of X G z_enumerate,
    PySem.W.mg_none_of X G z_int,
    PySem.W.mg_none_of X G z_isinstance,
    PySem.W.mg_none_of X G z_len,
    PySem.W.mg_none_of X G z_list,
    PySem.W.mg_none_of X G z_max,
    PySem.W.mg_none_of X G z_min,
    PySem.W.mg_none_of X G z_range,
    PySem.W.mg_none_of X G z_sorted,
    PySem.W.mg_none_of X G z_sum,
    PySem.W.mg_none_of X G z_tuple,
    PySem.W.mg_none_of X G z_zip⟩
  exact ⟨T.fd_law, fun s v => .of_eq rfl, fun base _ _ => ok_law T⟩
end K68
open PySem PySem.W PyProof.Rows
set_option maxRecDepth 100000 in
set_option maxHeartbeats 0 in
theorem PySem.Challenge.cw_wishweather_k68_fewest_rounds_holds : PySem.Challenge.rw_wishweather_k68_fewest_rounds.Holds := by
  w_on; o_law; k_head; (case hw => w_witness2)
  k_fill
  refine L2.walk_of (l := PySem.Challenge.rw_wishweather_k68_fewest_rounds) (n := 63) (k := 5) (x := "script") (CX := fun _ => L2.CX0) (sp := fun w => Mi.spF _ K68.F_law) rfl (by decide) rfl ⟨rfl, by decide, by decide⟩ (fun w h Y => PySem.W.kIn_of Y) ?F (fun _ _ a ns hl _ hS => Mi.law_sp hS (K68.law_true ns hl)) (fun _ _ _ _ _ h => h)
  case F =>
    intro w mg fa h KX G hmg
    refine' K68.all_mk KX G hmg ?a0 ?l0 ?c0 ?k0 ?a1 ?l1 ?c1 ?k1 ?a2 ?l2 ?c2 ?k2 ?a3 ?l3 ?c3 ?k3 ?a4 ?l4 ?c4 ?k4 ?a5 ?l5 ?c5 ?k5 ?a6 ?l6 ?c6 ?k6 ?a7 ?l7 ?c7 ?k7 ?a8 ?l8 ?c8 ?k8 ?a9 ?l9 ?c9 ?k9 ?a10 ?l10 ?c10 ?k10 ?a11 ?l11 ?c11 ?k11 ?a12 ?l12 ?c12 ?k12 ?a13 ?l13 ?c13 ?k13 ?a14 ?l14 ?c14 ?k14 ?a15 ?l15 ?c15 ?k15 ?a16 ?l16 ?c16 ?k16 ?a17 ?l17 ?c17 ?k17 ?a18 ?l18 ?c18 ?k18 ?z_bool ?z_enumerate ?z_int ?z_isinstance ?z_len ?z_list ?z_max ?z_min ?z_range ?z_sorted ?z_sum ?z_tuple ?z_zip
    (case a0 => k_is); (case l0 => k_is); (case c0 => k_is); (case k0 => k_is); (case a1 => k_is); (case l1 => k_is); (case c1 => k_is); (case k1 => k_is); (case a2 => k_is); (case l2 => k_is); (case c2 => k_is); (case k2 => k_is); (case a3 => k_is); (case l3 => k_is); (case c3 => k_is); (case k3 => k_is); (case a4 => k_is); (case l4 => k_is); (case c4 => k_is); (case k4 => k_is); (case a5 => k_is); (case l5 => k_is); (case c5 => k_is); (case k5 => k_is); (case a6 => k_is); (case l6 => k_is); (case c6 => k_is); (case k6 => k_is); (case a7 => k_is); (case l7 => k_is); (case c7 => k_is); (case k7 => k_is); (case a8 => k_is); (case l8 => k_is); (case c8 => k_is); (case k8 => k_is); (case a9 => k_is); (case l9 => k_is); (case c9 => k_is); (case k9 => k_is); (case a10 => k_is); (case l10 => k_is); (case c10 => k_is); (case k10 => k_is); (case a11 => k_is); (case l11 => k_is); (case c11 => k_is); (case k11 => k_is); (case a12 => k_is); (case l12 => k_is); (case c12 => k_is); (case k12 => k_is); (case a13 => k_is); (case l13 => k_is); (case c13 => k_is); (case k13 => k_is); (case a14 => k_is); (case l14 => k_is); (case c14 => k_is); (case k14 => k_is); (case a15 => k_is); (case l15 => k_is); (case c15 => k_is); (case k15 => k_is); (case a16 => k_is); (case l16 => k_is); (case c16 => k_is); (case k16 => k_is); (case a17 => k_is); (case l17 => k_is); (case c17 => k_is); (case k17 => k_is); (case a18 => k_is); (case l18 => k_is); (case c18 => k_is); (case k18 => k_is); (case z_bool => k_is); (case z_enumerate => k_is); (case z_int => k_is); (case z_isinstance => k_is); (case z_len => k_is); (case z_list => k_is); (case z_max => k_is); (case z_min => k_is); (case z_range => k_is); (case z_sorted => k_is); (case z_sum => k_is); (case z_tuple => k_is); (case z_zip => k_is)
