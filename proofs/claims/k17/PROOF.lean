import PyProof.Rows.All
import Wide.All
import OpenK.AllK
import Wide.FinOn
import HandS.ForMost
import HandS.Walk
import HandS.Deep
import HandS.TupAny
import HandS.WideBits
import HandS.Wide
import HandS.Exc
import HandS.ExcOwn
import HandS.CallSlots
import HandS.IsInst
import HandS.Text
import HandS.Iter
import HandS.More
import HandS.Conv
import HandS.Strs
import HandS.SortInts
import HandS.WordsExc
import HandS.SetFor
import HandS.Style
import PySem.Challenge.RW_deedoath_k17_acts_done
set_option Elab.async false
set_option linter.all false
set_option maxRecDepth 100000
/-! LB, the layer by value: what a name holds is told as plain data (PyData), no addresses but those of lists that are being changed. Part 1: data in the heap, the frame of a def by value. -/
namespace LB
open PySem PySem.Spec PyProof.Rows L2

/-- a set of addresses -/
abbrev Ow := Addr → Prop
/-- a tuple of the written part -/
def KT (K : PySem.W.Frag) (a : Addr) (xs : List V) : Prop := ∃ (o : Obj) (its : Array Value) (n : Nat), K.lookup a = some o ∧ o.cls = .type "tuple" ∧ o.data = .seq its n ∧ its.size ≤ sizeLine ∧ Vals xs its.toList
def LsAt (M : Ow) (H : Hp) (a : Addr) (xs : List V) : Prop := H a = some (.lst xs) ∧ ¬ M a
def TpAt (K : PySem.W.Frag) (M : Ow) (H : Hp) (a : Addr) (xs : List V) : Prop := (H a = some (.tup xs) ∧ ¬ M a) ∨ KT K a xs
/-- a key as data -/
def kD : Key → PyData
  | .inl i => .int i
  | .inr x => .str x

mutual
/-- v stands for d in H; no list within stands at an address of M -/
def Rep (K : PySem.W.Frag) (M : Ow) (H : Hp) : PyData → V → Prop
  | .none, v => v = .non
  | .bool b, v => v = .bl b
  | .int i, v => v = .int i
  | .str s, v => v = .str s
  | .list ds, v => ∃ a xs, v = .ref a ∧ LsAt M H a xs ∧ RepAll K M H ds xs
  | .tuple ds, v => ∃ a xs, v = .ref a ∧ TpAt K M H a xs ∧ RepAll K M H ds xs
  | .dict kvs, v => ∃ a ks, v = .ref a ∧ (H a = some (.dK ks) ∧ ¬ M a) ∧ RepKV K M H kvs ks
def RepAll (K : PySem.W.Frag) (M : Ow) (H : Hp) : List PyData → List V → Prop
  | [], xs => xs = []
  | d :: ds, xs => ∃ v vs, xs = v :: vs ∧ Rep K M H d v ∧ RepAll K M H ds vs
def RepKV (K : PySem.W.Frag) (M : Ow) (H : Hp) : List (PyData × PyData) → List (Key × V) → Prop
  | [], ks => ks = []
  | p :: r, ks => ∃ k v ks', ks = (k, v) :: ks' ∧ RepP K M H p k v ∧ RepKV K M H r ks'
def RepP (K : PySem.W.Frag) (M : Ow) (H : Hp) : PyData × PyData → Key → V → Prop
  | (k, d), k', v => kD k' = k ∧ Rep K M H d v
end

/-- from M, H to M', H': what is told goes on -/
structure Mv (M M' : Ow) (H H' : Hp) : Prop where
  own : ∀ a, M' a → M a ∨ H a = none
  kept : ∀ b o, H b = some o → ¬ M b → H' b = some o
theorem Mv.rd {M M' : Ow} {H H' : Hp} (m : Mv M M' H H') {a : Addr} {u : HO} (h : H a = some u ∧ ¬ M a) : H' a = some u ∧ ¬ M' a := by
  obtain ⟨h, n⟩ := h
  exact ⟨m.kept _ _ h n, fun z => by rcases m.own a z with z | z; exact n z; rw [h] at z; cases z⟩
section
variable {K : PySem.W.Frag} {M M' : Ow} {H H' : Hp}
mutual
theorem Rep.mv (m : Mv M M' H H') : ∀ {d : PyData} {v : V}, Rep K M H d v → Rep K M' H' d v
  | .none, _, h => h
  | .bool _, _, h => h
  | .int _, _, h => h
  | .str _, _, h => h
  | .list ds, v, h => by
    obtain ⟨a, xs, e, l, r⟩ := h
    exact ⟨a, xs, e, m.rd l, RepAll.mv m r⟩
  | .tuple ds, v, h => by
    obtain ⟨a, xs, e, l, r⟩ := h
    refine ⟨a, xs, e, ?_, RepAll.mv m r⟩
    rcases l with l | l
    · exact .inl (m.rd l)
    · exact .inr l
  | .dict kvs, v, h => by
    obtain ⟨a, ks, e, ⟨l, n⟩, r⟩ := h
    refine ⟨a, ks, e, ⟨m.kept _ _ l n, fun z => ?_⟩, RepKV.mv m r⟩
    rcases m.own a z with z | z
    · exact n z
    · rw [l] at z; cases z
theorem RepAll.mv (m : Mv M M' H H') : ∀ {ds : List PyData} {xs : List V}, RepAll K M H ds xs → RepAll K M' H' ds xs
  | [], _, h => h
  | d :: ds, xs, h => by
    obtain ⟨v, vs, e, h1, h2⟩ := h
    exact ⟨v, vs, e, Rep.mv m h1, RepAll.mv m h2⟩
theorem RepKV.mv (m : Mv M M' H H') : ∀ {kvs : List (PyData × PyData)} {ks : List (Key × V)}, RepKV K M H kvs ks → RepKV K M' H' kvs ks
  | [], _, h => h
  | (k, d) :: r, ks, h => by
    obtain ⟨k', v, ks', e, ⟨e2, h1⟩, h2⟩ := h
    exact ⟨k', v, ks', e, ⟨e2, Rep.mv m h1⟩, RepKV.mv m h2⟩
end
theorem Mv.refl : Mv M M H H := ⟨fun _ h => .inl h, fun _ _ h _ => h⟩
theorem Mv.sub (h : ∀ a, M' a → M a) : Mv M M' H H := ⟨fun a z => .inl (h a z), fun _ _ h _ => h⟩

/-! ### lists of data -/
theorem RepAll.len : ∀ {ds : List PyData} {xs : List V}, RepAll K M H ds xs → xs.length = ds.length
  | [], _, h => by cases h; rfl
  | d :: ds, xs, h => by
    obtain ⟨v, vs, rfl, h1, h2⟩ := h
    simp [RepAll.len h2]
theorem RepAll.get : ∀ {ds : List PyData} {xs : List V} {i : Nat} {d : PyData}, RepAll K M H ds xs → ds[i]? = some d → ∃ v, xs[i]? = some v ∧ Rep K M H d v
  | [], _, i, _, h, e => by simp at e
  | d :: ds, xs, 0, _, h, e => by
    obtain ⟨v, vs, rfl, h1, h2⟩ := h
    simp at e; subst e
    exact ⟨v, rfl, h1⟩
  | d :: ds, xs, i + 1, _, h, e => by
    obtain ⟨v, vs, rfl, h1, h2⟩ := h
    simp at e
    obtain ⟨w, h3, h4⟩ := RepAll.get h2 e
    exact ⟨w, by simpa using h3, h4⟩
theorem RepAll.getV : ∀ {ds : List PyData} {xs : List V} {i : Nat} {v : V}, RepAll K M H ds xs → xs[i]? = some v → ∃ d, ds[i]? = some d ∧ Rep K M H d v
  | [], _, i, _, h, e => by cases h; simp at e
  | d :: ds, xs, 0, _, h, e => by
    obtain ⟨v, vs, rfl, h1, h2⟩ := h
    simp at e; subst e
    exact ⟨d, rfl, h1⟩
  | d :: ds, xs, i + 1, _, h, e => by
    obtain ⟨v, vs, rfl, h1, h2⟩ := h
    simp at e
    obtain ⟨w, h3, h4⟩ := RepAll.getV h2 e
    exact ⟨w, by simpa using h3, h4⟩
theorem RepAll.app : ∀ {ds es : List PyData} {xs ys : List V}, RepAll K M H ds xs → RepAll K M H es ys → RepAll K M H (ds ++ es) (xs ++ ys)
  | [], _, _, _, h, h' => by cases h; exact h'
  | d :: ds, es, xs, ys, h, h' => by
    obtain ⟨v, vs, rfl, h1, h2⟩ := h
    exact ⟨v, vs ++ ys, rfl, h1, RepAll.app h2 h'⟩
theorem RepAll.one {d : PyData} {v : V} (h : Rep K M H d v) : RepAll K M H [d] [v] := ⟨v, [], rfl, h, rfl⟩
theorem RepAll.take : ∀ {ds : List PyData} {xs : List V} (n : Nat), RepAll K M H ds xs → RepAll K M H (ds.take n) (xs.take n)
  | _, _, 0, _ => by simp [RepAll]
  | [], _, n + 1, h => by cases h; simp [RepAll]
  | d :: ds, xs, n + 1, h => by
    obtain ⟨v, vs, rfl, h1, h2⟩ := h
    exact ⟨v, vs.take n, rfl, h1, RepAll.take n h2⟩
theorem RepAll.drop : ∀ {ds : List PyData} {xs : List V} (n : Nat), RepAll K M H ds xs → RepAll K M H (ds.drop n) (xs.drop n)
  | _, _, 0, h => h
  | [], _, n + 1, h => by cases h; simp [RepAll]
  | d :: ds, xs, n + 1, h => by
    obtain ⟨v, vs, rfl, h1, h2⟩ := h
    exact RepAll.drop n h2
theorem RepAll.set : ∀ {ds : List PyData} {xs : List V} (i : Nat) {d : PyData} {v : V}, RepAll K M H ds xs → Rep K M H d v → RepAll K M H (ds.set i d) (xs.set i v)
  | [], _, _, _, _, h, _ => by cases h; exact rfl
  | d :: ds, xs, 0, _, _, h, r => by
    obtain ⟨v, vs, rfl, h1, h2⟩ := h
    exact ⟨_, vs, rfl, r, h2⟩
  | d :: ds, xs, i + 1, _, _, h, r => by
    obtain ⟨v, vs, rfl, h1, h2⟩ := h
    exact ⟨v, _, rfl, h1, RepAll.set i h2 r⟩
theorem RepAll.erase : ∀ {ds : List PyData} {xs : List V} (i : Nat), RepAll K M H ds xs → RepAll K M H (ds.eraseIdx i) (xs.eraseIdx i)
  | [], _, _, h => by cases h; exact rfl
  | d :: ds, xs, 0, h => by
    obtain ⟨v, vs, rfl, h1, h2⟩ := h
    exact h2
  | d :: ds, xs, i + 1, h => by
    obtain ⟨v, vs, rfl, h1, h2⟩ := h
    exact ⟨v, _, rfl, h1, RepAll.erase i h2⟩
theorem RepAll.of_get : ∀ {ds : List PyData} {xs : List V}, xs.length = ds.length → (∀ (i : Nat) v d, xs[i]? = some v → ds[i]? = some d → Rep K M H d v) → RepAll K M H ds xs
  | [], xs, h, _ => by cases xs with | nil => rfl | cons _ _ => simp at h
  | d :: ds, xs, h, f => by
    cases xs with
    | nil => simp at h
    | cons v vs =>
      exact ⟨v, vs, rfl, f 0 v d rfl rfl, RepAll.of_get (by simpa using h) fun i v' d' e1 e2 => f (i + 1) v' d' (by simpa using e1) (by simpa using e2)⟩
theorem RepAll.rev {ds : List PyData} {xs : List V} (h : RepAll K M H ds xs) : RepAll K M H ds.reverse xs.reverse := by
  have hl := h.len
  refine RepAll.of_get (by simp [hl]) fun i v d e1 e2 => ?_
  have hi : i < ds.length := by
    have := (List.getElem?_eq_some_iff.mp e2).1
    simpa using this
  rw [List.getElem?_reverse (by omega)] at e1
  rw [List.getElem?_reverse hi] at e2
  obtain ⟨w, a, b⟩ := h.get e2
  rw [hl] at e1
  rw [e1] at a; cases a
  exact b
/-- ints -/
theorem RepAll.ints : ∀ (ns : List Int), RepAll K M H (ns.map PyData.int) (ns.map V.int)
  | [] => rfl
  | n :: ns => ⟨_, _, rfl, rfl, RepAll.ints ns⟩
theorem RepAll.intsV : ∀ {ns : List Int} {xs : List V}, RepAll K M H (ns.map PyData.int) xs → xs = ns.map V.int
  | [], _, h => h
  | n :: ns, xs, h => by
    obtain ⟨v, vs, rfl, h1, h2⟩ := h
    have e : v = V.int n := h1
    rw [e, RepAll.intsV h2]; rfl
theorem RepAll.strsV : ∀ {ns : List Str} {xs : List V}, RepAll K M H (ns.map PyData.str) xs → xs = ns.map V.str
  | [], _, h => h
  | n :: ns, xs, h => by
    obtain ⟨v, vs, rfl, h1, h2⟩ := h
    have e : v = V.str n := h1
    rw [e, RepAll.strsV h2]; rfl
theorem RepAll.strs : ∀ (ns : List Str), RepAll K M H (ns.map PyData.str) (ns.map V.str)
  | [] => rfl
  | n :: ns => ⟨_, _, rfl, rfl, RepAll.strs ns⟩
end

/-! ### an object that is being changed -/
def At (K : PySem.W.Frag) (M : Ow) (H : Hp) (l : Addr) : PyData → Prop
  | .list ds => ∃ xs, H l = some (.lst xs) ∧ RepAll K M H ds xs
  | .dict kvs => ∃ ks, H l = some (.dK ks) ∧ RepKV K M H kvs ks
  | _ => False
/-- v is read as d now: its own place may be one of M, none of W -/
def See (K : PySem.W.Frag) (M W : Ow) (H : Hp) : PyData → V → Prop
  | .list ds, v => ∃ a xs, v = .ref a ∧ (H a = some (.lst xs) ∧ ¬ W a) ∧ RepAll K M H ds xs
  | .dict kvs, v => ∃ a ks, v = .ref a ∧ (H a = some (.dK ks) ∧ ¬ W a) ∧ RepKV K M H kvs ks
  | d, v => Rep K M H d v

/-- a name's slot by value -/
inductive En where
  | no
  | val (d : PyData)
  | own (l : Addr) (d : PyData)
  | io (l : Addr) (d : PyData)
  | rd (d : PyData)
  | obj (v : V)
/-- the def's own: M, addresses that no value may hold; W, those of M that the def may change; the heap at its entry -/
structure Ct where
  M : Ow
  W : Ow
  H0 : Hp
def Oof (ρ : List En) : Ow := fun a => ∃ (i : Nat) (d : PyData), ρ[i]? = some (.own a d)
def Mof (c : Ct) (ρ : List En) : Ow := fun a => c.M a ∨ Oof ρ a
def Wof (c : Ct) (ρ : List En) : Ow := fun a => c.W a ∨ Oof ρ a
def Ct.more (c : Ct) (p : Addr) : Ct := ⟨fun a => c.M a ∨ a = p, fun a => c.W a ∨ a = p, c.H0⟩

structure Gd (K : PySem.W.Frag) (c : Ct) (σ : L2.St) (H : Hp) (ρ : List En) : Prop where
  len : σ.length = ρ.length
  val : ∀ (i : Nat) d, ρ[i]? = some (.val d) → ∃ v, σ[i]? = some (some v) ∧ Rep K (Mof c ρ) H d v
  rd : ∀ (i : Nat) d, ρ[i]? = some (.rd d) → ∃ v, σ[i]? = some (some v) ∧ See K (Mof c ρ) (Wof c ρ) H d v
  own : ∀ (i : Nat) l d, ρ[i]? = some (.own l d) → σ[i]? = some (some (.ref l)) ∧ At K (Mof c ρ) H l d ∧ ¬ c.M l ∧ c.H0 l = none
  io : ∀ (i : Nat) l d, ρ[i]? = some (.io l d) → σ[i]? = some (some (.ref l)) ∧ At K (Mof c ρ) H l d ∧ c.W l
  obj : ∀ (i : Nat) v, ρ[i]? = some (.obj v) → σ[i]? = some (some v)
  uo : ∀ (i j : Nat) l d e, ρ[i]? = some (.own l d) → ρ[j]? = some (.own l e) → i = j
  ui : ∀ (i j : Nat) l d e, ρ[i]? = some (.io l d) → ρ[j]? = some (.io l e) → i = j
  fr : ∀ b o, c.H0 b = some o → ¬ c.W b → H b = some o
  wm : ∀ a, c.W a → c.M a
  th : ∀ a, c.M a → H a ≠ none
/-- the lists that names hold to change -/
def Wr (ρ : List En) : Ow := fun a => ∃ (i : Nat) (d : PyData), ρ[i]? = some (.own a d) ∨ ρ[i]? = some (.io a d)
/-- from one state of the def to a later one -/
structure Ev (c : Ct) (ρ : List En) (H : Hp) (ρ' : List En) (H' : Hp) : Prop where
  kept : ∀ b o, H b = some o → ¬ Wr ρ b → H' b = some o
  own : ∀ a, Wr ρ' a → Wr ρ a ∨ H a = none
  there : ∀ a, H' a = none → H a = none
theorem Ev.any {c c' : Ct} {ρ ρ' : List En} {H H' : Hp} (e : Ev c ρ H ρ' H') : Ev c' ρ H ρ' H' := ⟨e.kept, e.own, e.there⟩
theorem Ev.refl {c : Ct} {ρ : List En} {H : Hp} : Ev c ρ H ρ H := ⟨fun _ _ h _ => h, fun _ h => .inl h, fun _ h => h⟩
theorem Ev.trans {c : Ct} {ρ ρ1 ρ2 : List En} {H H1 H2 : Hp} (a : Ev c ρ H ρ1 H1) (b : Ev c ρ1 H1 ρ2 H2) : Ev c ρ H ρ2 H2 := by
  refine ⟨fun x o h n => b.kept x o (a.kept x o h n) fun z => ?_, fun x z => ?_, fun x z => a.there x (b.there x z)⟩
  · rcases a.own x z with z | z
    · exact n z
    · rw [h] at z; cases z
  · rcases b.own x z with z | z
    · exact a.own x z
    · exact .inr (a.there x z)
section
variable {K : PySem.W.Frag} {c : Ct} {σ σ' : L2.St} {H H' : Hp} {ρ ρ' : List En}
theorem Gd.wsub (g : Gd K c σ H ρ) {a : Addr} (h : Wof c ρ a) : Mof c ρ a := by
  rcases h with h | h
  · exact .inl (g.wm a h)
  · exact .inr h
/-- no address of M is free -/
theorem Gd.mth (g : Gd K c σ H ρ) {a : Addr} (h : Mof c ρ a) : H a ≠ none := by
  rcases h with h | ⟨i, d, h⟩
  · exact g.th a h
  · obtain ⟨_, h2, _⟩ := g.own i a d h
    cases d with
    | list ds => obtain ⟨xs, e, _⟩ := h2; rw [e]; intro z; cases z
    | dict ds => obtain ⟨xs, e, _⟩ := h2; rw [e]; intro z; cases z
    | _ => exact h2.elim
theorem Gd.wr_w (g : Gd K c σ H ρ) {a : Addr} (h : Wr ρ a) : Wof c ρ a := by
  obtain ⟨i, d, h | h⟩ := h
  · exact .inr ⟨i, d, h⟩
  · exact .inl (g.io i a d h).2.2
theorem oof_wrS {a : Addr} (h : Oof ρ a) : Wr ρ a := by
  obtain ⟨i, d, h⟩ := h
  exact ⟨i, d, .inl h⟩
theorem Ev.mv (e : Ev c ρ H ρ' H') (g : Gd K c σ H ρ) : Mv (Mof c ρ) (Mof c ρ') H H' := by
  refine ⟨fun a z => ?_, fun b o h n => e.kept b o h fun w => n (g.wsub (g.wr_w w))⟩
  rcases z with z | z
  · exact .inl (.inl z)
  · rcases e.own a (oof_wrS z) with z | z
    · exact .inl (g.wsub (g.wr_w z))
    · exact .inr z
theorem See.mv {M M' W W' : Ow} {d : PyData} {v : V} (m : Mv M M' H H') (w : Mv W W' H H') (h : See K M W H d v) : See K M' W' H' d v := by
  cases d with
  | list ds =>
    obtain ⟨a, xs, e, l, r⟩ := h
    exact ⟨a, xs, e, w.rd l, r.mv m⟩
  | dict kvs =>
    obtain ⟨a, ks, e, ⟨l, n⟩, r⟩ := h
    refine ⟨a, ks, e, ⟨w.kept _ _ l n, fun z => ?_⟩, r.mv m⟩
    rcases w.own a z with z | z
    · exact n z
    · rw [l] at z; cases z
  | _ => exact Rep.mv m h
theorem Ev.mvw (e : Ev c ρ H ρ' H') (g : Gd K c σ H ρ) : Mv (Wof c ρ) (Wof c ρ') H H' := by
  refine ⟨fun a z => ?_, fun b o h n => e.kept b o h fun w => n (g.wr_w w)⟩
  rcases z with z | z
  · exact .inl (.inl z)
  · rcases e.own a (oof_wrS z) with z | z
    · exact .inl (g.wr_w z)
    · exact .inr z
theorem At.mv {M M' : Ow} {l : Addr} {d : PyData} (m : Mv M M' H H') (e : ∀ o, H l = some o → H' l = some o) (h : At K M H l d) : At K M' H' l d := by
  cases d with
  | list ds => obtain ⟨xs, h1, h2⟩ := h; exact ⟨xs, e _ h1, h2.mv m⟩
  | dict ds => obtain ⟨xs, h1, h2⟩ := h; exact ⟨xs, e _ h1, h2.mv m⟩
  | _ => exact h.elim
theorem At.some {M : Ow} {l : Addr} {d : PyData} (h : At K M H l d) : H l ≠ none := by
  cases d with
  | list ds => obtain ⟨xs, h1, h2⟩ := h; rw [h1]; intro z; cases z
  | dict ds => obtain ⟨xs, h1, h2⟩ := h; rw [h1]; intro z; cases z
  | _ => exact h.elim
theorem Rep.see {M W : Ow} {d : PyData} {v : V} (h : Rep K M H d v) (w : ∀ a, W a → M a) : See K M W H d v := by
  cases d with
  | list ds =>
    obtain ⟨a, xs, e, l, r⟩ := h
    exact ⟨a, xs, e, ⟨l.1, fun z => l.2 (w a z)⟩, r⟩
  | dict ds =>
    obtain ⟨a, xs, e, ⟨l, n⟩, r⟩ := h
    exact ⟨a, xs, e, ⟨l, fun z => n (w a z)⟩, r⟩
  | _ => exact h
theorem At.see {M W : Ow} {l : Addr} {d : PyData} (h : At K M H l d) (n : ¬ W l) : See K M W H d (.ref l) := by
  cases d with
  | list ds => obtain ⟨xs, h1, h2⟩ := h; exact ⟨l, xs, rfl, ⟨h1, n⟩, h2⟩
  | dict ds => obtain ⟨xs, h1, h2⟩ := h; exact ⟨l, xs, rfl, ⟨h1, n⟩, h2⟩
  | _ => exact h.elim
/-- the frame goes on: the own and the lent lists may have changed, nothing else of the def's -/
theorem Gd.next (g : Gd K c σ H ρ) (e : Ev c ρ H ρ' H') (hl : ρ'.length = ρ.length)
    (hv : ∀ (i : Nat) d, ρ'[i]? = some (.val d) → ρ[i]? = some (.val d)) (hr : ∀ (i : Nat) d, ρ'[i]? = some (.rd d) → ρ[i]? = some (.rd d)) (hob : ∀ (i : Nat) v, ρ'[i]? = some (.obj v) → ρ[i]? = some (.obj v))
    (ho : ∀ (i : Nat) l d, ρ'[i]? = some (.own l d) → (∃ d0, ρ[i]? = some (.own l d0)) ∧ At K (Mof c ρ') H' l d) (hi : ∀ (i : Nat) l d, ρ'[i]? = some (.io l d) → (∃ d0, ρ[i]? = some (.io l d0)) ∧ At K (Mof c ρ') H' l d) : Gd K c σ H' ρ' := by
  refine ⟨by rw [hl]; exact g.len, fun i d h => ?_, fun i d h => ?_, fun i l d h => ?_, fun i l d h => ?_, fun i v h => g.obj i v (hob i v h), fun i j l d d' h1 h2 => ?_, fun i j l d d' h1 h2 => ?_, fun b o h n => ?_, g.wm, fun a h z => g.th a h (e.there a z)⟩
  · obtain ⟨v, h1, h2⟩ := g.val i d (hv i d h)
    exact ⟨v, h1, h2.mv (e.mv g)⟩
  · obtain ⟨v, h1, h2⟩ := g.rd i d (hr i d h)
    exact ⟨v, h1, h2.mv (e.mv g) (e.mvw g)⟩
  · obtain ⟨⟨d0, h0⟩, h1⟩ := ho i l d h
    obtain ⟨h2, _, h3, h4⟩ := g.own i l d0 h0
    exact ⟨h2, h1, h3, h4⟩
  · obtain ⟨⟨d0, h0⟩, h1⟩ := hi i l d h
    obtain ⟨h2, _, h3⟩ := g.io i l d0 h0
    exact ⟨h2, h1, h3⟩
  · obtain ⟨⟨d0, h0⟩, _⟩ := ho i l d h1
    obtain ⟨⟨d1, h1'⟩, _⟩ := ho j l d' h2
    exact g.uo i j l d0 d1 h0 h1'
  · obtain ⟨⟨d0, h0⟩, _⟩ := hi i l d h1
    obtain ⟨⟨d1, h1'⟩, _⟩ := hi j l d' h2
    exact g.ui i j l d0 d1 h0 h1'
  · refine e.kept b o (g.fr b o h n) fun z => ?_
    obtain ⟨i, d, z | z⟩ := z
    · obtain ⟨_, _, _, h4⟩ := g.own i b d z
      rw [h] at h4; cases h4
    · exact n (g.io i b d z).2.2
/-- all that was tracked is as it was -/
theorem Ev.same (h : ∀ b o, H b = some o → H' b = some o) : Ev c ρ H ρ H' := ⟨fun b o e _ => h b o e, fun _ z => .inl z, fun a z => by
  cases e : H a with
  | none => rfl
  | some o => rw [h a o e] at z; cases z⟩
theorem Gd.same (g : Gd K c σ H ρ) (h : ∀ b o, H b = some o → H' b = some o) : Gd K c σ H' ρ := by
  have e : Ev c ρ H ρ H' := .same h
  refine g.next e rfl (fun _ _ z => z) (fun _ _ z => z) (fun _ _ z => z) (fun i l d z => ⟨⟨d, z⟩, ?_⟩) fun i l d z => ⟨⟨d, z⟩, ?_⟩
  · exact (g.own i l d z).2.1.mv (e.mv g) (h l)
  · exact (g.io i l d z).2.1.mv (e.mv g) (h l)
end
end LB

/-! LB, part 2: a slot stored, a list changed, the judgements by value. -/
namespace LB
open PySem PySem.Spec PyProof.Rows L2

section
variable {K : PySem.W.Frag} {c : Ct} {σ σ' : L2.St} {H H' : Hp} {ρ ρ' : List En}
theorem get_set {α : Type} {l : List α} {i j : Nat} {a b : α} (h : (l.set i a)[j]? = some b) : (i = j ∧ a = b ∧ i < l.length) ∨ (i ≠ j ∧ l[j]? = some b) := by
  by_cases e : i = j
  · subst e
    by_cases hl : i < l.length
    · rw [List.getElem?_set_self hl] at h; cases h; exact .inl ⟨rfl, rfl, hl⟩
    · rw [List.getElem?_eq_none (by simpa using hl)] at h; cases h
  · rw [List.getElem?_set_ne e] at h; exact .inr ⟨e, h⟩
theorem oof_set {i : Nat} {e : En} (he : ∀ l d, e ≠ .own l d) : ∀ a, Oof (ρ.set i e) a → Oof ρ a := fun a ⟨j, d, h⟩ => by
  rcases get_set h with ⟨_, h, _⟩ | ⟨_, h⟩
  · exact absurd h (he a d)
  · exact ⟨j, d, h⟩
theorem Ev.shrink (h : ∀ a, Wr ρ' a → Wr ρ a) : Ev c ρ H ρ' H := ⟨fun _ _ e _ => e, fun a z => .inl (h a z), fun _ z => z⟩
/-- a slot forgotten or stored anew with what is told -/
theorem Gd.put (g : Gd K c σ H ρ) (i : Nat) (e : En) (s : Option V) (he : ∀ l d, e ≠ .own l d) (he2 : ∀ l d, e ≠ .io l d)
    (hv : ∀ d, e = .val d → ∃ v, s = some v ∧ Rep K (Mof c ρ) H d v) (hr : ∀ d, e = .rd d → ∃ v, s = some v ∧ See K (Mof c ρ) (Wof c ρ) H d v) (hob : ∀ v, e = .obj v → s = some v) : Gd K c (σ.set i s) H (ρ.set i e) := by
  have hs : ∀ a, Oof (ρ.set i e) a → Oof ρ a := oof_set he
  have m : Mv (Mof c ρ) (Mof c (ρ.set i e)) H H := Mv.sub fun a z => z.imp id (hs a)
  have mw : Mv (Wof c ρ) (Wof c (ρ.set i e)) H H := Mv.sub fun a z => z.imp id (hs a)
  have keep : ∀ {j : Nat} {x : Option V}, i ≠ j → σ[j]? = some x → (σ.set i s)[j]? = some x := fun ne h => by rw [List.getElem?_set_ne ne]; exact h
  have here : ∀ {x : Option V}, i < ρ.length → s = x → (σ.set i s)[i]? = some x := fun hl h => by rw [List.getElem?_set_self (by rw [g.len]; exact hl), h]
  refine ⟨by simp [g.len], fun j d h => ?_, fun j d h => ?_, fun j l d h => ?_, fun j l d h => ?_, fun j v h => ?_, fun j k l d d' h1 h2 => ?_, fun j k l d d' h1 h2 => ?_, g.fr, g.wm, g.th⟩
  · rcases get_set h with ⟨rfl, h, hl⟩ | ⟨ne, h⟩
    · obtain ⟨v, h1, h2⟩ := hv d h
      exact ⟨v, here hl h1, h2.mv m⟩
    · obtain ⟨v, h1, h2⟩ := g.val j d h
      exact ⟨v, keep ne h1, h2.mv m⟩
  · rcases get_set h with ⟨rfl, h, hl⟩ | ⟨ne, h⟩
    · obtain ⟨v, h1, h2⟩ := hr d h
      exact ⟨v, here hl h1, h2.mv m mw⟩
    · obtain ⟨v, h1, h2⟩ := g.rd j d h
      exact ⟨v, keep ne h1, h2.mv m mw⟩
  · rcases get_set h with ⟨rfl, h, _⟩ | ⟨ne, h⟩
    · exact absurd h (he l d)
    · obtain ⟨h1, h2, h3⟩ := g.own j l d h
      exact ⟨keep ne h1, h2.mv m fun _ z => z, h3⟩
  · rcases get_set h with ⟨rfl, h, _⟩ | ⟨ne, h⟩
    · exact absurd h (he2 l d)
    · obtain ⟨h1, h2, h3⟩ := g.io j l d h
      exact ⟨keep ne h1, h2.mv m fun _ z => z, h3⟩
  · rcases get_set h with ⟨rfl, h, hl⟩ | ⟨ne, h⟩
    · exact here hl (hob v h)
    · exact keep ne (g.obj j v h)
  · rcases get_set h1 with ⟨rfl, h, _⟩ | ⟨_, h1⟩
    · exact absurd h (he l d)
    · rcases get_set h2 with ⟨rfl, h, _⟩ | ⟨_, h2⟩
      · exact absurd h (he l d')
      · exact g.uo j k l d d' h1 h2
  · rcases get_set h1 with ⟨rfl, h, _⟩ | ⟨_, h1⟩
    · exact absurd h (he2 l d)
    · rcases get_set h2 with ⟨rfl, h, _⟩ | ⟨_, h2⟩
      · exact absurd h (he2 l d')
      · exact g.ui j k l d d' h1 h2
theorem Gd.setVal (g : Gd K c σ H ρ) (i : Nat) {d : PyData} {v : V} (h : Rep K (Mof c ρ) H d v) : Gd K c (σ.set i (some v)) H (ρ.set i (.val d)) :=
  g.put i _ _ (fun _ _ z => by cases z) (fun _ _ z => by cases z) (fun d' e => by cases e; exact ⟨v, rfl, h⟩) (fun _ z => by cases z) (fun _ z => by cases z)
theorem Gd.setObj (g : Gd K c σ H ρ) (i : Nat) {v : V} : Gd K c (σ.set i (some v)) H (ρ.set i (.obj v)) :=
  g.put i _ _ (fun _ _ z => by cases z) (fun _ _ z => by cases z) (fun _ z => by cases z) (fun _ z => by cases z) (fun _ z => by cases z; rfl)
theorem Gd.setRd (g : Gd K c σ H ρ) (i : Nat) {d : PyData} {v : V} (h : See K (Mof c ρ) (Wof c ρ) H d v) : Gd K c (σ.set i (some v)) H (ρ.set i (.rd d)) :=
  g.put i _ _ (fun _ _ z => by cases z) (fun _ _ z => by cases z) (fun _ z => by cases z) (fun d' e => by cases e; exact ⟨v, rfl, h⟩) (fun _ z => by cases z)
theorem Gd.setNo (g : Gd K c σ H ρ) (i : Nat) (s : Option V) : Gd K c (σ.set i s) H (ρ.set i .no) :=
  g.put i _ _ (fun _ _ z => by cases z) (fun _ _ z => by cases z) (fun _ z => by cases z) (fun _ z => by cases z) (fun _ z => by cases z)
/-- no list to be changed -/
def plainE : En → Bool
  | .own _ _ => false | .io _ _ => false
  | _ => true
theorem wr_set {i : Nat} {e : En} (he : plainE e = true) : ∀ a, Wr (ρ.set i e) a → Wr ρ a := fun a ⟨j, d, h⟩ => by
  rcases h with h | h
  · rcases get_set h with ⟨_, h, _⟩ | ⟨_, h⟩
    · rw [h] at he; cases he
    · exact ⟨j, d, .inl h⟩
  · rcases get_set h with ⟨_, h, _⟩ | ⟨_, h⟩
    · rw [h] at he; cases he
    · exact ⟨j, d, .inr h⟩
theorem Ev.setNO {i : Nat} {e : En} (he : plainE e = true) : Ev c ρ H (ρ.set i e) H := .shrink (wr_set he)

/-- an own list let go: from now on it is a value -/
theorem Gd.freeze (g : Gd K c σ H ρ) {i : Nat} {l : Addr} {d : PyData} (h : ρ[i]? = some (.own l d)) : Gd K c σ H (ρ.set i (.val d)) ∧ Rep K (Mof c (ρ.set i (.val d))) H d (.ref l) := by
  obtain ⟨h1, h2, h3, h4⟩ := g.own i l d h
  have hs : ∀ a, Oof (ρ.set i (.val d)) a → Oof ρ a := oof_set fun _ _ z => by cases z
  have m : Mv (Mof c ρ) (Mof c (ρ.set i (.val d))) H H := Mv.sub fun a z => z.imp id (hs a)
  have mw : Mv (Wof c ρ) (Wof c (ρ.set i (.val d))) H H := Mv.sub fun a z => z.imp id (hs a)
  have nl : ¬ Mof c (ρ.set i (.val d)) l := by
    rintro (z | ⟨j, e, z⟩)
    · exact h3 z
    · rcases get_set z with ⟨_, z, _⟩ | ⟨ne, z⟩
      · cases z
      · exact ne (g.uo i j l d e h z)
  have r : Rep K (Mof c (ρ.set i (.val d))) H d (.ref l) := by
    have h2' := h2.mv m fun _ z => z
    cases d with
    | list ds => obtain ⟨xs, e1, e2⟩ := h2'; exact ⟨l, xs, rfl, ⟨e1, nl⟩, e2⟩
    | dict ds => obtain ⟨xs, e1, e2⟩ := h2'; exact ⟨l, xs, rfl, ⟨e1, nl⟩, e2⟩
    | _ => exact h2.elim
  refine ⟨?_, r⟩
  have q : ∀ {j : Nat} {e : En}, (ρ.set i (.val d))[j]? = some e → (i = j ∧ e = .val d) ∨ (i ≠ j ∧ ρ[j]? = some e) := fun z => by
    rcases get_set z with ⟨a, b, _⟩ | z
    · exact .inl ⟨a, b.symm⟩
    · exact .inr z
  refine ⟨by simp [g.len], fun j e z => ?_, fun j e z => ?_, fun j a e z => ?_, fun j a e z => ?_, fun j v z => ?_, fun j k a e e' z1 z2 => ?_, fun j k a e e' z1 z2 => ?_, g.fr, g.wm, g.th⟩
  · rcases q z with ⟨rfl, y⟩ | ⟨_, y⟩
    · cases y; exact ⟨_, h1, r⟩
    · obtain ⟨v, a, b⟩ := g.val j e y; exact ⟨v, a, b.mv m⟩
  · rcases q z with ⟨rfl, y⟩ | ⟨_, y⟩
    · cases y
    · obtain ⟨v, a, b⟩ := g.rd j e y; exact ⟨v, a, b.mv m mw⟩
  · rcases q z with ⟨rfl, y⟩ | ⟨_, y⟩
    · cases y
    · obtain ⟨a1, a2, a3⟩ := g.own j a e y; exact ⟨a1, a2.mv m fun _ z => z, a3⟩
  · rcases q z with ⟨rfl, y⟩ | ⟨_, y⟩
    · cases y
    · obtain ⟨a1, a2, a3⟩ := g.io j a e y; exact ⟨a1, a2.mv m fun _ z => z, a3⟩
  · rcases q z with ⟨rfl, y⟩ | ⟨_, y⟩
    · cases y
    · exact g.obj j v y
  · rcases q z1 with ⟨rfl, y⟩ | ⟨_, y1⟩
    · cases y
    · rcases q z2 with ⟨rfl, y⟩ | ⟨_, y2⟩
      · cases y
      · exact g.uo j k a e e' y1 y2
  · rcases q z1 with ⟨rfl, y⟩ | ⟨_, y1⟩
    · cases y
    · rcases q z2 with ⟨rfl, y⟩ | ⟨_, y2⟩
      · cases y
      · exact g.ui j k a e e' y1 y2

/-- a new object at p that no value holds -/
theorem Gd.more (g : Gd K c σ H ρ) {p : Addr} (hp : H p = none) (h : ∀ b o, H b = some o → H' b = some o) (hq : H' p ≠ none) : Gd K (c.more p) σ H' ρ := by
  have m : Mv (Mof c ρ) (Mof (c.more p) ρ) H H' := ⟨fun a z => by
      rcases z with (z | rfl) | z
      · exact .inl (.inl z)
      · exact .inr hp
      · exact .inl (.inr z), fun b o e _ => h b o e⟩
  have mw : Mv (Wof c ρ) (Wof (c.more p) ρ) H H' := ⟨fun a z => by
      rcases z with (z | rfl) | z
      · exact .inl (.inl z)
      · exact .inr hp
      · exact .inl (.inr z), fun b o e _ => h b o e⟩
  refine ⟨g.len, fun i d z => ?_, fun i d z => ?_, fun i l d z => ?_, fun i l d z => ?_, g.obj, g.uo, g.ui, fun b o e n => h b o (g.fr b o e fun w => n (.inl w)), fun a z => z.imp (g.wm a) id, fun a z => ?_⟩
  · obtain ⟨v, a, b⟩ := g.val i d z; exact ⟨v, a, b.mv m⟩
  · obtain ⟨v, a, b⟩ := g.rd i d z; exact ⟨v, a, b.mv m mw⟩
  · obtain ⟨a1, a2, a3, a4⟩ := g.own i l d z
    refine ⟨a1, a2.mv m (h l), fun z => ?_, a4⟩
    rcases z with z | z
    · exact a3 z
    · subst z; exact a2.some hp
  · obtain ⟨a1, a2, a3⟩ := g.io i l d z
    exact ⟨a1, a2.mv m (h l), .inl a3⟩
  · rcases z with z | rfl
    · intro e
      cases e' : H a with
      | none => exact g.th a z e'
      | some o => rw [h a o e'] at e; cases e
    · exact hq
/-- .. is a value like others -/
theorem Gd.less {p : Addr} (g : Gd K (c.more p) σ H ρ) (hw : ∀ a, c.W a → c.M a) (hi : ∀ (i : Nat) d, ρ[i]? ≠ some (.io p d)) (hn : c.H0 p = none) : Gd K c σ H ρ := by
  have m : Mv (Mof (c.more p) ρ) (Mof c ρ) H H := Mv.sub fun a z => z.imp .inl id
  have mw : Mv (Wof (c.more p) ρ) (Wof c ρ) H H := Mv.sub fun a z => z.imp .inl id
  refine ⟨g.len, fun i d z => ?_, fun i d z => ?_, fun i l d z => ?_, fun i l d z => ?_, g.obj, g.uo, g.ui, fun b o e n => g.fr b o e fun w => w.elim n fun q => (by rw [q, hn] at e; cases e), hw, fun a z => g.th a (.inl z)⟩
  · obtain ⟨v, a, b⟩ := g.val i d z; exact ⟨v, a, b.mv m⟩
  · obtain ⟨v, a, b⟩ := g.rd i d z; exact ⟨v, a, b.mv m mw⟩
  · obtain ⟨a1, a2, a3, a4⟩ := g.own i l d z; exact ⟨a1, a2.mv m (fun _ z => z), fun z => a3 (.inl z), a4⟩
  · obtain ⟨a1, a2, a3⟩ := g.io i l d z
    refine ⟨a1, a2.mv m (fun _ z => z), a3.elim id fun q => ?_⟩
    subst q; exact absurd z (hi i d)
/-- .. is the slot i's own -/
theorem Gd.setOwn {p : Addr} {d : PyData} (g : Gd K (c.more p) σ H ρ) (hw : ∀ a, c.W a → c.M a) (hi : ∀ (i : Nat) d, ρ[i]? ≠ some (.io p d)) (i : Nat) (h : At K (Mof (c.more p) ρ) H p d) (n1 : ¬ c.M p) (n2 : c.H0 p = none) : Gd K c (σ.set i (some (.ref p))) H (ρ.set i (.own p d)) := by
  have sub : ∀ a, Oof (ρ.set i (.own p d)) a → Oof ρ a ∨ a = p := fun a ⟨j, e, z⟩ => by
    rcases get_set z with ⟨_, z, _⟩ | ⟨_, z⟩
    · cases z; exact .inr rfl
    · exact .inl ⟨j, e, z⟩
  have m : Mv (Mof (c.more p) ρ) (Mof c (ρ.set i (.own p d))) H H := Mv.sub fun a z => by
    rcases z with z | z
    · exact .inl (.inl z)
    · rcases sub a z with z | z
      · exact .inr z
      · exact .inl (.inr z)
  have mw : Mv (Wof (c.more p) ρ) (Wof c (ρ.set i (.own p d))) H H := Mv.sub fun a z => by
    rcases z with z | z
    · exact .inl (.inl z)
    · rcases sub a z with z | z
      · exact .inr z
      · exact .inl (.inr z)
  have keep : ∀ {j : Nat} {x : Option V}, i ≠ j → σ[j]? = some x → (σ.set i (some (.ref p)))[j]? = some x := fun ne h => by rw [List.getElem?_set_ne ne]; exact h
  have nop : ∀ (j : Nat) e, ρ[j]? ≠ some (.own p e) := fun j e z => (g.own j p e z).2.2.1 (.inr rfl)
  have q : ∀ {j : Nat} {e : En}, (ρ.set i (.own p d))[j]? = some e → (i = j ∧ e = .own p d ∧ i < ρ.length) ∨ (i ≠ j ∧ ρ[j]? = some e) := fun z => by
    rcases get_set z with ⟨a, b, c⟩ | z
    · exact .inl ⟨a, b.symm, c⟩
    · exact .inr z
  refine ⟨by simp [g.len], fun j e z => ?_, fun j e z => ?_, fun j a e z => ?_, fun j a e z => ?_, fun j v z => ?_, fun j k a e e' z1 z2 => ?_, fun j k a e e' z1 z2 => ?_, fun b o e n => g.fr b o e fun w => w.elim n fun q => (by rw [q, n2] at e; cases e), hw, fun a z => g.th a (.inl z)⟩
  · rcases q z with ⟨rfl, y, _⟩ | ⟨ne, y⟩
    · cases y
    · obtain ⟨v, a, b⟩ := g.val j e y; exact ⟨v, keep ne a, b.mv m⟩
  · rcases q z with ⟨rfl, y, _⟩ | ⟨ne, y⟩
    · cases y
    · obtain ⟨v, a, b⟩ := g.rd j e y; exact ⟨v, keep ne a, b.mv m mw⟩
  · rcases q z with ⟨rfl, y, hl⟩ | ⟨ne, y⟩
    · cases y
      exact ⟨by rw [List.getElem?_set_self (by rw [g.len]; exact hl)], h.mv m fun _ z => z, n1, n2⟩
    · obtain ⟨a1, a2, a3, a4⟩ := g.own j a e y; exact ⟨keep ne a1, a2.mv m fun _ z => z, fun z => a3 (.inl z), a4⟩
  · rcases q z with ⟨rfl, y, _⟩ | ⟨ne, y⟩
    · cases y
    · obtain ⟨a1, a2, a3⟩ := g.io j a e y
      refine ⟨keep ne a1, a2.mv m (fun _ z => z), a3.elim id fun q => ?_⟩
      subst q; exact absurd y (hi j e)
  · rcases q z with ⟨rfl, y, _⟩ | ⟨ne, y⟩
    · cases y
    · exact keep ne (g.obj j v y)
  · rcases q z1 with ⟨rfl, y1, _⟩ | ⟨_, y1⟩
    · rcases q z2 with ⟨rfl, y2, _⟩ | ⟨_, y2⟩
      · rfl
      · cases y1; exact absurd y2 (nop k e')
    · rcases q z2 with ⟨rfl, y2, _⟩ | ⟨_, y2⟩
      · cases y2; exact absurd y1 (nop j e)
      · exact g.uo j k a e e' y1 y2
  · rcases q z1 with ⟨rfl, y, _⟩ | ⟨_, y1⟩
    · cases y
    · rcases q z2 with ⟨rfl, y, _⟩ | ⟨_, y2⟩
      · cases y
      · exact g.ui j k a e e' y1 y2
end

/-! ### a list changed -/
/-- what the slot i's list holds -/
def cont (i : Nat) (ρ : List En) : Option PyData := match ρ[i]? with
  | some (.own _ d) => some d
  | some (.io _ d) => some d
  | _ => none
/-- .. holds d from now on -/
def wr (i : Nat) (d : PyData) (ρ : List En) : List En := match ρ[i]? with
  | some (.own l _) => ρ.set i (.own l d)
  | some (.io l _) => ρ.set i (.io l d)
  | _ => ρ
section
variable {K : PySem.W.Frag} {c : Ct} {σ σ' : L2.St} {H H' : Hp} {ρ ρ' : List En}
theorem cont_shape {i : Nat} {d : PyData} (h : cont i ρ = some d) : (∃ l, ρ[i]? = some (.own l d)) ∨ ∃ l, ρ[i]? = some (.io l d) := by
  unfold cont at h
  split at h
  · rename_i l e he; cases h; exact .inl ⟨l, he⟩
  · rename_i l e he; cases h; exact .inr ⟨l, he⟩
  · cases h
theorem wr_len (i : Nat) (d : PyData) : (wr i d ρ).length = ρ.length := by
  unfold wr
  split <;> simp
theorem oof_wr {i : Nat} {d : PyData} : ∀ a, Oof (wr i d ρ) a → Oof ρ a := fun a ⟨j, e, h⟩ => by
  unfold wr at h
  split at h
  · rename_i l d0 h0
    rcases get_set h with ⟨rfl, h, _⟩ | ⟨_, h⟩
    · cases h; exact ⟨i, d0, h0⟩
    · exact ⟨j, e, h⟩
  · rename_i l d0 h0
    rcases get_set h with ⟨rfl, h, _⟩ | ⟨_, h⟩
    · cases h
    · exact ⟨j, e, h⟩
  · exact ⟨j, e, h⟩
theorem wr_wr {i : Nat} {d : PyData} : ∀ a, Wr (wr i d ρ) a → Wr ρ a := fun a ⟨j, e, h⟩ => by
  unfold wr at h
  split at h
  · rename_i l d0 h0
    rcases h with h | h
    · rcases get_set h with ⟨rfl, h, _⟩ | ⟨_, h⟩
      · cases h; exact ⟨i, d0, .inl h0⟩
      · exact ⟨j, e, .inl h⟩
    · rcases get_set h with ⟨rfl, h, _⟩ | ⟨_, h⟩
      · cases h
      · exact ⟨j, e, .inr h⟩
  · rename_i l d0 h0
    rcases h with h | h
    · rcases get_set h with ⟨rfl, h, _⟩ | ⟨_, h⟩
      · cases h
      · exact ⟨j, e, .inl h⟩
    · rcases get_set h with ⟨rfl, h, _⟩ | ⟨_, h⟩
      · cases h; exact ⟨i, d0, .inr h0⟩
      · exact ⟨j, e, .inr h⟩
  · exact ⟨j, e, h⟩
theorem wr_own (i : Nat) (d : PyData) {l : Addr} {d0 : PyData} (h : ρ[i]? = some (.own l d0)) : wr i d ρ = ρ.set i (.own l d) := by
  unfold wr; rw [h]
theorem wr_io (i : Nat) (d : PyData) {l : Addr} {d0 : PyData} (h : ρ[i]? = some (.io l d0)) : wr i d ρ = ρ.set i (.io l d) := by
  unfold wr; rw [h]
/-- the list at the slot i, of contents d, may be changed -/
theorem Gd.cell (g : Gd K c σ H ρ) {i : Nat} {d : PyData} (h : cont i ρ = some d) : ∃ l, σ[i]? = some (some (.ref l)) ∧ At K (Mof c ρ) H l d ∧ Wr ρ l ∧ ∀ d' e, (wr i d' ρ)[i]? = some e → e = .own l d' ∨ e = .io l d' := by
  rcases cont_shape h with ⟨l, e⟩ | ⟨l, e⟩
  · obtain ⟨h1, h2, _⟩ := g.own i l d e
    refine ⟨l, h1, h2, ⟨i, d, .inl e⟩, fun d' e' he => ?_⟩
    rw [wr_own i d' e] at he
    rcases get_set he with ⟨_, h, _⟩ | ⟨h, _⟩
    · exact .inl h.symm
    · exact absurd rfl h
  · obtain ⟨h1, h2, h3⟩ := g.io i l d e
    refine ⟨l, h1, h2, ⟨i, d, .inr e⟩, fun d' e' he => ?_⟩
    rw [wr_io i d' e] at he
    rcases get_set he with ⟨_, h, _⟩ | ⟨h, _⟩
    · exact .inr h.symm
    · exact absurd rfl h
theorem Gd.wrt (g : Gd K c σ H ρ) {i : Nat} {d d' : PyData} {l : Addr} {o : HO} (h : cont i ρ = some d) (hl : σ[i]? = some (some (.ref l))) (hA : At K (Mof c ρ) (upd H l o) l d') :
    Gd K c σ (upd H l o) (wr i d' ρ) ∧ Ev c ρ H (wr i d' ρ) (upd H l o) := by
  have ev : Ev c ρ H (wr i d' ρ) (upd H l o) := by
    obtain ⟨l', h1, h2, h3, _⟩ := g.cell h
    rw [hl] at h1; cases h1
    refine ⟨fun b u e n => ?_, fun a z => .inl (wr_wr a z), fun a z => ?_⟩
    · rw [upd_ne (fun q : b = l => n (by rw [q]; exact h3))]; exact e
    · by_cases q : a = l
      · subst q; rw [upd_same] at z; cases z
      · rw [upd_ne q] at z; exact z
  have mv := ev.mv g
  have hA' : At K (Mof c (LB.wr i d' ρ)) (upd H l o) l d' := by
    refine At.mv (M := Mof c ρ) (Mv.sub fun a z => z.imp id (oof_wr a)) (fun _ z => z) hA
  have keep : ∀ {l2 : Addr} {d2 : PyData}, l2 ≠ l → At K (Mof c ρ) H l2 d2 → At K (Mof c (LB.wr i d' ρ)) (upd H l o) l2 d2 := fun ne q => q.mv mv fun o' e => by rw [upd_ne ne]; exact e
  refine ⟨?_, ev⟩
  rcases cont_shape h with ⟨a, e⟩ | ⟨a, e⟩
  · have ea : a = l := by have := (g.own i a d e).1; rw [hl] at this; cases this; rfl
    subst ea
    rw [wr_own i d' e] at ev hA' keep ⊢
    refine g.next ev (by simp) (fun j x z => ?_) (fun j x z => ?_) (fun j x z => ?_) (fun j x y z => ?_) (fun j x y z => ?_)
    · rcases get_set z with ⟨_, z, _⟩ | ⟨_, z⟩
      · cases z
      · exact z
    · rcases get_set z with ⟨_, z, _⟩ | ⟨_, z⟩
      · cases z
      · exact z
    · rcases get_set z with ⟨_, z, _⟩ | ⟨_, z⟩
      · cases z
      · exact z
    · rcases get_set z with ⟨q, y1, _⟩ | ⟨ne, y1⟩
      · cases y1; subst q; exact ⟨⟨d, e⟩, hA'⟩
      · exact ⟨⟨y, y1⟩, keep (fun q => by subst q; exact ne (g.uo i j x d y e y1)) (g.own j x y y1).2.1⟩
    · rcases get_set z with ⟨_, y1, _⟩ | ⟨ne, y1⟩
      · cases y1
      · exact ⟨⟨y, y1⟩, keep (fun q => by subst q; exact (g.own i x d e).2.2.1 (g.wm _ (g.io j x y y1).2.2)) (g.io j x y y1).2.1⟩
  · have ea : a = l := by have := (g.io i a d e).1; rw [hl] at this; cases this; rfl
    subst ea
    rw [wr_io i d' e] at ev hA' keep ⊢
    refine g.next ev (by simp) (fun j x z => ?_) (fun j x z => ?_) (fun j x z => ?_) (fun j x y z => ?_) (fun j x y z => ?_)
    · rcases get_set z with ⟨_, z, _⟩ | ⟨_, z⟩
      · cases z
      · exact z
    · rcases get_set z with ⟨_, z, _⟩ | ⟨_, z⟩
      · cases z
      · exact z
    · rcases get_set z with ⟨_, z, _⟩ | ⟨_, z⟩
      · cases z
      · exact z
    · rcases get_set z with ⟨_, y1, _⟩ | ⟨ne, y1⟩
      · cases y1
      · exact ⟨⟨y, y1⟩, keep (fun q => by subst q; exact (g.own j x y y1).2.2.1 (g.wm _ (g.io i x d e).2.2)) (g.own j x y y1).2.1⟩
    · rcases get_set z with ⟨q, y1, _⟩ | ⟨ne, y1⟩
      · cases y1; subst q; exact ⟨⟨d, e⟩, hA'⟩
      · exact ⟨⟨y, y1⟩, keep (fun q => by subst q; exact ne (g.ui i j x d y e y1)) (g.io j x y y1).2.1⟩
end

/-! ### what an expression gives -/
inductive R where
  | val (d : PyData)
  /-- to be read now, not to be kept -/
  | see (d : PyData)
  /-- the list of the slot i -/
  | at (i : Nat)
  | obj (v : V)
def R.get : R → List En → Option PyData
  | .val d, _ => some d
  | .see d, _ => some d
  | .at i, ρ => cont i ρ
  | .obj _, _ => none
/-- kept: an own list is let go -/
def R.fz : R → List En → Option (PyData × List En)
  | .val d, ρ => some (d, ρ)
  | .see (.list _), _ => none
  | .see (.dict _), _ => none
  | .see d, ρ => some (d, ρ)
  | .at i, ρ => (match ρ[i]? with
    | some (.own _ d) => some (d, ρ.set i (.val d))
    | _ => none)
  | .obj _, _ => none
def RepR (K : PySem.W.Frag) (c : Ct) (σ : L2.St) (H : Hp) (ρ : List En) (v : V) : R → Prop
  | .val d => Rep K (Mof c ρ) H d v
  | .see d => See K (Mof c ρ) (Wof c ρ) H d v
  | .at i => ∃ l, v = .ref l ∧ σ[i]? = some (some (.ref l))
  | .obj u => v = u
section
variable {K : PySem.W.Frag} {c : Ct} {σ σ' : L2.St} {H H' : Hp} {ρ ρ' : List En} {v : V} {r : R}
theorem RepR.ev (h : RepR K c σ H ρ v r) (g : Gd K c σ H ρ) (e : Ev c ρ H ρ' H') : RepR K c σ H' ρ' v r := by
  cases r with
  | val d => exact Rep.mv (e.mv g) h
  | see d => exact See.mv (e.mv g) (e.mvw g) h
  | «at» i => exact h
  | obj u => exact h
/-- no slot's own, nothing to be changed: for what is read now -/
def No : Ow := fun _ => False
theorem RepR.see {d : PyData} (h : RepR K c σ H ρ v r) (g : Gd K c σ H ρ) (e : r.get ρ = some d) : See K (Mof c ρ) No H d v := by
  cases r with
  | val d' => cases e; exact Rep.see h fun _ z => z.elim
  | see d' => cases e; exact See.mv Mv.refl (Mv.sub fun _ z => z.elim) h
  | «at» i =>
    obtain ⟨l, rfl, hl⟩ := h
    obtain ⟨l', h1, h2, _⟩ := g.cell e
    rw [hl] at h1; cases h1
    exact h2.see fun z => z
  | obj u => cases e
theorem RepR.fz {d : PyData} {ρ1 : List En} (h : RepR K c σ H ρ v r) (g : Gd K c σ H ρ) (e : r.fz ρ = some (d, ρ1)) : Gd K c σ H ρ1 ∧ Ev c ρ H ρ1 H ∧ Rep K (Mof c ρ1) H d v := by
  cases r with
  | val d' => cases e; exact ⟨g, .refl, h⟩
  | see d' =>
    cases d' <;> first
      | (cases e; done)
      | (cases e; exact ⟨g, .refl, h⟩)
  | «at» i =>
    obtain ⟨l, rfl, hl⟩ := h
    have e : (match ρ[i]? with
      | some (.own _ d) => some (d, ρ.set i (.val d))
      | _ => none) = some (d, ρ1) := e
    split at e
    · rename_i l' d1 he
      cases e
      have := (g.own i l' _ he).1
      rw [hl] at this; cases this
      exact ⟨(g.freeze he).1, Ev.setNO rfl, (g.freeze he).2⟩
    · cases e
  | obj u => cases e
end
end LB

/-! LB, part 3: the judgements by value; names, constants, operators, comparisons, tests. -/
namespace LB
open PySem PySem.Spec PyProof.Rows L2

/-- an exception by value: its class, its fields -/
structure Xn where
  cls : Addr
  fs : List (Str × PyData)
def RepF (K : PySem.W.Frag) (H : Hp) : List (Str × PyData) → List (Str × V) → Prop
  | [], vs => vs = []
  | (n, d) :: r, vs => ∃ v vs', vs = (n, v) :: vs' ∧ Rep K No H d v ∧ RepF K H r vs'
def RepX (K : PySem.W.Frag) (H : Hp) (x : Xn) (cl : Value) (ad : Option Addr) : Prop :=
  cl = .ref x.cls ∧ ((x.fs = [] ∧ ad = none) ∨ ∃ a vs, ad = some a ∧ H a = some (.xd vs) ∧ RepF K H x.fs vs)

abbrev KX := Xn → List En → Prop
abbrev WE := KX → List En → (R → List En → Prop) → Prop
abbrev WT := KX → List En → (Bool → List En → Prop) → Prop
abbrev WA := KX → List En → (List R → List En → Prop) → Prop
abbrev WN := KX → List En → (PyData → List En → Prop) → Prop
/-- what is wanted of an exception, by the slots -/
abbrev EK := L2.St → XK
def ExOk (K : PySem.W.Frag) (E : EK) (c : Ct) (σ : L2.St) (ρ : List En) (H : Hp) (kx : KX) : Prop := ∀ x ρ' cl ad H', kx x ρ' → Gd K c σ H' ρ' → Ev c ρ H ρ' H' → RepX K H' x cl ad → E σ cl ad H'
theorem ExOk.ev {K : PySem.W.Frag} {E : EK} {c : Ct} {σ : L2.St} {ρ ρ' : List En} {H H' : Hp} {kx : KX} (h : ExOk K E c σ ρ H kx) (e : Ev c ρ H ρ' H') : ExOk K E c σ ρ' H' kx :=
  fun x ρ1 cl ad H1 a b d f => h x ρ1 cl ad H1 a b (e.trans d) f
def lE (X : Cx) (E : EK) (w : WE) : TE := fun σ H Q => ∃ c ρ k kx, Gd X.K c σ H ρ ∧ w kx ρ k ∧ (∀ r ρ' v H', k r ρ' → Gd X.K c σ H' ρ' → Ev c ρ H ρ' H' → RepR X.K c σ H' ρ' v r → Q v H') ∧ ExOk X.K E c σ ρ H kx
def lT (X : Cx) (E : EK) (w : WT) : TT := fun σ H Q => ∃ c ρ k kx, Gd X.K c σ H ρ ∧ w kx ρ k ∧ (∀ b ρ' H', k b ρ' → Gd X.K c σ H' ρ' → Ev c ρ H ρ' H' → Q b H') ∧ ExOk X.K E c σ ρ H kx
def lA (X : Cx) (E : EK) (w : WA) : TA := fun σ H Q => ∃ c ρ k kx, Gd X.K c σ H ρ ∧ w kx ρ k ∧ (∀ rs ρ' vs H', k rs ρ' → Gd X.K c σ H' ρ' → Ev c ρ H ρ' H' → Paired (fun v r => RepR X.K c σ H' ρ' v r) vs rs → Q vs H') ∧ ExOk X.K E c σ ρ H kx
/-- p is lent by no name -/
def NoIo (p : Addr) (ρ : List En) : Prop := ∀ (i : Nat) d, ρ[i]? ≠ some (.io p d)
def lN (X : Cx) (E : EK) (w : WN) : TE := fun σ H Q => ∃ c ρ k kx, Gd X.K c σ H ρ ∧ w kx ρ k ∧ (∀ d ρ' p H', k d ρ' → Gd X.K (c.more p) σ H' ρ' → Ev c ρ H ρ' H' → H p = none → NoIo p ρ' → At X.K (Mof (c.more p) ρ') H' p d → Q (.ref p) H') ∧ ExOk X.K E c σ ρ H kx
structure BE (X : Cx) (E : EK) (e : Expr) (w : WE) : Prop where
  pe : PE X e (lE X E w)
structure BT (X : Cx) (E : EK) (e : Expr) (w : WT) : Prop where
  pt : PT X e (lT X E w)
/-- a test within and, or -/
structure BW (X : Cx) (E : EK) (e : Expr) (w : WT) : Prop where
  pw : PW X e (lT X E w)
structure BA (X : Cx) (E : EK) (es : List Expr) (w : WA) : Prop where
  pa : PA X es (lA X E w)
structure BN (X : Cx) (E : EK) (e : Expr) (w : WN) : Prop where
  pe : PE X e (lN X E w)
theorem peI {X : Cx} {e : Expr} {t t' : TE} (h : PE X e t) (i : ∀ σ H Q, t' σ H Q → t σ H Q) : PE X e t' := ⟨fun pins s σ H Q I q => h.run pins s σ H Q I (i σ H Q q)⟩
theorem ptI {X : Cx} {e : Expr} {t t' : TT} (h : PT X e t) (i : ∀ σ H Q, t' σ H Q → t σ H Q) : PT X e t' := ⟨fun pins s σ H Q I q => h.run pins s σ H Q I (i σ H Q q)⟩
theorem pwI {X : Cx} {e : Expr} {t t' : TT} (h : PW X e t) (i : ∀ σ H Q, t' σ H Q → t σ H Q) : PW X e t' := ⟨fun wh pins s σ H Q I q => h.run wh pins s σ H Q I (i σ H Q q)⟩
theorem paI {X : Cx} {e : List Expr} {t t' : TA} (h : PA X e t) (i : ∀ σ H Q, t' σ H Q → t σ H Q) : PA X e t' := ⟨fun pos pins s σ H Q I q => h.run pos pins s σ H Q I (i σ H Q q)⟩
theorem psI {X : Cx} {e : Stmt} {t t' : TS} (h : PS X e t) (i : ∀ D σ H, t' D σ H → t D σ H) : PS X e t' := ⟨fun pins s σ H D I q => h.run pins s σ H D I (i D σ H q)⟩
theorem pssI {X : Cx} {e : List Stmt} {t t' : TS} (h : PSs X e t) (i : ∀ D σ H, t' D σ H → t D σ H) : PSs X e t' := ⟨fun pins s σ H D I q => h.run pins s σ H D I (i D σ H q)⟩

section
variable {X : Cx} {E : EK} {a b e : Expr} {es : List Expr} {wa wb w : WE} {pos : Pos}
/-! ### names, constants -/
def wVar (i : Nat) : WE := fun _ ρ k => match ρ[i]? with
  | some (.val d) => k (.val d) ρ
  | some (.rd d) => k (.see d) ρ
  | some (.own _ _) => k (.at i) ρ
  | some (.io _ _) => k (.at i) ρ
  | some (.obj v) => k (.obj v) ρ
  | _ => False
theorem be_pv {i : Nat} (h : PE X e (tVar i)) : BE X E e (wVar i) := by
  refine ⟨peI h fun σ H Q ⟨c, ρ, k, kx, g, hw, hk, hx⟩ => ?_⟩
  unfold wVar at hw
  split at hw
  · rename_i d he
    obtain ⟨v, h1, h2⟩ := g.val i d he
    exact ⟨v, h1, hk _ _ _ _ hw g .refl h2⟩
  · rename_i d he
    obtain ⟨v, h1, h2⟩ := g.rd i d he
    exact ⟨v, h1, hk _ _ _ _ hw g .refl h2⟩
  · rename_i l d he
    obtain ⟨h1, h2⟩ := g.own i l d he
    exact ⟨_, h1, hk _ _ _ _ hw g .refl ⟨l, rfl, h1⟩⟩
  · rename_i l d he
    obtain ⟨h1, h2⟩ := g.io i l d he
    exact ⟨_, h1, hk _ _ _ _ hw g .refl ⟨l, rfl, h1⟩⟩
  · rename_i v he
    exact ⟨v, g.obj i v he, hk _ _ _ _ hw g .refl rfl⟩
  · exact hw.elim
def wC (d : PyData) : WE := fun _ ρ k => k (.val d) ρ
theorem be_c {v : V} {d : PyData} (h : PE X e (tC v)) (r : ∀ M H, Rep X.K M H d v) : BE X E e (wC d) :=
  ⟨peI h fun σ H Q ⟨c, ρ, k, kx, g, hw, hk, hx⟩ => hk _ _ _ _ hw g .refl (r _ _)⟩
theorem be_int {i j pos} : BE X E (.Constant (.int i) j pos) (wC (.int i)) := be_c pe_int fun _ _ => rfl
theorem be_bl {b j pos} : BE X E (.Constant (.bool b) j pos) (wC (.bool b)) := be_c pe_bl fun _ _ => rfl
theorem be_non {j pos} : BE X E (.Constant .none j pos) (wC .none) := be_c pe_non fun _ _ => rfl
theorem be_str {x j pos} : BE X E (.Constant (.str x) j pos) (wC (.str x)) := be_c pe_str fun _ _ => rfl
/-- a value that is no data -/
def wO (v : V) : WE := fun _ ρ k => k (.obj v) ρ
theorem be_o {v : V} (h : PE X e (tC v)) : BE X E e (wO v) := ⟨peI h fun σ H Q ⟨c, ρ, k, kx, g, hw, hk, hx⟩ => hk _ _ _ _ hw g .refl rfl⟩

/-! ### operators -/
/-- M's places are there -/
def Thr (M : Ow) (H : Hp) : Prop := ∀ a, M a → H a ≠ none
def Sm (H H' : Hp) : Prop := ∀ b o, H b = some o → H' b = some o
abbrev G2 := PyData → PyData → (PyData → Prop) → Prop
/-- a two-place operation by value -/
def OpD (X : Cx) (f : Value → Value → Sem Value) (g : G2) : Prop :=
  ∃ r : R2, OpR X f r ∧ ∀ (M : Ow) (H : Hp) (x y : V) (d e : PyData) (k : PyData → Prop) (Q : VK), Thr M H → See X.K M No H d x → See X.K M No H e y → g d e k →
    (∀ v H' z, k z → Sm H H' → Rep X.K M H' z v → Q v H') → r x y H Q
/-- .. that makes a new list -/
def OpN (X : Cx) (f : Value → Value → Sem Value) (g : G2) : Prop :=
  ∃ r : R2, OpR X f r ∧ ∀ (M : Ow) (H : Hp) (x y : V) (d e : PyData) (k : PyData → Prop) (Q : VK), Thr M H → See X.K M No H d x → See X.K M No H e y → g d e k →
    (∀ p H' z, k z → H p = none → Sm H H' → At X.K (fun a => M a ∨ a = p) H' p z → Q (.ref p) H') → r x y H Q
theorem At.rep {K : PySem.W.Frag} {M : Ow} {H : Hp} {p : Addr} {z : PyData} (h : At K (fun a => M a ∨ a = p) H p z) (n : ¬ M p) : Rep K M H z (.ref p) := by
  have m : Mv (fun a => M a ∨ a = p) M H H := Mv.sub fun a z => .inl z
  cases z with
  | list ds => obtain ⟨xs, h1, h2⟩ := h; exact ⟨p, xs, rfl, ⟨h1, n⟩, h2.mv m⟩
  | dict ds => obtain ⟨xs, h1, h2⟩ := h; exact ⟨p, xs, rfl, ⟨h1, n⟩, h2.mv m⟩
  | _ => exact h.elim
theorem OpN.d {f : Value → Value → Sem Value} {g : G2} (h : OpN X f g) : OpD X f g := by
  obtain ⟨r, h1, h2⟩ := h
  exact ⟨r, h1, fun M H x y d e k Q th sx sy hg hq => h2 M H x y d e k Q th sx sy hg fun p H' z kz hp sm ha => hq _ _ z kz sm (ha.rep fun q => th p q hp)⟩
def wOp (g : G2) (wa wb : WE) : WE := fun kx ρ k => wa kx ρ fun r1 ρ1 => wb kx ρ1 fun r2 ρ2 => ∃ d e, r1.get ρ2 = some d ∧ r2.get ρ2 = some e ∧ g d e fun z => k (.val z) ρ2
theorem bin_run {r : R2} {g : G2} {k : PyData → List En → Prop} (ha : BE X E a wa) (hb : BE X E b wb)
    (h2 : ∀ (M : Ow) (H : Hp) (x y : V) (d e : PyData) (k : PyData → Prop) (Q : VK), Thr M H → See X.K M No H d x → See X.K M No H e y → g d e k → (∀ v H' z, k z → Sm H H' → Rep X.K M H' z v → Q v H') → r x y H Q)
    {σ : L2.St} {H : Hp} {Q : VK} {c : Ct} {ρ : List En} {kx : KX} (gd : Gd X.K c σ H ρ)
    (hw : wa kx ρ fun r1 ρ1 => wb kx ρ1 fun r2 ρ2 => ∃ d e, r1.get ρ2 = some d ∧ r2.get ρ2 = some e ∧ g d e fun z => k z ρ2)
    (hk : ∀ z ρ' v H', k z ρ' → Gd X.K c σ H' ρ' → Ev c ρ H ρ' H' → Rep X.K (Mof c ρ') H' z v → Q v H') (hx : ExOk X.K E c σ ρ H kx) : tOp r (lE X E wa) (lE X E wb) σ H Q := by
  refine ⟨c, ρ, _, kx, gd, hw, fun r1 ρ1 v1 H1 k1 g1 e1 p1 => ?_, hx⟩
  refine ⟨c, ρ1, _, kx, g1, k1, fun r2 ρ2 v2 H2 k2 g2 e2 p2 => ?_, hx.ev e1⟩
  obtain ⟨d, e, hd, he, hg⟩ := k2
  refine h2 (Mof c ρ2) H2 v1 v2 d e _ _ (fun a z => g2.mth z) ((p1.ev g1 e2).see g2 hd) (p2.see g2 he) hg fun v H' z kz sm rp => ?_
  exact hk z ρ2 v H' kz (g2.same sm) ((e1.trans e2).trans (.same sm)) rp
theorem be_op {op : Operator} {g : G2} (ho : OpD X (binaryOp op) g) (ha : BE X E a wa) (hb : BE X E b wb) : BE X E (.BinOp a op b pos) (wOp g wa wb) := by
  obtain ⟨r, h1, h2⟩ := ho
  exact ⟨peI (pe_op h1 ha.pe hb.pe) fun σ H Q ⟨c, ρ, k, kx, gd, hw, hk, hx⟩ => bin_run ha hb h2 gd hw (fun z ρ' v H' a b c d => hk _ _ _ _ a b c d) hx⟩
theorem be_cmp {op : CmpOp} {g : G2} (ho : OpD X (compareOp op) g) (ha : BE X E a wa) (hb : BE X E b wb) (hm : behindInMarks op b = false) : BE X E (.Compare a [op] [b] pos) (wOp g wa wb) := by
  obtain ⟨r, h1, h2⟩ := ho
  exact ⟨peI (pe_cmpR h1 ha.pe hb.pe hm) fun σ H Q ⟨c, ρ, k, kx, gd, hw, hk, hx⟩ => bin_run ha hb h2 gd hw (fun z ρ' v H' a b c d => hk _ _ _ _ a b c d) hx⟩
def wTst (w : WE) : WT := fun kx ρ k => w kx ρ fun r ρ' => ∃ b, r = .val (.bool b) ∧ k b ρ'
theorem bt_cmp {op : CmpOp} {g : G2} (ho : OpD X (compareOp op) g) (ha : BE X E a wa) (hb : BE X E b wb) (hm : behindInMarks op b = false) : BT X E (.Compare a [op] [b] pos) (wTst (wOp g wa wb)) := by
  obtain ⟨r, h1, h2⟩ := ho
  refine ⟨ptI (pt_cmpR h1 ha.pe hb.pe hm) fun σ H Q ⟨c, ρ, k, kx, gd, hw, hk, hx⟩ => ?_⟩
  refine bin_run ha hb h2 gd hw (fun z ρ' v H' a b c d => ?_) hx
  obtain ⟨q, e, hq⟩ := a
  cases e
  exact ⟨q, d, hk _ _ _ hq b c⟩
/-- an expression that gives a truth value, as a test -/
theorem bt_val (h : BE X E e w) (he : ∀ whole, isTrue e X.env whole = (do let v ← whole; standAt e.pos; holding [v] (truthy v)) := by intro _; rfl) : BT X E e (wTst w) := by
  refine ⟨ptI (pt_val h.pe he) fun σ H Q ⟨c, ρ, k, kx, gd, hw, hk, hx⟩ => ?_⟩
  refine ⟨c, ρ, _, kx, gd, hw, fun r ρ' v H' k1 g1 e1 p1 => ?_, hx⟩
  obtain ⟨q, e, hq⟩ := k1
  subst e
  exact ⟨q, p1, hk _ _ _ hq g1 e1⟩
/-- a op b op' c -/
def wChain (g g' : G2) (wa wb wc : WE) : WE := fun kx ρ k => wa kx ρ fun r1 ρ1 => wb kx ρ1 fun r2 ρ2 => ∃ d e, r1.get ρ2 = some d ∧ r2.get ρ2 = some e ∧ g d e fun z => ∃ q, z = .bool q ∧
  if q = true then wc kx ρ2 fun r3 ρ3 => ∃ e' f, r2.get ρ3 = some e' ∧ r3.get ρ3 = some f ∧ g' e' f fun z => k (.val z) ρ3 else k (.val (.bool false)) ρ2
theorem be_chain {op op' : CmpOp} {g g' : G2} {c0 : Expr} {wc : WE} (ho : OpD X (compareOp op) g) (ho' : OpD X (compareOp op') g') (ha : BE X E a wa) (hb : BE X E b wb) (hc : BE X E c0 wc)
    (mk : ∀ {r r' : R2} {ta tb tc : TE}, OpR X (compareOp op) r → OpR X (compareOp op') r' → PE X a ta → PE X b tb → PE X c0 tc → PE X (.Compare a [op, op'] [b, c0] pos) (tChain r r' ta tb tc)) :
    BE X E (.Compare a [op, op'] [b, c0] pos) (wChain g g' wa wb wc) := by
  obtain ⟨r, h1, h2⟩ := ho
  obtain ⟨r', h1', h2'⟩ := ho'
  refine ⟨peI (mk h1 h1' ha.pe hb.pe hc.pe) fun σ H Q ⟨c, ρ, k, kx, gd, hw, hk, hx⟩ => ?_⟩
  refine ⟨c, ρ, _, kx, gd, hw, fun r1 ρ1 v1 H1 k1 g1 e1 p1 => ?_, hx⟩
  refine ⟨c, ρ1, _, kx, g1, k1, fun r2 ρ2 v2 H2 k2 g2 e2 p2 => ?_, hx.ev e1⟩
  obtain ⟨d, e, hd, he, hg⟩ := k2
  refine h2 (Mof c ρ2) H2 v1 v2 d e _ _ (fun a z => g2.mth z) ((p1.ev g1 e2).see g2 hd) (p2.see g2 he) hg fun v H' z kz sm rp => ?_
  obtain ⟨q, rfl, hq⟩ := kz
  have g2' := g2.same sm
  have e12 := (e1.trans e2).trans (Ev.same (c := c) (ρ := ρ2) sm)
  refine ⟨q, rp, ?_⟩
  cases q with
  | false => exact hk _ ρ2 _ H' hq g2' e12 rfl
  | true =>
    refine ⟨c, ρ2, _, kx, g2', hq, fun r3 ρ3 v3 H3 k3 g3 e3 p3 => ?_, hx.ev e12⟩
    obtain ⟨e', f, he', hf, hg'⟩ := k3
    refine h2' (Mof c ρ3) H3 v2 v3 e' f _ _ (fun a z => g3.mth z) (((p2.ev g2 (Ev.same sm)).ev g2' e3).see g3 he') (p3.see g3 hf) hg' fun v H'' z kz sm' rp' => ?_
    exact hk _ ρ3 v H'' kz (g3.same sm') ((e12.trans e3).trans (.same sm')) rp'
/-- one-place operators on ints -/
def wUn (f : Int → Int) (wa : WE) : WE := fun kx ρ k => wa kx ρ fun r ρ1 => ∃ i, r.get ρ1 = some (.int i) ∧ k (.val (.int (f i))) ρ1
theorem be_un {op : UnaryOp} {f : Int → Int} (ho : UnR X (unaryOp op) (rU fun i => .int (f i))) (ha : BE X E a wa) : BE X E (.UnaryOp op a pos) (wUn f wa) := by
  refine ⟨peI (pe_un ho ha.pe) fun σ H Q ⟨c, ρ, k, kx, gd, hw, hk, hx⟩ => ?_⟩
  refine ⟨c, ρ, _, kx, gd, hw, fun r1 ρ1 v1 H1 k1 g1 e1 p1 => ?_, hx⟩
  obtain ⟨i, hi, h⟩ := k1
  have := p1.see g1 hi
  exact ⟨i, this, hk _ ρ1 _ H1 h g1 e1 rfl⟩

/-! ### tests joined -/
def wNot (w : WT) : WT := fun kx ρ k => w kx ρ fun b ρ' => k (!b) ρ'
theorem bt_not {w : WT} (h : BT X E a w) : BT X E (.UnaryOp .Not a pos) (wNot w) := by
  refine ⟨ptI (pt_not h.pt) fun σ H Q ⟨c, ρ, k, kx, gd, hw, hk, hx⟩ => ?_⟩
  exact ⟨c, ρ, _, kx, gd, hw, fun q ρ' H' a b d => hk _ _ _ a b d, hx⟩
def wAnd (w u : WT) : WT := fun kx ρ k => w kx ρ fun b ρ' => if b = true then u kx ρ' k else k false ρ'
def wOr (w u : WT) : WT := fun kx ρ k => w kx ρ fun b ρ' => if b = true then k true ρ' else u kx ρ' k
theorem BW.bt {w : WT} (h : BW X E e w) : BT X E e w := ⟨h.pw.pt⟩
theorem bw_and1 {w : WT} (h : BT X E a w) : BW X E (.BoolOp .And [a] pos) w := ⟨pw_and1 h.pt⟩
theorem bw_or1 {w : WT} (h : BT X E a w) : BW X E (.BoolOp .Or [a] pos) w := ⟨pw_or1 h.pt⟩
variable {rest : List Expr}
theorem bw_and {w u : WT} (h : BT X E a w) (h2 : BW X E (.BoolOp .And (b :: rest) pos) u) : BW X E (.BoolOp .And (a :: b :: rest) pos) (wAnd w u) := by
  refine ⟨pwI (pw_and h.pt h2.pw) fun σ H Q ⟨c, ρ, k, kx, gd, hw, hk, hx⟩ => ?_⟩
  refine ⟨c, ρ, _, kx, gd, hw, fun q ρ' H' k1 g1 e1 => ?_, hx⟩
  cases q with
  | true => exact ⟨c, ρ', k, kx, g1, k1, fun q' ρ2 H2 k2 g2 e2 => hk q' ρ2 H2 k2 g2 (e1.trans e2), hx.ev e1⟩
  | false => exact hk _ _ _ k1 g1 e1
theorem bw_or {w u : WT} (h : BT X E a w) (h2 : BW X E (.BoolOp .Or (b :: rest) pos) u) : BW X E (.BoolOp .Or (a :: b :: rest) pos) (wOr w u) := by
  refine ⟨pwI (pw_or h.pt h2.pw) fun σ H Q ⟨c, ρ, k, kx, gd, hw, hk, hx⟩ => ?_⟩
  refine ⟨c, ρ, _, kx, gd, hw, fun q ρ' H' k1 g1 e1 => ?_, hx⟩
  cases q with
  | false => exact ⟨c, ρ', k, kx, g1, k1, fun q' ρ2 H2 k2 g2 e2 => hk q' ρ2 H2 k2 g2 (e1.trans e2), hx.ev e1⟩
  | true => exact hk _ _ _ k1 g1 e1
/-- as values, of truth values -/
def wAndV (w u : WE) : WE := fun kx ρ k => w kx ρ fun r ρ' => ∃ q, r = .val (.bool q) ∧ if q = true then u kx ρ' k else k (.val (.bool false)) ρ'
def wOrV (w u : WE) : WE := fun kx ρ k => w kx ρ fun r ρ' => ∃ q, r = .val (.bool q) ∧ if q = true then k (.val (.bool true)) ρ' else u kx ρ' k
def wNotV (w : WE) : WE := fun kx ρ k => w kx ρ fun r ρ' => ∃ q, r = .val (.bool q) ∧ k (.val (.bool (!q))) ρ'
theorem be_one {op} (h : BE X E a w) : BE X E (.BoolOp op [a] pos) w := ⟨pe_one h.pe⟩
theorem be_and {u : WE} (h : BE X E a w) (h2 : BE X E (.BoolOp .And (b :: rest) pos) u) : BE X E (.BoolOp .And (a :: b :: rest) pos) (wAndV w u) := by
  refine ⟨peI (pe_and h.pe h2.pe) fun σ H Q ⟨c, ρ, k, kx, gd, hw, hk, hx⟩ => ?_⟩
  refine ⟨c, ρ, _, kx, gd, hw, fun r ρ' v H' k1 g1 e1 p1 => ?_, hx⟩
  obtain ⟨q, rfl, k1⟩ := k1
  refine ⟨q, p1, ?_⟩
  cases q with
  | true => exact ⟨c, ρ', k, kx, g1, k1, fun r' ρ2 v2 H2 k2 g2 e2 p2 => hk r' ρ2 v2 H2 k2 g2 (e1.trans e2) p2, hx.ev e1⟩
  | false => exact hk _ _ _ _ k1 g1 e1 rfl
theorem be_or {u : WE} (h : BE X E a w) (h2 : BE X E (.BoolOp .Or (b :: rest) pos) u) : BE X E (.BoolOp .Or (a :: b :: rest) pos) (wOrV w u) := by
  refine ⟨peI (pe_or h.pe h2.pe) fun σ H Q ⟨c, ρ, k, kx, gd, hw, hk, hx⟩ => ?_⟩
  refine ⟨c, ρ, _, kx, gd, hw, fun r ρ' v H' k1 g1 e1 p1 => ?_, hx⟩
  obtain ⟨q, rfl, k1⟩ := k1
  refine ⟨q, p1, ?_⟩
  cases q with
  | false => exact ⟨c, ρ', k, kx, g1, k1, fun r' ρ2 v2 H2 k2 g2 e2 p2 => hk r' ρ2 v2 H2 k2 g2 (e1.trans e2) p2, hx.ev e1⟩
  | true => exact hk _ _ _ _ k1 g1 e1 rfl
theorem be_not (h : BE X E a w) : BE X E (.UnaryOp .Not a pos) (wNotV w) := by
  refine ⟨peI (pe_not h.pe) fun σ H Q ⟨c, ρ, k, kx, gd, hw, hk, hx⟩ => ?_⟩
  refine ⟨c, ρ, _, kx, gd, hw, fun r ρ' v H' k1 g1 e1 p1 => ?_, hx⟩
  obtain ⟨q, rfl, k1⟩ := k1
  exact ⟨q, p1, hk _ _ _ _ k1 g1 e1 rfl⟩
def wIf (t : WT) (w u : WE) : WE := fun kx ρ k => t kx ρ fun b ρ' => if b = true then w kx ρ' k else u kx ρ' k
theorem be_if {c0 : Expr} {t : WT} (hc : BT X E c0 t) (ha : BE X E a wa) (hb : BE X E b wb) : BE X E (.IfExp c0 a b pos) (wIf t wa wb) := by
  refine ⟨peI (pe_ifExp hc.pt ha.pe hb.pe) fun σ H Q ⟨c, ρ, k, kx, gd, hw, hk, hx⟩ => ?_⟩
  refine ⟨c, ρ, _, kx, gd, hw, fun q ρ' H' k1 g1 e1 => ?_, hx⟩
  cases q with
  | true => exact ⟨c, ρ', k, kx, g1, k1, fun r' ρ2 v2 H2 k2 g2 e2 p2 => hk r' ρ2 v2 H2 k2 g2 (e1.trans e2) p2, hx.ev e1⟩
  | false => exact ⟨c, ρ', k, kx, g1, k1, fun r' ρ2 v2 H2 k2 g2 e2 p2 => hk r' ρ2 v2 H2 k2 g2 (e1.trans e2) p2, hx.ev e1⟩

/-! ### arguments -/
def wNil : WA := fun _ ρ k => k [] ρ
def wCons (w : WE) (u : WA) : WA := fun kx ρ k => w kx ρ fun r ρ1 => u kx ρ1 fun rs ρ2 => k (r :: rs) ρ2
theorem ba_nil : BA X E [] wNil := ⟨paI pa_nil fun σ H Q ⟨c, ρ, k, kx, gd, hw, hk, hx⟩ => hk [] ρ [] H hw gd .refl .nil⟩
theorem ba_cons {u : WA} (h : BE X E e w) (h2 : BA X E es u) (hs : starEach (e :: es) X.env = (false, eval e X.env) :: starEach es X.env := by rfl) : BA X E (e :: es) (wCons w u) := by
  refine ⟨paI (pa_cons h.pe h2.pa hs) fun σ H Q ⟨c, ρ, k, kx, gd, hw, hk, hx⟩ => ?_⟩
  refine ⟨c, ρ, _, kx, gd, hw, fun r1 ρ1 v1 H1 k1 g1 e1 p1 => ?_, hx⟩
  refine ⟨c, ρ1, _, kx, g1, k1, fun rs ρ2 vs H2 k2 g2 e2 p2 => ?_, hx.ev e1⟩
  exact hk _ _ _ _ k2 g2 (e1.trans e2) (.cons (p1.ev g1 e2) p2)
/-- all read, all kept -/
def getA : List R → List En → Option (List PyData)
  | [], _ => some []
  | r :: rs, ρ => match r.get ρ with
    | some d => (match getA rs ρ with
      | some ds => some (d :: ds)
      | none => none)
    | none => none
def fzA : List R → List En → Option (List PyData × List En)
  | [], ρ => some ([], ρ)
  | r :: rs, ρ => match r.fz ρ with
    | some (d, ρ1) => (match fzA rs ρ1 with
      | some (ds, ρ2) => some (d :: ds, ρ2)
      | none => none)
    | none => none
abbrev SeeA (K : PySem.W.Frag) (M : Ow) (H : Hp) : List V → List PyData → Prop := Paired fun v d => See K M No H d v
theorem getA_see {K : PySem.W.Frag} {c : Ct} {σ : L2.St} {H : Hp} {ρ : List En} (g : Gd K c σ H ρ) : ∀ {rs : List R} {vs : List V} {ds : List PyData}, Paired (fun v r => RepR K c σ H ρ v r) vs rs → getA rs ρ = some ds → SeeA K (Mof c ρ) H vs ds
  | [], _, _, .nil, e => by cases e; exact .nil
  | r :: rs, _, ds, .cons p q, e => by
    unfold getA at e
    split at e
    · rename_i d hd
      split at e
      · rename_i ds' hds
        cases e
        exact .cons (p.see g hd) (getA_see g q hds)
      · cases e
    · cases e
theorem Pmap {α β : Type} {F G : α → β → Prop} : ∀ {l₁ : List α} {l₂ : List β}, Paired F l₁ l₂ → (∀ a b, F a b → G a b) → Paired G l₁ l₂
  | _, _, .nil, _ => .nil
  | _, _, .cons r t, f => .cons (f _ _ r) (Pmap t f)
theorem fzA_rep {K : PySem.W.Frag} {c : Ct} {σ : L2.St} {H : Hp} : ∀ {rs : List R} {ρ ρ' : List En} {vs : List V} {ds : List PyData}, Gd K c σ H ρ → Paired (fun v r => RepR K c σ H ρ v r) vs rs → fzA rs ρ = some (ds, ρ') →
    Gd K c σ H ρ' ∧ Ev c ρ H ρ' H ∧ RepAll K (Mof c ρ') H ds vs
  | [], _, _, _, _, g, .nil, e => by cases e; exact ⟨g, .refl, rfl⟩
  | r :: rs, ρ, ρ', _, ds, g, .cons p q, e => by
    unfold fzA at e
    split at e
    · rename_i d ρ1 hd
      split at e
      · rename_i ds' ρ2 hds
        cases e
        obtain ⟨g1, e1, r1⟩ := p.fz g hd
        obtain ⟨g2, e2, r2⟩ := fzA_rep g1 (Pmap q fun _ _ z => RepR.ev z g e1) hds
        exact ⟨g2, e1.trans e2, _, _, rfl, r1.mv (e2.mv g1), r2⟩
      · cases e
    · cases e
/-! ### displays -/
def wTup (u : WA) : WE := fun kx ρ k => u kx ρ fun rs ρ1 => ∃ ds ρ2, fzA rs ρ1 = some (ds, ρ2) ∧ ds.length ≤ sizeLine ∧ k (.val (.tuple ds)) ρ2
theorem be_tup {x1} {u : WA} (h : BA X E es u) : BE X E (.Tuple es x1 pos) (wTup u) := by
  refine ⟨peI (pe_tup h.pa) fun σ H Q ⟨c, ρ, k, kx, gd, hw, hk, hx⟩ => ?_⟩
  refine ⟨c, ρ, _, kx, gd, hw, fun rs ρ1 vs H1 k1 g1 e1 p1 => ?_, hx⟩
  obtain ⟨ds, ρ2, hf, hl, k1⟩ := k1
  obtain ⟨g2, e2, r2⟩ := fzA_rep g1 p1 hf
  refine ⟨by rw [r2.len]; exact hl, fun p hp => ?_⟩
  have sm : Sm H1 (upd H1 p (.tup vs)) := fun b o e => by rw [upd_ne (ne_of_none e hp)]; exact e
  have e3 : Ev c ρ2 H1 ρ2 (upd H1 p (.tup vs)) := .same sm
  exact hk _ _ _ _ k1 (g2.same sm) ((e1.trans e2).trans e3) ⟨p, vs, rfl, .inl ⟨upd_same, fun z => g2.mth z hp⟩, r2.mv (e3.mv g2)⟩
def wLst (u : WA) : WN := fun kx ρ k => u kx ρ fun rs ρ1 => ∃ ds ρ2, fzA rs ρ1 = some (ds, ρ2) ∧ ds.length ≤ sizeLine ∧ k (.list ds) ρ2
theorem Gd.noio {K : PySem.W.Frag} {c : Ct} {σ : L2.St} {H : Hp} {ρ : List En} (g : Gd K c σ H ρ) {p : Addr} (hp : H p = none) : NoIo p ρ := fun i d z => by
  obtain ⟨_, h, _⟩ := g.io i p d z
  exact h.some hp
theorem bn_lst {u : WA} (h : BA X E es u) : BN X E (.List es pos) (wLst u) := by
  refine ⟨peI (pe_lst h.pa) fun σ H Q ⟨c, ρ, k, kx, gd, hw, hk, hx⟩ => ?_⟩
  refine ⟨c, ρ, _, kx, gd, hw, fun rs ρ1 vs H1 k1 g1 e1 p1 => ?_, hx⟩
  obtain ⟨ds, ρ2, hf, hl, k1⟩ := k1
  obtain ⟨g2, e2, r2⟩ := fzA_rep g1 p1 hf
  refine ⟨by rw [r2.len]; exact hl, fun p hp => ?_⟩
  have sm : Sm H1 (upd H1 p (.lst vs)) := fun b o e => by rw [upd_ne (ne_of_none e hp)]; exact e
  have g3 := g2.more hp sm (by rw [upd_same]; intro z; cases z)
  have hp0 : H p = none := e1.there p hp
  refine hk _ _ _ _ k1 g3 ((e1.trans e2).trans (.same sm)) hp0 (g2.noio hp) ⟨vs, upd_same, r2.mv ⟨fun a z => ?_, fun b o e _ => sm b o e⟩⟩
  rcases z with (z | rfl) | z
  · exact .inl (.inl z)
  · exact .inr hp
  · exact .inl (.inr z)
/-- a new list as a value like others -/
def wOf (w : WN) : WE := fun kx ρ k => w kx ρ fun d ρ' => k (.val d) ρ'
theorem BN.be {w : WN} (h : BN X E e w) : BE X E e (wOf w) := by
  refine ⟨peI h.pe fun σ H Q ⟨c, ρ, k, kx, gd, hw, hk, hx⟩ => ?_⟩
  refine ⟨c, ρ, _, kx, gd, hw, fun d ρ1 p H1 k1 g1 e1 hp ni ha => ?_, hx⟩
  have h0 : c.H0 p = none := by
    cases q : c.H0 p with
    | none => rfl
    | some o =>
      by_cases hW : c.W p
      · exact absurd hp (gd.th p (gd.wm p hW))
      · have := gd.fr p o q hW; rw [hp] at this; cases this
  have g2 := g1.less gd.wm ni h0
  refine hk _ _ _ _ k1 g2 e1 ?_
  have n : ¬ Mof c ρ1 p := fun z => by
    rcases z with z | ⟨i, d', z⟩
    · exact gd.th p z hp
    · exact (g1.own i p d' z).2.2.1 (.inr rfl)
  have m : Mv (Mof (c.more p) ρ1) (Mof c ρ1) H1 H1 := Mv.sub fun a z => z.imp .inl id
  cases d with
  | list ds => obtain ⟨xs, h1, h2⟩ := ha; exact ⟨p, xs, rfl, ⟨h1, n⟩, h2.mv m⟩
  | dict ds => obtain ⟨xs, h1, h2⟩ := ha; exact ⟨p, xs, rfl, ⟨h1, n⟩, h2.mv m⟩
  | _ => exact ha.elim
def wOpN (g : G2) (wa wb : WE) : WN := fun kx ρ k => wa kx ρ fun r1 ρ1 => wb kx ρ1 fun r2 ρ2 => ∃ d e, r1.get ρ2 = some d ∧ r2.get ρ2 = some e ∧ g d e fun z => k z ρ2
theorem bn_op {op : Operator} {g : G2} (ho : OpN X (binaryOp op) g) (ha : BE X E a wa) (hb : BE X E b wb) : BN X E (.BinOp a op b pos) (wOpN g wa wb) := by
  obtain ⟨r, h1, h2⟩ := ho
  refine ⟨peI (pe_op h1 ha.pe hb.pe) fun σ H Q ⟨c, ρ, k, kx, gd, hw, hk, hx⟩ => ?_⟩
  refine ⟨c, ρ, _, kx, gd, hw, fun r1 ρ1 v1 H1 k1 g1 e1 p1 => ?_, hx⟩
  refine ⟨c, ρ1, _, kx, g1, k1, fun r2 ρ2 v2 H2 k2 g2 e2 p2 => ?_, hx.ev e1⟩
  obtain ⟨d, e, hd, he, hg⟩ := k2
  refine h2 (Mof c ρ2) H2 v1 v2 d e _ _ (fun a z => g2.mth z) ((p1.ev g1 e2).see g2 hd) (p2.see g2 he) hg fun p H' z kz hp sm ha => ?_
  have hp0 : H p = none := (e1.trans e2).there p hp
  exact hk z ρ2 p H' kz (g2.more hp sm ha.some) ((e1.trans e2).trans (.same sm)) hp0 (g2.noio hp) (At.mv (Mv.sub fun a w => by
    rcases w with (w | w) | w
    · exact .inl (.inl w)
    · exact .inr w
    · exact .inl (.inr w)) (fun _ w => w) ha)
end
end LB

/-! LB, part 4: operators, comparisons, built-ins, subscripts by value. -/
namespace LB
open PySem PySem.Spec PyProof.Rows L2
section
variable {K : PySem.W.Frag} {M W : Ow} {H : Hp}
/-! ### reading data -/
theorem TpAt.sq {a : Addr} {xs : List V} (h : TpAt K M H a xs) : SqT K H a xs := by
  rcases h with h | h
  · exact .inl (.inl h.1)
  · exact .inr h
mutual
theorem Rep.dp : ∀ {d : PyData} {v : V}, Rep K M H d v → PyData.canLay0 d = true → Dp K H v d
  | .none, _, h, _ => by cases (show _ = _ from h); exact .non
  | .bool b, _, h, _ => by cases (show _ = _ from h); exact .bl b
  | .int i, _, h, _ => by cases (show _ = _ from h); exact .int i
  | .str s, _, h, _ => by cases (show _ = _ from h); exact .str s
  | .list ds, v, h, c => by
    obtain ⟨a, xs, rfl, l, r⟩ := h
    exact .lst (.of l.1) (RepAll.dp r (by simpa [PyData.canLay0] using c))
  | .tuple ds, v, h, c => by
    obtain ⟨a, xs, rfl, l, r⟩ := h
    exact .tup l.sq (RepAll.dp r (by simpa [PyData.canLay0] using c))
  | .dict kvs, v, h, c => by simp [PyData.canLay0] at c
theorem RepAll.dp : ∀ {ds : List PyData} {xs : List V}, RepAll K M H ds xs → PyData.canLayAll0 ds = true → DpAll K H xs ds
  | [], _, h, _ => by cases h; exact .nil
  | d :: ds, xs, h, c => by
    obtain ⟨v, vs, rfl, h1, h2⟩ := h
    have c' : d.canLay0 = true ∧ PyData.canLayAll0 ds = true := by simpa [PyData.canLayAll0] using c
    exact .cons (Rep.dp h1 c'.1) (RepAll.dp h2 c'.2)
end
theorem See.dp {d : PyData} {v : V} (h : See K M W H d v) (c : PyData.canLay0 d = true) : Dp K H v d := by
  cases d with
  | list ds =>
    obtain ⟨a, xs, rfl, l, r⟩ := h
    exact .lst (.of l.1) (RepAll.dp r (by simpa [PyData.canLay0] using c))
  | dict kvs => simp [PyData.canLay0] at c
  | none => exact Rep.dp (M := M) h c
  | bool b => exact Rep.dp (M := M) (d := .bool b) h c
  | int b => exact Rep.dp (M := M) (d := .int b) h c
  | str b => exact Rep.dp (M := M) (d := .str b) h c
  | tuple b => exact Rep.dp (M := M) (d := .tuple b) h c
theorem See.int {i : Int} {v : V} (h : See K M W H (.int i) v) : v = .int i := h
theorem See.str {i : Str} {v : V} (h : See K M W H (.str i) v) : v = .str i := h
theorem See.bl {i : Bool} {v : V} (h : See K M W H (.bool i) v) : v = .bl i := h
theorem See.lst {ds : List PyData} {v : V} (h : See K M W H (.list ds) v) : ∃ a xs, v = .ref a ∧ H a = some (.lst xs) ∧ RepAll K M H ds xs := by
  obtain ⟨a, xs, e, l, r⟩ := h; exact ⟨a, xs, e, l.1, r⟩
theorem See.tup {ds : List PyData} {v : V} (h : See K M W H (.tuple ds) v) : ∃ a xs, v = .ref a ∧ SqT K H a xs ∧ RepAll K M H ds xs := by
  obtain ⟨a, xs, e, l, r⟩ := h; exact ⟨a, xs, e, l.sq, r⟩
end

/-! ### operators on ints -/
def g2I (C : Int → Int → Prop) (f : Int → Int → PyData) : G2
  | .int i, .int j, k => C i j ∧ k (f i j)
  | _, _, _ => False
def g2I0 (f : Int → Int → PyData) : G2
  | .int i, .int j, k => k (f i j)
  | _, _, _ => False
section
variable {X : Cx}
theorem opd_I {f : Value → Value → Sem Value} {C : Int → Int → Prop} {g : Int → Int → Int} (h : OpR X f (rI C fun i j => .int (g i j))) : OpD X f (g2I C fun i j => .int (g i j)) := by
  refine ⟨_, h, fun M H x y d e k Q th sx sy hg hq => ?_⟩
  unfold g2I at hg
  split at hg
  · exact ⟨_, _, sx.int, sy.int, hg.1, hq _ _ _ hg.2 (fun _ _ z => z) rfl⟩
  · exact hg.elim
theorem opd_I0 {f : Value → Value → Sem Value} {g : Int → Int → Int} (h : OpR X f (rI0 fun i j => .int (g i j))) : OpD X f (g2I0 fun i j => .int (g i j)) := by
  refine ⟨_, h, fun M H x y d e k Q th sx sy hg hq => ?_⟩
  unfold g2I0 at hg
  split at hg
  · exact ⟨_, _, sx.int, sy.int, hq _ _ _ hg (fun _ _ z => z) rfl⟩
  · exact hg.elim
theorem opd_B0 {f : Value → Value → Sem Value} {g : Int → Int → Bool} (h : OpR X f (rI0 fun i j => .bl (g i j))) : OpD X f (g2I0 fun i j => .bool (g i j)) := by
  refine ⟨_, h, fun M H x y d e k Q th sx sy hg hq => ?_⟩
  unfold g2I0 at hg
  split at hg
  · exact ⟨_, _, sx.int, sy.int, hq _ _ _ hg (fun _ _ z => z) rfl⟩
  · exact hg.elim
abbrev gMinus : G2 := g2I0 fun i j => .int (i - j)
abbrev gMul : G2 := g2I CMul fun i j => .int (i * j)
abbrev gMulX : G2 := g2I CMulX fun i j => .int (i * j)
abbrev gFdiv : G2 := g2I CDivW fun i j => .int (i / j)
abbrev gMod : G2 := g2I (fun _ j => 0 < j) fun i j => .int (i % j)
abbrev gPow : G2 := g2I CPow fun i j => .int (i ^ j.toNat)
abbrev gShl : G2 := g2I CShl fun i j => .int (i * 2 ^ j.toNat)
abbrev gShr : G2 := g2I (fun _ j => 0 ≤ j) fun i j => .int (i / 2 ^ j.toNat)
abbrev gAnd : G2 := g2I0 fun i j => .int (Builtin.bitAnd i j)
abbrev gOr : G2 := g2I0 fun i j => .int (Builtin.bitOr i j)
abbrev gXor : G2 := g2I0 fun i j => .int (Builtin.bitXor i j)
theorem od_sub : OpD X (binaryOp .Sub) gMinus := opd_I0 op_sub
theorem od_mul : OpD X (binaryOp .Mult) gMul := opd_I op_mul
theorem od_mulX : OpD X (binaryOp .Mult) gMulX := opd_I op_mulX
theorem od_fdiv : OpD X (binaryOp .FloorDiv) gFdiv := opd_I op_fdivW
theorem od_mod : OpD X (binaryOp .Mod) gMod := opd_I op_mod
theorem od_pow : OpD X (binaryOp .Pow) gPow := opd_I op_pow
theorem od_shl : OpD X (binaryOp .LShift) gShl := opd_I op_shlW
theorem od_shr : OpD X (binaryOp .RShift) gShr := opd_I op_shr
theorem od_and : OpD X (binaryOp .BitAnd) gAnd := opd_I0 op_and
theorem od_or : OpD X (binaryOp .BitOr) gOr := opd_I0 op_or
theorem od_xor : OpD X (binaryOp .BitXor) gXor := opd_I0 op_xor
abbrev gLt : G2 := g2I0 fun i j => .bool (decide (i < j))
abbrev gLe : G2 := g2I0 fun i j => .bool (decide (i ≤ j))
abbrev gGt : G2 := g2I0 fun i j => .bool (decide (j < i))
abbrev gGe : G2 := g2I0 fun i j => .bool (decide (j ≤ i))
theorem od_lt : OpD X (compareOp .Lt) gLt := opd_B0 op_lt
theorem od_le : OpD X (compareOp .LtE) gLe := opd_B0 op_le
theorem od_gt : OpD X (compareOp .Gt) gGt := opd_B0 op_gt
theorem od_ge : OpD X (compareOp .GtE) gGe := opd_B0 op_ge

/-! ### + -/
def gAdd : G2
  | .int i, .int j, k => k (.int (i + j))
  | .str x, .str y, k => x.length + y.length ≤ sizeLine ∧ k (.str (x ++ y))
  | .tuple xs, .tuple ys, k => xs.length + ys.length ≤ sizeLine ∧ k (.tuple (xs ++ ys))
  | _, _, _ => False
theorem od_add : OpD X (binaryOp .Add) gAdd := by
  refine ⟨_, (op_add.or op_add_str).or op_catA, fun M H x y d e k Q th sx sy hg hq => ?_⟩
  unfold gAdd at hg
  split at hg
  · exact .inl (.inl ⟨_, _, sx.int, sy.int, hq _ _ _ hg (fun _ _ z => z) rfl⟩)
  · exact .inl (.inr ⟨_, _, sx.str, sy.str, hg.1, hq _ _ _ hg.2 (fun _ _ z => z) rfl⟩)
  · rename_i xs ys
    obtain ⟨a, us, rfl, la, ra⟩ := sx
    obtain ⟨b, vs, rfl, lb, rb⟩ := sy
    refine .inr ⟨a, b, us, vs, rfl, rfl, la.sq, lb.sq, by rw [ra.len, rb.len]; exact hg.1, fun e => ?_, fun e1 e2 => ?_, fun _ _ p hp => ?_⟩
    · subst e
      have : xs = [] := by have := ra.len; cases xs with | nil => rfl | cons _ _ => simp at this
      subst this
      exact hq _ _ _ hg.2 (fun _ _ z => z) ⟨b, vs, rfl, lb, rb⟩
    · subst e2
      have : ys = [] := by have := rb.len; cases ys with | nil => rfl | cons _ _ => simp at this
      subst this
      exact hq _ _ _ hg.2 (fun _ _ z => z) (by rw [List.append_nil]; exact ⟨a, us, rfl, la, ra⟩)
    · have sm : Sm H (upd H p (.tup (us ++ vs))) := fun b o e => by rw [upd_ne (ne_of_none e hp)]; exact e
      exact hq _ _ _ hg.2 sm ⟨p, _, rfl, .inl ⟨upd_same, fun z => th p z hp⟩, (ra.app rb).mv ⟨fun _ z => .inl z, fun b o e _ => sm b o e⟩⟩
  · exact hg.elim
/-- list + list -/
def gCat : G2
  | .list xs, .list ys, k => xs.length + ys.length ≤ sizeLine ∧ k (.list (xs ++ ys))
  | _, _, _ => False
theorem mv_new {M : Ow} {H H' : Hp} {p : Addr} (hp : H p = none) (sm : Sm H H') : Mv M (fun a => M a ∨ a = p) H H' := ⟨fun a z => z.imp id fun q => by rw [q]; exact hp, fun b o e _ => sm b o e⟩
theorem sm_upd {H : Hp} {p : Addr} {o : HO} (hp : H p = none) : Sm H (upd H p o) := fun b u e => by rw [upd_ne (ne_of_none e hp)]; exact e
theorem od_cat : OpN X (binaryOp .Add) gCat := by
  refine ⟨_, op_cat, fun M H x y d e k Q th sx sy hg hq => ?_⟩
  unfold gCat at hg
  split at hg
  · obtain ⟨a, us, rfl, la, ra⟩ := sx.lst
    obtain ⟨b, vs, rfl, lb, rb⟩ := sy.lst
    refine ⟨a, b, us, vs, rfl, rfl, la, lb, by rw [ra.len, rb.len]; exact hg.1, fun p hp => ?_⟩
    exact hq _ _ _ hg.2 hp (sm_upd hp) ⟨_, upd_same, (ra.app rb).mv (mv_new hp (sm_upd hp))⟩
  · exact hg.elim
/-- + of what it may be -/
def gAddA : G2
  | .int i, .int j, k => k (.int (i + j))
  | .str x, .str y, k => x.length + y.length ≤ sizeLine ∧ k (.str (x ++ y))
  | .tuple xs, .tuple ys, k => xs.length + ys.length ≤ sizeLine ∧ k (.tuple (xs ++ ys))
  | .list xs, .list ys, k => xs.length + ys.length ≤ sizeLine ∧ k (.list (xs ++ ys))
  | _, _, _ => False
theorem od_addA : OpD X (binaryOp .Add) gAddA := by
  obtain ⟨r1, h1, k1⟩ := od_add (X := X)
  obtain ⟨r2, h2, k2⟩ := (od_cat (X := X)).d
  refine ⟨_, h1.or h2, fun M H x y d e k Q th sx sy hg hq => ?_⟩
  unfold gAddA at hg
  split at hg
  · exact .inl (k1 M H x y _ _ k Q th sx sy hg hq)
  · exact .inl (k1 M H x y _ _ k Q th sx sy hg hq)
  · exact .inl (k1 M H x y _ _ k Q th sx sy hg hq)
  · exact .inr (k2 M H x y _ _ k Q th sx sy hg hq)
  · exact hg.elim
/-- list * int -/
def gRep : G2
  | .list xs, .int j, k => (-(2 ^ 63) ≤ j ∧ j < 2 ^ 63 ∧ xs.length * j.toNat ≤ sizeLine) ∧ k (.list (List.replicate j.toNat xs).flatten)
  | _, _, _ => False
theorem RepAll.rep {K : PySem.W.Frag} {M : Ow} {H : Hp} {ds : List PyData} {xs : List V} (h : RepAll K M H ds xs) : ∀ n : Nat, RepAll K M H (List.replicate n ds).flatten (List.replicate n xs).flatten
  | 0 => rfl
  | n + 1 => by
    rw [List.replicate_succ, List.replicate_succ, List.flatten_cons, List.flatten_cons]
    exact h.app (RepAll.rep h n)
theorem od_rep : OpN X (binaryOp .Mult) gRep := by
  refine ⟨_, op_rep, fun M H x y d e k Q th sx sy hg hq => ?_⟩
  unfold gRep at hg
  split at hg
  · obtain ⟨a, us, rfl, la, ra⟩ := sx.lst
    refine ⟨a, _, us, rfl, sy.int, la, hg.1.1, hg.1.2.1, by rw [ra.len]; exact hg.1.2.2, fun p hp => ?_⟩
    exact hq _ _ _ hg.2 hp (sm_upd hp) ⟨_, upd_same, (ra.rep _).mv (mv_new hp (sm_upd hp))⟩
  · exact hg.elim

/-! ### ==, !=, is None -/
def scalD : PyData → PyData → Bool
  | .none, .none => true | .none, .int _ => true | .int _, .none => true | .none, .bool _ => true | .bool _, .none => true | .none, .str _ => true | .str _, .none => true
  | .int _, .int _ => true | .bool _, .bool _ => true | .str _, .str _ => true
  | .int _, .str _ => true | .str _, .int _ => true | .bool _, .str _ => true | .str _, .bool _ => true
  | _, _ => false
def EqOk (d e : PyData) : Prop := scalD d e = true ∨ (SeqAt.shaped d = true ∧ SeqAt.shaped e = true)
def gEq : G2 := fun d e k => EqOk d e ∧ k (.bool (PyData.eqv d e))
def gNe : G2 := fun d e k => EqOk d e ∧ k (.bool (!PyData.eqv d e))
theorem scal_eq {K : PySem.W.Frag} {M W : Ow} {H : Hp} {d e : PyData} {x y : V} (s : scalD d e = true) (sx : See K M W H d x) (sy : See K M W H e y) : scal x y = true ∧ decide (x = y) = PyData.eqv d e := by
  cases d <;> cases e <;> first
    | (cases s; done)
    | (cases (show _ = _ from sx); cases (show _ = _ from sy); refine ⟨rfl, ?_⟩; simp [PyData.eqv, Bool.beq_eq_decide_eq]; done)
    | (cases (show _ = _ from sx); cases (show _ = _ from sy); refine ⟨rfl, ?_⟩; simp only [PyData.eqv]; first | exact dec_int | exact dec_bl | exact dec_str)
theorem od_eq (hu : X.A.units + 64 < cLine) : OpD X (compareOp .Eq) gEq := by
  refine ⟨_, op_eq.or (op_eqD hu), fun M H x y d e k Q th sx sy hg hq => ?_⟩
  obtain ⟨ok, hk⟩ := hg
  rcases ok with s | ⟨s1, s2⟩
  · obtain ⟨h1, h2⟩ := scal_eq s sx sy
    exact .inl ⟨h1, hq _ _ _ hk (fun _ _ z => z) (by rw [h2]; rfl)⟩
  · exact .inr ⟨d, e, sx.dp (SeqAt.canLay_of_shaped s1), sy.dp (SeqAt.canLay_of_shaped s2), s1, s2, hq _ _ _ hk (fun _ _ z => z) rfl⟩
theorem od_ne (hu : X.A.units + 64 < cLine) : OpD X (compareOp .NotEq) gNe := by
  refine ⟨_, op_ne.or (op_neD hu), fun M H x y d e k Q th sx sy hg hq => ?_⟩
  obtain ⟨ok, hk⟩ := hg
  rcases ok with s | ⟨s1, s2⟩
  · obtain ⟨h1, h2⟩ := scal_eq s sx sy
    exact .inl ⟨h1, hq _ _ _ hk (fun _ _ z => z) (by rw [h2]; rfl)⟩
  · exact .inr ⟨d, e, sx.dp (SeqAt.canLay_of_shaped s1), sy.dp (SeqAt.canLay_of_shaped s2), s1, s2, hq _ _ _ hk (fun _ _ z => z) rfl⟩
def isNoneD : PyData → Bool
  | .none => true
  | _ => false
def gIsN : G2
  | d, .none, k => k (.bool (isNoneD d))
  | _, _, _ => False
def gNotN : G2
  | d, .none, k => k (.bool (!isNoneD d))
  | _, _, _ => False
theorem isNone_of {K : PySem.W.Frag} {M W : Ow} {H : Hp} {d : PyData} {x : V} (h : See K M W H d x) : decide (x = .non) = isNoneD d := by
  cases d with
  | none => cases (show _ = _ from h); rfl
  | bool b => cases (show _ = _ from h); rfl
  | int b => cases (show _ = _ from h); rfl
  | str b => cases (show _ = _ from h); rfl
  | list b => obtain ⟨a, xs, rfl, _⟩ := h; rfl
  | tuple b => obtain ⟨a, xs, rfl, _⟩ := h; rfl
  | dict b => obtain ⟨a, xs, rfl, _⟩ := h; rfl
theorem od_isN : OpD X (compareOp .Is) gIsN := by
  refine ⟨_, op_isN, fun M H x y d e k Q th sx sy hg hq => ?_⟩
  cases e with
  | none => exact ⟨sy, hq _ _ _ hg (fun _ _ z => z) (by rw [isNone_of sx]; rfl)⟩
  | _ => exact hg.elim
theorem od_notN : OpD X (compareOp .IsNot) gNotN := by
  refine ⟨_, op_notN, fun M H x y d e k Q th sx sy hg hq => ?_⟩
  cases e with
  | none => exact ⟨sy, hq _ _ _ hg (fun _ _ z => z) (by rw [isNone_of sx]; rfl)⟩
  | _ => exact hg.elim

/-! ### in -/
def flatD : PyData → Bool
  | .none => true | .bool _ => true | .int _ => true | .str _ => true
  | _ => false
def inD (d : PyData) (ds : List PyData) : Bool := ds.any fun z => PyData.eqv z d
def InOk (d : PyData) (ds : List PyData) : Prop := (flatD d = true ∧ ds.all flatD = true) ∨ (SeqAt.shaped d = true ∧ SeqAt.shaped (.list ds) = true)
def gInB (neg : Bool) : G2
  | d, .list ds, k => InOk d ds ∧ k (.bool (if neg then !inD d ds else inD d ds))
  | d, .tuple ds, k => (flatD d = true ∧ ds.all flatD = true) ∧ k (.bool (if neg then !inD d ds else inD d ds))
  | .str x, .str y, k => k (.bool (if neg then !(!(Builtin.Str.occurrences y x 0 y.length 1).isEmpty) else !(Builtin.Str.occurrences y x 0 y.length 1).isEmpty))
  | _, _, _ => False
theorem flat_of {K : PySem.W.Frag} {M W : Ow} {H : Hp} {d : PyData} {x : V} (h : See K M W H d x) (f : flatD d = true) : flatV x = true := by
  cases d <;> first
    | (cases (show _ = _ from h); rfl)
    | cases f
theorem eqV_of {K : PySem.W.Frag} {M M' W W' : Ow} {H : Hp} {d e : PyData} {x y : V} (h : See K M W H d x) (h' : See K M' W' H e y) (f : flatD d = true) (f' : flatD e = true) : eqV x y = PyData.eqv d e := by
  cases d <;> cases e <;> first
    | (cases f; done)
    | (cases f'; done)
    | (cases (show _ = _ from h); cases (show _ = _ from h'); simp [eqV, PyData.eqv]; done)
    | (cases (show _ = _ from h); cases (show _ = _ from h'); rfl)
theorem any_of {K : PySem.W.Frag} {M W : Ow} {H : Hp} {d : PyData} {x : V} (h : See K M W H d x) (f : flatD d = true) : ∀ {ds : List PyData} {xs : List V}, RepAll K M H ds xs → ds.all flatD = true → xs.all flatV = true ∧ inV x xs = inD d ds
  | [], _, r, _ => by cases r; exact ⟨rfl, rfl⟩
  | e :: ds, xs, r, fa => by
    obtain ⟨v, vs, rfl, h1, h2⟩ := r
    rw [List.all_cons, Bool.and_eq_true] at fa
    have s1 : See K M No H e v := h1.see fun _ z => z.elim
    obtain ⟨a, b⟩ := any_of h f h2 fa.2
    refine ⟨by rw [List.all_cons, flat_of s1 fa.1, a]; rfl, ?_⟩
    unfold inV inD at b ⊢
    rw [List.any_cons, List.any_cons, b, eqV_of s1 h fa.1 f]
theorem od_in (hu : X.A.units + 65 < cLine) : OpD X (compareOp .In) (gInB false) := by
  refine ⟨_, (op_in_seq.or (op_inD hu)).or op_in_str, fun M H x y d e k Q th sx sy hg hq => ?_⟩
  unfold gInB at hg
  split at hg
  · obtain ⟨ok, hk⟩ := hg
    rcases ok with ⟨f1, f2⟩ | ⟨s1, s2⟩
    · obtain ⟨b, vs, rfl, lb, rb⟩ := sy.lst
      obtain ⟨h1, h2⟩ := any_of sx f1 rb f2
      exact .inl (.inl ⟨b, vs, rfl, .inl (.of lb), flat_of sx f1, h1, hq _ _ _ hk (fun _ _ z => z) (by rw [h2]; rfl)⟩)
    · exact .inl (.inr ⟨_, _, sx.dp (SeqAt.canLay_of_shaped s1), sy.dp (SeqAt.canLay_of_shaped s2), s1, s2, hq _ _ _ hk (fun _ _ z => z) rfl⟩)
  · obtain ⟨⟨f1, f2⟩, hk⟩ := hg
    obtain ⟨b, vs, rfl, lb, rb⟩ := sy.tup
    obtain ⟨h1, h2⟩ := any_of sx f1 rb f2
    exact .inl (.inl ⟨b, vs, rfl, .inr lb, flat_of sx f1, h1, hq _ _ _ hk (fun _ _ z => z) (by rw [h2]; rfl)⟩)
  · exact .inr ⟨_, _, sx.str, sy.str, hq _ _ _ hg (fun _ _ z => z) rfl⟩
  · exact hg.elim
theorem od_nin (hu : X.A.units + 65 < cLine) : OpD X (compareOp .NotIn) (gInB true) := by
  refine ⟨_, (op_notIn_seq.or (op_notInD hu)).or L2.op_notIn_str, fun M H x y d e k Q th sx sy hg hq => ?_⟩
  unfold gInB at hg
  split at hg
  · obtain ⟨ok, hk⟩ := hg
    rcases ok with ⟨f1, f2⟩ | ⟨s1, s2⟩
    · obtain ⟨b, vs, rfl, lb, rb⟩ := sy.lst
      obtain ⟨h1, h2⟩ := any_of sx f1 rb f2
      exact .inl (.inl ⟨b, vs, rfl, .inl (.of lb), flat_of sx f1, h1, hq _ _ _ hk (fun _ _ z => z) (by rw [h2]; rfl)⟩)
    · exact .inl (.inr ⟨_, _, sx.dp (SeqAt.canLay_of_shaped s1), sy.dp (SeqAt.canLay_of_shaped s2), s1, s2, hq _ _ _ hk (fun _ _ z => z) rfl⟩)
  · obtain ⟨⟨f1, f2⟩, hk⟩ := hg
    obtain ⟨b, vs, rfl, lb, rb⟩ := sy.tup
    obtain ⟨h1, h2⟩ := any_of sx f1 rb f2
    exact .inl (.inl ⟨b, vs, rfl, .inr lb, flat_of sx f1, h1, hq _ _ _ hk (fun _ _ z => z) (by rw [h2]; rfl)⟩)
  · exact .inr ⟨_, _, sx.str, sy.str, hq _ _ _ hg (fun _ _ z => z) rfl⟩
  · exact hg.elim
end
end LB

/-! LB, part 5: calls of built-ins, subscripts, slices, methods by value. -/
namespace LB
open PySem PySem.Spec PyProof.Rows L2
abbrev GL := List PyData → (PyData → Prop) → Prop
section
variable {X : Cx} {E : EK}
def CallD (X : Cx) (f : Value) (g : GL) : Prop := ∃ r, CallR X f r ∧ ∀ (M : Ow) (H : Hp) (xs : List V) (ds : List PyData) (k : PyData → Prop) (Q : VK), Thr M H → SeeA X.K M H xs ds → g ds k →
  (∀ v H' z, k z → Sm H H' → Rep X.K M H' z v → Q v H') → r xs H Q
def CallN (X : Cx) (f : Value) (g : GL) : Prop := ∃ r, CallR X f r ∧ ∀ (M : Ow) (H : Hp) (xs : List V) (ds : List PyData) (k : PyData → Prop) (Q : VK), Thr M H → SeeA X.K M H xs ds → g ds k →
  (∀ p H' z, k z → H p = none → Sm H H' → At X.K (fun a => M a ∨ a = p) H' p z → Q (.ref p) H') → r xs H Q
def wCB (g : GL) (u : WA) : WE := fun kx ρ k => u kx ρ fun rs ρ1 => ∃ ds, getA rs ρ1 = some ds ∧ g ds fun z => k (.val z) ρ1
def wCBN (g : GL) (u : WA) : WN := fun kx ρ k => u kx ρ fun rs ρ1 => ∃ ds, getA rs ρ1 = some ds ∧ g ds fun z => k z ρ1
theorem cb_run {r : List V → Hp → VK → Prop} {g : GL} {es : List Expr} {u : WA} (ha : BA X E es u)
    (h2 : ∀ (M : Ow) (H : Hp) (xs : List V) (ds : List PyData) (k : PyData → Prop) (Q : VK), Thr M H → SeeA X.K M H xs ds → g ds k → (∀ v H' z, k z → Sm H H' → Rep X.K M H' z v → Q v H') → r xs H Q)
    {σ : L2.St} {H : Hp} {Q : VK} (h : lE X E (wCB g u) σ H Q) : tCB r (lA X E u) σ H Q := by
  obtain ⟨c, ρ, k, kx, gd, hw, hk, hx⟩ := h
  refine ⟨c, ρ, _, kx, gd, hw, fun rs ρ1 vs H1 k1 g1 e1 p1 => ?_, hx⟩
  obtain ⟨ds, hd, hg⟩ := k1
  refine h2 (Mof c ρ1) H1 vs ds _ _ (fun a z => g1.mth z) (getA_see g1 p1 hd) hg fun v H' z kz sm rp => ?_
  exact hk _ _ _ _ kz (g1.same sm) (e1.trans (.same sm)) rp
theorem cbn_run {r : List V → Hp → VK → Prop} {g : GL} {es : List Expr} {u : WA} (ha : BA X E es u)
    (h2 : ∀ (M : Ow) (H : Hp) (xs : List V) (ds : List PyData) (k : PyData → Prop) (Q : VK), Thr M H → SeeA X.K M H xs ds → g ds k → (∀ p H' z, k z → H p = none → Sm H H' → At X.K (fun a => M a ∨ a = p) H' p z → Q (.ref p) H') → r xs H Q)
    {σ : L2.St} {H : Hp} {Q : VK} (h : lN X E (wCBN g u) σ H Q) : tCB r (lA X E u) σ H Q := by
  obtain ⟨c, ρ, k, kx, gd, hw, hk, hx⟩ := h
  refine ⟨c, ρ, _, kx, gd, hw, fun rs ρ1 vs H1 k1 g1 e1 p1 => ?_, hx⟩
  obtain ⟨ds, hd, hg⟩ := k1
  refine h2 (Mof c ρ1) H1 vs ds _ _ (fun a z => g1.mth z) (getA_see g1 p1 hd) hg fun p H' z kz hp sm ha => ?_
  exact hk _ _ _ _ kz (g1.more hp sm ha.some) (e1.trans (.same sm)) (e1.there p hp) (g1.noio hp) (At.mv (Mv.sub fun a w => by
    rcases w with (w | w) | w
    · exact .inl (.inl w)
    · exact .inr w
    · exact .inl (.inr w)) (fun _ w => w) ha)
variable {x : Str} {p pos : Pos} {e : Expr} {es : List Expr} {u : WA} {T id : String}
theorem be_callB {g : GL} (hc : CallD X (.builtin id) g) (hg : Gl X x) (hm : X.mg x = none) (hv : bootBuiltins x = some (.builtin id)) (ha : BA X E (e :: es) u) (hn : x ≠ "__name__" := by decide) (hdb : (x == ("__debug__" : Str)) = false := by decide)
    (he : starEach (e :: es) X.env = (false, eval e X.env) :: starEach es X.env := by rfl) (hpl : (backTo pos (starEach es X.env)).any (·.1) = false := by rfl) : BE X E (.Call (.Name x p) (e :: es) [] pos) (wCB g u) := by
  obtain ⟨r, h1, h2⟩ := hc
  exact ⟨peI (pe_callB h1 hg hm hv ha.pa hn hdb he hpl) fun σ H Q h => cb_run ha h2 h⟩
theorem be_callTy {g : GL} (hc : CallD X (.type T) g) (hg : Gl X x) (hm : X.mg x = none) (hv : bootBuiltins x = some (.type T)) (ha : BA X E (e :: es) u) (hn : x ≠ "__name__" := by decide) (hdb : (x == ("__debug__" : Str)) = false := by decide)
    (he : starEach (e :: es) X.env = (false, eval e X.env) :: starEach es X.env := by rfl) (hpl : (backTo pos (starEach es X.env)).any (·.1) = false := by rfl) : BE X E (.Call (.Name x p) (e :: es) [] pos) (wCB g u) := by
  obtain ⟨r, h1, h2⟩ := hc
  exact ⟨peI (pe_callTy h1 hg hm hv ha.pa hn hdb he hpl) fun σ H Q h => cb_run ha h2 h⟩
theorem bn_callB {g : GL} (hc : CallN X (.builtin id) g) (hg : Gl X x) (hm : X.mg x = none) (hv : bootBuiltins x = some (.builtin id)) (ha : BA X E (e :: es) u) (hn : x ≠ "__name__" := by decide) (hdb : (x == ("__debug__" : Str)) = false := by decide)
    (he : starEach (e :: es) X.env = (false, eval e X.env) :: starEach es X.env := by rfl) (hpl : (backTo pos (starEach es X.env)).any (·.1) = false := by rfl) : BN X E (.Call (.Name x p) (e :: es) [] pos) (wCBN g u) := by
  obtain ⟨r, h1, h2⟩ := hc
  exact ⟨peI (pe_callB h1 hg hm hv ha.pa hn hdb he hpl) fun σ H Q h => cbn_run ha h2 h⟩
theorem bn_callTy {g : GL} (hc : CallN X (.type T) g) (hg : Gl X x) (hm : X.mg x = none) (hv : bootBuiltins x = some (.type T)) (ha : BA X E (e :: es) u) (hn : x ≠ "__name__" := by decide) (hdb : (x == ("__debug__" : Str)) = false := by decide)
    (he : starEach (e :: es) X.env = (false, eval e X.env) :: starEach es X.env := by rfl) (hpl : (backTo pos (starEach es X.env)).any (·.1) = false := by rfl) : BN X E (.Call (.Name x p) (e :: es) [] pos) (wCBN g u) := by
  obtain ⟨r, h1, h2⟩ := hc
  exact ⟨peI (pe_callTy h1 hg hm hv ha.pa hn hdb he hpl) fun σ H Q h => cbn_run ha h2 h⟩

/-! ### the built-ins -/
theorem see1 {K : PySem.W.Frag} {M : Ow} {H : Hp} {xs : List V} {d : PyData} (h : SeeA K M H xs [d]) : ∃ v, xs = [v] ∧ See K M No H d v := by
  cases h with | cons a b => cases b; exact ⟨_, rfl, a⟩
theorem see2 {K : PySem.W.Frag} {M : Ow} {H : Hp} {xs : List V} {d e : PyData} (h : SeeA K M H xs [d, e]) : ∃ v w, xs = [v, w] ∧ See K M No H d v ∧ See K M No H e w := by
  cases h with | cons a b => cases b with | cons b c => cases c; exact ⟨_, _, rfl, a, b⟩
def gLen : GL
  | [.list ds], k => k (.int ds.length)
  | [.tuple ds], k => k (.int ds.length)
  | [.str x], k => x.length ≤ sizeLine ∧ k (.int x.length)
  | _, _ => False
theorem cd_len : CallD X (.builtin "len") gLen := by
  refine ⟨_, call_len_seq.or call_len_str, fun M H xs ds k Q th sa hg hq => ?_⟩
  unfold gLen at hg
  split at hg
  · obtain ⟨v, rfl, s⟩ := see1 sa
    obtain ⟨a, us, rfl, l, r⟩ := s.lst
    exact .inl ⟨a, us, rfl, .inl (.of l), hq _ _ _ hg (fun _ _ z => z) (by rw [r.len]; rfl)⟩
  · obtain ⟨v, rfl, s⟩ := see1 sa
    obtain ⟨a, us, rfl, l, r⟩ := s.tup
    exact .inl ⟨a, us, rfl, .inr l, hq _ _ _ hg (fun _ _ z => z) (by rw [r.len]; rfl)⟩
  · obtain ⟨v, rfl, s⟩ := see1 sa
    exact .inr ⟨_, by rw [s.str], hg.1, hq _ _ _ hg.2 (fun _ _ z => z) rfl⟩
  · exact hg.elim
def gInt : GL
  | [.int i], k => k (.int i)
  | [.bool b], k => k (.int (if b then 1 else 0))
  | _, _ => False
theorem cd_int : CallD X (.type "int") gInt := by
  refine ⟨_, call_int1, fun M H xs ds k Q th sa hg hq => ?_⟩
  unfold gInt at hg
  split at hg
  · obtain ⟨v, rfl, s⟩ := see1 sa
    exact .inl ⟨_, by rw [s.int], hq _ _ _ hg (fun _ _ z => z) rfl⟩
  · obtain ⟨v, rfl, s⟩ := see1 sa
    exact .inr ⟨_, by rw [s.bl], hq _ _ _ hg (fun _ _ z => z) rfl⟩
  · exact hg.elim
def gAbs : GL
  | [.int i], k => k (.int (if i < 0 then -i else i))
  | _, _ => False
theorem cd_abs : CallD X (.builtin "abs") gAbs := by
  refine ⟨_, call_abs, fun M H xs ds k Q th sa hg hq => ?_⟩
  unfold gAbs at hg
  split at hg
  · obtain ⟨v, rfl, s⟩ := see1 sa
    exact ⟨_, by rw [s.int], hq _ _ _ hg (fun _ _ z => z) rfl⟩
  · exact hg.elim
def gMax2 : GL
  | [.int i, .int j], k => k (.int (if j > i then j else i))
  | _, _ => False
def gMin2 : GL
  | [.int i, .int j], k => k (.int (if j < i then j else i))
  | _, _ => False
theorem cd_max2 (hc : X.calm = true) : CallD X (.builtin "max") gMax2 := by
  refine ⟨_, call_max2 hc, fun M H xs ds k Q th sa hg hq => ?_⟩
  unfold gMax2 at hg
  split at hg
  · obtain ⟨v, w, rfl, s, t⟩ := see2 sa
    exact ⟨_, _, by rw [s.int, t.int], hq _ _ _ hg (fun _ _ z => z) rfl⟩
  · exact hg.elim
theorem cd_min2 (hc : X.calm = true) : CallD X (.builtin "min") gMin2 := by
  refine ⟨_, call_min2 hc, fun M H xs ds k Q th sa hg hq => ?_⟩
  unfold gMin2 at hg
  split at hg
  · obtain ⟨v, w, rfl, s, t⟩ := see2 sa
    exact ⟨_, _, by rw [s.int, t.int], hq _ _ _ hg (fun _ _ z => z) rfl⟩
  · exact hg.elim
def gTuple : GL
  | [.list ds], k => k (.tuple ds)
  | [.tuple ds], k => k (.tuple ds)
  | _, _ => False
theorem cd_tuple : CallD X (.type "tuple") gTuple := by
  refine ⟨_, call_tuple_of, fun M H xs ds k Q th sa hg hq => ?_⟩
  unfold gTuple at hg
  split at hg
  · obtain ⟨v, rfl, s⟩ := see1 sa
    obtain ⟨a, us, rfl, l, r⟩ := s.lst
    exact ⟨a, us, rfl, .inl ⟨.of l, fun p hp => hq _ _ _ hg (sm_upd hp) ⟨p, us, rfl, .inl ⟨upd_same, fun z => th p z hp⟩, r.mv ⟨fun _ z => .inl z, fun b o e _ => sm_upd hp b o e⟩⟩⟩⟩
  · obtain ⟨v, rfl, s⟩ := see1 sa
    obtain ⟨a, us, rfl, l, r⟩ := id s
    exact ⟨a, us, rfl, .inr ⟨l.sq, hq _ _ _ hg (fun _ _ z => z) s⟩⟩
  · exact hg.elim
def gList : GL
  | [.list ds], k => k (.list ds)
  | [.tuple ds], k => k (.list ds)
  | _, _ => False
theorem cn_list : CallN X (.type "list") gList := by
  refine ⟨_, call_list_of, fun M H xs ds k Q th sa hg hq => ?_⟩
  unfold gList at hg
  split at hg
  · obtain ⟨v, rfl, s⟩ := see1 sa
    obtain ⟨a, us, rfl, l, r⟩ := s.lst
    exact ⟨a, us, rfl, .inl (.of l), fun p hp => hq _ _ _ hg hp (sm_upd hp) ⟨us, upd_same, r.mv (mv_new hp (sm_upd hp))⟩⟩
  · obtain ⟨v, rfl, s⟩ := see1 sa
    obtain ⟨a, us, rfl, l, r⟩ := s.tup
    exact ⟨a, us, rfl, .inr l, fun p hp => hq _ _ _ hg hp (sm_upd hp) ⟨us, upd_same, r.mv (mv_new hp (sm_upd hp))⟩⟩
  · exact hg.elim
/-- sum of a list of ints -/
def gSum : GL := fun ds k => ∃ ns : List Int, ds = [.list (ns.map .int)] ∧ k (.int ns.sum)
theorem cd_sum (hc : X.calm = true) : CallD X (.builtin "sum") gSum := by
  refine ⟨_, cr_sum hc, fun M H xs ds k Q th sa hg hq => ?_⟩
  obtain ⟨ns, rfl, hk⟩ := hg
  obtain ⟨v, rfl, s⟩ := see1 sa
  obtain ⟨a, us, rfl, l, r⟩ := s.lst
  rw [r.intsV] at l
  exact ⟨a, ns, rfl, .of l, hq _ _ _ hk (fun _ _ z => z) rfl⟩
def gMaxL : GL := fun ds k => ∃ ns : List Int, ds = [.list (ns.map .int)] ∧ 0 < ns.length ∧ ∀ m, m ∈ ns → (∀ y, y ∈ ns → y ≤ m) → k (.int m)
def gMinL : GL := fun ds k => ∃ ns : List Int, ds = [.list (ns.map .int)] ∧ 0 < ns.length ∧ ∀ m, m ∈ ns → (∀ y, y ∈ ns → m ≤ y) → k (.int m)
theorem cd_maxL (hc : X.calm = true) : CallD X (.builtin "max") gMaxL := by
  refine ⟨_, cr_max hc, fun M H xs ds k Q th sa hg hq => ?_⟩
  obtain ⟨ns, rfl, h0, hk⟩ := hg
  obtain ⟨v, rfl, s⟩ := see1 sa
  obtain ⟨a, us, rfl, l, r⟩ := s.lst
  rw [r.intsV] at l
  exact ⟨a, ns, rfl, .of l, h0, fun m h1 h2 => hq _ _ _ (hk m h1 h2) (fun _ _ z => z) rfl⟩
theorem cd_minL (hc : X.calm = true) : CallD X (.builtin "min") gMinL := by
  refine ⟨_, cr_min hc, fun M H xs ds k Q th sa hg hq => ?_⟩
  obtain ⟨ns, rfl, h0, hk⟩ := hg
  obtain ⟨v, rfl, s⟩ := see1 sa
  obtain ⟨a, us, rfl, l, r⟩ := s.lst
  rw [r.intsV] at l
  exact ⟨a, ns, rfl, .of l, h0, fun m h1 h2 => hq _ _ _ (hk m h1 h2) (fun _ _ z => z) rfl⟩
def gStr : GL
  | [.int i], k => i.natAbs.log2 < 1920 ∧ k (.str (toString i))
  | _, _ => False
theorem cd_str : CallD X (.type "str") gStr := by
  refine ⟨_, call_str_int, fun M H xs ds k Q th sa hg hq => ?_⟩
  unfold gStr at hg
  split at hg
  · obtain ⟨v, rfl, s⟩ := see1 sa
    exact ⟨_, by rw [s.int], hg.1, hq _ _ _ hg.2 (fun _ _ z => z) rfl⟩
  · exact hg.elim

/-! ### isinstance with a built-in type -/
def tyD : PyData → String
  | .none => "NoneType" | .bool _ => "bool" | .int _ => "int" | .str _ => "str" | .list _ => "list" | .tuple _ => "tuple" | .dict _ => "dict"
def isIntD : PyData → Bool
  | .int _ => true | .bool _ => true | _ => false
def isBoolD : PyData → Bool
  | .bool _ => true | _ => false
def isStrD : PyData → Bool
  | .str _ => true | _ => false
def isTupD : PyData → Bool
  | .tuple _ => true | _ => false
def isLstD : PyData → Bool
  | .list _ => true | _ => false
def isDctD : PyData → Bool
  | .dict _ => true | _ => false
theorem tyx_of {K : PySem.W.Frag} {M W : Ow} {H : Hp} {d : PyData} {x : V} (h : See K M W H d x) : TyX K H x (.type (tyD d)) := by
  cases d with
  | none => cases (show _ = _ from h); exact .base .non
  | bool b => cases (show _ = _ from h); exact .base (.bl b)
  | int i => cases (show _ = _ from h); exact .base (.int i)
  | str i => cases (show _ = _ from h); exact .base (.str i)
  | list ds => obtain ⟨a, xs, rfl, l, _⟩ := h; exact .base (.lst l.1)
  | tuple ds =>
    obtain ⟨a, xs, rfl, l, _⟩ := h
    rcases l with l | ⟨o, its, n, h1, h2, _⟩
    · exact .base (.tup l.1)
    · exact .kTuple h1 h2
  | dict ds => obtain ⟨a, xs, rfl, l, _⟩ := h; exact .base (.dK l.1)
def IsT (T : String) (f : PyData → Bool) : Prop := ∀ d : PyData, kitB (tyD d) T = some (f d)
theorem isT_int : IsT "int" isIntD := fun d => by
  cases d with
  | none => exact (by decide +kernel : kitB "NoneType" "int" = some false)
  | bool _ => exact (by decide +kernel : kitB "bool" "int" = some true)
  | int _ => exact (by decide +kernel : kitB "int" "int" = some true)
  | str _ => exact (by decide +kernel : kitB "str" "int" = some false)
  | list _ => exact (by decide +kernel : kitB "list" "int" = some false)
  | tuple _ => exact (by decide +kernel : kitB "tuple" "int" = some false)
  | dict _ => exact (by decide +kernel : kitB "dict" "int" = some false)
theorem isT_bool : IsT "bool" isBoolD := fun d => by
  cases d with
  | none => exact (by decide +kernel : kitB "NoneType" "bool" = some false)
  | bool _ => exact (by decide +kernel : kitB "bool" "bool" = some true)
  | int _ => exact (by decide +kernel : kitB "int" "bool" = some false)
  | str _ => exact (by decide +kernel : kitB "str" "bool" = some false)
  | list _ => exact (by decide +kernel : kitB "list" "bool" = some false)
  | tuple _ => exact (by decide +kernel : kitB "tuple" "bool" = some false)
  | dict _ => exact (by decide +kernel : kitB "dict" "bool" = some false)
theorem isT_str : IsT "str" isStrD := fun d => by
  cases d with
  | none => exact (by decide +kernel : kitB "NoneType" "str" = some false)
  | bool _ => exact (by decide +kernel : kitB "bool" "str" = some false)
  | int _ => exact (by decide +kernel : kitB "int" "str" = some false)
  | str _ => exact (by decide +kernel : kitB "str" "str" = some true)
  | list _ => exact (by decide +kernel : kitB "list" "str" = some false)
  | tuple _ => exact (by decide +kernel : kitB "tuple" "str" = some false)
  | dict _ => exact (by decide +kernel : kitB "dict" "str" = some false)
theorem isT_tuple : IsT "tuple" isTupD := fun d => by
  cases d with
  | none => exact (by decide +kernel : kitB "NoneType" "tuple" = some false)
  | bool _ => exact (by decide +kernel : kitB "bool" "tuple" = some false)
  | int _ => exact (by decide +kernel : kitB "int" "tuple" = some false)
  | str _ => exact (by decide +kernel : kitB "str" "tuple" = some false)
  | list _ => exact (by decide +kernel : kitB "list" "tuple" = some false)
  | tuple _ => exact (by decide +kernel : kitB "tuple" "tuple" = some true)
  | dict _ => exact (by decide +kernel : kitB "dict" "tuple" = some false)
theorem isT_list : IsT "list" isLstD := fun d => by
  cases d with
  | none => exact (by decide +kernel : kitB "NoneType" "list" = some false)
  | bool _ => exact (by decide +kernel : kitB "bool" "list" = some false)
  | int _ => exact (by decide +kernel : kitB "int" "list" = some false)
  | str _ => exact (by decide +kernel : kitB "str" "list" = some false)
  | list _ => exact (by decide +kernel : kitB "list" "list" = some true)
  | tuple _ => exact (by decide +kernel : kitB "tuple" "list" = some false)
  | dict _ => exact (by decide +kernel : kitB "dict" "list" = some false)
theorem isT_dict : IsT "dict" isDctD := fun d => by
  cases d with
  | none => exact (by decide +kernel : kitB "NoneType" "dict" = some false)
  | bool _ => exact (by decide +kernel : kitB "bool" "dict" = some false)
  | int _ => exact (by decide +kernel : kitB "int" "dict" = some false)
  | str _ => exact (by decide +kernel : kitB "str" "dict" = some false)
  | list _ => exact (by decide +kernel : kitB "list" "dict" = some false)
  | tuple _ => exact (by decide +kernel : kitB "tuple" "dict" = some false)
  | dict _ => exact (by decide +kernel : kitB "dict" "dict" = some true)
def wIsi (f : PyData → Bool) (w : WE) : WE := fun kx ρ k => w kx ρ fun r ρ1 => ∃ d, r.get ρ1 = some d ∧ k (.val (.bool (f d))) ρ1
theorem be_isi {T : String} {f : PyData → Bool} {e2 : Expr} {w : WE} (hT : IsT T f) (hg : Gl X "isinstance") (hm : X.mg "isinstance" = none) (ha : BE X E e w) (hb : PE X e2 (tC (.ty T)))
    (he : starEach [e, e2] X.env = (false, eval e X.env) :: starEach [e2] X.env := by rfl) (he2 : starEach [e2] X.env = (false, eval e2 X.env) :: starEach [] X.env := by rfl) (hpl : (backTo pos (starEach [e2] X.env)).any (·.1) = false := by rfl) :
    BE X E (.Call (.Name "isinstance" p) [e, e2] [] pos) (wIsi f w) := by
  refine ⟨peI (pe_callB call_isi hg hm boot_isinstance (pa_cons ha.pe (pa_cons hb pa_nil he2) he) (by decide) (by decide) he hpl) fun σ H Q ⟨c, ρ, k, kx, gd, hw, hk, hx⟩ => ?_⟩
  refine ⟨c, ρ, _, kx, gd, hw, fun r ρ1 v H1 k1 g1 e1 p1 => ?_, hx⟩
  obtain ⟨d, hd, hk1⟩ := k1
  exact ⟨v, .ty T, _, .type T, f d, rfl, .ty T, tyx_of (p1.see g1 hd), kit_ty (hT d), hk _ _ _ _ hk1 g1 e1 rfl⟩

/-! ### subscripts -/
theorem atI_rep {K : PySem.W.Frag} {M : Ow} {H : Hp} {ds : List PyData} {xs : List V} {i : Int} {d : PyData} (r : RepAll K M H ds xs) (h : atI ds i = some d) : ∃ v, atI xs i = some v ∧ Rep K M H d v := by
  unfold atI at h ⊢
  rw [r.len]
  cases e : ixN ds.length i with
  | none => rw [e] at h; cases h
  | some j => rw [e] at h; exact r.get h
def gIx : G2
  | .list ds, .int i, k => ∃ d, atI ds i = some d ∧ k d
  | .tuple ds, .int i, k => ∃ d, atI ds i = some d ∧ k d
  | .str z, .int i, k => ∃ c, z.length ≤ sizeLine ∧ atI z.cps.toList i = some c ∧ k (.str ⟨#[c]⟩)
  | _, _, _ => False
def IxD (X : Cx) (g : G2) : Prop :=
  ∃ r : R2, IxR X r ∧ ∀ (M : Ow) (H : Hp) (x y : V) (d e : PyData) (k : PyData → Prop) (Q : VK), Thr M H → See X.K M No H d x → See X.K M No H e y → g d e k →
    (∀ v H' z, k z → Sm H H' → Rep X.K M H' z v → Q v H') → r x y H Q
theorem ixd : IxD X gIx := by
  refine ⟨_, ix_seq, fun M H x y d e k Q th sx sy hg hq => ?_⟩
  unfold gIx at hg
  split at hg
  · obtain ⟨d, hd, hk⟩ := hg
    obtain ⟨a, us, rfl, l, r⟩ := sx.lst
    obtain ⟨v, h1, h2⟩ := atI_rep r hd
    exact .inl ⟨a, us, _, v, rfl, sy.int, .of l, h1, hq _ _ _ hk (fun _ _ z => z) h2⟩
  · obtain ⟨d, hd, hk⟩ := hg
    obtain ⟨a, us, rfl, l, r⟩ := sx.tup
    obtain ⟨v, h1, h2⟩ := atI_rep r hd
    exact .inr (.inl ⟨a, us, _, v, rfl, sy.int, l, h1, hq _ _ _ hk (fun _ _ z => z) h2⟩)
  · obtain ⟨c, h1, h2, hk⟩ := hg
    exact .inr (.inr ⟨_, _, c, sx.str, sy.int, h1, h2, hq _ _ _ hk (fun _ _ z => z) rfl⟩)
  · exact hg.elim
variable {a b : Expr} {wa wb : WE}
theorem be_ix (ha : BE X E a wa) (hb : BE X E b wb) (hs : PlainIx b := by exact fun _ _ => rfl) : BE X E (.Subscript a b pos) (wOp gIx wa wb) := by
  obtain ⟨r, h1, h2⟩ := ixd (X := X)
  exact ⟨peI (pe_ix h1 ha.pe hb.pe hs) fun σ H Q ⟨c, ρ, k, kx, gd, hw, hk, hx⟩ => bin_run ha hb h2 gd hw (fun z ρ' v H' a b c d => hk _ _ _ _ a b c d) hx⟩

/-! ### slices -/
abbrev WO := KX → List En → (Option Int → List En → Prop) → Prop
def lO (X : Cx) (E : EK) (w : WO) : TO := fun σ H Q => ∃ c ρ k kx, Gd X.K c σ H ρ ∧ w kx ρ k ∧ (∀ o ρ' H', k o ρ' → Gd X.K c σ H' ρ' → Ev c ρ H ρ' H' → Q o H') ∧ ExOk X.K E c σ ρ H kx
structure BO (X : Cx) (E : EK) (e : Option Expr) (w : WO) : Prop where
  po : PO X e (lO X E w)
theorem poI {X : Cx} {e : Option Expr} {t t' : TO} (h : PO X e t) (i : ∀ σ H Q, t' σ H Q → t σ H Q) : PO X e t' := ⟨fun pins s σ H Q I q => h.run pins s σ H Q I (i σ H Q q)⟩
def wNoP : WO := fun _ ρ k => k none ρ
def wPart (w : WE) : WO := fun kx ρ k => w kx ρ fun r ρ1 => ∃ i, r.get ρ1 = some (.int i) ∧ k (some i) ρ1
theorem bo_none : BO X E none wNoP := ⟨poI po_none fun σ H Q ⟨c, ρ, k, kx, gd, hw, hk, hx⟩ => hk _ _ _ hw gd .refl⟩
theorem bo_some {w : WE} (h : BE X E e w) : BO X E (some e) (wPart w) := by
  refine ⟨poI (po_some h.pe) fun σ H Q ⟨c, ρ, k, kx, gd, hw, hk, hx⟩ => ?_⟩
  refine ⟨c, ρ, _, kx, gd, hw, fun r ρ1 v H1 k1 g1 e1 p1 => ?_, hx⟩
  obtain ⟨i, hi, hk1⟩ := k1
  exact ⟨i, (p1.see g1 hi).int, hk _ _ _ hk1 g1 e1⟩
def cutD (ds : List PyData) (lo hi : Option Int) : List PyData := (ds.drop (HT.sIx ds.length 0 lo)).take (HT.sIx ds.length ds.length hi - HT.sIx ds.length 0 lo)
theorem cut_rep {K : PySem.W.Frag} {M : Ow} {H : Hp} {ds : List PyData} {xs : List V} (r : RepAll K M H ds xs) (lo hi : Option Int) : RepAll K M H (cutD ds lo hi) (cutV xs lo hi) := by
  unfold cutD cutV
  rw [r.len]
  exact (r.drop _).take _
theorem cut_whole {α : Type} {xs : List α} {lo hi : Option Int} (h : HT.sIx xs.length 0 lo = 0 ∧ HT.sIx xs.length xs.length hi = xs.length) : (xs.drop (HT.sIx xs.length 0 lo)).take (HT.sIx xs.length xs.length hi - HT.sIx xs.length 0 lo) = xs := by
  rw [h.1, h.2]; simp
def gSl : PyData → Option Int → Option Int → (PyData → Prop) → Prop
  | .list ds, lo, hi, k => k (.list (cutD ds lo hi))
  | .tuple ds, lo, hi, k => k (.tuple (cutD ds lo hi))
  | .str z, lo, hi, k => z.length ≤ sizeLine ∧ k (.str (cutS z lo hi))
  | _, _, _, _ => False
def wSl (w : WE) (wl wh : WO) : WE := fun kx ρ k => w kx ρ fun r ρ1 => wl kx ρ1 fun lo ρ2 => wh kx ρ2 fun hi ρ3 => ∃ d, r.get ρ3 = some d ∧ gSl d lo hi fun z => k (.val z) ρ3
theorem be_slice {w : WE} {wl wh : WO} {lo hi : Option Expr} {p2 : Pos} (he : BE X E e w) (hl : BO X E lo wl) (hh : BO X E hi wh) : BE X E (.Subscript e (.Slice lo hi none p2) pos) (wSl w wl wh) := by
  refine ⟨peI (pe_slice ((sl_list.or sl_tupA).or sl_str) he.pe hl.po hh.po) fun σ H Q ⟨c, ρ, k, kx, gd, hw, hk, hx⟩ => ?_⟩
  refine ⟨c, ρ, _, kx, gd, hw, fun r ρ1 v H1 k1 g1 e1 p1 => ?_, hx⟩
  refine ⟨c, ρ1, _, kx, g1, k1, fun o ρ2 H2 k2 g2 e2 => ?_, hx.ev e1⟩
  refine ⟨c, ρ2, _, kx, g2, k2, fun o' ρ3 H3 k3 g3 e3 => ?_, hx.ev (e1.trans e2)⟩
  obtain ⟨d, hd, hg⟩ := k3
  have s := ((p1.ev g1 e2).ev g2 e3).see g3 hd
  have ee := (e1.trans e2).trans e3
  cases d with
  | list ds =>
    obtain ⟨a, us, rfl, l, r⟩ := s.lst
    exact .inl (.inl ⟨a, us, rfl, .of l, fun p hp => hk _ _ _ _ hg (g3.same (sm_upd hp)) (ee.trans (.same (sm_upd hp))) ⟨p, _, rfl, ⟨upd_same, fun z => g3.mth z hp⟩, (cut_rep r o o').mv ⟨fun _ z => .inl z, fun b u e _ => sm_upd hp b u e⟩⟩⟩)
  | tuple ds =>
    obtain ⟨a, us, rfl, l, r⟩ := id s
    refine .inl (.inr ⟨a, us, rfl, l.sq, fun hw => ?_, fun hw p hp => ?_⟩)
    · refine hk _ _ _ _ hg g3 ee ?_
      rw [r.len] at hw
      unfold cutD
      rw [cut_whole hw]
      exact ⟨a, us, rfl, l, r⟩
    · exact hk _ _ _ _ hg (g3.same (sm_upd hp)) (ee.trans (.same (sm_upd hp))) ⟨p, _, rfl, .inl ⟨upd_same, fun z => g3.mth z hp⟩, (cut_rep r o o').mv ⟨fun _ z => .inl z, fun b u e _ => sm_upd hp b u e⟩⟩
  | str z => exact .inr ⟨_, s.str, hg.1, hk _ _ _ _ hg.2 g3 ee rfl⟩
  | _ => exact hg.elim
def wSlN (w : WE) (wl wh : WO) : WN := fun kx ρ k => w kx ρ fun r ρ1 => wl kx ρ1 fun lo ρ2 => wh kx ρ2 fun hi ρ3 => ∃ ds, r.get ρ3 = some (.list ds) ∧ k (.list (cutD ds lo hi)) ρ3
theorem at_more {K : PySem.W.Frag} {c : Ct} {ρ : List En} {H : Hp} {p : Addr} {z : PyData} (h : At K (fun a => Mof c ρ a ∨ a = p) H p z) : At K (Mof (c.more p) ρ) H p z := At.mv (Mv.sub fun a w => by
    rcases w with (w | w) | w
    · exact .inl (.inl w)
    · exact .inr w
    · exact .inl (.inr w)) (fun _ w => w) h
theorem bn_slice {w : WE} {wl wh : WO} {lo hi : Option Expr} {p2 : Pos} (he : BE X E e w) (hl : BO X E lo wl) (hh : BO X E hi wh) : BN X E (.Subscript e (.Slice lo hi none p2) pos) (wSlN w wl wh) := by
  refine ⟨peI (pe_slice sl_list he.pe hl.po hh.po) fun σ H Q ⟨c, ρ, k, kx, gd, hw, hk, hx⟩ => ?_⟩
  refine ⟨c, ρ, _, kx, gd, hw, fun r ρ1 v H1 k1 g1 e1 p1 => ?_, hx⟩
  refine ⟨c, ρ1, _, kx, g1, k1, fun o ρ2 H2 k2 g2 e2 => ?_, hx.ev e1⟩
  refine ⟨c, ρ2, _, kx, g2, k2, fun o' ρ3 H3 k3 g3 e3 => ?_, hx.ev (e1.trans e2)⟩
  obtain ⟨ds, hd, hg⟩ := k3
  have s := ((p1.ev g1 e2).ev g2 e3).see g3 hd
  have ee := (e1.trans e2).trans e3
  obtain ⟨a, us, rfl, l, r⟩ := s.lst
  exact ⟨a, us, rfl, .of l, fun p hp => hk _ _ _ _ hg (g3.more hp (sm_upd hp) (by rw [upd_same]; intro z; cases z)) (ee.trans (.same (sm_upd hp))) (ee.there p hp) (g3.noio hp) (at_more ⟨_, upd_same, (cut_rep r o o').mv (mv_new hp (sm_upd hp))⟩)⟩

/-! ### methods that change nothing -/
abbrev GM := PyData → List PyData → (PyData → Prop) → Prop
def MtD (X : Cx) (id : String) (g : GM) : Prop := ∃ r, MtR X id r ∧ ∀ (M : Ow) (H : Hp) (x : V) (xs : List V) (d : PyData) (ds : List PyData) (k : PyData → Prop) (Q : VK), Thr M H → See X.K M No H d x → SeeA X.K M H xs ds → g d ds k →
  (∀ v H' z, k z → Sm H H' → Rep X.K M H' z v → Q v H') → r x xs H Q
def MtN (X : Cx) (id : String) (g : GM) : Prop := ∃ r, MtR X id r ∧ ∀ (M : Ow) (H : Hp) (x : V) (xs : List V) (d : PyData) (ds : List PyData) (k : PyData → Prop) (Q : VK), Thr M H → See X.K M No H d x → SeeA X.K M H xs ds → g d ds k →
  (∀ p H' z, k z → H p = none → Sm H H' → At X.K (fun a => M a ∨ a = p) H' p z → Q (.ref p) H') → r x xs H Q
/-- of a text or a list (a tuple's own type is not told by its place) -/
def tyOk (T : String) : PyData → Prop
  | .str _ => T = "str"
  | .list _ => T = "list"
  | .int _ => T = "int"
  | _ => False
theorem tyV_of {K : PySem.W.Frag} {M W : Ow} {H : Hp} {T : String} {d : PyData} {x : V} (t : tyOk T d) (s : See K M W H d x) : tyV K T x H := by
  cases d with
  | str z => rw [s.str]; exact t
  | int z => rw [s.int]; exact t
  | list ds => obtain ⟨a, us, rfl, l, r⟩ := s.lst; exact .inl ⟨t, us, .of l⟩
  | _ => exact t.elim
def wMt0 (T : String) (g : GM) (w : WE) : WE := fun kx ρ k => w kx ρ fun r ρ1 => ∃ d, r.get ρ1 = some d ∧ tyOk T d ∧ g d [] fun z => k (.val z) ρ1
def wMt (T : String) (g : GM) (w : WE) (u : WA) : WE := fun kx ρ k => w kx ρ fun r ρ1 => ∃ d0, r.get ρ1 = some d0 ∧ tyOk T d0 ∧ u kx ρ1 fun rs ρ2 => ∃ d ds, r.get ρ2 = some d ∧ getA rs ρ2 = some ds ∧ g d ds fun z => k (.val z) ρ2
def wMtN (T : String) (g : GM) (w : WE) (u : WA) : WN := fun kx ρ k => w kx ρ fun r ρ1 => ∃ d0, r.get ρ1 = some d0 ∧ tyOk T d0 ∧ u kx ρ1 fun rs ρ2 => ∃ d ds, r.get ρ2 = some d ∧ getA rs ρ2 = some ds ∧ g d ds fun z => k z ρ2
variable {o : Expr} {name : Str} {apos cpos : Pos} {w : WE}
theorem be_mt0 {g : GM} (pa : PlainAttrs T) (slot : Slot T name id) (hty : typeOf (.builtin id) = pure (.type "method_descriptor")) (hm : MtD X id g) (ho : BE X E o w)
    (hbase : attributeBase o name X.env (eval o X.env) = eval o X.env := by rfl) (hline : (apos.endLine == cpos.line) = true := by rfl) : BE X E (.Call (.Attribute o name apos) [] [] cpos) (wMt0 T g w) := by
  obtain ⟨r, h1, h2⟩ := hm
  refine ⟨peI (pe_bm0 pa slot hty h1 ho.pe hbase hline) fun σ H Q ⟨c, ρ, k, kx, gd, hw, hk, hx⟩ => ?_⟩
  refine ⟨c, ρ, _, kx, gd, hw, fun r ρ1 v H1 k1 g1 e1 p1 => ?_, hx⟩
  obtain ⟨d, hd, ht, hg⟩ := k1
  have s := p1.see g1 hd
  exact ⟨tyV_of ht s, h2 (Mof c ρ1) H1 v [] d [] _ _ (fun a z => g1.mth z) s .nil hg fun v H' z kz sm rp => hk _ _ _ _ kz (g1.same sm) (e1.trans (.same sm)) rp⟩
theorem be_mt {g : GM} (pa : PlainAttrs T) (slot : Slot T name id) (hty : typeOf (.builtin id) = pure (.type "method_descriptor")) (hm : MtD X id g) (ho : BE X E o w) (ha : BA X E (e :: es) u)
    (hbase : attributeBase o name X.env (eval o X.env) = eval o X.env := by rfl)
    (hfew : ((backTo cpos (starEach (e :: es) X.env)).all (fun x => !x.1) && (backToKw cpos (keywordEach [] X.env)).all (fun x => x.1.isSome)
      && decide ((e :: es).length + ([] : List Keyword).length + (if ([] : List Keyword).isEmpty then 0 else 1) < 30)) = true := by rfl)
    (hline : (apos.endLine == cpos.line) = true := by rfl) (hs : starEach (e :: es) X.env = (false, eval e X.env) :: starEach es X.env := by rfl) (hplain : (backTo cpos (starEach es X.env)).any (·.1) = false := by rfl) :
    BE X E (.Call (.Attribute o name apos) (e :: es) [] cpos) (wMt T g w u) := by
  obtain ⟨r, h1, h2⟩ := hm
  refine ⟨peI (pe_bm pa slot hty h1 ho.pe ha.pa hbase hfew hline hs hplain) fun σ H Q ⟨c, ρ, k, kx, gd, hw, hk, hx⟩ => ?_⟩
  refine ⟨c, ρ, _, kx, gd, hw, fun r ρ1 v H1 k1 g1 e1 p1 => ?_, hx⟩
  obtain ⟨d0, hd0, ht, k1⟩ := k1
  refine ⟨tyV_of ht (p1.see g1 hd0), c, ρ1, _, kx, g1, k1, fun rs ρ2 vs H2 k2 g2 e2 p2 => ?_, hx.ev e1⟩
  obtain ⟨d, ds, hd, hds, hg⟩ := k2
  exact h2 (Mof c ρ2) H2 v vs d ds _ _ (fun a z => g2.mth z) ((p1.ev g1 e2).see g2 hd) (getA_see g2 p2 hds) hg fun v H' z kz sm rp => hk _ _ _ _ kz (g2.same sm) ((e1.trans e2).trans (.same sm)) rp
theorem bn_mt {g : GM} (pa : PlainAttrs T) (slot : Slot T name id) (hty : typeOf (.builtin id) = pure (.type "method_descriptor")) (hm : MtN X id g) (ho : BE X E o w) (ha : BA X E (e :: es) u)
    (hbase : attributeBase o name X.env (eval o X.env) = eval o X.env := by rfl)
    (hfew : ((backTo cpos (starEach (e :: es) X.env)).all (fun x => !x.1) && (backToKw cpos (keywordEach [] X.env)).all (fun x => x.1.isSome)
      && decide ((e :: es).length + ([] : List Keyword).length + (if ([] : List Keyword).isEmpty then 0 else 1) < 30)) = true := by rfl)
    (hline : (apos.endLine == cpos.line) = true := by rfl) (hs : starEach (e :: es) X.env = (false, eval e X.env) :: starEach es X.env := by rfl) (hplain : (backTo cpos (starEach es X.env)).any (·.1) = false := by rfl) :
    BN X E (.Call (.Attribute o name apos) (e :: es) [] cpos) (wMtN T g w u) := by
  obtain ⟨r, h1, h2⟩ := hm
  refine ⟨peI (pe_bm pa slot hty h1 ho.pe ha.pa hbase hfew hline hs hplain) fun σ H Q ⟨c, ρ, k, kx, gd, hw, hk, hx⟩ => ?_⟩
  refine ⟨c, ρ, _, kx, gd, hw, fun r ρ1 v H1 k1 g1 e1 p1 => ?_, hx⟩
  obtain ⟨d0, hd0, ht, k1⟩ := k1
  refine ⟨tyV_of ht (p1.see g1 hd0), c, ρ1, _, kx, g1, k1, fun rs ρ2 vs H2 k2 g2 e2 p2 => ?_, hx.ev e1⟩
  obtain ⟨d, ds, hd, hds, hg⟩ := k2
  exact h2 (Mof c ρ2) H2 v vs d ds _ _ (fun a z => g2.mth z) ((p1.ev g1 e2).see g2 hd) (getA_see g2 p2 hds) hg fun p H' z kz hp sm ha =>
    hk _ _ _ _ kz (g2.more hp sm ha.some) ((e1.trans e2).trans (.same sm)) ((e1.trans e2).there p hp) (g2.noio hp) (at_more ha)
def gSplit : GM
  | .str a, [.str b], k => ((b.length == 0) = false ∧ a.length + 2 ≤ sizeLine) ∧ k (.list ((Txt.split a b).map .str))
  | _, _, _ => False
theorem mn_split : MtN X "str.split" gSplit := by
  refine ⟨_, mt_split, fun M H x xs d ds k Q th sx sa hg hq => ?_⟩
  unfold gSplit at hg
  split at hg
  · obtain ⟨v, rfl, s⟩ := see1 sa
    exact ⟨_, _, sx.str, by rw [s.str], hg.1.1, hg.1.2, fun p hp => hq _ _ _ hg.2 hp (sm_upd hp) ⟨_, upd_same, RepAll.strs _⟩⟩
  · exact hg.elim
def gJoin : GM := fun d ds k => ∃ (a : Str) (ys : List Str), d = .str a ∧ (ds = [.list (ys.map .str)] ∨ ds = [.tuple (ys.map .str)]) ∧ (ys.map (·.length)).sum + ys.length * a.length ≤ 16777216 ∧ k (.str (Txt.join a ys))
theorem md_join : MtD X "str.join" gJoin := by
  refine ⟨_, mt_join, fun M H x xs d ds k Q th sx sa hg hq => ?_⟩
  obtain ⟨a, ys, rfl, hd, hl, hk⟩ := hg
  rcases hd with rfl | rfl
  · obtain ⟨v, rfl, s⟩ := see1 sa
    obtain ⟨b, us, rfl, l, r⟩ := s.lst
    rw [r.strsV] at l
    exact ⟨a, b, ys, sx.str, rfl, .inl (.of l), hl, hq _ _ _ hk (fun _ _ z => z) rfl⟩
  · obtain ⟨v, rfl, s⟩ := see1 sa
    obtain ⟨b, us, rfl, l, r⟩ := s.tup
    rw [r.strsV] at l
    exact ⟨a, b, ys, sx.str, rfl, .inr l, hl, hq _ _ _ hk (fun _ _ z => z) rfl⟩
end
end LB

/-! LB, part 6: statements, loops by value. -/
namespace LB
open PySem PySem.Spec PyProof.Rows L2
/-- what is wanted behind a statement, by value -/
structure WD where
  nx : List En → Prop
  rt : R → List En → Prop
  rn : PyData → List En → Prop
  bk : List En → Prop
  ct : List En → Prop
  ex : KX
abbrev WS := WD → List En → Prop
structure EOk (K : PySem.W.Frag) (E : EK) (c : Ct) (ρ : List En) (H : Hp) (W : WD) (D : Ends) : Prop where
  nx : ∀ σ' ρ' H', W.nx ρ' → Gd K c σ' H' ρ' → Ev c ρ H ρ' H' → D.nx σ' H'
  rt : ∀ r σ' ρ' v H', W.rt r ρ' → Gd K c σ' H' ρ' → Ev c ρ H ρ' H' → RepR K c σ' H' ρ' v r → D.rt v H'
  rn : ∀ d σ' ρ' p H', W.rn d ρ' → Gd K (c.more p) σ' H' ρ' → Ev c ρ H ρ' H' → c.H0 p = none → ¬ c.M p → NoIo p ρ' → At K (Mof (c.more p) ρ') H' p d → D.rt (.ref p) H'
  bk : ∀ σ' ρ' H', W.bk ρ' → Gd K c σ' H' ρ' → Ev c ρ H ρ' H' → D.bk σ' H'
  ct : ∀ σ' ρ' H', W.ct ρ' → Gd K c σ' H' ρ' → Ev c ρ H ρ' H' → D.ct σ' H'
  ex : ∀ x σ' ρ' cl ad H', W.ex x ρ' → Gd K c σ' H' ρ' → Ev c ρ H ρ' H' → RepX K H' x cl ad → E σ' cl ad H'
theorem EOk.ev {K : PySem.W.Frag} {E : EK} {c : Ct} {ρ ρ1 : List En} {H H1 : Hp} {W : WD} {D : Ends} (h : EOk K E c ρ H W D) (e : Ev c ρ H ρ1 H1) : EOk K E c ρ1 H1 W D :=
  ⟨fun σ' ρ' H' a b d => h.nx σ' ρ' H' a b (e.trans d), fun r σ' ρ' v H' a b d f => h.rt r σ' ρ' v H' a b (e.trans d) f, fun z σ' ρ' p H' a b d f g i j => h.rn z σ' ρ' p H' a b (e.trans d) f g i j,
   fun σ' ρ' H' a b d => h.bk σ' ρ' H' a b (e.trans d), fun σ' ρ' H' a b d => h.ct σ' ρ' H' a b (e.trans d), fun x σ' ρ' cl ad H' a b d f => h.ex x σ' ρ' cl ad H' a b (e.trans d) f⟩
theorem EOk.exok {K : PySem.W.Frag} {E : EK} {c : Ct} {σ : L2.St} {ρ : List En} {H : Hp} {W : WD} {D : Ends} (h : EOk K E c ρ H W D) : ExOk K E c σ ρ H W.ex := fun x ρ' cl ad H' a b d f => h.ex x σ ρ' cl ad H' a b d f
def lS (X : Cx) (E : EK) (w : WS) : TS := fun D σ H => ∃ c ρ W, Gd X.K c σ H ρ ∧ w W ρ ∧ EOk X.K E c ρ H W D
structure BS (X : Cx) (E : EK) (st : Stmt) (w : WS) : Prop where
  ps : PS X st (lS X E w)
structure BSs (X : Cx) (E : EK) (sts : List Stmt) (w : WS) : Prop where
  pss : PSs X sts (lS X E w)
section
variable {X : Cx} {E : EK} {st : Stmt} {rest : List Stmt} {e : Expr} {w u : WS} {we : WE} {pos : Pos}
/-! ### blocks -/
def wNext : WS := fun W ρ => W.nx ρ
def wSeq (w u : WS) : WS := fun W ρ => w { W with nx := fun ρ' => u W ρ' } ρ
theorem bss_nil : BSs X E [] wNext := ⟨pssI pss_nil fun D σ H ⟨c, ρ, W, g, hw, h⟩ => h.nx _ _ _ hw g .refl⟩
theorem bss_cons (h1 : BS X E st w) (h2 : BSs X E rest u) : BSs X E (st :: rest) (wSeq w u) := by
  refine ⟨pssI (pss_cons h1.ps h2.pss) fun D σ H ⟨c, ρ, W, g, hw, h⟩ => ?_⟩
  exact ⟨c, ρ, { W with nx := fun ρ' => u W ρ' }, g, hw, ⟨fun σ' ρ' H' a b d => ⟨c, ρ', W, b, a, h.ev d⟩, h.rt, h.rn, h.bk, h.ct, h.ex⟩⟩
theorem bss_one (h1 : BS X E st w) : BSs X E [st] w := ⟨pss_one h1.ps⟩
theorem bs_pass : BS X E (.Pass pos) wNext := ⟨psI ps_pass fun D σ H ⟨c, ρ, W, g, hw, h⟩ => h.nx _ _ _ hw g .refl⟩
def wBreak : WS := fun W ρ => W.bk ρ
def wCont : WS := fun W ρ => W.ct ρ
theorem bs_break : BS X E (.Break pos) wBreak := ⟨psI ps_break fun D σ H ⟨c, ρ, W, g, hw, h⟩ => h.bk _ _ _ hw g .refl⟩
theorem bs_continue : BS X E (.Continue pos) wCont := ⟨psI ps_continue fun D σ H ⟨c, ρ, W, g, hw, h⟩ => h.ct _ _ _ hw g .refl⟩
def wNever : WS := fun _ _ => False
theorem bs_never : BS X E st wNever := ⟨psI ps_never fun D σ H ⟨c, ρ, W, g, hw, h⟩ => hw⟩
theorem bss_never {sts : List Stmt} : BSs X E sts wNever := ⟨pssI pss_never fun D σ H ⟨c, ρ, W, g, hw, h⟩ => hw⟩
def wExpr (we : WE) : WS := fun W ρ => we W.ex ρ fun _ ρ1 => W.nx ρ1
theorem bs_expr (he : BE X E e we) (hs : swapsWith e none pos.line X.env = pure false := by rfl) : BS X E (.Expr e pos) (wExpr we) := by
  refine ⟨psI (ps_expr he.pe hs) fun D σ H ⟨c, ρ, W, g, hw, h⟩ => ?_⟩
  exact ⟨c, ρ, _, W.ex, g, hw, fun r ρ' v H' a b d f => h.nx _ _ _ a b d, h.exok⟩
def wRet (we : WE) : WS := fun W ρ => we W.ex ρ fun r ρ1 => W.rt r ρ1
theorem bs_ret (he : BE X E e we) : BS X E (.Return (some e) pos) (wRet we) := by
  refine ⟨psI (ps_ret he.pe) fun D σ H ⟨c, ρ, W, g, hw, h⟩ => ?_⟩
  exact ⟨c, ρ, _, W.ex, g, hw, fun r ρ' v H' a b d f => h.rt _ _ _ _ _ a b d f, h.exok⟩
def wRetN : WS := fun W ρ => W.rt (.val .none) ρ
theorem bs_retN : BS X E (.Return none pos) wRetN := ⟨psI ps_retN fun D σ H ⟨c, ρ, W, g, hw, h⟩ => h.rt _ _ _ _ _ hw g .refl rfl⟩
def wRetNew (wn : WN) : WS := fun W ρ => wn W.ex ρ fun d ρ1 => W.rn d ρ1
theorem h0_none {K : PySem.W.Frag} {c : Ct} {σ : L2.St} {H : Hp} {ρ : List En} (g : Gd K c σ H ρ) {p : Addr} (hp : H p = none) : c.H0 p = none ∧ ¬ c.M p := by
  refine ⟨?_, fun z => g.th p z hp⟩
  cases q : c.H0 p with
  | none => rfl
  | some o =>
    by_cases hW : c.W p
    · exact absurd hp (g.th p (g.wm p hW))
    · have := g.fr p o q hW; rw [hp] at this; cases this
theorem bs_retNew {wn : WN} (he : BN X E e wn) : BS X E (.Return (some e) pos) (wRetNew wn) := by
  refine ⟨psI (ps_ret he.pe) fun D σ H ⟨c, ρ, W, g, hw, h⟩ => ?_⟩
  exact ⟨c, ρ, _, W.ex, g, hw, fun d ρ' p H' a b e hp ni ha => h.rn d σ ρ' p H' a b e (h0_none g hp).1 (h0_none g hp).2 ni ha, h.exok⟩
/-- return of a name that holds an own list: it is new for the caller -/
def wRetOwn (i : Nat) : WS := fun W ρ => match ρ[i]? with
  | some (.own _ d) => W.rn d (ρ.set i .no)
  | _ => False
theorem bs_retOwn {i : Nat} (h0 : PE X e (tVar i)) : BS X E (.Return (some e) pos) (wRetOwn i) := by
  refine ⟨psI (ps_ret h0) fun D σ H ⟨c, ρ, W, g, hw, h⟩ => ?_⟩
  unfold wRetOwn at hw
  split at hw
  · rename_i l d he
    obtain ⟨h1, h2, h3, h4⟩ := g.own i l d he
    refine ⟨_, h1, ?_⟩
    have hs : ∀ a, Oof (ρ.set i .no) a → Oof ρ a := oof_set fun _ _ z => by cases z
    have nol : ∀ (j : Nat) d', (ρ.set i .no)[j]? ≠ some (.own l d') := fun j d' z => by
      rcases get_set z with ⟨_, z, _⟩ | ⟨ne, z⟩
      · cases z
      · exact ne (g.uo i j l d d' he z)
    have hsub : ∀ a, Mof (c.more l) (ρ.set i .no) a → Mof c ρ a := fun a z => by
      rcases z with (z | rfl) | z
      · exact .inl z
      · exact .inr ⟨i, d, he⟩
      · exact .inr (hs a z)
    have wsub : ∀ a, Wof (c.more l) (ρ.set i .no) a → Wof c ρ a := fun a z => by
      rcases z with (z | rfl) | z
      · exact .inl z
      · exact .inr ⟨i, d, he⟩
      · exact .inr (hs a z)
    have m : Mv (Mof c ρ) (Mof (c.more l) (ρ.set i .no)) H H := Mv.sub hsub
    have mw : Mv (Wof c ρ) (Wof (c.more l) (ρ.set i .no)) H H := Mv.sub wsub
    have q : ∀ {j : Nat} {e : En}, (ρ.set i .no)[j]? = some e → e = .no ∨ ρ[j]? = some e := fun z => by
      rcases get_set z with ⟨_, z, _⟩ | ⟨_, z⟩
      · exact .inl z.symm
      · exact .inr z
    have ni : NoIo l (ρ.set i .no) := fun j d' z => by
      rcases q z with y | y
      · cases y
      · exact h3 (g.wm _ (g.io j l d' y).2.2)
    have g2 : Gd X.K (c.more l) σ H (ρ.set i .no) := by
      refine ⟨by simp [g.len], fun j e z => ?_, fun j e z => ?_, fun j a e z => ?_, fun j a e z => ?_, fun j v z => ?_, fun j k a e e' z1 z2 => ?_, fun j k a e e' z1 z2 => ?_, fun b o e n => g.fr b o e fun w => n (.inl w), fun a z => z.imp (g.wm a) id, fun a z => ?_⟩
      · rcases q z with y | y
        · cases y
        · obtain ⟨v, a, b⟩ := g.val j e y; exact ⟨v, a, b.mv m⟩
      · rcases q z with y | y
        · cases y
        · obtain ⟨v, a, b⟩ := g.rd j e y; exact ⟨v, a, b.mv m mw⟩
      · rcases q z with y | y
        · cases y
        · obtain ⟨a1, a2, a3, a4⟩ := g.own j a e y
          exact ⟨a1, a2.mv m (fun _ z => z), fun w => w.elim a3 fun q' => (by subst q'; exact nol j e z), a4⟩
      · rcases q z with y | y
        · cases y
        · obtain ⟨a1, a2, a3⟩ := g.io j a e y
          exact ⟨a1, a2.mv m (fun _ z => z), .inl a3⟩
      · rcases q z with y | y
        · cases y
        · exact g.obj j v y
      · rcases q z1 with y | y1
        · cases y
        · rcases q z2 with y | y2
          · cases y
          · exact g.uo j k a e e' y1 y2
      · rcases q z1 with y | y1
        · cases y
        · rcases q z2 with y | y2
          · cases y
          · exact g.ui j k a e e' y1 y2
      · rcases z with z | rfl
        · exact g.th a z
        · exact h2.some
    exact h.rn d σ _ l H hw g2 (.setNO rfl) h4 h3 ni (h2.mv m fun _ z => z)
  · exact hw.elim
def wIfS (t : WT) (w u : WS) : WS := fun W ρ => t W.ex ρ fun b ρ1 => if b = true then w W ρ1 else u W ρ1
theorem bs_if {c0 : Expr} {a b : List Stmt} {t : WT} (hc : BT X E c0 t) (ha : BSs X E a w) (hb : BSs X E b u) : BS X E (.If c0 a b pos) (wIfS t w u) := by
  refine ⟨psI (ps_if hc.pt ha.pss hb.pss) fun D σ H ⟨c, ρ, W, g, hw, h⟩ => ?_⟩
  refine ⟨c, ρ, _, W.ex, g, hw, fun q ρ' H' k1 g1 e1 => ?_, h.exok⟩
  cases q with
  | true => exact ⟨c, ρ', W, g1, k1, h.ev e1⟩
  | false => exact ⟨c, ρ', W, g1, k1, h.ev e1⟩

/-! ### names stored -/
def stR : R → Nat → List En → Option (List En)
  | .val d, i, ρ => some (ρ.set i (.val d))
  | .see d, i, ρ => some (ρ.set i (.rd d))
  | .at j, i, ρ => (match ρ[j]? with
    | some (.own _ d) => some ((ρ.set j (.val d)).set i (.val d))
    | _ => none)
  | .obj v, i, ρ => some (ρ.set i (.obj v))
theorem stR_ok {K : PySem.W.Frag} {c : Ct} {σ : L2.St} {H : Hp} {ρ ρ2 : List En} {v : V} {r : R} {i : Nat} (p : RepR K c σ H ρ v r) (g : Gd K c σ H ρ) (h : stR r i ρ = some ρ2) : Gd K c (σ.set i (some v)) H ρ2 ∧ Ev c ρ H ρ2 H := by
  cases r with
  | val d => cases h; exact ⟨g.setVal i p, .setNO rfl⟩
  | see d => cases h; exact ⟨g.setRd i p, .setNO rfl⟩
  | obj u => cases h; cases (show v = u from p); exact ⟨g.setObj i, .setNO rfl⟩
  | «at» j =>
    have h : (match ρ[j]? with
      | some (.own _ d) => some ((ρ.set j (.val d)).set i (.val d))
      | _ => none) = some ρ2 := h
    split at h
    · rename_i l d1 he
      cases h
      obtain ⟨l', rfl, hl⟩ := p
      have := (g.own j l _ he).1
      rw [hl] at this; cases this
      obtain ⟨g1, r1⟩ := g.freeze he
      exact ⟨g1.setVal i r1, (Ev.setNO rfl).trans (.setNO rfl)⟩
    · cases h
def wSet (i : Nat) (we : WE) : WS := fun W ρ => we W.ex ρ fun r ρ1 => ∃ ρ2, stR r i ρ1 = some ρ2 ∧ W.nx ρ2
theorem bs_set {i : Nat} (mk : ∀ {te : TE}, PE X e te → PS X st (tAsg te (gName i))) (he : BE X E e we) : BS X E st (wSet i we) := by
  refine ⟨psI (mk he.pe) fun D σ H ⟨c, ρ, W, g, hw, h⟩ => ?_⟩
  refine ⟨c, ρ, _, W.ex, g, hw, fun r ρ1 v H1 k1 g1 e1 p1 => ?_, h.exok⟩
  obtain ⟨ρ2, hs, hn⟩ := k1
  obtain ⟨g2, e2⟩ := stR_ok p1 g1 hs
  exact h.nx _ _ _ hn g2 (e1.trans e2)
def wSetN (i : Nat) (wn : WN) : WS := fun W ρ => wn W.ex ρ fun d ρ1 => ∀ p, W.nx (ρ1.set i (.own p d))
theorem bs_setN {i : Nat} {wn : WN} (mk : ∀ {te : TE}, PE X e te → PS X st (tAsg te (gName i))) (he : BN X E e wn) : BS X E st (wSetN i wn) := by
  refine ⟨psI (mk he.pe) fun D σ H ⟨c, ρ, W, g, hw, h⟩ => ?_⟩
  refine ⟨c, ρ, _, W.ex, g, hw, fun d ρ1 p H1 k1 g1 e1 hp ni ha => ?_, h.exok⟩
  refine h.nx _ _ _ (k1 p) (g1.setOwn g.wm ni i ha (h0_none g hp).2 (h0_none g hp).1) ⟨e1.kept, fun a z => ?_, e1.there⟩
  obtain ⟨j, d', z | z⟩ := z
  · rcases get_set z with ⟨_, z, _⟩ | ⟨_, z⟩
    · cases z; exact .inr hp
    · exact e1.own a ⟨j, d', .inl z⟩
  · rcases get_set z with ⟨_, z, _⟩ | ⟨_, z⟩
    · cases z
    · exact e1.own a ⟨j, d', .inr z⟩

/-! ### name op= e -/
def wAug (i : Nat) (g : G2) (we : WE) : WS := fun W ρ => ∃ d, ρ[i]? = some (.val d) ∧ we W.ex ρ fun r ρ1 => ∃ e, r.get ρ1 = some e ∧ g d e fun z => W.nx (ρ1.set i (.val z))
theorem bs_aug {i : Nat} {op : Operator} {g : G2} (ho : OpD X (inplaceOp op) g) (mk : ∀ {te : TE} {ti : TIp}, PE X e te → PIp X op ti → PS X st (tAug i te ti)) (he : BE X E e we) : BS X E st (wAug i g we) := by
  obtain ⟨r, h1, h2⟩ := ho
  refine ⟨psI (mk he.pe h1) fun D σ H ⟨c, ρ, W, gd, hw, h⟩ => ?_⟩
  obtain ⟨d, hd, hw⟩ := hw
  obtain ⟨v, hv, rv⟩ := gd.val i d hd
  refine ⟨v, hv, c, ρ, _, W.ex, gd, hw, fun r' ρ1 v1 H1 k1 g1 e1 p1 => ?_, h.exok⟩
  obtain ⟨e, hq, hg⟩ := k1
  refine h2 (Mof c ρ1) H1 v v1 d e _ _ (fun a z => g1.mth z) ((rv.mv (e1.mv gd)).see fun _ z => z.elim) (p1.see g1 hq) hg fun v2 H' z kz sm rp => ?_
  exact h.nx _ _ _ kz ((g1.same sm).setVal i rp) ((e1.trans (.same sm)).trans (.setNO rfl))
def gIAdd : G2
  | .int i, .int j, k => k (.int (i + j))
  | .str x, .str y, k => x.length + y.length ≤ sizeLine ∧ k (.str (x ++ y))
  | _, _, _ => False
theorem od_iadd : OpD X (inplaceOp .Add) gIAdd := by
  refine ⟨_, (iop_add.or iop_add_str), fun M H x y d e k Q th sx sy hg hq => ?_⟩
  unfold gIAdd at hg
  split at hg
  · exact .inl ⟨_, _, sx.int, sy.int, hq _ _ _ hg (fun _ _ z => z) rfl⟩
  · exact .inr ⟨_, _, sx.str, sy.str, hg.1, hq _ _ _ hg.2 (fun _ _ z => z) rfl⟩
  · exact hg.elim
theorem od_isub : OpD X (inplaceOp .Sub) gMinus := opd_I0 iop_sub
theorem od_imul : OpD X (inplaceOp .Mult) gMul := opd_I iop_mul

/-! ### a list of a name changed by a method -/
abbrev GW := PyData → List PyData → (PyData → PyData → Prop) → Prop
def MtW (X : Cx) (id : String) (g : GW) : Prop := ∃ r, MtR X id r ∧ ∀ (M : Ow) (H : Hp) (l : Addr) (d : PyData) (vs : List V) (ds : List PyData) (k : PyData → PyData → Prop) (Q : VK), M l → Thr M H → At X.K M H l d → RepAll X.K M H ds vs → g d ds k →
  (∀ v z d' o, k z d' → At X.K M (upd H l o) l d' → Rep X.K M (upd H l o) z v → Q v (upd H l o)) → r (.ref l) vs H Q
def wMut (i : Nat) (g : GW) (u : WA) : WE := fun kx ρ k => (∃ ds0, cont i ρ = some (.list ds0)) ∧ u kx ρ fun rs ρ1 => ∃ ds ρ2 d, fzA rs ρ1 = some (ds, ρ2) ∧ cont i ρ2 = some d ∧ g d ds fun z d' => k (.val z) (wr i d' ρ2)
def wMut0 (i : Nat) (g : GW) : WE := fun kx ρ k => ∃ ds, cont i ρ = some (.list ds) ∧ g (.list ds) [] fun z d' => k (.val z) (wr i d' ρ)
theorem cell_ref {K : PySem.W.Frag} {c : Ct} {σ : L2.St} {H : Hp} {ρ : List En} (g : Gd K c σ H ρ) {i : Nat} {d : PyData} (h : cont i ρ = some d) {l : Addr} (hl : σ[i]? = some (some (.ref l))) : At K (Mof c ρ) H l d ∧ Mof c ρ l := by
  obtain ⟨l', h1, h2, h3, _⟩ := g.cell h
  rw [hl] at h1; cases h1
  exact ⟨h2, g.wsub (g.wr_w h3)⟩
theorem mof_wr {c : Ct} {ρ : List En} {i : Nat} {d d' : PyData} (h : cont i ρ = some d) : ∀ a, Mof c ρ a → Mof c (wr i d' ρ) a := fun a z => by
  rcases z with z | ⟨j, e, z⟩
  · exact .inl z
  · rcases cont_shape h with ⟨l, q⟩ | ⟨l, q⟩
    · rw [wr_own i d' q]
      by_cases hj : i = j
      · subst hj
        rw [q] at z; cases z
        exact .inr ⟨i, d', by rw [List.getElem?_set_self (List.getElem?_eq_some_iff.mp q).1]⟩
      · exact .inr ⟨j, e, by rw [List.getElem?_set_ne hj]; exact z⟩
    · rw [wr_io i d' q]
      by_cases hj : i = j
      · subst hj
        rw [q] at z; cases z
      · exact .inr ⟨j, e, by rw [List.getElem?_set_ne hj]; exact z⟩
variable {es : List Expr} {wa : WA} {name : Str} {apos cpos : Pos} {T id : String} {o : Expr} {i : Nat} {g : GW}
theorem be_mut (pa : PlainAttrs "list") (slot : Slot "list" name id) (hty : typeOf (.builtin id) = pure (.type "method_descriptor")) (hm : MtW X id g) (ho : PE X o (tVar i)) (ha : BA X E (e :: es) wa)
    (hbase : attributeBase o name X.env (eval o X.env) = eval o X.env := by rfl)
    (hfew : ((backTo cpos (starEach (e :: es) X.env)).all (fun x => !x.1) && (backToKw cpos (keywordEach [] X.env)).all (fun x => x.1.isSome)
      && decide ((e :: es).length + ([] : List Keyword).length + (if ([] : List Keyword).isEmpty then 0 else 1) < 30)) = true := by rfl)
    (hline : (apos.endLine == cpos.line) = true := by rfl) (hs : starEach (e :: es) X.env = (false, eval e X.env) :: starEach es X.env := by rfl) (hplain : (backTo cpos (starEach es X.env)).any (·.1) = false := by rfl) :
    BE X E (.Call (.Attribute o name apos) (e :: es) [] cpos) (wMut i g wa) := by
  obtain ⟨r, h1, h2⟩ := hm
  refine ⟨peI (pe_bm pa slot hty h1 ho ha.pa hbase hfew hline hs hplain) fun σ H Q ⟨c, ρ, k, kx, gd, ⟨⟨ds0, hc0⟩, hw⟩, hk, hx⟩ => ?_⟩
  obtain ⟨l, hl, a0, w0, _⟩ := gd.cell hc0
  have ⟨xs0, q0, _⟩ := a0
  refine ⟨.ref l, hl, .inl ⟨rfl, xs0, .of q0⟩, c, ρ, _, kx, gd, hw, fun rs ρ1 vs H1 k1 g1 e1 p1 => ?_, hx⟩
  obtain ⟨ds, ρ2, d, hf, hc2, hg⟩ := k1
  obtain ⟨g2, e2, r2⟩ := fzA_rep g1 p1 hf
  obtain ⟨a2, m2⟩ := cell_ref g2 hc2 hl
  refine h2 (Mof c ρ2) H1 l d vs ds _ _ m2 (fun a z => g2.mth z) a2 r2 hg fun v z d' o kz at' rp => ?_
  obtain ⟨g3, e3⟩ := g2.wrt hc2 hl at'
  exact hk _ _ _ _ kz g3 ((e1.trans e2).trans e3) (Rep.mv (Mv.sub fun a z => by
    rcases z with z | z
    · exact .inl z
    · exact .inr (oof_wr a z)) rp)
theorem be_mut0 (pa : PlainAttrs "list") (slot : Slot "list" name id) (hty : typeOf (.builtin id) = pure (.type "method_descriptor")) (hm : MtW X id g) (ho : PE X o (tVar i))
    (hbase : attributeBase o name X.env (eval o X.env) = eval o X.env := by rfl) (hline : (apos.endLine == cpos.line) = true := by rfl) :
    BE X E (.Call (.Attribute o name apos) [] [] cpos) (wMut0 i g) := by
  obtain ⟨r, h1, h2⟩ := hm
  refine ⟨peI (pe_bm0 pa slot hty h1 ho hbase hline) fun σ H Q ⟨c, ρ, k, kx, gd, ⟨ds0, hc0, hg⟩, hk, hx⟩ => ?_⟩
  obtain ⟨l, hl, a0, w0, _⟩ := gd.cell hc0
  have ⟨xs0, q0, _⟩ := a0
  refine ⟨.ref l, hl, .inl ⟨rfl, xs0, .of q0⟩, ?_⟩
  refine h2 (Mof c ρ) H l _ [] [] _ _ (gd.wsub (gd.wr_w w0)) (fun a z => gd.mth z) a0 rfl hg fun v z d' o kz at' rp => ?_
  obtain ⟨g3, e3⟩ := gd.wrt hc0 hl at'
  exact hk _ _ _ _ kz g3 e3 (Rep.mv (Mv.sub fun a z => by
    rcases z with z | z
    · exact .inl z
    · exact .inr (oof_wr a z)) rp)
theorem mv_upd {M : Ow} {H : Hp} {l : Addr} {o : HO} (m : M l) : Mv M M H (upd H l o) := ⟨fun _ z => .inl z, fun b u e n => by rw [upd_ne (fun q : b = l => n (by rw [q]; exact m))]; exact e⟩
def gAppend : GW
  | .list ds, [y], k => ds.length < sizeLine ∧ k .none (.list (ds ++ [y]))
  | _, _, _ => False
theorem mw_append : MtW X "list.append" gAppend := by
  refine ⟨_, mt_append, fun M H l d vs ds k Q m th a ra hg hq => ?_⟩
  unfold gAppend at hg
  split at hg
  · obtain ⟨us, h1, h2⟩ := a
    obtain ⟨v, vs', rfl, r1, r2⟩ := ra
    cases (show vs' = [] from r2)
    exact ⟨l, us, v, rfl, rfl, h1, by rw [h2.len]; exact hg.1, hq _ _ _ _ hg.2 ⟨_, upd_same, (h2.app (.one r1)).mv (mv_upd m)⟩ rfl⟩
  · exact hg.elim
def gExtend : GW
  | .list ds, [.list es], k => ds.length + es.length ≤ sizeLine ∧ k .none (.list (ds ++ es))
  | _, _, _ => False
theorem mw_extend : MtW X "list.extend" gExtend := by
  refine ⟨_, mt_extend, fun M H l d vs ds k Q m th a ra hg hq => ?_⟩
  unfold gExtend at hg
  split at hg
  · obtain ⟨us, h1, h2⟩ := a
    obtain ⟨v, vs', rfl, ⟨b, zs, rfl, lb, rb⟩, r2⟩ := ra
    cases (show vs' = [] from r2)
    exact ⟨l, b, us, zs, rfl, rfl, h1, lb.1, by rw [h2.len, rb.len]; exact hg.1, hq _ _ _ _ hg.2 ⟨_, upd_same, (h2.app rb).mv (mv_upd m)⟩ rfl⟩
  · exact hg.elim
def gPop : GW
  | .list ds, [], k => ∃ y, ds[ds.length - 1]? = some y ∧ k y (.list ds.dropLast)
  | .list ds, [.int i], k => ds.length < 2 ^ 62 ∧ ∃ y j, ixN ds.length i = some j ∧ ds[j]? = some y ∧ k y (.list (ds.eraseIdx j))
  | _, _, _ => False
theorem RepAll.dropLast {K : PySem.W.Frag} {M : Ow} {H : Hp} {ds : List PyData} {xs : List V} (h : RepAll K M H ds xs) : RepAll K M H ds.dropLast xs.dropLast := by
  rw [List.dropLast_eq_take, List.dropLast_eq_take, h.len]
  exact h.take _
theorem mw_pop : MtW X "list.pop" gPop := by
  refine ⟨_, MtR.or (X := X) (id := "list.pop") mt_pop mt_popAt, fun M H l d vs ds k Q m th a ra hg hq => ?_⟩
  unfold gPop at hg
  split at hg
  · obtain ⟨y, hy, hk⟩ := hg
    obtain ⟨us, h1, h2⟩ := a
    cases (show vs = [] from ra)
    obtain ⟨v, hv, rv⟩ := h2.get hy
    exact .inl ⟨l, us, v, rfl, rfl, h1, by rw [h2.len]; exact hv, hq _ _ _ _ hk ⟨_, upd_same, h2.dropLast.mv (mv_upd m)⟩ (rv.mv (mv_upd m))⟩
  · obtain ⟨hz, y, j, hj, hy, hk⟩ := hg
    obtain ⟨us, h1, h2⟩ := a
    obtain ⟨v0, vs', rfl, r1, r2⟩ := ra
    cases (show vs' = [] from r2)
    cases (show v0 = _ from r1)
    obtain ⟨v, hv, rv⟩ := h2.get hy
    obtain ⟨s1, s2, s3, s4⟩ := ixN_seq hj
    exact .inr ⟨l, us, _, j, v, rfl, rfl, h1, by omega, by omega, by rw [h2.len]; exact s1, hv, hq _ _ _ _ hk ⟨_, upd_same, (h2.erase j).mv (mv_upd m)⟩ (rv.mv (mv_upd m))⟩
  · exact hg.elim
def gInsert : GW
  | .list ds, [.int i, y], k => (ds.length < sizeLine ∧ 0 ≤ i ∧ i < 2 ^ 63) ∧ k .none (.list (ds.take i.toNat ++ [y] ++ ds.drop i.toNat))
  | _, _, _ => False
theorem mw_insert : MtW X "list.insert" gInsert := by
  refine ⟨_, mt_insert, fun M H l d vs ds k Q m th a ra hg hq => ?_⟩
  unfold gInsert at hg
  split at hg
  · obtain ⟨us, h1, h2⟩ := a
    obtain ⟨v, vs', rfl, r1, w, ws, rfl, r2, r3⟩ := ra
    cases (show ws = [] from r3)
    cases (show v = _ from r1)
    exact ⟨l, us, _, w, rfl, rfl, h1, by rw [h2.len]; exact hg.1.1, hg.1.2.1, hg.1.2.2, hq _ _ _ _ hg.2 ⟨_, upd_same, (((h2.take _).app (.one r2)).app (h2.drop _)).mv (mv_upd m)⟩ rfl⟩
  · exact hg.elim
def gReverse : GW
  | .list ds, [], k => k .none (.list ds.reverse)
  | _, _, _ => False
theorem mw_reverse : MtW X "list.reverse" gReverse := by
  refine ⟨_, mt_reverse, fun M H l d vs ds k Q m th a ra hg hq => ?_⟩
  unfold gReverse at hg
  split at hg
  · obtain ⟨us, h1, h2⟩ := a
    cases (show vs = [] from ra)
    exact ⟨l, us, rfl, rfl, h1, hq _ _ _ _ hg ⟨_, upd_same, h2.rev.mv (mv_upd m)⟩ rfl⟩
  · exact hg.elim
def gClear : GW
  | .list _, [], k => k .none (.list [])
  | _, _, _ => False
theorem mw_clear : MtW X "list.clear" gClear := by
  refine ⟨_, mt_clear, fun M H l d vs ds k Q m th a ra hg hq => ?_⟩
  unfold gClear at hg
  split at hg
  · obtain ⟨us, h1, h2⟩ := a
    cases (show vs = [] from ra)
    exact ⟨l, us, rfl, rfl, h1, hq _ _ _ _ hg ⟨_, upd_same, rfl⟩ rfl⟩
  · exact hg.elim
/-! ### x[i] = e, x[i] op= e -/
variable {we2 : WE}
def wItem (i : Nat) (we wi : WE) : WS := fun W ρ => we W.ex ρ fun r ρ1 => (∃ ds0, cont i ρ1 = some (.list ds0)) ∧ wi W.ex ρ1 fun ri ρ2 => ∃ z ρ3 ix ds j, r.fz ρ2 = some (z, ρ3) ∧ ri.get ρ3 = some (.int ix) ∧ cont i ρ3 = some (.list ds) ∧ ixN ds.length ix = some j ∧
  W.nx (wr i (.list (ds.set j z)) ρ3)
theorem bs_item {i : Nat} {b : Expr} {wb : WE} (mk : ∀ {te to ti : TE} {t : TSet}, PE X e te → PE X o to → PE X b ti → PSet X t → PS X st (tAsg te (L2.gSub to ti t))) (he : BE X E e we) (ho : PE X o (tVar i)) (hb : BE X E b wb) : BS X E st (wItem i we wb) := by
  refine ⟨psI (mk he.pe ho hb.pe set_list) fun D σ H ⟨c, ρ, W, gd, hw, h⟩ => ?_⟩
  refine ⟨c, ρ, _, W.ex, gd, hw, fun r ρ1 v1 H1 k1 g1 e1 p1 => ?_, h.exok⟩
  obtain ⟨⟨ds0, hc0⟩, k1⟩ := k1
  obtain ⟨l, hl, a0, w0, _⟩ := g1.cell hc0
  refine ⟨.ref l, hl, c, ρ1, _, W.ex, g1, k1, fun ri ρ2 v2 H2 k2 g2 e2 p2 => ?_, h.exok.ev e1⟩
  obtain ⟨z, ρ3, ix, ds, j, hf, hi, hc3, hj, hn⟩ := k2
  obtain ⟨g3, e3, r3⟩ := (p1.ev g1 e2).fz g2 hf
  obtain ⟨a3, m3⟩ := cell_ref g3 hc3 hl
  obtain ⟨us, q1, q2⟩ := a3
  have hv2 : v2 = .int ix := (((p2.ev g2 e3)).see g3 hi).int
  obtain ⟨g4, e4⟩ := g3.wrt hc3 hl (o := .lst (us.set j v1)) (d' := .list (ds.set j z)) ⟨_, upd_same, (q2.set j r3).mv (mv_upd m3)⟩
  exact ⟨l, us, ix, j, rfl, hv2, q1, by rw [q2.len]; exact hj, h.nx _ _ _ hn g4 (((e1.trans e2).trans e3).trans e4)⟩
def wAugItem (i : Nat) (g : G2) (wi we : WE) : WS := fun W ρ => (∃ ds0, cont i ρ = some (.list ds0)) ∧ wi W.ex ρ fun ri ρ1 => ∃ ds1 ix z1, cont i ρ1 = some (.list ds1) ∧ ri.get ρ1 = some (.int ix) ∧ 0 ≤ ix ∧ ix < 2 ^ 63 ∧ ds1[ix.toNat]? = some z1 ∧ we W.ex ρ1 fun r ρ2 => ∃ e2, r.get ρ2 = some e2 ∧
  g z1 e2 fun z => ∃ ds, cont i ρ2 = some (.list ds) ∧ ix < ds.length ∧ W.nx (wr i (.list (ds.set ix.toNat z)) ρ2)
def rGetL (K : PySem.W.Frag) : V → V → Hp → VK → Prop := fun x y H Q => ∃ p xs i v, x = .ref p ∧ y = .int i ∧ SqL K H p xs ∧ 0 ≤ i ∧ i < 2 ^ 63 ∧ xs[i.toNat]? = some v ∧ Q v H
theorem pget_list : PGet X (rGetL X.K) := by
  intro pins s σ H x y v u Q I rx ry h
  obtain ⟨p, xs, i, z, rfl, rfl, hq, h0, h1, he, q⟩ := h
  cases rx
  obtain ⟨t, rfl⟩ := ry
  obtain ⟨its, r, pl, hz⟩ := I.list hq
  obtain ⟨w, ew, rw'⟩ := r.get he
  exact wpAny_getItem_list pl.isList h0 h1 (by simpa using ew) ⟨z, H, I, rw', q⟩
theorem bs_augItem {i : Nat} {b : Expr} {wb : WE} {op : Operator} {g : G2} (ho : OpD X (inplaceOp op) g) (mk : ∀ {to ti te : TE} {tget : V → V → Hp → VK → Prop} {tip : TIp} {tset : TSet}, PE X o to → PE X b ti → PGet X tget → PE X e te → PIp X op tip → PSet X tset → PS X st (tAugS to ti te tget tip tset))
    (h0 : PE X o (tVar i)) (hb : BE X E b wb) (he : BE X E e we) : BS X E st (wAugItem i g wb we) := by
  obtain ⟨r, h1, h2⟩ := ho
  refine ⟨psI (mk h0 hb.pe pget_list he.pe h1 set_list) fun D σ H ⟨c, ρ, W, gd, ⟨⟨ds0, hc0⟩, hw⟩, h⟩ => ?_⟩
  obtain ⟨l, hl, a0, w0, _⟩ := gd.cell hc0
  refine ⟨.ref l, hl, c, ρ, _, W.ex, gd, hw, fun ri ρ1 v1 H1 k1 g1 e1 p1 => ?_, h.exok⟩
  obtain ⟨ds1, ix, z1, hc1, hi, h01, h63, hz1, k1⟩ := k1
  obtain ⟨⟨us1, q1, q1r⟩, m1⟩ := cell_ref g1 hc1 hl
  obtain ⟨x1, hx1, rx1⟩ := q1r.get hz1
  have hv1 : v1 = .int ix := (p1.see g1 hi).int
  refine ⟨l, us1, ix, x1, rfl, hv1, .of q1, h01, h63, hx1, c, ρ1, _, W.ex, g1, k1, fun r' ρ2 v2 H2 k2 g2 e2 p2 => ?_, h.exok.ev e1⟩
  obtain ⟨e', he', hg⟩ := k2
  refine h2 (Mof c ρ2) H2 x1 v2 z1 e' _ _ (fun a z => g2.mth z) ((rx1.mv (e2.mv g1)).see fun _ z => z.elim) (p2.see g2 he') hg fun v3 H3 z kz sm rp => ?_
  obtain ⟨ds, hc2, hlt, hn⟩ := kz
  have g3 := g2.same sm
  obtain ⟨⟨us, q2, q2r⟩, m2⟩ := cell_ref g3 hc2 hl
  have hj : ixN us.length ix = some ix.toNat := by
    unfold ixN
    rw [if_pos h01, if_pos (by rw [q2r.len]; exact hlt)]
  obtain ⟨g4, e4⟩ := g3.wrt hc2 hl (o := .lst (us.set ix.toNat v3)) (d' := .list (ds.set ix.toNat z)) ⟨_, upd_same, (q2r.set ix.toNat rp).mv (mv_upd m2)⟩
  exact ⟨l, us, ix, ix.toNat, rfl, hv1, q2, hj, h.nx _ _ _ hn g4 (((e1.trans e2).trans (.same sm)).trans e4)⟩

/-! ### while -/
structure WhP (wt : WT) (wb : WS) (W : WD) (ρ : List En) : Prop where
  run : ∃ (P : List En → Prop) (μ : List En → Nat), P ρ ∧ ∀ ρ1, P ρ1 → wt W.ex ρ1 fun b ρ2 => if b = true then
    wb { W with nx := fun ρ3 => P ρ3 ∧ μ ρ3 < μ ρ1, ct := fun ρ3 => P ρ3 ∧ μ ρ3 < μ ρ1, bk := W.nx } ρ2 else W.nx ρ2
def wWhile (wt : WT) (wb : WS) : WS := fun W ρ => WhP wt wb W ρ
theorem bs_while {c0 : Expr} {body : List Stmt} {wt : WT} {wb : WS} (hp : PassesOwn (model X.prog X.w) X.A X.env X.xe) (hc : BT X E c0 wt) (hb : BSs X E body wb) : BS X E (.While c0 body [] pos) (wWhile wt wb) := by
  refine ⟨psI (ps_while hp hc.pt hb.pss) fun D σ H ⟨c, ρ, W, gd, ⟨⟨P, μ, h0, turn⟩⟩, h⟩ => ?_⟩
  refine ⟨fun m σ1 H1 => ∃ ρ1, m = μ ρ1 ∧ P ρ1 ∧ Gd X.K c σ1 H1 ρ1 ∧ Ev c ρ H ρ1 H1, ⟨_, ρ, rfl, h0, gd, .refl⟩, ?_⟩
  rintro m σ1 H1 ⟨ρ1, rfl, p1, g1, e1⟩
  refine ⟨c, ρ1, _, W.ex, g1, turn ρ1 p1, fun b ρ2 H2 k2 g2 e2 => ?_, h.exok.ev e1⟩
  have e12 := e1.trans e2
  cases b with
  | false => exact h.nx _ _ _ k2 g2 e12
  | true =>
    refine ⟨fun σ3 H3 => ∃ ρ3, (P ρ3 ∧ μ ρ3 < μ ρ1) ∧ Gd X.K c σ3 H3 ρ3 ∧ Ev c ρ H ρ3 H3, fun σ' H' ⟨ρ3, ⟨p3, l3⟩, g3, e3⟩ => ⟨_, l3, ρ3, rfl, p3, g3, e3⟩, ?_⟩
    refine ⟨c, ρ2, _, g2, k2, ⟨fun σ' ρ' H' a b d => ⟨ρ', a, b, e12.trans d⟩, (h.ev e12).rt, (h.ev e12).rn, fun σ' ρ' H' a b d => h.nx _ _ _ a b (e12.trans d), fun σ' ρ' H' a b d => ⟨ρ', a, b, e12.trans d⟩, (h.ev e12).ex⟩⟩
end
end LB

/-! LB, part 7: what is walked; for; comprehensions, by value. -/
namespace LB
open PySem PySem.Spec PyProof.Rows L2
/-- what a loop walks: items fixed; or the list of the slot i, at l -/
inductive Src where
  | fixed (ds : List PyData)
  | cell (i : Nat) (l : Addr) (ds : List PyData)
def Src.items : Src → List PyData
  | .fixed ds => ds
  | .cell _ _ ds => ds
def Src.ok : Src → List En → Prop
  | .fixed _, _ => True
  | .cell i l ds, ρ => ρ[i]? = some (.own l (.list ds)) ∨ ρ[i]? = some (.io l (.list ds))
/-- a later state of the same def -/
structure Lt (K : PySem.W.Frag) (c : Ct) (ρ : List En) (H : Hp) (c' : Ct) (σ' : L2.St) (ρ' : List En) (H' : Hp) (s : Src) : Prop where
  gd : Gd K c' σ' H' ρ'
  m : Mv (Mof c ρ) (Mof c' ρ') H H'
  w : Mv (Wof c ρ) (Wof c' ρ') H H'
  ok : s.ok ρ'
structure WalksD (K : PySem.W.Frag) (c : Ct) (ρ : List En) (H : Hp) (s : Src) (J : It) : Prop where
  go : ∀ c' σ' ρ' H' (i : Nat), Lt K c ρ H c' σ' ρ' H' s → i < s.items.length → J.go i H'
  stop : ∀ c' σ' ρ' H', Lt K c ρ H c' σ' ρ' H' s → J.stop s.items.length H'
  yld : ∀ c' σ' ρ' H' (i : Nat) x H'', Lt K c ρ H c' σ' ρ' H' s → i < s.items.length → J.yld i H' x H'' → Sm H' H'' ∧ ∃ d, s.items[i]? = some d ∧ Rep K (Mof c' ρ') H'' d x
abbrev WI := KX → List En → (Src → List En → Prop) → Prop
def lI (X : Cx) (E : EK) (w : WI) : TI := fun σ H R => ∃ c ρ k kx, Gd X.K c σ H ρ ∧ w kx ρ k ∧ (∀ s ρ' J H', k s ρ' → Gd X.K c σ H' ρ' → Ev c ρ H ρ' H' → s.ok ρ' → WalksD X.K c ρ' H' s J → R J H') ∧ ExOk X.K E c σ ρ H kx
structure BI (X : Cx) (E : EK) (tg iter : Expr) (w : WI) : Prop where
  pi : PI X tg iter (lI X E w)
theorem piI {X : Cx} {tg iter : Expr} {t t' : TI} (h : PI X tg iter t) (i : ∀ σ H R, t' σ H R → t σ H R) : PI X tg iter t' := ⟨fun pins s σ H R I q => h.run pins s σ H R I (i σ H R q)⟩
/-- what stores an item -/
abbrev WG := PyData → List En → (List En → Prop) → Prop
abbrev WGs := List PyData → List En → (List En → Prop) → Prop
/-- but for the slots sl the same -/
def But (sl : List Nat) (σ σ' : L2.St) : Prop := σ'.length = σ.length ∧ ∀ j, j ∉ sl → σ'[j]? = σ[j]?
def lG (K : PySem.W.Frag) (sl : List Nat) (g : WG) : TG := fun v σ H Q => ∃ c ρ d k, Gd K c σ H ρ ∧ Rep K (Mof c ρ) H d v ∧ g d ρ k ∧ ∀ σ' ρ', k ρ' → Gd K c σ' H ρ' → Ev c ρ H ρ' H → But sl σ σ' → Q σ' H
def lGs (K : PySem.W.Frag) (sl : List Nat) (g : WGs) : TGs := fun vs σ H Q => ∃ c ρ ds k, Gd K c σ H ρ ∧ RepAll K (Mof c ρ) H ds vs ∧ g ds ρ k ∧ ∀ σ' ρ', k ρ' → Gd K c σ' H ρ' → Ev c ρ H ρ' H → But sl σ σ' → Q σ' H
structure BG (X : Cx) (tg : Expr) (sl : List Nat) (g : WG) : Prop where
  pg : PG X tg (lG X.K sl g)
structure BGs (X : Cx) (tgs : List Expr) (sl : List Nat) (g : WGs) : Prop where
  pgs : PGs X tgs (lGs X.K sl g)
theorem pgI {X : Cx} {tg : Expr} {t t' : TG} (h : PG X tg t) (i : ∀ v σ H Q, t' v σ H Q → t v σ H Q) : PG X tg t' := ⟨fun pins s σ H v u Q I r q => h.run pins s σ H v u Q I r (i v σ H Q q)⟩
theorem pgsI {X : Cx} {tg : List Expr} {t t' : TGs} (h : PGs X tg t) (i : ∀ v σ H Q, t' v σ H Q → t v σ H Q) : PGs X tg t' := ⟨fun pins s σ H v u Q I r q => h.run pins s σ H v u Q I r (i v σ H Q q)⟩
section
variable {X : Cx} {E : EK} {tg e : Expr} {es : List Expr} {pos : Pos} {we : WE}
/-! ### targets -/
def gNm (i : Nat) : WG := fun d ρ k => k (ρ.set i (.val d))
theorem bg_name {i : Nat} (h : PG X tg (gName i)) : BG X tg [i] (gNm i) := by
  refine ⟨pgI h fun v σ H Q ⟨c, ρ, d, k, g, r, hg, hk⟩ => ?_⟩
  exact hk _ _ hg (g.setVal i r) (.setNO rfl) ⟨by simp, fun j hj => List.getElem?_set_ne (fun q => hj (by simp [q]))⟩
def gsNil : WGs := fun ds ρ k => ds = [] ∧ k ρ
def gsCons (g : WG) (u : WGs) : WGs := fun ds ρ k => ∃ d r, ds = d :: r ∧ g d ρ fun ρ' => u r ρ' k
theorem bgs_nil : BGs X [] [] gsNil := by
  refine ⟨pgsI pgs_nil fun vs σ H Q ⟨c, ρ, ds, k, g, r, ⟨e, hg⟩, hk⟩ => ?_⟩
  subst e
  exact ⟨r, hk _ _ hg g .refl ⟨rfl, fun _ _ => rfl⟩⟩
theorem bgs_cons {g : WG} {u : WGs} {sl sl2 : List Nat} (h1 : BG X e sl g) (h2 : BGs X es sl2 u) (hs : (assignEach (e :: es) X.env).map (·.2) = assign e X.env :: (assignEach es X.env).map (·.2) := by rfl) : BGs X (e :: es) (sl ++ sl2) (gsCons g u) := by
  refine ⟨pgsI (pgs_cons h1.pg h2.pgs hs) fun vs σ H Q ⟨c, ρ, ds, k, gd, r, ⟨d, rs, e, hg⟩, hk⟩ => ?_⟩
  subst e
  obtain ⟨v, vs', rfl, r1, r2⟩ := r
  refine ⟨v, vs', rfl, c, ρ, d, _, gd, r1, hg, fun σ' ρ' k1 g1 e1 l1 => ?_⟩
  exact ⟨c, ρ', rs, k, g1, r2.mv (e1.mv gd), k1, fun σ2 ρ2 a b d' l => hk _ _ a b (e1.trans d') ⟨l.1.trans l1.1, fun j hj => (l.2 j (fun q => hj (List.mem_append_right _ q))).trans (l1.2 j (fun q => hj (List.mem_append_left _ q)))⟩⟩
def gTp (u : WGs) (n : Nat) : WG := fun d ρ k => ∃ ds, d = .tuple ds ∧ ds.length = n ∧ u ds ρ k
theorem bg_tup {k0 : Nat} {u : WGs} {n : Nat} {sl : List Nat} (hc : X.calm = true) (h : BGs X es sl u) (hn : (assignEach es X.env).length = n := by rfl) (hst : (assignEach es X.env).findIdx? (·.1) = none := by rfl) : BG X (.Tuple es k0 pos) sl (gTp u n) := by
  refine ⟨pgI (pg_tup hc h.pgs hn hst) fun v σ H Q ⟨c, ρ, d, k, gd, r, ⟨ds, e, hl, hg⟩, hk⟩ => ?_⟩
  subst e
  obtain ⟨a, xs, rfl, l, ra⟩ := r
  exact ⟨a, xs, rfl, l.sq, by rw [ra.len]; exact hl, c, ρ, ds, k, gd, ra, hg, hk⟩

/-! ### what is walked -/
theorem pi_seq {l : Expr} {tl : TE} (hl : PE X l tl) : PI X tg l (fun σ H R => tl σ H fun x H1 => (∃ a, x = .ref a ∧ (∃ xs, SqL X.K H1 a xs) ∧ R (Itl X.K a) H1) ∨ (∃ a, x = .ref a ∧ (∃ xs, SqT X.K H1 a xs) ∧ R (Itt X.K a) H1) ∨ ∃ z, x = .str z ∧ R (Its z) H1) := by
  refine ⟨fun pins s σ H R I h => ?_⟩
  refine thn (hl.run pins s σ H _ I h) fun v s1 ⟨x, H1, I1, r1, q1⟩ => ?_
  rcases q1 with ⟨a, e, ⟨xs, hq⟩, q⟩ | ⟨a, e, ⟨xs, hq⟩, q⟩ | ⟨z, e, q⟩
  · subst e
    cases r1
    obtain ⟨its, rv, p, hz⟩ := I1.list hq
    refine wpAny_pyIter_list p.isList ?_
    refine ⟨s1.heap.objs.size, [s1.heap.objs.size], _, _, H1, rfl, I1.kept (t' := s1.toks) fun b o e => Heap.get?_push_of_some _ e, turn_list a _, ⟨_, Heap.get?_push_size _ rfl, rfl, rfl⟩, fun b hb => ?_, q⟩
    have e : b = s1.heap.objs.size := by simpa using hb
    subst e
    exact I1.fpOk (Nat.le_refl _) (I1.hok.fresh (Nat.le_refl _))
  · subst e
    cases r1
    obtain ⟨its, rv, p, hz⟩ := I1.tuple hq
    refine wpAny_pyIter_tuple (show s1.heap.IsTuple a its.toArray from p) ?_
    refine ⟨s1.heap.objs.size, [s1.heap.objs.size], _, _, H1, rfl, I1.kept (t' := s1.toks) fun b o e => Heap.get?_push_of_some _ e, turn_tuple a _, ⟨_, Heap.get?_push_size _ rfl, rfl, rfl⟩, fun b hb => ?_, q⟩
    have e : b = s1.heap.objs.size := by simpa using hb
    subst e
    exact I1.fpOk (Nat.le_refl _) (I1.hok.fresh (Nat.le_refl _))
  · subst e
    obtain ⟨t, rfl⟩ := r1
    cases ha : z.cps.all (· < 128)
    · exact wpAny_pyIter_wide ha (pi_one (tk := s1.toks) I1 _ (turn_str _ z t "str_iterator" (.inr rfl)) ⟨_, Heap.get?_push_size _ rfl, rfl, rfl⟩ q)
    · exact wpAny_pyIter_ascii ha (pi_one (tk := s1.toks) I1 _ (turn_str _ z t "str_ascii_iterator" (.inl rfl)) ⟨_, Heap.get?_push_size _ rfl, rfl, rfl⟩ q)
def signs (z : Str) : List PyData := z.cps.toList.map fun c => .str ⟨#[c]⟩
def srcOf : R → List En → Option Src
  | .val (.list ds), _ => some (.fixed ds)
  | .val (.tuple ds), _ => some (.fixed ds)
  | .val (.str z), _ => some (.fixed (signs z))
  | .see (.list ds), _ => some (.fixed ds)
  | .see (.tuple ds), _ => some (.fixed ds)
  | .see (.str z), _ => some (.fixed (signs z))
  | .at i, ρ => (match ρ[i]? with
    | some (.own l (.list ds)) => some (.cell i l ds)
    | some (.io l (.list ds)) => some (.cell i l ds)
    | _ => none)
  | _, _ => none
section
variable {K : PySem.W.Frag} {c : Ct} {ρ : List En} {H : Hp}
theorem Itl_inj {a : Addr} {xs : List V} (h : H a = some (.lst xs)) {ys : List V} (q : SqL K H a ys) (nk : K.lookup a = none) : ys = xs := by
  rcases q with (q | ⟨o, q⟩) | ⟨o, its, n, q, _⟩
  · rw [h] at q; cases q; rfl
  · rw [h] at q; cases q
  · rw [nk] at q; cases q
/-- the items are those at a, as they stand -/
theorem walks_lst {s : Src} {a : Addr} (h : ∀ c' σ' ρ' H', Lt K c ρ H c' σ' ρ' H' s → ∃ xs, H' a = some (.lst xs) ∧ RepAll K (Mof c' ρ') H' s.items xs) : WalksD K c ρ H s (Itl K a) := by
  refine ⟨fun c' σ' ρ' H' i l hi => ?_, fun c' σ' ρ' H' l => ?_, fun c' σ' ρ' H' i x H'' l hi y => ?_⟩
  · obtain ⟨xs, h1, h2⟩ := h _ _ _ _ l
    have : i < xs.length := by rw [h2.len]; exact hi
    exact ⟨xs, xs[i], .of h1, by simp [this]⟩
  · obtain ⟨xs, h1, h2⟩ := h _ _ _ _ l
    exact ⟨xs, .of h1, by rw [h2.len]; exact Nat.le_refl _⟩
  · obtain ⟨xs, h1, h2⟩ := h _ _ _ _ l
    obtain ⟨rfl, y⟩ := y
    exact ⟨fun _ _ z => z, h2.getV (y xs (.of h1))⟩
theorem walks_tup {s : Src} {a : Addr} (h : ∀ c' σ' ρ' H', Lt K c ρ H c' σ' ρ' H' s → ∃ xs, TpAt K (Mof c' ρ') H' a xs ∧ RepAll K (Mof c' ρ') H' s.items xs) : WalksD K c ρ H s (Itt K a) := by
  refine ⟨fun c' σ' ρ' H' i l hi => ?_, fun c' σ' ρ' H' l => ?_, fun c' σ' ρ' H' i x H'' l hi y => ?_⟩
  · obtain ⟨xs, h1, h2⟩ := h _ _ _ _ l
    have : i < xs.length := by rw [h2.len]; exact hi
    exact ⟨xs, xs[i], h1.sq, by simp [this]⟩
  · obtain ⟨xs, h1, h2⟩ := h _ _ _ _ l
    exact ⟨xs, h1.sq, by rw [h2.len]; exact Nat.le_refl _⟩
  · obtain ⟨xs, h1, h2⟩ := h _ _ _ _ l
    obtain ⟨rfl, y⟩ := y
    exact ⟨fun _ _ z => z, h2.getV (y xs h1.sq)⟩
theorem walks_str {z : Str} : WalksD K c ρ H (.fixed (signs z)) (Its z) := by
  have hl : (signs z).length = z.cps.size := by simp [signs]
  refine ⟨fun c' σ' ρ' H' i l hi => ?_, fun c' σ' ρ' H' l => ?_, fun c' σ' ρ' H' i x H'' l hi y => ?_⟩
  · show i < z.cps.size
    rw [← hl]; exact hi
  · show z.cps.size ≤ _
    rw [← hl]; exact Nat.le_refl _
  · obtain ⟨rfl, ch, h1, rfl⟩ := (show H'' = H' ∧ ∃ ch, z.cps[i]? = some ch ∧ x = .str ⟨#[ch]⟩ from y)
    refine ⟨fun _ _ z => z, .str ⟨#[ch]⟩, ?_, rfl⟩
    show (signs z)[i]? = _
    unfold signs
    rw [List.getElem?_map, Array.getElem?_toList, h1]; rfl
theorem src_run {σ : L2.St} {v : V} {r : R} {s : Src} (p : RepR K c σ H ρ v r) (g : Gd K c σ H ρ) (h : srcOf r ρ = some s) {RR : It → Hp → Prop} (hR : ∀ J, s.ok ρ → WalksD K c ρ H s J → RR J H) :
    (∃ a, v = .ref a ∧ (∃ xs, SqL K H a xs) ∧ RR (Itl K a) H) ∨ (∃ a, v = .ref a ∧ (∃ xs, SqT K H a xs) ∧ RR (Itt K a) H) ∨ ∃ z, v = .str z ∧ RR (Its z) H := by
  unfold srcOf at h
  split at h
  · cases h
    obtain ⟨a, xs, rfl, l, ra⟩ := p
    exact .inl ⟨a, rfl, ⟨xs, .of l.1⟩, hR _ trivial (walks_lst fun c' σ' ρ' H' lt => ⟨xs, (lt.m.rd l).1, ra.mv lt.m⟩)⟩
  · cases h
    obtain ⟨a, xs, rfl, l, ra⟩ := p
    refine .inr (.inl ⟨a, rfl, ⟨xs, l.sq⟩, hR _ trivial (walks_tup fun c' σ' ρ' H' lt => ⟨xs, ?_, ra.mv lt.m⟩)⟩)
    rcases l with l | l
    · exact .inl (lt.m.rd l)
    · exact .inr l
  · cases h
    exact .inr (.inr ⟨_, p, hR _ trivial walks_str⟩)
  · cases h
    obtain ⟨a, xs, rfl, l, ra⟩ := p
    exact .inl ⟨a, rfl, ⟨xs, .of l.1⟩, hR _ trivial (walks_lst fun c' σ' ρ' H' lt => ⟨xs, (lt.w.rd l).1, ra.mv lt.m⟩)⟩
  · cases h
    obtain ⟨a, xs, rfl, l, ra⟩ := p
    refine .inr (.inl ⟨a, rfl, ⟨xs, l.sq⟩, hR _ trivial (walks_tup fun c' σ' ρ' H' lt => ⟨xs, ?_, ra.mv lt.m⟩)⟩)
    rcases l with l | l
    · exact .inl (lt.m.rd l)
    · exact .inr l
  · cases h
    exact .inr (.inr ⟨_, p, hR _ trivial walks_str⟩)
  · rename_i i
    split at h
    · rename_i l ds he
      cases h
      obtain ⟨l', rfl, hl⟩ := p
      obtain ⟨h1, ⟨xs, h2, h3⟩, _⟩ := g.own i l _ he
      rw [hl] at h1; cases h1
      refine .inl ⟨l, rfl, ⟨xs, .of h2⟩, hR _ (.inl he) (walks_lst fun c' σ' ρ' H' lt => ?_)⟩
      rcases lt.ok with q | q
      · obtain ⟨_, ⟨ys, a1, a2⟩, _⟩ := lt.gd.own _ _ _ q; exact ⟨ys, a1, a2⟩
      · obtain ⟨_, ⟨ys, a1, a2⟩, _⟩ := lt.gd.io _ _ _ q; exact ⟨ys, a1, a2⟩
    · rename_i l ds he
      cases h
      obtain ⟨l', rfl, hl⟩ := p
      obtain ⟨h1, ⟨xs, h2, h3⟩, _⟩ := g.io i l _ he
      rw [hl] at h1; cases h1
      refine .inl ⟨l, rfl, ⟨xs, .of h2⟩, hR _ (.inr he) (walks_lst fun c' σ' ρ' H' lt => ?_)⟩
      rcases lt.ok with q | q
      · obtain ⟨_, ⟨ys, a1, a2⟩, _⟩ := lt.gd.own _ _ _ q; exact ⟨ys, a1, a2⟩
      · obtain ⟨_, ⟨ys, a1, a2⟩, _⟩ := lt.gd.io _ _ _ q; exact ⟨ys, a1, a2⟩
    · cases h
  · cases h
end
def wSq (we : WE) : WI := fun kx ρ k => we kx ρ fun r ρ1 => ∃ s, srcOf r ρ1 = some s ∧ k s ρ1
theorem bi_seq (he : BE X E e we) : BI X E tg e (wSq we) := by
  refine ⟨piI (pi_seq he.pe) fun σ H RR ⟨c, ρ, k, kx, gd, hw, hk, hx⟩ => ?_⟩
  refine ⟨c, ρ, _, kx, gd, hw, fun r ρ1 v H1 k1 g1 e1 p1 => ?_, hx⟩
  obtain ⟨s, hs, k2⟩ := k1
  exact src_run p1 g1 hs fun J ok wk => hk s ρ1 J H1 k2 g1 e1 ok wk
/-- range -/
def rgD (lo : Int) (n : Nat) : List PyData := (List.range n).map fun i => .int (lo + (i : Nat))
theorem rgD_len (lo : Int) (n : Nat) : (rgD lo n).length = n := by simp [rgD]
theorem rgD_get {lo : Int} {n i : Nat} (h : i < n) : (rgD lo n)[i]? = some (.int (lo + (i : Nat))) := by
  unfold rgD
  rw [List.getElem?_map, List.getElem?_range h]; rfl
theorem walks_range {K : PySem.W.Frag} {c : Ct} {ρ : List En} {H : Hp} {lo : Int} {n : Nat} : WalksD K c ρ H (.fixed (rgD lo n)) (Itr lo n) := by
  refine ⟨fun c' σ' ρ' H' i l hi => ?_, fun c' σ' ρ' H' l => ?_, fun c' σ' ρ' H' i x H'' l hi y => ?_⟩
  · show i < n
    have : i < (rgD lo n).length := hi
    rwa [rgD_len] at this
  · show n ≤ (rgD lo n).length
    rw [rgD_len]; exact Nat.le_refl _
  · have hi' : i < n := by
      have : i < (rgD lo n).length := hi
      rwa [rgD_len] at this
    obtain ⟨rfl, rfl⟩ := (show H'' = H' ∧ x = .int (lo + i) from y)
    exact ⟨fun _ _ z => z, _, rgD_get hi', rfl⟩
def wRg1 (u : WA) : WI := fun kx ρ k => u kx ρ fun rs ρ1 => ∃ j : Int, getA rs ρ1 = some [.int j] ∧ (-(2 ^ 62) ≤ j ∧ j < 2 ^ 62) ∧ k (.fixed (rgD 0 j.toNat)) ρ1
def wRg2 (u : WA) : WI := fun kx ρ k => u kx ρ fun rs ρ1 => ∃ i j : Int, getA rs ρ1 = some [.int i, .int j] ∧ (-(2 ^ 62) ≤ i ∧ i < 2 ^ 62 ∧ -(2 ^ 62) ≤ j ∧ j < 2 ^ 62) ∧ k (.fixed (rgD i (j - i).toNat)) ρ1
theorem bi_range1 {u : WA} {p : Pos} (hg : Gl X "range") (hm : X.mg "range" = none) (ha : BA X E [e] u) (hs : starEach [e] X.env = [(false, eval e X.env)] := by rfl) : BI X E tg (.Call (.Name "range" p) [e] [] pos) (wRg1 u) := by
  refine ⟨piI (pi_range1 hg hm ha.pa hs) fun σ H RR ⟨c, ρ, k, kx, gd, hw, hk, hx⟩ => ?_⟩
  refine ⟨c, ρ, _, kx, gd, hw, fun rs ρ1 vs H1 k1 g1 e1 p1 => ?_, hx⟩
  obtain ⟨j, hj, ⟨b1, b2⟩, k2⟩ := k1
  obtain ⟨v, rfl, sv⟩ := see1 (getA_see g1 p1 hj)
  exact ⟨j, by rw [sv.int], b1, b2, hk _ ρ1 _ H1 k2 g1 e1 trivial walks_range⟩
theorem bi_range2 {u : WA} {e2 : Expr} {p : Pos} (hg : Gl X "range") (hm : X.mg "range" = none) (ha : BA X E [e, e2] u) (hs : starEach [e, e2] X.env = [(false, eval e X.env), (false, eval e2 X.env)] := by rfl) (hs2 : starEach [e2] X.env = [(false, eval e2 X.env)] := by rfl) :
    BI X E tg (.Call (.Name "range" p) [e, e2] [] pos) (wRg2 u) := by
  refine ⟨piI (pi_range2 hg hm ha.pa hs hs2) fun σ H RR ⟨c, ρ, k, kx, gd, hw, hk, hx⟩ => ?_⟩
  refine ⟨c, ρ, _, kx, gd, hw, fun rs ρ1 vs H1 k1 g1 e1 p1 => ?_, hx⟩
  obtain ⟨i, j, hj, ⟨b1, b2, b3, b4⟩, k2⟩ := k1
  obtain ⟨v, w, rfl, sv, sw⟩ := see2 (getA_see g1 p1 hj)
  exact ⟨i, j, by rw [sv.int, sw.int], ⟨b1, b2, b3, b4⟩, hk _ ρ1 _ H1 k2 g1 e1 trivial walks_range⟩

/-! ### for -/
structure ForP (g : WG) (wb : WS) (W : WD) (s : Src) (ρ1 : List En) : Prop where
  run : ∃ P : Nat → List En → Prop, P 0 ρ1 ∧ (∀ i ρ2, i ≤ s.items.length → P i ρ2 → s.ok ρ2) ∧
    (∀ i d ρ2, s.items[i]? = some d → P i ρ2 → g d ρ2 fun ρ3 => wb { W with nx := P (i + 1), ct := P (i + 1), bk := W.nx } ρ3) ∧ ∀ ρ2, P s.items.length ρ2 → W.nx ρ2
def wFor (wi : WI) (g : WG) (wb : WS) : WS := fun W ρ => wi W.ex ρ fun s ρ1 => ForP g wb W s ρ1
theorem lt_ev {K : PySem.W.Frag} {c : Ct} {σ σ1 : L2.St} {ρ ρ1 : List En} {H H1 : Hp} {s : Src} (g : Gd K c σ H ρ) (g1 : Gd K c σ1 H1 ρ1) (e : Ev c ρ H ρ1 H1) (ok : s.ok ρ1) : Lt K c ρ H c σ1 ρ1 H1 s := ⟨g1, e.mv g, e.mvw g, ok⟩
theorem bs_for {iter : Expr} {body : List Stmt} {wi : WI} {g : WG} {wb : WS} {sl : List Nat} (hp : PassesOwn (model X.prog X.w) X.A X.env X.xe) (hc : X.calm = true) (hi : BI X E tg iter wi) (hg : BG X tg sl g) (hb : BSs X E body wb)
    (hs : ∀ x, foldedSetIterable iter X.env x = pure x := by intro _; rfl) : BS X E (.For tg iter body [] pos) (wFor wi g wb) := by
  refine ⟨psI (ps_for hp hc hi.pi hg.pg hb.pss hs) fun D σ H ⟨c, ρ, W, gd, hw, h⟩ => ?_⟩
  refine ⟨c, ρ, _, W.ex, gd, hw, fun s ρ1 J H1 k1 g1 e1 ok1 wk => ?_, h.exok⟩
  obtain ⟨P, h0, hok, turn, done⟩ := k1.run
  refine ⟨fun i m σ2 H2 => ∃ ρ2, m = s.items.length - i ∧ i ≤ s.items.length ∧ P i ρ2 ∧ Gd X.K c σ2 H2 ρ2 ∧ Ev c ρ1 H1 ρ2 H2, ⟨_, ρ1, rfl, Nat.zero_le _, h0, g1, .refl⟩, ?_⟩
  rintro i m σ2 H2 ⟨ρ2, rfl, hle, p2, g2, e2⟩
  have lt := lt_ev g1 g2 e2 (hok i ρ2 hle p2)
  by_cases hlt : i < s.items.length
  · refine .inr ⟨wk.go c σ2 ρ2 H2 i lt hlt, fun σ3 H3 => ∃ ρ3, P (i + 1) ρ3 ∧ Gd X.K c σ3 H3 ρ3 ∧ Ev c ρ1 H1 ρ3 H3, fun σ3 H3 ⟨ρ3, p3, g3, e3⟩ => ⟨_, by omega, ρ3, rfl, hlt, p3, g3, e3⟩, fun x H3 y => ?_⟩
    obtain ⟨sm, d, hd, rd⟩ := wk.yld c σ2 ρ2 H2 i x H3 lt hlt y
    have g3 := g2.same sm
    have e3 : Ev c ρ1 H1 ρ2 H3 := e2.trans (.same sm)
    refine ⟨c, ρ2, d, _, g3, rd, turn i d ρ2 hd p2, fun σ4 ρ4 k4 g4 e4 _ => ?_⟩
    have e14 := e3.trans e4
    have h4 := h.ev (e1.trans e14)
    exact ⟨c, ρ4, _, g4, k4, ⟨fun σ' ρ' H' a b d => ⟨ρ', a, b, e14.trans d⟩, h4.rt, h4.rn, fun σ' ρ' H' a b d => h4.nx σ' ρ' H' a b d, fun σ' ρ' H' a b d => ⟨ρ', a, b, e14.trans d⟩, h4.ex⟩⟩
  · have e : i = s.items.length := by omega
    subst e
    exact .inl ⟨wk.stop c σ2 ρ2 H2 lt, h.nx _ _ _ (done ρ2 p2) g2 (e1.trans e2)⟩

/-! ### comprehensions -/
structure BTs (X : Cx) (E : EK) (ifs : List Expr) (w : WT) : Prop where
  pts : PTs X ifs (lT X E w)
def wYes : WT := fun _ ρ k => k true ρ
theorem bts_nil : BTs X E [] wYes := ⟨⟨fun pins s σ H Q I ⟨c, ρ, k, kx, gd, hw, hk, hx⟩ => pts_nil.run pins s σ H Q I (hk _ _ _ hw gd .refl)⟩⟩
theorem bts_one {c0 : Expr} {w : WT} (h : BT X E c0 w) : BTs X E [c0] w := ⟨pts_one h.pt⟩
def wipeR (ρ : List En) : List Nat → List En
  | [] => ρ
  | v :: vs => (wipeR ρ vs).set v .no
/-- what a name had ahead, where that is a value -/
def keepE : Option En → En
  | some (.val d) => .val d
  | some (.obj v) => .obj v
  | _ => .no
def restR (ρ ρ2 : List En) : List Nat → List En
  | [] => ρ2
  | v :: vs => (restR ρ ρ2 vs).set v (keepE ρ[v]?)
def restS (σ σ2 : L2.St) : List Nat → L2.St
  | [] => σ2
  | v :: vs => (restS σ σ2 vs).set v (σ[v]?.getD none)
theorem restS_wipe (σ : L2.St) : ∀ vs : List Nat, restS σ (wipe σ vs) vs = σ := by
  have len : ∀ vs σ2, (restS σ σ2 vs).length = σ2.length := fun vs σ2 => by
    induction vs with
    | nil => rfl
    | cons v vs ih => unfold restS; rw [List.length_set, ih]
  have main : ∀ vs σ2, (σ2.length = σ.length) → (∀ j, j ∉ vs → σ2[j]? = σ[j]?) → restS σ σ2 vs = σ := fun vs => by
    induction vs with
    | nil => exact fun σ2 _ h => List.ext_getElem? fun j => h j (by simp)
    | cons v vs ih =>
      intro σ2 hl h
      refine List.ext_getElem? fun j => ?_
      unfold restS
      by_cases e : v = j
      · subst e
        by_cases hv : v < σ.length
        · rw [List.getElem?_set_self (by rw [len, hl]; exact hv), List.getElem?_eq_getElem hv]; rfl
        · rw [List.getElem?_eq_none (by rw [List.length_set, len, hl]; omega), List.getElem?_eq_none (by omega)]
      · rw [List.getElem?_set_ne e]
        by_cases hj : j ∈ vs
        · have key : ∀ vs σ2, σ2.length = σ.length → j ∈ vs → (restS σ σ2 vs)[j]? = σ[j]? := fun vs => by
            induction vs with
            | nil => intro _ _ z; cases z
            | cons u us ih2 =>
              intro σ2 hl hm
              unfold restS
              by_cases e2 : u = j
              · subst e2
                by_cases hv : u < σ.length
                · rw [List.getElem?_set_self (by rw [len, hl]; exact hv), List.getElem?_eq_getElem hv]; rfl
                · rw [List.getElem?_eq_none (by rw [List.length_set, len, hl]; omega), List.getElem?_eq_none (by omega)]
              · rw [List.getElem?_set_ne e2]
                exact ih2 σ2 hl (by rcases List.mem_cons.mp hm with q | q; exact absurd q.symm e2; exact q)
          exact key vs σ2 hl hj
        · have key : ∀ vs σ2, j ∉ vs → (restS σ σ2 vs)[j]? = σ2[j]? := fun vs => by
            induction vs with
            | nil => intro _ _; rfl
            | cons u us ih2 =>
              intro σ2 hm
              unfold restS
              rw [List.getElem?_set_ne (fun q => hm (by simp [q]))]
              exact ih2 σ2 (fun q => hm (List.mem_cons_of_mem _ q))
          rw [key vs σ2 hj]
          exact h j (by simp only [List.mem_cons, not_or]; exact ⟨fun q => e q.symm, hj⟩)
  exact fun vs => main vs _ (wipe_length σ vs) fun j hj => wipe_out hj
theorem wipe_but {σ σ' : L2.St} {sl vs : List Nat} (b : But sl (wipe σ vs) σ') (h : ∀ j ∈ sl, j ∈ vs) : wipe σ' vs = wipe σ vs := by
  refine List.ext_getElem? fun j => ?_
  by_cases hj : j ∈ vs
  · have key : ∀ (τ : L2.St) (us : List Nat), j ∈ us → (wipe τ us)[j]? = if j < τ.length then some none else none := fun τ us => by
      induction us with
      | nil => intro z; cases z
      | cons u us ih =>
        intro hm
        unfold wipe
        by_cases e : u = j
        · subst e
          split
          · rename_i hv; rw [List.getElem?_set_self (by rw [wipe_length]; exact hv)]
          · rw [List.getElem?_eq_none (by rw [List.length_set, wipe_length]; omega)]
        · rw [List.getElem?_set_ne e]
          exact ih (by rcases List.mem_cons.mp hm with q | q; exact absurd q.symm e; exact q)
    rw [key _ _ hj, key _ _ hj, b.1, wipe_length]
  · rw [wipe_out hj]
    exact b.2 j (fun q => hj (h j q))
section
variable {K : PySem.W.Frag} {c : Ct} {σ : L2.St} {H : Hp} {ρ : List En}
theorem Gd.wipe (g : Gd K c σ H ρ) : ∀ vs : List Nat, Gd K c (L2.wipe σ vs) H (wipeR ρ vs) ∧ ∀ a, Wr (wipeR ρ vs) a → Wr ρ a
  | [] => ⟨g, fun _ z => z⟩
  | v :: vs => by
    obtain ⟨h1, h2⟩ := Gd.wipe g vs
    exact ⟨h1.setNo v none, fun a z => h2 a (wr_set rfl a z)⟩
theorem wr_rest {ρ2 : List En} : ∀ (vs : List Nat) a, Wr (restR ρ ρ2 vs) a → Wr ρ2 a
  | [], _, z => z
  | v :: vs, a, z => by
    refine wr_rest vs a (wr_set ?_ a z)
    unfold keepE
    split <;> rfl
theorem Gd.rest {c' : Ct} {σ2 : L2.St} {H2 : Hp} {ρ2 : List En} (g : Gd K c σ H ρ) (g2 : Gd K c' σ2 H2 ρ2) (m : Mv (Mof c ρ) (Mof c' ρ2) H H2) : ∀ vs : List Nat, Gd K c' (restS σ σ2 vs) H2 (restR ρ ρ2 vs)
  | [] => g2
  | v :: vs => by
    have h1 := Gd.rest g g2 m vs
    have sub : ∀ a, Mof c' (restR ρ ρ2 vs) a → Mof c' ρ2 a := fun a z => by
      rcases z with z | ⟨i, d, z⟩
      · exact .inl z
      · have key : ∀ vs : List Nat, (restR ρ ρ2 vs)[i]? = some (.own a d) → ρ2[i]? = some (.own a d) := fun vs => by
          induction vs with
          | nil => exact fun z => z
          | cons u us ih =>
            intro z
            unfold restR at z
            rcases get_set z with ⟨_, z, _⟩ | ⟨_, z⟩
            · unfold keepE at z; split at z <;> cases z
            · exact ih z
        exact .inr ⟨i, d, key vs z⟩
    have m' : Mv (Mof c ρ) (Mof c' (restR ρ ρ2 vs)) H H2 := ⟨fun a z => m.own a (sub a z), m.kept⟩
    show Gd K c' ((restS σ σ2 vs).set v (σ[v]?.getD none)) H2 ((restR ρ ρ2 vs).set v (keepE ρ[v]?))
    cases e : ρ[v]? with
    | none => exact h1.setNo v _
    | some en =>
      cases en with
      | val d =>
        obtain ⟨x, e1, r1⟩ := g.val v d e
        rw [e1]
        exact h1.setVal v (r1.mv m')
      | obj x =>
        rw [g.obj v x e]
        exact h1.setObj v
      | _ => exact h1.setNo v _
end
structure LcP (vs : List Nat) (g : WG) (wt : WT) (we : WE) (s : Src) (ρ1 : List En) (k : PyData → List En → Prop) : Prop where
  run : ∃ P : Nat → List PyData → List En → Prop, P 0 [] (wipeR ρ1 vs) ∧ (∀ i acc ρ2, i ≤ s.items.length → P i acc ρ2 → s.ok ρ2) ∧
    (∀ i d acc ρ2, s.items[i]? = some d → P i acc ρ2 → g d ρ2 fun ρ3 => wt (fun _ _ => False) ρ3 fun b ρ4 => if b = true then we (fun _ _ => False) ρ4 fun r ρ5 => ∃ z ρ6, r.fz ρ5 = some (z, ρ6) ∧ acc.length < sizeLine ∧ P (i + 1) (acc ++ [z]) (wipeR ρ6 vs) else P (i + 1) acc (wipeR ρ4 vs)) ∧
    ∀ acc ρ2, P s.items.length acc ρ2 → k (.list acc) (restR ρ1 ρ2 vs)
def wLc (vs : List Nat) (wi : WI) (g : WG) (wt : WT) (we : WE) : WN := fun kx ρ k => wi kx ρ fun s ρ1 => LcP vs g wt we s ρ1 k
theorem Gd.poke {K : PySem.W.Frag} {c : Ct} {σ : L2.St} {H : Hp} {ρ : List En} (g : Gd K c σ H ρ) {D : Addr} {o : HO} (hM : c.M D) (hW : c.W D) (hn : ¬ Wr ρ D) : Gd K c σ (upd H D o) ρ := by
  have m : Mv (Mof c ρ) (Mof c ρ) H (upd H D o) := mv_upd (.inl hM)
  have mw : Mv (Wof c ρ) (Wof c ρ) H (upd H D o) := mv_upd (.inl hW)
  have keep : ∀ {l : Addr} {u : HO}, l ≠ D → H l = some u → upd H D o l = some u := fun ne e => by rw [upd_ne ne]; exact e
  refine ⟨g.len, fun i d z => ?_, fun i d z => ?_, fun i l d z => ?_, fun i l d z => ?_, g.obj, g.uo, g.ui, fun b u e n => ?_, g.wm, fun a z => ?_⟩
  · obtain ⟨v, a, b⟩ := g.val i d z; exact ⟨v, a, b.mv m⟩
  · obtain ⟨v, a, b⟩ := g.rd i d z; exact ⟨v, a, b.mv m mw⟩
  · obtain ⟨a1, a2, a3, a4⟩ := g.own i l d z
    exact ⟨a1, a2.mv m fun u e => keep (fun q : l = D => hn (by rw [← q]; exact ⟨i, d, .inl z⟩)) e, a3, a4⟩
  · obtain ⟨a1, a2, a3⟩ := g.io i l d z
    exact ⟨a1, a2.mv m fun u e => keep (fun q : l = D => hn (by rw [← q]; exact ⟨i, d, .inr z⟩)) e, a3⟩
  · exact keep (fun q => n (by rw [q]; exact hW)) (g.fr b u e n)
  · by_cases q : a = D
    · subst q; rw [upd_same]; intro z; cases z
    · rw [upd_ne q]; exact g.th a z
abbrev EN : EK := fun _ _ _ _ => False
theorem lc_run {sl vs : List Nat} {wi : WI} {g : WG} {wt : WT} {we : WE} (hsl : ∀ j ∈ sl, j ∈ vs) {σ : L2.St} {H : Hp} {Q : VK} (h : lN X E (wLc vs wi g wt we) σ H Q) :
    tLc (lI X E wi) (lG X.K sl g) (lT X EN wt) (lE X EN we) vs σ H Q := by
  obtain ⟨c, ρ, k, kx, gd, hw, hk, hx⟩ := h
  refine ⟨c, ρ, _, kx, gd, hw, fun s ρ1 J H1 k1 g1 e1 ok1 wk => ?_, hx⟩
  obtain ⟨P, h0, hok, turn, done⟩ := k1.run
  intro D hD
  have nD1 : ¬ Wr ρ1 D := fun z => g1.mth (g1.wsub (g1.wr_w z)) hD
  have g1' : Gd X.K (c.more D) σ (upd H1 D (.lst [])) ρ1 := g1.more hD (sm_upd hD) (by rw [upd_same]; intro z; cases z)
  obtain ⟨gw, sw⟩ := g1'.wipe vs
  have mvs : ∀ {ρ2 : List En} {H2 : Hp}, Ev c ρ1 H1 ρ2 H2 → Mv (Mof c ρ1) (Mof (c.more D) ρ2) H1 H2 ∧ Mv (Wof c ρ1) (Wof (c.more D) ρ2) H1 H2 := fun {ρ2 H2} e => by
    refine ⟨⟨fun a z => ?_, (e.mv g1).kept⟩, ⟨fun a z => ?_, (e.mvw g1).kept⟩⟩
    · rcases z with (z | rfl) | z
      · exact .inl (.inl z)
      · exact .inr hD
      · exact (e.mv g1).own a (.inr z)
    · rcases z with (z | rfl) | z
      · exact .inl (.inl z)
      · exact .inr hD
      · exact (e.mvw g1).own a (.inr z)
  let Iv : Nat → Hp → Prop := fun i H2 => ∃ acc accV ρ2, P i acc ρ2 ∧ Gd X.K (c.more D) (L2.wipe σ vs) H2 ρ2 ∧ Ev c ρ1 H1 ρ2 H2 ∧ H2 D = some (.lst accV) ∧ RepAll X.K (Mof (c.more D) ρ2) H2 acc accV ∧ ¬ Wr ρ2 D
  refine ⟨fun i m H2 => m = s.items.length - i ∧ i ≤ s.items.length ∧ Iv i H2, ⟨_, rfl, Nat.zero_le _, [], [], wipeR ρ1 vs, h0, gw, ⟨fun b o e n => sm_upd hD b o e, fun a z => .inl (sw a z), fun a z => ?_⟩, upd_same, rfl, fun z => nD1 (sw D z)⟩, ?_⟩
  · cases e : H1 a with
    | none => rfl
    | some o => rw [sm_upd hD a o e] at z; cases z
  rintro i m H2 ⟨rfl, hle, acc, accV, ρ2, p2, g2, e2, hD2, ra2, nD2⟩
  obtain ⟨mM, mW⟩ := mvs e2
  have lt : Lt X.K c ρ1 H1 (c.more D) (L2.wipe σ vs) ρ2 H2 s := ⟨g2, mM, mW, hok i acc ρ2 hle p2⟩
  by_cases hlt : i < s.items.length
  · refine .inr ⟨wk.go _ _ _ _ i lt hlt, fun H3 => Iv (i + 1) H3, fun H3 q => ⟨_, by omega, rfl, hlt, q⟩, fun x H3 y => ?_⟩
    obtain ⟨sm, d, hd, rd⟩ := wk.yld _ _ _ _ i x H3 lt hlt y
    have g3 := g2.same sm
    have e3 : Ev (c.more D) ρ2 H2 ρ2 H3 := .same sm
    refine ⟨c.more D, ρ2, d, _, g3, rd, turn i d acc ρ2 hd p2, fun σ4 ρ4 k4 g4 e4 but => ⟨wipe_but but hsl, ?_⟩⟩
    refine ⟨c.more D, ρ4, _, fun _ _ => False, g4, k4, fun b ρ5 H5 k5 g5 e5 => ?_, fun _ _ _ _ _ z => z.elim⟩
    have e25 := (e3.trans e4).trans e5
    cases b with
    | false =>
      obtain ⟨g6, s6⟩ := g5.wipe vs
      rw [wipe_but but hsl] at g6
      have e26 : Ev (c.more D) ρ2 H2 (wipeR ρ5 vs) H5 := e25.trans (.shrink s6)
      refine ⟨acc, accV, wipeR ρ5 vs, k5, g6, e2.trans e26.any, e26.kept _ _ hD2 nD2, ra2.mv (e26.mv g2), fun z => ?_⟩
      rcases e26.own D z with z | z
      · exact nD2 z
      · rw [hD2] at z; cases z
    | true =>
      refine ⟨c.more D, ρ5, _, fun _ _ => False, g5, k5, fun r ρ6 v H6 k6 g6 e6 p6 => ?_, fun _ _ _ _ _ z => z.elim⟩
      obtain ⟨z, ρ7, hf, hl, k7⟩ := k6
      obtain ⟨g7, e7, r7⟩ := p6.fz g6 hf
      have e27 := (e25.trans e6).trans e7
      have hD6 : H6 D = some (.lst accV) := e27.kept _ _ hD2 nD2
      have nD7 : ¬ Wr ρ7 D := fun z => by
        rcases e27.own D z with z | z
        · exact nD2 z
        · rw [hD2] at z; cases z
      have ra7 := ra2.mv (e27.mv g2)
      refine ⟨accV, hD6, by rw [ra7.len]; exact hl, ?_⟩
      have hM : (c.more D).M D := .inr rfl
      have hWD : (c.more D).W D := .inr rfl
      have g8 := g7.poke (o := .lst (accV ++ [v])) hM hWD nD7
      obtain ⟨g9, s9⟩ := g8.wipe vs
      rw [wipe_but but hsl] at g9
      have sub9 : ∀ a, Mof (c.more D) (wipeR ρ7 vs) a → Mof (c.more D) ρ7 a := fun a z => by
        rcases z with z | z
        · exact .inl z
        · exact g7.wsub (g7.wr_w (s9 a (oof_wrS z)))
      refine ⟨acc ++ [z], accV ++ [v], wipeR ρ7 vs, k7, g9, ?_, upd_same, ((ra7.app (.one r7)).mv (mv_upd (.inl hM))).mv (Mv.sub sub9), fun z => nD7 (s9 D z)⟩
      have e17 : Ev c ρ1 H1 ρ7 H6 := e2.trans e27.any
      refine ⟨fun b o e n => ?_, fun a z => e17.own a (s9 a z), fun a z => ?_⟩
      · rw [upd_ne (ne_of_none e hD)]; exact e17.kept b o e n
      · by_cases q : a = D
        · subst q; exact hD
        · rw [upd_ne q] at z; exact e17.there a z
  · have e : i = s.items.length := by omega
    subst e
    refine .inl ⟨wk.stop _ _ _ _ lt, ?_⟩
    have gr := Gd.rest g1 g2 mM vs
    rw [restS_wipe] at gr
    have er : Ev c ρ1 H1 (restR ρ1 ρ2 vs) H2 := e2.trans (.shrink (wr_rest vs))
    refine hk _ _ D H2 (done acc ρ2 p2) gr (e1.trans er) (e1.there D hD) (fun j d z => nD2 (wr_rest vs D ⟨j, d, .inr z⟩)) ⟨accV, hD2, ra2.mv (Mv.sub fun a z => ?_)⟩
    rcases z with z | z
    · exact .inl z
    · exact g2.wsub (g2.wr_w (wr_rest vs a (oof_wrS z)))
theorem bn_lc {sl vs : List Nat} {wi : WI} {g : WG} {wt : WT} {we : WE} (hsl : ∀ j ∈ sl, j ∈ vs) (h : PE X e (tLc (lI X E wi) (lG X.K sl g) (lT X EN wt) (lE X EN we) vs)) : BN X E e (wLc vs wi g wt we) :=
  ⟨peI h fun σ H Q q => lc_run hsl q⟩
theorem setN_run {i : Nat} {wn : WN} {D : Ends} {σ : L2.St} {H : Hp} (h : lS X E (wSetN i wn) D σ H) : lN X E wn σ H fun x H1 => D.nx (σ.set i (some x)) H1 := by
  obtain ⟨c, ρ, W, g, hw, h⟩ := h
  refine ⟨c, ρ, _, W.ex, g, hw, fun d ρ1 p H1 k1 g1 e1 hp ni ha => ?_, h.exok⟩
  refine h.nx _ _ _ (k1 p) (g1.setOwn g.wm ni i ha (h0_none g hp).2 (h0_none g hp).1) ⟨e1.kept, fun a z => ?_, e1.there⟩
  obtain ⟨j, d', z | z⟩ := z
  · rcases get_set z with ⟨_, z, _⟩ | ⟨_, z⟩
    · cases z; exact .inr hp
    · exact e1.own a ⟨j, d', .inl z⟩
  · rcases get_set z with ⟨_, z, _⟩ | ⟨_, z⟩
    · cases z
    · exact e1.own a ⟨j, d', .inr z⟩
/-- name = [..], to be changed later -/
theorem bs_setLcN {st : Stmt} {i : Nat} {sl vs : List Nat} {wi : WI} {g : WG} {wt : WT} {we : WE} (hsl : ∀ j ∈ sl, j ∈ vs) (h : PS X st (tAsg (tLc (lI X E wi) (lG X.K sl g) (lT X EN wt) (lE X EN we) vs) (gName i))) : BS X E st (wSetN i (wLc vs wi g wt we)) :=
  ⟨psI h fun D σ H q => lc_run hsl (setN_run q)⟩
def wSetV (i : Nat) (wn : WN) : WS := fun W ρ => wn W.ex ρ fun d ρ1 => W.nx (ρ1.set i (.val d))
theorem setV_run {i : Nat} {wn : WN} {D : Ends} {σ : L2.St} {H : Hp} (h : lS X E (wSetV i wn) D σ H) : lN X E wn σ H fun x H1 => D.nx (σ.set i (some x)) H1 := by
  obtain ⟨c, ρ, W, g, hw, h⟩ := h
  refine ⟨c, ρ, _, W.ex, g, hw, fun d ρ1 p H1 k1 g1 e1 hp ni ha => ?_, h.exok⟩
  have h0 := (h0_none g hp).1
  have g2 := g1.less g.wm ni h0
  have n : ¬ Mof c ρ1 p := fun z => by
    rcases z with z | ⟨i, d', z⟩
    · exact g.th p z hp
    · exact (g1.own i p d' z).2.2.1 (.inr rfl)
  have ha' : At X.K (fun a => Mof c ρ1 a ∨ a = p) H1 p d := At.mv (Mv.sub fun a w => by
    rcases w with w | rfl
    · exact w.imp .inl id
    · exact .inl (.inr rfl)) (fun _ w => w) ha
  exact h.nx _ _ _ k1 (g2.setVal i (ha'.rep n)) (e1.trans (.setNO rfl))
/-- name = [..] -/
theorem bs_setLc {st : Stmt} {i : Nat} {sl vs : List Nat} {wi : WI} {g : WG} {wt : WT} {we : WE} (hsl : ∀ j ∈ sl, j ∈ vs) (h : PS X st (tAsg (tLc (lI X E wi) (lG X.K sl g) (lT X EN wt) (lE X EN we) vs) (gName i))) : BS X E st (wSetV i (wLc vs wi g wt we)) :=
  ⟨psI h fun D σ H q => lc_run hsl (setV_run q)⟩
theorem bs_setV {st : Stmt} {i : Nat} {wn : WN} (mk : ∀ {te : TE}, PE X e te → PS X st (tAsg te (gName i))) (he : BN X E e wn) : BS X E st (wSetV i wn) :=
  ⟨psI (mk he.pe) fun D σ H q => setV_run q⟩
end
end LB

/-! LB, part 8: defs and calls by value. -/
namespace LB
open PySem PySem.Spec PyProof.Rows L2
/-- how an argument is handed in: kept as a value; read; lent to be changed -/
inductive Md where
  | v | r | m
abbrev Spc := List PyData → (PyData → List PyData → Prop) → (Xn → List PyData → Prop) → Prop
def ArgsOk (K : PySem.W.Frag) (M W : Ow) (H : Hp) : List Md → List V → List PyData → List Addr → Prop
  | [], vs, xs, ws => vs = [] ∧ xs = [] ∧ ws = []
  | .v :: ms, vs, xs, ws => ∃ v vs' x xs', vs = v :: vs' ∧ xs = x :: xs' ∧ Rep K M H x v ∧ ArgsOk K M W H ms vs' xs' ws
  | .r :: ms, vs, xs, ws => ∃ v vs' x xs', vs = v :: vs' ∧ xs = x :: xs' ∧ See K M W H x v ∧ ArgsOk K M W H ms vs' xs' ws
  | .m :: ms, vs, xs, ws => ∃ l vs' x xs' ws', vs = .ref l :: vs' ∧ xs = x :: xs' ∧ ws = l :: ws' ∧ (M l ∧ W l ∧ At K M H l x) ∧ ArgsOk K M W H ms vs' xs' ws'
def OutOk (K : PySem.W.Frag) (M : Ow) (H : Hp) : List Addr → List PyData → Prop
  | [], outs => outs = []
  | l :: ws, outs => ∃ o r, outs = o :: r ∧ At K M H l o ∧ OutOk K M H ws r
structure Beh (ws : List Addr) (H H' : Hp) : Prop where
  fr : ∀ b o, H b = some o → b ∉ ws → H' b = some o
  th : ∀ a, H' a = none → H a = none
def inL (ws : List Addr) : Ow := fun a => a ∈ ws
def orP (M : Ow) (p : Addr) : Ow := fun a => M a ∨ a = p
/-- a def's promise by value; its result is a value -/
def spV (K : PySem.W.Frag) (ms : List Md) (S : Spc) : Sp := fun vs H Q E => ∃ M xs ws k kx, Thr M H ∧ ArgsOk K M (inL ws) H ms vs xs ws ∧ ws.Nodup ∧ S xs k kx ∧
  (∀ d outs v H', k d outs → Beh ws H H' → OutOk K M H' ws outs → Rep K M H' d v → Q v H') ∧ ∀ x outs cl ad H', kx x outs → Beh ws H H' → OutOk K M H' ws outs → RepX K H' x cl ad → E cl ad H'
/-- .. its result is a new list -/
def spN (K : PySem.W.Frag) (ms : List Md) (S : Spc) : Sp := fun vs H Q E => ∃ M xs ws k kx, Thr M H ∧ ArgsOk K M (inL ws) H ms vs xs ws ∧ ws.Nodup ∧ S xs k kx ∧
  (∀ d outs p H', k d outs → Beh ws H H' → OutOk K (orP M p) H' ws outs → H p = none → At K (orP M p) H' p d → Q (.ref p) H') ∧ ∀ x outs cl ad H', kx x outs → Beh ws H H' → OutOk K M H' ws outs → RepX K H' x cl ad → E cl ad H'
theorem args_len {K : PySem.W.Frag} {M W : Ow} {H : Hp} : ∀ {ms : List Md} {vs : List V} {xs : List PyData} {ws : List Addr}, ArgsOk K M W H ms vs xs ws → vs.length = ms.length
  | [], _, _, _, h => by rw [h.1]; rfl
  | .v :: ms, _, _, _, h => by obtain ⟨v, vs', x, xs', rfl, rfl, _, h⟩ := h; simp [args_len h]
  | .r :: ms, _, _, _, h => by obtain ⟨v, vs', x, xs', rfl, rfl, _, h⟩ := h; simp [args_len h]
  | .m :: ms, _, _, _, h => by obtain ⟨v, vs', x, xs', ws', rfl, rfl, rfl, _, h⟩ := h; simp [args_len h]
theorem spV_len {K : PySem.W.Frag} {ms : List Md} {S : Spc} {n : Nat} (hn : ms.length = n) : ∀ vs H Q E, spV K ms S vs H Q E → vs.length = n := fun vs H Q E h => by
  obtain ⟨M, xs, ws, k, kx, _, a, _⟩ := h; rw [args_len a, hn]
theorem spN_len {K : PySem.W.Frag} {ms : List Md} {S : Spc} {n : Nat} (hn : ms.length = n) : ∀ vs H Q E, spN K ms S vs H Q E → vs.length = n := fun vs H Q E h => by
  obtain ⟨M, xs, ws, k, kx, _, a, _⟩ := h; rw [args_len a, hn]

/-! ### a def's body -/
def mkEn : List Md → List PyData → List Addr → List En
  | .v :: ms, x :: xs, ws => .val x :: mkEn ms xs ws
  | .r :: ms, x :: xs, ws => .rd x :: mkEn ms xs ws
  | .m :: ms, x :: xs, l :: ws => .io l x :: mkEn ms xs ws
  | _, _, _ => []
def Outs : List Md → List En → List Addr → List PyData → Prop
  | [], _, ws, outs => ws = [] ∧ outs = []
  | .m :: ms, e :: ρ, l :: ws, outs => ∃ o r, outs = o :: r ∧ e = .io l o ∧ Outs ms ρ ws r
  | .m :: _, _, _, _ => False
  | .v :: ms, _ :: ρ, ws, outs => Outs ms ρ ws outs
  | .r :: ms, _ :: ρ, ws, outs => Outs ms ρ ws outs
  | _ :: _, [], _, _ => False
/-- what a def's body is to reach -/
def wdV (ms : List Md) (ws : List Addr) (k : PyData → List PyData → Prop) (kx : Xn → List PyData → Prop) : WD where
  nx := fun ρ => ∃ outs, Outs ms ρ ws outs ∧ k .none outs
  rt := fun r ρ => ∃ d ρ' outs, r.fz ρ = some (d, ρ') ∧ Outs ms ρ' ws outs ∧ k d outs
  rn := fun d ρ => ∃ outs, Outs ms ρ ws outs ∧ k d outs
  bk := fun _ => False
  ct := fun _ => False
  ex := fun x ρ => ∃ outs, Outs ms ρ ws outs ∧ kx x outs
def wdN (ms : List Md) (ws : List Addr) (k : PyData → List PyData → Prop) (kx : Xn → List PyData → Prop) : WD where
  nx := fun _ => False
  rt := fun _ _ => False
  rn := fun d ρ => ∃ outs, Outs ms ρ ws outs ∧ k d outs
  bk := fun _ => False
  ct := fun _ => False
  ex := fun x ρ => ∃ outs, Outs ms ρ ws outs ∧ kx x outs
section
variable {K : PySem.W.Frag} {M W : Ow} {H : Hp}
theorem mk_len : ∀ {ms : List Md} {vs : List V} {xs : List PyData} {ws : List Addr}, ArgsOk K M W H ms vs xs ws → (mkEn ms xs ws).length = vs.length
  | [], _, _, _, h => by obtain ⟨rfl, rfl, rfl⟩ := h; rfl
  | .v :: ms, _, _, _, h => by obtain ⟨v, vs', x, xs', rfl, rfl, _, h⟩ := h; simp [mkEn, mk_len h]
  | .r :: ms, _, _, _, h => by obtain ⟨v, vs', x, xs', rfl, rfl, _, h⟩ := h; simp [mkEn, mk_len h]
  | .m :: ms, _, _, _, h => by obtain ⟨v, vs', x, xs', ws', rfl, rfl, rfl, _, h⟩ := h; simp [mkEn, mk_len h]
def EnOk (K : PySem.W.Frag) (M W : Ow) (H : Hp) (ws : List Addr) (v : V) : En → Prop
  | .val d => Rep K M H d v
  | .rd d => See K M W H d v
  | .io l d => v = .ref l ∧ M l ∧ W l ∧ At K M H l d ∧ l ∈ ws
  | _ => False
theorem mk_get : ∀ {ms : List Md} {vs : List V} {xs : List PyData} {ws : List Addr} {i : Nat} {e : En}, ArgsOk K M W H ms vs xs ws → (mkEn ms xs ws)[i]? = some e → ∃ v, vs[i]? = some v ∧ EnOk K M W H ws v e
  | [], _, _, _, i, e, h, z => by obtain ⟨rfl, rfl, rfl⟩ := h; simp [mkEn] at z
  | .v :: ms, _, _, _, i, e, h, z => by
    obtain ⟨v, vs', x, xs', rfl, rfl, r, h⟩ := h
    cases i with
    | zero => simp [mkEn] at z; subst z; exact ⟨v, rfl, r⟩
    | succ i => exact mk_get h (i := i) (by simpa [mkEn] using z)
  | .r :: ms, _, _, _, i, e, h, z => by
    obtain ⟨v, vs', x, xs', rfl, rfl, r, h⟩ := h
    cases i with
    | zero => simp [mkEn] at z; subst z; exact ⟨v, rfl, r⟩
    | succ i => exact mk_get h (i := i) (by simpa [mkEn] using z)
  | .m :: ms, _, _, _, i, e, h, z => by
    obtain ⟨l, vs', x, xs', ws', rfl, rfl, rfl, ⟨r1, r2, r3⟩, h⟩ := h
    cases i with
    | zero => simp [mkEn] at z; subst z; exact ⟨_, rfl, rfl, r1, r2, r3, by simp⟩
    | succ i =>
      obtain ⟨v, h1, h2⟩ := mk_get h (i := i) (e := e) (by simpa [mkEn] using z)
      refine ⟨v, h1, ?_⟩
      cases e with
      | io l' d => exact ⟨h2.1, h2.2.1, h2.2.2.1, h2.2.2.2.1, List.mem_cons_of_mem _ h2.2.2.2.2⟩
      | _ => exact h2
theorem mk_uniq : ∀ {ms : List Md} {vs : List V} {xs : List PyData} {ws : List Addr} {i j : Nat} {l : Addr} {d e : PyData}, ArgsOk K M W H ms vs xs ws → ws.Nodup → (mkEn ms xs ws)[i]? = some (.io l d) → (mkEn ms xs ws)[j]? = some (.io l e) → i = j
  | [], _, _, _, i, j, l, d, e, h, nd, z, y => by obtain ⟨rfl, rfl, rfl⟩ := h; simp [mkEn] at z
  | .v :: ms, _, _, _, i, j, l, d, e, h, nd, z, y => by
    obtain ⟨v, vs', x, xs', rfl, rfl, r, h⟩ := h
    cases i with
    | zero => simp [mkEn] at z
    | succ i => cases j with
      | zero => simp [mkEn] at y
      | succ j => rw [mk_uniq h nd (i := i) (j := j) (by simpa [mkEn] using z) (by simpa [mkEn] using y)]
  | .r :: ms, _, _, _, i, j, l, d, e, h, nd, z, y => by
    obtain ⟨v, vs', x, xs', rfl, rfl, r, h⟩ := h
    cases i with
    | zero => simp [mkEn] at z
    | succ i => cases j with
      | zero => simp [mkEn] at y
      | succ j => rw [mk_uniq h nd (i := i) (j := j) (by simpa [mkEn] using z) (by simpa [mkEn] using y)]
  | .m :: ms, _, _, _, i, j, l, d, e, h, nd, z, y => by
    obtain ⟨a, vs', x, xs', ws', rfl, rfl, rfl, _, h⟩ := h
    obtain ⟨n1, n2⟩ := List.nodup_cons.mp nd
    cases i with
    | zero =>
      simp [mkEn] at z
      cases j with
      | zero => rfl
      | succ j =>
        obtain ⟨v, _, q⟩ := mk_get h (i := j) (e := .io l e) (by simpa [mkEn] using y)
        exact absurd q.2.2.2.2 (by rw [← z.1]; exact n1)
    | succ i =>
      cases j with
      | zero =>
        simp [mkEn] at y
        obtain ⟨v, _, q⟩ := mk_get h (i := i) (e := .io l d) (by simpa [mkEn] using z)
        exact absurd q.2.2.2.2 (by rw [← y.1]; exact n1)
      | succ j => rw [mk_uniq h n2 (i := i) (j := j) (by simpa [mkEn] using z) (by simpa [mkEn] using y)]
/-- the frame at a def's entry -/
theorem entry {ms : List Md} {vs : List V} {xs : List PyData} {ws : List Addr} {N : List Str} (th : Thr M H) (a : ArgsOk K M (inL ws) H ms vs xs ws) (nd : ws.Nodup) :
    Gd K ⟨M, inL ws, H⟩ (start N vs) H (mkEn ms xs ws ++ List.replicate (N.length - ms.length) .no) := by
  have hl := mk_len a
  have hal := args_len a
  have inW : ∀ l, l ∈ ws → M l := by
    clear hl hal nd th
    have key : ∀ {ms : List Md} {vs : List V} {xs : List PyData} {us : List Addr}, ArgsOk K M (inL ws) H ms vs xs us → ∀ l ∈ us, M l := fun {ms} => by
      induction ms with
      | nil => intro vs xs us h l hl; obtain ⟨_, _, rfl⟩ := h; cases hl
      | cons m ms ih =>
        intro vs xs us h l hl
        cases m with
        | v => obtain ⟨v, vs', x, xs', rfl, rfl, r, h⟩ := h; exact ih h l hl
        | r => obtain ⟨v, vs', x, xs', rfl, rfl, r, h⟩ := h; exact ih h l hl
        | m =>
          obtain ⟨a, vs', x, xs', ws', rfl, rfl, rfl, r, h⟩ := h
          rcases List.mem_cons.mp hl with rfl | hl
          · exact r.1
          · exact ih h l hl
    exact key a
  have g : ∀ {i : Nat} {e : En}, (mkEn ms xs ws ++ List.replicate (N.length - ms.length) .no)[i]? = some e → e = .no ∨ (∃ v, (start N vs)[i]? = some (some v) ∧ EnOk K M (inL ws) H ws v e ∧ (mkEn ms xs ws)[i]? = some e) := fun {i e} z => by
    by_cases hi : i < (mkEn ms xs ws).length
    · rw [List.getElem?_append_left hi] at z
      obtain ⟨v, h1, h2⟩ := mk_get a z
      refine .inr ⟨v, ?_, h2, z⟩
      unfold L2.start
      rw [List.getElem?_append_left (by rw [List.length_map, ← hl]; exact hi), List.getElem?_map, h1]; rfl
    · rw [List.getElem?_append_right (by omega)] at z
      rw [List.getElem?_replicate] at z
      split at z
      · cases z; exact .inl rfl
      · cases z
  have nown : ∀ x, ¬ Oof (mkEn ms xs ws ++ List.replicate (N.length - ms.length) .no) x := fun x ⟨i, d, z⟩ => by
    rcases g z with q | ⟨v, _, q, _⟩
    · cases q
    · exact q
  have mM : Mv M (Mof ⟨M, inL ws, H⟩ (mkEn ms xs ws ++ List.replicate (N.length - ms.length) .no)) H H := Mv.sub fun x z => z.elim id fun q => (nown x q).elim
  have mW : Mv (inL ws) (Wof ⟨M, inL ws, H⟩ (mkEn ms xs ws ++ List.replicate (N.length - ms.length) .no)) H H := Mv.sub fun x z => z.elim id fun q => (nown x q).elim
  refine ⟨?_, fun i d z => ?_, fun i d z => ?_, fun i l d z => ?_, fun i l d z => ?_, fun i v z => ?_, fun i j l d e z y => ?_, fun i j l d e z y => ?_, fun _ _ h _ => h, inW, th⟩
  · unfold L2.start
    rw [List.length_append, List.length_append, List.length_map, List.length_replicate, List.length_replicate, hl, hal]
  · rcases g z with q | ⟨v, h1, q, _⟩
    · cases q
    · exact ⟨v, h1, Rep.mv mM q⟩
  · rcases g z with q | ⟨v, h1, q, _⟩
    · cases q
    · exact ⟨v, h1, See.mv mM mW q⟩
  · rcases g z with q | ⟨v, h1, q, _⟩
    · cases q
    · exact q.elim
  · rcases g z with q | ⟨v, h1, q, _⟩
    · cases q
    · obtain ⟨rfl, q1, q2, q3, _⟩ := q
      exact ⟨h1, q3.mv mM fun _ z => z, q2⟩
  · rcases g z with q | ⟨v, h1, q, _⟩
    · cases q
    · exact q.elim
  · exact ((nown l) ⟨i, d, z⟩).elim
  · rcases g z with q | ⟨v, h1, _, q⟩
    · cases q
    · rcases g y with q' | ⟨v', h1', _, q'⟩
      · cases q'
      · exact mk_uniq a nd q q'
theorem outs_ok {c : Ct} {σ : L2.St} {H' : Hp} {M' : Ow} : ∀ {ms : List Md} {n : Nat} {ρ ρ' : List En} {ws : List Addr} {outs : List PyData}, Gd K c σ H' ρ' → (∀ j e, ρ[j]? = some e → ρ'[n + j]? = some e) → (∀ a, M' a → Mof c ρ' a) → Outs ms ρ ws outs → OutOk K M' H' ws outs
  | [], n, ρ, ρ', ws, outs, g, hp, hM, h => by obtain ⟨rfl, rfl⟩ := h; rfl
  | .m :: ms, n, e :: ρ, ρ', l :: ws, outs, g, hp, hM, h => by
    obtain ⟨o, r, rfl, rfl, h⟩ := h
    have h0 : ρ'[n]? = some (.io l o) := by have := hp 0 _ rfl; simpa using this
    refine ⟨o, r, rfl, (g.io n l o h0).2.1.mv (Mv.sub hM) (fun _ z => z), outs_ok (n := n + 1) (ρ := ρ) g (fun j e z => ?_) hM h⟩
    have := hp (j + 1) e (by simpa using z)
    rwa [show n + 1 + j = n + (j + 1) by omega]
  | .m :: _, n, [], _, _, _, _, _, _, h => by exact h.elim
  | .m :: _, n, _ :: _, _, [], _, _, _, _, h => by exact h.elim
  | .v :: ms, n, e :: ρ, ρ', ws, outs, g, hp, hM, h => outs_ok (n := n + 1) (ρ := ρ) g (fun j e z => by have := hp (j + 1) e (by simpa using z); rwa [show n + 1 + j = n + (j + 1) by omega]) hM h
  | .r :: ms, n, e :: ρ, ρ', ws, outs, g, hp, hM, h => outs_ok (n := n + 1) (ρ := ρ) g (fun j e z => by have := hp (j + 1) e (by simpa using z); rwa [show n + 1 + j = n + (j + 1) by omega]) hM h
  | .v :: _, _, [], _, _, _, _, _, _, h => by exact h.elim
  | .r :: _, _, [], _, _, _, _, _, _, h => by exact h.elim
/-- a body's end -/
theorem eok_V {E0 : XK} {N : List Str} {ms : List Md} {vs : List V} {xs : List PyData} {ws : List Addr} {k : PyData → List PyData → Prop} {kx : Xn → List PyData → Prop} {Q : VK} {ρ0 : List En} {E : EK}
    (hk : ∀ d outs v H', k d outs → Beh ws H H' → OutOk K M H' ws outs → Rep K M H' d v → Q v H') (hx : ∀ x outs cl ad H', kx x outs → Beh ws H H' → OutOk K M H' ws outs → RepX K H' x cl ad → E0 cl ad H') (hE : ∀ σ cl ad H', E0 cl ad H' → E σ cl ad H') :
    EOk K E ⟨M, inL ws, H⟩ ρ0 H (wdV ms ws k kx) { nx := fun _ H' => Q .non H', rt := Q } := by
  have beh : ∀ {c' : Ct} {σ' : L2.St} {ρ' : List En} {H' : Hp}, Gd K c' σ' H' ρ' → c'.H0 = H → (∀ a, c'.W a → c'.M a → a ∈ ws ∨ H a = none) → Ev ⟨M, inL ws, H⟩ ρ0 H ρ' H' → Beh ws H H' := fun {c' σ' ρ' H'} g e0 ew e => by
    refine ⟨fun b o h n => g.fr b o (by rw [e0]; exact h) fun w => ?_, e.there⟩
    rcases ew b w (g.wm b w) with q | q
    · exact n q
    · rw [h] at q; cases q
  have ew0 : ∀ a, (⟨M, inL ws, H⟩ : Ct).W a → (⟨M, inL ws, H⟩ : Ct).M a → a ∈ ws ∨ H a = none := fun a z _ => .inl z
  refine ⟨fun σ' ρ' H' ⟨outs, h1, h2⟩ g e => ?_, fun r σ' ρ' v H' ⟨d, ρ1, outs, hf, h1, h2⟩ g e p => ?_, fun d σ' ρ' p H' ⟨outs, h1, h2⟩ g e hp nm ni ha => ?_, fun σ' ρ' H' z _ _ => z.elim, fun σ' ρ' H' z _ _ => z.elim, fun x σ' ρ' cl ad H' ⟨outs, h1, h2⟩ g e rx => ?_⟩
  · exact hk _ outs _ H' h2 (beh g rfl ew0 e) (outs_ok (n := 0) g (fun j e z => by simpa using z) (fun a z => .inl z) h1) rfl
  · obtain ⟨g1, e1, r1⟩ := p.fz g hf
    exact hk d outs v H' h2 (beh g1 rfl ew0 (e.trans e1)) (outs_ok (n := 0) g1 (fun j e z => by simpa using z) (fun a z => .inl z) h1) (r1.mv (Mv.sub fun a z => .inl z))
  · refine hk d outs _ H' h2 (beh g rfl (fun a z _ => ?_) e) (outs_ok (n := 0) g (fun j e z => by simpa using z) (fun a z => .inl (.inl z)) h1) ?_
    · rcases z with z | rfl
      · exact .inl z
      · exact .inr hp
    · exact At.rep (At.mv (Mv.sub fun a z => by
        rcases z with z | rfl
        · exact .inl (.inl z)
        · exact .inl (.inr rfl)) (fun _ z => z) ha) nm
  · exact hE _ _ _ _ (hx x outs cl ad H' h2 (beh g rfl ew0 e) (outs_ok (n := 0) g (fun j e z => by simpa using z) (fun a z => .inl z) h1) rx)
theorem eok_N {E0 : XK} {ms : List Md} {ws : List Addr} {k : PyData → List PyData → Prop} {kx : Xn → List PyData → Prop} {Q : VK} {ρ0 : List En} {E : EK}
    (hk : ∀ d outs p H', k d outs → Beh ws H H' → OutOk K (orP M p) H' ws outs → H p = none → At K (orP M p) H' p d → Q (.ref p) H') (hx : ∀ x outs cl ad H', kx x outs → Beh ws H H' → OutOk K M H' ws outs → RepX K H' x cl ad → E0 cl ad H') (hE : ∀ σ cl ad H', E0 cl ad H' → E σ cl ad H') :
    EOk K E ⟨M, inL ws, H⟩ ρ0 H (wdN ms ws k kx) { nx := fun _ H' => Q .non H', rt := Q } := by
  have beh : ∀ {c' : Ct} {σ' : L2.St} {ρ' : List En} {H' : Hp}, Gd K c' σ' H' ρ' → c'.H0 = H → (∀ a, c'.W a → c'.M a → a ∈ ws ∨ H a = none) → Ev ⟨M, inL ws, H⟩ ρ0 H ρ' H' → Beh ws H H' := fun {c' σ' ρ' H'} g e0 ew e => by
    refine ⟨fun b o h n => g.fr b o (by rw [e0]; exact h) fun w => ?_, e.there⟩
    rcases ew b w (g.wm b w) with q | q
    · exact n q
    · rw [h] at q; cases q
  have ew0 : ∀ a, (⟨M, inL ws, H⟩ : Ct).W a → (⟨M, inL ws, H⟩ : Ct).M a → a ∈ ws ∨ H a = none := fun a z _ => .inl z
  refine ⟨fun σ' ρ' H' z _ _ => z.elim, fun r σ' ρ' v H' z _ _ _ => z.elim, fun d σ' ρ' p H' ⟨outs, h1, h2⟩ g e hp nm ni ha => ?_, fun σ' ρ' H' z _ _ => z.elim, fun σ' ρ' H' z _ _ => z.elim, fun x σ' ρ' cl ad H' ⟨outs, h1, h2⟩ g e rx => ?_⟩
  · have sub : ∀ a, orP M p a → Mof ((⟨M, inL ws, H⟩ : Ct).more p) ρ' a := fun a z => .inl z
    refine hk d outs p H' h2 (beh g rfl (fun a z _ => ?_) e) (outs_ok (n := 0) g (fun j e z => by simpa using z) sub h1) hp (ha.mv (Mv.sub sub) fun _ z => z)
    rcases z with z | rfl
    · exact .inl z
    · exact .inr hp
  · exact hE _ _ _ _ (hx x outs cl ad H' h2 (beh g rfl ew0 e) (outs_ok (n := 0) g (fun j e z => by simpa using z) (fun a z => .inl z) h1) rx)
end

/-- the slots at the entry, by value -/
abbrev ent (ms : List Md) (xs : List PyData) (ws : List Addr) (n : Nat) : List En := mkEn ms xs ws ++ List.replicate (n - ms.length) .no
section
variable {P : Program} {w : World} {K : PySem.W.Frag} {mg : Str → Option Value} {base : Heap}
theorem args_as {W M : Ow} {H : Hp} : ∀ {ms : List Md} {vs : List V} {xs : List PyData} {us : List Addr}, ArgsOk K M W H ms vs xs us → us.length = (ms.filter fun | .m => true | _ => false).length ∧ xs.length = ms.length := fun {ms} => by
  induction ms with
  | nil => intro vs xs us h; obtain ⟨_, rfl, rfl⟩ := h; exact ⟨rfl, rfl⟩
  | cons m ms ih =>
    intro vs xs us h
    cases m with
    | v => obtain ⟨v, vs', x, xs', rfl, rfl, r, h⟩ := h; exact ⟨(ih h).1, by simp [(ih h).2]⟩
    | r => obtain ⟨v, vs', x, xs', rfl, rfl, r, h⟩ := h; exact ⟨(ih h).1, by simp [(ih h).2]⟩
    | m => obtain ⟨a, vs', x, xs', ws', rfl, rfl, rfl, r, h⟩ := h; exact ⟨by simp [List.filter, (ih h).1], by simp [(ih h).2]⟩
abbrev nM (ms : List Md) : Nat := (ms.filter fun | .m => true | _ => false).length
/-- THE RULE for a def that raises nothing -/
theorem fnV {x qual : Str} {st : Stmt} {f : Addr} {fd : FuncData} {N ps : List Str} {k : Nat} {ms : List Md} {S : Spc} {ws : WS} (F : Fun K x qual st f fd) (sc : FnScope N ps (defScope st)) (hl : ms.length = ps.length)
    (hb : ∀ (cdv : Value) (A : Around) (outer : List Env) (s : Shared) (H : Hp) (E : XK), Room k (A.deeper (envOfC qual (defScope st) s.heap.objs.size f cdv)) → BSs (cxOf CX0 P w K mg base N qual (defScope st) f cdv A outer s H E).nox EN (defBody st) ws)
    (hw : ∀ xs as k kx, S xs k kx → as.length = nM ms → ws (wdV ms as k fun _ _ => False) (ent ms xs as N.length)) : FnOk P w K mg base CX0 (k + 1) f fd ps (spV K ms S) := by
  refine F.ok sc (spV_len hl) fun cdv A outer s H vs Q E hr h => ?_
  obtain ⟨M, xs, as, k', kx, th, a, nd, hS, hk, hx⟩ := h
  exact ⟨_, (hb cdv A outer s H E hr).pss, ⟨M, inL as, H⟩, _, wdV ms as k' fun _ _ => False, entry th a nd, hw xs as k' kx hS (args_as a).1, eok_V (E0 := fun _ _ _ => False) (N := N) (vs := vs) (xs := xs) hk (fun _ _ _ _ _ z => z.elim) fun _ _ _ _ z => z⟩
theorem fnN {x qual : Str} {st : Stmt} {f : Addr} {fd : FuncData} {N ps : List Str} {k : Nat} {ms : List Md} {S : Spc} {ws : WS} (F : Fun K x qual st f fd) (sc : FnScope N ps (defScope st)) (hl : ms.length = ps.length)
    (hb : ∀ (cdv : Value) (A : Around) (outer : List Env) (s : Shared) (H : Hp) (E : XK), Room k (A.deeper (envOfC qual (defScope st) s.heap.objs.size f cdv)) → BSs (cxOf CX0 P w K mg base N qual (defScope st) f cdv A outer s H E).nox EN (defBody st) ws)
    (hw : ∀ xs as k kx, S xs k kx → as.length = nM ms → ws (wdN ms as k fun _ _ => False) (ent ms xs as N.length)) : FnOk P w K mg base CX0 (k + 1) f fd ps (spN K ms S) := by
  refine F.ok sc (spN_len hl) fun cdv A outer s H vs Q E hr h => ?_
  obtain ⟨M, xs, as, k', kx, th, a, nd, hS, hk, hx⟩ := h
  exact ⟨_, (hb cdv A outer s H E hr).pss, ⟨M, inL as, H⟩, _, wdN ms as k' fun _ _ => False, entry th a nd, hw xs as k' kx hS (args_as a).1, eok_N (E0 := fun _ _ _ => False) hk (fun _ _ _ _ _ z => z.elim) fun _ _ _ _ z => z⟩
/-- .. for a def that may raise -/
theorem fnVX {x qual : Str} {st : Stmt} {f : Addr} {fd : FuncData} {N ps : List Str} {k : Nat} {ms : List Md} {S : Spc} {ws : WS} (F : Fun K x qual st f fd) (sc : FnScope N ps (defScope st)) (hl : ms.length = ps.length)
    (hb : ∀ (cdv : Value) (A : Around) (outer : List Env) (s : Shared) (H : Hp) (E : XK), Room k (A.deeper (envOfC qual (defScope st) s.heap.objs.size f cdv)) → BSs (cxOf (L2.CX P w) P w K mg base N qual (defScope st) f cdv A outer s H E) (fun _ => E) (defBody st) ws)
    (hw : ∀ xs as k kx, S xs k kx → as.length = nM ms → ws (wdV ms as k kx) (ent ms xs as N.length)) : FnOk P w K mg base (L2.CX P w) (k + 1) f fd ps (spV K ms S) := by
  refine F.okX sc (spV_len hl) fun cdv A outer s H vs Q E hr h => ?_
  obtain ⟨M, xs, as, k', kx, th, a, nd, hS, hk, hx⟩ := h
  exact ⟨_, (hb cdv A outer s H E hr).pss, ⟨M, inL as, H⟩, _, wdV ms as k' kx, entry th a nd, hw xs as k' kx hS (args_as a).1, eok_V (E0 := E) (N := N) (vs := vs) (xs := xs) hk hx fun _ _ _ _ z => z⟩
theorem fnNX {x qual : Str} {st : Stmt} {f : Addr} {fd : FuncData} {N ps : List Str} {k : Nat} {ms : List Md} {S : Spc} {ws : WS} (F : Fun K x qual st f fd) (sc : FnScope N ps (defScope st)) (hl : ms.length = ps.length)
    (hb : ∀ (cdv : Value) (A : Around) (outer : List Env) (s : Shared) (H : Hp) (E : XK), Room k (A.deeper (envOfC qual (defScope st) s.heap.objs.size f cdv)) → BSs (cxOf (L2.CX P w) P w K mg base N qual (defScope st) f cdv A outer s H E) (fun _ => E) (defBody st) ws)
    (hw : ∀ xs as k kx, S xs k kx → as.length = nM ms → ws (wdN ms as k kx) (ent ms xs as N.length)) : FnOk P w K mg base (L2.CX P w) (k + 1) f fd ps (spN K ms S) := by
  refine F.okX sc (spN_len hl) fun cdv A outer s H vs Q E hr h => ?_
  obtain ⟨M, xs, as, k', kx, th, a, nd, hS, hk, hx⟩ := h
  exact ⟨_, (hb cdv A outer s H E hr).pss, ⟨M, inL as, H⟩, _, wdN ms as k' kx, entry th a nd, hw xs as k' kx hS (args_as a).1, eok_N (E0 := E) hk hx fun _ _ _ _ z => z⟩
end

/-! ### calls -/
def passA : List Md → List R → List En → Option (List PyData × List En × List Nat)
  | [], [], ρ => some ([], ρ, [])
  | .v :: ms, r :: rs, ρ => (match r.fz ρ with
    | some (d, ρ1) => (match passA ms rs ρ1 with
      | some (xs, ρ2, is) => some (d :: xs, ρ2, is)
      | none => none)
    | none => none)
  | .r :: ms, r :: rs, ρ => (match r.get ρ with
    | some d => (match passA ms rs ρ with
      | some (xs, ρ2, is) => some (d :: xs, ρ2, is)
      | none => none)
    | none => none)
  | .m :: ms, .at i :: rs, ρ => (match cont i ρ with
    | some d => (match passA ms rs ρ with
      | some (xs, ρ2, is) => some (d :: xs, ρ2, i :: is)
      | none => none)
    | none => none)
  | _, _, _ => none
/-- what is read is not lent -/
def okA : List Md → List R → List Nat → Bool
  | .r :: ms, .at i :: rs, is => !(is.contains i) && okA ms rs is
  | _ :: ms, _ :: rs, is => okA ms rs is
  | _, _, _ => true
/-- lent lists stand as such -/
def lentOk : List Nat → List En → Bool
  | [], _ => true
  | i :: is, ρ => (match cont i ρ with
    | some _ => true
    | none => false) && !(is.contains i) && lentOk is ρ
def wrs : List Nat → List PyData → List En → List En
  | i :: is, o :: os, ρ => wrs is os (wr i o ρ)
  | _, _, ρ => ρ
def lentAt (σ : L2.St) (is : List Nat) (ws : List Addr) : Prop := Paired (fun (i : Nat) (l : Addr) => σ[i]? = some (some (.ref l))) is ws
section
variable {K : PySem.W.Frag} {c : Ct} {σ : L2.St} {H : Hp}
theorem cont_own {ρ : List En} {i : Nat} {d : PyData} (h : cont i ρ = some d) : ∃ l, ρ[i]? = some (.own l d) ∨ ρ[i]? = some (.io l d) := by
  rcases cont_shape h with ⟨l, h⟩ | ⟨l, h⟩
  · exact ⟨l, .inl h⟩
  · exact ⟨l, .inr h⟩
/-- two slots that hold one list are one -/
theorem Gd.slot1 {ρ : List En} (g : Gd K c σ H ρ) {i j : Nat} {d e : PyData} {l : Addr} (hi : cont i ρ = some d) (hj : cont j ρ = some e) (si : σ[i]? = some (some (.ref l))) (sj : σ[j]? = some (some (.ref l))) : i = j := by
  obtain ⟨a, hi⟩ := cont_own hi
  obtain ⟨b, hj⟩ := cont_own hj
  have ea : a = l := by
    rcases hi with h | h
    · have := (g.own i a d h).1; rw [si] at this; cases this; rfl
    · have := (g.io i a d h).1; rw [si] at this; cases this; rfl
  have eb : b = l := by
    rcases hj with h | h
    · have := (g.own j b e h).1; rw [sj] at this; cases this; rfl
    · have := (g.io j b e h).1; rw [sj] at this; cases this; rfl
  subst ea eb
  rcases hi with h | h
  · rcases hj with h' | h'
    · exact g.uo i j _ d e h h'
    · exact absurd (g.wm _ (g.io j _ e h').2.2) (g.own i _ d h).2.2.1
  · rcases hj with h' | h'
    · exact absurd (g.wm _ (g.io i _ d h).2.2) (g.own j _ e h').2.2.1
    · exact g.ui i j _ d e h h'
/-- lists are only let go -/
def Sh (ρ ρ' : List En) : Prop := ∀ j d, cont j ρ' = some d → cont j ρ = some d
theorem Sh.trans {ρ ρ1 ρ2 : List En} (a : Sh ρ ρ1) (b : Sh ρ1 ρ2) : Sh ρ ρ2 := fun j d h => a j d (b j d h)
theorem fz_sh {r : R} {ρ ρ' : List En} {d : PyData} (h : r.fz ρ = some (d, ρ')) : Sh ρ ρ' := by
  cases r with
  | val d' => cases h; exact fun _ _ z => z
  | obj u => cases h
  | see d' =>
    cases d' <;> first
      | (cases h; done)
      | (cases h; exact fun _ _ z => z)
  | «at» i =>
    have h : (match ρ[i]? with
      | some (.own _ d) => some (d, ρ.set i (.val d))
      | _ => none) = some (d, ρ') := h
    split at h
    · rename_i l d1 he
      cases h
      intro j e z
      unfold cont at z ⊢
      by_cases q : i = j
      · subst q
        rw [List.getElem?_set_self (List.getElem?_eq_some_iff.mp he).1] at z
        cases z
      · rw [List.getElem?_set_ne q] at z; exact z
    · cases h
def readP (p : Nat → Prop) : List Md → List R → Prop
  | .r :: ms, .at i :: rs => p i ∧ readP p ms rs
  | _ :: ms, _ :: rs => readP p ms rs
  | _, _ => True
theorem readP_mono {p q : Nat → Prop} (h : ∀ i, p i → q i) : ∀ {ms : List Md} {rs : List R}, readP p ms rs → readP q ms rs := fun {ms} => by
  induction ms with
  | nil => intro rs _; cases rs <;> exact trivial
  | cons m ms ih =>
    intro rs z
    cases rs with
    | nil => cases m <;> exact trivial
    | cons r rs =>
      cases m <;> cases r <;> first
        | exact ih z
        | exact ⟨h _ z.1, ih z.2⟩
theorem readP_and {p : Nat → Prop} : ∀ {ms : List Md} {rs : List R} {is : List Nat}, readP p ms rs → okA ms rs is = true → readP (fun i => p i ∧ i ∉ is) ms rs := fun {ms} => by
  induction ms with
  | nil => intro rs is _ _; cases rs <;> exact trivial
  | cons m ms ih =>
    intro rs is z o
    cases rs with
    | nil => cases m <;> exact trivial
    | cons r rs =>
      cases m <;> cases r <;> first
        | exact ih z o
        | (have o' : (!(is.contains _) && okA ms rs is) = true := o
           rw [Bool.and_eq_true] at o'
           exact ⟨⟨z.1, by simpa using o'.1⟩, ih z.2 o'.2⟩)
theorem passA_ok : ∀ {ms : List Md} {rs : List R} {ρ ρ' : List En} {vs : List V} {xs : List PyData} {is : List Nat}, Gd K c σ H ρ → Paired (fun v r => RepR K c σ H ρ v r) vs rs → passA ms rs ρ = some (xs, ρ', is) →
    Gd K c σ H ρ' ∧ Ev c ρ H ρ' H ∧ Sh ρ ρ' ∧ readP (fun i => ∃ d, cont i ρ = some d) ms rs ∧ ∃ ws, lentAt σ is ws ∧
      ∀ ws0 : List Addr, (∀ l ∈ ws0, Wr ρ' l) → (∀ l ∈ ws, l ∈ ws0) → lentOk is ρ' = true → readP (fun i => ∀ l, σ[i]? = some (some (.ref l)) → l ∉ ws0) ms rs → ArgsOk K (Mof c ρ') (inL ws0) H ms vs xs ws := fun {ms} => by
  induction ms with
  | nil =>
    intro rs ρ ρ' vs xs is g p h
    cases rs with
    | nil =>
      cases h; cases p
      exact ⟨g, .refl, fun _ _ z => z, trivial, [], .nil, fun _ _ _ _ _ => ⟨rfl, rfl, rfl⟩⟩
    | cons r rs => cases h
  | cons m ms ih =>
    intro rs ρ ρ' vs xs is g p h
    cases rs with
    | nil => cases m <;> cases h
    | cons r rs =>
      cases p with
      | @cons v _ vs _ p1 p2 =>
      cases m with
      | v =>
        unfold passA at h
        split at h
        · rename_i d ρ1 hf
          split at h
          · rename_i xs' ρ2 is' hp
            cases h
            obtain ⟨g1, e1, r1⟩ := p1.fz g hf
            obtain ⟨g2, e2, s2, rp, ws, la, k⟩ := ih g1 (Pmap p2 fun _ _ z => RepR.ev z g e1) hp
            refine ⟨g2, e1.trans e2, (fz_sh hf).trans s2, ?_, ws, la, fun ws0 hw hs hl hr => ⟨v, vs, d, _, rfl, rfl, r1.mv (e2.mv g1), k ws0 hw hs hl (by cases r <;> exact hr)⟩⟩
            have := readP_mono (p := fun i => ∃ d, cont i ρ1 = some d) (q := fun i => ∃ d, cont i ρ = some d) (fun i h => by obtain ⟨d, z⟩ := h; exact ⟨d, fz_sh hf i d z⟩) rp
            cases r <;> exact this
          · cases h
        · cases h
      | r =>
        unfold passA at h
        split at h
        · rename_i d hf
          split at h
          · rename_i xs' ρ2 is' hp
            cases h
            obtain ⟨g2, e2, s2, rp, ws, la, k⟩ := ih g p2 hp
            refine ⟨g2, e2, s2, ?_, ws, la, fun ws0 hw hs hl hr => ?_⟩
            · cases r with
              | «at» i => exact ⟨⟨d, hf⟩, rp⟩
              | _ => exact rp
            · have wsub : ∀ a, inL ws0 a → Wof c ρ' a := fun a z => g2.wr_w (hw a z)
              cases r with
              | val d' =>
                cases hf
                exact ⟨v, vs, d, _, rfl, rfl, (Rep.mv (e2.mv g) p1).see fun a z => g2.wsub (wsub a z), k ws0 hw hs hl hr⟩
              | see d' =>
                cases hf
                exact ⟨v, vs, d, _, rfl, rfl, See.mv (e2.mv g) ⟨fun a z => (e2.mvw g).own a (wsub a z), fun b o e n => e⟩ p1, k ws0 hw hs hl hr⟩
              | «at» i =>
                obtain ⟨l, rfl, hl'⟩ := p1
                obtain ⟨a, _⟩ := cell_ref g hf hl'
                exact ⟨_, vs, d, _, rfl, rfl, (a.mv (e2.mv g) fun _ z => z).see (hr.1 l hl'), k ws0 hw hs hl hr.2⟩
              | obj u => cases hf
          · cases h
        · cases h
      | m =>
        cases r with
        | «at» i =>
          unfold passA at h
          split at h
          · rename_i d hf
            split at h
            · rename_i xs' ρ2 is' hp
              cases h
              obtain ⟨g2, e2, s2, rp, ws, la, k⟩ := ih g p2 hp
              obtain ⟨l, rfl, hl'⟩ := p1
              refine ⟨g2, e2, s2, rp, l :: ws, .cons hl' la, fun ws0 hw hs hl hr => ?_⟩
              have hl2 : ((match cont i ρ' with
                | some _ => true
                | none => false) && !(is'.contains i) && lentOk is' ρ') = true := hl
              rw [Bool.and_eq_true, Bool.and_eq_true] at hl2
              obtain ⟨⟨q1, _⟩, q2⟩ := hl2
              cases hc : cont i ρ' with
              | none => rw [hc] at q1; cases q1
              | some d' =>
                have := s2 i d' hc
                rw [hf] at this; cases this
                obtain ⟨a, m⟩ := cell_ref g2 hc hl'
                exact ⟨l, vs, d, _, ws, rfl, rfl, rfl, ⟨m, hs l (by simp), a⟩, k ws0 hw (fun l z => hs l (List.mem_cons_of_mem _ z)) q2 hr⟩
            · cases h
          · cases h
        | _ => cases h
theorem lent_mem {is : List Nat} {ws : List Addr} (la : lentAt σ is ws) : ∀ {l : Addr}, l ∈ ws → ∃ i ∈ is, σ[i]? = some (some (.ref l)) := by
  unfold lentAt at la
  induction la with
  | nil => intro l h; cases h
  | cons r t ih =>
    intro l h
    rcases List.mem_cons.mp h with rfl | h
    · exact ⟨_, by simp, r⟩
    · obtain ⟨i, h1, h2⟩ := ih h
      exact ⟨i, List.mem_cons_of_mem _ h1, h2⟩
theorem lentOk_mem : ∀ {is : List Nat} {ρ : List En}, lentOk is ρ = true → is.Nodup ∧ ∀ i ∈ is, ∃ d, cont i ρ = some d := fun {is} => by
  induction is with
  | nil => intro ρ _; exact ⟨.nil, fun _ z => by cases z⟩
  | cons i is ih =>
    intro ρ h
    have h2 : ((match cont i ρ with
      | some _ => true
      | none => false) && !(is.contains i) && lentOk is ρ) = true := h
    rw [Bool.and_eq_true, Bool.and_eq_true] at h2
    obtain ⟨⟨q1, q3⟩, q2⟩ := h2
    obtain ⟨n, k⟩ := ih q2
    refine ⟨List.nodup_cons.mpr ⟨by simpa using q3, n⟩, fun j hj => ?_⟩
    rcases List.mem_cons.mp hj with rfl | hj
    · cases hc : cont j ρ with
      | none => rw [hc] at q1; cases q1
      | some d => exact ⟨d, rfl⟩
    · exact k j hj
theorem lent_nodup {ρ : List En} (g : Gd K c σ H ρ) {is : List Nat} {ws : List Addr} (la : lentAt σ is ws) : lentOk is ρ = true → ws.Nodup := by
  unfold lentAt at la
  induction la with
  | nil => intro _; exact .nil
  | @cons i l is ws r t ih =>
    intro h
    obtain ⟨n, k⟩ := lentOk_mem h
    obtain ⟨n1, n2⟩ := List.nodup_cons.mp n
    have hl : lentOk is ρ = true := by
      have h2 : ((match cont i ρ with
        | some _ => true
        | none => false) && !(is.contains i) && lentOk is ρ) = true := h
      rw [Bool.and_eq_true] at h2; exact h2.2
    refine List.nodup_cons.mpr ⟨fun z => ?_, ih hl⟩
    obtain ⟨j, hj, sj⟩ := lent_mem (σ := σ) t z
    obtain ⟨d, hd⟩ := k i (by simp)
    obtain ⟨e, he⟩ := k j (List.mem_cons_of_mem _ hj)
    have := g.slot1 hd he r sj
    subst this
    exact n1 hj
theorem call_pre {ms : List Md} {rs : List R} {ρ ρ' : List En} {vs : List V} {xs : List PyData} {is : List Nat} (g : Gd K c σ H ρ) (p : Paired (fun v r => RepR K c σ H ρ v r) vs rs) (h : passA ms rs ρ = some (xs, ρ', is)) (ho : okA ms rs is = true) (hl : lentOk is ρ' = true) :
    Gd K c σ H ρ' ∧ Ev c ρ H ρ' H ∧ ∃ ws, lentAt σ is ws ∧ ws.Nodup ∧ (∀ l ∈ ws, Wr ρ' l) ∧ ArgsOk K (Mof c ρ') (inL ws) H ms vs xs ws := by
  obtain ⟨g2, e2, s2, rp, ws, la, k⟩ := passA_ok g p h
  obtain ⟨n, kc⟩ := lentOk_mem hl
  have hw : ∀ l ∈ ws, Wr ρ' l := fun l z => by
    obtain ⟨i, hi, si⟩ := lent_mem la z
    obtain ⟨d, hd⟩ := kc i hi
    obtain ⟨a, hd⟩ := cont_own hd
    rcases hd with q | q
    · have := (g2.own i a d q).1; rw [si] at this; cases this; exact ⟨i, d, .inl q⟩
    · have := (g2.io i a d q).1; rw [si] at this; cases this; exact ⟨i, d, .inr q⟩
  refine ⟨g2, e2, ws, la, lent_nodup g2 la hl, hw, k ws hw (fun _ z => z) hl (readP_mono (fun i ⟨⟨d, hd⟩, ni⟩ l sl hm => ?_) (readP_and rp ho))⟩
  obtain ⟨j, hj, sj⟩ := lent_mem la hm
  obtain ⟨e, he⟩ := kc j hj
  have := g.slot1 hd (s2 j e he) sl sj
  subst this
  exact ni hj
theorem wrs_get : ∀ {is : List Nat} {outs : List PyData} {ρ : List En} {j : Nat} {e : En}, is.Nodup → outs.length = is.length → (∀ i ∈ is, ∃ d, cont i ρ = some d) → (wrs is outs ρ)[j]? = some e →
    (ρ[j]? = some e ∧ j ∉ is) ∨ ∃ o l d0, (j, o) ∈ is.zip outs ∧ ((ρ[j]? = some (.own l d0) ∧ e = .own l o) ∨ (ρ[j]? = some (.io l d0) ∧ e = .io l o)) := fun {is} => by
  induction is with
  | nil => intro outs ρ j e _ _ _ h; exact .inl ⟨h, by simp⟩
  | cons i is ih =>
    intro outs ρ j e n hl hc h
    cases outs with
    | nil => simp at hl
    | cons o outs =>
      obtain ⟨n1, n2⟩ := List.nodup_cons.mp n
      obtain ⟨d, hd⟩ := hc i (by simp)
      obtain ⟨l, hd'⟩ := cont_own hd
      have hwr : ∀ {k : Nat}, k ≠ i → (wr i o ρ)[k]? = ρ[k]? := fun {k} hk => by
        rcases hd' with q | q
        · rw [wr_own i o q, List.getElem?_set_ne (Ne.symm hk)]
        · rw [wr_io i o q, List.getElem?_set_ne (Ne.symm hk)]
      have hc' : ∀ k ∈ is, ∃ d, cont k (wr i o ρ) = some d := fun k hk => by
        have ne : k ≠ i := fun q => n1 (q ▸ hk)
        obtain ⟨d, hd⟩ := hc k (List.mem_cons_of_mem _ hk)
        refine ⟨d, ?_⟩
        unfold cont at hd ⊢
        rw [hwr ne]; exact hd
      rcases ih n2 (by simpa using hl) hc' h with ⟨h1, h2⟩ | ⟨o', l', d0, hm, h1⟩
      · by_cases q : j = i
        · subst q
          rcases hd' with q | q
          · rw [wr_own j o q, List.getElem?_set_self (List.getElem?_eq_some_iff.mp q).1] at h1
            cases h1
            exact .inr ⟨o, l, d, by simp, .inl ⟨q, rfl⟩⟩
          · rw [wr_io j o q, List.getElem?_set_self (List.getElem?_eq_some_iff.mp q).1] at h1
            cases h1
            exact .inr ⟨o, l, d, by simp, .inr ⟨q, rfl⟩⟩
        · rw [hwr q] at h1
          exact .inl ⟨h1, by simp only [List.mem_cons, not_or]; exact ⟨q, h2⟩⟩
      · have hj : j ∈ is := (List.of_mem_zip hm).1
        have ne : j ≠ i := fun q => n1 (q ▸ hj)
        rw [hwr ne] at h1
        exact .inr ⟨o', l', d0, by rw [List.zip_cons_cons]; exact List.mem_cons_of_mem _ hm, h1⟩
theorem out_len {M : Ow} : ∀ {ws : List Addr} {outs : List PyData}, OutOk K M H ws outs → outs.length = ws.length := fun {ws} => by
  induction ws with
  | nil => intro outs h; cases h; rfl
  | cons l ws ih => intro outs h; obtain ⟨o, r, rfl, _, h⟩ := h; simp [ih h]
theorem out_at {M : Ow} {H' : Hp} {is : List Nat} {ws : List Addr} (la : lentAt σ is ws) : ∀ {outs : List PyData}, OutOk K M H' ws outs → ∀ {j : Nat} {o : PyData}, (j, o) ∈ is.zip outs → ∃ l, σ[j]? = some (some (.ref l)) ∧ At K M H' l o := by
  unfold lentAt at la
  induction la with
  | nil => intro outs _ j o h; simp at h
  | @cons i l is ws r t ih =>
    intro outs ho j o h
    obtain ⟨o', r', rfl, a, ho⟩ := ho
    rw [List.zip_cons_cons] at h
    rcases List.mem_cons.mp h with q | h
    · cases q; exact ⟨l, r, a⟩
    · exact ih ho h
theorem lent_len {is : List Nat} {ws : List Addr} (la : lentAt σ is ws) : is.length = ws.length := by
  unfold lentAt at la
  induction la with
  | nil => rfl
  | cons r t ih => simp [ih]
theorem call_post {c' : Ct} {ρ : List En} {H' : Hp} {is : List Nat} {ws : List Addr} {outs : List PyData} (g : Gd K c σ H ρ) (la : lentAt σ is ws) (hl : lentOk is ρ = true) (hw : ∀ l ∈ ws, Wr ρ l) (b : Beh ws H H') (ho : OutOk K (Mof c ρ) H' ws outs) :
    Gd K c σ H' (wrs is outs ρ) ∧ Ev c ρ H (wrs is outs ρ) H' ∧ ∀ a, Mof c (wrs is outs ρ) a → Mof c ρ a := by
  obtain ⟨n, kc⟩ := lentOk_mem hl
  have hlen : outs.length = is.length := by rw [out_len ho, lent_len la]
  have G : ∀ {j : Nat} {e : En}, (wrs is outs ρ)[j]? = some e → (ρ[j]? = some e ∧ j ∉ is) ∨ ∃ o l d0, (j, o) ∈ is.zip outs ∧ ((ρ[j]? = some (.own l d0) ∧ e = .own l o) ∨ (ρ[j]? = some (.io l d0) ∧ e = .io l o)) := fun h => wrs_get n hlen kc h
  have sub : ∀ a, Wr (wrs is outs ρ) a → Wr ρ a := fun a ⟨j, d, z⟩ => by
    rcases z with z | z
    · rcases G z with ⟨z, _⟩ | ⟨o, l, d0, _, ⟨z, q⟩ | ⟨z, q⟩⟩
      · exact ⟨j, d, .inl z⟩
      · cases q; exact ⟨j, d0, .inl z⟩
      · cases q
    · rcases G z with ⟨z, _⟩ | ⟨o, l, d0, _, ⟨z, q⟩ | ⟨z, q⟩⟩
      · exact ⟨j, d, .inr z⟩
      · cases q
      · cases q; exact ⟨j, d0, .inr z⟩
  have ev : Ev c ρ H (wrs is outs ρ) H' := ⟨fun x o h nx => b.fr x o h fun z => nx (hw x z), fun a z => .inl (sub a z), b.th⟩
  have msub : ∀ a, Mof c (wrs is outs ρ) a → Mof c ρ a := fun a z => by
    rcases z with z | ⟨j, d, z⟩
    · exact .inl z
    · rcases G z with ⟨z, _⟩ | ⟨o, l, d0, _, ⟨z, q⟩ | ⟨z, q⟩⟩
      · exact .inr ⟨j, d, z⟩
      · cases q; exact .inr ⟨j, d0, z⟩
      · cases q
  have len : ∀ (is : List Nat) (outs : List PyData) (ρ : List En), (wrs is outs ρ).length = ρ.length := fun is => by
    induction is with
    | nil => intro outs ρ; cases outs <;> rfl
    | cons i is ih => intro outs ρ; cases outs with
      | nil => rfl
      | cons o outs => show (wrs is outs (wr i o ρ)).length = _; rw [ih, wr_len]
  have notin : ∀ {j : Nat} {d : PyData} {l : Addr}, cont j ρ = some d → σ[j]? = some (some (.ref l)) → j ∉ is → l ∉ ws := fun {j d l} hc sl nj z => by
    obtain ⟨i, hi, si⟩ := lent_mem la z
    obtain ⟨e, he⟩ := kc i hi
    have := g.slot1 hc he sl si
    subst this
    exact nj hi
  refine ⟨g.next ev (len is outs ρ) (fun j d z => ?_) (fun j d z => ?_) (fun j v z => ?_) (fun j l d z => ?_) (fun j l d z => ?_), ev, msub⟩
  · rcases G z with ⟨z, _⟩ | ⟨o, l, d0, _, ⟨z, q⟩ | ⟨z, q⟩⟩
    · exact z
    · cases q
    · cases q
  · rcases G z with ⟨z, _⟩ | ⟨o, l, d0, _, ⟨z, q⟩ | ⟨z, q⟩⟩
    · exact z
    · cases q
    · cases q
  · rcases G z with ⟨z, _⟩ | ⟨o, l, d0, _, ⟨z, q⟩ | ⟨z, q⟩⟩
    · exact z
    · cases q
    · cases q
  · rcases G z with ⟨z, nj⟩ | ⟨o, l', d0, hm, ⟨z, q⟩ | ⟨z, q⟩⟩
    · obtain ⟨h1, h2, _⟩ := g.own j l d z
      exact ⟨⟨d, z⟩, h2.mv (ev.mv g) fun u e => b.fr l u e (notin (by unfold cont; rw [z]) h1 nj)⟩
    · cases q
      obtain ⟨a, sa, at'⟩ := out_at la ho hm
      have := (g.own j l d0 z).1; rw [sa] at this; cases this
      exact ⟨⟨d0, z⟩, at'.mv (Mv.sub msub) fun _ z => z⟩
    · cases q
  · rcases G z with ⟨z, nj⟩ | ⟨o, l', d0, hm, ⟨z, q⟩ | ⟨z, q⟩⟩
    · obtain ⟨h1, h2, _⟩ := g.io j l d z
      exact ⟨⟨d, z⟩, h2.mv (ev.mv g) fun u e => b.fr l u e (notin (by unfold cont; rw [z]) h1 nj)⟩
    · cases q
    · cases q
      obtain ⟨a, sa, at'⟩ := out_at la ho hm
      have := (g.io j l d0 z).1; rw [sa] at this; cases this
      exact ⟨⟨d0, z⟩, at'.mv (Mv.sub msub) fun _ z => z⟩
end
/-- a call of a def that may raise; of one that does not -/
def wCall (ms : List Md) (S : Spc) (u : WA) : WE := fun kx ρ k => u kx ρ fun rs ρ1 => ∃ xs ρ2 is, passA ms rs ρ1 = some (xs, ρ2, is) ∧ okA ms rs is = true ∧ lentOk is ρ2 = true ∧ S xs (fun d outs => k (.val d) (wrs is outs ρ2)) fun x outs => kx x (wrs is outs ρ2)
def wCallN (ms : List Md) (S : Spc) (u : WA) : WN := fun kx ρ k => u kx ρ fun rs ρ1 => ∃ xs ρ2 is, passA ms rs ρ1 = some (xs, ρ2, is) ∧ okA ms rs is = true ∧ lentOk is ρ2 = true ∧ S xs (fun d outs => k d (wrs is outs ρ2)) fun x outs => kx x (wrs is outs ρ2)
def wCall0 (ms : List Md) (S : Spc) (u : WA) : WE := fun kx ρ k => u kx ρ fun rs ρ1 => ∃ xs ρ2 is, passA ms rs ρ1 = some (xs, ρ2, is) ∧ okA ms rs is = true ∧ lentOk is ρ2 = true ∧ S xs (fun d outs => k (.val d) (wrs is outs ρ2)) fun _ _ => False
def wCallN0 (ms : List Md) (S : Spc) (u : WA) : WN := fun kx ρ k => u kx ρ fun rs ρ1 => ∃ xs ρ2 is, passA ms rs ρ1 = some (xs, ρ2, is) ∧ okA ms rs is = true ∧ lentOk is ρ2 = true ∧ S xs (fun d outs => k d (wrs is outs ρ2)) fun _ _ => False
section
variable {K : PySem.W.Frag} {ms : List Md} {S : Spc} {c : Ct} {σ : L2.St} {H : Hp} {ρ ρ2 : List En} {rs : List R} {vs : List V} {xs : List PyData} {is : List Nat} {Q : VK} {E' : XK}
theorem call_coreV {k' : PyData → List PyData → Prop} {kx' : Xn → List PyData → Prop} (g : Gd K c σ H ρ) (p : Paired (fun v r => RepR K c σ H ρ v r) vs rs) (hp : passA ms rs ρ = some (xs, ρ2, is)) (ho : okA ms rs is = true) (hl : lentOk is ρ2 = true) (hS : S xs k' kx')
    (hk : ∀ d outs v H', k' d outs → Gd K c σ H' (wrs is outs ρ2) → Ev c ρ H (wrs is outs ρ2) H' → Rep K (Mof c (wrs is outs ρ2)) H' d v → Q v H')
    (hx : ∀ x outs cl ad H', kx' x outs → Gd K c σ H' (wrs is outs ρ2) → Ev c ρ H (wrs is outs ρ2) H' → RepX K H' x cl ad → E' cl ad H') : spV K ms S vs H Q E' := by
  obtain ⟨g2, e2, ws, la, nd, hww, ha⟩ := call_pre g p hp ho hl
  refine ⟨Mof c ρ2, xs, ws, _, _, fun a z => g2.mth z, ha, nd, hS, fun d outs v H' kd b oo r => ?_, fun x outs cl ad H' kd b oo r => ?_⟩
  · obtain ⟨g3, e3, sub⟩ := call_post (c' := c) g2 la hl hww b oo
    exact hk d outs v H' kd g3 (e2.trans e3) (r.mv (Mv.sub sub))
  · obtain ⟨g3, e3, sub⟩ := call_post (c' := c) g2 la hl hww b oo
    exact hx x outs cl ad H' kd g3 (e2.trans e3) r
theorem call_coreN {k' : PyData → List PyData → Prop} {kx' : Xn → List PyData → Prop} (g : Gd K c σ H ρ) (p : Paired (fun v r => RepR K c σ H ρ v r) vs rs) (hp : passA ms rs ρ = some (xs, ρ2, is)) (ho : okA ms rs is = true) (hl : lentOk is ρ2 = true) (hS : S xs k' kx')
    (hk : ∀ d outs q H', k' d outs → Gd K (c.more q) σ H' (wrs is outs ρ2) → Ev c ρ H (wrs is outs ρ2) H' → H q = none → NoIo q (wrs is outs ρ2) → At K (Mof (c.more q) (wrs is outs ρ2)) H' q d → Q (.ref q) H')
    (hx : ∀ x outs cl ad H', kx' x outs → Gd K c σ H' (wrs is outs ρ2) → Ev c ρ H (wrs is outs ρ2) H' → RepX K H' x cl ad → E' cl ad H') : spN K ms S vs H Q E' := by
  obtain ⟨g2, e2, ws, la, nd, hww, ha⟩ := call_pre g p hp ho hl
  refine ⟨Mof c ρ2, xs, ws, _, _, fun a z => g2.mth z, ha, nd, hS, fun d outs q H' kd b oo hq hat => ?_, fun x outs cl ad H' kd b oo r => ?_⟩
  · have pnw : ∀ l, Wr ρ2 l → l ≠ q := fun l z e => g2.mth (g2.wsub (g2.wr_w (e ▸ z))) hq
    have oo' : OutOk K (Mof (c.more q) ρ2) H' ws outs := by
      have key : ∀ {us : List Addr} {os : List PyData}, OutOk K (orP (Mof c ρ2) q) H' us os → OutOk K (Mof (c.more q) ρ2) H' us os := fun {us} => by
        induction us with
        | nil => intro os z; exact z
        | cons l us ih =>
          intro os z
          obtain ⟨o, r, rfl, a, z⟩ := z
          exact ⟨o, r, rfl, a.mv (Mv.sub fun a w => by
            rcases w with (w | w) | w
            · exact .inl (.inl w)
            · exact .inr w
            · exact .inl (.inr w)) (fun _ z => z), ih z⟩
      exact key oo
    cases hq' : H' q with
    | none => exact absurd hq' hat.some
    | some op =>
      have g2p : Gd K (c.more q) σ (upd H q op) ρ2 := g2.more hq (sm_upd hq) (by rw [upd_same]; intro z; cases z)
      have bp : Beh ws (upd H q op) H' := ⟨fun x o h n => by
        by_cases e : x = q
        · subst e; rw [upd_same] at h; cases h; exact hq'
        · rw [upd_ne e] at h; exact b.fr x o h n, fun a z => by
        by_cases e : a = q
        · subst e; rw [hq'] at z; cases z
        · rw [upd_ne e]; exact b.th a z⟩
      obtain ⟨g3, e3, sub⟩ := call_post (c' := c) g2p la hl hww bp oo'
      have e3' : Ev c ρ2 H (wrs is outs ρ2) H' := ⟨fun x o h n => e3.kept x o (by rw [upd_ne (ne_of_none h hq)]; exact h) n, fun a z => (e3.own a z).imp id fun w => by
        by_cases e : a = q
        · rw [e]; exact hq
        · rw [upd_ne e] at w; exact w, fun a z => b.th a z⟩
      refine hk d outs q H' kd g3 (e2.trans e3') hq (fun i d' z => ?_) (hat.mv ⟨fun a w => ?_, fun b o h _ => h⟩ fun _ z => z)
      · have : ∃ d0, ρ2[i]? = some (.io q d0) := by
          obtain ⟨n, kc⟩ := lentOk_mem hl
          have hlen : outs.length = is.length := by rw [out_len oo, lent_len la]
          rcases wrs_get n hlen kc z with ⟨z, _⟩ | ⟨o, l, d0, _, ⟨z, e⟩ | ⟨z, e⟩⟩
          · exact ⟨_, z⟩
          · cases e
          · cases e; exact ⟨d0, z⟩
        obtain ⟨d0, z0⟩ := this
        exact pnw q ⟨i, d0, .inr z0⟩ rfl
      · rcases sub a w with (w' | w') | w'
        · exact .inl (.inl (.inl w'))
        · exact .inl (.inr w')
        · exact .inl (.inl (.inr w'))
  · obtain ⟨g3, e3, sub⟩ := call_post (c' := c) g2 la hl hww b oo
    exact hx x outs cl ad H' kd g3 (e2.trans e3) r
end
section
variable {X : Cx} {E : EK} {es : List Expr} {ms : List Md} {S : Spc} {u : WA} {ex : Expr}
/-- mk: pe_call, pe_call0 -/
theorem be_call (mk : ∀ {t : TA}, PA X es t → PE X ex (tCall (spV X.K ms S) [] E0 t)) (hu : BA X E es u) : BE X E ex (wCall0 ms S u) := by
  refine ⟨peI (mk hu.pa) fun σ H Q h => ?_⟩
  obtain ⟨c, ρ, k, kx, g, hw, hk, hx⟩ := h
  refine ⟨c, ρ, _, kx, g, hw, fun rs ρ1 vs H1 k1 g1 e1 p1 => ?_, hx⟩
  obtain ⟨xs, ρ2, is, hp, ho, hl, hS⟩ := k1
  show spV X.K ms S (vs ++ []) H1 Q E0
  rw [List.append_nil]
  exact call_coreV g1 p1 hp ho hl hS (fun d outs v H' kd g3 e3 r => hk _ _ v H' kd g3 (e1.trans e3) r) fun _ _ _ _ _ z => z.elim
theorem bn_call (mk : ∀ {t : TA}, PA X es t → PE X ex (tCall (spN X.K ms S) [] E0 t)) (hu : BA X E es u) : BN X E ex (wCallN0 ms S u) := by
  refine ⟨peI (mk hu.pa) fun σ H Q h => ?_⟩
  obtain ⟨c, ρ, k, kx, g, hw, hk, hx⟩ := h
  refine ⟨c, ρ, _, kx, g, hw, fun rs ρ1 vs H1 k1 g1 e1 p1 => ?_, hx⟩
  obtain ⟨xs, ρ2, is, hp, ho, hl, hS⟩ := k1
  show spN X.K ms S (vs ++ []) H1 Q E0
  rw [List.append_nil]
  exact call_coreN g1 p1 hp ho hl hS (fun d outs q H' kd g3 e3 hq ni ha => hk _ _ q H' kd g3 (e1.trans e3) (e1.there q hq) ni ha) fun _ _ _ _ _ z => z.elim
/-- of a def that may raise; mk: pe_callSD with passAt -/
theorem be_callX (mk : ∀ {t : TA}, PA X es t → PE X ex (tCallSD (spV X.K ms S) [] E t)) (hu : BA X E es u) : BE X E ex (wCall ms S u) := by
  refine ⟨peI (mk hu.pa) fun σ H Q h => ?_⟩
  obtain ⟨c, ρ, k, kx, g, hw, hk, hx⟩ := h
  refine ⟨c, ρ, _, kx, g, hw, fun rs ρ1 vs H1 k1 g1 e1 p1 => ?_, hx⟩
  obtain ⟨xs, ρ2, is, hp, ho, hl, hS⟩ := k1
  show spV X.K ms S (vs ++ []) H1 Q (E σ)
  rw [List.append_nil]
  exact call_coreV g1 p1 hp ho hl hS (fun d outs v H' kd g3 e3 r => hk _ _ v H' kd g3 (e1.trans e3) r) fun x outs cl ad H' kd g3 e3 r => hx x _ cl ad H' kd g3 (e1.trans e3) r
theorem bn_callX (mk : ∀ {t : TA}, PA X es t → PE X ex (tCallSD (spN X.K ms S) [] E t)) (hu : BA X E es u) : BN X E ex (wCallN ms S u) := by
  refine ⟨peI (mk hu.pa) fun σ H Q h => ?_⟩
  obtain ⟨c, ρ, k, kx, g, hw, hk, hx⟩ := h
  refine ⟨c, ρ, _, kx, g, hw, fun rs ρ1 vs H1 k1 g1 e1 p1 => ?_, hx⟩
  obtain ⟨xs, ρ2, is, hp, ho, hl, hS⟩ := k1
  show spN X.K ms S (vs ++ []) H1 Q (E σ)
  rw [List.append_nil]
  exact call_coreN g1 p1 hp ho hl hS (fun d outs q H' kd g3 e3 hq ni ha => hk _ _ q H' kd g3 (e1.trans e3) (e1.there q hq) ni ha) fun x outs cl ad H' kd g3 e3 r => hx x _ cl ad H' kd g3 (e1.trans e3) r
end
end LB

/-! LB, part 9: callees by name; chains as tests; small things. -/
namespace LB
open PySem PySem.Spec PyProof.Rows L2
/-- a def of the text that keeps its promise, by its name -/
structure Cal (P : Program) (w : World) (K : PySem.W.Frag) (mg : Str → Option Value) (base : Heap) (CX : CXT) (k : Nat) (x : Str) (ps : List Str) (sp : Sp) : Prop where
  ex : ∃ f fd, FnOk P w K mg base CX k f fd ps sp ∧ mg x = some (.ref f) ∧ PySem.W.keepIn K (.ref f) = true ∧ Binds K fd ps []
section
variable {X : Cx} {k : Nat} {x : Str} {ps : List Str} {sp : Sp} {e : Expr} {es : List Expr} {t : TA} {p pos : Pos}
theorem Cal.pe (C : Cal X.prog X.w X.K X.mg X.base CX0 k x ps sp) (hr : Room k X.A) (hg : Gl X x) (ha : PA X (e :: es) t) (hdb : (x == ("__debug__" : Str)) = false := by decide)
    (he : starEach (e :: es) X.env = (false, eval e X.env) :: starEach es X.env := by rfl) (hpl : (backTo pos (starEach es X.env)).any (·.1) = false := by rfl) : PE X (.Call (.Name x p) (e :: es) [] pos) (tCall sp [] E0 t) := by
  obtain ⟨f, fd, F, hm, hk, hb⟩ := C.ex
  exact pe_call F hr hg hm hk hb .nil pass0 ha hdb he hpl
theorem Cal.pe0 (C : Cal X.prog X.w X.K X.mg X.base CX0 k x ps sp) (hr : Room k X.A) (hg : Gl X x) (hdb : (x == ("__debug__" : Str)) = false := by decide) : PE X (.Call (.Name x p) [] [] pos) (tCall sp [] E0 tNil) := by
  obtain ⟨f, fd, F, hm, hk, hb⟩ := C.ex
  exact pe_call0 F hr hg hm hk hb .nil pass0 hdb
variable {E : EK}
theorem Cal.peX (C : Cal X.prog X.w X.K X.mg X.base (L2.CX X.prog X.w) k x ps sp) (hr : Room k X.A) (hg : Gl X x) (hx : ∀ σ, PassesAt (L2.CX X.prog X.w) X σ (E σ)) (ha : PA X (e :: es) t) (hdb : (x == ("__debug__" : Str)) = false := by decide)
    (he : starEach (e :: es) X.env = (false, eval e X.env) :: starEach es X.env := by rfl) (hpl : (backTo pos (starEach es X.env)).any (·.1) = false := by rfl) : PE X (.Call (.Name x p) (e :: es) [] pos) (tCallSD sp [] E t) := by
  obtain ⟨f, fd, F, hm, hk, hb⟩ := C.ex
  exact pe_callSD F hr hg hm hk hb .nil hx ha hdb he hpl
end
section
variable {X : Cx} {E : EK} {a b c0 : Expr} {wa wb wc : WE} {pos : Pos} {op op' : CmpOp} {g g' : G2}
theorem bt_chain (ho : OpD X (compareOp op) g) (ho' : OpD X (compareOp op') g') (ha : BE X E a wa) (hb : BE X E b wb) (hc : BE X E c0 wc) (hm : lastMarks [op, op'] [b, c0] = false := by with_unfolding_all rfl) :
    BT X E (.Compare a [op, op'] [b, c0] pos) (wTst (wChain g g' wa wb wc)) := by
  obtain ⟨r, h1, h2⟩ := ho
  obtain ⟨r', h1', h2'⟩ := ho'
  refine ⟨ptI (pt_chain h1 h1' ha.pe hb.pe hc.pe hm) fun σ H Q ⟨c, ρ, k, kx, gd, hw, hk, hx⟩ => ?_⟩
  refine ⟨c, ρ, _, kx, gd, hw, fun r1 ρ1 v1 H1 k1 g1 e1 p1 => ?_, hx⟩
  refine ⟨c, ρ1, _, kx, g1, k1, fun r2 ρ2 v2 H2 k2 g2 e2 p2 => ?_, hx.ev e1⟩
  obtain ⟨d, e, hd, he, hg⟩ := k2
  refine h2 (Mof c ρ2) H2 v1 v2 d e _ _ (fun a z => g2.mth z) ((p1.ev g1 e2).see g2 hd) (p2.see g2 he) hg fun v H' z kz sm rp => ?_
  obtain ⟨q, rfl, hq⟩ := kz
  have g2' := g2.same sm
  have e12 := (e1.trans e2).trans (Ev.same (c := c) (ρ := ρ2) sm)
  refine ⟨q, rp, ?_⟩
  cases q with
  | false =>
    obtain ⟨b', e', hb'⟩ := hq
    cases e'
    exact ⟨false, rfl, hk _ ρ2 _ hb' g2' e12⟩
  | true =>
    refine ⟨c, ρ2, _, kx, g2', hq, fun r3 ρ3 v3 H3 k3 g3 e3 p3 => ?_, hx.ev e12⟩
    obtain ⟨e', f, he', hf, hg'⟩ := k3
    refine h2' (Mof c ρ3) H3 v2 v3 e' f _ _ (fun a z => g3.mth z) (((p2.ev g2 (Ev.same sm)).ev g2' e3).see g3 he') (p3.see g3 hf) hg' fun v H'' z kz sm' rp' => ?_
    obtain ⟨b', e', hb'⟩ := kz
    cases e'
    exact ⟨b', rp', hk _ ρ3 _ hb' (g3.same sm') ((e12.trans e3).trans (.same sm'))⟩
end
section
variable {X : Cx} {E : EK} {ms : List Md} {S : Spc} {ex : Expr}
theorem be_call0 (mk : PE X ex (tCall (spV X.K ms S) [] E0 tNil)) : BE X E ex (wCall0 ms S wNil) := by
  refine ⟨peI mk fun σ H Q h => ?_⟩
  obtain ⟨c, ρ, k, kx, g, ⟨xs, ρ2, is, hp, ho, hl, hS⟩, hk, hx⟩ := h
  show spV X.K ms S ([] ++ []) H Q E0
  exact call_coreV g .nil hp ho hl hS (fun d outs v H' kd g3 e3 r => hk _ _ v H' kd g3 e3 r) fun _ _ _ _ _ z => z.elim
theorem bn_call0 (mk : PE X ex (tCall (spN X.K ms S) [] E0 tNil)) : BN X E ex (wCallN0 ms S wNil) := by
  refine ⟨peI mk fun σ H Q h => ?_⟩
  obtain ⟨c, ρ, k, kx, g, ⟨xs, ρ2, is, hp, ho, hl, hS⟩, hk, hx⟩ := h
  show spN X.K ms S ([] ++ []) H Q E0
  exact call_coreN g .nil hp ho hl hS (fun d outs q H' kd g3 e3 hq ni ha => hk _ _ q H' kd g3 e3 hq ni ha) fun _ _ _ _ _ z => z.elim
end
theorem u65 {k : Nat} {A : Around} (r : Room k A) : A.units + 65 < cLine := by have := r.un; omega
/-! ### range as a value -/
abbrev WRg := KX → List En → (Int → Int → List En → Prop) → Prop
def lRg (X : Cx) (E : EK) (w : WRg) : L2.St → Hp → (Int → Int → Hp → Prop) → Prop := fun σ H Q => ∃ c ρ k kx, Gd X.K c σ H ρ ∧ w kx ρ k ∧ (∀ a b ρ' H', k a b ρ' → Gd X.K c σ H' ρ' → Ev c ρ H ρ' H' → Q a b H') ∧ ExOk X.K E c σ ρ H kx
structure BRg (X : Cx) (E : EK) (e : Expr) (w : WRg) : Prop where
  pr : PRg X e (lRg X E w)
theorem prI {X : Cx} {e : Expr} {t t' : L2.St → Hp → (Int → Int → Hp → Prop) → Prop} (h : PRg X e t) (i : ∀ σ H Q, t' σ H Q → t σ H Q) : PRg X e t' := fun pins s σ H Q I q => h pins s σ H Q I (i σ H Q q)
section
variable {X : Cx} {E : EK} {a b e : Expr} {wa wb : WE} {p pos : Pos}
def wRgE1 (wa : WE) : WRg := fun kx ρ k => wa kx ρ fun r ρ1 => ∃ n, r.get ρ1 = some (.int n) ∧ k 0 n ρ1
def wRgE2 (wa wb : WE) : WRg := fun kx ρ k => wa kx ρ fun r ρ1 => wb kx ρ1 fun r2 ρ2 => ∃ i j, r.get ρ2 = some (.int i) ∧ r2.get ρ2 = some (.int j) ∧ k i j ρ2
theorem brg_1 (hg : Gl X "range") (hm : X.mg "range" = none) (ha : BE X E a wa) (na : starEach [a] X.env = (false, eval a X.env) :: starEach [] X.env := by rfl) : BRg X E (.Call (.Name "range" p) [a] [] pos) (wRgE1 wa) := by
  refine ⟨prI (prg_1 hg hm ha.pe na) fun σ H Q ⟨c, ρ, k, kx, gd, hw, hk, hx⟩ => ?_⟩
  refine ⟨c, ρ, _, kx, gd, hw, fun r ρ1 v H1 k1 g1 e1 p1 => ?_, hx⟩
  obtain ⟨n, hn, hk1⟩ := k1
  exact ⟨n, (p1.see g1 hn).int, hk _ _ _ _ hk1 g1 e1⟩
def wLstRg (w : WRg) : WN := fun kx ρ k => w kx ρ fun a b ρ1 => RgOk a b ∧ k (.list (rgD a (b - a).toNat)) ρ1
def wTupRg (w : WRg) : WE := fun kx ρ k => w kx ρ fun a b ρ1 => RgOk a b ∧ k (.val (.tuple (rgD a (b - a).toNat))) ρ1
theorem rg_rep {K : PySem.W.Frag} {M : Ow} {H : Hp} (a b : Int) : RepAll K M H (rgD a (b - a).toNat) (rgV a b) := by
  refine RepAll.of_get (by rw [rgV_length, rgD_len]) fun i v d h1 h2 => ?_
  have hi : i < (b - a).toNat := by
    have := (List.getElem?_eq_some_iff.mp h2).1
    rwa [rgD_len] at this
  rw [rgD_get hi] at h2
  unfold rgV at h1
  rw [List.getElem?_map, List.getElem?_range hi] at h1
  cases h1; cases h2
  exact rfl
theorem bn_listRg {w : WRg} (hc : X.calm = true) (hg : Gl X "list") (hm : X.mg "list" = none) (he : BRg X E e w) (na : starEach [e] X.env = (false, eval e X.env) :: starEach [] X.env := by rfl) : BN X E (.Call (.Name "list" p) [e] [] pos) (wLstRg w) := by
  refine ⟨peI (pe_listRg hc hg hm he.pr na) fun σ H Q ⟨c, ρ, k, kx, gd, hw, hk, hx⟩ => ?_⟩
  refine ⟨c, ρ, _, kx, gd, hw, fun a b ρ1 H1 k1 g1 e1 => ?_, hx⟩
  obtain ⟨ok, k2⟩ := k1
  exact ⟨ok, fun q hq => hk _ _ _ _ k2 (g1.more hq (sm_upd hq) (by rw [upd_same]; intro z; cases z)) (e1.trans (.same (sm_upd hq))) (e1.there q hq) (g1.noio hq) ⟨_, upd_same, rg_rep a b⟩⟩
theorem be_tupRg {w : WRg} (hc : X.calm = true) (hg : Gl X "tuple") (hm : X.mg "tuple" = none) (he : BRg X E e w) (na : starEach [e] X.env = (false, eval e X.env) :: starEach [] X.env := by rfl) : BE X E (.Call (.Name "tuple" p) [e] [] pos) (wTupRg w) := by
  refine ⟨peI (pe_tupRg hc hg hm he.pr na) fun σ H Q ⟨c, ρ, k, kx, gd, hw, hk, hx⟩ => ?_⟩
  refine ⟨c, ρ, _, kx, gd, hw, fun a b ρ1 H1 k1 g1 e1 => ?_, hx⟩
  obtain ⟨ok, k2⟩ := k1
  exact ⟨ok, fun q hq => hk _ _ _ _ k2 (g1.same (sm_upd hq)) (e1.trans (.same (sm_upd hq))) ⟨q, _, rfl, .inl ⟨upd_same, fun z => g1.mth z hq⟩, rg_rep a b⟩⟩
/-! ### a, b = e -/
def wUnp (we : WE) (g : WG) : WS := fun W ρ => we W.ex ρ fun r ρ1 => ∃ d ρ2, r.fz ρ1 = some (d, ρ2) ∧ g d ρ2 W.nx
theorem bs_unpack {st : Stmt} {tg : Expr} {sl : List Nat} {we : WE} {g : WG} (mk : ∀ {te : TE} {t : TG}, PE X e te → PG X tg t → PS X st (tAsg te t)) (he : BE X E e we) (hg : BG X tg sl g) : BS X E st (wUnp we g) := by
  refine ⟨psI (mk he.pe hg.pg) fun D σ H ⟨c, ρ, W, gd, hw, h⟩ => ?_⟩
  refine ⟨c, ρ, _, W.ex, gd, hw, fun r ρ1 v H1 k1 g1 e1 p1 => ?_, h.exok⟩
  obtain ⟨d, ρ2, hf, k2⟩ := k1
  obtain ⟨g2, e2, r2⟩ := p1.fz g1 hf
  exact ⟨c, ρ2, d, _, g2, r2, k2, fun σ' ρ' a b d _ => h.nx _ _ _ a b ((e1.trans e2).trans d)⟩
/-! ### bit_length -/
def wBits (wa : WE) : WE := fun kx ρ k => wa kx ρ fun r ρ1 => ∃ i, r.get ρ1 = some (.int i) ∧ k (.val (.int (Builtin.Int.intBits i : Nat))) ρ1
theorem be_bits {o : Expr} {apos : Pos} (ho : BE X E o wa) (hbase : attributeBase o "bit_length" X.env (eval o X.env) = eval o X.env := by rfl) (hline : (apos.endLine == pos.line) = true := by rfl) : BE X E (.Call (.Attribute o "bit_length" apos) [] [] pos) (wBits wa) := by
  refine ⟨peI (pe_bits ho.pe hbase hline) fun σ H Q ⟨c, ρ, k, kx, gd, hw, hk, hx⟩ => ?_⟩
  refine ⟨c, ρ, _, kx, gd, hw, fun r ρ1 v H1 k1 g1 e1 p1 => ?_, hx⟩
  obtain ⟨i, hi, hk1⟩ := k1
  exact ⟨i, (p1.see g1 hi).int, hk _ _ _ _ hk1 g1 e1 rfl⟩
end
end LB

/-! LB, part 10: help for the walks over data. -/
namespace LB
open PySem PySem.Spec PyProof.Rows L2
/-- a test met -/
theorem itD {p : Prop} [i : Decidable p] {a b : Prop} (h1 : p → a) (h2 : ¬ p → b) : @ite Prop (@decide p i = true) (instDecidableEqBool _ _) a b := by
  by_cases h : p
  · rw [if_pos (decide_eq_true h)]; exact h1 h
  · rw [if_neg (fun z => h (of_decide_eq_true z))]; exact h2 h
theorem itB {c : Bool} {a b : Prop} (h1 : c = true → a) (h2 : c = false → b) : @ite Prop (c = true) (instDecidableEqBool _ _) a b := by
  cases c
  · exact h2 rfl
  · exact h1 rfl
theorem itT {c : Bool} {a b : Prop} (h : c = true) (h1 : a) : @ite Prop (c = true) (instDecidableEqBool _ _) a b := by rw [if_pos h]; exact h1
theorem itF {c : Bool} {a b : Prop} (h : c = false) (h1 : b) : @ite Prop (c = true) (instDecidableEqBool _ _) a b := by subst h; exact h1
/-- what is behind, shown once -/
theorem cut0 {u : WS} {W : WD} {ρ : List En} (P : List En → Prop) (h : ∀ ρ', P ρ' → u W ρ') (h0 : P ρ) : u W ρ := h _ h0
theorem cut1 {w u : WS} {W : WD} {ρ : List En} (P : List En → Prop) (h : ∀ ρ', P ρ' → u W ρ') (k : ∀ U : List En → Prop, (∀ ρ', P ρ' → U ρ') → w { W with nx := U } ρ) : wSeq w u W ρ := k (fun ρ' => u W ρ') h
theorem cut2 {w1 w u : WS} {W : WD} {ρ : List En} (P : List En → Prop) (h : ∀ ρ', P ρ' → u W ρ') (k : ∀ U : List En → Prop, (∀ ρ', P ρ' → U ρ') → wSeq w1 w { W with nx := U } ρ) : wSeq w1 (wSeq w u) W ρ := k (fun ρ' => u W ρ') h
theorem cut3 {w1 w2 w u : WS} {W : WD} {ρ : List En} (P : List En → Prop) (h : ∀ ρ', P ρ' → u W ρ') (k : ∀ U : List En → Prop, (∀ ρ', P ρ' → U ρ') → wSeq w1 (wSeq w2 w) { W with nx := U } ρ) : wSeq w1 (wSeq w2 (wSeq w u)) W ρ := k (fun ρ' => u W ρ') h
theorem cut4 {w1 w2 w3 w u : WS} {W : WD} {ρ : List En} (P : List En → Prop) (h : ∀ ρ', P ρ' → u W ρ') (k : ∀ U : List En → Prop, (∀ ρ', P ρ' → U ρ') → wSeq w1 (wSeq w2 (wSeq w3 w)) { W with nx := U } ρ) : wSeq w1 (wSeq w2 (wSeq w3 (wSeq w u))) W ρ := k (fun ρ' => u W ρ') h
theorem cut5 {w1 w2 w3 w4 w u : WS} {W : WD} {ρ : List En} (P : List En → Prop) (h : ∀ ρ', P ρ' → u W ρ') (k : ∀ U : List En → Prop, (∀ ρ', P ρ' → U ρ') → wSeq w1 (wSeq w2 (wSeq w3 (wSeq w4 w))) { W with nx := U } ρ) : wSeq w1 (wSeq w2 (wSeq w3 (wSeq w4 (wSeq w u)))) W ρ := k (fun ρ' => u W ρ') h
theorem cut6 {w1 w2 w3 w4 w5 w u : WS} {W : WD} {ρ : List En} (P : List En → Prop) (h : ∀ ρ', P ρ' → u W ρ') (k : ∀ U : List En → Prop, (∀ ρ', P ρ' → U ρ') → wSeq w1 (wSeq w2 (wSeq w3 (wSeq w4 (wSeq w5 w)))) { W with nx := U } ρ) : wSeq w1 (wSeq w2 (wSeq w3 (wSeq w4 (wSeq w5 (wSeq w u))))) W ρ := k (fun ρ' => u W ρ') h
/-! the names' state, put in order -/
theorem wr0o {d d0 : PyData} {l : Addr} {ρ : List En} : wr 0 d (.own l d0 :: ρ) = .own l d :: ρ := rfl
theorem wr0i {d d0 : PyData} {l : Addr} {ρ : List En} : wr 0 d (.io l d0 :: ρ) = .io l d :: ρ := rfl
theorem wrS {d : PyData} {e : En} {i : Nat} {ρ : List En} : wr (i + 1) d (e :: ρ) = e :: wr i d ρ := by
  unfold wr
  rw [List.getElem?_cons_succ]
  split <;> rfl
theorem wrs_n {os : List PyData} {ρ : List En} : wrs [] os ρ = ρ := by cases os <;> rfl
theorem wrs_c {i : Nat} {is : List Nat} {o : PyData} {os : List PyData} {ρ : List En} : wrs (i :: is) (o :: os) ρ = wrs is os (wr i o ρ) := rfl
theorem wipe_n {ρ : List En} : wipeR ρ [] = ρ := rfl
theorem wipe_c {ρ : List En} {v : Nat} {vs : List Nat} : wipeR ρ (v :: vs) = (wipeR ρ vs).set v .no := rfl
theorem rest_n {ρ ρ2 : List En} : restR ρ ρ2 [] = ρ2 := rfl
theorem rest_c {ρ ρ2 : List En} {v : Nat} {vs : List Nat} : restR ρ ρ2 (v :: vs) = (restR ρ ρ2 vs).set v (keepE ρ[v]?) := rfl
theorem keep_v {d : PyData} : keepE (some (.val d)) = .val d := rfl
theorem keep_n : keepE (some .no) = .no := rfl
theorem keep_o {v : V} : keepE (some (.obj v)) = .obj v := rfl
theorem keep_r {d : PyData} : keepE (some (.rd d)) = .no := rfl
theorem mk_v {ms : List Md} {x : PyData} {xs : List PyData} {ws : List Addr} : mkEn (.v :: ms) (x :: xs) ws = .val x :: mkEn ms xs ws := rfl
theorem mk_r {ms : List Md} {x : PyData} {xs : List PyData} {ws : List Addr} : mkEn (.r :: ms) (x :: xs) ws = .rd x :: mkEn ms xs ws := rfl
theorem mk_m {ms : List Md} {x : PyData} {xs : List PyData} {l : Addr} {ws : List Addr} : mkEn (.m :: ms) (x :: xs) (l :: ws) = .io l x :: mkEn ms xs ws := rfl
theorem mk_n {xs : List PyData} {ws : List Addr} : mkEn [] xs ws = [] := rfl
theorem LcP.at {vs : List Nat} {g : WG} {wt : WT} {we : WE} {s : Src} {ρ1 ρ0 : List En} {k : PyData → List En → Prop} (h : ρ1 = ρ0) (z : LcP vs g wt we s ρ0 k) : LcP vs g wt we s ρ1 k := by subst h; exact z
theorem ForP.at {g : WG} {wb : WS} {W : WD} {s : Src} {ρ1 ρ0 : List En} (h : ρ1 = ρ0) (z : ForP g wb W s ρ0) : ForP g wb W s ρ1 := by subst h; exact z
theorem WhP.at {t : WT} {wb : WS} {W : WD} {ρ1 ρ0 : List En} (h : ρ1 = ρ0) (z : WhP t wb W ρ0) : WhP t wb W ρ1 := by subst h; exact z
theorem wSeq.at {w u : WS} {W : WD} {ρ1 ρ0 : List En} (h : ρ1 = ρ0) (z : wSeq w u W ρ0) : wSeq w u W ρ1 := by subst h; exact z
/-- a comprehension that changes nothing: each member gives a list of none or one -/
theorem LcP.fix {vs : List Nat} {g : WG} {wt : WT} {we : WE} {s : Src} {ρ1 : List En} {k : PyData → List En → Prop} (hok : s.ok (wipeR ρ1 vs)) (f : PyData → List PyData) (hf : ∀ d, (f d).length ≤ 1) (hl : s.items.length ≤ sizeLine)
    (turn : ∀ (i : Nat) (d : PyData) (acc : List PyData) (Pn : List PyData → List En → Prop), s.items[i]? = some d → acc.length < sizeLine → Pn (acc ++ f d) (wipeR ρ1 vs) →
      g d (wipeR ρ1 vs) fun ρ3 => wt (fun _ _ => False) ρ3 fun b ρ4 => if b = true then we (fun _ _ => False) ρ4 fun r ρ5 => ∃ z ρ6, r.fz ρ5 = some (z, ρ6) ∧ acc.length < sizeLine ∧ Pn (acc ++ [z]) (wipeR ρ6 vs) else Pn acc (wipeR ρ4 vs))
    (done : k (.list (s.items.flatMap f)) (restR ρ1 (wipeR ρ1 vs) vs)) : LcP vs g wt we s ρ1 k := by
  refine ⟨fun i acc ρ => ρ = wipeR ρ1 vs ∧ acc = (s.items.take i).flatMap f, ⟨rfl, by simp⟩, fun i acc ρ2 _ ⟨e, _⟩ => by rw [e]; exact hok, fun i d acc ρ2 hd ⟨e1, e2⟩ => ?_, fun acc ρ2 ⟨e1, e2⟩ => ?_⟩
  · subst e1
    have hi : i < s.items.length := (List.getElem?_eq_some_iff.mp hd).1
    have le : ∀ l : List PyData, (l.flatMap f).length ≤ l.length := fun l => by
      induction l with
      | nil => simp
      | cons a l ih => rw [List.flatMap_cons, List.length_append, List.length_cons]; have := hf a; omega
    have hal : acc.length < sizeLine := by
      have h1 := le (s.items.take i)
      rw [← e2, List.length_take] at h1
      omega
    refine turn i d acc (fun a ρ => ρ = wipeR ρ1 vs ∧ a = (s.items.take (i + 1)).flatMap f) hd hal ⟨rfl, ?_⟩
    rw [List.take_succ, hd, e2]
    simp
  · subst e1
    rw [List.take_length] at e2
    subst e2
    exact done
theorem flat_map1 {α β : Type} (f : α → β) (l : List α) : l.flatMap (fun a => [f a]) = l.map f := by
  induction l with
  | nil => rfl
  | cons a l ih => rw [List.flatMap_cons, ih]; rfl
theorem flat_if {α β : Type} (p : α → Bool) (f : α → β) (l : List α) : l.flatMap (fun a => if p a = true then [f a] else []) = (l.filter p).map f := by
  induction l with
  | nil => rfl
  | cons a l ih =>
    rw [List.flatMap_cons, ih, List.filter_cons]
    split <;> simp

end LB
namespace LB
open PySem PySem.Spec PyProof.Rows L2
theorem as0 {as : List Addr} (h : as.length = 0) : as = [] := List.length_eq_zero_iff.mp h
theorem as1 {as : List Addr} (h : as.length = 1) : ∃ a, as = [a] := List.length_eq_one_iff.mp h
theorem as2 {as : List Addr} (h : as.length = 2) : ∃ a b, as = [a, b] := by match as, h with | [a, b], _ => exact ⟨a, b, rfl⟩
theorem as3 {as : List Addr} (h : as.length = 3) : ∃ a b c, as = [a, b, c] := by match as, h with | [a, b, c], _ => exact ⟨a, b, c, rfl⟩
theorem log2_lt {n k : Nat} (h : n < 2 ^ k) (hk : 0 < k) : n.log2 < k := by
  by_cases e : n = 0
  · subst e; exact hk
  · exact (Nat.log2_lt e).mpr h
theorem pow_pos' (k : Nat) : (0 : Int) < 1 * 2 ^ k := by
  rw [Int.one_mul]; exact Int.pow_pos (by decide)
theorem ixN_of {n j : Nat} (hj : j < n) : ixN n (j : Int) = some j := by
  unfold ixN
  rw [if_pos (by omega), if_pos (by omega)]; rfl
theorem src_row {row : PyData} {ys : List PyData} {ρ : List En} (h : row = .list ys ∨ row = .tuple ys) : srcOf (.val row) ρ = some (.fixed ys) := by
  rcases h with rfl | rfl <;> rfl
theorem rgD_mem {lo : Int} {n i : Nat} {d : PyData} (h : (rgD lo n)[i]? = some d) : i < n ∧ d = .int (lo + (i : Nat)) := by
  have hi : i < n := by
    have := (List.getElem?_eq_some_iff.mp h).1
    rwa [rgD_len] at this
  rw [rgD_get hi] at h
  cases h
  exact ⟨hi, rfl⟩
theorem LcP.fixed {vs : List Nat} {g : WG} {wt : WT} {we : WE} {ds : List PyData} {ρ1 : List En} {k : PyData → List En → Prop} (f : PyData → List PyData) (hf : ∀ d, (f d).length ≤ 1) (hl : ds.length ≤ sizeLine)
    (turn : ∀ (i : Nat) (d : PyData) (acc : List PyData) (Pn : List PyData → List En → Prop), ds[i]? = some d → acc.length < sizeLine → Pn (acc ++ f d) (wipeR ρ1 vs) →
      g d (wipeR ρ1 vs) fun ρ3 => wt (fun _ _ => False) ρ3 fun b ρ4 => if b = true then we (fun _ _ => False) ρ4 fun r ρ5 => ∃ z ρ6, r.fz ρ5 = some (z, ρ6) ∧ acc.length < sizeLine ∧ Pn (acc ++ [z]) (wipeR ρ6 vs) else Pn acc (wipeR ρ4 vs))
    (done : k (.list (ds.flatMap f)) (restR ρ1 (wipeR ρ1 vs) vs)) : LcP vs g wt we (.fixed ds) ρ1 k :=
  LcP.fix (s := .fixed ds) trivial f hf hl turn done
/-- .. that changes the names' state -/
theorem LcP.inv {vs : List Nat} {g : WG} {wt : WT} {we : WE} {ds : List PyData} {ρ1 : List En} {k : PyData → List En → Prop} (P : Nat → List PyData → List En → Prop) (h0 : P 0 [] (wipeR ρ1 vs))
    (turn : ∀ (i : Nat) (d : PyData) (acc : List PyData) (ρ2 : List En), ds[i]? = some d → P i acc ρ2 →
      g d ρ2 fun ρ3 => wt (fun _ _ => False) ρ3 fun b ρ4 => if b = true then we (fun _ _ => False) ρ4 fun r ρ5 => ∃ z ρ6, r.fz ρ5 = some (z, ρ6) ∧ acc.length < sizeLine ∧ P (i + 1) (acc ++ [z]) (wipeR ρ6 vs) else P (i + 1) acc (wipeR ρ4 vs))
    (done : ∀ acc ρ2, P ds.length acc ρ2 → k (.list acc) (restR ρ1 ρ2 vs)) : LcP vs g wt we (.fixed ds) ρ1 k :=
  ⟨P, h0, fun _ _ _ _ _ => trivial, turn, done⟩
theorem ForP.inv {g : WG} {wb : WS} {W : WD} {ds : List PyData} {ρ1 : List En} (P : Nat → List En → Prop) (h0 : P 0 ρ1)
    (turn : ∀ (i : Nat) (d : PyData) (ρ2 : List En), ds[i]? = some d → P i ρ2 → g d ρ2 fun ρ3 => wb { W with nx := P (i + 1), ct := P (i + 1), bk := W.nx } ρ3) (done : ∀ ρ2, P ds.length ρ2 → W.nx ρ2) : ForP g wb W (.fixed ds) ρ1 :=
  ⟨P, h0, fun _ _ _ _ => trivial, turn, done⟩
theorem shl_one {j : Int} (h0 : 0 ≤ j) (h : j ≤ 100000000) : CShl 1 j := ⟨h0, by
  have e : Builtin.Int.intBits 1 = 1 := by decide
  rw [e]; omega⟩
end LB

/-! LB, part 11: masks, plain. -/
namespace LB
open PySem PySem.Spec PyProof.Rows L2
def maskM (vs : List Nat) : Nat := (vs.map (2 ^ ·)).sum
def maskO (vs : List Nat) : Nat := vs.foldl (fun m v => m ||| 2 ^ v) 0
def natD (vs : List Nat) : List PyData := vs.map fun v => .int ((v : Nat) : Int)
theorem cast_pow2 (v : Nat) : ((2 ^ v : Nat) : Int) = 2 ^ v := by
  induction v with
  | zero => rfl
  | succ n ih => rw [Nat.pow_succ, Int.pow_succ, ← ih]; exact Int.natCast_mul _ _
theorem bitAnd_nat (a b : Nat) : Builtin.bitAnd (a : Int) (b : Int) = ((a &&& b : Nat) : Int) := by
  unfold Builtin.bitAnd
  rw [show decide ((0 : Int) ≤ (a : Int)) = true from decide_eq_true (by omega), show decide ((0 : Int) ≤ (b : Int)) = true from decide_eq_true (by omega)]
  rfl
theorem bitOr_nat (a b : Nat) : Builtin.bitOr (a : Int) (b : Int) = ((a ||| b : Nat) : Int) := by
  have bn : ∀ x : Nat, Builtin.bitNot ((x : Nat) : Int) = -((x : Nat) : Int) - 1 := fun x => by unfold Builtin.bitNot; omega
  unfold Builtin.bitOr Builtin.bitAnd
  rw [bn, bn, show decide ((0 : Int) ≤ (-((a : Nat) : Int) - 1)) = false from decide_eq_false (by omega), show decide ((0 : Int) ≤ (-((b : Nat) : Int) - 1)) = false from decide_eq_false (by omega)]
  have nn : ∀ x : Int, Builtin.bitNot (Builtin.bitNot x) = x := fun x => by unfold Builtin.bitNot; omega
  show Builtin.bitNot (Builtin.bitNot _) = _
  rw [nn, ← bn, ← bn, nn, nn]
  rfl
theorem bits_nat (m : Nat) : Builtin.Int.intBits (m : Int) = if m = 0 then 0 else m.log2 + 1 := by
  unfold Builtin.Int.intBits
  by_cases h : m = 0
  · subst h; rfl
  · rw [if_neg (by simp; omega), if_neg h]; rfl
theorem bits_le {m n : Nat} (h : m < 2 ^ n) : Builtin.Int.intBits (m : Int) ≤ n := by
  rw [bits_nat]
  split
  · omega
  · rename_i h0
    have := (Nat.log2_lt h0).mpr h
    omega
theorem add_or {v x : Nat} (h : x.testBit v = false) : 2 ^ v + x = 2 ^ v ||| x := by
  rw [Nat.testBit_eq_decide_div_mod_eq] at h
  have h1 : x / 2 ^ v % 2 = 0 := by
    have := of_decide_eq_false h
    omega
  have h2 : x % 2 ^ (v + 1) = x % 2 ^ v := by rw [Nat.mod_pow_succ, h1]; omega
  have hp : 0 < 2 ^ v := Nat.pow_pos (by omega)
  have h3 : x % 2 ^ v < 2 ^ v := Nat.mod_lt _ hp
  have h4 : x = 2 ^ (v + 1) * (x / 2 ^ (v + 1)) + x % 2 ^ v := by rw [← h2]; exact (Nat.div_add_mod x (2 ^ (v + 1))).symm
  have h5 : 2 ^ v * 1 + x % 2 ^ v = 2 ^ v * 1 ||| x % 2 ^ v := Nat.two_pow_add_eq_or_of_lt h3 1
  rw [Nat.mul_one] at h5
  have h6 : x % 2 ^ v < 2 ^ (v + 1) := by rw [Nat.pow_succ]; omega
  have h7 : 2 ^ v + x % 2 ^ v < 2 ^ (v + 1) := by rw [Nat.pow_succ]; omega
  have h8 := Nat.two_pow_add_eq_or_of_lt h6 (x / 2 ^ (v + 1))
  have h9 := Nat.two_pow_add_eq_or_of_lt h7 (x / 2 ^ (v + 1))
  calc 2 ^ v + x = 2 ^ (v + 1) * (x / 2 ^ (v + 1)) + (2 ^ v + x % 2 ^ v) := by omega
    _ = 2 ^ (v + 1) * (x / 2 ^ (v + 1)) ||| (2 ^ v ||| x % 2 ^ v) := by rw [h9, h5]
    _ = 2 ^ v ||| (2 ^ (v + 1) * (x / 2 ^ (v + 1)) ||| x % 2 ^ v) := by
      rw [← Nat.or_assoc, Nat.or_comm (2 ^ (v + 1) * (x / 2 ^ (v + 1))) (2 ^ v), Nat.or_assoc]
    _ = 2 ^ v ||| x := by rw [← h8, ← h4]
theorem maskM_cons (v : Nat) (vs : List Nat) : maskM (v :: vs) = 2 ^ v + maskM vs := by simp [maskM]
theorem test_maskM : ∀ {vs : List Nat} (_ : vs.Nodup) (i : Nat), (maskM vs).testBit i = decide (i ∈ vs)
  | [], _, i => by simp [maskM]
  | v :: vs, h, i => by
    obtain ⟨h1, h2⟩ := List.nodup_cons.mp h
    have c : (maskM vs).testBit v = false := by rw [test_maskM h2]; exact decide_eq_false h1
    rw [maskM_cons, add_or c, Nat.testBit_or, test_maskM h2, Nat.testBit_two_pow]
    by_cases e : i = v
    · subst e; simp
    · have : ¬ v = i := fun z => e z.symm
      simp [e, this]
theorem test_fold : ∀ (vs : List Nat) (m i : Nat), (vs.foldl (fun m v => m ||| 2 ^ v) m).testBit i = (m.testBit i || decide (i ∈ vs))
  | [], m, i => by simp
  | v :: vs, m, i => by
    rw [List.foldl_cons, test_fold vs, Nat.testBit_or, Nat.testBit_two_pow, Bool.or_assoc]
    congr 1
    by_cases e : v = i
    · subst e; simp
    · have : ¬ i = v := fun z => e z.symm
      simp [e, this]
theorem test_maskO (vs : List Nat) (i : Nat) : (maskO vs).testBit i = decide (i ∈ vs) := by
  unfold maskO; rw [test_fold]; simp
theorem maskO_eq {vs ws : List Nat} (h : vs.Nodup) (e : ∀ i, i ∈ ws ↔ i ∈ vs) : maskO ws = maskM vs :=
  Nat.eq_of_testBit_eq fun i => by rw [test_maskO, test_maskM h]; exact decide_eq_decide.mpr (e i)
theorem fold_lt {n : Nat} : ∀ {vs : List Nat} {m : Nat}, m < 2 ^ n → (∀ v ∈ vs, v < n) → vs.foldl (fun m v => m ||| 2 ^ v) m < 2 ^ n
  | [], m, h, _ => h
  | v :: vs, m, h, hv => by
    rw [List.foldl_cons]
    exact fold_lt (Nat.or_lt_two_pow h (Nat.pow_lt_pow_right (by omega) (hv v (by simp)))) fun w hw => hv w (List.mem_cons_of_mem _ hw)
theorem maskM_lt {n : Nat} {vs : List Nat} (h : vs.Nodup) (hv : ∀ v ∈ vs, v < n) : maskM vs < 2 ^ n := by
  rw [← maskO_eq h fun _ => Iff.rfl]
  exact fold_lt (Nat.pow_pos (by omega)) hv
/-- the members, ascending -/
def membersOf (m : Nat) : List Nat := (List.range (Builtin.Int.intBits (m : Int))).filter fun i => m.testBit i
abbrev Asc (l : List Nat) : Prop := l.Pairwise (· < ·)
theorem Asc.nodup {l : List Nat} (h : Asc l) : l.Nodup := List.Pairwise.imp (fun h => Nat.ne_of_lt h) h
theorem asc_ext : ∀ {a b : List Nat}, Asc a → Asc b → (∀ x, x ∈ a ↔ x ∈ b) → a = b
  | [], [], _, _, _ => rfl
  | [], b :: bs, _, _, h => absurd ((h b).mpr (by simp)) (by simp)
  | a :: as, [], _, _, h => absurd ((h a).mp (by simp)) (by simp)
  | a :: as, b :: bs, ha, hb, h => by
    obtain ⟨a1, a2⟩ := List.pairwise_cons.mp ha
    obtain ⟨b1, b2⟩ := List.pairwise_cons.mp hb
    have e : a = b := by
      have h1 := (h a).mp (by simp)
      have h2 := (h b).mpr (by simp)
      rcases List.mem_cons.mp h1 with q | q
      · exact q
      · rcases List.mem_cons.mp h2 with r | r
        · exact r.symm
        · have := a1 b r; have := b1 a q; omega
    subst e
    rw [asc_ext a2 b2 fun x => ?_]
    have hx := h x
    constructor
    · intro z
      rcases List.mem_cons.mp (hx.mp (List.mem_cons_of_mem _ z)) with q | q
      · have := a1 x z; omega
      · exact q
    · intro z
      rcases List.mem_cons.mp (hx.mpr (List.mem_cons_of_mem _ z)) with q | q
      · have := b1 x z; omega
      · exact q
theorem asc_range (n : Nat) : Asc (List.range n) := List.pairwise_lt_range
theorem asc_filter {l : List Nat} (h : Asc l) (p : Nat → Bool) : Asc (l.filter p) := List.Pairwise.filter p h
theorem test_lt {m i : Nat} (h : m.testBit i = true) : i < Builtin.Int.intBits (m : Int) := by
  have h1 := Nat.ge_two_pow_of_testBit h
  rw [bits_nat]
  have h0 : m ≠ 0 := by have : 0 < 2 ^ i := Nat.pow_pos (by omega); omega
  rw [if_neg h0]
  have := (Nat.le_log2 h0).mpr h1
  omega
theorem mem_membersOf {m i : Nat} : i ∈ membersOf m ↔ m.testBit i = true := by
  unfold membersOf
  rw [List.mem_filter, List.mem_range]
  exact ⟨fun h => h.2, fun h => ⟨test_lt h, h⟩⟩
theorem members_maskM {vs : List Nat} (h : Asc vs) : membersOf (maskM vs) = vs :=
  asc_ext (asc_filter (asc_range _) _) h fun x => by rw [mem_membersOf, test_maskM h.nodup]; simp
theorem maskM_range (n : Nat) : maskM (List.range n) = 2 ^ n - 1 :=
  Nat.eq_of_testBit_eq fun i => by rw [test_maskM (asc_range n).nodup, Nat.testBit_two_pow_sub_one]; exact decide_eq_decide.mpr List.mem_range
theorem asc_map_add {vs : List Nat} (h : Asc vs) (k : Nat) : Asc (vs.map (· + k)) := List.Pairwise.map _ (fun a b z => by omega) h
theorem maskM_shl {vs : List Nat} (h : Asc vs) (k : Nat) : maskM vs * 2 ^ k = maskM (vs.map (· + k)) :=
  Nat.eq_of_testBit_eq fun i => by
    rw [test_maskM (asc_map_add h k).nodup, Nat.testBit_mul_two_pow, test_maskM h.nodup]
    by_cases e : k ≤ i
    · simp only [e, decide_true, Bool.true_and, List.mem_map]
      apply decide_eq_decide.mpr
      exact ⟨fun z => ⟨i - k, z, by omega⟩, fun ⟨a, z, q⟩ => by rw [← q, Nat.add_sub_cancel]; exact z⟩
    · simp only [e, decide_false, Bool.false_and, List.mem_map]
      exact (decide_eq_false fun ⟨a, z, q⟩ => e (by omega)).symm
theorem maskM_shr {vs : List Nat} (h : Asc vs) (k : Nat) : maskM vs / 2 ^ k = maskM ((vs.filter (k ≤ ·)).map (· - k)) := by
  have ha : Asc ((vs.filter (k ≤ ·)).map (· - k)) := by
    have h1 : (vs.filter (k ≤ ·)).Pairwise fun a b => a < b ∧ k ≤ a := by
      refine (asc_filter h _).imp_of_mem ?_
      intro a b ha hb z
      exact ⟨z, by simpa using (List.mem_filter.mp ha).2⟩
    exact List.Pairwise.map _ (fun a b z => by omega) h1
  refine Nat.eq_of_testBit_eq fun i => ?_
  rw [test_maskM ha.nodup, Nat.testBit_div_two_pow, test_maskM h.nodup]
  apply decide_eq_decide.mpr
  rw [List.mem_map]
  constructor
  · intro z
    exact ⟨i + k, List.mem_filter.mpr ⟨z, by simp⟩, by omega⟩
  · rintro ⟨a, z, q⟩
    obtain ⟨z1, z2⟩ := List.mem_filter.mp z
    have : k ≤ a := by simpa using z2
    have : a = i + k := by omega
    rw [← this]; exact z1
theorem bit_test (m i : Nat) : PyData.eqv (.int (Builtin.bitAnd ((m : Int) / 2 ^ ((i : Nat) : Int).toNat) 1)) (.int 1) = m.testBit i := by
  rw [Int.toNat_natCast, ← cast_pow2, ← Int.natCast_ediv, show (1 : Int) = ((1 : Nat) : Int) from rfl, bitAnd_nat, Nat.testBit_eq_decide_div_mod_eq]
  have e : ∀ a b : Nat, PyData.eqv (.int ((a : Nat) : Int)) (.int ((b : Nat) : Int)) = decide (a = b) := fun a b => by
    simp only [PyData.eqv]
    by_cases h : a = b
    · subst h; simp
    · have : ¬ ((a : Nat) : Int) = (b : Nat) := by omega
      simp [h, this]
  rw [e, Nat.and_one_is_mod]
theorem map_erase {α β : Type} (f : α → β) : ∀ (l : List α) (j : Nat), (l.map f).eraseIdx j = (l.eraseIdx j).map f
  | [], j => by simp
  | a :: l, 0 => rfl
  | a :: l, j + 1 => by
    show f a :: (l.map f).eraseIdx j = f a :: (l.eraseIdx j).map f
    rw [map_erase f l j]
theorem natD_erase (l : List Nat) (j : Nat) : (natD l).eraseIdx j = natD (l.eraseIdx j) := map_erase _ l j
theorem perm_erase {α : Type} : ∀ {l : List α} {j : Nat} (h : j < l.length), (l[j] :: l.eraseIdx j).Perm l
  | [], j, h => absurd h (by simp)
  | a :: l, 0, h => .refl _
  | a :: l, j + 1, h => by
    show (l[j]'(by simpa using h) :: a :: l.eraseIdx j).Perm (a :: l)
    exact (List.Perm.swap _ _ _).trans (.cons a (perm_erase (by simpa using h)))
theorem natD_len (l : List Nat) : (natD l).length = l.length := List.length_map ..
theorem asc_len {l : List Nat} {n : Nat} (h : Asc l) (hv : ∀ v ∈ l, v ≤ n) : l.length ≤ n + 1 := by
  have key : ∀ (l : List Nat) (a : Nat), l.Pairwise (· < ·) → (∀ v ∈ l, a ≤ v ∧ v ≤ n) → a ≤ n + 1 → l.length + a ≤ n + 1 := fun l => by
    induction l with
    | nil => intro a _ _ h; simpa using h
    | cons x l ih =>
      intro a h hv _
      obtain ⟨h1, h2⟩ := List.pairwise_cons.mp h
      have hx := hv x (by simp)
      have := ih (x + 1) h2 (fun v hv' => ⟨h1 v hv', (hv v (List.mem_cons_of_mem _ hv')).2⟩) (by omega)
      simp only [List.length_cons]
      omega
  have := key l 0 h (fun v hm => ⟨Nat.zero_le _, hv v hm⟩) (by omega)
  omega
theorem natD_get {l : List Nat} {i : Nat} {d : PyData} (h : (natD l)[i]? = some d) : ∃ v, l[i]? = some v ∧ d = .int ((v : Nat) : Int) := by
  unfold natD at h
  rw [List.getElem?_map] at h
  obtain ⟨v, h1, h2⟩ := Option.map_eq_some_iff.mp h
  exact ⟨v, h1, h2.symm⟩
end LB

/-! LB, part 12: a law's head. -/
namespace LB
open PySem PySem.Spec PyProof.Rows L2
/-- _law_begin: a new list of the script's cells and three numbers -/
def spBegin (K : PySem.W.Frag) : Sp := fun vs H Q _ => ∃ (a : Addr) (ns : List Int), vs = [.ref a] ∧ SqL K H a (ns.map V.int) ∧ ns.length ≤ 63 ∧
  ∀ (p q : Addr) (H' : Hp), H p = none → H q = none → p ≠ q → Sm H H' → (∀ a, H' a = none → H a = none) → H' p = some (.lst [.ref q, .int 0, .int 0, .int 7]) → H' q = some (.lst (ns.map V.int)) → Q (.ref p) H'
/-- law's: a list of at most 63 ints is handed in, True comes out -/
def spLaw (K : PySem.W.Frag) : Sp := fun vs H Q _ => ∃ (a : Addr) (ns : List Int), vs = [.ref a] ∧ SqL K H a (ns.map V.int) ∧ ns.length ≤ 63 ∧ ∀ H', Q (.bl true) H'
/-- what a law's body is to reach -/
def wdL : WD where
  nx := fun _ => False
  rt := fun r _ => r = .val (.bool true)
  rn := fun _ _ => False
  bk := fun _ => False
  ct := fun _ => False
  ex := fun _ _ => False
theorem Gd.first {K : PySem.W.Frag} {H : Hp} {v : V} {n : Nat} : Gd K ⟨No, No, H⟩ (some v :: List.replicate n none) H (.obj v :: List.replicate n .no) := by
  have q : ∀ {i : Nat} {e : En}, (En.obj v :: List.replicate n En.no)[i]? = some e → (i = 0 ∧ e = .obj v) ∨ e = .no := fun {i e} z => by
    cases i with
    | zero => cases z; exact .inl ⟨rfl, rfl⟩
    | succ i =>
      rw [List.getElem?_cons_succ, List.getElem?_replicate] at z
      split at z
      · cases z; exact .inr rfl
      · cases z
  refine ⟨by simp, fun i d z => ?_, fun i d z => ?_, fun i l d z => ?_, fun i l d z => ?_, fun i u z => ?_, fun i j l d e z _ => ?_, fun i j l d e z _ => ?_, fun _ _ h _ => h, fun _ z => z, fun _ z => z.elim⟩
  · rcases q z with ⟨_, y⟩ | y <;> cases y
  · rcases q z with ⟨_, y⟩ | y <;> cases y
  · rcases q z with ⟨_, y⟩ | y <;> cases y
  · rcases q z with ⟨_, y⟩ | y <;> cases y
  · rcases q z with ⟨rfl, y⟩ | y
    · cases y; rfl
    · cases y
  · rcases q z with ⟨_, y⟩ | y <;> cases y
  · rcases q z with ⟨_, y⟩ | y <;> cases y
/-- the state of the draws, at the start -/
def draw0 (ns : List Int) : PyData := .list [.list (ns.map .int), .int 0, .int 0, .int 7]
theorem rep_ints {K : PySem.W.Frag} {M : Ow} {H : Hp} : ∀ ns : List Int, RepAll K M H (ns.map .int) (ns.map V.int)
  | [] => rfl
  | i :: ns => ⟨_, _, rfl, rfl, rep_ints ns⟩
theorem law_read {K : PySem.W.Frag} {X : Cx} (hK : X.K = K) {E : EK} {wl : WS} {n : Nat} {H : Hp} {vs : List V} {Q : VK} {E1 : XK} (h : spLaw K vs H Q E1)
    (hw : ∀ (v : V) (p : Addr) (ns : List Int), ns.length ≤ 63 → wl wdL (.obj v :: .own p (draw0 ns) :: List.replicate n .no)) :
    ∃ v, (vs = [v]) ∧ spBegin K [v] H (fun x H1 => lS X E wl { nx := fun _ H' => Q .non H', rt := Q } (some v :: some x :: List.replicate n none) H1) (fun _ _ _ => False) := by
  subst hK
  obtain ⟨a, ns, rfl, hS, hl, hq⟩ := h
  refine ⟨_, rfl, a, ns, rfl, hS, hl, fun p q H' hp hq0 ne sm th h1 h2 => ?_⟩
  have g0 : Gd X.K ⟨No, No, H⟩ (some (.ref a) :: List.replicate (n + 1) none) H (.obj (.ref a) :: List.replicate (n + 1) .no) := Gd.first
  have g1 := g0.more hp sm (by rw [h1]; intro z; cases z)
  have at1 : At X.K (Mof ((⟨No, No, H⟩ : Ct).more p) (.obj (.ref a) :: List.replicate (n + 1) .no)) H' p (draw0 ns) := by
    refine ⟨_, h1, _, _, rfl, ⟨q, _, rfl, ⟨h2, ?_⟩, rep_ints ns⟩, _, _, rfl, rfl, _, _, rfl, rfl, _, _, rfl, rfl, rfl⟩
    rintro ((z | z) | ⟨i, d, z⟩)
    · exact z
    · exact ne z.symm
    · cases i with
      | zero => cases z
      | succ i =>
        rw [List.getElem?_cons_succ, List.getElem?_replicate] at z
        split at z <;> cases z
  have g2 := g1.setOwn (c := ⟨No, No, H⟩) (fun _ z => z) (fun i d z => by
    cases i with
    | zero => cases z
    | succ i =>
      rw [List.getElem?_cons_succ, List.getElem?_replicate] at z
      split at z <;> cases z) 1 at1 (fun z => z) hp
  refine ⟨_, _, wdL, g2, hw _ _ _ hl, ⟨fun _ _ _ z _ _ => z.elim, fun r σ' ρ' v H2 z _ _ rp => ?_, fun _ _ _ _ _ z _ _ _ _ _ _ => z.elim, fun _ _ _ z _ _ => z.elim, fun _ _ _ z _ _ => z.elim, fun _ _ _ _ _ _ z _ _ _ => z.elim⟩⟩
  have z : r = .val (.bool true) := z
  subst z
  have rp : v = .bl true := rp
  subst rp
  exact hq _
end LB
namespace LB
open PySem PySem.Spec PyProof.Rows L2
theorem fn_never {P : Program} {w : World} {K : PySem.W.Frag} {mg : Str → Option Value} {base : Heap} {CX : CXT} {k : Nat} {f : Addr} {fd : FuncData} {ps : List Str} {sp : Sp} (h : ∀ vs H Q E, ¬ sp vs H Q E) : FnOk P w K mg base CX k f fd ps sp :=
  ⟨fun vs H Q E q => (h _ _ _ _ q).elim, fun _ _ _ _ _ _ _ _ _ _ _ _ _ q => (h _ _ _ _ q).elim⟩
theorem spV_never {K : PySem.W.Frag} {ms : List Md} {S : Spc} (h : ∀ xs k kx, ¬ S xs k kx) : ∀ vs H Q E, ¬ spV K ms S vs H Q E := fun vs H Q E ⟨_, _, _, _, _, _, _, _, hS, _⟩ => h _ _ _ hS
theorem spN_never {K : PySem.W.Frag} {ms : List Md} {S : Spc} (h : ∀ xs k kx, ¬ S xs k kx) : ∀ vs H Q E, ¬ spN K ms S vs H Q E := fun vs H Q E ⟨_, _, _, _, _, _, _, _, hS, _⟩ => h _ _ _ hS
theorem begin_cut {ns : List Int} (h : ns.length ≤ 63) : cutV (ns.map V.int) none (some 63) = ns.map V.int := by
  unfold cutV
  refine cut_whole ⟨rfl, ?_⟩
  have := HT.sIx_nat (ns.map V.int).length (ns.map V.int).length 63
  rw [List.length_map] at this ⊢
  rw [show (some 63 : Option Int) = some ((63 : Nat) : Int) from rfl, this]
  omega
end LB

/-! LB, part 13: more operators and methods. -/
namespace LB
open PySem PySem.Spec PyProof.Rows L2
section
variable {X : Cx}
/-- x is True, x is None -/
def gIsA : G2
  | d, .none, k => k (.bool (isNoneD d))
  | .bool a, .bool b, k => k (.bool (decide (a = b)))
  | _, _, _ => False
def gNotA : G2
  | d, .none, k => k (.bool (!isNoneD d))
  | .bool a, .bool b, k => k (.bool (!decide (a = b)))
  | _, _, _ => False
theorem od_isA : OpD X (compareOp .Is) gIsA := by
  obtain ⟨r, h1, h2⟩ := od_isN (X := X)
  refine ⟨_, h1.or op_isBl, fun M H x y d e k Q th sx sy hg hq => ?_⟩
  cases e with
  | none => exact .inl (h2 M H x y d .none k Q th sx sy (by unfold gIsA at hg; exact hg) hq)
  | bool b => cases d with
    | bool a => exact .inr ⟨a, b, sx.bl, sy.bl, hq _ _ _ (show k (.bool (decide (a = b))) from hg) (fun _ _ z => z) rfl⟩
    | _ => exact (show False from hg).elim
  | _ => cases d <;> exact (show False from hg).elim
theorem od_notA : OpD X (compareOp .IsNot) gNotA := by
  obtain ⟨r, h1, h2⟩ := od_notN (X := X)
  refine ⟨_, h1.or op_notBl, fun M H x y d e k Q th sx sy hg hq => ?_⟩
  cases e with
  | none => exact .inl (h2 M H x y d .none k Q th sx sy (by unfold gNotA at hg; exact hg) hq)
  | bool b => cases d with
    | bool a => exact .inr ⟨a, b, sx.bl, sy.bl, hq _ _ _ (show k (.bool (!decide (a = b))) from hg) (fun _ _ z => z) rfl⟩
    | _ => exact (show False from hg).elim
  | _ => cases d <;> exact (show False from hg).elim
/-- xs.remove(i) of a list of ints -/
def gRemove : GW := fun d ys k => ∃ (ns : List Int) (i : Int) (j : Nat), d = .list (ns.map .int) ∧ ys = [.int i] ∧ ns[j]? = some i ∧ (∀ m : Nat, m < j → ns[m]? ≠ some i) ∧ k .none (.list ((ns.eraseIdx j).map .int))
theorem mw_remove : MtW X "list.remove" gRemove := by
  refine ⟨_, mt_remove, fun M H l d vs ds k Q m th a ra hg hq => ?_⟩
  obtain ⟨ns, i, j, rfl, rfl, hj, hno, hk⟩ := hg
  obtain ⟨us, h1, h2⟩ := a
  obtain ⟨v0, vs', rfl, r1, r2⟩ := ra
  cases (show vs' = [] from r2)
  cases (show v0 = _ from r1)
  have e := h2.intsV
  subst e
  exact ⟨l, ns, i, j, rfl, rfl, h1, hj, hno, hq _ _ _ _ hk ⟨_, upd_same, rep_ints _⟩ rfl⟩
end
end LB
namespace LB
open PySem PySem.Spec PyProof.Rows L2
theorem map_get {α : Type} {f : α → PyData} {l : List α} {i : Nat} {d : PyData} (h : (l.map f)[i]? = some d) : ∃ a, l[i]? = some a ∧ d = f a := by
  rw [List.getElem?_map] at h
  obtain ⟨v, h1, h2⟩ := Option.map_eq_some_iff.mp h
  exact ⟨v, h1, h2.symm⟩
theorem natD_at {l : List Nat} {j v : Nat} (h : l[j]? = some v) : atI (natD l) ((j : Nat) : Int) = some (.int ((v : Nat) : Int)) :=
  atI_nat (by unfold natD; rw [List.getElem?_map, h]; rfl)
theorem eqv_nat (a b : Nat) : PyData.eqv (.int ((a : Nat) : Int)) (.int ((b : Nat) : Int)) = decide (a = b) := by
  simp only [PyData.eqv]
  by_cases h : a = b
  · subst h; simp
  · have : ¬ ((a : Nat) : Int) = (b : Nat) := by omega
    simp [h, this]
theorem eqv_int (a b : Int) : PyData.eqv (.int a) (.int b) = decide (a = b) := by
  simp only [PyData.eqv]
  by_cases h : a = b
  · subst h; simp
  · simp [h]
theorem bit_test0 (m i : Nat) : PyData.eqv (.int (Builtin.bitAnd ((m : Int) / 2 ^ ((i : Nat) : Int).toNat) 1)) (.int 0) = !m.testBit i := by
  rw [Int.toNat_natCast, ← cast_pow2, ← Int.natCast_ediv, show (1 : Int) = ((1 : Nat) : Int) from rfl, bitAnd_nat, show (0 : Int) = ((0 : Nat) : Int) from rfl, eqv_nat, Nat.testBit_eq_decide_div_mod_eq, Nat.and_one_is_mod]
  have : m / 2 ^ i % 2 < 2 := Nat.mod_lt _ (by omega)
  by_cases h : m / 2 ^ i % 2 = 0
  · simp [h]
  · have : m / 2 ^ i % 2 = 1 := by omega
    simp [this]
end LB
namespace LB
open PySem PySem.Spec PyProof.Rows L2
theorem asc_full {l : List Nat} {n : Nat} (h : Asc l) (hv : ∀ v ∈ l, v ≤ n) (hl : n < l.length) : ∀ x, x ≤ n → x ∈ l := fun x hx => by
  refine Classical.byContradiction fun z => ?_
  have key : ∀ (l : List Nat) (a : Nat), l.Pairwise (· < ·) → (∀ v ∈ l, a ≤ v ∧ v ≤ n ∧ v ≠ x) → a ≤ n + 1 → l.length + a + (if a ≤ x then 1 else 0) ≤ n + 1 := fun l => by
    induction l with
    | nil => intro a _ _ ha; simp only [List.length_nil]; split <;> omega
    | cons y l ih =>
      intro a h hv _
      obtain ⟨h1, h2⟩ := List.pairwise_cons.mp h
      have hy := hv y (by simp)
      have := ih (y + 1) h2 (fun v hv' => ⟨h1 v hv', (hv v (List.mem_cons_of_mem _ hv')).2⟩) (by omega)
      simp only [List.length_cons]
      split at this <;> split <;> omega
  have := key l 0 h (fun v hm => ⟨Nat.zero_le _, hv v hm, fun q => z (q ▸ hm)⟩) (by omega)
  rw [if_pos (Nat.zero_le _)] at this
  omega
theorem first_of {l : List Nat} {x : Nat} (h : x ∈ l) : ∃ j, j < l.length ∧ l[j]? = some x ∧ ∀ m, m < j → l[m]? ≠ some x := by
  induction l with
  | nil => cases h
  | cons y l ih =>
    by_cases e : y = x
    · subst e; exact ⟨0, by simp, rfl, fun m hm => by omega⟩
    · rcases List.mem_cons.mp h with q | q
      · exact absurd q.symm e
      · obtain ⟨j, h1, h2, h3⟩ := ih q
        refine ⟨j + 1, by simpa using h1, by simpa using h2, fun m hm => ?_⟩
        cases m with
        | zero => simpa using e
        | succ m => simpa using h3 m (by omega)
theorem mem_erase_ne {α : Type} : ∀ {l : List α} {j j' : Nat} {x : α} (h : j' < l.length) (_ : l[j'] = x) (_ : j' ≠ j), x ∈ l.eraseIdx j
  | [], _, _, _, h, _, _ => absurd h (by simp)
  | y :: l, 0, 0, x, _, _, n => absurd rfl n
  | y :: l, 0, j' + 1, x, h, e, _ => by
    show x ∈ l
    rw [← e]; exact List.getElem_mem _
  | y :: l, j + 1, 0, x, h, e, _ => by
    show x ∈ y :: l.eraseIdx j
    rw [← e]; exact List.mem_cons_self
  | y :: l, j + 1, j' + 1, x, h, e, n => by
    show x ∈ y :: l.eraseIdx j
    exact List.mem_cons_of_mem _ (mem_erase_ne (l := l) (j' := j') (by simpa using h) (by simpa using e) (by omega))
end LB
namespace LB
open PySem PySem.Spec PyProof.Rows L2
theorem list_all_congr {α : Type} {l : List α} {p q : α → Bool} (h : ∀ a ∈ l, p a = q a) : l.all p = l.all q := by
  induction l with
  | nil => rfl
  | cons a l ih => rw [List.all_cons, List.all_cons, h a (by simp), ih fun b hb => h b (List.mem_cons_of_mem _ hb)]
end LB
namespace LB
open PySem PySem.Spec PyProof.Rows L2
/-- tests that change nothing, joined -/
theorem wOr_pure {w u : WT} {kx : KX} {ρ : List En} {k : Bool → List En → Prop} (b1 b2 : Bool) (h1 : ∀ K : Bool → List En → Prop, K b1 ρ → w kx ρ K) (h2 : ∀ K : Bool → List En → Prop, K b2 ρ → u kx ρ K) (h : k (b1 || b2) ρ) : wOr w u kx ρ k := by
  refine h1 _ ?_
  cases b1
  · exact h2 _ h
  · exact h
theorem wAnd_pure {w u : WT} {kx : KX} {ρ : List En} {k : Bool → List En → Prop} (b1 b2 : Bool) (h1 : ∀ K : Bool → List En → Prop, K b1 ρ → w kx ρ K) (h2 : ∀ K : Bool → List En → Prop, K b2 ρ → u kx ρ K) (h : k (b1 && b2) ρ) : wAnd w u kx ρ k := by
  refine h1 _ ?_
  cases b1
  · exact h
  · exact h2 _ h
end LB

set_option maxHeartbeats 4000000
namespace K17
open PySem PySem.Spec PyProof.Rows L2 LB

local macro_rules | `(tactic| walk_at "2") => `(tactic| refine Exists.intro _ (Exists.intro _ (And.intro rfl (And.intro rfl ?_))))
local macro_rules | `(tactic| walk_at "1") => `(tactic| refine Exists.intro _ (And.intro rfl ?_))
local macro_rules | `(tactic| walk_at "3") => `(tactic| refine Exists.intro _ (Exists.intro _ (And.intro rfl ?_)))
local macro_rules | `(tactic| walk_at "side") => `(tactic| first | assumption | omega | exact Nat.le_of_ble_eq_true rfl | (dsimp only; omega) | decide | (unfold CMul; omega) | exact ⟨by decide, by decide +kernel⟩ | exact ⟨by decide, by decide, by decide⟩)
local macro_rules | `(tactic| walk_at "c") => `(tactic| refine And.intro (by walk_at "side") ?_)
local macro_rules | `(tactic| walk_at "outs") => `(tactic| first | exact And.intro rfl rfl | exact Exists.intro _ (Exists.intro _ (And.intro rfl (And.intro rfl (by walk_at "outs")))))
local macro_rules | `(tactic| walk_at "e") => `(tactic| refine Exists.intro _ (Exists.intro _ (Exists.intro _ (And.intro rfl (And.intro (by walk_at "outs") ?_)))))
local macro_rules | `(tactic| walk_at "k") => `(tactic| refine Exists.intro _ (Exists.intro _ (Exists.intro _ (And.intro rfl (And.intro rfl (And.intro rfl ?_))))))
local macro_rules | `(tactic| walk_at "nf") => `(tactic| ((try simp only [ent, List.set_cons_zero, List.set_cons_succ, wr0o, wr0i, wrS, wrs_n, wrs_c, wipe_n, wipe_c, rest_n, rest_c, keep_v, keep_n, keep_o, keep_r, mk_v, mk_r, mk_m, mk_n, List.getElem?_cons_zero, List.getElem?_cons_succ, List.length_cons, List.length_nil, List.replicate_succ, List.replicate_zero, List.cons_append, List.nil_append, Nat.reduceAdd, Nat.reduceSub]); exact rfl))
local macro_rules | `(tactic| walk_at "n") => `(tactic| first | refine LcP.at (by walk_at "nf") ?_ | refine ForP.at (by walk_at "nf") ?_ | refine WhP.at (by walk_at "nf") ?_)
local macro_rules | `(tactic| walk_at "r") => `(tactic| ((repeat first | walk_at "2" | walk_at "1" | walk_at "3" | walk_at "c" | refine itT rfl ?_ | refine itF rfl ?_); try walk_at "n"))
local macro_rules | `(tactic| walk_at "eq") => `(tactic| exact fun K h => by (walk_at "2"; exact And.intro (.inl rfl) ⟨_, rfl, by rw [eqv_int]; exact h⟩))
local macro_rules | `(tactic| walk_at "cmp") => `(tactic| exact fun K h => by (walk_at "r"; exact h))

/-! ### what the laws' draws promise -/
/-- the state of the draws -/
def DOk (d : PyData) : Prop := ∃ (ns : List Int) (i left seed : Int), d = .list [.list (ns.map .int), .int i, .int left, .int seed] ∧ 0 ≤ i ∧ 0 ≤ left ∧ 0 ≤ seed
def S__law_draw : Spc := fun xs k _ => ∃ d m, xs = [d, .int m] ∧ DOk d ∧ 0 < m ∧ m < 2147483648 ∧ ∀ r d', 0 ≤ r → r < m → DOk d' → k (.int r) [d']
def S__law_pick : Spc := fun xs k _ => ∃ d row ys, xs = [d, row] ∧ DOk d ∧ (row = .list ys ∨ row = .tuple ys) ∧ ys ≠ [] ∧ ys.length < 2147483648 ∧ ∀ y ∈ ys, ∀ d', DOk d' → k y [d']
def S__law_pop : Spc := fun xs k _ => ∃ d ys, xs = [d, .list ys] ∧ DOk d ∧ ys ≠ [] ∧ ys.length < 2147483648 ∧ ∀ (j : Nat) y, ys[j]? = some y → ∀ d', DOk d' → k y [d', .list (ys.eraseIdx j)]
def isInt : PyData → Bool
  | .int _ => true | _ => false
def S__law_is_int : Spc := fun xs k _ => ∃ d, xs = [d] ∧ k (.bool (isInt d)) []
/-- data of tuples, ints, texts, truth values and None, at most n deep -/
def plainN : Nat → PyData → Prop
  | n, .none => 0 < n | n, .bool _ => 0 < n | n, .int _ => 0 < n | n, .str _ => 0 < n
  | 0, _ => False
  | n + 1, .tuple xs => xs.length ≤ sizeLine ∧ ∀ x ∈ xs, plainN n x
  | _, _ => False
theorem plainI (i : Int) : plainN 2 (.int i) := Nat.two_pos
def S__law_same (n : Nat) : Spc := fun xs k _ => ∃ d, xs = [d, d] ∧ plainN n d ∧ k (.bool true) []
def rowOf (row : PyData) (ys : List PyData) : Prop := row = .list ys ∨ row = .tuple ys
def S_full_mask : Spc := fun xs k _ => ∃ t : Nat, xs = [.int t] ∧ t ≤ 1000000 ∧ k (.int ((2 ^ (t + 1) - 1 : Nat) : Int)) []
def S_mask_of : Spc := fun xs k _ => ∃ row vs, xs = [row] ∧ rowOf row (natD vs) ∧ (∀ v ∈ vs, v ≤ 1000000) ∧ k (.int ((maskO vs : Nat) : Int)) []
def S_values_of : Spc := fun xs k _ => ∃ m : Nat, xs = [.int m] ∧ Builtin.Int.intBits (m : Int) ≤ 1000000 ∧ k (.tuple (natD (membersOf m))) []
def S_shifted : Spc := fun xs k _ => ∃ (m : Nat) (n : Int), xs = [.int m, .int n] ∧ Builtin.Int.intBits (m : Int) ≤ 1000000 ∧ -1000000 ≤ n ∧ n ≤ 1000000 ∧ ∀ r : Nat, (0 ≤ n → r = m * 2 ^ n.toNat) → (n < 0 → r = m / 2 ^ (-n).toNat) → k (.int ((r : Nat) : Int)) []
def S__law_mask : Spc := fun xs k _ => ∃ row vs, xs = [row] ∧ rowOf row (natD vs) ∧ vs.length ≤ sizeLine ∧ (∀ v ∈ vs, v ≤ 1000000) ∧ k (.int ((maskM vs : Nat) : Int)) []
theorem nev__law_same : ∀ xs k kx, ¬ S__law_same 0 xs k kx := fun xs k kx ⟨d, _, h, _⟩ => by cases d <;> simp [plainN] at h
def limD (ls : List (Nat × Nat)) : List PyData := ls.map fun p => .tuple [.int ((p.1 : Nat) : Int), .int ((p.2 : Nat) : Int)]
def holdsB (ls : List (Nat × Nat)) (st : List Nat) : Bool := ls.all fun p => p.2.testBit (st.getD p.1 0)
/-- effects: the dial, set or add, the number -/
def effD (es : List (Nat × Bool × Int)) : List PyData := es.map fun e => .tuple [.int ((e.1 : Nat) : Int), .str (if e.2.1 then "set" else "add"), .int e.2.2]
def onE (e : Nat × Bool × Int) (x : Int) : Int := if e.2.1 then e.2.2 else x + e.2.2
def applE (es : List (Nat × Bool × Int)) (st : List Int) : List Int := es.foldl (fun s e => s.set e.1 (onE e (s.getD e.1 0))) st
def behE (es : List (Nat × Bool × Int)) (st : List Int) : List Int := st.mapIdx fun k x => match es.find? (fun e => e.1 == k) with
  | none => x
  | some e => onE e x
def S_holds : Spc := fun xs k _ => ∃ row ls st, xs = [row, .tuple (natD st)] ∧ rowOf row (limD ls) ∧ (∀ p ∈ ls, p.1 < st.length) ∧ k (.bool (holdsB ls st)) []
def S_can : Spc := fun xs k _ => ∃ nm pr row ef ls st, xs = [.tuple [nm, pr, row, ef], .tuple (natD st)] ∧ rowOf row (limD ls) ∧ (∀ p ∈ ls, p.1 < st.length) ∧ k (.bool (holdsB ls st)) []
def S_after : Spc := fun xs k _ => ∃ nm pr lm row es st, xs = [.tuple [nm, pr, lm, row], .tuple (st.map .int)] ∧ rowOf row (effD es) ∧ (∀ e ∈ es, e.1 < st.length) ∧ k (.tuple ((applE es st).map .int)) []
def S__law_rare : Spc := fun xs k _ => ∃ d m, xs = [d, .int m] ∧ DOk d ∧ 0 < m ∧ m < 2147483648 ∧ ∀ b d', DOk d' → k (.bool b) [d']
def stsD (sts : List (List Nat)) : List PyData := sts.map fun s => .tuple (natD s)
def TopsOk (tops : List Nat) : Prop := 1 ≤ tops.length ∧ tops.length ≤ 30 ∧ ∀ t ∈ tops, 1 ≤ t ∧ t ≤ 9
def StOk (tops st : List Nat) : Prop := st.length = tops.length ∧ ∀ (k : Nat) t s, tops[k]? = some t → st[k]? = some s → s ≤ t
def LsOk (n m : Nat) (ls : List (Nat × List Nat)) : Prop := ls.length ≤ m ∧ ∀ p ∈ ls, p.1 < n ∧ Asc p.2 ∧ ∀ v ∈ p.2, v ≤ 9
def rowsD (ls : List (Nat × List Nat)) : List PyData := ls.map fun p => .tuple [.int ((p.1 : Nat) : Int), .list (natD p.2)]
def mkLim (ls : List (Nat × List Nat)) : List (Nat × Nat) := ls.map fun p => (p.1, maskM p.2)
def isLet (ls : List (Nat × List Nat)) (st : List Nat) : Bool := ls.all fun p => decide (st.getD p.1 0 ∈ p.2)
def EsOk (tops st : List Nat) (es : List (Nat × Bool × Int)) : Prop := es.length ≤ 1000 ∧ (es.map (·.1)).Nodup ∧ ∀ e ∈ es, ∃ t s, tops[e.1]? = some t ∧ st[e.1]? = some s ∧ 0 ≤ (if e.2.1 then e.2.2 else (s : Int) + e.2.2) ∧ (if e.2.1 then e.2.2 else (s : Int) + e.2.2) ≤ t
def KsOk (n : Nat) (es : List (Nat × Bool × Int)) : Prop := es.length ≤ 1000 ∧ (es.map (·.1)).Nodup ∧ ∀ e ∈ es, e.1 < n
def S__law_tops : Spc := fun xs k _ => ∃ d, xs = [d] ∧ DOk d ∧ ∀ tops d', TopsOk tops → DOk d' → k (.tuple (natD tops)) [d']
def S__law_values : Spc := fun xs k _ => ∃ d al top sure, xs = [d, .list (natD al), .int ((top : Nat) : Int), .int ((sure : Nat) : Int)] ∧ DOk d ∧ Asc al ∧ (∀ v ∈ al, v ≤ top) ∧ 1 ≤ top ∧ top ≤ 9 ∧ sure ≤ top ∧
  ∀ vs d', Asc vs → (∀ v ∈ vs, v ∈ al) → (sure ∈ al → sure ∈ vs) → DOk d' → k (.list (natD vs)) [d']
def S__law_lists : Spc := fun xs k _ => ∃ d tops st, xs = [d, .tuple (natD tops), .tuple (natD st)] ∧ DOk d ∧ TopsOk tops ∧ StOk tops st ∧ ∀ ls d', LsOk tops.length 30 ls → DOk d' → k (.list (rowsD ls)) [d']
def S__law_without : Spc := fun xs k _ => ∃ d ls tops st kk m, xs = [d, .list (rowsD ls), .tuple (natD tops), .tuple (natD st), .int ((kk : Nat) : Int)] ∧ DOk d ∧ TopsOk tops ∧ StOk tops st ∧ LsOk tops.length m ls ∧ m ≤ 1000 ∧ kk < tops.length ∧
  ∀ ls' d', LsOk tops.length (2 * m + 1) ls' → DOk d' → k (.list (rowsD ls')) [d']
def S__law_masks : Spc := fun xs k _ => ∃ n ls, xs = [.list (rowsD ls)] ∧ LsOk n 10000 ls ∧ k (.tuple (limD (mkLim ls))) []
def S__law_is_let : Spc := fun xs k _ => ∃ ls st, xs = [.list (rowsD ls), .tuple (natD st)] ∧ LsOk st.length 10000 ls ∧ k (.bool (isLet ls st)) []
def S__law_deed_lists : Spc := fun xs k _ => ∃ d tops st, xs = [d, .tuple (natD tops), .tuple (natD st)] ∧ DOk d ∧ TopsOk tops ∧ StOk tops st ∧
  ∀ ls es d', LsOk tops.length 60 ls → EsOk tops st es → isLet ls st = true → DOk d' → k (.tuple [.list (rowsD ls), .list (effD es)]) [d']
def S__law_behind : Spc := fun xs k _ => ∃ row es st, xs = [row, .tuple (st.map .int)] ∧ rowOf row (effD es) ∧ es.length ≤ 10000 ∧ st.length ≤ 1000 ∧ k (.tuple ((behE es st).map .int)) []
def S__law_near : Spc := fun xs k _ => ∃ d tops st, xs = [d, .tuple (natD tops), .tuple (natD st)] ∧ DOk d ∧ TopsOk tops ∧ StOk tops st ∧ ∀ (sts : List (List Nat)) d', (∀ s ∈ sts, s.length = tops.length) → DOk d' → k (.list (stsD sts)) [d']
def S__law_limits_agree : Spc := fun xs k _ => ∃ n ls, ∃ sts : List (List Nat), xs = [.list (rowsD ls), .list (stsD sts)] ∧ LsOk n 10000 ls ∧ (∀ s ∈ sts, s.length = n) ∧ k (.bool true) []
def S__law_act_agrees : Spc := fun xs k _ => ∃ n nm pr ls es, ∃ sts : List (List Nat), xs = [.tuple [nm, pr, .tuple (limD (mkLim ls)), .tuple (effD es)], .list (rowsD ls), .list (stsD sts)] ∧ LsOk n 10000 ls ∧ KsOk n es ∧ n ≤ 1000 ∧ (∀ s ∈ sts, s.length = n) ∧ k (.bool true) []
def S__law_made : Spc := fun xs k _ => ∃ d nm n ls ef, xs = [d, .str nm, .tuple [.list (rowsD ls), .list ef]] ∧ DOk d ∧ LsOk n 10000 ls ∧ ∀ (r : Int) d', DOk d' → k (.tuple [.str nm, .int r, .tuple (limD (mkLim ls)), .tuple ef]) [d']
def S__law_deeds_agree : Spc := fun xs k _ => ∃ d tops st, ∃ sts : List (List Nat), xs = [d, .tuple (natD tops), .tuple (natD st), .list (stsD sts)] ∧ DOk d ∧ TopsOk tops ∧ StOk tops st ∧ (∀ s ∈ sts, s.length = tops.length) ∧ ∀ d', DOk d' → k (.bool true) [d']
def S__law_chain_agrees : Spc := fun xs k _ => ∃ d tops st, xs = [d, .tuple (natD tops), .tuple (natD st)] ∧ DOk d ∧ TopsOk tops ∧ StOk tops st ∧ ∀ d', DOk d' → k (.bool true) [d']
theorem rowsD_len (ls : List (Nat × List Nat)) : (rowsD ls).length = ls.length := List.length_map ..
theorem rowsD_app (a b : List (Nat × List Nat)) : rowsD (a ++ b) = rowsD a ++ rowsD b := List.map_append
theorem st_get {tops st : List Nat} (h : StOk tops st) {k t : Nat} (hk : tops[k]? = some t) : ∃ s, st[k]? = some s ∧ s ≤ t := by
  have hk1 := (List.getElem?_eq_some_iff.mp hk).1
  have : k < st.length := by rw [h.1]; exact hk1
  exact ⟨st[k], List.getElem?_eq_getElem this, h.2 k t _ hk (List.getElem?_eq_getElem this)⟩
theorem ls_mono {n m m' : Nat} {ls : List (Nat × List Nat)} (h : LsOk n m ls) (hm : m ≤ m') : LsOk n m' ls := ⟨Nat.le_trans h.1 hm, h.2⟩
theorem rg_natD (n : Nat) : rgD 0 n = natD (List.range n) := by
  unfold rgD natD
  refine List.map_congr_left fun i _ => ?_
  rw [Int.zero_add]
theorem inD_nat (v : Nat) (vs : List Nat) : inD (.int ((v : Nat) : Int)) (natD vs) = decide (v ∈ vs) := by
  unfold inD natD
  rw [List.any_map]
  have : ((fun z => PyData.eqv z (.int ((v : Nat) : Int))) ∘ fun w : Nat => PyData.int ((w : Nat) : Int)) = fun w : Nat => decide (w = v) := funext fun w => eqv_nat w v
  rw [this]
  by_cases h : v ∈ vs
  · rw [decide_eq_true h, List.any_eq_true]; exact ⟨v, h, by simp⟩
  · rw [decide_eq_false h, List.any_eq_false]; intro w hw; simp; intro q; exact h (q ▸ hw)
theorem natD_flat (vs : List Nat) : (natD vs).all flatD = true := by
  rw [List.all_eq_true]
  intro x hx
  obtain ⟨v, _, rfl⟩ := List.mem_map.mp hx
  rfl
theorem filter_rows (ls : List (Nat × List Nat)) (f : PyData → List PyData) (p : Nat → Bool) (hf : ∀ q : Nat × List Nat, f (.tuple [.int ((q.1 : Nat) : Int), .list (natD q.2)]) = if p q.1 = true then [.tuple [.int ((q.1 : Nat) : Int), .list (natD q.2)]] else []) : (rowsD ls).flatMap f = rowsD (ls.filter fun q => p q.1) := by
  induction ls with
  | nil => rfl
  | cons q ls ih =>
    rw [show rowsD (q :: ls) = .tuple [.int ((q.1 : Nat) : Int), .list (natD q.2)] :: rowsD ls from rfl, List.flatMap_cons, ih, hf]
    by_cases h : p q.1 = true
    · rw [List.filter_cons_of_pos (p := fun q : Nat × List Nat => p q.1) h, if_pos h]; rfl
    · rw [List.filter_cons_of_neg (p := fun q : Nat × List Nat => p q.1) (by simpa using h), if_neg h]; rfl
theorem filter_eff (es : List (Nat × Bool × Int)) (f : PyData → List PyData) (p : Nat → Bool) (hf : ∀ q : Nat × Bool × Int, f (.tuple [.int ((q.1 : Nat) : Int), .str (if q.2.1 then "set" else "add"), .int q.2.2]) = if p q.1 = true then [.tuple [.int ((q.1 : Nat) : Int), .str (if q.2.1 then "set" else "add"), .int q.2.2]] else []) : (effD es).flatMap f = effD (es.filter fun q => p q.1) := by
  induction es with
  | nil => rfl
  | cons q es ih =>
    rw [show effD (q :: es) = .tuple [.int ((q.1 : Nat) : Int), .str (if q.2.1 then "set" else "add"), .int q.2.2] :: effD es from rfl, List.flatMap_cons, ih, hf]
    by_cases h : p q.1 = true
    · rw [List.filter_cons_of_pos (p := fun q : Nat × Bool × Int => p q.1) h, if_pos h]; rfl
    · rw [List.filter_cons_of_neg (p := fun q : Nat × Bool × Int => p q.1) (by simpa using h), if_neg h]; rfl
theorem effD_len (es : List (Nat × Bool × Int)) : (effD es).length = es.length := List.length_map ..
theorem ls_filter {n m : Nat} {ls : List (Nat × List Nat)} (h : LsOk n m ls) (p : Nat → Bool) : LsOk n m (ls.filter fun q => p q.1) := ⟨Nat.le_trans (List.length_filter_le _ _) h.1, fun q hq => h.2 q (List.mem_filter.mp hq).1⟩
/-- the two told alike -/
theorem holds_isLet {n m : Nat} {ls : List (Nat × List Nat)} {st : List Nat} (h : LsOk n m ls) : holdsB (mkLim ls) st = isLet ls st := by
  unfold holdsB mkLim isLet
  rw [List.all_map]
  refine list_all_congr fun p hp => ?_
  exact test_maskM (h.2 p hp).2.1.nodup _
theorem appl_get : ∀ (es : List (Nat × Bool × Int)) (st : List Int) (k : Nat), (es.map (·.1)).Nodup → (applE es st)[k]? = (st[k]?).map fun x => match es.find? (fun e => e.1 == k) with
    | none => x
    | some e => onE e x
  | [], st, k, _ => by simp [applE]
  | e :: es, st, k, h => by
    obtain ⟨h1, h2⟩ := List.nodup_cons.mp h
    show (applE es (st.set e.1 (onE e (st.getD e.1 0))))[k]? = _
    rw [appl_get es _ k h2, List.find?_cons]
    by_cases hk : e.1 = k
    · subst hk
      have hn : es.find? (fun e' => e'.1 == e.1) = none := by
        rw [List.find?_eq_none]
        intro x hx
        have : x.1 ≠ e.1 := fun q => h1 (List.mem_map.mpr ⟨x, hx, q⟩)
        simpa using this
      rw [hn]
      simp only [beq_self_eq_true]
      by_cases hl : e.1 < st.length
      · rw [List.getElem?_set_self hl, List.getElem?_eq_getElem hl, List.getD_eq_getElem?_getD, List.getElem?_eq_getElem hl]; rfl
      · rw [List.getElem?_eq_none (by rw [List.length_set]; omega), List.getElem?_eq_none (by omega)]; rfl
    · have : (e.1 == k) = false := by simpa using hk
      rw [List.getElem?_set_ne hk, this]
theorem appl_beh {es : List (Nat × Bool × Int)} {st : List Int} (h : (es.map (·.1)).Nodup) : applE es st = behE es st :=
  List.ext_getElem? fun k => by
    rw [appl_get es st k h]
    unfold behE
    rw [List.getElem?_mapIdx]
theorem natD_int (l : List Nat) : natD l = (l.map fun v => ((v : Nat) : Int)).map .int := by unfold natD; rw [List.map_map]; rfl
theorem plain2i (vs : List Int) (h : vs.length ≤ sizeLine) : plainN 2 (.tuple (vs.map .int)) := ⟨by rw [List.length_map]; exact h, fun x hx => by
  obtain ⟨v, _, rfl⟩ := List.mem_map.mp hx
  exact Nat.one_pos⟩
theorem beh_len (es : List (Nat × Bool × Int)) (st : List Int) : (behE es st).length = st.length := List.length_mapIdx
/-- the state behind is a state again -/
theorem beh_state {tops st : List Nat} {es : List (Nat × Bool × Int)} (hs : StOk tops st) (he : EsOk tops st es) : ∃ st', behE es (st.map fun v => ((v : Nat) : Int)) = st'.map (fun v => ((v : Nat) : Int)) ∧ StOk tops st' := by
  have key : ∀ k t, tops[k]? = some t → ∃ v : Nat, (behE es (st.map fun v => ((v : Nat) : Int)))[k]? = some ((v : Nat) : Int) ∧ v ≤ t := fun k t ht => by
    obtain ⟨s, hs1, hs2⟩ := st_get hs ht
    have hg : (behE es (st.map fun v => ((v : Nat) : Int)))[k]? = some (match es.find? (fun e => e.1 == k) with
      | none => ((s : Nat) : Int)
      | some e => onE e ((s : Nat) : Int)) := by
      unfold behE
      rw [List.getElem?_mapIdx, List.getElem?_map, hs1]
      rfl
    cases hf : es.find? (fun e => e.1 == k) with
    | none =>
      rw [hf] at hg
      exact ⟨s, hg, hs2⟩
    | some e =>
      rw [hf] at hg
      have hm := List.mem_of_find?_eq_some hf
      have hk : e.1 = k := by simpa using List.find?_some hf
      obtain ⟨t', s', h1, h2, h3, h4⟩ := he.2.2 e hm
      rw [hk, ht] at h1
      rw [hk, hs1] at h2
      cases h1; cases h2
      have h5 : onE e ((s : Nat) : Int) = (if e.2.1 then e.2.2 else (s : Int) + e.2.2) := rfl
      refine ⟨(onE e ((s : Nat) : Int)).toNat, ?_, by rw [h5]; omega⟩
      rw [hg, Int.toNat_of_nonneg (by rw [h5]; exact h3)]
  have len : (behE es (st.map fun v => ((v : Nat) : Int))).length = tops.length := by rw [beh_len, List.length_map, hs.1]
  refine ⟨(behE es (st.map fun v => ((v : Nat) : Int))).map Int.toNat, ?_, by rw [List.length_map, len], fun k t s ht hs' => ?_⟩
  · refine List.ext_getElem? fun k => ?_
    rw [List.getElem?_map, List.getElem?_map]
    by_cases hk : k < tops.length
    · obtain ⟨v, hv, _⟩ := key k _ (List.getElem?_eq_getElem hk)
      rw [hv]; rfl
    · rw [List.getElem?_eq_none (by omega)]; rfl
  · obtain ⟨v, hv, hv2⟩ := key k t ht
    rw [List.getElem?_map, hv] at hs'
    simp only [Option.map_some, Option.some.injEq, Int.toNat_natCast] at hs'
    omega
theorem isLet_app (ls : List (Nat × List Nat)) (p : Nat × List Nat) (st : List Nat) : isLet (ls ++ [p]) st = (isLet ls st && decide (st.getD p.1 0 ∈ p.2)) := by
  unfold isLet
  rw [List.all_append]
  simp
theorem ls_app {n m : Nat} {ls : List (Nat × List Nat)} {p : Nat × List Nat} (h : LsOk n m ls) (h1 : p.1 < n) (h2 : Asc p.2) (h3 : ∀ v ∈ p.2, v ≤ 9) : LsOk n (m + 1) (ls ++ [p]) := ⟨by have := h.1; simp; omega, fun q hq => by
  rcases List.mem_append.mp hq with z | z
  · exact h.2 q z
  · simp only [List.mem_singleton] at z; subst z; exact ⟨h1, h2, h3⟩⟩
theorem effD_app (a b : List (Nat × Bool × Int)) : effD (a ++ b) = effD a ++ effD b := List.map_append
theorem natD_filter (l : List Nat) (f : PyData → List PyData) (p : Nat → Bool) (hf : ∀ v : Nat, f (.int ((v : Nat) : Int)) = if p v = true then [.int ((v : Nat) : Int)] else []) : (natD l).flatMap f = natD (l.filter p) := by
  induction l with
  | nil => rfl
  | cons v l ih =>
    rw [show natD (v :: l) = .int ((v : Nat) : Int) :: natD l from rfl, List.flatMap_cons, ih, hf]
    by_cases h : p v = true
    · rw [List.filter_cons_of_pos h, if_pos h]; rfl
    · rw [List.filter_cons_of_neg h, if_neg h]; rfl

theorem natD_take (l : List Nat) (n : Nat) : (natD l).take n = natD (l.take n) := by unfold natD; rw [List.map_take]
theorem natD_drop (l : List Nat) (n : Nat) : (natD l).drop n = natD (l.drop n) := by unfold natD; rw [List.map_drop]
theorem cut_lo (l : List Nat) (n : Nat) : LB.cutD (natD l) none (some ((n : Nat) : Int)) = natD (l.take n) := by
  unfold LB.cutD
  rw [HT.sIx_nat, HT.sIx_none, List.drop_zero, natD_take, natD_len, Nat.sub_zero]
  congr 1
  exact List.take_eq_take_min.symm
theorem cut_hi (l : List Nat) (n : Nat) (j : Int) (hj : j = ((n : Nat) : Int)) : LB.cutD (natD l) (some j) none = natD (l.drop n) := by
  subst hj
  unfold LB.cutD
  rw [HT.sIx_nat, HT.sIx_none, natD_drop, natD_len]
  have e : (natD (l.drop (min n l.length))).length = l.length - min n l.length := by rw [natD_len, List.length_drop]
  rw [← e, List.take_length]
  congr 1
  by_cases h : n ≤ l.length
  · rw [Nat.min_eq_left h]
  · rw [Nat.min_eq_right (by omega), List.drop_of_length_le (by omega), List.drop_of_length_le (by omega)]

/-- holds(limits, state) -/
@[reducible] def w_holds : WS := (wSeq (wFor (wSq (wVar 0)) (gTp (gsCons (gNm 2) (gsCons (gNm 3) gsNil)) 2)
    (wIfS (wTst (wOp gEq (wOp gAnd (wOp gShr (wVar 3) (wOp gIx (wVar 1) (wVar 2))) (wC (.int 1))) (wC (.int 0))))
    (wRet (wC (.bool false)))
    wNext))
    (wRet (wC (.bool true))))
theorem hw_holds : ∀ xs as k kx, S_holds xs k kx → as.length = nM [.v, .v] → w_holds (wdV [.v, .v] as k (fun _ _ => False)) (ent [.v, .v] xs as 4) := by
  rintro xs as k kx ⟨row, ls, st, rfl, hrow, hls, hk⟩ ha
  have := as0 ha
  subst this
  have len : (limD ls).length = ls.length := List.length_map ..
  refine ⟨_, src_row hrow, ForP.inv (fun i ρ => ∃ e1 e2, ρ = [.val row, .val (.tuple (natD st)), e1, e2] ∧ holdsB (ls.take i) st = true) ⟨_, _, rfl, rfl⟩ ?_ ?_⟩
  · rintro i d _ hd ⟨e1, e2, rfl, hh⟩
    obtain ⟨p, hp, rfl⟩ := map_get hd
    have hp1 := hls p (List.mem_of_getElem? hp)
    refine ⟨_, rfl, rfl, _, _, rfl, _, _, rfl, rfl, ?_⟩
    walk_at "2"
    refine ⟨_, natD_at (List.getElem?_eq_getElem hp1), ?_⟩
    walk_at "r"
    refine And.intro (.inl rfl) ?_
    walk_at "1"
    have e : PyData.eqv (.int (Builtin.bitAnd ((p.2 : Int) / 2 ^ ((st[p.1] : Nat) : Int).toNat) 1)) (.int 0) = !p.2.testBit (st.getD p.1 0) := by
      rw [bit_test0, List.getD_eq_getElem?_getD, List.getElem?_eq_getElem hp1]; rfl
    rw [e]
    have he : holdsB (ls.take (i + 1)) st = (holdsB (ls.take i) st && p.2.testBit (st.getD p.1 0)) := by
      unfold holdsB
      rw [List.take_succ, hp, List.all_append]
      simp
    refine itB (fun h => ?_) (fun h => ?_)
    · walk_at "e"
      have : holdsB ls st = false := by
        unfold holdsB
        rw [List.all_eq_false]
        refine ⟨p, List.mem_of_getElem? hp, ?_⟩
        cases hq : p.2.testBit (st.getD p.1 0)
        · simp
        · rw [hq] at h; cases h
      rw [← this]
      exact hk
    · refine ⟨_, _, rfl, ?_⟩
      rw [he, hh]
      cases hq : p.2.testBit (st.getD p.1 0)
      · rw [hq] at h; cases h
      · rfl
  · rintro _ ⟨e1, e2, rfl, hh⟩
    walk_at "e"
    rw [len, List.take_length] at hh
    rw [← hh]
    exact hk
/-- can(act, state) -/
@[reducible] def w_can : WS := (wRet (wCall0 [.v, .v] S_holds (wCons (wOp gIx (wVar 0) (wC (.int 2))) (wCons (wVar 1) wNil))))
theorem hw_can : ∀ xs as k kx, S_can xs k kx → as.length = nM [.v, .v] → w_can (wdV [.v, .v] as k (fun _ _ => False)) (ent [.v, .v] xs as 2) := by
  rintro xs as k kx ⟨nm, pr, row, ef, ls, st, rfl, hrow, hls, hk⟩ ha
  have := as0 ha
  subst this
  walk_at "r"
  refine ⟨_, _, _, rfl, rfl, rfl, row, ls, st, rfl, hrow, hls, ?_⟩
  walk_at "e"
  exact hk
/-- after(act, state) -/
@[reducible] def w_after : WS := (wSeq (wSetN 2 (wCBN gList (wCons (wVar 1) wNil)))
    (wSeq (wFor (wSq (wOp gIx (wVar 0) (wC (.int 3)))) (gTp (gsCons (gNm 3) (gsCons (gNm 4) (gsCons (gNm 5) gsNil))) 3)
    (wIfS (wTst (wOp gEq (wVar 4) (wC (.str "set"))))
    (wItem 2 (wVar 5) (wVar 3))
    (wItem 2 (wOp gAddA (wOp gIx (wVar 2) (wVar 3)) (wVar 5)) (wVar 3))))
    (wRet (wCB gTuple (wCons (wVar 2) wNil)))))
theorem hw_after : ∀ xs as k kx, S_after xs k kx → as.length = nM [.v, .v] → w_after (wdV [.v, .v] as k (fun _ _ => False)) (ent [.v, .v] xs as 6) := by
  rintro xs as k kx ⟨nm, pr, lm, row, es, st, rfl, hrow, hes, hk⟩ ha
  have := as0 ha
  subst this
  have len : (effD es).length = es.length := List.length_map ..
  walk_at "1"
  intro p
  walk_at "r"
  refine ⟨_, src_row hrow, ForP.inv (fun i ρ => ∃ e1 e2 e3 s, ρ = [.val (.tuple [nm, pr, lm, row]), .val (.tuple (st.map .int)), .own p (.list (s.map .int)), e1, e2, e3] ∧ s = applE (es.take i) st ∧ s.length = st.length) ⟨_, _, _, _, rfl, rfl, rfl⟩ ?_ ?_⟩
  · rintro i d _ hd ⟨e1, e2, e3, s, rfl, hs, hl⟩
    obtain ⟨e, he, rfl⟩ := map_get hd
    have he1 := hes e (List.mem_of_getElem? he)
    have hs1 : applE (es.take (i + 1)) st = s.set e.1 (onE e (s.getD e.1 0)) := by
      unfold applE
      rw [List.take_succ, he, List.foldl_append]
      rw [hs]
      rfl
    have hes' : e.1 < s.length := by omega
    have hget : s.getD e.1 0 = s[e.1] := by rw [List.getD_eq_getElem?_getD, List.getElem?_eq_getElem hes']; rfl
    refine ⟨_, rfl, rfl, _, _, rfl, _, _, rfl, _, _, rfl, rfl, ?_⟩
    walk_at "r"
    refine And.intro (.inl rfl) ?_
    walk_at "1"
    obtain ⟨ek, eb, en⟩ := e
    cases eb with
    | true =>
      refine itT (by show PyData.eqv (.str "set") (.str "set") = true; decide) ?_
      refine ⟨⟨_, rfl⟩, ?_⟩
      refine ⟨_, _, _, _, _, rfl, rfl, rfl, ixN_of (by rw [List.length_map]; exact hes'), ?_⟩
      refine ⟨_, _, _, s.set ek (onE (ek, true, en) (s.getD ek 0)), by rw [List.map_set]; rfl, hs1.symm, by rw [List.length_set]; exact hl⟩
    | false =>
      refine itF (by show PyData.eqv (.str "add") (.str "set") = false; decide) ?_
      walk_at "2"
      refine ⟨_, atI_nat (by rw [List.getElem?_map, List.getElem?_eq_getElem hes']; rfl), ?_⟩
      walk_at "2"
      refine ⟨⟨_, rfl⟩, ?_⟩
      refine ⟨_, _, _, _, _, rfl, rfl, rfl, ixN_of (by rw [List.length_map]; exact hes'), ?_⟩
      refine ⟨_, _, _, s.set ek (onE (ek, false, en) (s.getD ek 0)), by rw [List.map_set, hget]; rfl, hs1.symm, by rw [List.length_set]; exact hl⟩
  · rintro _ ⟨e1, e2, e3, s, rfl, hs, hl⟩
    rw [len, List.take_length] at hs
    subst hs
    walk_at "r"
    walk_at "e"
    exact hk
/-- _law_draw(d, many) -/
@[reducible] def w__law_draw : WS := (wSeq (wIfS (wTst (wOp gGt (wOp gIx (wVar 0) (wC (.int 2))) (wC (.int 0))))
    (wSeq (wSet 2 (wOp gIx (wVar 0) (wC (.int 2))))
    (wSeq (wItem 0 (wOp gFdiv (wVar 2) (wVar 1)) (wC (.int 2)))
    (wRet (wOp gMod (wCB gInt (wCons (wVar 2) wNil)) (wVar 1)))))
    wNext)
    (wSeq (wSet 3 (wC (.int 0)))
    (wSeq (wIfS (wTst (wOp gLt (wOp gIx (wVar 0) (wC (.int 1))) (wCB gLen (wCons (wOp gIx (wVar 0) (wC (.int 0))) wNil))))
    (wSeq (wSet 4 (wOp gIx (wOp gIx (wVar 0) (wC (.int 0))) (wOp gIx (wVar 0) (wC (.int 1)))))
    (wSet 3 (wOp gAddA (wOp gMul (wC (.int 2)) (wCB gAbs (wCons (wVar 4) wNil))) (wCB gInt (wCons (wOp gLt (wVar 4) (wC (.int 0))) wNil)))))
    wNext)
    (wSeq (wAugItem 0 gIAdd (wC (.int 1)) (wC (.int 1)))
    (wSeq (wIfS (wTst (wOp gGe (wVar 3) (wOp gMul (wC (.int 2)) (wOp gPow (wC (.int 10)) (wC (.int 18))))))
    (wSeq (wSet 2 (wOp gMod (wCB gInt (wCons (wOp gFdiv (wVar 3) (wC (.int 2))) wNil)) (wOp gShl (wC (.int 1)) (wC (.int 6000)))))
    (wSeq (wItem 0 (wOp gFdiv (wVar 2) (wVar 1)) (wC (.int 2)))
    (wRet (wOp gMod (wCB gInt (wCons (wVar 2) wNil)) (wVar 1)))))
    wNext)
    (wSeq (wItem 0 (wOp gMod (wCB gInt (wCons (wOp gAddA (wOp gAddA (wOp gAddA (wOp gMul (wOp gIx (wVar 0) (wC (.int 3))) (wC (.int 48271))) (wOp gMul (wOp gMod (wCB gInt (wCons (wVar 3) wNil)) (wC (.int 2147483629))) (wC (.int 16807)))) (wOp gMul (wOp gIx (wVar 0) (wC (.int 1))) (wC (.int 69621)))) (wC (.int 11))) wNil)) (wC (.int 2147483647))) (wC (.int 3)))
    (wRet (wOp gMod (wCB gInt (wCons (wOp gFdiv (wOp gIx (wVar 0) (wC (.int 3))) (wC (.int 16))) wNil)) (wVar 1)))))))))
theorem hw__law_draw : ∀ xs as k kx, S__law_draw xs k kx → as.length = nM [.m, .v] → w__law_draw (wdV [.m, .v] as k (fun _ _ => False)) (ent [.m, .v] xs as 5) := by
  rintro xs as k kx ⟨d, m, rfl, hd, hm, hm2, hk⟩ ha
  obtain ⟨a, rfl⟩ := as1 ha
  obtain ⟨ns, i, left, seed, rfl, h1, h2, h3⟩ := hd
  have hd : ∀ x : Int, CDivW x m := fun x => ⟨hm, by
    have : m.natAbs < 2 ^ 31 := by omega
    have := log2_lt this (by decide)
    omega⟩
  have out : ∀ (x l s : Int) (j : Int), 0 ≤ j → 0 ≤ l → 0 ≤ s → k (.int (x % m)) [.list [.list (ns.map .int), .int j, .int l, .int s]] := fun x l s j hj hl hs =>
    hk _ _ (Int.emod_nonneg _ (by omega)) (Int.emod_lt_of_pos _ hm) ⟨_, _, _, _, rfl, hj, hl, hs⟩
  walk_at "r"
  refine itD (fun h => ?_) (fun h => ?_)
  · walk_at "r"
    refine And.intro (hd _) ?_
    refine ⟨⟨_, rfl⟩, ?_⟩
    refine ⟨_, _, _, _, _, rfl, rfl, rfl, rfl, ?_⟩
    walk_at "r"
    refine ⟨_, _, _, rfl, ⟨_, _, rfl, rfl, rfl, rfl⟩, out _ _ _ _ h1 (Int.ediv_nonneg h2 (by omega)) h3⟩
  refine cut3 (fun ρ => ∃ (s : Int) (e : En), 0 ≤ s ∧ ρ = [.io a (.list [.list (ns.map .int), .int i, .int left, .int seed]), .val (.int m), .no, .val (.int s), e]) ?_ fun U key => ?_
  · rintro ρ ⟨s, e, hs, rfl⟩
    refine ⟨⟨_, rfl⟩, ?_⟩
    refine ⟨_, _, _, rfl, rfl, by omega, by omega, rfl, ?_⟩
    refine ⟨_, rfl, _, rfl, by show (1 : Int) < 4; decide, ?_⟩
    walk_at "r"
    refine itD (fun h => ?_) (fun h => ?_)
    · walk_at "r"
      refine And.intro (pow_pos' _) ?_
      walk_at "r"
      refine And.intro (hd _) ?_
      refine ⟨⟨_, rfl⟩, ?_⟩
      refine ⟨_, _, _, _, _, rfl, rfl, rfl, rfl, ?_⟩
      walk_at "r"
      refine ⟨_, _, _, rfl, ⟨_, _, rfl, rfl, rfl, rfl⟩, out _ _ _ _ (by omega) (Int.ediv_nonneg (Int.emod_nonneg _ (Int.ne_of_gt (pow_pos' _))) (by omega)) h3⟩
    · walk_at "r"
      refine ⟨⟨_, rfl⟩, ?_⟩
      refine ⟨_, _, _, _, _, rfl, rfl, rfl, rfl, ?_⟩
      walk_at "r"
      refine ⟨_, _, _, rfl, ⟨_, _, rfl, rfl, rfl, rfl⟩, out _ _ _ _ (by omega) h2 (Int.emod_nonneg _ (by decide))⟩
  · walk_at "r"
    refine itD (fun h => ?_) (fun h => ?_)
    · obtain ⟨j, rfl⟩ := Int.eq_ofNat_of_zero_le h1
      have hj : j < ns.length := by rw [List.length_map] at h; omega
      walk_at "r"
      refine ⟨.int ns[j], atI_nat (by rw [List.getElem?_map, List.getElem?_eq_getElem hj]; rfl), ?_⟩
      walk_at "r"
      refine key _ ⟨_, _, ?_, rfl⟩
      split <;> split <;> simp_all <;> omega
    · exact key _ ⟨0, .no, by omega, rfl⟩
/-- _law_pick(d, row) -/
@[reducible] def w__law_pick : WS := (wRet (wOp gIx (wVar 1) (wCall0 [.m, .v] S__law_draw (wCons (wVar 0) (wCons (wCB gLen (wCons (wVar 1) wNil)) wNil)))))
theorem hw__law_pick : ∀ xs as k kx, S__law_pick xs k kx → as.length = nM [.m, .r] → w__law_pick (wdV [.m, .r] as k (fun _ _ => False)) (ent [.m, .r] xs as 2) := by
  rintro xs as k kx ⟨d, row, ys, rfl, hd, hrow, hne, hlt, hk⟩ ha
  obtain ⟨a, rfl⟩ := as1 ha
  have hlen : 0 < ys.length := List.length_pos_iff.mpr hne
  have fin : ∀ (r : Int) (d' : PyData), 0 ≤ r → r < (ys.length : Nat) → DOk d' → ∃ y, atI ys r = some y ∧ k y [d'] := fun r d' h1 h2 hd' => by
    obtain ⟨j, rfl⟩ := Int.eq_ofNat_of_zero_le h1
    have hj : j < ys.length := by omega
    exact ⟨ys[j], atI_nat (List.getElem?_eq_getElem hj), hk _ (List.getElem_mem hj) _ hd'⟩
  rcases hrow with rfl | rfl
  · walk_at "1"
    refine ⟨_, _, _, rfl, rfl, rfl, _, _, rfl, hd, by omega, by omega, fun r d' h1 h2 hd' => ?_⟩
    obtain ⟨y, hy, hky⟩ := fin r d' h1 h2 hd'
    walk_at "2"
    refine ⟨y, hy, ?_⟩
    exact ⟨_, _, _, rfl, ⟨_, _, rfl, rfl, rfl, rfl⟩, hky⟩
  · walk_at "1"
    refine ⟨_, _, _, rfl, rfl, rfl, _, _, rfl, hd, by omega, by omega, fun r d' h1 h2 hd' => ?_⟩
    obtain ⟨y, hy, hky⟩ := fin r d' h1 h2 hd'
    walk_at "2"
    refine ⟨y, hy, ?_⟩
    exact ⟨_, _, _, rfl, ⟨_, _, rfl, rfl, rfl, rfl⟩, hky⟩
/-- _law_rare(d, many) -/
@[reducible] def w__law_rare : WS := (wRet (wOp gEq (wCall0 [.m, .v] S__law_draw (wCons (wVar 0) (wCons (wVar 1) wNil))) (wOp gFdiv (wVar 1) (wC (.int 2)))))
theorem hw__law_rare : ∀ xs as k kx, S__law_rare xs k kx → as.length = nM [.m, .v] → w__law_rare (wdV [.m, .v] as k (fun _ _ => False)) (ent [.m, .v] xs as 2) := by
  rintro xs as k kx ⟨d, m, rfl, hd, hm, hm2, hk⟩ ha
  obtain ⟨a, rfl⟩ := as1 ha
  walk_at "k"
  refine ⟨_, _, rfl, hd, hm, hm2, fun r d' h1 h2 hd' => ?_⟩
  walk_at "r"
  refine And.intro (.inl rfl) ?_
  walk_at "e"
  exact hk _ _ hd'
/-- _law_is_int(thing) -/
@[reducible] def w__law_is_int : WS := (wRet (wAndV (wIsi isIntD (wVar 0)) (wNotV (wIsi isBoolD (wVar 0)))))
theorem hw__law_is_int : ∀ xs as k kx, S__law_is_int xs k kx → as.length = nM [.v] → w__law_is_int (wdV [.v] as k (fun _ _ => False)) (ent [.v] xs as 1) := by
  rintro xs as k kx ⟨d, rfl, hk⟩ ha
  have := as0 ha
  subst this
  cases d <;> (walk_at "r"; walk_at "e"; exact hk)
/-- _law_same(one, other) -/
@[reducible] def w__law_same (n : Nat) : WS := (wSeq (wIfS (wTst (wIsi isTupD (wVar 0)))
    (wSeq (wIfS (wOr (wNot (wTst (wIsi isTupD (wVar 1)))) (wTst (wOp gNe (wCB gLen (wCons (wVar 0) wNil)) (wCB gLen (wCons (wVar 1) wNil)))))
    (wRet (wC (.bool false)))
    wNext)
    (wRet (wOp gEq (wCB gLen (wCons (wOf (wLc [2] (wRg1 (wCons (wCB gLen (wCons (wVar 0) wNil)) wNil)) (gNm 2) (wNot (wTst (wCall0 [.v, .v] (S__law_same n) (wCons (wOp gIx (wVar 0) (wVar 2)) (wCons (wOp gIx (wVar 1) (wVar 2)) wNil))))) (wVar 2))) wNil)) (wC (.int 0)))))
    wNext)
    (wSeq (wIfS (wOr (wTst (wIsi isBoolD (wVar 0))) (wOr (wTst (wOp gIsA (wVar 0) (wC .none))) (wTst (wIsi isStrD (wVar 0)))))
    (wRet (wAndV (wOp gEq (wIsi isBoolD (wVar 0)) (wIsi isBoolD (wVar 1))) (wOp gEq (wVar 0) (wVar 1))))
    wNext)
    (wRet (wAndV (wCall0 [.v] S__law_is_int (wCons (wVar 0) wNil)) (wAndV (wCall0 [.v] S__law_is_int (wCons (wVar 1) wNil)) (wOp gEq (wVar 0) (wVar 1)))))))
theorem hw__law_same (n : Nat) : ∀ xs as k kx, S__law_same (n + 1) xs k kx → as.length = nM [.v, .v] → w__law_same n (wdV [.v, .v] as k (fun _ _ => False)) (ent [.v, .v] xs as 3) := by
  rintro xs as k kx ⟨d, rfl, hp, hk⟩ ha
  have := as0 ha
  subst this
  have eqI : ∀ i : Int, PyData.eqv (.int i) (.int i) = true := fun i => by simp [PyData.eqv]
  cases d with
  | tuple ds =>
    obtain ⟨hl, hx⟩ := hp
    have hl' : ds.length < 2 ^ 62 := by
      have : sizeLine = 2 ^ 24 := rfl
      omega
    walk_at "r"
    refine And.intro (.inl rfl) ?_
    walk_at "1"
    refine itF (by rw [eqI]; rfl) ?_
    walk_at "1"
    refine ⟨_, rfl, ⟨by omega, by omega⟩, ?_⟩
    refine LcP.inv (fun i acc ρ => acc = [] ∧ ρ = [.val (.tuple ds), .val (.tuple ds), .no]) ⟨rfl, rfl⟩ ?_ ?_
    · rintro i d acc ρ2 hi ⟨rfl, rfl⟩
      have hi2 : i < ds.length := by
        have := (List.getElem?_eq_some_iff.mp hi).1
        simpa [Src.items, rgD_len] using this
      have hd : some (PyData.int (0 + (i : Nat))) = some d := by rw [← hi]; exact (rgD_get (by simpa using hi2)).symm
      cases hd
      rw [Int.zero_add]
      walk_at "2"
      refine ⟨ds[i], atI_nat (List.getElem?_eq_getElem hi2), ?_⟩
      walk_at "2"
      refine ⟨ds[i], atI_nat (List.getElem?_eq_getElem hi2), ?_⟩
      refine ⟨_, _, _, rfl, rfl, rfl, _, rfl, hx _ (List.getElem_mem hi2), ?_⟩
      exact ⟨_, rfl, itF rfl ⟨rfl, rfl⟩⟩
    · rintro acc ρ2 ⟨rfl, rfl⟩
      walk_at "r"
      refine And.intro (.inl rfl) ?_
      walk_at "e"
      exact hk
  | int i =>
    walk_at "r"
    refine ⟨_, _, _, rfl, rfl, rfl, _, rfl, ?_⟩
    walk_at "r"
    refine ⟨_, _, _, rfl, rfl, rfl, _, rfl, ?_⟩
    walk_at "r"
    refine And.intro (.inl rfl) ?_
    walk_at "e"
    rw [eqI]
    exact hk
  | none =>
    walk_at "r"
    refine And.intro (.inl rfl) ?_
    walk_at "r"
    refine And.intro (.inl rfl) ?_
    walk_at "e"
    exact hk
  | bool b =>
    walk_at "r"
    refine And.intro (.inl rfl) ?_
    walk_at "r"
    refine And.intro (.inl rfl) ?_
    walk_at "e"
    have e : PyData.eqv (.bool b) (.bool b) = true := by simp [PyData.eqv]
    rw [e]
    exact hk
  | str b =>
    walk_at "r"
    refine And.intro (.inl rfl) ?_
    walk_at "r"
    refine And.intro (.inl rfl) ?_
    walk_at "e"
    have e : PyData.eqv (.str b) (.str b) = true := by simp [PyData.eqv]
    rw [e]
    exact hk
  | list b => cases n <;> exact hp.elim
  | dict b => cases n <;> exact hp.elim
/-- _law_mask(values) -/
@[reducible] def w__law_mask : WS := (wRet (wCB gSum (wCons (wOf (wLc [1] (wSq (wVar 0)) (gNm 1) wYes (wOp gShl (wC (.int 1)) (wVar 1)))) wNil)))
theorem hw__law_mask : ∀ xs as k kx, S__law_mask xs k kx → as.length = nM [.v] → w__law_mask (wdV [.v] as k (fun _ _ => False)) (ent [.v] xs as 2) := by
  rintro xs as k kx ⟨row, vs, rfl, hrow, hl, hv, hk⟩ ha
  have := as0 ha
  subst this
  refine ⟨_, src_row hrow, ?_⟩
  refine LcP.fixed (fun d => match d with
    | .int i => [.int (1 * 2 ^ i.toNat)]
    | _ => []) ?_ ?_ ?_ ?_
  · intro d; cases d <;> simp
  · rw [show (natD vs).length = vs.length from List.length_map ..]; exact hl
  · intro i d acc Pn hd hacc hP
    unfold natD at hd
    rw [List.getElem?_map] at hd
    obtain ⟨v, h1, rfl⟩ := Option.map_eq_some_iff.mp hd
    have hv1 := hv _ (List.mem_of_getElem? h1)
    walk_at "2"
    refine And.intro (shl_one (by omega) (by omega)) ?_
    exact ⟨_, _, rfl, hacc, hP⟩
  · walk_at "1"
    refine ⟨vs.map fun v => ((2 ^ v : Nat) : Int), ?_, ?_⟩
    · unfold natD
      rw [List.flatMap_map, flat_map1, List.map_map]
      congr 2
      refine List.map_congr_left fun v _ => ?_
      show PyData.int (1 * 2 ^ ((v : Nat) : Int).toNat) = PyData.int ((2 ^ v : Nat) : Int)
      rw [Int.toNat_natCast, Int.one_mul, cast_pow2]
    · walk_at "e"
      have e : (vs.map fun v => ((2 ^ v : Nat) : Int)).sum = ((maskM vs : Nat) : Int) := by
        unfold maskM
        clear hrow hl hv hk ha
        induction vs with
        | nil => rfl
        | cons v vs ih => rw [List.map_cons, List.sum_cons, ih, List.map_cons, List.sum_cons]; omega
      rw [e]
      exact hk
/-- _law_tops(d) -/
@[reducible] def w__law_tops : WS := (wSeq (wSet 1 (wOp gAddA (wOp gAddA (wC (.int 1)) (wCall0 [.m, .v] S__law_draw (wCons (wVar 0) (wCons (wC (.int 4)) wNil)))) (wOp gMul (wC (.int 5)) (wCB gInt (wCons (wCall0 [.m, .v] S__law_rare (wCons (wVar 0) (wCons (wC (.int 5)) wNil))) wNil)))))
    (wSeq (wSetV 2 (wLst (wCons (wC (.int 1)) (wCons (wC (.int 2)) (wCons (wC (.int 1)) (wCons (wC (.int 3)) (wCons (wC (.int 9)) wNil)))))))
    (wSeq (wIfS (wTst (wCall0 [.m, .v] S__law_rare (wCons (wVar 0) (wCons (wC (.int 9)) wNil))))
    (wSeq (wSet 1 (wOp gAddA (wC (.int 10)) (wCall0 [.m, .v] S__law_draw (wCons (wVar 0) (wCons (wC (.int 21)) wNil)))))
    (wSetV 2 (wLst (wCons (wC (.int 1)) (wCons (wC (.int 2)) (wCons (wC (.int 1)) (wCons (wC (.int 3)) wNil)))))))
    wNext)
    (wRet (wCB gTuple (wCons (wOf (wLc [3] (wRg1 (wCons (wVar 1) wNil)) (gNm 3) wYes (wCall0 [.m, .r] S__law_pick (wCons (wVar 0) (wCons (wVar 2) wNil))))) wNil))))))
theorem hw__law_tops : ∀ xs as k kx, S__law_tops xs k kx → as.length = nM [.m] → w__law_tops (wdV [.m] as k (fun _ _ => False)) (ent [.m] xs as 4) := by
  rintro xs as k kx ⟨d, rfl, hd, hk⟩ ha
  obtain ⟨a, rfl⟩ := as1 ha
  have sz : sizeLine = 2 ^ 24 := rfl
  refine cut3 (fun ρ => ∃ (d' : PyData) (many : Nat) (menu : List Nat), ρ = [.io a d', .val (.int ((many : Nat) : Int)), .val (.list (natD menu)), .no] ∧ DOk d' ∧ 1 ≤ many ∧ many ≤ 30 ∧ menu ≠ [] ∧ menu.length ≤ 10 ∧ ∀ t ∈ menu, 1 ≤ t ∧ t ≤ 9) ?_ fun U key => ?_
  · rintro _ ⟨d', many, menu, rfl, hd', h1, h2, h3, h4, h5⟩
    walk_at "r"
    refine LcP.inv (fun i acc ρ => ∃ (d' : PyData) (ts : List Nat), ρ = [.io a d', .val (.int ((many : Nat) : Int)), .val (.list (natD menu)), .no] ∧ DOk d' ∧ acc = natD ts ∧ ts.length = i ∧ ∀ t ∈ ts, 1 ≤ t ∧ t ≤ 9) ⟨d', [], rfl, hd', rfl, rfl, by simp⟩ ?_ ?_
    · rintro i d acc ρ2 hi ⟨d2, ts, rfl, hd2, rfl, hl, ht⟩
      obtain ⟨hi, rfl⟩ := rgD_mem hi
      walk_at "k"
      refine ⟨_, _, natD menu, rfl, hd2, .inl rfl, ?_, by rw [natD_len]; omega, fun y hy d3 hd3 => ?_⟩
      · intro z
        exact h3 (List.map_eq_nil_iff.mp z)
      · obtain ⟨t, ht', rfl⟩ := List.mem_map.mp hy
        refine ⟨_, _, rfl, by rw [natD_len]; omega, ⟨d3, ts ++ [t], rfl, hd3, by unfold natD; rw [List.map_append]; rfl, by simp [hl], fun x hx => ?_⟩⟩
        rcases List.mem_append.mp hx with q | q
        · exact ht x q
        · simp only [List.mem_singleton] at q; subst q; exact h5 _ ht'
    · rintro acc ρ2 ⟨d2, ts, rfl, hd2, rfl, hl, ht⟩
      rw [rgD_len, Int.toNat_natCast] at hl
      walk_at "r"
      walk_at "e"
      exact hk ts d2 ⟨by omega, by omega, ht⟩ hd2
  · walk_at "k"
    refine ⟨_, _, rfl, hd, by omega, by omega, fun r1 d1 h1 h2 hd1 => ?_⟩
    walk_at "r"
    walk_at "k"
    refine ⟨_, _, rfl, hd1, by omega, by omega, fun b d2 hd2 => ?_⟩
    walk_at "r"
    walk_at "k"
    refine ⟨_, _, rfl, hd2, by omega, by omega, fun b2 d3 hd3 => ?_⟩
    walk_at "1"
    refine itB (fun h => ?_) (fun h => ?_)
    · walk_at "k"
      refine ⟨_, _, rfl, hd3, by omega, by omega, fun r2 d4 h3 h4 hd4 => ?_⟩
      walk_at "r"
      refine key _ ⟨d4, (10 + r2).toNat, [1, 2, 1, 3], ?_, hd4, by omega, by omega, by simp, by simp, by simp⟩
      rw [Int.toNat_of_nonneg (by omega)]
      rfl
    · have hb : (0 : Int) ≤ 5 * (if b = true then 1 else 0) ∧ (5 : Int) * (if b = true then 1 else 0) ≤ 5 := by split <;> omega
      refine key _ ⟨d3, (1 + r1 + 5 * (if b = true then 1 else 0)).toNat, [1, 2, 1, 3, 9], ?_, hd3, by omega, by omega, by simp, by simp, by simp⟩
      rw [Int.toNat_of_nonneg (by omega)]
      rfl
/-- _law_values(d, allowed, top, sure) -/
@[reducible] def w__law_values : WS := (wSeq (wSetN 4 (wLst wNil))
    (wSeq (wFor (wSq (wVar 1)) (gNm 5)
    (wIfS (wOr (wTst (wOp gEq (wVar 5) (wVar 3))) (wTst (wOp gEq (wCall0 [.m, .v] S__law_draw (wCons (wVar 0) (wCons (wC (.int 2)) wNil))) (wC (.int 1)))))
    (wExpr (wMut 4 gAppend (wCons (wVar 5) wNil)))
    wNext))
    (wSeq (wIfS (wTst (wOp gGt (wCB gLen (wCons (wVar 4) wNil)) (wVar 2)))
    (wExpr (wMut 4 gRemove (wCons (wOp gMod (wCB gInt (wCons (wOp gAddA (wOp gAddA (wVar 3) (wC (.int 1))) (wCall0 [.m, .v] S__law_draw (wCons (wVar 0) (wCons (wVar 2) wNil)))) wNil)) (wOp gAddA (wVar 2) (wC (.int 1)))) wNil)))
    wNext)
    (wRet (wVar 4)))))
theorem hw__law_values : ∀ xs as k kx, S__law_values xs k kx → as.length = nM [.m, .v, .v, .v] → w__law_values (wdV [.m, .v, .v, .v] as k (fun _ _ => False)) (ent [.m, .v, .v, .v] xs as 6) := by
  rintro xs as k kx ⟨d, al, top, sure, rfl, hd, hasc, hal, ht1, ht2, hs, hk⟩ ha
  obtain ⟨a, rfl⟩ := as1 ha
  have sz : sizeLine = 2 ^ 24 := rfl
  refine ⟨_, _, rfl, by decide, fun p => ?_⟩
  have lal := asc_len hasc hal
  refine ⟨_, rfl, ForP.inv (fun i ρ => ∃ (d' : PyData) (vs : List Nat) (e : En), ρ = [.io a d', .val (.list (natD al)), .val (.int ((top : Nat) : Int)), .val (.int ((sure : Nat) : Int)), .own p (.list (natD vs)), e] ∧ DOk d' ∧ vs.Sublist (al.take i) ∧ (sure ∈ al.take i → sure ∈ vs)) ⟨d, [], _, rfl, hd, .slnil, by simp⟩ ?_ ?_⟩
  · rintro i x ρ2 hi ⟨d2, vs, e, rfl, hd2, hsub, hin⟩
    obtain ⟨v, hv, rfl⟩ := natD_get hi
    have tk : al.take (i + 1) = al.take i ++ [v] := by rw [List.take_succ, hv]; rfl
    have add : ∀ d' (σ : En), DOk d' → ∃ (d'' : PyData) (vs' : List Nat) (e : En), ([.io a d', .val (.list (natD al)), .val (.int ((top : Nat) : Int)), .val (.int ((sure : Nat) : Int)), .own p (.list (natD vs ++ [.int ((v : Nat) : Int)])), σ] : List En) = [.io a d'', .val (.list (natD al)), .val (.int ((top : Nat) : Int)), .val (.int ((sure : Nat) : Int)), .own p (.list (natD vs')), e] ∧ DOk d'' ∧ vs'.Sublist (al.take (i + 1)) ∧ (sure ∈ al.take (i + 1) → sure ∈ vs') := fun d' σ hd' => by
      refine ⟨d', vs ++ [v], σ, by unfold natD; rw [List.map_append]; rfl, hd', by rw [tk]; exact hsub.append (.refl _), fun h => ?_⟩
      rw [tk] at h
      rcases List.mem_append.mp h with q | q
      · exact List.mem_append_left _ (hin q)
      · exact List.mem_append_right _ q
    have lvs : (natD vs).length < sizeLine := by
      have := hsub.length_le
      rw [List.length_take] at this
      rw [natD_len]
      omega
    walk_at "r"
    refine And.intro (.inl rfl) ?_
    walk_at "1"
    rw [eqv_nat]
    refine itD (fun h => ?_) (fun h => ?_)
    · refine ⟨⟨_, rfl⟩, ?_⟩
      exact ⟨_, _, _, rfl, rfl, lvs, add _ _ hd2⟩
    · walk_at "k"
      refine ⟨_, _, rfl, hd2, by omega, by omega, fun r d3 h1 h2 hd3 => ?_⟩
      walk_at "r"
      refine And.intro (.inl rfl) ?_
      walk_at "1"
      refine itB (fun h2 => ?_) (fun h2 => ?_)
      · refine ⟨⟨_, rfl⟩, ?_⟩
        exact ⟨_, _, _, rfl, rfl, lvs, add _ _ hd3⟩
      · refine ⟨d3, vs, _, rfl, hd3, by rw [tk]; exact hsub.trans (List.sublist_append_left _ _), fun hh => ?_⟩
        rw [tk] at hh
        rcases List.mem_append.mp hh with q | q
        · exact hin q
        · simp only [List.mem_singleton] at q; exact absurd q.symm h
  · rintro ρ2 ⟨d2, vs, e, rfl, hd2, hsub, hin⟩
    rw [natD_len, List.take_length] at hsub hin
    have hv1 : Asc vs := hasc.sublist hsub
    have hv2 : ∀ v ∈ vs, v ∈ al := fun v hv => hsub.subset hv
    walk_at "r"
    refine itD (fun h => ?_) (fun h => ?_)
    · rw [natD_len] at h
      refine ⟨⟨_, rfl⟩, ?_⟩
      walk_at "r"
      walk_at "k"
      refine ⟨_, _, rfl, hd2, by omega, by omega, fun r d3 h1 h2 hd3 => ?_⟩
      obtain ⟨r, rfl⟩ := Int.eq_ofNat_of_zero_le h1
      walk_at "r"
      have hall : ∀ x, x ≤ top → x ∈ vs := asc_full hv1 (fun v hv => hal v (hv2 v hv)) (by omega)
      have hx : (((sure : Nat) : Int) + 1 + (r : Int)) % (((top : Nat) : Int) + 1) = (((sure + 1 + r) % (top + 1) : Nat) : Int) := by
        rw [Int.natCast_emod]
        congr 1
      have hne : (sure + 1 + r) % (top + 1) ≠ sure := by
        intro z
        by_cases hc : sure + 1 + r < top + 1
        · rw [Nat.mod_eq_of_lt hc] at z; omega
        · rw [Nat.mod_eq_sub_mod (by omega), Nat.mod_eq_of_lt (by omega)] at z; omega
      have hmem := hall ((sure + 1 + r) % (top + 1)) (by have := Nat.mod_lt (sure + 1 + r) (show 0 < top + 1 by omega); omega)
      obtain ⟨j, hj, hj2, hj3⟩ := first_of hmem
      refine ⟨_, _, _, rfl, rfl, vs.map fun v => ((v : Nat) : Int), _, j, ?_, rfl, ?_, ?_, ?_⟩
      · unfold natD; rw [List.map_map]; rfl
      · rw [List.getElem?_map, hj2]
        exact congrArg some hx.symm
      · intro m hm z
        rw [List.getElem?_map] at z
        obtain ⟨y, hy1, hy2⟩ := Option.map_eq_some_iff.mp z
        refine hj3 m hm ?_
        rw [hy1]
        have hy2 : ((y : Nat) : Int) = _ := hy2.trans hx
        exact congrArg some (by omega)
      · walk_at "e"
        have e : ((vs.map fun v => ((v : Nat) : Int)).eraseIdx j).map PyData.int = natD (vs.eraseIdx j) := by
          rw [map_erase, List.map_map]; rfl
        rw [e]
        refine hk _ _ (hv1.sublist (List.eraseIdx_sublist _ _)) (fun v hv => hv2 v ((List.eraseIdx_sublist _ _).subset hv)) (fun h => ?_) hd3
        have hin := hin h
        obtain ⟨j', hj1', hj2'⟩ := List.getElem_of_mem hin
        have : j' ≠ j := fun q => by
          subst q
          rw [List.getElem?_eq_getElem hj1', hj2'] at hj2
          exact hne (Option.some.inj hj2).symm
        exact mem_erase_ne hj1' hj2' this
    · walk_at "e"
      exact hk _ _ hv1 hv2 hin hd2
/-- _law_lists(d, tops, state) -/
@[reducible] def w__law_lists : WS := (wSeq (wSetN 3 (wLst wNil))
    (wSeq (wFor (wRg1 (wCons (wCB gLen (wCons (wVar 1) wNil)) wNil)) (gNm 4)
    (wIfS (wTst (wOp gEq (wCall0 [.m, .v] S__law_draw (wCons (wVar 0) (wCons (wC (.int 2)) wNil))) (wC (.int 0))))
    (wExpr (wMut 3 gAppend (wCons (wTup (wCons (wVar 4) (wCons (wCall0 [.m, .v, .v, .v] S__law_values (wCons (wVar 0) (wCons (wOf (wLstRg (wRgE1 (wOp gAddA (wOp gIx (wVar 1) (wVar 4)) (wC (.int 1)))))) (wCons (wOp gIx (wVar 1) (wVar 4)) (wCons (wOp gIx (wVar 2) (wVar 4)) wNil))))) wNil))) wNil)))
    wNext))
    (wRet (wVar 3))))
theorem hw__law_lists : ∀ xs as k kx, S__law_lists xs k kx → as.length = nM [.m, .v, .v] → w__law_lists (wdV [.m, .v, .v] as k (fun _ _ => False)) (ent [.m, .v, .v] xs as 5) := by
  rintro xs as k kx ⟨d, tops, st, rfl, hd, ht, hs, hk⟩ ha
  obtain ⟨a, rfl⟩ := as1 ha
  have sz : sizeLine = 2 ^ 24 := rfl
  refine ⟨_, _, rfl, by decide, fun p => ?_⟩
  obtain ⟨t1, t2, t3⟩ := ht
  walk_at "1"
  refine ⟨_, rfl, ⟨by rw [natD_len]; omega, by rw [natD_len]; omega⟩, ?_⟩
  rw [natD_len, Int.toNat_natCast]
  refine ForP.inv (fun i ρ => ∃ (d' : PyData) (ls : List (Nat × List Nat)) (e : En), ρ = [.io a d', .val (.tuple (natD tops)), .val (.tuple (natD st)), .own p (.list (rowsD ls)), e] ∧ DOk d' ∧ LsOk tops.length i ls) ⟨d, [], _, rfl, hd, Nat.le_refl _, by simp⟩ ?_ ?_
  · rintro i x ρ2 hi ⟨d2, ls, e, rfl, hd2, hls⟩
    obtain ⟨hi2, rfl⟩ := rgD_mem hi
    rw [Int.zero_add]
    have ht := List.getElem?_eq_getElem hi2
    have ht' := t3 _ (List.getElem_mem hi2)
    obtain ⟨s, hs1, hs2⟩ := st_get hs ht
    walk_at "k"
    refine ⟨_, _, rfl, hd2, by omega, by omega, fun r d3 h1 h2 hd3 => ?_⟩
    walk_at "r"
    refine And.intro (.inl rfl) ?_
    walk_at "1"
    refine itB (fun h => ?_) (fun h => ?_)
    · refine ⟨⟨_, rfl⟩, ?_⟩
      walk_at "2"
      refine ⟨_, natD_at ht, ?_⟩
      walk_at "r"
      refine And.intro ⟨by omega, by omega, by omega, by omega, by omega⟩ ?_
      walk_at "2"
      refine ⟨_, natD_at ht, ?_⟩
      walk_at "2"
      refine ⟨_, natD_at hs1, ?_⟩
      walk_at "k"
      rw [show ((tops[i] : Nat) : Int) + 1 - 0 = ((tops[i] + 1 : Nat) : Int) by omega, Int.toNat_natCast, rg_natD]
      refine ⟨_, List.range (tops[i] + 1), tops[i], s, rfl, hd3, asc_range _, fun v hv => by have := List.mem_range.mp hv; omega, ht'.1, ht'.2, hs2, fun vs d4 hv1 hv2 _ hd4 => ?_⟩
      walk_at "r"
      refine ⟨_, _, _, rfl, rfl, by rw [rowsD_len]; have := hls.1; omega, ?_⟩
      refine ⟨d4, ls ++ [(i, vs)], _, by rw [rowsD_app]; rfl, hd4, by have := hls.1; simp; omega, fun q hq => ?_⟩
      rcases List.mem_append.mp hq with z | z
      · exact hls.2 q z
      · simp only [List.mem_singleton] at z; subst z
        exact ⟨hi2, hv1, fun v hv => by have := List.mem_range.mp (hv2 v hv); omega⟩
    · exact ⟨d3, ls, _, rfl, hd3, ls_mono hls (by omega)⟩
  · rintro ρ2 ⟨d2, ls, e, rfl, hd2, hls⟩
    rw [rgD_len] at hls
    walk_at "e"
    exact hk ls d2 (ls_mono hls t2) hd2
/-- _law_without(d, lists, tops, state, k) -/
@[reducible] def w__law_without : WS := (wSeq (wSetV 5 (wLc [8] (wRg1 (wCons (wOp gAddA (wOp gIx (wVar 2) (wVar 4)) (wC (.int 1))) wNil)) (gNm 8) (wTst (wOp gNe (wVar 8) (wOp gIx (wVar 3) (wVar 4)))) (wVar 8)))
    (wSeq (wSet 6 (wTup (wCons (wVar 4) (wCons (wCall0 [.m, .v, .v, .v] S__law_values (wCons (wVar 0) (wCons (wVar 5) (wCons (wOp gIx (wVar 2) (wVar 4)) (wCons (wCall0 [.m, .r] S__law_pick (wCons (wVar 0) (wCons (wVar 5) wNil))) wNil))))) wNil))))
    (wSeq (wSetV 7 (wLc [9] (wSq (wVar 1)) (gNm 9) (wTst (wOp gLt (wOp gIx (wVar 9) (wC (.int 0))) (wVar 4))) (wVar 9)))
    (wRet (wOf (wOpN gCat (wOf (wOpN gCat (wVar 7) (wOf (wLst (wCons (wVar 6) wNil))))) (wOf (wLc [9] (wSq (wVar 1)) (gNm 9) (wTst (wOp gGt (wOp gIx (wVar 9) (wC (.int 0))) (wVar 4))) (wVar 9)))))))))
theorem hw__law_without : ∀ xs as k kx, S__law_without xs k kx → as.length = nM [.m, .v, .v, .v, .v] → w__law_without (wdV [.m, .v, .v, .v, .v] as k (fun _ _ => False)) (ent [.m, .v, .v, .v, .v] xs as 10) := by
  rintro xs as k kx ⟨d, ls, tops, st, kk, m, rfl, hd, ht, hs, hls, hm, hkk, hk⟩ ha
  obtain ⟨a, rfl⟩ := as1 ha
  have sz : sizeLine = 2 ^ 24 := rfl
  obtain ⟨t1, t2, t3⟩ := ht
  have ht := List.getElem?_eq_getElem hkk
  have ht' := t3 _ (List.getElem_mem hkk)
  obtain ⟨s, hs1, hs2⟩ := st_get hs ht
  generalize tops[kk] = t at *
  have hml := hls.1
  walk_at "r"
  refine ⟨_, natD_at ht, ?_⟩
  walk_at "r"
  rw [show (((t : Nat) : Int) + 1).toNat = t + 1 by omega, rg_natD]
  walk_at "n"
  refine LcP.fixed (fun y => match y with
    | .int j => if decide (j.toNat ≠ s) = true then [y] else []
    | _ => []) (fun y => by split <;> (try split) <;> simp) (by rw [natD_len, List.length_range]; omega) ?_ ?_
  · intro j y acc Pn hy hacc hP
    obtain ⟨v, hv, rfl⟩ := natD_get hy
    walk_at "2"
    refine ⟨_, natD_at hs1, ?_⟩
    walk_at "2"
    refine And.intro (.inl rfl) ?_
    walk_at "1"
    rw [eqv_nat]
    dsimp only [Int.toNat_natCast] at hP
    by_cases h : v = s
    · refine itF (by simp [h]) ?_
      rw [if_neg (by simp [h]), List.append_nil] at hP
      exact hP
    · refine itT (by simp [h]) ?_
      rw [if_pos (by simp [h])] at hP
      exact ⟨_, _, rfl, hacc, hP⟩
  rw [natD_filter (List.range (t + 1)) _ (fun v => decide (v ≠ s)) fun v => rfl]
  have va : Asc ((List.range (t + 1)).filter fun v => decide (v ≠ s)) := asc_filter (asc_range _) _
  have vl : ∀ v ∈ (List.range (t + 1)).filter fun v => decide (v ≠ s), v ≤ t := fun v hv => by have := List.mem_range.mp (List.mem_filter.mp hv).1; omega
  have vne : ((List.range (t + 1)).filter fun v => decide (v ≠ s)) ≠ [] := by
    intro z
    have h0 : (if s = 0 then 1 else 0) ∈ (List.range (t + 1)).filter fun v => decide (v ≠ s) := List.mem_filter.mpr ⟨List.mem_range.mpr (by split <;> omega), decide_eq_true (by split <;> omega)⟩
    rw [z] at h0
    cases h0
  generalize (List.range (t + 1)).filter (fun v => decide (v ≠ s)) = al at *
  have lal := asc_len va vl
  walk_at "2"
  refine ⟨_, natD_at ht, ?_⟩
  walk_at "k"
  refine ⟨_, _, natD al, rfl, hd, .inl rfl, fun z => vne (List.map_eq_nil_iff.mp z), by rw [natD_len]; omega, fun y hy d1 hd1 => ?_⟩
  obtain ⟨pk, hpk, rfl⟩ := List.mem_map.mp hy
  walk_at "k"
  refine ⟨_, al, t, pk, rfl, hd1, va, vl, ht'.1, ht'.2, vl pk hpk, fun vs d2 h1 h2 _ hd2 => ?_⟩
  walk_at "r"
  walk_at "n"
  refine LcP.fixed (fun y => match y with
    | .tuple [.int j, b] => if decide (j.toNat < kk) = true then [y] else []
    | _ => []) (fun y => by split <;> (try split) <;> simp) (by rw [rowsD_len]; omega) ?_ ?_
  · intro j y acc Pn hy hacc hP
    obtain ⟨q, hq, rfl⟩ := map_get hy
    walk_at "r"
    dsimp only [Int.toNat_natCast] at hP
    refine itD (fun h => ?_) (fun h => ?_)
    · rw [if_pos (decide_eq_true (by omega))] at hP
      exact ⟨_, _, rfl, hacc, hP⟩
    · rw [if_neg (by rw [decide_eq_true_eq]; omega), List.append_nil] at hP
      exact hP
  rw [filter_rows ls _ (fun v => decide (v < kk)) fun v => rfl]
  have f1 := ls_filter hls fun v => decide (v < kk)
  walk_at "3"
  refine And.intro (Nat.le_of_ble_eq_true rfl) ?_
  walk_at "2"
  refine And.intro (by rw [rowsD_len]; have := f1.1; show _ + 1 ≤ _; omega) ?_
  refine ⟨_, rfl, ?_⟩
  walk_at "n"
  refine LcP.fixed (fun y => match y with
    | .tuple [.int j, b] => if decide (kk < j.toNat) = true then [y] else []
    | _ => []) (fun y => by split <;> (try split) <;> simp) (by rw [rowsD_len]; omega) ?_ ?_
  · intro j y acc Pn hy hacc hP
    obtain ⟨q, hq, rfl⟩ := map_get hy
    walk_at "r"
    dsimp only [Int.toNat_natCast] at hP
    refine itD (fun h => ?_) (fun h => ?_)
    · rw [if_pos (decide_eq_true (by omega))] at hP
      exact ⟨_, _, rfl, hacc, hP⟩
    · rw [if_neg (by rw [decide_eq_true_eq]; omega), List.append_nil] at hP
      exact hP
  rw [filter_rows ls _ (fun v => decide (kk < v)) fun v => rfl]
  have f2 := ls_filter hls fun v => decide (kk < v)
  have f3 : LsOk tops.length (m + 1) (ls.filter (fun q => decide (q.1 < kk)) ++ [(kk, vs)]) := ls_app f1 hkk h1 fun v hv => by have := vl v (h2 v hv); omega
  walk_at "2"
  refine And.intro (by rw [List.length_append, rowsD_len, rowsD_len]; have := f1.1; have := f2.1; show _ + 1 + _ ≤ _; omega) ?_
  walk_at "e"
  have e : rowsD (ls.filter fun q => decide (q.1 < kk)) ++ [.tuple [.int ((kk : Nat) : Int), .list (natD vs)]] ++ rowsD (ls.filter fun q => decide (kk < q.1)) = rowsD ((ls.filter (fun q => decide (q.1 < kk)) ++ [(kk, vs)]) ++ ls.filter fun q => decide (kk < q.1)) := by
    rw [rowsD_app, rowsD_app]; rfl
  rw [e]
  refine hk _ _ ⟨?_, fun q hq => ?_⟩ hd2
  · rw [List.length_append]; have := f3.1; have := f2.1; omega
  · rcases List.mem_append.mp hq with z | z
    · exact f3.2 q z
    · exact f2.2 q z
/-- _law_masks(lists) -/
@[reducible] def w__law_masks : WS := (wRet (wCB gTuple (wCons (wOf (wLc [1] (wSq (wVar 0)) (gNm 1) wYes (wTup (wCons (wOp gIx (wVar 1) (wC (.int 0))) (wCons (wCall0 [.v] S__law_mask (wCons (wOp gIx (wVar 1) (wC (.int 1))) wNil)) wNil))))) wNil)))
theorem hw__law_masks : ∀ xs as k kx, S__law_masks xs k kx → as.length = nM [.v] → w__law_masks (wdV [.v] as k (fun _ _ => False)) (ent [.v] xs as 2) := by
  rintro xs as k kx ⟨n, ls, rfl, hls, hk⟩ ha
  have := as0 ha
  subst this
  have sz : sizeLine = 2 ^ 24 := rfl
  refine ⟨_, rfl, ?_⟩
  refine LcP.inv (fun i acc ρ => ρ = [.val (.list (rowsD ls)), .no] ∧ acc = limD (mkLim (ls.take i))) ⟨rfl, rfl⟩ ?_ ?_
  · rintro i d acc ρ2 hd ⟨rfl, rfl⟩
    obtain ⟨p, hp, rfl⟩ := map_get hd
    obtain ⟨_, h2, h3⟩ := hls.2 p (List.mem_of_getElem? hp)
    have hl := asc_len h2 h3
    walk_at "r"
    walk_at "k"
    refine ⟨_, p.2, rfl, .inl rfl, by omega, fun v hv => by have := h3 v hv; omega, ?_⟩
    walk_at "r"
    refine ⟨?_, rfl, ?_⟩
    · unfold limD mkLim
      rw [List.length_map, List.length_map, List.length_take]
      have := hls.1
      omega
    · unfold limD mkLim
      rw [List.take_succ, hp, List.map_append, List.map_append]
      rfl
  · rintro acc ρ2 ⟨rfl, rfl⟩
    rw [rowsD_len, List.take_length]
    walk_at "r"
    walk_at "e"
    exact hk
/-- _law_is_let(lists, state) -/
@[reducible] def w__law_is_let : WS := (wRet (wOp gEq (wCB gLen (wCons (wOf (wLc [2] (wSq (wVar 0)) (gNm 2) (wTst (wOp (gInB true) (wOp gIx (wVar 1) (wOp gIx (wVar 2) (wC (.int 0)))) (wOp gIx (wVar 2) (wC (.int 1))))) (wVar 2))) wNil)) (wC (.int 0))))
theorem hw__law_is_let : ∀ xs as k kx, S__law_is_let xs k kx → as.length = nM [.v, .v] → w__law_is_let (wdV [.v, .v] as k (fun _ _ => False)) (ent [.v, .v] xs as 3) := by
  rintro xs as k kx ⟨ls, st, rfl, hls, hk⟩ ha
  have := as0 ha
  subst this
  have sz : sizeLine = 2 ^ 24 := rfl
  refine ⟨_, rfl, ?_⟩
  refine LcP.inv (fun i acc ρ => ρ = [.val (.list (rowsD ls)), .val (.tuple (natD st)), .no] ∧ acc.length ≤ i ∧ (acc.length = 0 ↔ isLet (ls.take i) st = true)) ⟨rfl, Nat.le_refl _, by simp [isLet]⟩ ?_ ?_
  · rintro i d acc ρ2 hd ⟨rfl, hl, hq⟩
    obtain ⟨p, hp, rfl⟩ := map_get hd
    obtain ⟨h1, h2, h3⟩ := hls.2 p (List.mem_of_getElem? hp)
    have hi : i < ls.length := (List.getElem?_eq_some_iff.mp hp).1
    have hi2 := hls.1
    have he : isLet (ls.take (i + 1)) st = (isLet (ls.take i) st && decide (st.getD p.1 0 ∈ p.2)) := by
      unfold isLet
      rw [List.take_succ, hp, List.all_append]
      simp
    walk_at "r"
    refine ⟨_, natD_at (List.getElem?_eq_getElem h1), ?_⟩
    walk_at "r"
    refine And.intro (.inl ⟨rfl, natD_flat _⟩) ?_
    walk_at "1"
    dsimp only [if_true]
    rw [inD_nat]
    have hg : st.getD p.1 0 = st[p.1] := by rw [List.getD_eq_getElem?_getD, List.getElem?_eq_getElem h1]; rfl
    rw [hg] at he
    refine itB (fun h => ?_) (fun h => ?_)
    · refine ⟨_, _, rfl, by omega, rfl, by simp; omega, ?_⟩
      rw [he]
      have : decide (st[p.1] ∈ p.2) = false := by
        cases hq : decide (st[p.1] ∈ p.2)
        · rfl
        · rw [hq] at h; cases h
      rw [this]
      simp
    · refine ⟨rfl, by omega, ?_⟩
      rw [he]
      have : decide (st[p.1] ∈ p.2) = true := by
        cases hq : decide (st[p.1] ∈ p.2)
        · rw [hq] at h; cases h
        · rfl
      rw [this, Bool.and_true]
      exact hq
  · rintro acc ρ2 ⟨rfl, hl, hq⟩
    rw [rowsD_len, List.take_length] at hq
    walk_at "r"
    refine And.intro (.inl rfl) ?_
    walk_at "e"
    have e : PyData.eqv (.int ((acc.length : Nat) : Int)) (.int 0) = isLet ls st := by
      rw [show (0 : Int) = ((0 : Nat) : Int) from rfl, eqv_nat]
      by_cases h : acc.length = 0
      · rw [decide_eq_true h, hq.mp h]
      · rw [decide_eq_false h]
        cases hx : isLet ls st
        · rfl
        · exact absurd (hq.mpr hx) h
    rw [e]
    exact hk
/-- _law_deed_lists(d, tops, state) -/
@[reducible] def w__law_deed_lists : WS := (wSeq (wSetN 3 (wLst wNil))
    (wSeq (wSetN 4 (wLst wNil))
    (wSeq (wFor (wRg1 (wCons (wCB gLen (wCons (wVar 1) wNil)) wNil)) (gNm 5)
    (wSeq (wSet 6 (wOp gIx (wVar 1) (wVar 5)))
    (wSeq (wSet 7 (wCall0 [.m, .v] S__law_draw (wCons (wVar 0) (wCons (wC (.int 6)) wNil))))
    (wSeq (wIfS (wOr (wTst (wOp gEq (wVar 7) (wC (.int 0)))) (wTst (wOp gEq (wVar 7) (wC (.int 2)))))
    (wExpr (wMut 3 gAppend (wCons (wTup (wCons (wVar 5) (wCons (wCall0 [.m, .v, .v, .v] S__law_values (wCons (wVar 0) (wCons (wOf (wLstRg (wRgE1 (wOp gAddA (wVar 6) (wC (.int 1)))))) (wCons (wVar 6) (wCons (wOp gIx (wVar 2) (wVar 5)) wNil))))) wNil))) wNil)))
    wNext)
    (wSeq (wIfS (wOr (wTst (wOp gEq (wVar 7) (wC (.int 1)))) (wTst (wOp gEq (wVar 7) (wC (.int 2)))))
    (wExpr (wMut 4 gAppend (wCons (wTup (wCons (wVar 5) (wCons (wC (.str "set")) (wCons (wCall0 [.m, .v] S__law_draw (wCons (wVar 0) (wCons (wOp gAddA (wVar 6) (wC (.int 1))) wNil))) wNil)))) wNil)))
    wNext)
    (wIfS (wOr (wTst (wOp gEq (wVar 7) (wC (.int 3)))) (wTst (wOp gEq (wVar 7) (wC (.int 4)))))
    (wSeq (wSet 8 (wCall0 [.m, .v] S__law_draw (wCons (wVar 0) (wCons (wVar 6) wNil))))
    (wSeq (wAug 8 gIAdd (wCB gInt (wCons (wOp gGe (wVar 8) (wOp gIx (wVar 2) (wVar 5))) wNil)))
    (wSeq (wSet 9 (wOp gMinus (wVar 8) (wOp gIx (wVar 2) (wVar 5))))
    (wSeq (wSetV 10 (wLc [11] (wRg1 (wCons (wOp gAddA (wVar 6) (wC (.int 1))) wNil)) (gNm 11) (wAnd (wTst (wOp gLe (wC (.int 0)) (wOp gAddA (wVar 11) (wVar 9)))) (wTst (wOp gLe (wOp gAddA (wVar 11) (wVar 9)) (wVar 6)))) (wVar 11)))
    (wSeq (wExpr (wMut 3 gAppend (wCons (wTup (wCons (wVar 5) (wCons (wCall0 [.m, .v, .v, .v] S__law_values (wCons (wVar 0) (wCons (wVar 10) (wCons (wVar 6) (wCons (wOp gIx (wVar 2) (wVar 5)) wNil))))) wNil))) wNil)))
    (wExpr (wMut 4 gAppend (wCons (wTup (wCons (wVar 5) (wCons (wC (.str "add")) (wCons (wVar 9) wNil)))) wNil))))))))
    wNext))))))
    (wRet (wTup (wCons (wVar 3) (wCons (wVar 4) wNil)))))))
theorem hw__law_deed_lists : ∀ xs as k kx, S__law_deed_lists xs k kx → as.length = nM [.m, .v, .v] → w__law_deed_lists (wdV [.m, .v, .v] as k (fun _ _ => False)) (ent [.m, .v, .v] xs as 12) := by
  rintro xs as k kx ⟨d, tops, st, rfl, hd, ht, hs, hk⟩ ha
  obtain ⟨a, rfl⟩ := as1 ha
  have sz : sizeLine = 2 ^ 24 := rfl
  obtain ⟨t1, t2, t3⟩ := ht
  refine ⟨_, _, rfl, by decide, fun p => ?_⟩
  refine ⟨_, _, rfl, by decide, fun q => ?_⟩
  walk_at "1"
  refine ⟨_, rfl, ⟨by rw [natD_len]; omega, by rw [natD_len]; omega⟩, ?_⟩
  rw [natD_len, Int.toNat_natCast]
  walk_at "n"
  refine ForP.inv (fun i ρ => ∃ (d' : PyData) (ls : List (Nat × List Nat)) (es : List (Nat × Bool × Int)) (e5 e6 e7 e8 e9 e10 : En), ρ = [.io a d', .val (.tuple (natD tops)), .val (.tuple (natD st)), .own p (.list (rowsD ls)), .own q (.list (effD es)), e5, e6, e7, e8, e9, e10, .no] ∧ DOk d' ∧ LsOk tops.length (2 * i) ls ∧ isLet ls st = true ∧ EsOk tops st es ∧ es.length ≤ i ∧ ∀ e ∈ es, e.1 < i) ⟨d, [], [], _, _, _, _, _, _, rfl, hd, ⟨Nat.le_refl _, by simp⟩, rfl, ⟨by simp, by simp, by simp⟩, Nat.le_refl _, by simp⟩ ?_ ?_
  · rintro i x ρ2 hi ⟨d2, ls, es, e5, e6, e7, e8, e9, e10, rfl, hd2, hls, hlet, hes, hel, hek⟩
    obtain ⟨hi2, rfl⟩ := rgD_mem hi
    rw [Int.zero_add]
    have ht := List.getElem?_eq_getElem hi2
    have ht' := t3 _ (List.getElem_mem hi2)
    obtain ⟨s, hs1, hs2⟩ := st_get hs ht
    generalize tops[i] = t at *
    have hsg : st.getD i 0 = s := by rw [List.getD_eq_getElem?_getD, hs1]; rfl
    have lls : (rowsD ls).length < sizeLine := by rw [rowsD_len]; have := hls.1; omega
    refine cut3 (fun ρ => ∃ (d' : PyData) (ls : List (Nat × List Nat)) (way : Int), ρ = [.io a d', .val (.tuple (natD tops)), .val (.tuple (natD st)), .own p (.list (rowsD ls)), .own q (.list (effD es)), .val (.int ((i : Nat) : Int)), .val (.int ((t : Nat) : Int)), .val (.int way), e8, e9, e10, .no] ∧ DOk d' ∧ LsOk tops.length (2 * i + 1) ls ∧ isLet ls st = true) ?_ fun U key => ?_
    · rintro _ ⟨d3, ls, way, rfl, hd3, hls, hlet⟩
      have lls : (rowsD ls).length < sizeLine := by rw [rowsD_len]; have := hls.1; omega
      have les : (effD es).length < sizeLine := by rw [effD_len]; omega
      have addE : ∀ (b : Bool) (n : Int), 0 ≤ (if b then n else (s : Int) + n) → (if b then n else (s : Int) + n) ≤ t → EsOk tops st (es ++ [(i, b, n)]) ∧ (es ++ [(i, b, n)]).length ≤ i + 1 ∧ ∀ e ∈ es ++ [(i, b, n)], e.1 < i + 1 := fun b n h1 h2 => by
        refine ⟨⟨by simp; omega, ?_, fun e he => ?_⟩, by simp; omega, fun e he => ?_⟩
        · rw [List.map_append, List.nodup_append]
          refine ⟨hes.2.1, by simp, fun x hx y hy => ?_⟩
          simp only [List.map_cons, List.map_nil, List.mem_singleton] at hy
          subst hy
          obtain ⟨e, he, rfl⟩ := List.mem_map.mp hx
          have := hek e he
          omega
        · rcases List.mem_append.mp he with z | z
          · exact hes.2.2 e z
          · simp only [List.mem_singleton] at z; subst z; exact ⟨t, s, ht, hs1, h1, h2⟩
        · rcases List.mem_append.mp he with z | z
          · have := hek e z; omega
          · simp only [List.mem_singleton] at z; subst z; exact Nat.lt_succ_self _
      refine cut1 (fun ρ => ∃ (d' : PyData) (es' : List (Nat × Bool × Int)), ρ = [.io a d', .val (.tuple (natD tops)), .val (.tuple (natD st)), .own p (.list (rowsD ls)), .own q (.list (effD es')), .val (.int ((i : Nat) : Int)), .val (.int ((t : Nat) : Int)), .val (.int way), e8, e9, e10, .no] ∧ DOk d' ∧ ((EsOk tops st es' ∧ es'.length ≤ i + 1 ∧ ∀ e ∈ es', e.1 < i + 1) ∧ ((way = 1 ∨ way = 2) ∨ es' = es))) ?_ fun U key => ?_
      · rintro _ ⟨d4, es', rfl, hd4, hes', hway⟩
        have ok : ∀ (d' : PyData) (ls' : List (Nat × List Nat)) (es' : List (Nat × Bool × Int)) (e8 e9 e10 : En), DOk d' → LsOk tops.length (2 * (i + 1)) ls' → isLet ls' st = true → (EsOk tops st es' ∧ es'.length ≤ i + 1 ∧ ∀ e ∈ es', e.1 < i + 1) → ∃ (d'' : PyData) (ls : List (Nat × List Nat)) (es : List (Nat × Bool × Int)) (e5 e6 e7 f8 f9 f10 : En), ([.io a d', .val (.tuple (natD tops)), .val (.tuple (natD st)), .own p (.list (rowsD ls')), .own q (.list (effD es')), .val (.int ((i : Nat) : Int)), .val (.int ((t : Nat) : Int)), .val (.int way), e8, e9, e10, .no] : List En) = [.io a d'', .val (.tuple (natD tops)), .val (.tuple (natD st)), .own p (.list (rowsD ls)), .own q (.list (effD es)), e5, e6, e7, f8, f9, f10, .no] ∧ DOk d'' ∧ LsOk tops.length (2 * (i + 1)) ls ∧ isLet ls st = true ∧ EsOk tops st es ∧ es.length ≤ i + 1 ∧ ∀ e ∈ es, e.1 < i + 1 :=
          fun d' ls' es' e8 e9 e10 h1 h2 h3 h4 => ⟨d', ls', es', _, _, _, _, _, _, rfl, h1, h2, h3, h4.1, h4.2.1, h4.2.2⟩
        refine wOr_pure (decide (way = 3)) (decide (way = 4)) (by walk_at "eq") (by walk_at "eq") (itB (fun h => ?_) fun h => ?_)
        · have h34 : way = 3 ∨ way = 4 := by simpa using h
          have heq : es' = es := by rcases hway with (z | z) | z <;> first | exact z | omega
          subst heq
          walk_at "k"
          refine ⟨_, _, rfl, hd4, by omega, by omega, fun r d5 h1 h2 hd5 => ?_⟩
          obtain ⟨r, rfl⟩ := Int.eq_ofNat_of_zero_le h1
          walk_at "r"
          refine ⟨_, natD_at hs1, ?_⟩
          walk_at "r"
          generalize hth : ((r : Nat) : Int) + (if decide (((s : Nat) : Int) ≤ ((r : Nat) : Int)) = true then 1 else 0) = th
          have hth1 : 0 ≤ th ∧ th ≤ t := by subst hth; split <;> omega
          refine ⟨_, natD_at hs1, ?_⟩
          walk_at "r"
          rw [show (((t : Nat) : Int) + 1).toNat = t + 1 by omega, rg_natD]
          refine LcP.fixed (fun y => match y with
            | .int j => if (decide (0 ≤ j + (th - ((s : Nat) : Int))) && decide (j + (th - ((s : Nat) : Int)) ≤ ((t : Nat) : Int))) = true then [.int j] else []
            | _ => []) (fun y => by split <;> (try split) <;> simp) (by rw [natD_len, List.length_range]; omega) ?_ ?_
          · intro j y acc Pn hy hacc hP
            obtain ⟨v, hv, rfl⟩ := natD_get hy
            dsimp only at hP
            refine wAnd_pure (decide (0 ≤ ((v : Nat) : Int) + (th - ((s : Nat) : Int)))) (decide (((v : Nat) : Int) + (th - ((s : Nat) : Int)) ≤ ((t : Nat) : Int))) (by walk_at "cmp") (by walk_at "cmp") (itB (fun h => ?_) (fun h => ?_))
            · rw [if_pos h] at hP
              exact ⟨_, _, rfl, hacc, hP⟩
            · rw [if_neg (by rw [h]; decide), List.append_nil] at hP
              exact hP
          rw [natD_filter (List.range (t + 1)) _ (fun v => decide (0 ≤ ((v : Nat) : Int) + (th - ((s : Nat) : Int))) && decide (((v : Nat) : Int) + (th - ((s : Nat) : Int)) ≤ ((t : Nat) : Int))) fun v => rfl]
          have va : Asc ((List.range (t + 1)).filter fun v => decide (0 ≤ ((v : Nat) : Int) + (th - ((s : Nat) : Int))) && decide (((v : Nat) : Int) + (th - ((s : Nat) : Int)) ≤ ((t : Nat) : Int))) := asc_filter (asc_range _) _
          have vl : ∀ v ∈ (List.range (t + 1)).filter fun v => decide (0 ≤ ((v : Nat) : Int) + (th - ((s : Nat) : Int))) && decide (((v : Nat) : Int) + (th - ((s : Nat) : Int)) ≤ ((t : Nat) : Int)), v ≤ t := fun v hv => by have := List.mem_range.mp (List.mem_filter.mp hv).1; omega
          have vs : s ∈ (List.range (t + 1)).filter fun v => decide (0 ≤ ((v : Nat) : Int) + (th - ((s : Nat) : Int))) && decide (((v : Nat) : Int) + (th - ((s : Nat) : Int)) ≤ ((t : Nat) : Int)) :=
            List.mem_filter.mpr ⟨List.mem_range.mpr (by omega), by rw [Bool.and_eq_true, decide_eq_true_eq, decide_eq_true_eq]; omega⟩
          generalize (List.range (t + 1)).filter (fun v => decide (0 ≤ ((v : Nat) : Int) + (th - ((s : Nat) : Int))) && decide (((v : Nat) : Int) + (th - ((s : Nat) : Int)) ≤ ((t : Nat) : Int))) = al at *
          refine ⟨⟨_, rfl⟩, ?_⟩
          walk_at "2"
          refine ⟨_, natD_at hs1, ?_⟩
          walk_at "k"
          refine ⟨_, al, t, s, rfl, hd5, va, vl, ht'.1, ht'.2, hs2, fun vs' d6 hv1 hv2 hv3 hd6 => ?_⟩
          walk_at "r"
          refine ⟨_, _, _, rfl, rfl, lls, ?_⟩
          refine ⟨⟨_, rfl⟩, ?_⟩
          walk_at "r"
          refine ⟨_, _, _, rfl, rfl, les, ?_⟩
          have fin := ok d6 (ls ++ [(i, vs')]) (es' ++ [(i, false, th - ((s : Nat) : Int))]) (.val (.int th)) (.val (.int (th - ((s : Nat) : Int)))) (.val (.list (natD al))) hd6 (ls_app hls hi2 hv1 fun v hv => by have := vl v (hv2 v hv); omega) (by rw [isLet_app, hlet, hsg]; exact decide_eq_true (hv3 vs)) (addE false _ (by show 0 ≤ ((s : Nat) : Int) + (th - ((s : Nat) : Int)); omega) (by show ((s : Nat) : Int) + (th - ((s : Nat) : Int)) ≤ _; omega))
          rw [rowsD_app, effD_app] at fin
          exact fin
        · exact ok d4 ls es' _ _ _ hd4 (ls_mono hls (by omega)) hlet hes'
      · refine wOr_pure (decide (way = 1)) (decide (way = 2)) (by walk_at "eq") (by walk_at "eq") (itB (fun h => ?_) fun h => ?_)
        · have h12 : way = 1 ∨ way = 2 := by simpa using h
          refine ⟨⟨_, rfl⟩, ?_⟩
          walk_at "r"
          walk_at "k"
          refine ⟨_, _, rfl, hd3, by omega, by omega, fun n d4 h1 h2 hd4 => ?_⟩
          walk_at "r"
          refine ⟨_, _, _, rfl, rfl, les, ?_⟩
          exact key _ ⟨d4, es ++ [(i, true, n)], by rw [effD_app]; rfl, hd4, addE true n h1 (by show n ≤ _; omega), .inl h12⟩
        · exact key _ ⟨d3, es, rfl, hd3, ⟨hes, by omega, fun e he => by have := hek e he; omega⟩, .inr rfl⟩
    · walk_at "2"
      refine ⟨_, natD_at ht, ?_⟩
      walk_at "1"
      walk_at "k"
      refine ⟨_, _, rfl, hd2, by omega, by omega, fun way d3 h1 h2 hd3 => ?_⟩
      walk_at "1"
      dsimp only
      refine wOr_pure (decide (way = 0)) (decide (way = 2)) (by walk_at "eq") (by walk_at "eq") (itB (fun h => ?_) fun h => ?_)
      · refine ⟨⟨_, rfl⟩, ?_⟩
        walk_at "r"
        refine And.intro ⟨by omega, by omega, by omega, by omega, by omega⟩ ?_
        walk_at "2"
        refine ⟨_, natD_at hs1, ?_⟩
        walk_at "k"
        rw [show ((t : Nat) : Int) + 1 - 0 = ((t + 1 : Nat) : Int) by omega, Int.toNat_natCast, rg_natD]
        refine ⟨_, List.range (t + 1), t, s, rfl, hd3, asc_range _, fun v hv => by have := List.mem_range.mp hv; omega, ht'.1, ht'.2, hs2, fun vs d4 hv1 hv2 hv3 hd4 => ?_⟩
        walk_at "r"
        refine ⟨_, _, _, rfl, rfl, lls, ?_⟩
        refine key _ ⟨d4, ls ++ [(i, vs)], way, by rw [rowsD_app]; rfl, hd4, ls_app hls hi2 hv1 fun v hv => by have := List.mem_range.mp (hv2 v hv); omega, ?_⟩
        rw [isLet_app, hlet, hsg]
        exact decide_eq_true (hv3 (List.mem_range.mpr (by omega)))
      · exact key _ ⟨d3, ls, way, rfl, hd3, ls_mono hls (by omega), hlet⟩
  · rintro ρ2 ⟨d2, ls, es, e5, e6, e7, e8, e9, e10, rfl, hd2, hls, hlet, hes, hel, hek⟩
    rw [rgD_len] at hls
    walk_at "r"
    walk_at "e"
    exact hk ls es d2 (ls_mono hls (by omega)) hes hlet hd2
/-- _law_behind(effects, state) -/
@[reducible] def w__law_behind : WS := (wSeq (wSetN 2 (wLst wNil))
    (wSeq (wFor (wRg1 (wCons (wCB gLen (wCons (wVar 1) wNil)) wNil)) (gNm 3)
    (wSeq (wSetV 4 (wLc [5] (wSq (wVar 0)) (gNm 5) (wTst (wOp gEq (wOp gIx (wVar 5) (wC (.int 0))) (wVar 3))) (wVar 5)))
    (wIfS (wTst (wOp gEq (wCB gLen (wCons (wVar 4) wNil)) (wC (.int 0))))
    (wExpr (wMut 2 gAppend (wCons (wOp gIx (wVar 1) (wVar 3)) wNil)))
    (wIfS (wTst (wOp gEq (wOp gIx (wOp gIx (wVar 4) (wC (.int 0))) (wC (.int 1))) (wC (.str "set"))))
    (wExpr (wMut 2 gAppend (wCons (wOp gIx (wOp gIx (wVar 4) (wC (.int 0))) (wC (.int 2))) wNil)))
    (wExpr (wMut 2 gAppend (wCons (wOp gAddA (wOp gIx (wVar 1) (wVar 3)) (wOp gIx (wOp gIx (wVar 4) (wC (.int 0))) (wC (.int 2)))) wNil)))))))
    (wRet (wCB gTuple (wCons (wVar 2) wNil)))))
theorem hw__law_behind : ∀ xs as k kx, S__law_behind xs k kx → as.length = nM [.v, .v] → w__law_behind (wdV [.v, .v] as k (fun _ _ => False)) (ent [.v, .v] xs as 6) := by
  rintro xs as k kx ⟨row, es, st, rfl, hrow, hes, hst, hk⟩ ha
  have := as0 ha
  subst this
  have sz : sizeLine = 2 ^ 24 := rfl
  have len : (st.map PyData.int).length = st.length := List.length_map ..
  refine ⟨_, _, rfl, by decide, fun p => ?_⟩
  walk_at "1"
  refine ⟨_, rfl, ⟨by rw [len]; omega, by rw [len]; omega⟩, ?_⟩
  rw [len, Int.toNat_natCast]
  refine ForP.inv (fun i ρ => ∃ e1 e2, ρ = [.val row, .val (.tuple (st.map .int)), .own p (.list (((behE es st).take i).map .int)), e1, e2, .no]) ⟨_, _, rfl⟩ ?_ ?_
  · rintro i x ρ2 hi ⟨e1, e2, rfl⟩
    obtain ⟨hi2, rfl⟩ := rgD_mem hi
    rw [Int.zero_add]
    have hsi : (st.map PyData.int)[i]? = some (.int st[i]) := by rw [List.getElem?_map, List.getElem?_eq_getElem hi2]; rfl
    refine ⟨_, src_row hrow, ?_⟩
    have le : (effD es).length = es.length := List.length_map ..
    refine LcP.fixed (fun y => match y with
      | .tuple [.int j, b, c] => if j = ((i : Nat) : Int) then [y] else []
      | _ => []) (fun y => by split <;> (try split) <;> simp) (by rw [le]; omega) ?_ ?_
    · intro j y acc Pn hy hacc hP
      obtain ⟨e, he, rfl⟩ := map_get hy
      walk_at "r"
      refine And.intro (.inl rfl) ?_
      walk_at "1"
      rw [eqv_nat]
      dsimp only at hP
      refine itD (fun h => ?_) (fun h => ?_)
      · rw [if_pos (by omega)] at hP
        exact ⟨_, _, rfl, hacc, hP⟩
      · rw [if_neg (by omega), List.append_nil] at hP
        exact hP
    · have hfl : (effD es).flatMap (fun y => match y with
        | .tuple [.int j, b, c] => if j = ((i : Nat) : Int) then [y] else []
        | _ => []) = effD (es.filter fun e => e.1 == i) := by
        clear hes hk hrow le
        induction es with
        | nil => rfl
        | cons e es ih =>
          rw [show effD (e :: es) = .tuple [.int ((e.1 : Nat) : Int), .str (if e.2.1 then "set" else "add"), .int e.2.2] :: effD es from rfl, List.flatMap_cons, ih]
          dsimp only
          by_cases h : e.1 = i
          · rw [List.filter_cons_of_pos (by simpa using h), if_pos (show ((e.1 : Nat) : Int) = ((i : Nat) : Int) by omega)]; rfl
          · rw [List.filter_cons_of_neg (by simpa using h), if_neg (show ¬ ((e.1 : Nat) : Int) = ((i : Nat) : Int) by omega)]; rfl
      rw [hfl]
      have hb : (behE es st)[i]? = some (match es.find? (fun e => e.1 == i) with
        | none => st[i]
        | some e => onE e st[i]) := by
        unfold behE
        rw [List.getElem?_mapIdx, List.getElem?_eq_getElem hi2]; rfl
      have hfh : es.find? (fun e => e.1 == i) = (es.filter fun e => e.1 == i).head? := (List.head?_filter ..).symm
      have fin : ∀ z e2, (behE es st)[i]? = some z → ∃ e1 e2', ([.val row, .val (.tuple (st.map .int)), .own p (.list (((behE es st).take i).map .int ++ [.int z])), .val (.int ((i : Nat) : Int)), e2, .no] : List En) = [.val row, .val (.tuple (st.map .int)), .own p (.list (((behE es st).take (i + 1)).map .int)), e1, e2', .no] := fun z e2 hz => by
        refine ⟨.val (.int ((i : Nat) : Int)), e2, ?_⟩
        rw [List.take_succ, hz, List.map_append]
        rfl
      have lt : (((behE es st).take i).map PyData.int).length < sizeLine := by
        rw [List.length_map, List.length_take]
        omega
      walk_at "r"
      refine And.intro (.inl rfl) ?_
      walk_at "1"
      cases hfe : es.filter fun e => e.1 == i with
      | nil =>
        rw [hfh, hfe] at hb
        refine itT rfl ?_
        refine ⟨⟨_, rfl⟩, ?_⟩
        walk_at "2"
        refine ⟨_, atI_nat hsi, ?_⟩
        exact ⟨_, _, _, rfl, rfl, lt, fin _ _ hb⟩
      | cons e r =>
        rw [hfh, hfe] at hb
        refine itF (by rw [eqv_int]; exact decide_eq_false (by simp [effD]; omega)) ?_
        walk_at "r"
        refine ⟨_, atI_nat (j := 0) rfl, ?_⟩
        walk_at "r"
        refine And.intro (.inl rfl) ?_
        walk_at "1"
        obtain ⟨ek, eb, en⟩ := e
        cases eb with
        | true =>
          refine itT (by show PyData.eqv (.str "set") (.str "set") = true; decide) ?_
          refine ⟨⟨_, rfl⟩, ?_⟩
          walk_at "r"
          refine ⟨_, atI_nat (j := 0) rfl, ?_⟩
          walk_at "r"
          exact ⟨_, _, _, rfl, rfl, lt, fin _ _ hb⟩
        | false =>
          refine itF (by show PyData.eqv (.str "add") (.str "set") = false; decide) ?_
          refine ⟨⟨_, rfl⟩, ?_⟩
          walk_at "2"
          refine ⟨_, atI_nat hsi, ?_⟩
          walk_at "r"
          refine ⟨_, atI_nat (j := 0) rfl, ?_⟩
          walk_at "r"
          exact ⟨_, _, _, rfl, rfl, lt, fin _ _ hb⟩
  · rintro ρ2 ⟨e1, e2, rfl⟩
    rw [rgD_len]
    walk_at "r"
    walk_at "e"
    rw [List.take_of_length_le (by unfold behE; rw [List.length_mapIdx]; omega)]
    exact hk
/-- _law_near(d, tops, state) -/
@[reducible] def w__law_near : WS := (wSeq (wSetN 3 (wLst (wCons (wVar 2) wNil)))
    (wSeq (wFor (wRg1 (wCons (wCB gLen (wCons (wVar 1) wNil)) wNil)) (gNm 4)
    (wExpr (wMut 3 gExtend (wCons (wOf (wLc [6] (wRg1 (wCons (wOp gAddA (wOp gIx (wVar 1) (wVar 4)) (wC (.int 1))) wNil)) (gNm 6) (wTst (wOp gNe (wVar 6) (wOp gIx (wVar 2) (wVar 4)))) (wOp gAddA (wOp gAddA (wSl (wVar 2) wNoP (wPart (wVar 4))) (wTup (wCons (wVar 6) wNil))) (wSl (wVar 2) (wPart (wOp gAddA (wVar 4) (wC (.int 1)))) wNoP)))) wNil))))
    (wSeq (wFor (wRg1 (wCons (wC (.int 6)) wNil)) (gNm 5)
    (wExpr (wMut 3 gAppend (wCons (wCB gTuple (wCons (wOf (wLc [7] (wSq (wVar 1)) (gNm 7) wYes (wCall0 [.m, .v] S__law_draw (wCons (wVar 0) (wCons (wOp gAddA (wVar 7) (wC (.int 1))) wNil))))) wNil)) wNil))))
    (wRet (wVar 3)))))
theorem hw__law_near : ∀ xs as k kx, S__law_near xs k kx → as.length = nM [.m, .v, .v] → w__law_near (wdV [.m, .v, .v] as k (fun _ _ => False)) (ent [.m, .v, .v] xs as 8) := by
  rintro xs as k kx ⟨d, tops, st, rfl, hd, ht, hs, hk⟩ ha
  obtain ⟨a, rfl⟩ := as1 ha
  have sz : sizeLine = 2 ^ 24 := rfl
  obtain ⟨t1, t2, t3⟩ := ht
  have hs0 := hs.1
  walk_at "3"
  refine And.intro (Nat.le_of_ble_eq_true rfl) ?_
  intro p
  walk_at "1"
  refine ⟨_, rfl, ⟨by rw [natD_len]; omega, by rw [natD_len]; omega⟩, ?_⟩
  rw [natD_len, Int.toNat_natCast]
  walk_at "n"
  refine ForP.inv (fun i ρ => ∃ (sts : List (List Nat)) (e4 : En), ρ = [.io a d, .val (.tuple (natD tops)), .val (.tuple (natD st)), .own p (.list (stsD sts)), e4, .no, .no, .no] ∧ (∀ s ∈ sts, s.length = tops.length) ∧ sts.length ≤ 1 + 10 * i) ⟨[st], _, rfl, by simpa using hs0, Nat.le_refl _⟩ ?_ ?_
  · rintro i x ρ2 hi ⟨sts, e4, rfl, hsts, hlen⟩
    obtain ⟨hi2, rfl⟩ := rgD_mem hi
    rw [Int.zero_add]
    have ht := List.getElem?_eq_getElem hi2
    have ht' := t3 _ (List.getElem_mem hi2)
    obtain ⟨s, hs1, hs2⟩ := st_get hs ht
    generalize tops[i] = t at *
    refine ⟨⟨_, rfl⟩, ?_⟩
    walk_at "2"
    refine ⟨_, natD_at ht, ?_⟩
    walk_at "r"
    rw [show (((t : Nat) : Int) + 1).toNat = t + 1 by omega, rg_natD]
    refine LcP.inv (fun j acc ρ => ρ = [.io a d, .val (.tuple (natD tops)), .val (.tuple (natD st)), .own p (.list (stsD sts)), .val (.int ((i : Nat) : Int)), .no, .no, .no] ∧ ∃ ss, acc = stsD ss ∧ (∀ s ∈ ss, s.length = tops.length) ∧ ss.length ≤ j) ⟨rfl, [], rfl, by simp, Nat.le_refl _⟩ ?_ ?_
    · rintro j y acc ρ2 hy ⟨rfl, ss, rfl, hss, hsl⟩
      have hj : j < t + 1 := by
        have := (List.getElem?_eq_some_iff.mp hy).1
        rwa [natD_len, List.length_range] at this
      obtain ⟨v, hv, rfl⟩ := natD_get hy
      walk_at "2"
      refine ⟨_, natD_at hs1, ?_⟩
      walk_at "2"
      refine And.intro (.inl rfl) ?_
      walk_at "1"
      refine itB (fun h => ?_) (fun h => ?_)
      · walk_at "r"
        rw [cut_lo]
        have l1 : (natD (st.take i)).length = i := by rw [natD_len, List.length_take]; omega
        refine And.intro (by rw [l1]; show i + 1 ≤ _; omega) ?_
        walk_at "r"
        rw [cut_hi st (i + 1) (((i : Nat) : Int) + 1) rfl]
        have l2 : (natD (st.drop (i + 1))).length = st.length - (i + 1) := by rw [natD_len, List.length_drop]
        refine And.intro (by rw [List.length_append, l1, l2]; show i + 1 + _ ≤ _; omega) ?_
        have l3 : (stsD ss).length = ss.length := List.length_map ..
        refine ⟨_, _, rfl, by rw [l3]; omega, rfl, ss ++ [st.take i ++ [v] ++ st.drop (i + 1)], ?_, fun x hx => ?_, by simp; omega⟩
        · show stsD ss ++ [.tuple (natD (st.take i) ++ [.int ((v : Nat) : Int)] ++ natD (st.drop (i + 1)))] = _
          unfold stsD natD
          simp only [List.map_append, List.map_cons, List.map_nil]
        · rcases List.mem_append.mp hx with z | z
          · exact hss x z
          · simp only [List.mem_singleton] at z
            subst z
            rw [List.length_append, List.length_append, List.length_take, List.length_drop]
            simp only [List.length_cons, List.length_nil]
            omega
      · exact ⟨rfl, ss, rfl, hss, by omega⟩
    · rintro acc ρ2 ⟨rfl, ss, rfl, hss, hsl⟩
      rw [natD_len, List.length_range] at hsl
      have l3 : ∀ l, (stsD l).length = l.length := fun l => List.length_map ..
      refine ⟨_, _, _, rfl, rfl, by rw [l3, l3]; omega, ?_⟩
      refine ⟨sts ++ ss, _, by rw [show stsD (sts ++ ss) = stsD sts ++ stsD ss from List.map_append]; rfl, fun x hx => ?_, by rw [List.length_append]; omega⟩
      rcases List.mem_append.mp hx with z | z
      · exact hsts x z
      · exact hss x z
  · rintro ρ2 ⟨sts, e4, rfl, hsts, hlen⟩
    rw [rgD_len] at hlen
    walk_at "r"
    refine ForP.inv (fun i ρ => ∃ (d' : PyData) (sts : List (List Nat)) (e4 e5 : En), ρ = [.io a d', .val (.tuple (natD tops)), .val (.tuple (natD st)), .own p (.list (stsD sts)), e4, e5, .no, .no] ∧ DOk d' ∧ (∀ s ∈ sts, s.length = tops.length) ∧ sts.length ≤ 400 + i) ⟨d, sts, _, _, rfl, hd, hsts, by omega⟩ ?_ ?_
    · rintro i x ρ2 hi ⟨d2, sts, e4, e5, rfl, hd2, hsts, hlen⟩
      obtain ⟨hi2, rfl⟩ := rgD_mem hi
      have hi3 : i < 6 := hi2
      refine ⟨⟨_, rfl⟩, ?_⟩
      walk_at "r"
      refine LcP.inv (fun j acc ρ => ∃ d', ρ = [.io a d', .val (.tuple (natD tops)), .val (.tuple (natD st)), .own p (.list (stsD sts)), e4, .val (.int (0 + ((i : Nat) : Int))), .no, .no] ∧ DOk d' ∧ ∃ ss, acc = natD ss ∧ ss.length = j) ⟨d2, rfl, hd2, [], rfl, rfl⟩ ?_ ?_
      · rintro j y acc ρ2 hy ⟨d3, rfl, hd3, ss, rfl, hsl⟩
        obtain ⟨v, hv, rfl⟩ := natD_get hy
        have hv1 := (List.getElem?_eq_some_iff.mp hv).1
        have hv2 := t3 v (List.mem_of_getElem? hv)
        walk_at "r"
        walk_at "k"
        refine ⟨_, _, rfl, hd3, by omega, by omega, fun r d4 h1 h2 hd4 => ?_⟩
        obtain ⟨r, rfl⟩ := Int.eq_ofNat_of_zero_le h1
        refine ⟨_, _, rfl, by rw [natD_len]; omega, d4, rfl, hd4, ss ++ [r], by unfold natD; rw [List.map_append]; rfl, by simp [hsl]⟩
      · rintro acc ρ2 ⟨d3, rfl, hd3, ss, rfl, hsl⟩
        rw [natD_len] at hsl
        walk_at "r"
        have l3 : ∀ l, (stsD l).length = l.length := fun l => List.length_map ..
        refine ⟨_, _, _, rfl, rfl, by rw [l3]; omega, ?_⟩
        refine ⟨d3, sts ++ [ss], _, _, by unfold stsD; rw [List.map_append]; rfl, hd3, fun x hx => ?_, by simp; omega⟩
        rcases List.mem_append.mp hx with z | z
        · exact hsts x z
        · simp only [List.mem_singleton] at z; subst z; exact hsl
    · rintro ρ2 ⟨d2, sts, e4, e5, rfl, hd2, hsts, hlen⟩
      walk_at "r"
      walk_at "e"
      exact hk sts d2 hsts hd2
/-- _law_limits_agree(lists, states) -/
@[reducible] def w__law_limits_agree : WS := (wSeq (wSet 2 (wCall0 [.v] S__law_masks (wCons (wVar 0) wNil)))
    (wSeq (wFor (wSq (wVar 1)) (gNm 3)
    (wSeq (wSet 4 (wCall0 [.v, .v] S_holds (wCons (wVar 2) (wCons (wVar 3) wNil))))
    (wIfS (wOr (wNot (wTst (wIsi isBoolD (wVar 4)))) (wTst (wOp gNe (wVar 4) (wCall0 [.v, .v] S__law_is_let (wCons (wVar 0) (wCons (wVar 3) wNil))))))
    (wRet (wC (.bool false)))
    wNext)))
    (wRet (wC (.bool true)))))
theorem hw__law_limits_agree : ∀ xs as k kx, S__law_limits_agree xs k kx → as.length = nM [.v, .v] → w__law_limits_agree (wdV [.v, .v] as k (fun _ _ => False)) (ent [.v, .v] xs as 5) := by
  rintro xs as k kx ⟨n, ls, sts, rfl, hls, hsts, hk⟩ ha
  have := as0 ha
  subst this
  walk_at "k"
  refine ⟨n, ls, rfl, hls, ?_⟩
  walk_at "r"
  refine ForP.inv (fun i ρ => ∃ e3 e4, ρ = [.val (.list (rowsD ls)), .val (.list (stsD sts)), .val (.tuple (limD (mkLim ls))), e3, e4]) ⟨_, _, rfl⟩ ?_ ?_
  · rintro i x ρ2 hi ⟨e3, e4, rfl⟩
    obtain ⟨s, hs, rfl⟩ := map_get hi
    have hsl := hsts s (List.mem_of_getElem? hs)
    walk_at "k"
    refine ⟨_, mkLim ls, s, rfl, .inr rfl, fun q hq => ?_, ?_⟩
    · obtain ⟨q', hq', rfl⟩ := List.mem_map.mp hq
      rw [hsl]; exact (hls.2 q' hq').1
    walk_at "r"
    walk_at "k"
    refine ⟨ls, s, rfl, by rw [hsl]; exact hls, ?_⟩
    walk_at "2"
    refine And.intro (.inl rfl) ?_
    rw [holds_isLet hls]
    walk_at "1"
    refine itF (by cases isLet ls s <;> rfl) ?_
    exact ⟨_, _, rfl⟩
  · rintro ρ2 ⟨e3, e4, rfl⟩
    walk_at "e"
    exact hk
/-- _law_act_agrees(act, lists, states) -/
@[reducible] def w__law_act_agrees : WS := (wSeq (wFor (wSq (wVar 2)) (gNm 3)
    (wSeq (wSet 4 (wCall0 [.v, .v] S__law_is_let (wCons (wVar 1) (wCons (wVar 3) wNil))))
    (wSeq (wSet 5 (wCall0 [.v, .v] S_can (wCons (wVar 0) (wCons (wVar 3) wNil))))
    (wSeq (wIfS (wOr (wNot (wTst (wIsi isBoolD (wVar 5)))) (wTst (wOp gNe (wVar 5) (wVar 4))))
    (wRet (wC (.bool false)))
    wNext)
    (wIfS (wAnd (wTst (wVar 4)) (wNot (wTst (wCall0 [.v, .v] (S__law_same 2) (wCons (wCall0 [.v, .v] S_after (wCons (wVar 0) (wCons (wVar 3) wNil))) (wCons (wCall0 [.v, .v] S__law_behind (wCons (wOp gIx (wVar 0) (wC (.int 3))) (wCons (wVar 3) wNil))) wNil))))))
    (wRet (wC (.bool false)))
    wNext)))))
    (wRet (wC (.bool true))))
theorem hw__law_act_agrees : ∀ xs as k kx, S__law_act_agrees xs k kx → as.length = nM [.v, .v, .v] → w__law_act_agrees (wdV [.v, .v, .v] as k (fun _ _ => False)) (ent [.v, .v, .v] xs as 6) := by
  rintro xs as k kx ⟨n, nm, pr, ls, es, sts, rfl, hls, hes, hn, hsts, hk⟩ ha
  have := as0 ha
  subst this
  have sz : sizeLine = 2 ^ 24 := rfl
  obtain ⟨h1, h2, h3⟩ := hes
  walk_at "r"
  refine ForP.inv (fun i ρ => ∃ e3 e4 e5, ρ = [.val (.tuple [nm, pr, .tuple (limD (mkLim ls)), .tuple (effD es)]), .val (.list (rowsD ls)), .val (.list (stsD sts)), e3, e4, e5]) ⟨_, _, _, rfl⟩ ?_ ?_
  · rintro i x ρ2 hi ⟨e3, e4, e5, rfl⟩
    obtain ⟨s, hs, rfl⟩ := map_get hi
    have hsl := hsts s (List.mem_of_getElem? hs)
    walk_at "k"
    refine ⟨ls, s, rfl, by rw [hsl]; exact hls, ?_⟩
    walk_at "1"
    walk_at "k"
    refine ⟨_, _, _, _, mkLim ls, s, rfl, .inr rfl, fun q hq => ?_, ?_⟩
    · obtain ⟨q', hq', rfl⟩ := List.mem_map.mp hq
      rw [hsl]; exact (hls.2 q' hq').1
    rw [holds_isLet hls]
    walk_at "r"
    refine And.intro (.inl rfl) ?_
    walk_at "1"
    refine itF (by cases isLet ls s <;> rfl) ?_
    walk_at "r"
    cases isLet ls s with
    | false => exact ⟨_, _, _, rfl⟩
    | true =>
      rw [natD_int s]
      walk_at "k"
      refine ⟨_, _, _, _, es, s.map fun v => ((v : Nat) : Int), rfl, .inr rfl, fun e he => by rw [List.length_map, hsl]; exact h3 e he, ?_⟩
      walk_at "r"
      walk_at "k"
      refine ⟨_, es, s.map fun v => ((v : Nat) : Int), rfl, .inr rfl, by omega, by rw [List.length_map, hsl]; exact hn, ?_⟩
      walk_at "k"
      rw [appl_beh h2]
      refine ⟨_, rfl, plain2i _ (by rw [beh_len, List.length_map]; omega), ?_⟩
      walk_at "1"
      exact ⟨_, _, _, rfl⟩
  · rintro ρ2 ⟨e3, e4, e5, rfl⟩
    walk_at "e"
    exact hk
/-- _law_made(d, name, row) -/
@[reducible] def w__law_made : WS := (wRet (wTup (wCons (wVar 1) (wCons (wCall0 [.m, .v] S__law_draw (wCons (wVar 0) (wCons (wC (.int 4)) wNil))) (wCons (wCall0 [.v] S__law_masks (wCons (wOp gIx (wVar 2) (wC (.int 0))) wNil)) (wCons (wCB gTuple (wCons (wOp gIx (wVar 2) (wC (.int 1))) wNil)) wNil))))))
theorem hw__law_made : ∀ xs as k kx, S__law_made xs k kx → as.length = nM [.m, .v, .v] → w__law_made (wdV [.m, .v, .v] as k (fun _ _ => False)) (ent [.m, .v, .v] xs as 3) := by
  rintro xs as k kx ⟨d, nm, n, ls, ef, rfl, hd, hls, hk⟩ ha
  obtain ⟨a, rfl⟩ := as1 ha
  walk_at "k"
  refine ⟨_, _, rfl, hd, by omega, by omega, fun r d2 h1 h2 hd2 => ?_⟩
  walk_at "r"
  walk_at "k"
  refine ⟨n, ls, rfl, hls, ?_⟩
  walk_at "r"
  walk_at "e"
  exact hk r d2 hd2
/-- _law_deeds_agree(d, tops, state, states) -/
@[reducible] def w__law_deeds_agree : WS := (wSeq (wFor (wRg1 (wCons (wC (.int 3)) wNil)) (gNm 4)
    (wSeq (wSet 5 (wCall0 [.m, .v, .v] S__law_deed_lists (wCons (wVar 0) (wCons (wVar 1) (wCons (wVar 2) wNil)))))
    (wSeq (wIfS (wNot (wTst (wCall0 [.v, .v, .v] S__law_act_agrees (wCons (wCall0 [.m, .v, .v] S__law_made (wCons (wVar 0) (wCons (wC (.str "go")) (wCons (wVar 5) wNil)))) (wCons (wOp gIx (wVar 5) (wC (.int 0))) (wCons (wVar 3) wNil))))))
    (wRet (wC (.bool false)))
    wNext)
    (wSeq (wSet 6 (wCall0 [.m, .v] S__law_draw (wCons (wVar 0) (wCons (wCB gLen (wCons (wVar 1) wNil)) wNil))))
    (wSeq (wSet 5 (wTup (wCons (wCall0 [.m, .v, .v, .v, .v] S__law_without (wCons (wVar 0) (wCons (wOp gIx (wVar 5) (wC (.int 0))) (wCons (wVar 1) (wCons (wVar 2) (wCons (wVar 6) wNil)))))) (wCons (wOf (wLc [7] (wSq (wOp gIx (wVar 5) (wC (.int 1)))) (gNm 7) (wTst (wOp gNe (wOp gIx (wVar 7) (wC (.int 0))) (wVar 6))) (wVar 7))) wNil))))
    (wIfS (wNot (wTst (wCall0 [.v, .v, .v] S__law_act_agrees (wCons (wCall0 [.m, .v, .v] S__law_made (wCons (wVar 0) (wCons (wC (.str "stay")) (wCons (wVar 5) wNil)))) (wCons (wOp gIx (wVar 5) (wC (.int 0))) (wCons (wVar 3) wNil))))))
    (wRet (wC (.bool false)))
    wNext))))))
    (wRet (wCall0 [.v, .v, .v] S__law_act_agrees (wCons (wTup (wCons (wC (.str "idle")) (wCons (wC (.int 0)) (wCons (wTup wNil) (wCons (wTup wNil) wNil))))) (wCons (wOf (wLst wNil)) (wCons (wVar 3) wNil))))))
theorem hw__law_deeds_agree : ∀ xs as k kx, S__law_deeds_agree xs k kx → as.length = nM [.m, .v, .v, .v] → w__law_deeds_agree (wdV [.m, .v, .v, .v] as k (fun _ _ => False)) (ent [.m, .v, .v, .v] xs as 8) := by
  rintro xs as k kx ⟨d, tops, st, sts, rfl, hd, ht, hs, hsts, hk⟩ ha
  obtain ⟨a, rfl⟩ := as1 ha
  have sz : sizeLine = 2 ^ 24 := rfl
  have ks : ∀ {es : List (Nat × Bool × Int)}, EsOk tops st es → KsOk tops.length es := fun h => ⟨h.1, h.2.1, fun e he => by
    obtain ⟨t, s, h1, _⟩ := h.2.2 e he
    exact (List.getElem?_eq_some_iff.mp h1).1⟩
  have tl := ht.1
  have tl2 := ht.2.1
  walk_at "r"
  refine ForP.inv (fun i ρ => ∃ (d' : PyData) (e4 e5 e6 : En), ρ = [.io a d', .val (.tuple (natD tops)), .val (.tuple (natD st)), .val (.list (stsD sts)), e4, e5, e6, .no] ∧ DOk d') ⟨d, _, _, _, rfl, hd⟩ ?_ ?_
  · rintro i x ρ2 hi ⟨d2, e4, e5, e6, rfl, hd2⟩
    walk_at "k"
    refine ⟨_, tops, st, rfl, hd2, ht, hs, fun ls es d3 hls hes hlet hd3 => ?_⟩
    walk_at "1"
    walk_at "k"
    refine ⟨_, _, tops.length, ls, effD es, rfl, hd3, ls_mono hls (by omega), fun r d4 hd4 => ?_⟩
    walk_at "r"
    walk_at "k"
    refine ⟨tops.length, _, _, ls, es, sts, rfl, ls_mono hls (by omega), ks hes, by omega, hsts, ?_⟩
    walk_at "r"
    walk_at "k"
    refine ⟨_, _, rfl, hd4, by rw [natD_len]; omega, by rw [natD_len]; omega, fun kk d5 h1 h2 hd5 => ?_⟩
    obtain ⟨kk, rfl⟩ := Int.eq_ofNat_of_zero_le h1
    have hkk : kk < tops.length := by rw [natD_len] at h2; omega
    walk_at "r"
    walk_at "k"
    refine ⟨_, ls, tops, st, kk, 60, rfl, hd5, ht, hs, hls, by omega, hkk, fun ls' d6 hls' hd6 => ?_⟩
    walk_at "r"
    refine LcP.fixed (fun y => match y with
      | .tuple [.int j, b, c] => if decide (j.toNat ≠ kk) = true then [.tuple [.int j, b, c]] else []
      | _ => []) (fun y => by split <;> (try split) <;> simp) (by rw [effD_len]; have := hes.1; omega) ?_ ?_
    · intro j y acc Pn hy hacc hP
      obtain ⟨e, he, rfl⟩ := map_get hy
      walk_at "r"
      refine And.intro (.inl rfl) ?_
      walk_at "1"
      rw [eqv_nat]
      dsimp only [Int.toNat_natCast] at hP
      by_cases h : e.1 = kk
      · refine itF (by simp [h]) ?_
        rw [if_neg (by simp [h]), List.append_nil] at hP
        exact hP
      · refine itT (by simp [h]) ?_
        rw [if_pos (by simp [h])] at hP
        exact ⟨_, _, rfl, hacc, hP⟩
    rw [filter_eff es _ (fun v => decide (v ≠ kk)) fun v => rfl]
    have hes' : KsOk tops.length (es.filter fun q => decide (q.1 ≠ kk)) := ⟨Nat.le_trans (List.length_filter_le _ _) hes.1, (List.filter_sublist.map _).nodup hes.2.1, fun e he => (ks hes).2.2 e (List.mem_filter.mp he).1⟩
    walk_at "r"
    walk_at "k"
    refine ⟨_, _, tops.length, ls', _, rfl, hd6, ls_mono hls' (by omega), fun r d7 hd7 => ?_⟩
    walk_at "r"
    walk_at "k"
    refine ⟨tops.length, _, _, ls', _, sts, rfl, ls_mono hls' (by omega), hes', by omega, hsts, ?_⟩
    walk_at "1"
    exact ⟨d7, _, _, _, rfl, hd7⟩
  · rintro ρ2 ⟨d2, e4, e5, e6, rfl, hd2⟩
    walk_at "r"
    walk_at "k"
    refine ⟨tops.length, _, _, [], [], sts, rfl, ⟨by simp, by simp⟩, ⟨by simp, by simp, by simp⟩, by omega, hsts, ?_⟩
    walk_at "e"
    exact hk d2 hd2
/-- _law_chain_agrees(d, tops, state) -/
@[reducible] def w__law_chain_agrees : WS := (wSeq (wSet 3 (wVar 2))
    (wSeq (wFor (wRg1 (wCons (wOp gAddA (wC (.int 2)) (wCall0 [.m, .v] S__law_draw (wCons (wVar 0) (wCons (wC (.int 5)) wNil)))) wNil)) (gNm 4)
    (wSeq (wSet 5 (wCall0 [.m, .v, .v] S__law_deed_lists (wCons (wVar 0) (wCons (wVar 1) (wCons (wVar 2) wNil)))))
    (wSeq (wSet 6 (wCall0 [.m, .v, .v] S__law_made (wCons (wVar 0) (wCons (wC (.str "step")) (wCons (wVar 5) wNil)))))
    (wSeq (wIfS (wTst (wOp gNotA (wCall0 [.v, .v] S_can (wCons (wVar 6) (wCons (wVar 3) wNil))) (wC (.bool true))))
    (wRet (wC (.bool false)))
    wNext)
    (wSeq (wSet 3 (wCall0 [.v, .v] S_after (wCons (wVar 6) (wCons (wVar 3) wNil))))
    (wSeq (wSet 2 (wCall0 [.v, .v] S__law_behind (wCons (wOp gIx (wVar 5) (wC (.int 1))) (wCons (wVar 2) wNil))))
    (wIfS (wNot (wTst (wCall0 [.v, .v] (S__law_same 2) (wCons (wVar 3) (wCons (wVar 2) wNil)))))
    (wRet (wC (.bool false)))
    wNext)))))))
    (wRet (wC (.bool true)))))
theorem hw__law_chain_agrees : ∀ xs as k kx, S__law_chain_agrees xs k kx → as.length = nM [.m, .v, .v] → w__law_chain_agrees (wdV [.m, .v, .v] as k (fun _ _ => False)) (ent [.m, .v, .v] xs as 7) := by
  rintro xs as k kx ⟨d, tops, st, rfl, hd, ht, hs, hk⟩ ha
  obtain ⟨a, rfl⟩ := as1 ha
  have sz : sizeLine = 2 ^ 24 := rfl
  have tl2 := ht.2.1
  walk_at "r"
  walk_at "k"
  refine ⟨_, _, rfl, hd, by omega, by omega, fun r d1 h1 h2 hd1 => ?_⟩
  walk_at "r"
  refine ForP.inv (fun i ρ => ∃ (d' : PyData) (st : List Nat) (e4 e5 e6 : En), ρ = [.io a d', .val (.tuple (natD tops)), .val (.tuple (natD st)), .val (.tuple (natD st)), e4, e5, e6] ∧ DOk d' ∧ StOk tops st) ⟨d1, st, _, _, _, rfl, hd1, hs⟩ ?_ ?_
  · rintro i x ρ2 hi ⟨d2, st, e4, e5, e6, rfl, hd2, hs⟩
    have hs0 := hs.1
    walk_at "k"
    refine ⟨_, tops, st, rfl, hd2, ht, hs, fun ls es d3 hls hes hlet hd3 => ?_⟩
    walk_at "1"
    walk_at "k"
    refine ⟨_, _, tops.length, ls, effD es, rfl, hd3, ls_mono hls (by omega), fun r d4 hd4 => ?_⟩
    walk_at "1"
    walk_at "k"
    refine ⟨_, _, _, _, mkLim ls, st, rfl, .inr rfl, fun q hq => ?_, ?_⟩
    · obtain ⟨q', hq', rfl⟩ := List.mem_map.mp hq
      rw [hs0]; exact (hls.2 q' hq').1
    rw [holds_isLet hls, hlet]
    walk_at "r"
    have e0 : natD st = (st.map fun v => ((v : Nat) : Int)).map PyData.int := natD_int st
    obtain ⟨st', he, hs'⟩ := beh_state hs hes
    walk_at "k"
    refine ⟨_, _, _, _, es, st.map fun v => ((v : Nat) : Int), by rw [e0], .inr rfl, fun e he => ?_, ?_⟩
    · obtain ⟨t, s, q1, _⟩ := hes.2.2 e he
      rw [List.length_map, hs0]
      exact (List.getElem?_eq_some_iff.mp q1).1
    rw [appl_beh hes.2.1, he]
    walk_at "r"
    walk_at "k"
    refine ⟨_, es, st.map fun v => ((v : Nat) : Int), by rw [e0], .inl rfl, by have := hes.1; omega, by rw [List.length_map]; omega, ?_⟩
    rw [he]
    walk_at "r"
    walk_at "k"
    refine ⟨_, rfl, plain2i _ (by rw [List.length_map]; have := hs'.1; omega), ?_⟩
    walk_at "1"
    exact ⟨d4, st', _, _, _, by rw [natD_int st']; rfl, hd4, hs'⟩
  · rintro ρ2 ⟨d2, st, e4, e5, e6, rfl, hd2, hs⟩
    walk_at "e"
    exact hk d2 hd2
/-- law, behind its first statement -/
@[reducible] def w_law : WS := (wSeq (wSet 2 (wCall0 [.m] S__law_tops (wCons (wVar 1) wNil)))
    (wSeq (wSet 3 (wCB gTuple (wCons (wOf (wLc [13] (wSq (wVar 2)) (gNm 13) wYes (wCall0 [.m, .v] S__law_draw (wCons (wVar 1) (wCons (wOp gAddA (wVar 13) (wC (.int 1))) wNil))))) wNil)))
    (wSeq (wSet 4 (wCall0 [.m, .v, .v] S__law_near (wCons (wVar 1) (wCons (wVar 2) (wCons (wVar 3) wNil)))))
    (wSeq (wSet 5 (wCall0 [.m, .v, .v] S__law_deed_lists (wCons (wVar 1) (wCons (wVar 2) (wCons (wVar 3) wNil)))))
    (wSeq (wSet 6 (wCall0 [.m, .v, .v] S__law_made (wCons (wVar 1) (wCons (wC (.str "first")) (wCons (wVar 5) wNil)))))
    (wSeq (wIfS (wOr (wTst (wOp gNotA (wCall0 [.v, .v] S_can (wCons (wVar 6) (wCons (wVar 3) wNil))) (wC (.bool true)))) (wNot (wTst (wCall0 [.v, .v] (S__law_same 2) (wCons (wCall0 [.v, .v] S_after (wCons (wVar 6) (wCons (wVar 3) wNil))) (wCons (wCall0 [.v, .v] S__law_behind (wCons (wOp gIx (wVar 5) (wC (.int 1))) (wCons (wVar 3) wNil))) wNil))))))
    (wRet (wC (.bool false)))
    wNext)
    (wSeq (wFor (wRg1 (wCons (wC (.int 2)) wNil)) (gNm 7)
    (wSeq (wSet 8 (wCall0 [.m, .v, .v] S__law_lists (wCons (wVar 1) (wCons (wVar 2) (wCons (wVar 3) wNil)))))
    (wSeq (wSet 9 (wCall0 [.m, .v] S__law_draw (wCons (wVar 1) (wCons (wCB gLen (wCons (wVar 2) wNil)) wNil))))
    (wSeq (wSet 10 (wCall0 [.m, .v, .v, .v, .v] S__law_without (wCons (wVar 1) (wCons (wVar 8) (wCons (wVar 2) (wCons (wVar 3) (wCons (wVar 9) wNil)))))))
    (wSeq (wSetV 11 (wOpN gCat (wOf (wOpN gCat (wOf (wLc [12] (wSq (wVar 8)) (gNm 12) (wTst (wOp gLt (wOp gIx (wVar 12) (wC (.int 0))) (wVar 9))) (wVar 12))) (wOf (wLst (wCons (wTup (wCons (wVar 9) (wCons (wOf (wLst wNil)) wNil))) wNil))))) (wOf (wLc [12] (wSq (wVar 8)) (gNm 12) (wTst (wOp gGt (wOp gIx (wVar 12) (wC (.int 0))) (wVar 9))) (wVar 12)))))
    (wFor (wSq (wOf (wLst (wCons (wVar 8) (wCons (wVar 10) (wCons (wVar 11) (wCons (wOf (wLst wNil)) wNil))))))) (gNm 12)
    (wIfS (wNot (wTst (wCall0 [.v, .v] S__law_limits_agree (wCons (wVar 12) (wCons (wVar 4) wNil)))))
    (wRet (wC (.bool false)))
    wNext)))))))
    (wSeq (wIfS (wOr (wNot (wTst (wCall0 [.m, .v, .v, .v] S__law_deeds_agree (wCons (wVar 1) (wCons (wVar 2) (wCons (wVar 3) (wCons (wVar 4) wNil))))))) (wNot (wTst (wCall0 [.m, .v, .v] S__law_chain_agrees (wCons (wVar 1) (wCons (wVar 2) (wCons (wVar 3) wNil)))))))
    (wRet (wC (.bool false)))
    wNext)
    (wRet (wAndV (wOp gIsA (wCall0 [.v, .v] S_can (wCons (wVar 6) (wCons (wVar 3) wNil))) (wC (.bool true))) (wCall0 [.v, .v] (S__law_same 2) (wCons (wCall0 [.v, .v] S_after (wCons (wVar 6) (wCons (wVar 3) wNil))) (wCons (wCall0 [.v, .v] S__law_behind (wCons (wOp gIx (wVar 5) (wC (.int 1))) (wCons (wVar 3) wNil))) wNil)))))))))))))
theorem hw_law : ∀ (v : V) (p : Addr) (ns : List Int), ns.length ≤ 63 → w_law wdL (.obj v :: .own p (draw0 ns) :: List.replicate 12 .no) := by
  intro v p ns hns
  have hd : DOk (draw0 ns) := ⟨ns, 0, 0, 7, rfl, by omega, by omega, by omega⟩
  have sz : sizeLine = 2 ^ 24 := rfl
  walk_at "k"
  refine ⟨_, rfl, hd, fun tops d1 ht hd1 => ?_⟩
  have tl := ht.1
  have tl2 := ht.2.1
  walk_at "r"
  refine LcP.inv (fun j acc ρ => ∃ d', ρ = [.obj v, .own p d', .val (.tuple (natD tops)), .no, .no, .no, .no, .no, .no, .no, .no, .no, .no, .no] ∧ DOk d' ∧ ∃ ss, acc = natD ss ∧ ss.length = j ∧ ∀ (k : Nat) t s, tops[k]? = some t → ss[k]? = some s → s ≤ t) ⟨d1, rfl, hd1, [], rfl, rfl, by simp⟩ ?_ ?_
  · rintro j y acc ρ2 hy ⟨d3, rfl, hd3, ss, rfl, hsl, hss⟩
    obtain ⟨t, hv, rfl⟩ := natD_get hy
    have hv1 := (List.getElem?_eq_some_iff.mp hv).1
    have hv2 := ht.2.2 t (List.mem_of_getElem? hv)
    walk_at "r"
    walk_at "k"
    refine ⟨_, _, rfl, hd3, by omega, by omega, fun r d4 h1 h2 hd4 => ?_⟩
    obtain ⟨r, rfl⟩ := Int.eq_ofNat_of_zero_le h1
    refine ⟨_, _, rfl, by rw [natD_len]; omega, d4, rfl, hd4, ss ++ [r], by unfold natD; rw [List.map_append]; rfl, by simp [hsl], fun k t' s h3 h4 => ?_⟩
    by_cases hk : k < ss.length
    · rw [List.getElem?_append_left hk] at h4
      exact hss k t' s h3 h4
    · rw [List.getElem?_append_right (by omega)] at h4
      have hk2 : k - ss.length = 0 := by
        have := (List.getElem?_eq_some_iff.mp h4).1
        simp at this
        omega
      rw [hk2] at h4
      cases h4
      have : k = j := by omega
      subst this
      rw [hv] at h3
      cases h3
      omega
  rintro acc ρ2 ⟨d2, rfl, hd2, st, rfl, hsl, hss⟩
  rw [natD_len] at hsl
  have hs : StOk tops st := ⟨hsl, hss⟩
  walk_at "r"
  walk_at "k"
  refine ⟨_, tops, st, rfl, hd2, ht, hs, fun sts d3 hsts hd3 => ?_⟩
  walk_at "1"
  walk_at "k"
  refine ⟨_, tops, st, rfl, hd3, ht, hs, fun ls es d4 hls hes hlet hd4 => ?_⟩
  walk_at "1"
  walk_at "k"
  refine ⟨_, _, tops.length, ls, effD es, rfl, hd4, ls_mono hls (by omega), fun r d5 hd5 => ?_⟩
  have hkey : ∀ e ∈ es, e.1 < (st.map fun v => ((v : Nat) : Int)).length := fun e he => by
    obtain ⟨t, s, q1, _⟩ := hes.2.2 e he
    rw [List.length_map, hsl]
    exact (List.getElem?_eq_some_iff.mp q1).1
  have hlk : ∀ q ∈ mkLim ls, q.1 < st.length := fun q hq => by
    obtain ⟨q', hq', rfl⟩ := List.mem_map.mp hq
    rw [hsl]; exact (hls.2 q' hq').1
  have e0 : natD st = (st.map fun v => ((v : Nat) : Int)).map PyData.int := natD_int st
  walk_at "1"
  walk_at "k"
  refine ⟨_, _, _, _, mkLim ls, st, rfl, .inr rfl, hlk, ?_⟩
  rw [holds_isLet hls, hlet]
  walk_at "r"
  walk_at "k"
  refine ⟨_, _, _, _, es, st.map fun v => ((v : Nat) : Int), by rw [e0], .inr rfl, hkey, ?_⟩
  walk_at "r"
  walk_at "k"
  refine ⟨_, es, st.map fun v => ((v : Nat) : Int), by rw [e0], .inl rfl, by have := hes.1; omega, by rw [List.length_map]; omega, ?_⟩
  walk_at "k"
  rw [appl_beh hes.2.1]
  refine ⟨_, rfl, plain2i _ (by rw [beh_len, List.length_map]; omega), ?_⟩
  walk_at "r"
  refine ForP.inv (fun i ρ => ∃ (d' : PyData) (e7 e8 e9 e10 e11 e12 e13 : En), ρ = [.obj v, .own p d', .val (.tuple (natD tops)), .val (.tuple (natD st)), .val (.list (stsD sts)), .val (.tuple [.list (rowsD ls), .list (effD es)]), .val (.tuple [.str "first", .int r, .tuple (limD (mkLim ls)), .tuple (effD es)]), e7, e8, e9, e10, e11, e12, e13] ∧ DOk d') ⟨d5, _, _, _, _, _, _, _, rfl, hd5⟩ ?_ ?_
  · rintro i x ρ2 hi ⟨d6, e7, e8, e9, e10, e11, e12, e13, rfl, hd6⟩
    walk_at "k"
    refine ⟨_, tops, st, rfl, hd6, ht, hs, fun ls1 d7 hl1 hd7 => ?_⟩
    walk_at "r"
    walk_at "k"
    refine ⟨_, _, rfl, hd7, by rw [natD_len]; omega, by rw [natD_len]; omega, fun kk d8 h1 h2 hd8 => ?_⟩
    obtain ⟨kk, rfl⟩ := Int.eq_ofNat_of_zero_le h1
    have hkk : kk < tops.length := by rw [natD_len] at h2; omega
    walk_at "1"
    walk_at "k"
    refine ⟨_, ls1, tops, st, kk, 30, rfl, hd8, ht, hs, hl1, by omega, hkk, fun ls2 d9 hl2 hd9 => ?_⟩
    walk_at "r"
    have hll := hl1.1
    refine LcP.fixed (fun y => match y with
      | .tuple [.int j, b] => if decide (j.toNat < kk) = true then [y] else []
      | _ => []) (fun y => by split <;> (try split) <;> simp) (by rw [rowsD_len]; omega) ?_ ?_
    · intro j y acc Pn hy hacc hP
      obtain ⟨q, hq, rfl⟩ := map_get hy
      walk_at "r"
      dsimp only [Int.toNat_natCast] at hP
      refine itD (fun h => ?_) (fun h => ?_)
      · rw [if_pos (decide_eq_true (by omega))] at hP
        exact ⟨_, _, rfl, hacc, hP⟩
      · rw [if_neg (by rw [decide_eq_true_eq]; omega), List.append_nil] at hP
        exact hP
    rw [filter_rows ls1 _ (fun v => decide (v < kk)) fun v => rfl]
    have f1 := ls_filter hl1 fun v => decide (v < kk)
    walk_at "r"
    refine And.intro (by rw [rowsD_len]; have := f1.1; show _ + 1 ≤ _; omega) ?_
    walk_at "r"
    refine LcP.fixed (fun y => match y with
      | .tuple [.int j, b] => if decide (kk < j.toNat) = true then [y] else []
      | _ => []) (fun y => by split <;> (try split) <;> simp) (by rw [rowsD_len]; omega) ?_ ?_
    · intro j y acc Pn hy hacc hP
      obtain ⟨q, hq, rfl⟩ := map_get hy
      walk_at "r"
      dsimp only [Int.toNat_natCast] at hP
      refine itD (fun h => ?_) (fun h => ?_)
      · rw [if_pos (decide_eq_true (by omega))] at hP
        exact ⟨_, _, rfl, hacc, hP⟩
      · rw [if_neg (by rw [decide_eq_true_eq]; omega), List.append_nil] at hP
        exact hP
    rw [filter_rows ls1 _ (fun v => decide (kk < v)) fun v => rfl]
    have f2 := ls_filter hl1 fun v => decide (kk < v)
    have f3 : LsOk tops.length (30 + 1) (ls1.filter (fun q => decide (q.1 < kk)) ++ [(kk, [])]) := ls_app f1 hkk .nil (by simp)
    walk_at "2"
    refine And.intro (by rw [List.length_append, rowsD_len, rowsD_len]; have := f1.1; have := f2.1; show _ + 1 + _ ≤ _; omega) ?_
    have e : rowsD (ls1.filter fun q => decide (q.1 < kk)) ++ [.tuple [.int ((kk : Nat) : Int), .list []]] ++ rowsD (ls1.filter fun q => decide (kk < q.1)) = rowsD ((ls1.filter (fun q => decide (q.1 < kk)) ++ [(kk, [])]) ++ ls1.filter fun q => decide (kk < q.1)) := by
      rw [rowsD_app, rowsD_app]; rfl
    rw [e]
    have f4 : LsOk tops.length 10000 ((ls1.filter (fun q => decide (q.1 < kk)) ++ [(kk, [])]) ++ ls1.filter fun q => decide (kk < q.1)) := ⟨by rw [List.length_append]; have := f3.1; have := f2.1; omega, fun q hq => by
      rcases List.mem_append.mp hq with z | z
      · exact f3.2 q z
      · exact f2.2 q z⟩
    generalize (ls1.filter (fun q => decide (q.1 < kk)) ++ [(kk, [])]) ++ ls1.filter (fun q => decide (kk < q.1)) = ls3 at *
    walk_at "r"
    refine ForP.inv (fun i ρ => ∃ e12, ρ = [.obj v, .own p d9, .val (.tuple (natD tops)), .val (.tuple (natD st)), .val (.list (stsD sts)), .val (.tuple [.list (rowsD ls), .list (effD es)]), .val (.tuple [.str "first", .int r, .tuple (limD (mkLim ls)), .tuple (effD es)]), .val x, .val (.list (rowsD ls1)), .val (.int ((kk : Nat) : Int)), .val (.list (rowsD ls2)), .val (.list (rowsD ls3)), e12, e13]) ⟨_, rfl⟩ ?_ ?_
    · rintro i2 y ρ2 hi2 ⟨e12, rfl⟩
      have hy : ∃ l, y = .list (rowsD l) ∧ LsOk tops.length 10000 l := by
        have := List.mem_of_getElem? hi2
        simp only [List.mem_cons, List.not_mem_nil, or_false] at this
        rcases this with rfl | rfl | rfl | rfl
        · exact ⟨ls1, rfl, ls_mono hl1 (by omega)⟩
        · exact ⟨ls2, rfl, ls_mono hl2 (by omega)⟩
        · exact ⟨ls3, rfl, f4⟩
        · exact ⟨[], rfl, by simp, by simp⟩
      obtain ⟨l, rfl, hl⟩ := hy
      walk_at "k"
      refine ⟨tops.length, l, sts, rfl, hl, hsts, ?_⟩
      walk_at "1"
      exact ⟨_, rfl⟩
    · rintro ρ2 ⟨e12, rfl⟩
      exact ⟨d9, _, _, _, _, _, _, _, rfl, hd9⟩
  · rintro ρ2 ⟨d6, e7, e8, e9, e10, e11, e12, e13, rfl, hd6⟩
    walk_at "k"
    refine ⟨_, tops, st, sts, rfl, hd6, ht, hs, hsts, fun d7 hd7 => ?_⟩
    walk_at "r"
    walk_at "k"
    refine ⟨_, tops, st, rfl, hd7, ht, hs, fun d8 hd8 => ?_⟩
    walk_at "r"
    walk_at "k"
    refine ⟨_, _, _, _, mkLim ls, st, rfl, .inr rfl, hlk, ?_⟩
    rw [holds_isLet hls, hlet]
    walk_at "r"
    walk_at "k"
    refine ⟨_, _, _, _, es, st.map fun v => ((v : Nat) : Int), by rw [e0], .inr rfl, hkey, ?_⟩
    walk_at "r"
    walk_at "k"
    refine ⟨_, es, st.map fun v => ((v : Nat) : Int), by rw [e0], .inl rfl, by have := hes.1; omega, by rw [List.length_map]; omega, ?_⟩
    walk_at "k"
    rw [appl_beh hes.2.1]
    refine ⟨_, rfl, plain2i _ (by rw [beh_len, List.length_map]; omega), ?_⟩
    rfl
end K17

set_option maxHeartbeats 4000000
namespace K17
open PySem PySem.Spec PyProof.Rows L2 LB

/-! ### the text -/
def topS (i : Nat) : Stmt := PySem.Challenge.pw_deedoath_k17_acts_done.main.body.getD i (.Pass ⟨0, 0, 0, 0⟩)
abbrev s_holds : Stmt := topS 1
theorem sc_holds : FnScope ["limits", "state", "dial", "mask"] ["limits", "state"] (defScope s_holds) := ⟨rfl, rfl, rfl, by decide +kernel, rfl, by decide +kernel, by decide +kernel⟩
abbrev s_can : Stmt := topS 2
theorem sc_can : FnScope ["act", "state"] ["act", "state"] (defScope s_can) := ⟨rfl, rfl, rfl, by decide +kernel, rfl, by decide +kernel, by decide +kernel⟩
abbrev s_after : Stmt := topS 3
theorem sc_after : FnScope ["act", "state", "values", "dial", "way", "number"] ["act", "state"] (defScope s_after) := ⟨rfl, rfl, rfl, by decide +kernel, rfl, by decide +kernel, by decide +kernel⟩
abbrev s__law_begin : Stmt := topS 5
theorem sc__law_begin : FnScope ["script", "cell"] ["script"] (defScope s__law_begin) := ⟨rfl, rfl, rfl, by decide +kernel, rfl, by decide +kernel, by decide +kernel⟩
abbrev s__law_draw : Stmt := topS 6
theorem sc__law_draw : FnScope ["d", "many", "found", "size", "cell"] ["d", "many"] (defScope s__law_draw) := ⟨rfl, rfl, rfl, by decide +kernel, rfl, by decide +kernel, by decide +kernel⟩
abbrev s__law_pick : Stmt := topS 7
theorem sc__law_pick : FnScope ["d", "row"] ["d", "row"] (defScope s__law_pick) := ⟨rfl, rfl, rfl, by decide +kernel, rfl, by decide +kernel, by decide +kernel⟩
abbrev s__law_rare : Stmt := topS 8
theorem sc__law_rare : FnScope ["d", "many"] ["d", "many"] (defScope s__law_rare) := ⟨rfl, rfl, rfl, by decide +kernel, rfl, by decide +kernel, by decide +kernel⟩
abbrev s__law_is_int : Stmt := topS 9
theorem sc__law_is_int : FnScope ["thing"] ["thing"] (defScope s__law_is_int) := ⟨rfl, rfl, rfl, by decide +kernel, rfl, by decide +kernel, by decide +kernel⟩
abbrev s__law_same : Stmt := topS 10
theorem sc__law_same : FnScope ["one", "other", "k"] ["one", "other"] (defScope s__law_same) := ⟨rfl, rfl, rfl, by decide +kernel, rfl, by decide +kernel, by decide +kernel⟩
abbrev s__law_mask : Stmt := topS 11
theorem sc__law_mask : FnScope ["values", "v"] ["values"] (defScope s__law_mask) := ⟨rfl, rfl, rfl, by decide +kernel, rfl, by decide +kernel, by decide +kernel⟩
abbrev s__law_tops : Stmt := topS 12
theorem sc__law_tops : FnScope ["d", "many", "menu", "k"] ["d"] (defScope s__law_tops) := ⟨rfl, rfl, rfl, by decide +kernel, rfl, by decide +kernel, by decide +kernel⟩
abbrev s__law_values : Stmt := topS 13
theorem sc__law_values : FnScope ["d", "allowed", "top", "sure", "found", "v"] ["d", "allowed", "top", "sure"] (defScope s__law_values) := ⟨rfl, rfl, rfl, by decide +kernel, rfl, by decide +kernel, by decide +kernel⟩
abbrev s__law_lists : Stmt := topS 14
theorem sc__law_lists : FnScope ["d", "tops", "state", "found", "k"] ["d", "tops", "state"] (defScope s__law_lists) := ⟨rfl, rfl, rfl, by decide +kernel, rfl, by decide +kernel, by decide +kernel⟩
abbrev s__law_without : Stmt := topS 15
theorem sc__law_without : FnScope ["d", "lists", "tops", "state", "k", "values", "row", "low", "v", "one"] ["d", "lists", "tops", "state", "k"] (defScope s__law_without) := ⟨rfl, rfl, rfl, by decide +kernel, rfl, by decide +kernel, by decide +kernel⟩
abbrev s__law_masks : Stmt := topS 16
theorem sc__law_masks : FnScope ["lists", "row"] ["lists"] (defScope s__law_masks) := ⟨rfl, rfl, rfl, by decide +kernel, rfl, by decide +kernel, by decide +kernel⟩
abbrev s__law_is_let : Stmt := topS 17
theorem sc__law_is_let : FnScope ["lists", "state", "row"] ["lists", "state"] (defScope s__law_is_let) := ⟨rfl, rfl, rfl, by decide +kernel, rfl, by decide +kernel, by decide +kernel⟩
abbrev s__law_deed_lists : Stmt := topS 18
theorem sc__law_deed_lists : FnScope ["d", "tops", "state", "lists", "effects", "k", "top", "way", "there", "step", "allowed", "v"] ["d", "tops", "state"] (defScope s__law_deed_lists) := ⟨rfl, rfl, rfl, by decide +kernel, rfl, by decide +kernel, by decide +kernel⟩
abbrev s__law_behind : Stmt := topS 19
theorem sc__law_behind : FnScope ["effects", "state", "values", "k", "rows", "row"] ["effects", "state"] (defScope s__law_behind) := ⟨rfl, rfl, rfl, by decide +kernel, rfl, by decide +kernel, by decide +kernel⟩
abbrev s__law_near : Stmt := topS 20
theorem sc__law_near : FnScope ["d", "tops", "state", "found", "k", "turn", "v", "top"] ["d", "tops", "state"] (defScope s__law_near) := ⟨rfl, rfl, rfl, by decide +kernel, rfl, by decide +kernel, by decide +kernel⟩
abbrev s__law_limits_agree : Stmt := topS 21
theorem sc__law_limits_agree : FnScope ["lists", "states", "limits", "state", "told"] ["lists", "states"] (defScope s__law_limits_agree) := ⟨rfl, rfl, rfl, by decide +kernel, rfl, by decide +kernel, by decide +kernel⟩
abbrev s__law_act_agrees : Stmt := topS 22
theorem sc__law_act_agrees : FnScope ["act", "lists", "states", "state", "due", "told"] ["act", "lists", "states"] (defScope s__law_act_agrees) := ⟨rfl, rfl, rfl, by decide +kernel, rfl, by decide +kernel, by decide +kernel⟩
abbrev s__law_made : Stmt := topS 23
theorem sc__law_made : FnScope ["d", "name", "row"] ["d", "name", "row"] (defScope s__law_made) := ⟨rfl, rfl, rfl, by decide +kernel, rfl, by decide +kernel, by decide +kernel⟩
abbrev s__law_deeds_agree : Stmt := topS 24
theorem sc__law_deeds_agree : FnScope ["d", "tops", "state", "states", "turn", "row", "k", "one"] ["d", "tops", "state", "states"] (defScope s__law_deeds_agree) := ⟨rfl, rfl, rfl, by decide +kernel, rfl, by decide +kernel, by decide +kernel⟩
abbrev s__law_chain_agrees : Stmt := topS 25
theorem sc__law_chain_agrees : FnScope ["d", "tops", "state", "seen", "turn", "row", "act"] ["d", "tops", "state"] (defScope s__law_chain_agrees) := ⟨rfl, rfl, rfl, by decide +kernel, rfl, by decide +kernel, by decide +kernel⟩
abbrev s_law : Stmt := topS 26
theorem sc_law : FnScope ["script", "d", "tops", "state", "states", "row", "first", "turn", "lists", "k", "less", "none", "one", "top"] ["script"] (defScope s_law) := ⟨rfl, rfl, rfl, by decide +kernel, rfl, by decide +kernel, by decide +kernel⟩
/-- the built-ins' names are not stored by the text -/
structure Txt (mg : Str → Option Value) : Prop where
  b_abs : mg "abs" = none
  b_bool : mg "bool" = none
  b_int : mg "int" = none
  b_isinstance : mg "isinstance" = none
  b_len : mg "len" = none
  b_list : mg "list" = none
  b_range : mg "range" = none
  b_str : mg "str" = none
  b_sum : mg "sum" = none
  b_tuple : mg "tuple" = none
theorem ok_holds {P : Program} {w : World} {K : PySem.W.Frag} {mg : Str → Option Value} {base : Heap} {f : Addr} {fd : FuncData} (F : Fun K "holds" "holds" s_holds f fd) (T : Txt mg) : FnOk P w K mg base CX0 1 f fd ["limits", "state"] (spV K [.v, .v] S_holds) :=
  fnV (k := 1 - 1) (ws := w_holds) F sc_holds rfl (fun cdv A outer s H E hr => (bss_cons (bs_for PassesOwn.never rfl (bi_seq (be_pv (pv 0))) (bg_tup rfl (bgs_cons (bg_name (pg_name (i := 2) sc_holds.nd rfl (by first | exact Or.inl rfl | exact Or.inr rfl))) (bgs_cons (bg_name (pg_name (i := 3) sc_holds.nd rfl (by first | exact Or.inl rfl | exact Or.inr rfl))) bgs_nil)))
    (bss_one (bs_if (bt_cmp (od_eq hr.units) (be_op od_and (be_op od_shr (be_pv (pv 3)) (be_ix (be_pv (pv 1)) (be_pv (pv 2)))) be_int) be_int (nomark _))
    (bss_one (bs_ret be_bl))
    bss_nil)))
    (bss_one (bs_ret be_bl)))) (hw_holds)
theorem ok_can {P : Program} {w : World} {K : PySem.W.Frag} {mg : Str → Option Value} {base : Heap} {f : Addr} {fd : FuncData} (F : Fun K "can" "can" s_can f fd) (T : Txt mg) (C_holds : Cal P w K mg base CX0 1 "holds" ["limits", "state"] (spV K [.v, .v] S_holds)) : FnOk P w K mg base CX0 2 f fd ["act", "state"] (spV K [.v, .v] S_can) :=
  fnV (k := 2 - 1) (ws := w_can) F sc_can rfl (fun cdv A outer s H E hr => (bss_one (bs_ret (be_call (fun h => C_holds.pe (hr.mono (by decide)) (by rfl) h) (ba_cons (be_ix (be_pv (pv 0)) be_int) (ba_cons (be_pv (pv 1)) ba_nil)))))) (hw_can)
theorem ok_after {P : Program} {w : World} {K : PySem.W.Frag} {mg : Str → Option Value} {base : Heap} {f : Addr} {fd : FuncData} (F : Fun K "after" "after" s_after f fd) (T : Txt mg) : FnOk P w K mg base CX0 1 f fd ["act", "state"] (spV K [.v, .v] S_after) :=
  fnV (k := 1 - 1) (ws := w_after) F sc_after rfl (fun cdv A outer s H E hr => (bss_cons (bs_setN (fun h => ps_set (i := 2) sc_after.nd rfl (Or.inl rfl) h) (bn_callTy cn_list (by rfl) T.b_list boot_list (ba_cons (be_pv (pv 1)) ba_nil)))
    (bss_cons (bs_for PassesOwn.never rfl (bi_seq (be_ix (be_pv (pv 0)) be_int)) (bg_tup rfl (bgs_cons (bg_name (pg_name (i := 3) sc_after.nd rfl (by first | exact Or.inl rfl | exact Or.inr rfl))) (bgs_cons (bg_name (pg_name (i := 4) sc_after.nd rfl (by first | exact Or.inl rfl | exact Or.inr rfl))) (bgs_cons (bg_name (pg_name (i := 5) sc_after.nd rfl (by first | exact Or.inl rfl | exact Or.inr rfl))) bgs_nil))))
    (bss_one (bs_if (bt_cmp (od_eq hr.units) (be_pv (pv 4)) be_str (nomark _))
    (bss_one (bs_item (fun h1 h2 h3 h4 => ps_asg h1 (pg_sub h2 h3 h4)) (be_pv (pv 5)) (pv 2) (be_pv (pv 3))))
    (bss_one (bs_item (fun h1 h2 h3 h4 => ps_asg h1 (pg_sub h2 h3 h4)) (be_op od_addA (be_ix (be_pv (pv 2)) (be_pv (pv 3))) (be_pv (pv 5))) (pv 2) (be_pv (pv 3)))))))
    (bss_one (bs_ret (be_callTy cd_tuple (by rfl) T.b_tuple boot_tuple (ba_cons (be_pv (pv 2)) ba_nil))))))) (hw_after)
theorem ok__law_draw {P : Program} {w : World} {K : PySem.W.Frag} {mg : Str → Option Value} {base : Heap} {f : Addr} {fd : FuncData} (F : Fun K "_law_draw" "_law_draw" s__law_draw f fd) (T : Txt mg) : FnOk P w K mg base CX0 1 f fd ["d", "many"] (spV K [.m, .v] S__law_draw) :=
  fnV (k := 1 - 1) (ws := w__law_draw) F sc__law_draw rfl (fun cdv A outer s H E hr => (bss_cons (bs_if (bt_cmp od_gt (be_ix (be_pv (pv 0)) be_int) be_int (nomark _))
    (bss_cons (bs_set (fun h => ps_set (i := 2) sc__law_draw.nd rfl (Or.inl rfl) h) (be_ix (be_pv (pv 0)) be_int))
    (bss_cons (bs_item (fun h1 h2 h3 h4 => ps_asg h1 (pg_sub h2 h3 h4)) (be_op od_fdiv (be_pv (pv 2)) (be_pv (pv 1))) (pv 0) be_int)
    (bss_one (bs_ret (be_op od_mod (be_callTy cd_int (by rfl) T.b_int boot_int (ba_cons (be_pv (pv 2)) ba_nil)) (be_pv (pv 1)))))))
    bss_nil)
    (bss_cons (bs_set (fun h => ps_set (i := 3) sc__law_draw.nd rfl (Or.inl rfl) h) be_int)
    (bss_cons (bs_if (bt_cmp od_lt (be_ix (be_pv (pv 0)) be_int) (be_callB cd_len (by rfl) T.b_len boot_len (ba_cons (be_ix (be_pv (pv 0)) be_int) ba_nil)) (nomark _))
    (bss_cons (bs_set (fun h => ps_set (i := 4) sc__law_draw.nd rfl (Or.inl rfl) h) (be_ix (be_ix (be_pv (pv 0)) be_int) (be_ix (be_pv (pv 0)) be_int)))
    (bss_one (bs_set (fun h => ps_set (i := 3) sc__law_draw.nd rfl (Or.inl rfl) h) (be_op od_addA (be_op od_mul be_int (be_callB cd_abs (by rfl) T.b_abs boot_abs (ba_cons (be_pv (pv 4)) ba_nil))) (be_callTy cd_int (by rfl) T.b_int boot_int (ba_cons (be_cmp od_lt (be_pv (pv 4)) be_int (nomark _)) ba_nil))))))
    bss_nil)
    (bss_cons (bs_augItem od_iadd (fun h1 h2 h3 h4 h5 h6 => ps_augS h1 h2 h3 h4 h5 h6) (pv 0) be_int be_int)
    (bss_cons (bs_if (bt_cmp od_ge (be_pv (pv 3)) (be_op od_mul be_int (be_op od_pow be_int be_int)) (nomark _))
    (bss_cons (bs_set (fun h => ps_set (i := 2) sc__law_draw.nd rfl (Or.inl rfl) h) (be_op od_mod (be_callTy cd_int (by rfl) T.b_int boot_int (ba_cons (be_op od_fdiv (be_pv (pv 3)) be_int) ba_nil)) (be_op od_shl be_int be_int)))
    (bss_cons (bs_item (fun h1 h2 h3 h4 => ps_asg h1 (pg_sub h2 h3 h4)) (be_op od_fdiv (be_pv (pv 2)) (be_pv (pv 1))) (pv 0) be_int)
    (bss_one (bs_ret (be_op od_mod (be_callTy cd_int (by rfl) T.b_int boot_int (ba_cons (be_pv (pv 2)) ba_nil)) (be_pv (pv 1)))))))
    bss_nil)
    (bss_cons (bs_item (fun h1 h2 h3 h4 => ps_asg h1 (pg_sub h2 h3 h4)) (be_op od_mod (be_callTy cd_int (by rfl) T.b_int boot_int (ba_cons (be_op od_addA (be_op od_addA (be_op od_addA (be_op od_mul (be_ix (be_pv (pv 0)) be_int) be_int) (be_op od_mul (be_op od_mod (be_callTy cd_int (by rfl) T.b_int boot_int (ba_cons (be_pv (pv 3)) ba_nil)) be_int) be_int)) (be_op od_mul (be_ix (be_pv (pv 0)) be_int) be_int)) be_int) ba_nil)) be_int) (pv 0) be_int)
    (bss_one (bs_ret (be_op od_mod (be_callTy cd_int (by rfl) T.b_int boot_int (ba_cons (be_op od_fdiv (be_ix (be_pv (pv 0)) be_int) be_int) ba_nil)) (be_pv (pv 1)))))))))))) (hw__law_draw)
theorem ok__law_pick {P : Program} {w : World} {K : PySem.W.Frag} {mg : Str → Option Value} {base : Heap} {f : Addr} {fd : FuncData} (F : Fun K "_law_pick" "_law_pick" s__law_pick f fd) (T : Txt mg) (C__law_draw : Cal P w K mg base CX0 1 "_law_draw" ["d", "many"] (spV K [.m, .v] S__law_draw)) : FnOk P w K mg base CX0 2 f fd ["d", "row"] (spV K [.m, .r] S__law_pick) :=
  fnV (k := 2 - 1) (ws := w__law_pick) F sc__law_pick rfl (fun cdv A outer s H E hr => (bss_one (bs_ret (be_ix (be_pv (pv 1)) (be_call (fun h => C__law_draw.pe (hr.mono (by decide)) (by rfl) h) (ba_cons (be_pv (pv 0)) (ba_cons (be_callB cd_len (by rfl) T.b_len boot_len (ba_cons (be_pv (pv 1)) ba_nil)) ba_nil))))))) (hw__law_pick)
theorem ok__law_rare {P : Program} {w : World} {K : PySem.W.Frag} {mg : Str → Option Value} {base : Heap} {f : Addr} {fd : FuncData} (F : Fun K "_law_rare" "_law_rare" s__law_rare f fd) (T : Txt mg) (C__law_draw : Cal P w K mg base CX0 1 "_law_draw" ["d", "many"] (spV K [.m, .v] S__law_draw)) : FnOk P w K mg base CX0 2 f fd ["d", "many"] (spV K [.m, .v] S__law_rare) :=
  fnV (k := 2 - 1) (ws := w__law_rare) F sc__law_rare rfl (fun cdv A outer s H E hr => (bss_one (bs_ret (be_cmp (od_eq hr.units) (be_call (fun h => C__law_draw.pe (hr.mono (by decide)) (by rfl) h) (ba_cons (be_pv (pv 0)) (ba_cons (be_pv (pv 1)) ba_nil))) (be_op od_fdiv (be_pv (pv 1)) be_int) (nomark _))))) (hw__law_rare)
theorem ok__law_is_int {P : Program} {w : World} {K : PySem.W.Frag} {mg : Str → Option Value} {base : Heap} {f : Addr} {fd : FuncData} (F : Fun K "_law_is_int" "_law_is_int" s__law_is_int f fd) (T : Txt mg) : FnOk P w K mg base CX0 1 f fd ["thing"] (spV K [.v] S__law_is_int) :=
  fnV (k := 1 - 1) (ws := w__law_is_int) F sc__law_is_int rfl (fun cdv A outer s H E hr => (bss_one (bs_ret (be_and (be_isi isT_int (by rfl) T.b_isinstance (be_pv (pv 0)) (pe_bltn (by rfl) T.b_int boot_int rfl)) (be_one (be_not (be_isi isT_bool (by rfl) T.b_isinstance (be_pv (pv 0)) (pe_bltn (by rfl) T.b_bool boot_bool rfl)))))))) (hw__law_is_int)
theorem ok__law_same {P : Program} {w : World} {K : PySem.W.Frag} {mg : Str → Option Value} {base : Heap} {f : Addr} {fd : FuncData} (n : Nat) (F : Fun K "_law_same" "_law_same" s__law_same f fd) (T : Txt mg) (C__law_is_int : Cal P w K mg base CX0 1 "_law_is_int" ["thing"] (spV K [.v] S__law_is_int)) (C__law_same : Cal P w K mg base CX0 (n + 2) "_law_same" ["one", "other"] (spV K [.v, .v] (S__law_same n))) : FnOk P w K mg base CX0 (n + 3) f fd ["one", "other"] (spV K [.v, .v] (S__law_same (n + 1))) :=
  fnV (k := (n + 3) - 1) (ws := w__law_same n) F sc__law_same rfl (fun cdv A outer s H E hr => (bss_cons (bs_if (bt_val (be_isi isT_tuple (by rfl) T.b_isinstance (be_pv (pv 0)) (pe_bltn (by rfl) T.b_tuple boot_tuple rfl)))
    (bss_cons (bs_if (bw_or (bt_not (bt_val (be_isi isT_tuple (by rfl) T.b_isinstance (be_pv (pv 1)) (pe_bltn (by rfl) T.b_tuple boot_tuple rfl)))) (bw_or1 (bt_cmp (od_ne hr.units) (be_callB cd_len (by rfl) T.b_len boot_len (ba_cons (be_pv (pv 0)) ba_nil)) (be_callB cd_len (by rfl) T.b_len boot_len (ba_cons (be_pv (pv 1)) ba_nil)) (nomark _)))).bt
    (bss_one (bs_ret be_bl))
    bss_nil)
    (bss_one (bs_ret (be_cmp (od_eq hr.units) (be_callB cd_len (by rfl) T.b_len boot_len (ba_cons ((bn_lc (by decide) (pe_lc (own := [("k", 2)]) rfl sc__law_same.nd (bi_range1 (by rfl) T.b_range (ba_cons (be_callB cd_len (by rfl) T.b_len boot_len (ba_cons (be_pv (pv 0)) ba_nil)) ba_nil)).pi (blkOk_by (own := [("k", 2)]) (N := ["one", "other", "k"]) (sc := defScope s__law_same) (by decide +kernel)) (fun _ _ _ _ _ => (bg_name (pg_name (i := 2) sc__law_same.nd rfl (by first | exact Or.inl rfl | exact Or.inr rfl))).pg) (fun _ _ _ _ _ => (bts_one (bt_not (bt_val (be_call (fun h => C__law_same.pe (hr.mono (by omega)) (by rfl) h) (ba_cons (be_ix (be_pv (pv 0)) (be_pv (pv 2))) (ba_cons (be_ix (be_pv (pv 1)) (be_pv (pv 2))) ba_nil)))))).pts) (fun _ _ _ _ _ => (be_pv (pv 2)).pe)))).be ba_nil)) be_int (nomark _)))))
    bss_nil)
    (bss_cons (bs_if (bw_or (bt_val (be_isi isT_bool (by rfl) T.b_isinstance (be_pv (pv 0)) (pe_bltn (by rfl) T.b_bool boot_bool rfl))) (bw_or (bt_cmp od_isA (be_pv (pv 0)) be_non (nomark _)) (bw_or1 (bt_val (be_isi isT_str (by rfl) T.b_isinstance (be_pv (pv 0)) (pe_bltn (by rfl) T.b_str boot_str rfl)))))).bt
    (bss_one (bs_ret (be_and (be_cmp (od_eq hr.units) (be_isi isT_bool (by rfl) T.b_isinstance (be_pv (pv 0)) (pe_bltn (by rfl) T.b_bool boot_bool rfl)) (be_isi isT_bool (by rfl) T.b_isinstance (be_pv (pv 1)) (pe_bltn (by rfl) T.b_bool boot_bool rfl)) (nomark _)) (be_one (be_cmp (od_eq hr.units) (be_pv (pv 0)) (be_pv (pv 1)) (nomark _))))))
    bss_nil)
    (bss_one (bs_ret (be_and (be_call (fun h => C__law_is_int.pe (hr.mono (by omega)) (by rfl) h) (ba_cons (be_pv (pv 0)) ba_nil)) (be_and (be_call (fun h => C__law_is_int.pe (hr.mono (by omega)) (by rfl) h) (ba_cons (be_pv (pv 1)) ba_nil)) (be_one (be_cmp (od_eq hr.units) (be_pv (pv 0)) (be_pv (pv 1)) (nomark _)))))))))) (hw__law_same n)
theorem ok__law_mask {P : Program} {w : World} {K : PySem.W.Frag} {mg : Str → Option Value} {base : Heap} {f : Addr} {fd : FuncData} (F : Fun K "_law_mask" "_law_mask" s__law_mask f fd) (T : Txt mg) : FnOk P w K mg base CX0 1 f fd ["values"] (spV K [.v] S__law_mask) :=
  fnV (k := 1 - 1) (ws := w__law_mask) F sc__law_mask rfl (fun cdv A outer s H E hr => (bss_one (bs_ret (be_callB (cd_sum rfl) (by rfl) T.b_sum (by decide +kernel) (ba_cons ((bn_lc (by decide) (pe_lc (own := [("v", 1)]) rfl sc__law_mask.nd (bi_seq (be_pv (pv 0))).pi (blkOk_by (own := [("v", 1)]) (N := ["values", "v"]) (sc := defScope s__law_mask) (by decide +kernel)) (fun _ _ _ _ _ => (bg_name (pg_name (i := 1) sc__law_mask.nd rfl (by first | exact Or.inl rfl | exact Or.inr rfl))).pg) (fun _ _ _ _ _ => bts_nil.pts) (fun _ _ _ _ _ => (be_op od_shl be_int (be_pv (pv 1))).pe)))).be ba_nil))))) (hw__law_mask)
theorem ok__law_tops {P : Program} {w : World} {K : PySem.W.Frag} {mg : Str → Option Value} {base : Heap} {f : Addr} {fd : FuncData} (F : Fun K "_law_tops" "_law_tops" s__law_tops f fd) (T : Txt mg) (C__law_pick : Cal P w K mg base CX0 2 "_law_pick" ["d", "row"] (spV K [.m, .r] S__law_pick)) (C__law_rare : Cal P w K mg base CX0 2 "_law_rare" ["d", "many"] (spV K [.m, .v] S__law_rare)) (C__law_draw : Cal P w K mg base CX0 1 "_law_draw" ["d", "many"] (spV K [.m, .v] S__law_draw)) : FnOk P w K mg base CX0 3 f fd ["d"] (spV K [.m] S__law_tops) :=
  fnV (k := 3 - 1) (ws := w__law_tops) F sc__law_tops rfl (fun cdv A outer s H E hr => (bss_cons (bs_set (fun h => ps_set (i := 1) sc__law_tops.nd rfl (Or.inl rfl) h) (be_op od_addA (be_op od_addA be_int (be_call (fun h => C__law_draw.pe (hr.mono (by decide)) (by rfl) h) (ba_cons (be_pv (pv 0)) (ba_cons be_int ba_nil)))) (be_op od_mul be_int (be_callTy cd_int (by rfl) T.b_int boot_int (ba_cons (be_call (fun h => C__law_rare.pe (hr.mono (by decide)) (by rfl) h) (ba_cons (be_pv (pv 0)) (ba_cons be_int ba_nil))) ba_nil)))))
    (bss_cons (bs_setV (fun h => ps_set (i := 2) sc__law_tops.nd rfl (Or.inr rfl) h) (bn_lst (ba_cons be_int (ba_cons be_int (ba_cons be_int (ba_cons be_int (ba_cons be_int ba_nil)))))))
    (bss_cons (bs_if (bt_val (be_call (fun h => C__law_rare.pe (hr.mono (by decide)) (by rfl) h) (ba_cons (be_pv (pv 0)) (ba_cons be_int ba_nil))))
    (bss_cons (bs_set (fun h => ps_set (i := 1) sc__law_tops.nd rfl (Or.inl rfl) h) (be_op od_addA be_int (be_call (fun h => C__law_draw.pe (hr.mono (by decide)) (by rfl) h) (ba_cons (be_pv (pv 0)) (ba_cons be_int ba_nil)))))
    (bss_one (bs_setV (fun h => ps_set (i := 2) sc__law_tops.nd rfl (Or.inr rfl) h) (bn_lst (ba_cons be_int (ba_cons be_int (ba_cons be_int (ba_cons be_int ba_nil))))))))
    bss_nil)
    (bss_one (bs_ret (be_callTy cd_tuple (by rfl) T.b_tuple boot_tuple (ba_cons ((bn_lc (by decide) (pe_lc (own := [("k", 3)]) rfl sc__law_tops.nd (bi_range1 (by rfl) T.b_range (ba_cons (be_pv (pv 1)) ba_nil)).pi (blkOk_by (own := [("k", 3)]) (N := ["d", "many", "menu", "k"]) (sc := defScope s__law_tops) (by decide +kernel)) (fun _ _ _ _ _ => (bg_name (pg_name (i := 3) sc__law_tops.nd rfl (by first | exact Or.inl rfl | exact Or.inr rfl))).pg) (fun _ _ _ _ _ => bts_nil.pts) (fun _ _ _ _ _ => (be_call (fun h => C__law_pick.pe (hr.mono (by decide)) (by rfl) h) (ba_cons (be_pv (pv 0)) (ba_cons (be_pv (pv 2)) ba_nil))).pe)))).be ba_nil)))))))) (hw__law_tops)
theorem ok__law_values {P : Program} {w : World} {K : PySem.W.Frag} {mg : Str → Option Value} {base : Heap} {f : Addr} {fd : FuncData} (F : Fun K "_law_values" "_law_values" s__law_values f fd) (T : Txt mg) (C__law_draw : Cal P w K mg base CX0 1 "_law_draw" ["d", "many"] (spV K [.m, .v] S__law_draw)) : FnOk P w K mg base CX0 2 f fd ["d", "allowed", "top", "sure"] (spV K [.m, .v, .v, .v] S__law_values) :=
  fnV (k := 2 - 1) (ws := w__law_values) F sc__law_values rfl (fun cdv A outer s H E hr => (bss_cons (bs_setN (fun h => ps_set (i := 4) sc__law_values.nd rfl (Or.inl rfl) h) (bn_lst ba_nil))
    (bss_cons (bs_for PassesOwn.never rfl (bi_seq (be_pv (pv 1))) (bg_name (pg_name (i := 5) sc__law_values.nd rfl (by first | exact Or.inl rfl | exact Or.inr rfl)))
    (bss_one (bs_if (bw_or (bt_cmp (od_eq hr.units) (be_pv (pv 5)) (be_pv (pv 3)) (nomark _)) (bw_or1 (bt_cmp (od_eq hr.units) (be_call (fun h => C__law_draw.pe (hr.mono (by decide)) (by rfl) h) (ba_cons (be_pv (pv 0)) (ba_cons be_int ba_nil))) be_int (nomark _)))).bt
    (bss_one (bs_expr (be_mut PySem.F.plainAttrs_list PySem.F.slot_list_append PySem.F.type_list_append mw_append (pv 4) (ba_cons (be_pv (pv 5)) ba_nil))))
    bss_nil)))
    (bss_cons (bs_if (bt_cmp od_gt (be_callB cd_len (by rfl) T.b_len boot_len (ba_cons (be_pv (pv 4)) ba_nil)) (be_pv (pv 2)) (nomark _))
    (bss_one (bs_expr (be_mut PySem.F.plainAttrs_list PySem.F.slot_list_remove PySem.F.type_list_remove mw_remove (pv 4) (ba_cons (be_op od_mod (be_callTy cd_int (by rfl) T.b_int boot_int (ba_cons (be_op od_addA (be_op od_addA (be_pv (pv 3)) be_int) (be_call (fun h => C__law_draw.pe (hr.mono (by decide)) (by rfl) h) (ba_cons (be_pv (pv 0)) (ba_cons (be_pv (pv 2)) ba_nil)))) ba_nil)) (be_op od_addA (be_pv (pv 2)) be_int)) ba_nil))))
    bss_nil)
    (bss_one (bs_ret (be_pv (pv 4)))))))) (hw__law_values)
theorem ok__law_lists {P : Program} {w : World} {K : PySem.W.Frag} {mg : Str → Option Value} {base : Heap} {f : Addr} {fd : FuncData} (F : Fun K "_law_lists" "_law_lists" s__law_lists f fd) (T : Txt mg) (C__law_draw : Cal P w K mg base CX0 1 "_law_draw" ["d", "many"] (spV K [.m, .v] S__law_draw)) (C__law_values : Cal P w K mg base CX0 2 "_law_values" ["d", "allowed", "top", "sure"] (spV K [.m, .v, .v, .v] S__law_values)) : FnOk P w K mg base CX0 3 f fd ["d", "tops", "state"] (spV K [.m, .v, .v] S__law_lists) :=
  fnV (k := 3 - 1) (ws := w__law_lists) F sc__law_lists rfl (fun cdv A outer s H E hr => (bss_cons (bs_setN (fun h => ps_set (i := 3) sc__law_lists.nd rfl (Or.inl rfl) h) (bn_lst ba_nil))
    (bss_cons (bs_for PassesOwn.never rfl (bi_range1 (by rfl) T.b_range (ba_cons (be_callB cd_len (by rfl) T.b_len boot_len (ba_cons (be_pv (pv 1)) ba_nil)) ba_nil)) (bg_name (pg_name (i := 4) sc__law_lists.nd rfl (by first | exact Or.inl rfl | exact Or.inr rfl)))
    (bss_one (bs_if (bt_cmp (od_eq hr.units) (be_call (fun h => C__law_draw.pe (hr.mono (by decide)) (by rfl) h) (ba_cons (be_pv (pv 0)) (ba_cons be_int ba_nil))) be_int (nomark _))
    (bss_one (bs_expr (be_mut PySem.F.plainAttrs_list PySem.F.slot_list_append PySem.F.type_list_append mw_append (pv 3) (ba_cons (be_tup (ba_cons (be_pv (pv 4)) (ba_cons (be_call (fun h => C__law_values.pe (hr.mono (by decide)) (by rfl) h) (ba_cons (be_pv (pv 0)) (ba_cons ((bn_listRg rfl (by rfl) T.b_list (brg_1 (by rfl) T.b_range (be_op od_addA (be_ix (be_pv (pv 1)) (be_pv (pv 4))) be_int)))).be (ba_cons (be_ix (be_pv (pv 1)) (be_pv (pv 4))) (ba_cons (be_ix (be_pv (pv 2)) (be_pv (pv 4))) ba_nil))))) ba_nil))) ba_nil))))
    bss_nil)))
    (bss_one (bs_ret (be_pv (pv 3))))))) (hw__law_lists)
theorem ok__law_without {P : Program} {w : World} {K : PySem.W.Frag} {mg : Str → Option Value} {base : Heap} {f : Addr} {fd : FuncData} (F : Fun K "_law_without" "_law_without" s__law_without f fd) (T : Txt mg) (C__law_values : Cal P w K mg base CX0 2 "_law_values" ["d", "allowed", "top", "sure"] (spV K [.m, .v, .v, .v] S__law_values)) (C__law_pick : Cal P w K mg base CX0 2 "_law_pick" ["d", "row"] (spV K [.m, .r] S__law_pick)) : FnOk P w K mg base CX0 3 f fd ["d", "lists", "tops", "state", "k"] (spV K [.m, .v, .v, .v, .v] S__law_without) :=
  fnV (k := 3 - 1) (ws := w__law_without) F sc__law_without rfl (fun cdv A outer s H E hr => (bss_cons (bs_setLc (by decide) (ps_setLc (i := 5) (own := [("v", 8)]) rfl sc__law_without.nd rfl rfl (sw_true rfl rfl rfl (by decide +kernel)) (bi_range1 (by rfl) T.b_range (ba_cons (be_op od_addA (be_ix (be_pv (pv 2)) (be_pv (pv 4))) be_int) ba_nil)).pi (blkOk_by (own := [("v", 8)]) (N := ["d", "lists", "tops", "state", "k", "values", "row", "low", "v", "one"]) (sc := defScope s__law_without) (by decide +kernel)) (fun _ _ _ _ _ => (bg_name (pg_name (i := 8) sc__law_without.nd rfl (by first | exact Or.inl rfl | exact Or.inr rfl))).pg) (fun _ _ _ _ _ => (bts_one (bt_cmp (od_ne hr.units) (be_pv (pv 8)) (be_ix (be_pv (pv 3)) (be_pv (pv 4))) (nomark _))).pts) (fun _ _ _ _ _ => (be_pv (pv 8)).pe)))
    (bss_cons (bs_set (fun h => ps_set (i := 6) sc__law_without.nd rfl (Or.inl rfl) h) (be_tup (ba_cons (be_pv (pv 4)) (ba_cons (be_call (fun h => C__law_values.pe (hr.mono (by decide)) (by rfl) h) (ba_cons (be_pv (pv 0)) (ba_cons (be_pv (pv 5)) (ba_cons (be_ix (be_pv (pv 2)) (be_pv (pv 4))) (ba_cons (be_call (fun h => C__law_pick.pe (hr.mono (by decide)) (by rfl) h) (ba_cons (be_pv (pv 0)) (ba_cons (be_pv (pv 5)) ba_nil))) ba_nil))))) ba_nil))))
    (bss_cons (bs_setLc (by decide) (ps_setLc (i := 7) (own := [("one", 9)]) rfl sc__law_without.nd rfl rfl (sw_true rfl rfl rfl (by decide +kernel)) (bi_seq (be_pv (pv 1))).pi (blkOk_by (own := [("one", 9)]) (N := ["d", "lists", "tops", "state", "k", "values", "row", "low", "v", "one"]) (sc := defScope s__law_without) (by decide +kernel)) (fun _ _ _ _ _ => (bg_name (pg_name (i := 9) sc__law_without.nd rfl (by first | exact Or.inl rfl | exact Or.inr rfl))).pg) (fun _ _ _ _ _ => (bts_one (bt_cmp od_lt (be_ix (be_pv (pv 9)) be_int) (be_pv (pv 4)) (nomark _))).pts) (fun _ _ _ _ _ => (be_pv (pv 9)).pe)))
    (bss_one (bs_ret ((bn_op od_cat ((bn_op od_cat (be_pv (pv 7)) ((bn_lst (ba_cons (be_pv (pv 6)) ba_nil))).be)).be ((bn_lc (by decide) (pe_lc (own := [("one", 9)]) rfl sc__law_without.nd (bi_seq (be_pv (pv 1))).pi (blkOk_by (own := [("one", 9)]) (N := ["d", "lists", "tops", "state", "k", "values", "row", "low", "v", "one"]) (sc := defScope s__law_without) (by decide +kernel)) (fun _ _ _ _ _ => (bg_name (pg_name (i := 9) sc__law_without.nd rfl (by first | exact Or.inl rfl | exact Or.inr rfl))).pg) (fun _ _ _ _ _ => (bts_one (bt_cmp od_gt (be_ix (be_pv (pv 9)) be_int) (be_pv (pv 4)) (nomark _))).pts) (fun _ _ _ _ _ => (be_pv (pv 9)).pe)))).be)).be)))))) (hw__law_without)
theorem ok__law_masks {P : Program} {w : World} {K : PySem.W.Frag} {mg : Str → Option Value} {base : Heap} {f : Addr} {fd : FuncData} (F : Fun K "_law_masks" "_law_masks" s__law_masks f fd) (T : Txt mg) (C__law_mask : Cal P w K mg base CX0 1 "_law_mask" ["values"] (spV K [.v] S__law_mask)) : FnOk P w K mg base CX0 2 f fd ["lists"] (spV K [.v] S__law_masks) :=
  fnV (k := 2 - 1) (ws := w__law_masks) F sc__law_masks rfl (fun cdv A outer s H E hr => (bss_one (bs_ret (be_callTy cd_tuple (by rfl) T.b_tuple boot_tuple (ba_cons ((bn_lc (by decide) (pe_lc (own := [("row", 1)]) rfl sc__law_masks.nd (bi_seq (be_pv (pv 0))).pi (blkOk_by (own := [("row", 1)]) (N := ["lists", "row"]) (sc := defScope s__law_masks) (by decide +kernel)) (fun _ _ _ _ _ => (bg_name (pg_name (i := 1) sc__law_masks.nd rfl (by first | exact Or.inl rfl | exact Or.inr rfl))).pg) (fun _ _ _ _ _ => bts_nil.pts) (fun _ _ _ _ _ => (be_tup (ba_cons (be_ix (be_pv (pv 1)) be_int) (ba_cons (be_call (fun h => C__law_mask.pe (hr.mono (by decide)) (by rfl) h) (ba_cons (be_ix (be_pv (pv 1)) be_int) ba_nil)) ba_nil))).pe)))).be ba_nil))))) (hw__law_masks)
theorem ok__law_is_let {P : Program} {w : World} {K : PySem.W.Frag} {mg : Str → Option Value} {base : Heap} {f : Addr} {fd : FuncData} (F : Fun K "_law_is_let" "_law_is_let" s__law_is_let f fd) (T : Txt mg) : FnOk P w K mg base CX0 1 f fd ["lists", "state"] (spV K [.v, .v] S__law_is_let) :=
  fnV (k := 1 - 1) (ws := w__law_is_let) F sc__law_is_let rfl (fun cdv A outer s H E hr => (bss_one (bs_ret (be_cmp (od_eq hr.units) (be_callB cd_len (by rfl) T.b_len boot_len (ba_cons ((bn_lc (by decide) (pe_lc (own := [("row", 2)]) rfl sc__law_is_let.nd (bi_seq (be_pv (pv 0))).pi (blkOk_by (own := [("row", 2)]) (N := ["lists", "state", "row"]) (sc := defScope s__law_is_let) (by decide +kernel)) (fun _ _ _ _ _ => (bg_name (pg_name (i := 2) sc__law_is_let.nd rfl (by first | exact Or.inl rfl | exact Or.inr rfl))).pg) (fun _ _ _ _ _ => (bts_one (bt_cmp (od_nin (u65 hr)) (be_ix (be_pv (pv 1)) (be_ix (be_pv (pv 2)) be_int)) (be_ix (be_pv (pv 2)) be_int) (by with_unfolding_all rfl))).pts) (fun _ _ _ _ _ => (be_pv (pv 2)).pe)))).be ba_nil)) be_int (nomark _))))) (hw__law_is_let)
theorem ok__law_deed_lists {P : Program} {w : World} {K : PySem.W.Frag} {mg : Str → Option Value} {base : Heap} {f : Addr} {fd : FuncData} (F : Fun K "_law_deed_lists" "_law_deed_lists" s__law_deed_lists f fd) (T : Txt mg) (C__law_values : Cal P w K mg base CX0 2 "_law_values" ["d", "allowed", "top", "sure"] (spV K [.m, .v, .v, .v] S__law_values)) (C__law_draw : Cal P w K mg base CX0 1 "_law_draw" ["d", "many"] (spV K [.m, .v] S__law_draw)) : FnOk P w K mg base CX0 3 f fd ["d", "tops", "state"] (spV K [.m, .v, .v] S__law_deed_lists) :=
  fnV (k := 3 - 1) (ws := w__law_deed_lists) F sc__law_deed_lists rfl (fun cdv A outer s H E hr => (bss_cons (bs_setN (fun h => ps_set (i := 3) sc__law_deed_lists.nd rfl (Or.inl rfl) h) (bn_lst ba_nil))
    (bss_cons (bs_setN (fun h => ps_set (i := 4) sc__law_deed_lists.nd rfl (Or.inl rfl) h) (bn_lst ba_nil))
    (bss_cons (bs_for PassesOwn.never rfl (bi_range1 (by rfl) T.b_range (ba_cons (be_callB cd_len (by rfl) T.b_len boot_len (ba_cons (be_pv (pv 1)) ba_nil)) ba_nil)) (bg_name (pg_name (i := 5) sc__law_deed_lists.nd rfl (by first | exact Or.inl rfl | exact Or.inr rfl)))
    (bss_cons (bs_set (fun h => ps_set (i := 6) sc__law_deed_lists.nd rfl (Or.inr rfl) h) (be_ix (be_pv (pv 1)) (be_pv (pv 5))))
    (bss_cons (bs_set (fun h => ps_set (i := 7) sc__law_deed_lists.nd rfl (Or.inl rfl) h) (be_call (fun h => C__law_draw.pe (hr.mono (by decide)) (by rfl) h) (ba_cons (be_pv (pv 0)) (ba_cons be_int ba_nil))))
    (bss_cons (bs_if (bw_or (bt_cmp (od_eq hr.units) (be_pv (pv 7)) be_int (nomark _)) (bw_or1 (bt_cmp (od_eq hr.units) (be_pv (pv 7)) be_int (nomark _)))).bt
    (bss_one (bs_expr (be_mut PySem.F.plainAttrs_list PySem.F.slot_list_append PySem.F.type_list_append mw_append (pv 3) (ba_cons (be_tup (ba_cons (be_pv (pv 5)) (ba_cons (be_call (fun h => C__law_values.pe (hr.mono (by decide)) (by rfl) h) (ba_cons (be_pv (pv 0)) (ba_cons ((bn_listRg rfl (by rfl) T.b_list (brg_1 (by rfl) T.b_range (be_op od_addA (be_pv (pv 6)) be_int)))).be (ba_cons (be_pv (pv 6)) (ba_cons (be_ix (be_pv (pv 2)) (be_pv (pv 5))) ba_nil))))) ba_nil))) ba_nil))))
    bss_nil)
    (bss_cons (bs_if (bw_or (bt_cmp (od_eq hr.units) (be_pv (pv 7)) be_int (nomark _)) (bw_or1 (bt_cmp (od_eq hr.units) (be_pv (pv 7)) be_int (nomark _)))).bt
    (bss_one (bs_expr (be_mut PySem.F.plainAttrs_list PySem.F.slot_list_append PySem.F.type_list_append mw_append (pv 4) (ba_cons (be_tup (ba_cons (be_pv (pv 5)) (ba_cons be_str (ba_cons (be_call (fun h => C__law_draw.pe (hr.mono (by decide)) (by rfl) h) (ba_cons (be_pv (pv 0)) (ba_cons (be_op od_addA (be_pv (pv 6)) be_int) ba_nil))) ba_nil)))) ba_nil))))
    bss_nil)
    (bss_one (bs_if (bw_or (bt_cmp (od_eq hr.units) (be_pv (pv 7)) be_int (nomark _)) (bw_or1 (bt_cmp (od_eq hr.units) (be_pv (pv 7)) be_int (nomark _)))).bt
    (bss_cons (bs_set (fun h => ps_set (i := 8) sc__law_deed_lists.nd rfl (Or.inl rfl) h) (be_call (fun h => C__law_draw.pe (hr.mono (by decide)) (by rfl) h) (ba_cons (be_pv (pv 0)) (ba_cons (be_pv (pv 6)) ba_nil))))
    (bss_cons (bs_aug od_iadd (fun h1 h2 => ps_aug (i := 8) sc__law_deed_lists.nd rfl (Or.inl rfl) h1 h2) (be_callTy cd_int (by rfl) T.b_int boot_int (ba_cons (be_cmp od_ge (be_pv (pv 8)) (be_ix (be_pv (pv 2)) (be_pv (pv 5))) (nomark _)) ba_nil)))
    (bss_cons (bs_set (fun h => ps_set (i := 9) sc__law_deed_lists.nd rfl (Or.inr rfl) h) (be_op od_sub (be_pv (pv 8)) (be_ix (be_pv (pv 2)) (be_pv (pv 5)))))
    (bss_cons (bs_setLc (by decide) (ps_setLc (i := 10) (own := [("v", 11)]) rfl sc__law_deed_lists.nd rfl rfl (sw_true rfl rfl rfl (by decide +kernel)) (bi_range1 (by rfl) T.b_range (ba_cons (be_op od_addA (be_pv (pv 6)) be_int) ba_nil)).pi (blkOk_by (own := [("v", 11)]) (N := ["d", "tops", "state", "lists", "effects", "k", "top", "way", "there", "step", "allowed", "v"]) (sc := defScope s__law_deed_lists) (by decide +kernel)) (fun _ _ _ _ _ => (bg_name (pg_name (i := 11) sc__law_deed_lists.nd rfl (by first | exact Or.inl rfl | exact Or.inr rfl))).pg) (fun _ _ _ _ _ => (bts_one (bw_and (bt_cmp od_le be_int (be_op od_addA (be_pv (pv 11)) (be_pv (pv 9))) (nomark _)) (bw_and1 (bt_cmp od_le (be_op od_addA (be_pv (pv 11)) (be_pv (pv 9))) (be_pv (pv 6)) (nomark _)))).bt).pts) (fun _ _ _ _ _ => (be_pv (pv 11)).pe)))
    (bss_cons (bs_expr (be_mut PySem.F.plainAttrs_list PySem.F.slot_list_append PySem.F.type_list_append mw_append (pv 3) (ba_cons (be_tup (ba_cons (be_pv (pv 5)) (ba_cons (be_call (fun h => C__law_values.pe (hr.mono (by decide)) (by rfl) h) (ba_cons (be_pv (pv 0)) (ba_cons (be_pv (pv 10)) (ba_cons (be_pv (pv 6)) (ba_cons (be_ix (be_pv (pv 2)) (be_pv (pv 5))) ba_nil))))) ba_nil))) ba_nil)))
    (bss_one (bs_expr (be_mut PySem.F.plainAttrs_list PySem.F.slot_list_append PySem.F.type_list_append mw_append (pv 4) (ba_cons (be_tup (ba_cons (be_pv (pv 5)) (ba_cons be_str (ba_cons (be_pv (pv 9)) ba_nil)))) ba_nil)))))))))
    bss_nil)))))))
    (bss_one (bs_ret (be_tup (ba_cons (be_pv (pv 3)) (ba_cons (be_pv (pv 4)) ba_nil))))))))) (hw__law_deed_lists)
theorem ok__law_behind {P : Program} {w : World} {K : PySem.W.Frag} {mg : Str → Option Value} {base : Heap} {f : Addr} {fd : FuncData} (F : Fun K "_law_behind" "_law_behind" s__law_behind f fd) (T : Txt mg) : FnOk P w K mg base CX0 1 f fd ["effects", "state"] (spV K [.v, .v] S__law_behind) :=
  fnV (k := 1 - 1) (ws := w__law_behind) F sc__law_behind rfl (fun cdv A outer s H E hr => (bss_cons (bs_setN (fun h => ps_set (i := 2) sc__law_behind.nd rfl (Or.inl rfl) h) (bn_lst ba_nil))
    (bss_cons (bs_for PassesOwn.never rfl (bi_range1 (by rfl) T.b_range (ba_cons (be_callB cd_len (by rfl) T.b_len boot_len (ba_cons (be_pv (pv 1)) ba_nil)) ba_nil)) (bg_name (pg_name (i := 3) sc__law_behind.nd rfl (by first | exact Or.inl rfl | exact Or.inr rfl)))
    (bss_cons (bs_setLc (by decide) (ps_setLc (i := 4) (own := [("row", 5)]) rfl sc__law_behind.nd rfl rfl (sw_true rfl rfl rfl (by decide +kernel)) (bi_seq (be_pv (pv 0))).pi (blkOk_by (own := [("row", 5)]) (N := ["effects", "state", "values", "k", "rows", "row"]) (sc := defScope s__law_behind) (by decide +kernel)) (fun _ _ _ _ _ => (bg_name (pg_name (i := 5) sc__law_behind.nd rfl (by first | exact Or.inl rfl | exact Or.inr rfl))).pg) (fun _ _ _ _ _ => (bts_one (bt_cmp (od_eq hr.units) (be_ix (be_pv (pv 5)) be_int) (be_pv (pv 3)) (nomark _))).pts) (fun _ _ _ _ _ => (be_pv (pv 5)).pe)))
    (bss_one (bs_if (bt_cmp (od_eq hr.units) (be_callB cd_len (by rfl) T.b_len boot_len (ba_cons (be_pv (pv 4)) ba_nil)) be_int (nomark _))
    (bss_one (bs_expr (be_mut PySem.F.plainAttrs_list PySem.F.slot_list_append PySem.F.type_list_append mw_append (pv 2) (ba_cons (be_ix (be_pv (pv 1)) (be_pv (pv 3))) ba_nil))))
    (bss_one (bs_if (bt_cmp (od_eq hr.units) (be_ix (be_ix (be_pv (pv 4)) be_int) be_int) be_str (nomark _))
    (bss_one (bs_expr (be_mut PySem.F.plainAttrs_list PySem.F.slot_list_append PySem.F.type_list_append mw_append (pv 2) (ba_cons (be_ix (be_ix (be_pv (pv 4)) be_int) be_int) ba_nil))))
    (bss_one (bs_expr (be_mut PySem.F.plainAttrs_list PySem.F.slot_list_append PySem.F.type_list_append mw_append (pv 2) (ba_cons (be_op od_addA (be_ix (be_pv (pv 1)) (be_pv (pv 3))) (be_ix (be_ix (be_pv (pv 4)) be_int) be_int)) ba_nil))))))))))
    (bss_one (bs_ret (be_callTy cd_tuple (by rfl) T.b_tuple boot_tuple (ba_cons (be_pv (pv 2)) ba_nil))))))) (hw__law_behind)
theorem ok__law_near {P : Program} {w : World} {K : PySem.W.Frag} {mg : Str → Option Value} {base : Heap} {f : Addr} {fd : FuncData} (F : Fun K "_law_near" "_law_near" s__law_near f fd) (T : Txt mg) (C__law_draw : Cal P w K mg base CX0 1 "_law_draw" ["d", "many"] (spV K [.m, .v] S__law_draw)) : FnOk P w K mg base CX0 2 f fd ["d", "tops", "state"] (spV K [.m, .v, .v] S__law_near) :=
  fnV (k := 2 - 1) (ws := w__law_near) F sc__law_near rfl (fun cdv A outer s H E hr => (bss_cons (bs_setN (fun h => ps_set (i := 3) sc__law_near.nd rfl (Or.inl rfl) h) (bn_lst (ba_cons (be_pv (pv 2)) ba_nil)))
    (bss_cons (bs_for PassesOwn.never rfl (bi_range1 (by rfl) T.b_range (ba_cons (be_callB cd_len (by rfl) T.b_len boot_len (ba_cons (be_pv (pv 1)) ba_nil)) ba_nil)) (bg_name (pg_name (i := 4) sc__law_near.nd rfl (by first | exact Or.inl rfl | exact Or.inr rfl)))
    (bss_one (bs_expr (be_mut PySem.F.plainAttrs_list PySem.F.slot_list_extend PySem.F.type_list_extend mw_extend (pv 3) (ba_cons ((bn_lc (by decide) (pe_lc (own := [("v", 6)]) rfl sc__law_near.nd (bi_range1 (by rfl) T.b_range (ba_cons (be_op od_addA (be_ix (be_pv (pv 1)) (be_pv (pv 4))) be_int) ba_nil)).pi (blkOk_by (own := [("v", 6)]) (N := ["d", "tops", "state", "found", "k", "turn", "v", "top"]) (sc := defScope s__law_near) (by decide +kernel)) (fun _ _ _ _ _ => (bg_name (pg_name (i := 6) sc__law_near.nd rfl (by first | exact Or.inl rfl | exact Or.inr rfl))).pg) (fun _ _ _ _ _ => (bts_one (bt_cmp (od_ne hr.units) (be_pv (pv 6)) (be_ix (be_pv (pv 2)) (be_pv (pv 4))) (nomark _))).pts) (fun _ _ _ _ _ => (be_op od_addA (be_op od_addA (be_slice (be_pv (pv 2)) bo_none (bo_some (be_pv (pv 4)))) (be_tup (ba_cons (be_pv (pv 6)) ba_nil))) (be_slice (be_pv (pv 2)) (bo_some (be_op od_addA (be_pv (pv 4)) be_int)) bo_none)).pe)))).be ba_nil)))))
    (bss_cons (bs_for PassesOwn.never rfl (bi_range1 (by rfl) T.b_range (ba_cons be_int ba_nil)) (bg_name (pg_name (i := 5) sc__law_near.nd rfl (by first | exact Or.inl rfl | exact Or.inr rfl)))
    (bss_one (bs_expr (be_mut PySem.F.plainAttrs_list PySem.F.slot_list_append PySem.F.type_list_append mw_append (pv 3) (ba_cons (be_callTy cd_tuple (by rfl) T.b_tuple boot_tuple (ba_cons ((bn_lc (by decide) (pe_lc (own := [("top", 7)]) rfl sc__law_near.nd (bi_seq (be_pv (pv 1))).pi (blkOk_by (own := [("top", 7)]) (N := ["d", "tops", "state", "found", "k", "turn", "v", "top"]) (sc := defScope s__law_near) (by decide +kernel)) (fun _ _ _ _ _ => (bg_name (pg_name (i := 7) sc__law_near.nd rfl (by first | exact Or.inl rfl | exact Or.inr rfl))).pg) (fun _ _ _ _ _ => bts_nil.pts) (fun _ _ _ _ _ => (be_call (fun h => C__law_draw.pe (hr.mono (by decide)) (by rfl) h) (ba_cons (be_pv (pv 0)) (ba_cons (be_op od_addA (be_pv (pv 7)) be_int) ba_nil))).pe)))).be ba_nil)) ba_nil)))))
    (bss_one (bs_ret (be_pv (pv 3)))))))) (hw__law_near)
theorem ok__law_limits_agree {P : Program} {w : World} {K : PySem.W.Frag} {mg : Str → Option Value} {base : Heap} {f : Addr} {fd : FuncData} (F : Fun K "_law_limits_agree" "_law_limits_agree" s__law_limits_agree f fd) (T : Txt mg) (C__law_is_let : Cal P w K mg base CX0 1 "_law_is_let" ["lists", "state"] (spV K [.v, .v] S__law_is_let)) (C_holds : Cal P w K mg base CX0 1 "holds" ["limits", "state"] (spV K [.v, .v] S_holds)) (C__law_masks : Cal P w K mg base CX0 2 "_law_masks" ["lists"] (spV K [.v] S__law_masks)) : FnOk P w K mg base CX0 3 f fd ["lists", "states"] (spV K [.v, .v] S__law_limits_agree) :=
  fnV (k := 3 - 1) (ws := w__law_limits_agree) F sc__law_limits_agree rfl (fun cdv A outer s H E hr => (bss_cons (bs_set (fun h => ps_set (i := 2) sc__law_limits_agree.nd rfl (Or.inl rfl) h) (be_call (fun h => C__law_masks.pe (hr.mono (by decide)) (by rfl) h) (ba_cons (be_pv (pv 0)) ba_nil)))
    (bss_cons (bs_for PassesOwn.never rfl (bi_seq (be_pv (pv 1))) (bg_name (pg_name (i := 3) sc__law_limits_agree.nd rfl (by first | exact Or.inl rfl | exact Or.inr rfl)))
    (bss_cons (bs_set (fun h => ps_set (i := 4) sc__law_limits_agree.nd rfl (Or.inl rfl) h) (be_call (fun h => C_holds.pe (hr.mono (by decide)) (by rfl) h) (ba_cons (be_pv (pv 2)) (ba_cons (be_pv (pv 3)) ba_nil))))
    (bss_one (bs_if (bw_or (bt_not (bt_val (be_isi isT_bool (by rfl) T.b_isinstance (be_pv (pv 4)) (pe_bltn (by rfl) T.b_bool boot_bool rfl)))) (bw_or1 (bt_cmp (od_ne hr.units) (be_pv (pv 4)) (be_call (fun h => C__law_is_let.pe (hr.mono (by decide)) (by rfl) h) (ba_cons (be_pv (pv 0)) (ba_cons (be_pv (pv 3)) ba_nil))) (nomark _)))).bt
    (bss_one (bs_ret be_bl))
    bss_nil))))
    (bss_one (bs_ret be_bl))))) (hw__law_limits_agree)
theorem ok__law_act_agrees {P : Program} {w : World} {K : PySem.W.Frag} {mg : Str → Option Value} {base : Heap} {f : Addr} {fd : FuncData} (F : Fun K "_law_act_agrees" "_law_act_agrees" s__law_act_agrees f fd) (T : Txt mg) (C__law_same : Cal P w K mg base CX0 4 "_law_same" ["one", "other"] (spV K [.v, .v] (S__law_same 2))) (C__law_behind : Cal P w K mg base CX0 1 "_law_behind" ["effects", "state"] (spV K [.v, .v] S__law_behind)) (C_after : Cal P w K mg base CX0 1 "after" ["act", "state"] (spV K [.v, .v] S_after)) (C_can : Cal P w K mg base CX0 2 "can" ["act", "state"] (spV K [.v, .v] S_can)) (C__law_is_let : Cal P w K mg base CX0 1 "_law_is_let" ["lists", "state"] (spV K [.v, .v] S__law_is_let)) : FnOk P w K mg base CX0 5 f fd ["act", "lists", "states"] (spV K [.v, .v, .v] S__law_act_agrees) :=
  fnV (k := 5 - 1) (ws := w__law_act_agrees) F sc__law_act_agrees rfl (fun cdv A outer s H E hr => (bss_cons (bs_for PassesOwn.never rfl (bi_seq (be_pv (pv 2))) (bg_name (pg_name (i := 3) sc__law_act_agrees.nd rfl (by first | exact Or.inl rfl | exact Or.inr rfl)))
    (bss_cons (bs_set (fun h => ps_set (i := 4) sc__law_act_agrees.nd rfl (Or.inl rfl) h) (be_call (fun h => C__law_is_let.pe (hr.mono (by decide)) (by rfl) h) (ba_cons (be_pv (pv 1)) (ba_cons (be_pv (pv 3)) ba_nil))))
    (bss_cons (bs_set (fun h => ps_set (i := 5) sc__law_act_agrees.nd rfl (Or.inl rfl) h) (be_call (fun h => C_can.pe (hr.mono (by decide)) (by rfl) h) (ba_cons (be_pv (pv 0)) (ba_cons (be_pv (pv 3)) ba_nil))))
    (bss_cons (bs_if (bw_or (bt_not (bt_val (be_isi isT_bool (by rfl) T.b_isinstance (be_pv (pv 5)) (pe_bltn (by rfl) T.b_bool boot_bool rfl)))) (bw_or1 (bt_cmp (od_ne hr.units) (be_pv (pv 5)) (be_pv (pv 4)) (nomark _)))).bt
    (bss_one (bs_ret be_bl))
    bss_nil)
    (bss_one (bs_if (bw_and (bt_val (be_pv (pv 4))) (bw_and1 (bt_not (bt_val (be_call (fun h => C__law_same.pe (hr.mono (by omega)) (by rfl) h) (ba_cons (be_call (fun h => C_after.pe (hr.mono (by decide)) (by rfl) h) (ba_cons (be_pv (pv 0)) (ba_cons (be_pv (pv 3)) ba_nil))) (ba_cons (be_call (fun h => C__law_behind.pe (hr.mono (by decide)) (by rfl) h) (ba_cons (be_ix (be_pv (pv 0)) be_int) (ba_cons (be_pv (pv 3)) ba_nil))) ba_nil))))))).bt
    (bss_one (bs_ret be_bl))
    bss_nil))))))
    (bss_one (bs_ret be_bl)))) (hw__law_act_agrees)
theorem ok__law_made {P : Program} {w : World} {K : PySem.W.Frag} {mg : Str → Option Value} {base : Heap} {f : Addr} {fd : FuncData} (F : Fun K "_law_made" "_law_made" s__law_made f fd) (T : Txt mg) (C__law_masks : Cal P w K mg base CX0 2 "_law_masks" ["lists"] (spV K [.v] S__law_masks)) (C__law_draw : Cal P w K mg base CX0 1 "_law_draw" ["d", "many"] (spV K [.m, .v] S__law_draw)) : FnOk P w K mg base CX0 3 f fd ["d", "name", "row"] (spV K [.m, .v, .v] S__law_made) :=
  fnV (k := 3 - 1) (ws := w__law_made) F sc__law_made rfl (fun cdv A outer s H E hr => (bss_one (bs_ret (be_tup (ba_cons (be_pv (pv 1)) (ba_cons (be_call (fun h => C__law_draw.pe (hr.mono (by decide)) (by rfl) h) (ba_cons (be_pv (pv 0)) (ba_cons be_int ba_nil))) (ba_cons (be_call (fun h => C__law_masks.pe (hr.mono (by decide)) (by rfl) h) (ba_cons (be_ix (be_pv (pv 2)) be_int) ba_nil)) (ba_cons (be_callTy cd_tuple (by rfl) T.b_tuple boot_tuple (ba_cons (be_ix (be_pv (pv 2)) be_int) ba_nil)) ba_nil)))))))) (hw__law_made)
theorem ok__law_deeds_agree {P : Program} {w : World} {K : PySem.W.Frag} {mg : Str → Option Value} {base : Heap} {f : Addr} {fd : FuncData} (F : Fun K "_law_deeds_agree" "_law_deeds_agree" s__law_deeds_agree f fd) (T : Txt mg) (C__law_act_agrees : Cal P w K mg base CX0 5 "_law_act_agrees" ["act", "lists", "states"] (spV K [.v, .v, .v] S__law_act_agrees)) (C__law_made : Cal P w K mg base CX0 3 "_law_made" ["d", "name", "row"] (spV K [.m, .v, .v] S__law_made)) (C__law_without : Cal P w K mg base CX0 3 "_law_without" ["d", "lists", "tops", "state", "k"] (spV K [.m, .v, .v, .v, .v] S__law_without)) (C__law_draw : Cal P w K mg base CX0 1 "_law_draw" ["d", "many"] (spV K [.m, .v] S__law_draw)) (C__law_deed_lists : Cal P w K mg base CX0 3 "_law_deed_lists" ["d", "tops", "state"] (spV K [.m, .v, .v] S__law_deed_lists)) : FnOk P w K mg base CX0 6 f fd ["d", "tops", "state", "states"] (spV K [.m, .v, .v, .v] S__law_deeds_agree) :=
  fnV (k := 6 - 1) (ws := w__law_deeds_agree) F sc__law_deeds_agree rfl (fun cdv A outer s H E hr => (bss_cons (bs_for PassesOwn.never rfl (bi_range1 (by rfl) T.b_range (ba_cons be_int ba_nil)) (bg_name (pg_name (i := 4) sc__law_deeds_agree.nd rfl (by first | exact Or.inl rfl | exact Or.inr rfl)))
    (bss_cons (bs_set (fun h => ps_set (i := 5) sc__law_deeds_agree.nd rfl (Or.inl rfl) h) (be_call (fun h => C__law_deed_lists.pe (hr.mono (by decide)) (by rfl) h) (ba_cons (be_pv (pv 0)) (ba_cons (be_pv (pv 1)) (ba_cons (be_pv (pv 2)) ba_nil)))))
    (bss_cons (bs_if (bt_not (bt_val (be_call (fun h => C__law_act_agrees.pe (hr.mono (by decide)) (by rfl) h) (ba_cons (be_call (fun h => C__law_made.pe (hr.mono (by decide)) (by rfl) h) (ba_cons (be_pv (pv 0)) (ba_cons be_str (ba_cons (be_pv (pv 5)) ba_nil)))) (ba_cons (be_ix (be_pv (pv 5)) be_int) (ba_cons (be_pv (pv 3)) ba_nil))))))
    (bss_one (bs_ret be_bl))
    bss_nil)
    (bss_cons (bs_set (fun h => ps_set (i := 6) sc__law_deeds_agree.nd rfl (Or.inr rfl) h) (be_call (fun h => C__law_draw.pe (hr.mono (by decide)) (by rfl) h) (ba_cons (be_pv (pv 0)) (ba_cons (be_callB cd_len (by rfl) T.b_len boot_len (ba_cons (be_pv (pv 1)) ba_nil)) ba_nil))))
    (bss_cons (bs_set (fun h => ps_set (i := 5) sc__law_deeds_agree.nd rfl (Or.inl rfl) h) (be_tup (ba_cons (be_call (fun h => C__law_without.pe (hr.mono (by decide)) (by rfl) h) (ba_cons (be_pv (pv 0)) (ba_cons (be_ix (be_pv (pv 5)) be_int) (ba_cons (be_pv (pv 1)) (ba_cons (be_pv (pv 2)) (ba_cons (be_pv (pv 6)) ba_nil)))))) (ba_cons ((bn_lc (by decide) (pe_lc (own := [("one", 7)]) rfl sc__law_deeds_agree.nd (bi_seq (be_ix (be_pv (pv 5)) be_int)).pi (blkOk_by (own := [("one", 7)]) (N := ["d", "tops", "state", "states", "turn", "row", "k", "one"]) (sc := defScope s__law_deeds_agree) (by decide +kernel)) (fun _ _ _ _ _ => (bg_name (pg_name (i := 7) sc__law_deeds_agree.nd rfl (by first | exact Or.inl rfl | exact Or.inr rfl))).pg) (fun _ _ _ _ _ => (bts_one (bt_cmp (od_ne hr.units) (be_ix (be_pv (pv 7)) be_int) (be_pv (pv 6)) (nomark _))).pts) (fun _ _ _ _ _ => (be_pv (pv 7)).pe)))).be ba_nil))))
    (bss_one (bs_if (bt_not (bt_val (be_call (fun h => C__law_act_agrees.pe (hr.mono (by decide)) (by rfl) h) (ba_cons (be_call (fun h => C__law_made.pe (hr.mono (by decide)) (by rfl) h) (ba_cons (be_pv (pv 0)) (ba_cons be_str (ba_cons (be_pv (pv 5)) ba_nil)))) (ba_cons (be_ix (be_pv (pv 5)) be_int) (ba_cons (be_pv (pv 3)) ba_nil))))))
    (bss_one (bs_ret be_bl))
    bss_nil)))))))
    (bss_one (bs_ret (be_call (fun h => C__law_act_agrees.pe (hr.mono (by decide)) (by rfl) h) (ba_cons (be_tup (ba_cons be_str (ba_cons be_int (ba_cons (be_tup ba_nil) (ba_cons (be_tup ba_nil) ba_nil))))) (ba_cons ((bn_lst ba_nil)).be (ba_cons (be_pv (pv 3)) ba_nil)))))))) (hw__law_deeds_agree)
theorem ok__law_chain_agrees {P : Program} {w : World} {K : PySem.W.Frag} {mg : Str → Option Value} {base : Heap} {f : Addr} {fd : FuncData} (F : Fun K "_law_chain_agrees" "_law_chain_agrees" s__law_chain_agrees f fd) (T : Txt mg) (C__law_draw : Cal P w K mg base CX0 1 "_law_draw" ["d", "many"] (spV K [.m, .v] S__law_draw)) (C__law_same : Cal P w K mg base CX0 4 "_law_same" ["one", "other"] (spV K [.v, .v] (S__law_same 2))) (C__law_behind : Cal P w K mg base CX0 1 "_law_behind" ["effects", "state"] (spV K [.v, .v] S__law_behind)) (C_after : Cal P w K mg base CX0 1 "after" ["act", "state"] (spV K [.v, .v] S_after)) (C_can : Cal P w K mg base CX0 2 "can" ["act", "state"] (spV K [.v, .v] S_can)) (C__law_made : Cal P w K mg base CX0 3 "_law_made" ["d", "name", "row"] (spV K [.m, .v, .v] S__law_made)) (C__law_deed_lists : Cal P w K mg base CX0 3 "_law_deed_lists" ["d", "tops", "state"] (spV K [.m, .v, .v] S__law_deed_lists)) : FnOk P w K mg base CX0 5 f fd ["d", "tops", "state"] (spV K [.m, .v, .v] S__law_chain_agrees) :=
  fnV (k := 5 - 1) (ws := w__law_chain_agrees) F sc__law_chain_agrees rfl (fun cdv A outer s H E hr => (bss_cons (bs_set (fun h => ps_set (i := 3) sc__law_chain_agrees.nd rfl (Or.inl rfl) h) (be_pv (pv 2)))
    (bss_cons (bs_for PassesOwn.never rfl (bi_range1 (by rfl) T.b_range (ba_cons (be_op od_addA be_int (be_call (fun h => C__law_draw.pe (hr.mono (by decide)) (by rfl) h) (ba_cons (be_pv (pv 0)) (ba_cons be_int ba_nil)))) ba_nil)) (bg_name (pg_name (i := 4) sc__law_chain_agrees.nd rfl (by first | exact Or.inl rfl | exact Or.inr rfl)))
    (bss_cons (bs_set (fun h => ps_set (i := 5) sc__law_chain_agrees.nd rfl (Or.inl rfl) h) (be_call (fun h => C__law_deed_lists.pe (hr.mono (by decide)) (by rfl) h) (ba_cons (be_pv (pv 0)) (ba_cons (be_pv (pv 1)) (ba_cons (be_pv (pv 2)) ba_nil)))))
    (bss_cons (bs_set (fun h => ps_set (i := 6) sc__law_chain_agrees.nd rfl (Or.inl rfl) h) (be_call (fun h => C__law_made.pe (hr.mono (by decide)) (by rfl) h) (ba_cons (be_pv (pv 0)) (ba_cons be_str (ba_cons (be_pv (pv 5)) ba_nil)))))
    (bss_cons (bs_if (bt_cmp od_notA (be_call (fun h => C_can.pe (hr.mono (by decide)) (by rfl) h) (ba_cons (be_pv (pv 6)) (ba_cons (be_pv (pv 3)) ba_nil))) be_bl (nomark _))
    (bss_one (bs_ret be_bl))
    bss_nil)
    (bss_cons (bs_set (fun h => ps_set (i := 3) sc__law_chain_agrees.nd rfl (Or.inl rfl) h) (be_call (fun h => C_after.pe (hr.mono (by decide)) (by rfl) h) (ba_cons (be_pv (pv 6)) (ba_cons (be_pv (pv 3)) ba_nil))))
    (bss_cons (bs_set (fun h => ps_set (i := 2) sc__law_chain_agrees.nd rfl (Or.inl rfl) h) (be_call (fun h => C__law_behind.pe (hr.mono (by decide)) (by rfl) h) (ba_cons (be_ix (be_pv (pv 5)) be_int) (ba_cons (be_pv (pv 2)) ba_nil))))
    (bss_one (bs_if (bt_not (bt_val (be_call (fun h => C__law_same.pe (hr.mono (by omega)) (by rfl) h) (ba_cons (be_pv (pv 3)) (ba_cons (be_pv (pv 2)) ba_nil)))))
    (bss_one (bs_ret be_bl))
    bss_nil))))))))
    (bss_one (bs_ret be_bl))))) (hw__law_chain_agrees)
theorem ok__law_begin {P : Program} {w : World} {K : PySem.W.Frag} {mg : Str → Option Value} {base : Heap} {f : Addr} {fd : FuncData} (F : Fun K "_law_begin" "_law_begin" s__law_begin f fd) (T : Txt mg) : FnOk P w K mg base CX0 1 f fd ["script"] (spBegin K) := by
  refine F.ok sc__law_begin (fun vs H Q E h => ?_) (fun cdv A outer s H vs Q E hr h => ?_)
  · obtain ⟨a, ns, rfl, _⟩ := h
    rfl
  · obtain ⟨a, ns, rfl, hS, hl, hk⟩ := h
    refine ⟨_, pss_one (ps_ret (pe_lst (pa_cons (pe_lc (own := [("cell", 1)]) rfl sc__law_begin.nd (pi_seq (pe_slice sl_list (pv 0) po_none (po_some pe_int))) (blkOk_by (own := [("cell", 1)]) (N := ["script", "cell"]) (sc := defScope s__law_begin) (by decide +kernel))
      (fun _ _ _ _ _ => pg_name (i := 1) sc__law_begin.nd rfl (by first | exact Or.inl rfl | exact Or.inr rfl)) (fun _ _ _ _ _ => pts_nil) (fun _ _ _ _ _ => pe_callTy call_int1 (by rfl) T.b_int boot_int (pa_cons (pv 1) pa_nil))) (pa_cons pe_int (pa_cons pe_int (pa_cons pe_int pa_nil)))))), ?_⟩
    refine ⟨_, rfl, ?_⟩
    refine ⟨_, rfl, a, _, rfl, hS, fun q0 hq0 => .inl ⟨q0, rfl, ⟨_, .of upd_same⟩, ?_⟩⟩
    have hc : cutV (ns.map V.int) none (some 63) = ns.map V.int := begin_cut hl
    intro D hD
    have nD : q0 ≠ D := fun z => by rw [← z, upd_same] at hD; cases hD
    have hD0 : H D = none := by rw [upd_ne nD.symm] at hD; exact hD
    refine ⟨fun i m H2 => m = ns.length - i ∧ i ≤ ns.length ∧ H2 q0 = some (.lst (ns.map V.int)) ∧ H2 D = some (.lst ((ns.take i).map V.int)) ∧ Sm H H2 ∧ ∀ a, H2 a = none → H a = none, ⟨_, rfl, Nat.zero_le _, by rw [upd_ne nD, upd_same, hc], upd_same, fun b o e => ?_, fun b z => ?_⟩, ?_⟩
    · rw [upd_ne (ne_of_none e hD0), upd_ne (ne_of_none e hq0)]; exact e
    · by_cases e1 : b = D
      · subst e1; rw [upd_same] at z; cases z
      · by_cases e2 : b = q0
        · subst e2; exact hq0
        · rw [upd_ne e1, upd_ne e2] at z; exact z
    · rintro i m H2 ⟨rfl, hi, h1, h2, sm, th⟩
      by_cases hlt : i < ns.length
      · refine .inr ⟨⟨_, .int ns[i], .of h1, by rw [List.getElem?_map, List.getElem?_eq_getElem hlt]; rfl⟩, fun H3 => H3 q0 = some (.lst (ns.map V.int)) ∧ H3 D = some (.lst ((ns.take (i + 1)).map V.int)) ∧ Sm H H3 ∧ ∀ a, H3 a = none → H a = none, fun H3 ⟨g1, g2, g3, g4⟩ => ⟨_, by omega, rfl, hlt, g1, g2, g3, g4⟩, ?_⟩
        rintro x H3 ⟨rfl, hx⟩
        have hx := hx _ (.of h1)
        rw [List.getElem?_map, List.getElem?_eq_getElem hlt] at hx
        cases hx
        refine ⟨rfl, _, rfl, .inl ⟨_, rfl, _, h2, by rw [List.length_map, List.length_take]; have : sizeLine = 2 ^ 24 := rfl; omega, by rw [upd_ne nD]; exact h1, ?_, fun b o e => by rw [upd_ne (ne_of_none e hD0)]; exact sm b o e, fun b z => ?_⟩⟩
        · rw [upd_same, List.take_succ, List.getElem?_eq_getElem hlt, List.map_append]; rfl
        · by_cases e1 : b = D
          · subst e1; exact hD0
          · rw [upd_ne e1] at z; exact th b z
      · have e : i = ns.length := by omega
        subst e
        refine .inl ⟨⟨_, .of h1, by simp⟩, by show 4 ≤ sizeLine; decide, fun p hp => ?_⟩
        have np : D ≠ p := fun z => by rw [← z, h2] at hp; cases hp
        refine hk p D _ (th p hp) hD0 np.symm (fun b o e => ?_) (fun b z => ?_) upd_same (by rw [upd_ne np, h2, List.take_length])
        · rw [upd_ne (ne_of_none e (th p hp))]; exact sm b o e
        · by_cases e1 : b = p
          · subst e1; rw [upd_same] at z; cases z
          · rw [upd_ne e1] at z; exact th b z

theorem ok_law {P : Program} {w : World} {K : PySem.W.Frag} {mg : Str → Option Value} {base : Heap} {f : Addr} {fd : FuncData} (F : Fun K "law" "law" s_law f fd) (T : Txt mg) (C__law_begin : Cal P w K mg base CX0 1 "_law_begin" ["script"] (spBegin K)) (C_can : Cal P w K mg base CX0 2 "can" ["act", "state"] (spV K [.v, .v] S_can)) (C__law_same : Cal P w K mg base CX0 4 "_law_same" ["one", "other"] (spV K [.v, .v] (S__law_same 2))) (C__law_behind : Cal P w K mg base CX0 1 "_law_behind" ["effects", "state"] (spV K [.v, .v] S__law_behind)) (C_after : Cal P w K mg base CX0 1 "after" ["act", "state"] (spV K [.v, .v] S_after)) (C__law_deeds_agree : Cal P w K mg base CX0 6 "_law_deeds_agree" ["d", "tops", "state", "states"] (spV K [.m, .v, .v, .v] S__law_deeds_agree)) (C__law_chain_agrees : Cal P w K mg base CX0 5 "_law_chain_agrees" ["d", "tops", "state"] (spV K [.m, .v, .v] S__law_chain_agrees)) (C__law_limits_agree : Cal P w K mg base CX0 3 "_law_limits_agree" ["lists", "states"] (spV K [.v, .v] S__law_limits_agree)) (C__law_without : Cal P w K mg base CX0 3 "_law_without" ["d", "lists", "tops", "state", "k"] (spV K [.m, .v, .v, .v, .v] S__law_without)) (C__law_draw : Cal P w K mg base CX0 1 "_law_draw" ["d", "many"] (spV K [.m, .v] S__law_draw)) (C__law_lists : Cal P w K mg base CX0 3 "_law_lists" ["d", "tops", "state"] (spV K [.m, .v, .v] S__law_lists)) (C__law_made : Cal P w K mg base CX0 3 "_law_made" ["d", "name", "row"] (spV K [.m, .v, .v] S__law_made)) (C__law_deed_lists : Cal P w K mg base CX0 3 "_law_deed_lists" ["d", "tops", "state"] (spV K [.m, .v, .v] S__law_deed_lists)) (C__law_near : Cal P w K mg base CX0 2 "_law_near" ["d", "tops", "state"] (spV K [.m, .v, .v] S__law_near)) (C__law_tops : Cal P w K mg base CX0 3 "_law_tops" ["d"] (spV K [.m] S__law_tops)) : FnOk P w K mg base CX0 7 f fd ["script"] (spLaw K) := by
  refine F.ok sc_law (fun vs H Q E h => ?_) (fun cdv A outer s H vs Q E hr h => ?_)
  · obtain ⟨a, ns, rfl, _⟩ := h
    rfl
  · refine ⟨_, pss_cons (ps_set (i := 1) sc_law.nd rfl (Or.inr rfl) (C__law_begin.pe (hr.mono (by decide)) (by rfl) (pa_cons (pv 0) pa_nil))) (BSs.pss (X := (cxOf CX0 P w K mg base ["script", "d", "tops", "state", "states", "row", "first", "turn", "lists", "k", "less", "none", "one", "top"] "law" (defScope s_law) f cdv A outer s H E).nox) (E := EN) (w := w_law) (bss_cons (bs_set (fun h => ps_set (i := 2) sc_law.nd rfl (Or.inl rfl) h) (be_call (fun h => C__law_tops.pe (hr.mono (by decide)) (by rfl) h) (ba_cons (be_pv (pv 1)) ba_nil)))
    (bss_cons (bs_set (fun h => ps_set (i := 3) sc_law.nd rfl (Or.inl rfl) h) (be_callTy cd_tuple (by rfl) T.b_tuple boot_tuple (ba_cons ((bn_lc (by decide) (pe_lc (own := [("top", 13)]) rfl sc_law.nd (bi_seq (be_pv (pv 2))).pi (blkOk_by (own := [("top", 13)]) (N := ["script", "d", "tops", "state", "states", "row", "first", "turn", "lists", "k", "less", "none", "one", "top"]) (sc := defScope s_law) (by decide +kernel)) (fun _ _ _ _ _ => (bg_name (pg_name (i := 13) sc_law.nd rfl (by first | exact Or.inl rfl | exact Or.inr rfl))).pg) (fun _ _ _ _ _ => bts_nil.pts) (fun _ _ _ _ _ => (be_call (fun h => C__law_draw.pe (hr.mono (by decide)) (by rfl) h) (ba_cons (be_pv (pv 1)) (ba_cons (be_op od_addA (be_pv (pv 13)) be_int) ba_nil))).pe)))).be ba_nil)))
    (bss_cons (bs_set (fun h => ps_set (i := 4) sc_law.nd rfl (Or.inl rfl) h) (be_call (fun h => C__law_near.pe (hr.mono (by decide)) (by rfl) h) (ba_cons (be_pv (pv 1)) (ba_cons (be_pv (pv 2)) (ba_cons (be_pv (pv 3)) ba_nil)))))
    (bss_cons (bs_set (fun h => ps_set (i := 5) sc_law.nd rfl (Or.inl rfl) h) (be_call (fun h => C__law_deed_lists.pe (hr.mono (by decide)) (by rfl) h) (ba_cons (be_pv (pv 1)) (ba_cons (be_pv (pv 2)) (ba_cons (be_pv (pv 3)) ba_nil)))))
    (bss_cons (bs_set (fun h => ps_set (i := 6) sc_law.nd rfl (Or.inl rfl) h) (be_call (fun h => C__law_made.pe (hr.mono (by decide)) (by rfl) h) (ba_cons (be_pv (pv 1)) (ba_cons be_str (ba_cons (be_pv (pv 5)) ba_nil)))))
    (bss_cons (bs_if (bw_or (bt_cmp od_notA (be_call (fun h => C_can.pe (hr.mono (by decide)) (by rfl) h) (ba_cons (be_pv (pv 6)) (ba_cons (be_pv (pv 3)) ba_nil))) be_bl (nomark _)) (bw_or1 (bt_not (bt_val (be_call (fun h => C__law_same.pe (hr.mono (by omega)) (by rfl) h) (ba_cons (be_call (fun h => C_after.pe (hr.mono (by decide)) (by rfl) h) (ba_cons (be_pv (pv 6)) (ba_cons (be_pv (pv 3)) ba_nil))) (ba_cons (be_call (fun h => C__law_behind.pe (hr.mono (by decide)) (by rfl) h) (ba_cons (be_ix (be_pv (pv 5)) be_int) (ba_cons (be_pv (pv 3)) ba_nil))) ba_nil))))))).bt
    (bss_one (bs_ret be_bl))
    bss_nil)
    (bss_cons (bs_for PassesOwn.never rfl (bi_range1 (by rfl) T.b_range (ba_cons be_int ba_nil)) (bg_name (pg_name (i := 7) sc_law.nd rfl (by first | exact Or.inl rfl | exact Or.inr rfl)))
    (bss_cons (bs_set (fun h => ps_set (i := 8) sc_law.nd rfl (Or.inl rfl) h) (be_call (fun h => C__law_lists.pe (hr.mono (by decide)) (by rfl) h) (ba_cons (be_pv (pv 1)) (ba_cons (be_pv (pv 2)) (ba_cons (be_pv (pv 3)) ba_nil)))))
    (bss_cons (bs_set (fun h => ps_set (i := 9) sc_law.nd rfl (Or.inr rfl) h) (be_call (fun h => C__law_draw.pe (hr.mono (by decide)) (by rfl) h) (ba_cons (be_pv (pv 1)) (ba_cons (be_callB cd_len (by rfl) T.b_len boot_len (ba_cons (be_pv (pv 2)) ba_nil)) ba_nil))))
    (bss_cons (bs_set (fun h => ps_set (i := 10) sc_law.nd rfl (Or.inl rfl) h) (be_call (fun h => C__law_without.pe (hr.mono (by decide)) (by rfl) h) (ba_cons (be_pv (pv 1)) (ba_cons (be_pv (pv 8)) (ba_cons (be_pv (pv 2)) (ba_cons (be_pv (pv 3)) (ba_cons (be_pv (pv 9)) ba_nil)))))))
    (bss_cons (bs_setV (fun h => ps_set (i := 11) sc_law.nd rfl (Or.inl rfl) h) (bn_op od_cat ((bn_op od_cat ((bn_lc (by decide) (pe_lc (own := [("one", 12)]) rfl sc_law.nd (bi_seq (be_pv (pv 8))).pi (blkOk_by (own := [("one", 12)]) (N := ["script", "d", "tops", "state", "states", "row", "first", "turn", "lists", "k", "less", "none", "one", "top"]) (sc := defScope s_law) (by decide +kernel)) (fun _ _ _ _ _ => (bg_name (pg_name (i := 12) sc_law.nd rfl (by first | exact Or.inl rfl | exact Or.inr rfl))).pg) (fun _ _ _ _ _ => (bts_one (bt_cmp od_lt (be_ix (be_pv (pv 12)) be_int) (be_pv (pv 9)) (nomark _))).pts) (fun _ _ _ _ _ => (be_pv (pv 12)).pe)))).be ((bn_lst (ba_cons (be_tup (ba_cons (be_pv (pv 9)) (ba_cons ((bn_lst ba_nil)).be ba_nil))) ba_nil))).be)).be ((bn_lc (by decide) (pe_lc (own := [("one", 12)]) rfl sc_law.nd (bi_seq (be_pv (pv 8))).pi (blkOk_by (own := [("one", 12)]) (N := ["script", "d", "tops", "state", "states", "row", "first", "turn", "lists", "k", "less", "none", "one", "top"]) (sc := defScope s_law) (by decide +kernel)) (fun _ _ _ _ _ => (bg_name (pg_name (i := 12) sc_law.nd rfl (by first | exact Or.inl rfl | exact Or.inr rfl))).pg) (fun _ _ _ _ _ => (bts_one (bt_cmp od_gt (be_ix (be_pv (pv 12)) be_int) (be_pv (pv 9)) (nomark _))).pts) (fun _ _ _ _ _ => (be_pv (pv 12)).pe)))).be))
    (bss_one (bs_for PassesOwn.never rfl (bi_seq ((bn_lst (ba_cons (be_pv (pv 8)) (ba_cons (be_pv (pv 10)) (ba_cons (be_pv (pv 11)) (ba_cons ((bn_lst ba_nil)).be ba_nil)))))).be) (bg_name (pg_name (i := 12) sc_law.nd rfl (by first | exact Or.inl rfl | exact Or.inr rfl)))
    (bss_one (bs_if (bt_not (bt_val (be_call (fun h => C__law_limits_agree.pe (hr.mono (by decide)) (by rfl) h) (ba_cons (be_pv (pv 12)) (ba_cons (be_pv (pv 4)) ba_nil)))))
    (bss_one (bs_ret be_bl))
    bss_nil)))))))))
    (bss_cons (bs_if (bw_or (bt_not (bt_val (be_call (fun h => C__law_deeds_agree.pe (hr.mono (by decide)) (by rfl) h) (ba_cons (be_pv (pv 1)) (ba_cons (be_pv (pv 2)) (ba_cons (be_pv (pv 3)) (ba_cons (be_pv (pv 4)) ba_nil))))))) (bw_or1 (bt_not (bt_val (be_call (fun h => C__law_chain_agrees.pe (hr.mono (by decide)) (by rfl) h) (ba_cons (be_pv (pv 1)) (ba_cons (be_pv (pv 2)) (ba_cons (be_pv (pv 3)) ba_nil)))))))).bt
    (bss_one (bs_ret be_bl))
    bss_nil)
    (bss_one (bs_ret (be_and (be_cmp od_isA (be_call (fun h => C_can.pe (hr.mono (by decide)) (by rfl) h) (ba_cons (be_pv (pv 6)) (ba_cons (be_pv (pv 3)) ba_nil))) be_bl (nomark _)) (be_one (be_call (fun h => C__law_same.pe (hr.mono (by omega)) (by rfl) h) (ba_cons (be_call (fun h => C_after.pe (hr.mono (by decide)) (by rfl) h) (ba_cons (be_pv (pv 6)) (ba_cons (be_pv (pv 3)) ba_nil))) (ba_cons (be_call (fun h => C__law_behind.pe (hr.mono (by decide)) (by rfl) h) (ba_cons (be_ix (be_pv (pv 5)) be_int) (ba_cons (be_pv (pv 3)) ba_nil))) ba_nil)))))))))))))))), ?_⟩
    obtain ⟨v, e, hb⟩ := law_read (X := (cxOf CX0 P w K mg base ["script", "d", "tops", "state", "states", "row", "first", "turn", "lists", "k", "less", "none", "one", "top"] "law" (defScope s_law) f cdv A outer s H E).nox) rfl (E := EN) h hw_law
    subst e
    exact ⟨_, rfl, hb⟩
theorem all_mk {l : PySem.W.OpenLaw} {w : World} {K : PySem.W.Frag} {h : Heap} {mg : Str → Option Value} {fa : Addr} (X : K.In h) (G : h.Ns mainGlobals mg) (hfa : mg "law" = some (.ref fa))
    {f0 f1 f2 f3 f4 f5 f6 f7 f8 f9 f10 f11 f12 f13 f14 f15 f16 f17 f18 f19 f20 f21 f22 f23 f24 : Addr} {od0 an0 od1 an1 od2 an2 od3 an3 od4 an4 od5 an5 od6 an6 od7 an7 od8 an8 od9 an9 od10 an10 od11 an11 od12 an12 od13 an13 od14 an14 od15 an15 od16 an16 od17 an17 od18 an18 od19 an19 od20 an20 od21 an21 od22 an22 od23 an23 od24 an24 : Option Addr} {sl0 sl1 sl2 sl3 sl4 sl5 sl6 sl7 sl8 sl9 sl10 sl11 sl12 sl13 sl14 sl15 sl16 sl17 sl18 sl19 sl20 sl21 sl22 sl23 sl24 : Array (Option Value)} {oc0 kV0 dc0 pm0 cd0 ct0 oc1 kV1 dc1 pm1 cd1 ct1 oc2 kV2 dc2 pm2 cd2 ct2 oc3 kV3 dc3 pm3 cd3 ct3 oc4 kV4 dc4 pm4 cd4 ct4 oc5 kV5 dc5 pm5 cd5 ct5 oc6 kV6 dc6 pm6 cd6 ct6 oc7 kV7 dc7 pm7 cd7 ct7 oc8 kV8 dc8 pm8 cd8 ct8 oc9 kV9 dc9 pm9 cd9 ct9 oc10 kV10 dc10 pm10 cd10 ct10 oc11 kV11 dc11 pm11 cd11 ct11 oc12 kV12 dc12 pm12 cd12 ct12 oc13 kV13 dc13 pm13 cd13 ct13 oc14 kV14 dc14 pm14 cd14 ct14 oc15 kV15 dc15 pm15 cd15 ct15 oc16 kV16 dc16 pm16 cd16 ct16 oc17 kV17 dc17 pm17 cd17 ct17 oc18 kV18 dc18 pm18 cd18 ct18 oc19 kV19 dc19 pm19 cd19 ct19 oc20 kV20 dc20 pm20 cd20 ct20 oc21 kV21 dc21 pm21 cd21 ct21 oc22 kV22 dc22 pm22 cd22 ct22 oc23 kV23 dc23 pm23 cd23 ct23 oc24 kV24 dc24 pm24 cd24 ct24 : Value}
    (a0 : PySem.W.nsIn K mainGlobals "holds" = some (some (.ref f0))) (l0 : K.lookup f0 = some ⟨oc0, od0, .func (PySem.W.fnOf "holds" "holds" (defArgs s_holds) (defBody s_holds) (defScope s_holds) .none kV0 dc0 pm0 an0 cd0 ct0), sl0⟩) (c0 : PySem.W.codeIn K cd0 "holds" = true) (k0 : PySem.W.keepIn K (.ref f0) = true)
    (a1 : PySem.W.nsIn K mainGlobals "after" = some (some (.ref f1))) (l1 : K.lookup f1 = some ⟨oc1, od1, .func (PySem.W.fnOf "after" "after" (defArgs s_after) (defBody s_after) (defScope s_after) .none kV1 dc1 pm1 an1 cd1 ct1), sl1⟩) (c1 : PySem.W.codeIn K cd1 "after" = true) (k1 : PySem.W.keepIn K (.ref f1) = true)
    (a2 : PySem.W.nsIn K mainGlobals "_law_begin" = some (some (.ref f2))) (l2 : K.lookup f2 = some ⟨oc2, od2, .func (PySem.W.fnOf "_law_begin" "_law_begin" (defArgs s__law_begin) (defBody s__law_begin) (defScope s__law_begin) .none kV2 dc2 pm2 an2 cd2 ct2), sl2⟩) (c2 : PySem.W.codeIn K cd2 "_law_begin" = true) (k2 : PySem.W.keepIn K (.ref f2) = true)
    (a3 : PySem.W.nsIn K mainGlobals "_law_draw" = some (some (.ref f3))) (l3 : K.lookup f3 = some ⟨oc3, od3, .func (PySem.W.fnOf "_law_draw" "_law_draw" (defArgs s__law_draw) (defBody s__law_draw) (defScope s__law_draw) .none kV3 dc3 pm3 an3 cd3 ct3), sl3⟩) (c3 : PySem.W.codeIn K cd3 "_law_draw" = true) (k3 : PySem.W.keepIn K (.ref f3) = true)
    (a4 : PySem.W.nsIn K mainGlobals "_law_is_int" = some (some (.ref f4))) (l4 : K.lookup f4 = some ⟨oc4, od4, .func (PySem.W.fnOf "_law_is_int" "_law_is_int" (defArgs s__law_is_int) (defBody s__law_is_int) (defScope s__law_is_int) .none kV4 dc4 pm4 an4 cd4 ct4), sl4⟩) (c4 : PySem.W.codeIn K cd4 "_law_is_int" = true) (k4 : PySem.W.keepIn K (.ref f4) = true)
    (a5 : PySem.W.nsIn K mainGlobals "_law_mask" = some (some (.ref f5))) (l5 : K.lookup f5 = some ⟨oc5, od5, .func (PySem.W.fnOf "_law_mask" "_law_mask" (defArgs s__law_mask) (defBody s__law_mask) (defScope s__law_mask) .none kV5 dc5 pm5 an5 cd5 ct5), sl5⟩) (c5 : PySem.W.codeIn K cd5 "_law_mask" = true) (k5 : PySem.W.keepIn K (.ref f5) = true)
    (a6 : PySem.W.nsIn K mainGlobals "_law_is_let" = some (some (.ref f6))) (l6 : K.lookup f6 = some ⟨oc6, od6, .func (PySem.W.fnOf "_law_is_let" "_law_is_let" (defArgs s__law_is_let) (defBody s__law_is_let) (defScope s__law_is_let) .none kV6 dc6 pm6 an6 cd6 ct6), sl6⟩) (c6 : PySem.W.codeIn K cd6 "_law_is_let" = true) (k6 : PySem.W.keepIn K (.ref f6) = true)
    (a7 : PySem.W.nsIn K mainGlobals "_law_behind" = some (some (.ref f7))) (l7 : K.lookup f7 = some ⟨oc7, od7, .func (PySem.W.fnOf "_law_behind" "_law_behind" (defArgs s__law_behind) (defBody s__law_behind) (defScope s__law_behind) .none kV7 dc7 pm7 an7 cd7 ct7), sl7⟩) (c7 : PySem.W.codeIn K cd7 "_law_behind" = true) (k7 : PySem.W.keepIn K (.ref f7) = true)
    (a8 : PySem.W.nsIn K mainGlobals "can" = some (some (.ref f8))) (l8 : K.lookup f8 = some ⟨oc8, od8, .func (PySem.W.fnOf "can" "can" (defArgs s_can) (defBody s_can) (defScope s_can) .none kV8 dc8 pm8 an8 cd8 ct8), sl8⟩) (c8 : PySem.W.codeIn K cd8 "can" = true) (k8 : PySem.W.keepIn K (.ref f8) = true)
    (a9 : PySem.W.nsIn K mainGlobals "_law_pick" = some (some (.ref f9))) (l9 : K.lookup f9 = some ⟨oc9, od9, .func (PySem.W.fnOf "_law_pick" "_law_pick" (defArgs s__law_pick) (defBody s__law_pick) (defScope s__law_pick) .none kV9 dc9 pm9 an9 cd9 ct9), sl9⟩) (c9 : PySem.W.codeIn K cd9 "_law_pick" = true) (k9 : PySem.W.keepIn K (.ref f9) = true)
    (a10 : PySem.W.nsIn K mainGlobals "_law_rare" = some (some (.ref f10))) (l10 : K.lookup f10 = some ⟨oc10, od10, .func (PySem.W.fnOf "_law_rare" "_law_rare" (defArgs s__law_rare) (defBody s__law_rare) (defScope s__law_rare) .none kV10 dc10 pm10 an10 cd10 ct10), sl10⟩) (c10 : PySem.W.codeIn K cd10 "_law_rare" = true) (k10 : PySem.W.keepIn K (.ref f10) = true)
    (a11 : PySem.W.nsIn K mainGlobals "_law_values" = some (some (.ref f11))) (l11 : K.lookup f11 = some ⟨oc11, od11, .func (PySem.W.fnOf "_law_values" "_law_values" (defArgs s__law_values) (defBody s__law_values) (defScope s__law_values) .none kV11 dc11 pm11 an11 cd11 ct11), sl11⟩) (c11 : PySem.W.codeIn K cd11 "_law_values" = true) (k11 : PySem.W.keepIn K (.ref f11) = true)
    (a12 : PySem.W.nsIn K mainGlobals "_law_masks" = some (some (.ref f12))) (l12 : K.lookup f12 = some ⟨oc12, od12, .func (PySem.W.fnOf "_law_masks" "_law_masks" (defArgs s__law_masks) (defBody s__law_masks) (defScope s__law_masks) .none kV12 dc12 pm12 an12 cd12 ct12), sl12⟩) (c12 : PySem.W.codeIn K cd12 "_law_masks" = true) (k12 : PySem.W.keepIn K (.ref f12) = true)
    (a13 : PySem.W.nsIn K mainGlobals "_law_near" = some (some (.ref f13))) (l13 : K.lookup f13 = some ⟨oc13, od13, .func (PySem.W.fnOf "_law_near" "_law_near" (defArgs s__law_near) (defBody s__law_near) (defScope s__law_near) .none kV13 dc13 pm13 an13 cd13 ct13), sl13⟩) (c13 : PySem.W.codeIn K cd13 "_law_near" = true) (k13 : PySem.W.keepIn K (.ref f13) = true)
    (a14 : PySem.W.nsIn K mainGlobals "_law_tops" = some (some (.ref f14))) (l14 : K.lookup f14 = some ⟨oc14, od14, .func (PySem.W.fnOf "_law_tops" "_law_tops" (defArgs s__law_tops) (defBody s__law_tops) (defScope s__law_tops) .none kV14 dc14 pm14 an14 cd14 ct14), sl14⟩) (c14 : PySem.W.codeIn K cd14 "_law_tops" = true) (k14 : PySem.W.keepIn K (.ref f14) = true)
    (a15 : PySem.W.nsIn K mainGlobals "_law_lists" = some (some (.ref f15))) (l15 : K.lookup f15 = some ⟨oc15, od15, .func (PySem.W.fnOf "_law_lists" "_law_lists" (defArgs s__law_lists) (defBody s__law_lists) (defScope s__law_lists) .none kV15 dc15 pm15 an15 cd15 ct15), sl15⟩) (c15 : PySem.W.codeIn K cd15 "_law_lists" = true) (k15 : PySem.W.keepIn K (.ref f15) = true)
    (a16 : PySem.W.nsIn K mainGlobals "_law_without" = some (some (.ref f16))) (l16 : K.lookup f16 = some ⟨oc16, od16, .func (PySem.W.fnOf "_law_without" "_law_without" (defArgs s__law_without) (defBody s__law_without) (defScope s__law_without) .none kV16 dc16 pm16 an16 cd16 ct16), sl16⟩) (c16 : PySem.W.codeIn K cd16 "_law_without" = true) (k16 : PySem.W.keepIn K (.ref f16) = true)
    (a17 : PySem.W.nsIn K mainGlobals "_law_deed_lists" = some (some (.ref f17))) (l17 : K.lookup f17 = some ⟨oc17, od17, .func (PySem.W.fnOf "_law_deed_lists" "_law_deed_lists" (defArgs s__law_deed_lists) (defBody s__law_deed_lists) (defScope s__law_deed_lists) .none kV17 dc17 pm17 an17 cd17 ct17), sl17⟩) (c17 : PySem.W.codeIn K cd17 "_law_deed_lists" = true) (k17 : PySem.W.keepIn K (.ref f17) = true)
    (a18 : PySem.W.nsIn K mainGlobals "_law_limits_agree" = some (some (.ref f18))) (l18 : K.lookup f18 = some ⟨oc18, od18, .func (PySem.W.fnOf "_law_limits_agree" "_law_limits_agree" (defArgs s__law_limits_agree) (defBody s__law_limits_agree) (defScope s__law_limits_agree) .none kV18 dc18 pm18 an18 cd18 ct18), sl18⟩) (c18 : PySem.W.codeIn K cd18 "_law_limits_agree" = true) (k18 : PySem.W.keepIn K (.ref f18) = true)
    (a19 : PySem.W.nsIn K mainGlobals "_law_made" = some (some (.ref f19))) (l19 : K.lookup f19 = some ⟨oc19, od19, .func (PySem.W.fnOf "_law_made" "_law_made" (defArgs s__law_made) (defBody s__law_made) (defScope s__law_made) .none kV19 dc19 pm19 an19 cd19 ct19), sl19⟩) (c19 : PySem.W.codeIn K cd19 "_law_made" = true) (k19 : PySem.W.keepIn K (.ref f19) = true)
    (a20 : PySem.W.nsIn K mainGlobals "_law_same" = some (some (.ref f20))) (l20 : K.lookup f20 = some ⟨oc20, od20, .func (PySem.W.fnOf "_law_same" "_law_same" (defArgs s__law_same) (defBody s__law_same) (defScope s__law_same) .none kV20 dc20 pm20 an20 cd20 ct20), sl20⟩) (c20 : PySem.W.codeIn K cd20 "_law_same" = true) (k20 : PySem.W.keepIn K (.ref f20) = true)
    (a21 : PySem.W.nsIn K mainGlobals "_law_act_agrees" = some (some (.ref f21))) (l21 : K.lookup f21 = some ⟨oc21, od21, .func (PySem.W.fnOf "_law_act_agrees" "_law_act_agrees" (defArgs s__law_act_agrees) (defBody s__law_act_agrees) (defScope s__law_act_agrees) .none kV21 dc21 pm21 an21 cd21 ct21), sl21⟩) (c21 : PySem.W.codeIn K cd21 "_law_act_agrees" = true) (k21 : PySem.W.keepIn K (.ref f21) = true)
    (a22 : PySem.W.nsIn K mainGlobals "_law_chain_agrees" = some (some (.ref f22))) (l22 : K.lookup f22 = some ⟨oc22, od22, .func (PySem.W.fnOf "_law_chain_agrees" "_law_chain_agrees" (defArgs s__law_chain_agrees) (defBody s__law_chain_agrees) (defScope s__law_chain_agrees) .none kV22 dc22 pm22 an22 cd22 ct22), sl22⟩) (c22 : PySem.W.codeIn K cd22 "_law_chain_agrees" = true) (k22 : PySem.W.keepIn K (.ref f22) = true)
    (a23 : PySem.W.nsIn K mainGlobals "_law_deeds_agree" = some (some (.ref f23))) (l23 : K.lookup f23 = some ⟨oc23, od23, .func (PySem.W.fnOf "_law_deeds_agree" "_law_deeds_agree" (defArgs s__law_deeds_agree) (defBody s__law_deeds_agree) (defScope s__law_deeds_agree) .none kV23 dc23 pm23 an23 cd23 ct23), sl23⟩) (c23 : PySem.W.codeIn K cd23 "_law_deeds_agree" = true) (k23 : PySem.W.keepIn K (.ref f23) = true)
    (a24 : PySem.W.nsIn K mainGlobals "law" = some (some (.ref f24))) (l24 : K.lookup f24 = some ⟨oc24, od24, .func (PySem.W.fnOf "law" "law" (defArgs s_law) (defBody s_law) (defScope s_law) .none kV24 dc24 pm24 an24 cd24 ct24), sl24⟩) (c24 : PySem.W.codeIn K cd24 "law" = true) (k24 : PySem.W.keepIn K (.ref f24) = true)
    (z_abs : PySem.W.nsIn K mainGlobals "abs" = some none) (z_bool : PySem.W.nsIn K mainGlobals "bool" = some none) (z_int : PySem.W.nsIn K mainGlobals "int" = some none) (z_isinstance : PySem.W.nsIn K mainGlobals "isinstance" = some none) (z_len : PySem.W.nsIn K mainGlobals "len" = some none) (z_list : PySem.W.nsIn K mainGlobals "list" = some none) (z_range : PySem.W.nsIn K mainGlobals "range" = some none) (z_str : PySem.W.nsIn K mainGlobals "str" = some none) (z_sum : PySem.W.nsIn K mainGlobals "sum" = some none) (z_tuple : PySem.W.nsIn K mainGlobals "tuple" = some none) :
    ∃ fd : FuncData, (∀ (s : Shared) (v : Value), BindsTo s fd ⟨[v], []⟩ [("script", v)]) ∧ ∀ base : Heap, K.In base → base.Ns mainGlobals mg → FnOk l.prog w K mg base CX0 7 fa fd ["script"] (spLaw K) := by
  have e := hfa.symm.trans (PySem.W.mg_of X G a24)
  cases e
  have T : Txt mg := ⟨PySem.W.mg_none_of X G z_abs, PySem.W.mg_none_of X G z_bool, PySem.W.mg_none_of X G z_int, PySem.W.mg_none_of X G z_isinstance, PySem.W.mg_none_of X G z_len, PySem.W.mg_none_of X G z_list, PySem.W.mg_none_of X G z_range, PySem.W.mg_none_of X G z_str, PySem.W.mg_none_of X G z_sum, PySem.W.mg_none_of X G z_tuple⟩
  have F0 := fun_mk (st := s_holds) l0 c0 k0
  have b0 := F0.binds (ps := ["limits", "state"]) fun _ _ _ _ _ _ us hl => match us, hl with | [_, _], _ => rfl
  have F1 := fun_mk (st := s_after) l1 c1 k1
  have b1 := F1.binds (ps := ["act", "state"]) fun _ _ _ _ _ _ us hl => match us, hl with | [_, _], _ => rfl
  have F2 := fun_mk (st := s__law_begin) l2 c2 k2
  have b2 := F2.binds (ps := ["script"]) fun _ _ _ _ _ _ us hl => match us, hl with | [_], _ => rfl
  have F3 := fun_mk (st := s__law_draw) l3 c3 k3
  have b3 := F3.binds (ps := ["d", "many"]) fun _ _ _ _ _ _ us hl => match us, hl with | [_, _], _ => rfl
  have F4 := fun_mk (st := s__law_is_int) l4 c4 k4
  have b4 := F4.binds (ps := ["thing"]) fun _ _ _ _ _ _ us hl => match us, hl with | [_], _ => rfl
  have F5 := fun_mk (st := s__law_mask) l5 c5 k5
  have b5 := F5.binds (ps := ["values"]) fun _ _ _ _ _ _ us hl => match us, hl with | [_], _ => rfl
  have F6 := fun_mk (st := s__law_is_let) l6 c6 k6
  have b6 := F6.binds (ps := ["lists", "state"]) fun _ _ _ _ _ _ us hl => match us, hl with | [_, _], _ => rfl
  have F7 := fun_mk (st := s__law_behind) l7 c7 k7
  have b7 := F7.binds (ps := ["effects", "state"]) fun _ _ _ _ _ _ us hl => match us, hl with | [_, _], _ => rfl
  have F8 := fun_mk (st := s_can) l8 c8 k8
  have b8 := F8.binds (ps := ["act", "state"]) fun _ _ _ _ _ _ us hl => match us, hl with | [_, _], _ => rfl
  have F9 := fun_mk (st := s__law_pick) l9 c9 k9
  have b9 := F9.binds (ps := ["d", "row"]) fun _ _ _ _ _ _ us hl => match us, hl with | [_, _], _ => rfl
  have F10 := fun_mk (st := s__law_rare) l10 c10 k10
  have b10 := F10.binds (ps := ["d", "many"]) fun _ _ _ _ _ _ us hl => match us, hl with | [_, _], _ => rfl
  have F11 := fun_mk (st := s__law_values) l11 c11 k11
  have b11 := F11.binds (ps := ["d", "allowed", "top", "sure"]) fun _ _ _ _ _ _ us hl => match us, hl with | [_, _, _, _], _ => rfl
  have F12 := fun_mk (st := s__law_masks) l12 c12 k12
  have b12 := F12.binds (ps := ["lists"]) fun _ _ _ _ _ _ us hl => match us, hl with | [_], _ => rfl
  have F13 := fun_mk (st := s__law_near) l13 c13 k13
  have b13 := F13.binds (ps := ["d", "tops", "state"]) fun _ _ _ _ _ _ us hl => match us, hl with | [_, _, _], _ => rfl
  have F14 := fun_mk (st := s__law_tops) l14 c14 k14
  have b14 := F14.binds (ps := ["d"]) fun _ _ _ _ _ _ us hl => match us, hl with | [_], _ => rfl
  have F15 := fun_mk (st := s__law_lists) l15 c15 k15
  have b15 := F15.binds (ps := ["d", "tops", "state"]) fun _ _ _ _ _ _ us hl => match us, hl with | [_, _, _], _ => rfl
  have F16 := fun_mk (st := s__law_without) l16 c16 k16
  have b16 := F16.binds (ps := ["d", "lists", "tops", "state", "k"]) fun _ _ _ _ _ _ us hl => match us, hl with | [_, _, _, _, _], _ => rfl
  have F17 := fun_mk (st := s__law_deed_lists) l17 c17 k17
  have b17 := F17.binds (ps := ["d", "tops", "state"]) fun _ _ _ _ _ _ us hl => match us, hl with | [_, _, _], _ => rfl
  have F18 := fun_mk (st := s__law_limits_agree) l18 c18 k18
  have b18 := F18.binds (ps := ["lists", "states"]) fun _ _ _ _ _ _ us hl => match us, hl with | [_, _], _ => rfl
  have F19 := fun_mk (st := s__law_made) l19 c19 k19
  have b19 := F19.binds (ps := ["d", "name", "row"]) fun _ _ _ _ _ _ us hl => match us, hl with | [_, _, _], _ => rfl
  have F20 := fun_mk (st := s__law_same) l20 c20 k20
  have b20 := F20.binds (ps := ["one", "other"]) fun _ _ _ _ _ _ us hl => match us, hl with | [_, _], _ => rfl
  have F21 := fun_mk (st := s__law_act_agrees) l21 c21 k21
  have b21 := F21.binds (ps := ["act", "lists", "states"]) fun _ _ _ _ _ _ us hl => match us, hl with | [_, _, _], _ => rfl
  have F22 := fun_mk (st := s__law_chain_agrees) l22 c22 k22
  have b22 := F22.binds (ps := ["d", "tops", "state"]) fun _ _ _ _ _ _ us hl => match us, hl with | [_, _, _], _ => rfl
  have F23 := fun_mk (st := s__law_deeds_agree) l23 c23 k23
  have b23 := F23.binds (ps := ["d", "tops", "state", "states"]) fun _ _ _ _ _ _ us hl => match us, hl with | [_, _, _, _], _ => rfl
  have F24 := fun_mk (st := s_law) l24 c24 k24
  have b24 := F24.binds (ps := ["script"]) fun _ _ _ _ _ _ us hl => match us, hl with | [_], _ => rfl
  refine ⟨PySem.W.fnOf "law" "law" (defArgs s_law) (defBody s_law) (defScope s_law) .none kV24 dc24 pm24 an24 cd24 ct24, fun s v => .of_eq rfl, fun base _ _ => ?_⟩
  have C_holds : Cal l.prog w K mg base CX0 1 "holds" ["limits", "state"] (spV K [.v, .v] S_holds) := ⟨_, _, ok_holds F0 T, PySem.W.mg_of X G a0, k0, b0⟩
  have C_after : Cal l.prog w K mg base CX0 1 "after" ["act", "state"] (spV K [.v, .v] S_after) := ⟨_, _, ok_after F1 T, PySem.W.mg_of X G a1, k1, b1⟩
  have C__law_begin : Cal l.prog w K mg base CX0 1 "_law_begin" ["script"] (spBegin K) := ⟨_, _, ok__law_begin F2 T, PySem.W.mg_of X G a2, k2, b2⟩
  have C__law_draw : Cal l.prog w K mg base CX0 1 "_law_draw" ["d", "many"] (spV K [.m, .v] S__law_draw) := ⟨_, _, ok__law_draw F3 T, PySem.W.mg_of X G a3, k3, b3⟩
  have C__law_is_int : Cal l.prog w K mg base CX0 1 "_law_is_int" ["thing"] (spV K [.v] S__law_is_int) := ⟨_, _, ok__law_is_int F4 T, PySem.W.mg_of X G a4, k4, b4⟩
  have C__law_mask : Cal l.prog w K mg base CX0 1 "_law_mask" ["values"] (spV K [.v] S__law_mask) := ⟨_, _, ok__law_mask F5 T, PySem.W.mg_of X G a5, k5, b5⟩
  have C__law_is_let : Cal l.prog w K mg base CX0 1 "_law_is_let" ["lists", "state"] (spV K [.v, .v] S__law_is_let) := ⟨_, _, ok__law_is_let F6 T, PySem.W.mg_of X G a6, k6, b6⟩
  have C__law_behind : Cal l.prog w K mg base CX0 1 "_law_behind" ["effects", "state"] (spV K [.v, .v] S__law_behind) := ⟨_, _, ok__law_behind F7 T, PySem.W.mg_of X G a7, k7, b7⟩
  have C_can : Cal l.prog w K mg base CX0 2 "can" ["act", "state"] (spV K [.v, .v] S_can) := ⟨_, _, ok_can F8 T C_holds, PySem.W.mg_of X G a8, k8, b8⟩
  have C__law_pick : Cal l.prog w K mg base CX0 2 "_law_pick" ["d", "row"] (spV K [.m, .r] S__law_pick) := ⟨_, _, ok__law_pick F9 T C__law_draw, PySem.W.mg_of X G a9, k9, b9⟩
  have C__law_rare : Cal l.prog w K mg base CX0 2 "_law_rare" ["d", "many"] (spV K [.m, .v] S__law_rare) := ⟨_, _, ok__law_rare F10 T C__law_draw, PySem.W.mg_of X G a10, k10, b10⟩
  have C__law_values : Cal l.prog w K mg base CX0 2 "_law_values" ["d", "allowed", "top", "sure"] (spV K [.m, .v, .v, .v] S__law_values) := ⟨_, _, ok__law_values F11 T C__law_draw, PySem.W.mg_of X G a11, k11, b11⟩
  have C__law_masks : Cal l.prog w K mg base CX0 2 "_law_masks" ["lists"] (spV K [.v] S__law_masks) := ⟨_, _, ok__law_masks F12 T C__law_mask, PySem.W.mg_of X G a12, k12, b12⟩
  have C__law_near : Cal l.prog w K mg base CX0 2 "_law_near" ["d", "tops", "state"] (spV K [.m, .v, .v] S__law_near) := ⟨_, _, ok__law_near F13 T C__law_draw, PySem.W.mg_of X G a13, k13, b13⟩
  have C__law_tops : Cal l.prog w K mg base CX0 3 "_law_tops" ["d"] (spV K [.m] S__law_tops) := ⟨_, _, ok__law_tops F14 T C__law_pick C__law_rare C__law_draw, PySem.W.mg_of X G a14, k14, b14⟩
  have C__law_lists : Cal l.prog w K mg base CX0 3 "_law_lists" ["d", "tops", "state"] (spV K [.m, .v, .v] S__law_lists) := ⟨_, _, ok__law_lists F15 T C__law_draw C__law_values, PySem.W.mg_of X G a15, k15, b15⟩
  have C__law_without : Cal l.prog w K mg base CX0 3 "_law_without" ["d", "lists", "tops", "state", "k"] (spV K [.m, .v, .v, .v, .v] S__law_without) := ⟨_, _, ok__law_without F16 T C__law_values C__law_pick, PySem.W.mg_of X G a16, k16, b16⟩
  have C__law_deed_lists : Cal l.prog w K mg base CX0 3 "_law_deed_lists" ["d", "tops", "state"] (spV K [.m, .v, .v] S__law_deed_lists) := ⟨_, _, ok__law_deed_lists F17 T C__law_values C__law_draw, PySem.W.mg_of X G a17, k17, b17⟩
  have C__law_limits_agree : Cal l.prog w K mg base CX0 3 "_law_limits_agree" ["lists", "states"] (spV K [.v, .v] S__law_limits_agree) := ⟨_, _, ok__law_limits_agree F18 T C__law_is_let C_holds C__law_masks, PySem.W.mg_of X G a18, k18, b18⟩
  have C__law_made : Cal l.prog w K mg base CX0 3 "_law_made" ["d", "name", "row"] (spV K [.m, .v, .v] S__law_made) := ⟨_, _, ok__law_made F19 T C__law_masks C__law_draw, PySem.W.mg_of X G a19, k19, b19⟩
  have R__law_same : ∀ n : Nat, FnOk l.prog w K mg base CX0 (n + 2) f20 _ ["one", "other"] (spV K [.v, .v] (S__law_same n)) := fun n => by
    induction n with
    | zero => exact fn_never (spV_never nev__law_same)
    | succ n ih => exact ok__law_same n F20 T C__law_is_int ⟨_, _, ih, PySem.W.mg_of X G a20, k20, b20⟩
  have C__law_same : Cal l.prog w K mg base CX0 4 "_law_same" ["one", "other"] (spV K [.v, .v] (S__law_same 2)) := ⟨_, _, R__law_same 2, PySem.W.mg_of X G a20, k20, b20⟩
  have C__law_act_agrees : Cal l.prog w K mg base CX0 5 "_law_act_agrees" ["act", "lists", "states"] (spV K [.v, .v, .v] S__law_act_agrees) := ⟨_, _, ok__law_act_agrees F21 T C__law_same C__law_behind C_after C_can C__law_is_let, PySem.W.mg_of X G a21, k21, b21⟩
  have C__law_chain_agrees : Cal l.prog w K mg base CX0 5 "_law_chain_agrees" ["d", "tops", "state"] (spV K [.m, .v, .v] S__law_chain_agrees) := ⟨_, _, ok__law_chain_agrees F22 T C__law_draw C__law_same C__law_behind C_after C_can C__law_made C__law_deed_lists, PySem.W.mg_of X G a22, k22, b22⟩
  have C__law_deeds_agree : Cal l.prog w K mg base CX0 6 "_law_deeds_agree" ["d", "tops", "state", "states"] (spV K [.m, .v, .v, .v] S__law_deeds_agree) := ⟨_, _, ok__law_deeds_agree F23 T C__law_act_agrees C__law_made C__law_without C__law_draw C__law_deed_lists, PySem.W.mg_of X G a23, k23, b23⟩
  exact ok_law F24 T C__law_begin C_can C__law_same C__law_behind C_after C__law_deeds_agree C__law_chain_agrees C__law_limits_agree C__law_without C__law_draw C__law_lists C__law_made C__law_deed_lists C__law_near C__law_tops
theorem walk {l : PySem.W.OpenLaw} {q : Program} {loose : List Str} {XP : (Str → Option Value) → Heap → Prop} {YP : World → Heap → Prop} {d : DefRec} {K : Params → PySem.W.Frag} (hn : l.most = some 63) (hdf : d.params.defaults = [])
    (hY : ∀ (w : World) (h : Heap), YP w h → (K w.params).In h)
    (F : ∀ (w : World) (mg : Str → Option Value) (fa : Addr) (h : Heap), (K w.params).In h → h.Ns mainGlobals mg → mg d.name = some (.ref fa) →
      ∃ fd : FuncData, (∀ (s : Shared) (u : Value), BindsTo s fd ⟨[u], []⟩ [("script", u)]) ∧ ∀ base : Heap, (K w.params).In base → base.Ns mainGlobals mg → FnOk l.prog w (K w.params) mg base CX0 7 fa fd ["script"] (spLaw (K w.params))) :
    PySem.W.WalkO q loose XP YP l.row.toRowW d [] (fun f vs => PySem.call f vs) :=
  L2.walk_of (n := 63) (k := 7) (x := "script") (CX := fun w => CX0) (sp := fun w => spLaw (K w.params)) hn (by decide) hdf ⟨rfl, by decide, by decide⟩ hY F (fun _ _ a ns hl _ hS => ⟨a, ns, rfl, hS, hl, fun _ => rfl⟩) fun _ _ _ _ _ z => z
end K17

set_option maxHeartbeats 4000000
open PySem PySem.W PyProof.Rows
set_option maxRecDepth 100000 in
set_option maxHeartbeats 0 in
theorem PySem.Challenge.cw_deedoath_k17_acts_done_holds : PySem.Challenge.rw_deedoath_k17_acts_done.Holds := by
  w_on; o_law; k_head; (case hw => w_witness2)
  k_fill
  refine K17.walk (l := PySem.Challenge.rw_deedoath_k17_acts_done) rfl rfl (fun w h Y => PySem.W.kIn_of Y) ?F
  case F =>
    intro w mg fa h KX G hmg
    refine' K17.all_mk KX G hmg ?a0 ?l0 ?c0 ?k0 ?a1 ?l1 ?c1 ?k1 ?a2 ?l2 ?c2 ?k2 ?a3 ?l3 ?c3 ?k3 ?a4 ?l4 ?c4 ?k4 ?a5 ?l5 ?c5 ?k5 ?a6 ?l6 ?c6 ?k6 ?a7 ?l7 ?c7 ?k7 ?a8 ?l8 ?c8 ?k8 ?a9 ?l9 ?c9 ?k9 ?a10 ?l10 ?c10 ?k10 ?a11 ?l11 ?c11 ?k11 ?a12 ?l12 ?c12 ?k12 ?a13 ?l13 ?c13 ?k13 ?a14 ?l14 ?c14 ?k14 ?a15 ?l15 ?c15 ?k15 ?a16 ?l16 ?c16 ?k16 ?a17 ?l17 ?c17 ?k17 ?a18 ?l18 ?c18 ?k18 ?a19 ?l19 ?c19 ?k19 ?a20 ?l20 ?c20 ?k20 ?a21 ?l21 ?c21 ?k21 ?a22 ?l22 ?c22 ?k22 ?a23 ?l23 ?c23 ?k23 ?a24 ?l24 ?c24 ?k24 ?z_abs ?z_bool ?z_int ?z_isinstance ?z_len ?z_list ?z_range ?z_str ?z_sum ?z_tuple
    (case a0 => k_is); (case l0 => k_is); (case c0 => k_is); (case k0 => k_is); (case a1 => k_is); (case l1 => k_is); (case c1 => k_is); (case k1 => k_is)
    (case a2 => k_is); (case l2 => k_is); (case c2 => k_is); (case k2 => k_is); (case a3 => k_is); (case l3 => k_is); (case c3 => k_is); (case k3 => k_is)
    (case a4 => k_is); (case l4 => k_is); (case c4 => k_is); (case k4 => k_is); (case a5 => k_is); (case l5 => k_is); (case c5 => k_is); (case k5 => k_is)
    (case a6 => k_is); (case l6 => k_is); (case c6 => k_is); (case k6 => k_is); (case a7 => k_is); (case l7 => k_is); (case c7 => k_is); (case k7 => k_is)
    (case a8 => k_is); (case l8 => k_is); (case c8 => k_is); (case k8 => k_is); (case a9 => k_is); (case l9 => k_is); (case c9 => k_is); (case k9 => k_is)
    (case a10 => k_is); (case l10 => k_is); (case c10 => k_is); (case k10 => k_is); (case a11 => k_is); (case l11 => k_is); (case c11 => k_is); (case k11 => k_is)
    (case a12 => k_is); (case l12 => k_is); (case c12 => k_is); (case k12 => k_is); (case a13 => k_is); (case l13 => k_is); (case c13 => k_is); (case k13 => k_is)
    (case a14 => k_is); (case l14 => k_is); (case c14 => k_is); (case k14 => k_is); (case a15 => k_is); (case l15 => k_is); (case c15 => k_is); (case k15 => k_is)
    (case a16 => k_is); (case l16 => k_is); (case c16 => k_is); (case k16 => k_is); (case a17 => k_is); (case l17 => k_is); (case c17 => k_is); (case k17 => k_is)
    (case a18 => k_is); (case l18 => k_is); (case c18 => k_is); (case k18 => k_is); (case a19 => k_is); (case l19 => k_is); (case c19 => k_is); (case k19 => k_is)
    (case a20 => k_is); (case l20 => k_is); (case c20 => k_is); (case k20 => k_is); (case a21 => k_is); (case l21 => k_is); (case c21 => k_is); (case k21 => k_is)
    (case a22 => k_is); (case l22 => k_is); (case c22 => k_is); (case k22 => k_is); (case a23 => k_is); (case l23 => k_is); (case c23 => k_is); (case k23 => k_is)
    (case a24 => k_is); (case l24 => k_is); (case c24 => k_is); (case k24 => k_is); (case z_abs => k_is); (case z_bool => k_is); (case z_int => k_is); (case z_isinstance => k_is)
    (case z_len => k_is); (case z_list => k_is); (case z_range => k_is); (case z_str => k_is); (case z_sum => k_is); (case z_tuple => k_is)
