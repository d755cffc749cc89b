import PyProof.Rows.All
import Wide.All
import OpenK.AllK
import Wide.FinOn
import HandS.ForMost
import HandS.Walk
import HandS.Deep
import HandS.TupAny
import HandS.WideBits
import HandS.Wide
import HandS.Exc
import HandS.ExcOwn
import HandS.CallSlots
import HandS.IsInst
import HandS.Text
import HandS.Iter
import HandS.More
import HandS.Conv
import HandS.Strs
import HandS.SortInts
import HandS.WordsExc
import HandS.SetFor
import HandS.Style
import HandS.ExcInit
import KE.KExcSuper
import HandS.TryMany
import HandS.ExcField
import HandS.ExcIs
import KE.KExcIs
import HandS.HotCalls
import KE.GoesEnum
import KE.RegKSuper
import HandS.Comp
import HandS.Small
import HandS.Finally
import KE.SortData
import HandS.Flow
import PySem.Challenge.RW_deedoath_k24_narrowed_soundly
set_option Elab.async false
set_option linter.all false
set_option maxRecDepth 100000
/-! LB, the layer by value: what a name holds is told as plain data (PyData), no addresses but those of lists that are being changed. Part 1: data in the heap, the frame of a def by value. -/
namespace LB
open PySem PySem.Spec PyProof.Rows L2

/-- a set of addresses -/
abbrev Ow := Addr → Prop
/-- a tuple of the written part -/
def KT (K : PySem.W.Frag) (a : Addr) (xs : List V) : Prop := ∃ (o : Obj) (its : Array Value) (n : Nat), K.lookup a = some o ∧ o.cls = .type "tuple" ∧ o.data = .seq its n ∧ its.size ≤ sizeLine ∧ Vals xs its.toList
def LsAt (M : Ow) (H : Hp) (a : Addr) (xs : List V) : Prop := H a = some (.lst xs) ∧ ¬ M a
def TpAt (K : PySem.W.Frag) (M : Ow) (H : Hp) (a : Addr) (xs : List V) : Prop := (H a = some (.tup xs) ∧ ¬ M a) ∨ KT K a xs
/-- a key as data -/
def kD : Key → PyData
  | .inl i => .int i
  | .inr x => .str x

mutual
/-- v stands for d in H; no list within stands at an address of M -/
def Rep (K : PySem.W.Frag) (M : Ow) (H : Hp) : PyData → V → Prop
  | .none, v => v = .non
  | .bool b, v => v = .bl b
  | .int i, v => v = .int i
  | .str s, v => v = .str s
  | .list ds, v => ∃ a xs, v = .ref a ∧ LsAt M H a xs ∧ RepAll K M H ds xs
  | .tuple ds, v => ∃ a xs, v = .ref a ∧ TpAt K M H a xs ∧ RepAll K M H ds xs
  | .dict kvs, v => ∃ a o, v = .ref a ∧ (H a = some o ∧ ¬ M a) ∧ (match o with | .dK ks => RepKV K M H kvs ks | .dT ks => ks ≠ [] ∧ RepTV K M H kvs ks | _ => False)
def RepAll (K : PySem.W.Frag) (M : Ow) (H : Hp) : List PyData → List V → Prop
  | [], xs => xs = []
  | d :: ds, xs => ∃ v vs, xs = v :: vs ∧ Rep K M H d v ∧ RepAll K M H ds vs
def RepKV (K : PySem.W.Frag) (M : Ow) (H : Hp) : List (PyData × PyData) → List (Key × V) → Prop
  | [], ks => ks = []
  | p :: r, ks => ∃ k v ks', ks = (k, v) :: ks' ∧ RepP K M H p k v ∧ RepKV K M H r ks'
def RepP (K : PySem.W.Frag) (M : Ow) (H : Hp) : PyData × PyData → Key → V → Prop
  | (k, d), k', v => kD k' = k ∧ Rep K M H d v
def RepTV (K : PySem.W.Frag) (M : Ow) (H : Hp) : List (PyData × PyData) → List (List Key × V) → Prop
  | [], ks => ks = []
  | p :: r, ks => ∃ k v ks', ks = (k, v) :: ks' ∧ RepTP K M H p k v ∧ RepTV K M H r ks'
def RepTP (K : PySem.W.Frag) (M : Ow) (H : Hp) : PyData × PyData → List Key → V → Prop
  | (k, d), k', v => .tuple (k'.map kD) = k ∧ Rep K M H d v
end
/-- what a dict's object holds: keys of ints and texts, or tuples of them -/
def RepDV (K : PySem.W.Frag) (M : Ow) (H : Hp) (kvs : List (PyData × PyData)) (o : HO) : Prop := match o with | .dK ks => RepKV K M H kvs ks | .dT ks => ks ≠ [] ∧ RepTV K M H kvs ks | _ => False

/-- from M, H to M', H': what is told goes on -/
structure Mv (M M' : Ow) (H H' : Hp) : Prop where
  own : ∀ a, M' a → M a ∨ H a = none
  kept : ∀ b o, H b = some o → ¬ M b → H' b = some o
theorem Mv.rd {M M' : Ow} {H H' : Hp} (m : Mv M M' H H') {a : Addr} {u : HO} (h : H a = some u ∧ ¬ M a) : H' a = some u ∧ ¬ M' a := by
  obtain ⟨h, n⟩ := h
  exact ⟨m.kept _ _ h n, fun z => by rcases m.own a z with z | z; exact n z; rw [h] at z; cases z⟩
section
variable {K : PySem.W.Frag} {M M' : Ow} {H H' : Hp}
mutual
theorem Rep.mv (m : Mv M M' H H') : ∀ {d : PyData} {v : V}, Rep K M H d v → Rep K M' H' d v
  | .none, _, h => h
  | .bool _, _, h => h
  | .int _, _, h => h
  | .str _, _, h => h
  | .list ds, v, h => by
    obtain ⟨a, xs, e, l, r⟩ := h
    exact ⟨a, xs, e, m.rd l, RepAll.mv m r⟩
  | .tuple ds, v, h => by
    obtain ⟨a, xs, e, l, r⟩ := h
    refine ⟨a, xs, e, ?_, RepAll.mv m r⟩
    rcases l with l | l
    · exact .inl (m.rd l)
    · exact .inr l
  | .dict kvs, v, h => by
    obtain ⟨a, o, e, ⟨l, n⟩, r⟩ := h
    refine ⟨a, o, e, ⟨m.kept _ _ l n, fun z => ?_⟩, ?_⟩
    · rcases m.own a z with z | z
      · exact n z
      · rw [l] at z; cases z
    · cases o with
      | dK ks => exact RepKV.mv m r
      | dT ks => exact ⟨r.1, RepTV.mv m r.2⟩
      | _ => exact r.elim
theorem RepAll.mv (m : Mv M M' H H') : ∀ {ds : List PyData} {xs : List V}, RepAll K M H ds xs → RepAll K M' H' ds xs
  | [], _, h => h
  | d :: ds, xs, h => by
    obtain ⟨v, vs, e, h1, h2⟩ := h
    exact ⟨v, vs, e, Rep.mv m h1, RepAll.mv m h2⟩
theorem RepKV.mv (m : Mv M M' H H') : ∀ {kvs : List (PyData × PyData)} {ks : List (Key × V)}, RepKV K M H kvs ks → RepKV K M' H' kvs ks
  | [], _, h => h
  | (k, d) :: r, ks, h => by
    obtain ⟨k', v, ks', e, ⟨e2, h1⟩, h2⟩ := h
    exact ⟨k', v, ks', e, ⟨e2, Rep.mv m h1⟩, RepKV.mv m h2⟩
theorem RepTV.mv (m : Mv M M' H H') : ∀ {kvs : List (PyData × PyData)} {ks : List (List Key × V)}, RepTV K M H kvs ks → RepTV K M' H' kvs ks
  | [], _, h => h
  | (k, d) :: r, ks, h => by
    obtain ⟨k', v, ks', e, ⟨e2, h1⟩, h2⟩ := h
    exact ⟨k', v, ks', e, ⟨e2, Rep.mv m h1⟩, RepTV.mv m h2⟩
end
theorem RepDV.mv (m : Mv M M' H H') {kvs : List (PyData × PyData)} {o : HO} (h : RepDV K M H kvs o) : RepDV K M' H' kvs o := by
  cases o with
  | dK ks => exact RepKV.mv m h
  | dT ks => exact ⟨h.1, RepTV.mv m h.2⟩
  | _ => exact h.elim
theorem Mv.refl : Mv M M H H := ⟨fun _ h => .inl h, fun _ _ h _ => h⟩
theorem Mv.sub (h : ∀ a, M' a → M a) : Mv M M' H H := ⟨fun a z => .inl (h a z), fun _ _ h _ => h⟩

/-! ### lists of data -/
theorem RepAll.len : ∀ {ds : List PyData} {xs : List V}, RepAll K M H ds xs → xs.length = ds.length
  | [], _, h => by cases h; rfl
  | d :: ds, xs, h => by
    obtain ⟨v, vs, rfl, h1, h2⟩ := h
    simp [RepAll.len h2]
theorem RepAll.get : ∀ {ds : List PyData} {xs : List V} {i : Nat} {d : PyData}, RepAll K M H ds xs → ds[i]? = some d → ∃ v, xs[i]? = some v ∧ Rep K M H d v
  | [], _, i, _, h, e => by simp at e
  | d :: ds, xs, 0, _, h, e => by
    obtain ⟨v, vs, rfl, h1, h2⟩ := h
    simp at e; subst e
    exact ⟨v, rfl, h1⟩
  | d :: ds, xs, i + 1, _, h, e => by
    obtain ⟨v, vs, rfl, h1, h2⟩ := h
    simp at e
    obtain ⟨w, h3, h4⟩ := RepAll.get h2 e
    exact ⟨w, by simpa using h3, h4⟩
theorem RepAll.getV : ∀ {ds : List PyData} {xs : List V} {i : Nat} {v : V}, RepAll K M H ds xs → xs[i]? = some v → ∃ d, ds[i]? = some d ∧ Rep K M H d v
  | [], _, i, _, h, e => by cases h; simp at e
  | d :: ds, xs, 0, _, h, e => by
    obtain ⟨v, vs, rfl, h1, h2⟩ := h
    simp at e; subst e
    exact ⟨d, rfl, h1⟩
  | d :: ds, xs, i + 1, _, h, e => by
    obtain ⟨v, vs, rfl, h1, h2⟩ := h
    simp at e
    obtain ⟨w, h3, h4⟩ := RepAll.getV h2 e
    exact ⟨w, by simpa using h3, h4⟩
theorem RepAll.app : ∀ {ds es : List PyData} {xs ys : List V}, RepAll K M H ds xs → RepAll K M H es ys → RepAll K M H (ds ++ es) (xs ++ ys)
  | [], _, _, _, h, h' => by cases h; exact h'
  | d :: ds, es, xs, ys, h, h' => by
    obtain ⟨v, vs, rfl, h1, h2⟩ := h
    exact ⟨v, vs ++ ys, rfl, h1, RepAll.app h2 h'⟩
theorem RepAll.one {d : PyData} {v : V} (h : Rep K M H d v) : RepAll K M H [d] [v] := ⟨v, [], rfl, h, rfl⟩
theorem RepAll.take : ∀ {ds : List PyData} {xs : List V} (n : Nat), RepAll K M H ds xs → RepAll K M H (ds.take n) (xs.take n)
  | _, _, 0, _ => by simp [RepAll]
  | [], _, n + 1, h => by cases h; simp [RepAll]
  | d :: ds, xs, n + 1, h => by
    obtain ⟨v, vs, rfl, h1, h2⟩ := h
    exact ⟨v, vs.take n, rfl, h1, RepAll.take n h2⟩
theorem RepAll.drop : ∀ {ds : List PyData} {xs : List V} (n : Nat), RepAll K M H ds xs → RepAll K M H (ds.drop n) (xs.drop n)
  | _, _, 0, h => h
  | [], _, n + 1, h => by cases h; simp [RepAll]
  | d :: ds, xs, n + 1, h => by
    obtain ⟨v, vs, rfl, h1, h2⟩ := h
    exact RepAll.drop n h2
theorem RepAll.set : ∀ {ds : List PyData} {xs : List V} (i : Nat) {d : PyData} {v : V}, RepAll K M H ds xs → Rep K M H d v → RepAll K M H (ds.set i d) (xs.set i v)
  | [], _, _, _, _, h, _ => by cases h; exact rfl
  | d :: ds, xs, 0, _, _, h, r => by
    obtain ⟨v, vs, rfl, h1, h2⟩ := h
    exact ⟨_, vs, rfl, r, h2⟩
  | d :: ds, xs, i + 1, _, _, h, r => by
    obtain ⟨v, vs, rfl, h1, h2⟩ := h
    exact ⟨v, _, rfl, h1, RepAll.set i h2 r⟩
theorem RepAll.erase : ∀ {ds : List PyData} {xs : List V} (i : Nat), RepAll K M H ds xs → RepAll K M H (ds.eraseIdx i) (xs.eraseIdx i)
  | [], _, _, h => by cases h; exact rfl
  | d :: ds, xs, 0, h => by
    obtain ⟨v, vs, rfl, h1, h2⟩ := h
    exact h2
  | d :: ds, xs, i + 1, h => by
    obtain ⟨v, vs, rfl, h1, h2⟩ := h
    exact ⟨v, _, rfl, h1, RepAll.erase i h2⟩
theorem RepAll.of_get : ∀ {ds : List PyData} {xs : List V}, xs.length = ds.length → (∀ (i : Nat) v d, xs[i]? = some v → ds[i]? = some d → Rep K M H d v) → RepAll K M H ds xs
  | [], xs, h, _ => by cases xs with | nil => rfl | cons _ _ => simp at h
  | d :: ds, xs, h, f => by
    cases xs with
    | nil => simp at h
    | cons v vs =>
      exact ⟨v, vs, rfl, f 0 v d rfl rfl, RepAll.of_get (by simpa using h) fun i v' d' e1 e2 => f (i + 1) v' d' (by simpa using e1) (by simpa using e2)⟩
theorem RepAll.rev {ds : List PyData} {xs : List V} (h : RepAll K M H ds xs) : RepAll K M H ds.reverse xs.reverse := by
  have hl := h.len
  refine RepAll.of_get (by simp [hl]) fun i v d e1 e2 => ?_
  have hi : i < ds.length := by
    have := (List.getElem?_eq_some_iff.mp e2).1
    simpa using this
  rw [List.getElem?_reverse (by omega)] at e1
  rw [List.getElem?_reverse hi] at e2
  obtain ⟨w, a, b⟩ := h.get e2
  rw [hl] at e1
  rw [e1] at a; cases a
  exact b
/-- ints -/
theorem RepAll.ints : ∀ (ns : List Int), RepAll K M H (ns.map PyData.int) (ns.map V.int)
  | [] => rfl
  | n :: ns => ⟨_, _, rfl, rfl, RepAll.ints ns⟩
theorem RepAll.intsV : ∀ {ns : List Int} {xs : List V}, RepAll K M H (ns.map PyData.int) xs → xs = ns.map V.int
  | [], _, h => h
  | n :: ns, xs, h => by
    obtain ⟨v, vs, rfl, h1, h2⟩ := h
    have e : v = V.int n := h1
    rw [e, RepAll.intsV h2]; rfl
theorem RepAll.strsV : ∀ {ns : List Str} {xs : List V}, RepAll K M H (ns.map PyData.str) xs → xs = ns.map V.str
  | [], _, h => h
  | n :: ns, xs, h => by
    obtain ⟨v, vs, rfl, h1, h2⟩ := h
    have e : v = V.str n := h1
    rw [e, RepAll.strsV h2]; rfl
theorem RepAll.strs : ∀ (ns : List Str), RepAll K M H (ns.map PyData.str) (ns.map V.str)
  | [] => rfl
  | n :: ns => ⟨_, _, rfl, rfl, RepAll.strs ns⟩
end

/-! ### an object that is being changed -/
def At (K : PySem.W.Frag) (M : Ow) (H : Hp) (l : Addr) : PyData → Prop
  | .list ds => ∃ xs, H l = some (.lst xs) ∧ RepAll K M H ds xs
  | .dict kvs => ∃ o, H l = some o ∧ RepDV K M H kvs o
  | _ => False
/-- v is read as d now: its own place may be one of M, none of W -/
def See (K : PySem.W.Frag) (M W : Ow) (H : Hp) : PyData → V → Prop
  | .list ds, v => ∃ a xs, v = .ref a ∧ (H a = some (.lst xs) ∧ ¬ W a) ∧ RepAll K M H ds xs
  | .dict kvs, v => ∃ a o, v = .ref a ∧ (H a = some o ∧ ¬ W a) ∧ RepDV K M H kvs o
  | d, v => Rep K M H d v

/-- a name's slot by value -/
inductive En where
  | no
  | val (d : PyData)
  | own (l : Addr) (d : PyData)
  | io (l : Addr) (d : PyData)
  | rd (d : PyData)
  | obj (v : V)
  /-- an exception: the value, its dict's place, its fields -/
  | xn (v : V) (p : Addr) (x : List (Str × PyData))
/-- the def's own: M, addresses that no value may hold; W, those of M that the def may change; the heap at its entry -/
structure Ct where
  M : Ow
  W : Ow
  H0 : Hp
def Oof (ρ : List En) : Ow := fun a => ∃ (i : Nat) (d : PyData), ρ[i]? = some (.own a d)
def Mof (c : Ct) (ρ : List En) : Ow := fun a => c.M a ∨ Oof ρ a
def Wof (c : Ct) (ρ : List En) : Ow := fun a => c.W a ∨ Oof ρ a
def Ct.more (c : Ct) (p : Addr) : Ct := ⟨fun a => c.M a ∨ a = p, fun a => c.W a ∨ a = p, c.H0⟩

/-- fields of one piece, as values -/
def FlatV : PyData → V → Prop
  | .none, v => v = .non | .bool b, v => v = .bl b | .int i, v => v = .int i | .str z, v => v = .str z
  | _, _ => False
def FlatF : List (Str × PyData) → List (Str × V) → Prop
  | [], fs => fs = []
  | q :: r, fs => ∃ v fs', fs = (q.1, v) :: fs' ∧ FlatV q.2 v ∧ FlatF r fs'
structure Gd (K : PySem.W.Frag) (c : Ct) (σ : L2.St) (H : Hp) (ρ : List En) : Prop where
  len : σ.length = ρ.length
  val : ∀ (i : Nat) d, ρ[i]? = some (.val d) → ∃ v, σ[i]? = some (some v) ∧ Rep K (Mof c ρ) H d v
  rd : ∀ (i : Nat) d, ρ[i]? = some (.rd d) → ∃ v, σ[i]? = some (some v) ∧ See K (Mof c ρ) (Wof c ρ) H d v
  own : ∀ (i : Nat) l d, ρ[i]? = some (.own l d) → σ[i]? = some (some (.ref l)) ∧ At K (Mof c ρ) H l d ∧ ¬ c.M l ∧ c.H0 l = none
  io : ∀ (i : Nat) l d, ρ[i]? = some (.io l d) → σ[i]? = some (some (.ref l)) ∧ At K (Mof c ρ) H l d ∧ c.W l
  obj : ∀ (i : Nat) v, ρ[i]? = some (.obj v) → σ[i]? = some (some v)
  uo : ∀ (i j : Nat) l d e, ρ[i]? = some (.own l d) → ρ[j]? = some (.own l e) → i = j
  ui : ∀ (i j : Nat) l d e, ρ[i]? = some (.io l d) → ρ[j]? = some (.io l e) → i = j
  fr : ∀ b o, c.H0 b = some o → ¬ c.W b → H b = some o
  wm : ∀ a, c.W a → c.M a
  th : ∀ a, c.M a → H a ≠ none
  xn : ∀ (i : Nat) v p x, ρ[i]? = some (.xn v p x) → σ[i]? = some (some v) ∧ ∃ fs, H p = some (.xd fs) ∧ FlatF x fs
/-- the lists that names hold to change -/
def Wr (ρ : List En) : Ow := fun a => ∃ (i : Nat) (d : PyData), ρ[i]? = some (.own a d) ∨ ρ[i]? = some (.io a d)
/-- from one state of the def to a later one -/
structure Ev (c : Ct) (ρ : List En) (H : Hp) (ρ' : List En) (H' : Hp) : Prop where
  kept : ∀ b o, H b = some o → ¬ Wr ρ b → H' b = some o
  own : ∀ a, Wr ρ' a → Wr ρ a ∨ H a = none
  there : ∀ a, H' a = none → H a = none
theorem Ev.any {c c' : Ct} {ρ ρ' : List En} {H H' : Hp} (e : Ev c ρ H ρ' H') : Ev c' ρ H ρ' H' := ⟨e.kept, e.own, e.there⟩
theorem Ev.refl {c : Ct} {ρ : List En} {H : Hp} : Ev c ρ H ρ H := ⟨fun _ _ h _ => h, fun _ h => .inl h, fun _ h => h⟩
theorem Ev.trans {c : Ct} {ρ ρ1 ρ2 : List En} {H H1 H2 : Hp} (a : Ev c ρ H ρ1 H1) (b : Ev c ρ1 H1 ρ2 H2) : Ev c ρ H ρ2 H2 := by
  refine ⟨fun x o h n => b.kept x o (a.kept x o h n) fun z => ?_, fun x z => ?_, fun x z => a.there x (b.there x z)⟩
  · rcases a.own x z with z | z
    · exact n z
    · rw [h] at z; cases z
  · rcases b.own x z with z | z
    · exact a.own x z
    · exact .inr (a.there x z)
section
variable {K : PySem.W.Frag} {c : Ct} {σ σ' : L2.St} {H H' : Hp} {ρ ρ' : List En}
theorem Gd.wsub (g : Gd K c σ H ρ) {a : Addr} (h : Wof c ρ a) : Mof c ρ a := by
  rcases h with h | h
  · exact .inl (g.wm a h)
  · exact .inr h
/-- no address of M is free -/
theorem Gd.mth (g : Gd K c σ H ρ) {a : Addr} (h : Mof c ρ a) : H a ≠ none := by
  rcases h with h | ⟨i, d, h⟩
  · exact g.th a h
  · obtain ⟨_, h2, _⟩ := g.own i a d h
    cases d with
    | list ds => obtain ⟨xs, e, _⟩ := h2; rw [e]; intro z; cases z
    | dict ds => obtain ⟨xs, e, _⟩ := h2; rw [e]; intro z; cases z
    | _ => exact h2.elim
theorem Gd.wr_w (g : Gd K c σ H ρ) {a : Addr} (h : Wr ρ a) : Wof c ρ a := by
  obtain ⟨i, d, h | h⟩ := h
  · exact .inr ⟨i, d, h⟩
  · exact .inl (g.io i a d h).2.2
theorem oof_wrS {a : Addr} (h : Oof ρ a) : Wr ρ a := by
  obtain ⟨i, d, h⟩ := h
  exact ⟨i, d, .inl h⟩
theorem Ev.mv (e : Ev c ρ H ρ' H') (g : Gd K c σ H ρ) : Mv (Mof c ρ) (Mof c ρ') H H' := by
  refine ⟨fun a z => ?_, fun b o h n => e.kept b o h fun w => n (g.wsub (g.wr_w w))⟩
  rcases z with z | z
  · exact .inl (.inl z)
  · rcases e.own a (oof_wrS z) with z | z
    · exact .inl (g.wsub (g.wr_w z))
    · exact .inr z
theorem See.mv {M M' W W' : Ow} {d : PyData} {v : V} (m : Mv M M' H H') (w : Mv W W' H H') (h : See K M W H d v) : See K M' W' H' d v := by
  cases d with
  | list ds =>
    obtain ⟨a, xs, e, l, r⟩ := h
    exact ⟨a, xs, e, w.rd l, r.mv m⟩
  | dict kvs =>
    obtain ⟨a, ks, e, ⟨l, n⟩, r⟩ := h
    refine ⟨a, ks, e, ⟨w.kept _ _ l n, fun z => ?_⟩, r.mv m⟩
    rcases w.own a z with z | z
    · exact n z
    · rw [l] at z; cases z
  | _ => exact Rep.mv m h
theorem Ev.mvw (e : Ev c ρ H ρ' H') (g : Gd K c σ H ρ) : Mv (Wof c ρ) (Wof c ρ') H H' := by
  refine ⟨fun a z => ?_, fun b o h n => e.kept b o h fun w => n (g.wr_w w)⟩
  rcases z with z | z
  · exact .inl (.inl z)
  · rcases e.own a (oof_wrS z) with z | z
    · exact .inl (g.wr_w z)
    · exact .inr z
theorem At.mv {M M' : Ow} {l : Addr} {d : PyData} (m : Mv M M' H H') (e : ∀ o, H l = some o → H' l = some o) (h : At K M H l d) : At K M' H' l d := by
  cases d with
  | list ds => obtain ⟨xs, h1, h2⟩ := h; exact ⟨xs, e _ h1, h2.mv m⟩
  | dict ds => obtain ⟨xs, h1, h2⟩ := h; exact ⟨xs, e _ h1, h2.mv m⟩
  | _ => exact h.elim
theorem At.some {M : Ow} {l : Addr} {d : PyData} (h : At K M H l d) : H l ≠ none := by
  cases d with
  | list ds => obtain ⟨xs, h1, h2⟩ := h; rw [h1]; intro z; cases z
  | dict ds => obtain ⟨xs, h1, h2⟩ := h; rw [h1]; intro z; cases z
  | _ => exact h.elim
theorem At.noxd {M : Ow} {l : Addr} {d : PyData} {fs : List (Str × V)} (h : At K M H l d) (z : H l = Option.some (HO.xd fs)) : False := by
  cases d with
  | list ds => obtain ⟨xs, h1, h2⟩ := h; rw [h1] at z; cases z
  | dict ds => obtain ⟨xs, h1, h2⟩ := h; rw [h1] at z; cases z; exact h2.elim
  | _ => exact h.elim
theorem Rep.see {M W : Ow} {d : PyData} {v : V} (h : Rep K M H d v) (w : ∀ a, W a → M a) : See K M W H d v := by
  cases d with
  | list ds =>
    obtain ⟨a, xs, e, l, r⟩ := h
    exact ⟨a, xs, e, ⟨l.1, fun z => l.2 (w a z)⟩, r⟩
  | dict ds =>
    obtain ⟨a, xs, e, ⟨l, n⟩, r⟩ := h
    exact ⟨a, xs, e, ⟨l, fun z => n (w a z)⟩, r⟩
  | _ => exact h
theorem At.see {M W : Ow} {l : Addr} {d : PyData} (h : At K M H l d) (n : ¬ W l) : See K M W H d (.ref l) := by
  cases d with
  | list ds => obtain ⟨xs, h1, h2⟩ := h; exact ⟨l, xs, rfl, ⟨h1, n⟩, h2⟩
  | dict ds => obtain ⟨xs, h1, h2⟩ := h; exact ⟨l, xs, rfl, ⟨h1, n⟩, h2⟩
  | _ => exact h.elim
/-- the frame goes on: the own and the lent lists may have changed, nothing else of the def's -/
theorem Gd.next (g : Gd K c σ H ρ) (e : Ev c ρ H ρ' H') (hl : ρ'.length = ρ.length)
    (hv : ∀ (i : Nat) d, ρ'[i]? = some (.val d) → ρ[i]? = some (.val d)) (hr : ∀ (i : Nat) d, ρ'[i]? = some (.rd d) → ρ[i]? = some (.rd d)) (hob : ∀ (i : Nat) v, ρ'[i]? = some (.obj v) → ρ[i]? = some (.obj v)) (hxn : ∀ (i : Nat) v p x, ρ'[i]? = some (.xn v p x) → ρ[i]? = some (.xn v p x))
    (ho : ∀ (i : Nat) l d, ρ'[i]? = some (.own l d) → (∃ d0, ρ[i]? = some (.own l d0)) ∧ At K (Mof c ρ') H' l d) (hi : ∀ (i : Nat) l d, ρ'[i]? = some (.io l d) → (∃ d0, ρ[i]? = some (.io l d0)) ∧ At K (Mof c ρ') H' l d) : Gd K c σ H' ρ' := by
  refine ⟨by rw [hl]; exact g.len, fun i d h => ?_, fun i d h => ?_, fun i l d h => ?_, fun i l d h => ?_, fun i v h => g.obj i v (hob i v h), fun i j l d d' h1 h2 => ?_, fun i j l d d' h1 h2 => ?_, fun b o h n => ?_, g.wm, fun a h z => g.th a h (e.there a z), fun i v p x h => ?_⟩
  · obtain ⟨v, h1, h2⟩ := g.val i d (hv i d h)
    exact ⟨v, h1, h2.mv (e.mv g)⟩
  · obtain ⟨v, h1, h2⟩ := g.rd i d (hr i d h)
    exact ⟨v, h1, h2.mv (e.mv g) (e.mvw g)⟩
  · obtain ⟨⟨d0, h0⟩, h1⟩ := ho i l d h
    obtain ⟨h2, _, h3, h4⟩ := g.own i l d0 h0
    exact ⟨h2, h1, h3, h4⟩
  · obtain ⟨⟨d0, h0⟩, h1⟩ := hi i l d h
    obtain ⟨h2, _, h3⟩ := g.io i l d0 h0
    exact ⟨h2, h1, h3⟩
  · obtain ⟨⟨d0, h0⟩, _⟩ := ho i l d h1
    obtain ⟨⟨d1, h1'⟩, _⟩ := ho j l d' h2
    exact g.uo i j l d0 d1 h0 h1'
  · obtain ⟨⟨d0, h0⟩, _⟩ := hi i l d h1
    obtain ⟨⟨d1, h1'⟩, _⟩ := hi j l d' h2
    exact g.ui i j l d0 d1 h0 h1'
  · refine e.kept b o (g.fr b o h n) fun z => ?_
    obtain ⟨i, d, z | z⟩ := z
    · obtain ⟨_, _, _, h4⟩ := g.own i b d z
      rw [h] at h4; cases h4
    · exact n (g.io i b d z).2.2
  · obtain ⟨h1, fs, h2, h3⟩ := g.xn i v p x (hxn i v p x h)
    refine ⟨h1, fs, e.kept p _ h2 fun z => ?_, h3⟩
    obtain ⟨j, d, z | z⟩ := z
    · exact At.noxd (g.own j p d z).2.1 h2
    · exact At.noxd (g.io j p d z).2.1 h2
/-- all that was tracked is as it was -/
theorem Ev.same (h : ∀ b o, H b = some o → H' b = some o) : Ev c ρ H ρ H' := ⟨fun b o e _ => h b o e, fun _ z => .inl z, fun a z => by
  cases e : H a with
  | none => rfl
  | some o => rw [h a o e] at z; cases z⟩
theorem Gd.same (g : Gd K c σ H ρ) (h : ∀ b o, H b = some o → H' b = some o) : Gd K c σ H' ρ := by
  have e : Ev c ρ H ρ H' := .same h
  refine g.next e rfl (fun _ _ z => z) (fun _ _ z => z) (fun _ _ z => z) (fun _ _ _ _ z => z) (fun i l d z => ⟨⟨d, z⟩, ?_⟩) fun i l d z => ⟨⟨d, z⟩, ?_⟩
  · exact (g.own i l d z).2.1.mv (e.mv g) (h l)
  · exact (g.io i l d z).2.1.mv (e.mv g) (h l)
end
end LB

/-! LB, part 2: a slot stored, a list changed, the judgements by value. -/
namespace LB
open PySem PySem.Spec PyProof.Rows L2

section
variable {K : PySem.W.Frag} {c : Ct} {σ σ' : L2.St} {H H' : Hp} {ρ ρ' : List En}
theorem get_set {α : Type} {l : List α} {i j : Nat} {a b : α} (h : (l.set i a)[j]? = some b) : (i = j ∧ a = b ∧ i < l.length) ∨ (i ≠ j ∧ l[j]? = some b) := by
  by_cases e : i = j
  · subst e
    by_cases hl : i < l.length
    · rw [List.getElem?_set_self hl] at h; cases h; exact .inl ⟨rfl, rfl, hl⟩
    · rw [List.getElem?_eq_none (by simpa using hl)] at h; cases h
  · rw [List.getElem?_set_ne e] at h; exact .inr ⟨e, h⟩
theorem oof_set {i : Nat} {e : En} (he : ∀ l d, e ≠ .own l d) : ∀ a, Oof (ρ.set i e) a → Oof ρ a := fun a ⟨j, d, h⟩ => by
  rcases get_set h with ⟨_, h, _⟩ | ⟨_, h⟩
  · exact absurd h (he a d)
  · exact ⟨j, d, h⟩
theorem Ev.shrink (h : ∀ a, Wr ρ' a → Wr ρ a) : Ev c ρ H ρ' H := ⟨fun _ _ e _ => e, fun a z => .inl (h a z), fun _ z => z⟩
/-- a slot forgotten or stored anew with what is told -/
theorem Gd.put (g : Gd K c σ H ρ) (i : Nat) (e : En) (s : Option V) (he : ∀ l d, e ≠ .own l d) (he2 : ∀ l d, e ≠ .io l d)
    (hv : ∀ d, e = .val d → ∃ v, s = some v ∧ Rep K (Mof c ρ) H d v) (hr : ∀ d, e = .rd d → ∃ v, s = some v ∧ See K (Mof c ρ) (Wof c ρ) H d v) (hob : ∀ v, e = .obj v → s = some v) (hxn : ∀ v p x, e = .xn v p x → s = some v ∧ ∃ fs, H p = some (HO.xd fs) ∧ FlatF x fs := by intro _ _ _ z; cases z) : Gd K c (σ.set i s) H (ρ.set i e) := by
  have hs : ∀ a, Oof (ρ.set i e) a → Oof ρ a := oof_set he
  have m : Mv (Mof c ρ) (Mof c (ρ.set i e)) H H := Mv.sub fun a z => z.imp id (hs a)
  have mw : Mv (Wof c ρ) (Wof c (ρ.set i e)) H H := Mv.sub fun a z => z.imp id (hs a)
  have keep : ∀ {j : Nat} {x : Option V}, i ≠ j → σ[j]? = some x → (σ.set i s)[j]? = some x := fun ne h => by rw [List.getElem?_set_ne ne]; exact h
  have here : ∀ {x : Option V}, i < ρ.length → s = x → (σ.set i s)[i]? = some x := fun hl h => by rw [List.getElem?_set_self (by rw [g.len]; exact hl), h]
  refine ⟨by simp [g.len], fun j d h => ?_, fun j d h => ?_, fun j l d h => ?_, fun j l d h => ?_, fun j v h => ?_, fun j k l d d' h1 h2 => ?_, fun j k l d d' h1 h2 => ?_, g.fr, g.wm, g.th, fun j v p x h => ?_⟩
  · rcases get_set h with ⟨rfl, h, hl⟩ | ⟨ne, h⟩
    · obtain ⟨v, h1, h2⟩ := hv d h
      exact ⟨v, here hl h1, h2.mv m⟩
    · obtain ⟨v, h1, h2⟩ := g.val j d h
      exact ⟨v, keep ne h1, h2.mv m⟩
  · rcases get_set h with ⟨rfl, h, hl⟩ | ⟨ne, h⟩
    · obtain ⟨v, h1, h2⟩ := hr d h
      exact ⟨v, here hl h1, h2.mv m mw⟩
    · obtain ⟨v, h1, h2⟩ := g.rd j d h
      exact ⟨v, keep ne h1, h2.mv m mw⟩
  · rcases get_set h with ⟨rfl, h, _⟩ | ⟨ne, h⟩
    · exact absurd h (he l d)
    · obtain ⟨h1, h2, h3⟩ := g.own j l d h
      exact ⟨keep ne h1, h2.mv m fun _ z => z, h3⟩
  · rcases get_set h with ⟨rfl, h, _⟩ | ⟨ne, h⟩
    · exact absurd h (he2 l d)
    · obtain ⟨h1, h2, h3⟩ := g.io j l d h
      exact ⟨keep ne h1, h2.mv m fun _ z => z, h3⟩
  · rcases get_set h with ⟨rfl, h, hl⟩ | ⟨ne, h⟩
    · exact here hl (hob v h)
    · exact keep ne (g.obj j v h)
  · rcases get_set h1 with ⟨rfl, h, _⟩ | ⟨_, h1⟩
    · exact absurd h (he l d)
    · rcases get_set h2 with ⟨rfl, h, _⟩ | ⟨_, h2⟩
      · exact absurd h (he l d')
      · exact g.uo j k l d d' h1 h2
  · rcases get_set h1 with ⟨rfl, h, _⟩ | ⟨_, h1⟩
    · exact absurd h (he2 l d)
    · rcases get_set h2 with ⟨rfl, h, _⟩ | ⟨_, h2⟩
      · exact absurd h (he2 l d')
      · exact g.ui j k l d d' h1 h2
  · rcases get_set h with ⟨rfl, h, hl⟩ | ⟨ne, h⟩
    · obtain ⟨h1, h2⟩ := hxn v p x h
      exact ⟨here hl h1, h2⟩
    · obtain ⟨h1, h2⟩ := g.xn j v p x h
      exact ⟨keep ne h1, h2⟩
theorem Gd.setVal (g : Gd K c σ H ρ) (i : Nat) {d : PyData} {v : V} (h : Rep K (Mof c ρ) H d v) : Gd K c (σ.set i (some v)) H (ρ.set i (.val d)) :=
  g.put i _ _ (fun _ _ z => by cases z) (fun _ _ z => by cases z) (fun d' e => by cases e; exact ⟨v, rfl, h⟩) (fun _ z => by cases z) (fun _ z => by cases z)
theorem Gd.setObj (g : Gd K c σ H ρ) (i : Nat) {v : V} : Gd K c (σ.set i (some v)) H (ρ.set i (.obj v)) :=
  g.put i _ _ (fun _ _ z => by cases z) (fun _ _ z => by cases z) (fun _ z => by cases z) (fun _ z => by cases z) (fun _ z => by cases z; rfl)
theorem Gd.setRd (g : Gd K c σ H ρ) (i : Nat) {d : PyData} {v : V} (h : See K (Mof c ρ) (Wof c ρ) H d v) : Gd K c (σ.set i (some v)) H (ρ.set i (.rd d)) :=
  g.put i _ _ (fun _ _ z => by cases z) (fun _ _ z => by cases z) (fun _ z => by cases z) (fun d' e => by cases e; exact ⟨v, rfl, h⟩) (fun _ z => by cases z)
theorem Gd.setNo (g : Gd K c σ H ρ) (i : Nat) (s : Option V) : Gd K c (σ.set i s) H (ρ.set i .no) :=
  g.put i _ _ (fun _ _ z => by cases z) (fun _ _ z => by cases z) (fun _ z => by cases z) (fun _ z => by cases z) (fun _ z => by cases z)
/-- no list to be changed -/
def plainE : En → Bool
  | .own _ _ => false | .io _ _ => false
  | _ => true
theorem wr_set {i : Nat} {e : En} (he : plainE e = true) : ∀ a, Wr (ρ.set i e) a → Wr ρ a := fun a ⟨j, d, h⟩ => by
  rcases h with h | h
  · rcases get_set h with ⟨_, h, _⟩ | ⟨_, h⟩
    · rw [h] at he; cases he
    · exact ⟨j, d, .inl h⟩
  · rcases get_set h with ⟨_, h, _⟩ | ⟨_, h⟩
    · rw [h] at he; cases he
    · exact ⟨j, d, .inr h⟩
theorem Ev.setNO {i : Nat} {e : En} (he : plainE e = true) : Ev c ρ H (ρ.set i e) H := .shrink (wr_set he)

/-- an own list let go: from now on it is a value -/
theorem Gd.freeze (g : Gd K c σ H ρ) {i : Nat} {l : Addr} {d : PyData} (h : ρ[i]? = some (.own l d)) : Gd K c σ H (ρ.set i (.val d)) ∧ Rep K (Mof c (ρ.set i (.val d))) H d (.ref l) := by
  obtain ⟨h1, h2, h3, h4⟩ := g.own i l d h
  have hs : ∀ a, Oof (ρ.set i (.val d)) a → Oof ρ a := oof_set fun _ _ z => by cases z
  have m : Mv (Mof c ρ) (Mof c (ρ.set i (.val d))) H H := Mv.sub fun a z => z.imp id (hs a)
  have mw : Mv (Wof c ρ) (Wof c (ρ.set i (.val d))) H H := Mv.sub fun a z => z.imp id (hs a)
  have nl : ¬ Mof c (ρ.set i (.val d)) l := by
    rintro (z | ⟨j, e, z⟩)
    · exact h3 z
    · rcases get_set z with ⟨_, z, _⟩ | ⟨ne, z⟩
      · cases z
      · exact ne (g.uo i j l d e h z)
  have r : Rep K (Mof c (ρ.set i (.val d))) H d (.ref l) := by
    have h2' := h2.mv m fun _ z => z
    cases d with
    | list ds => obtain ⟨xs, e1, e2⟩ := h2'; exact ⟨l, xs, rfl, ⟨e1, nl⟩, e2⟩
    | dict ds => obtain ⟨xs, e1, e2⟩ := h2'; exact ⟨l, xs, rfl, ⟨e1, nl⟩, e2⟩
    | _ => exact h2.elim
  refine ⟨?_, r⟩
  have q : ∀ {j : Nat} {e : En}, (ρ.set i (.val d))[j]? = some e → (i = j ∧ e = .val d) ∨ (i ≠ j ∧ ρ[j]? = some e) := fun z => by
    rcases get_set z with ⟨a, b, _⟩ | z
    · exact .inl ⟨a, b.symm⟩
    · exact .inr z
  refine ⟨by simp [g.len], fun j e z => ?_, fun j e z => ?_, fun j a e z => ?_, fun j a e z => ?_, fun j v z => ?_, fun j k a e e' z1 z2 => ?_, fun j k a e e' z1 z2 => ?_, g.fr, g.wm, g.th, fun j v p x z => ?_⟩
  · rcases q z with ⟨rfl, y⟩ | ⟨_, y⟩
    · cases y; exact ⟨_, h1, r⟩
    · obtain ⟨v, a, b⟩ := g.val j e y; exact ⟨v, a, b.mv m⟩
  · rcases q z with ⟨rfl, y⟩ | ⟨_, y⟩
    · cases y
    · obtain ⟨v, a, b⟩ := g.rd j e y; exact ⟨v, a, b.mv m mw⟩
  · rcases q z with ⟨rfl, y⟩ | ⟨_, y⟩
    · cases y
    · obtain ⟨a1, a2, a3⟩ := g.own j a e y; exact ⟨a1, a2.mv m fun _ z => z, a3⟩
  · rcases q z with ⟨rfl, y⟩ | ⟨_, y⟩
    · cases y
    · obtain ⟨a1, a2, a3⟩ := g.io j a e y; exact ⟨a1, a2.mv m fun _ z => z, a3⟩
  · rcases q z with ⟨rfl, y⟩ | ⟨_, y⟩
    · cases y
    · exact g.obj j v y
  · rcases q z1 with ⟨rfl, y⟩ | ⟨_, y1⟩
    · cases y
    · rcases q z2 with ⟨rfl, y⟩ | ⟨_, y2⟩
      · cases y
      · exact g.uo j k a e e' y1 y2
  · rcases q z1 with ⟨rfl, y⟩ | ⟨_, y1⟩
    · cases y
    · rcases q z2 with ⟨rfl, y⟩ | ⟨_, y2⟩
      · cases y
      · exact g.ui j k a e e' y1 y2
  · rcases q z with ⟨rfl, y⟩ | ⟨_, y⟩
    · cases y
    · exact g.xn j v p x y

/-- a new object at p that no value holds -/
theorem Gd.more (g : Gd K c σ H ρ) {p : Addr} (hp : H p = none) (h : ∀ b o, H b = some o → H' b = some o) (hq : H' p ≠ none) : Gd K (c.more p) σ H' ρ := by
  have m : Mv (Mof c ρ) (Mof (c.more p) ρ) H H' := ⟨fun a z => by
      rcases z with (z | rfl) | z
      · exact .inl (.inl z)
      · exact .inr hp
      · exact .inl (.inr z), fun b o e _ => h b o e⟩
  have mw : Mv (Wof c ρ) (Wof (c.more p) ρ) H H' := ⟨fun a z => by
      rcases z with (z | rfl) | z
      · exact .inl (.inl z)
      · exact .inr hp
      · exact .inl (.inr z), fun b o e _ => h b o e⟩
  refine ⟨g.len, fun i d z => ?_, fun i d z => ?_, fun i l d z => ?_, fun i l d z => ?_, g.obj, g.uo, g.ui, fun b o e n => h b o (g.fr b o e fun w => n (.inl w)), fun a z => z.imp (g.wm a) id, fun a z => ?_, fun i v p' x z => ?_⟩
  · obtain ⟨v, a, b⟩ := g.val i d z; exact ⟨v, a, b.mv m⟩
  · obtain ⟨v, a, b⟩ := g.rd i d z; exact ⟨v, a, b.mv m mw⟩
  · obtain ⟨a1, a2, a3, a4⟩ := g.own i l d z
    refine ⟨a1, a2.mv m (h l), fun z => ?_, a4⟩
    rcases z with z | z
    · exact a3 z
    · subst z; exact a2.some hp
  · obtain ⟨a1, a2, a3⟩ := g.io i l d z
    exact ⟨a1, a2.mv m (h l), .inl a3⟩
  · rcases z with z | rfl
    · intro e
      cases e' : H a with
      | none => exact g.th a z e'
      | some o => rw [h a o e'] at e; cases e
    · exact hq
  · obtain ⟨a, fs, e, f⟩ := g.xn i v p' x z
    exact ⟨a, fs, h _ _ e, f⟩
/-- .. is a value like others -/
theorem Gd.less {p : Addr} (g : Gd K (c.more p) σ H ρ) (hw : ∀ a, c.W a → c.M a) (hi : ∀ (i : Nat) d, ρ[i]? ≠ some (.io p d)) (hn : c.H0 p = none) : Gd K c σ H ρ := by
  have m : Mv (Mof (c.more p) ρ) (Mof c ρ) H H := Mv.sub fun a z => z.imp .inl id
  have mw : Mv (Wof (c.more p) ρ) (Wof c ρ) H H := Mv.sub fun a z => z.imp .inl id
  refine ⟨g.len, fun i d z => ?_, fun i d z => ?_, fun i l d z => ?_, fun i l d z => ?_, g.obj, g.uo, g.ui, fun b o e n => g.fr b o e fun w => w.elim n fun q => (by rw [q, hn] at e; cases e), hw, fun a z => g.th a (.inl z), g.xn⟩
  · obtain ⟨v, a, b⟩ := g.val i d z; exact ⟨v, a, b.mv m⟩
  · obtain ⟨v, a, b⟩ := g.rd i d z; exact ⟨v, a, b.mv m mw⟩
  · obtain ⟨a1, a2, a3, a4⟩ := g.own i l d z; exact ⟨a1, a2.mv m (fun _ z => z), fun z => a3 (.inl z), a4⟩
  · obtain ⟨a1, a2, a3⟩ := g.io i l d z
    refine ⟨a1, a2.mv m (fun _ z => z), a3.elim id fun q => ?_⟩
    subst q; exact absurd z (hi i d)
/-- .. is the slot i's own -/
theorem Gd.setOwn {p : Addr} {d : PyData} (g : Gd K (c.more p) σ H ρ) (hw : ∀ a, c.W a → c.M a) (hi : ∀ (i : Nat) d, ρ[i]? ≠ some (.io p d)) (i : Nat) (h : At K (Mof (c.more p) ρ) H p d) (n1 : ¬ c.M p) (n2 : c.H0 p = none) : Gd K c (σ.set i (some (.ref p))) H (ρ.set i (.own p d)) := by
  have sub : ∀ a, Oof (ρ.set i (.own p d)) a → Oof ρ a ∨ a = p := fun a ⟨j, e, z⟩ => by
    rcases get_set z with ⟨_, z, _⟩ | ⟨_, z⟩
    · cases z; exact .inr rfl
    · exact .inl ⟨j, e, z⟩
  have m : Mv (Mof (c.more p) ρ) (Mof c (ρ.set i (.own p d))) H H := Mv.sub fun a z => by
    rcases z with z | z
    · exact .inl (.inl z)
    · rcases sub a z with z | z
      · exact .inr z
      · exact .inl (.inr z)
  have mw : Mv (Wof (c.more p) ρ) (Wof c (ρ.set i (.own p d))) H H := Mv.sub fun a z => by
    rcases z with z | z
    · exact .inl (.inl z)
    · rcases sub a z with z | z
      · exact .inr z
      · exact .inl (.inr z)
  have keep : ∀ {j : Nat} {x : Option V}, i ≠ j → σ[j]? = some x → (σ.set i (some (.ref p)))[j]? = some x := fun ne h => by rw [List.getElem?_set_ne ne]; exact h
  have nop : ∀ (j : Nat) e, ρ[j]? ≠ some (.own p e) := fun j e z => (g.own j p e z).2.2.1 (.inr rfl)
  have q : ∀ {j : Nat} {e : En}, (ρ.set i (.own p d))[j]? = some e → (i = j ∧ e = .own p d ∧ i < ρ.length) ∨ (i ≠ j ∧ ρ[j]? = some e) := fun z => by
    rcases get_set z with ⟨a, b, c⟩ | z
    · exact .inl ⟨a, b.symm, c⟩
    · exact .inr z
  refine ⟨by simp [g.len], fun j e z => ?_, fun j e z => ?_, fun j a e z => ?_, fun j a e z => ?_, fun j v z => ?_, fun j k a e e' z1 z2 => ?_, fun j k a e e' z1 z2 => ?_, fun b o e n => g.fr b o e fun w => w.elim n fun q => (by rw [q, n2] at e; cases e), hw, fun a z => g.th a (.inl z), fun j v p' x z => ?_⟩
  · rcases q z with ⟨rfl, y, _⟩ | ⟨ne, y⟩
    · cases y
    · obtain ⟨v, a, b⟩ := g.val j e y; exact ⟨v, keep ne a, b.mv m⟩
  · rcases q z with ⟨rfl, y, _⟩ | ⟨ne, y⟩
    · cases y
    · obtain ⟨v, a, b⟩ := g.rd j e y; exact ⟨v, keep ne a, b.mv m mw⟩
  · rcases q z with ⟨rfl, y, hl⟩ | ⟨ne, y⟩
    · cases y
      exact ⟨by rw [List.getElem?_set_self (by rw [g.len]; exact hl)], h.mv m fun _ z => z, n1, n2⟩
    · obtain ⟨a1, a2, a3, a4⟩ := g.own j a e y; exact ⟨keep ne a1, a2.mv m fun _ z => z, fun z => a3 (.inl z), a4⟩
  · rcases q z with ⟨rfl, y, _⟩ | ⟨ne, y⟩
    · cases y
    · obtain ⟨a1, a2, a3⟩ := g.io j a e y
      refine ⟨keep ne a1, a2.mv m (fun _ z => z), a3.elim id fun q => ?_⟩
      subst q; exact absurd y (hi j e)
  · rcases q z with ⟨rfl, y, _⟩ | ⟨ne, y⟩
    · cases y
    · exact keep ne (g.obj j v y)
  · rcases q z1 with ⟨rfl, y1, _⟩ | ⟨_, y1⟩
    · rcases q z2 with ⟨rfl, y2, _⟩ | ⟨_, y2⟩
      · rfl
      · cases y1; exact absurd y2 (nop k e')
    · rcases q z2 with ⟨rfl, y2, _⟩ | ⟨_, y2⟩
      · cases y2; exact absurd y1 (nop j e)
      · exact g.uo j k a e e' y1 y2
  · rcases q z1 with ⟨rfl, y, _⟩ | ⟨_, y1⟩
    · cases y
    · rcases q z2 with ⟨rfl, y, _⟩ | ⟨_, y2⟩
      · cases y
      · exact g.ui j k a e e' y1 y2
  · rcases q z with ⟨rfl, y, _⟩ | ⟨ne, y⟩
    · cases y
    · obtain ⟨a, b⟩ := g.xn j v p' x y
      exact ⟨keep ne a, b⟩
end

/-! ### a list changed -/
/-- what the slot i's list holds -/
def cont (i : Nat) (ρ : List En) : Option PyData := match ρ[i]? with
  | some (.own _ d) => some d
  | some (.io _ d) => some d
  | _ => none
/-- .. holds d from now on -/
def wr (i : Nat) (d : PyData) (ρ : List En) : List En := match ρ[i]? with
  | some (.own l _) => ρ.set i (.own l d)
  | some (.io l _) => ρ.set i (.io l d)
  | _ => ρ
section
variable {K : PySem.W.Frag} {c : Ct} {σ σ' : L2.St} {H H' : Hp} {ρ ρ' : List En}
theorem cont_shape {i : Nat} {d : PyData} (h : cont i ρ = some d) : (∃ l, ρ[i]? = some (.own l d)) ∨ ∃ l, ρ[i]? = some (.io l d) := by
  unfold cont at h
  split at h
  · rename_i l e he; cases h; exact .inl ⟨l, he⟩
  · rename_i l e he; cases h; exact .inr ⟨l, he⟩
  · cases h
theorem wr_len (i : Nat) (d : PyData) : (wr i d ρ).length = ρ.length := by
  unfold wr
  split <;> simp
theorem oof_wr {i : Nat} {d : PyData} : ∀ a, Oof (wr i d ρ) a → Oof ρ a := fun a ⟨j, e, h⟩ => by
  unfold wr at h
  split at h
  · rename_i l d0 h0
    rcases get_set h with ⟨rfl, h, _⟩ | ⟨_, h⟩
    · cases h; exact ⟨i, d0, h0⟩
    · exact ⟨j, e, h⟩
  · rename_i l d0 h0
    rcases get_set h with ⟨rfl, h, _⟩ | ⟨_, h⟩
    · cases h
    · exact ⟨j, e, h⟩
  · exact ⟨j, e, h⟩
theorem wr_wr {i : Nat} {d : PyData} : ∀ a, Wr (wr i d ρ) a → Wr ρ a := fun a ⟨j, e, h⟩ => by
  unfold wr at h
  split at h
  · rename_i l d0 h0
    rcases h with h | h
    · rcases get_set h with ⟨rfl, h, _⟩ | ⟨_, h⟩
      · cases h; exact ⟨i, d0, .inl h0⟩
      · exact ⟨j, e, .inl h⟩
    · rcases get_set h with ⟨rfl, h, _⟩ | ⟨_, h⟩
      · cases h
      · exact ⟨j, e, .inr h⟩
  · rename_i l d0 h0
    rcases h with h | h
    · rcases get_set h with ⟨rfl, h, _⟩ | ⟨_, h⟩
      · cases h
      · exact ⟨j, e, .inl h⟩
    · rcases get_set h with ⟨rfl, h, _⟩ | ⟨_, h⟩
      · cases h; exact ⟨i, d0, .inr h0⟩
      · exact ⟨j, e, .inr h⟩
  · exact ⟨j, e, h⟩
theorem wr_own (i : Nat) (d : PyData) {l : Addr} {d0 : PyData} (h : ρ[i]? = some (.own l d0)) : wr i d ρ = ρ.set i (.own l d) := by
  unfold wr; rw [h]
theorem wr_io (i : Nat) (d : PyData) {l : Addr} {d0 : PyData} (h : ρ[i]? = some (.io l d0)) : wr i d ρ = ρ.set i (.io l d) := by
  unfold wr; rw [h]
/-- the list at the slot i, of contents d, may be changed -/
theorem Gd.cell (g : Gd K c σ H ρ) {i : Nat} {d : PyData} (h : cont i ρ = some d) : ∃ l, σ[i]? = some (some (.ref l)) ∧ At K (Mof c ρ) H l d ∧ Wr ρ l ∧ ∀ d' e, (wr i d' ρ)[i]? = some e → e = .own l d' ∨ e = .io l d' := by
  rcases cont_shape h with ⟨l, e⟩ | ⟨l, e⟩
  · obtain ⟨h1, h2, _⟩ := g.own i l d e
    refine ⟨l, h1, h2, ⟨i, d, .inl e⟩, fun d' e' he => ?_⟩
    rw [wr_own i d' e] at he
    rcases get_set he with ⟨_, h, _⟩ | ⟨h, _⟩
    · exact .inl h.symm
    · exact absurd rfl h
  · obtain ⟨h1, h2, h3⟩ := g.io i l d e
    refine ⟨l, h1, h2, ⟨i, d, .inr e⟩, fun d' e' he => ?_⟩
    rw [wr_io i d' e] at he
    rcases get_set he with ⟨_, h, _⟩ | ⟨h, _⟩
    · exact .inr h.symm
    · exact absurd rfl h
theorem Gd.wrt (g : Gd K c σ H ρ) {i : Nat} {d d' : PyData} {l : Addr} {o : HO} (h : cont i ρ = some d) (hl : σ[i]? = some (some (.ref l))) (hA : At K (Mof c ρ) (upd H l o) l d') :
    Gd K c σ (upd H l o) (wr i d' ρ) ∧ Ev c ρ H (wr i d' ρ) (upd H l o) := by
  have ev : Ev c ρ H (wr i d' ρ) (upd H l o) := by
    obtain ⟨l', h1, h2, h3, _⟩ := g.cell h
    rw [hl] at h1; cases h1
    refine ⟨fun b u e n => ?_, fun a z => .inl (wr_wr a z), fun a z => ?_⟩
    · rw [upd_ne (fun q : b = l => n (by rw [q]; exact h3))]; exact e
    · by_cases q : a = l
      · subst q; rw [upd_same] at z; cases z
      · rw [upd_ne q] at z; exact z
  have mv := ev.mv g
  have hA' : At K (Mof c (LB.wr i d' ρ)) (upd H l o) l d' := by
    refine At.mv (M := Mof c ρ) (Mv.sub fun a z => z.imp id (oof_wr a)) (fun _ z => z) hA
  have keep : ∀ {l2 : Addr} {d2 : PyData}, l2 ≠ l → At K (Mof c ρ) H l2 d2 → At K (Mof c (LB.wr i d' ρ)) (upd H l o) l2 d2 := fun ne q => q.mv mv fun o' e => by rw [upd_ne ne]; exact e
  refine ⟨?_, ev⟩
  rcases cont_shape h with ⟨a, e⟩ | ⟨a, e⟩
  · have ea : a = l := by have := (g.own i a d e).1; rw [hl] at this; cases this; rfl
    subst ea
    rw [wr_own i d' e] at ev hA' keep ⊢
    refine g.next ev (by simp) (fun j x z => ?_) (fun j x z => ?_) (fun j x z => ?_) (fun j x1 x2 x3 z => by
      rcases get_set z with ⟨_, z, _⟩ | ⟨_, z⟩
      · cases z
      · exact z) (fun j x y z => ?_) (fun j x y z => ?_)
    · rcases get_set z with ⟨_, z, _⟩ | ⟨_, z⟩
      · cases z
      · exact z
    · rcases get_set z with ⟨_, z, _⟩ | ⟨_, z⟩
      · cases z
      · exact z
    · rcases get_set z with ⟨_, z, _⟩ | ⟨_, z⟩
      · cases z
      · exact z
    · rcases get_set z with ⟨q, y1, _⟩ | ⟨ne, y1⟩
      · cases y1; subst q; exact ⟨⟨d, e⟩, hA'⟩
      · exact ⟨⟨y, y1⟩, keep (fun q => by subst q; exact ne (g.uo i j x d y e y1)) (g.own j x y y1).2.1⟩
    · rcases get_set z with ⟨_, y1, _⟩ | ⟨ne, y1⟩
      · cases y1
      · exact ⟨⟨y, y1⟩, keep (fun q => by subst q; exact (g.own i x d e).2.2.1 (g.wm _ (g.io j x y y1).2.2)) (g.io j x y y1).2.1⟩
  · have ea : a = l := by have := (g.io i a d e).1; rw [hl] at this; cases this; rfl
    subst ea
    rw [wr_io i d' e] at ev hA' keep ⊢
    refine g.next ev (by simp) (fun j x z => ?_) (fun j x z => ?_) (fun j x z => ?_) (fun j x1 x2 x3 z => by
      rcases get_set z with ⟨_, z, _⟩ | ⟨_, z⟩
      · cases z
      · exact z) (fun j x y z => ?_) (fun j x y z => ?_)
    · rcases get_set z with ⟨_, z, _⟩ | ⟨_, z⟩
      · cases z
      · exact z
    · rcases get_set z with ⟨_, z, _⟩ | ⟨_, z⟩
      · cases z
      · exact z
    · rcases get_set z with ⟨_, z, _⟩ | ⟨_, z⟩
      · cases z
      · exact z
    · rcases get_set z with ⟨_, y1, _⟩ | ⟨ne, y1⟩
      · cases y1
      · exact ⟨⟨y, y1⟩, keep (fun q => by subst q; exact (g.own j x y y1).2.2.1 (g.wm _ (g.io i x d e).2.2)) (g.own j x y y1).2.1⟩
    · rcases get_set z with ⟨q, y1, _⟩ | ⟨ne, y1⟩
      · cases y1; subst q; exact ⟨⟨d, e⟩, hA'⟩
      · exact ⟨⟨y, y1⟩, keep (fun q => by subst q; exact ne (g.ui i j x d y e y1)) (g.io j x y y1).2.1⟩
end

/-! ### what an expression gives -/
inductive R where
  | val (d : PyData)
  /-- to be read now, not to be kept -/
  | see (d : PyData)
  /-- the list of the slot i -/
  | at (i : Nat)
  | obj (v : V)
def R.get : R → List En → Option PyData
  | .val d, _ => some d
  | .see d, _ => some d
  | .at i, ρ => cont i ρ
  | .obj _, _ => none
/-- kept: an own list is let go -/
def R.fz : R → List En → Option (PyData × List En)
  | .val d, ρ => some (d, ρ)
  | .see (.list _), _ => none
  | .see (.dict _), _ => none
  | .see d, ρ => some (d, ρ)
  | .at i, ρ => (match ρ[i]? with
    | some (.own _ d) => some (d, ρ.set i (.val d))
    | _ => none)
  | .obj _, _ => none
def RepR (K : PySem.W.Frag) (c : Ct) (σ : L2.St) (H : Hp) (ρ : List En) (v : V) : R → Prop
  | .val d => Rep K (Mof c ρ) H d v
  | .see d => See K (Mof c ρ) (Wof c ρ) H d v
  | .at i => ∃ l, v = .ref l ∧ σ[i]? = some (some (.ref l))
  | .obj u => v = u
section
variable {K : PySem.W.Frag} {c : Ct} {σ σ' : L2.St} {H H' : Hp} {ρ ρ' : List En} {v : V} {r : R}
theorem RepR.ev (h : RepR K c σ H ρ v r) (g : Gd K c σ H ρ) (e : Ev c ρ H ρ' H') : RepR K c σ H' ρ' v r := by
  cases r with
  | val d => exact Rep.mv (e.mv g) h
  | see d => exact See.mv (e.mv g) (e.mvw g) h
  | «at» i => exact h
  | obj u => exact h
/-- no slot's own, nothing to be changed: for what is read now -/
def No : Ow := fun _ => False
theorem RepR.see {d : PyData} (h : RepR K c σ H ρ v r) (g : Gd K c σ H ρ) (e : r.get ρ = some d) : See K (Mof c ρ) No H d v := by
  cases r with
  | val d' => cases e; exact Rep.see h fun _ z => z.elim
  | see d' => cases e; exact See.mv Mv.refl (Mv.sub fun _ z => z.elim) h
  | «at» i =>
    obtain ⟨l, rfl, hl⟩ := h
    obtain ⟨l', h1, h2, _⟩ := g.cell e
    rw [hl] at h1; cases h1
    exact h2.see fun z => z
  | obj u => cases e
theorem RepR.fz {d : PyData} {ρ1 : List En} (h : RepR K c σ H ρ v r) (g : Gd K c σ H ρ) (e : r.fz ρ = some (d, ρ1)) : Gd K c σ H ρ1 ∧ Ev c ρ H ρ1 H ∧ Rep K (Mof c ρ1) H d v := by
  cases r with
  | val d' => cases e; exact ⟨g, .refl, h⟩
  | see d' =>
    cases d' <;> first
      | (cases e; done)
      | (cases e; exact ⟨g, .refl, h⟩)
  | «at» i =>
    obtain ⟨l, rfl, hl⟩ := h
    have e : (match ρ[i]? with
      | some (.own _ d) => some (d, ρ.set i (.val d))
      | _ => none) = some (d, ρ1) := e
    split at e
    · rename_i l' d1 he
      cases e
      have := (g.own i l' _ he).1
      rw [hl] at this; cases this
      exact ⟨(g.freeze he).1, Ev.setNO rfl, (g.freeze he).2⟩
    · cases e
  | obj u => cases e
end
end LB

/-! LB, part 3: the judgements by value; names, constants, operators, comparisons, tests. -/
namespace LB
open PySem PySem.Spec PyProof.Rows L2

/-- an exception by value: its class, its fields -/
structure Xn where
  cls : Addr
  fs : List (Str × PyData)
def RepF (K : PySem.W.Frag) (H : Hp) : List (Str × PyData) → List (Str × V) → Prop
  | [], vs => vs = []
  | (n, d) :: r, vs => ∃ v vs', vs = (n, v) :: vs' ∧ Rep K No H d v ∧ RepF K H r vs'
def RepX (K : PySem.W.Frag) (H : Hp) (x : Xn) (cl : Value) (ad : Option Addr) : Prop :=
  cl = .ref x.cls ∧ ((x.fs = [] ∧ ad = none) ∨ ∃ a vs, ad = some a ∧ H a = some (.xd vs) ∧ RepF K H x.fs vs)

abbrev KX := Xn → List En → Prop
abbrev WE := KX → List En → (R → List En → Prop) → Prop
abbrev WT := KX → List En → (Bool → List En → Prop) → Prop
abbrev WA := KX → List En → (List R → List En → Prop) → Prop
abbrev WN := KX → List En → (PyData → List En → Prop) → Prop
/-- what is wanted of an exception, by the slots -/
abbrev EK := L2.St → XK
def ExOk (K : PySem.W.Frag) (E : EK) (c : Ct) (σ : L2.St) (ρ : List En) (H : Hp) (kx : KX) : Prop := ∀ x ρ' cl ad H', kx x ρ' → Gd K c σ H' ρ' → Ev c ρ H ρ' H' → RepX K H' x cl ad → E σ cl ad H'
theorem ExOk.ev {K : PySem.W.Frag} {E : EK} {c : Ct} {σ : L2.St} {ρ ρ' : List En} {H H' : Hp} {kx : KX} (h : ExOk K E c σ ρ H kx) (e : Ev c ρ H ρ' H') : ExOk K E c σ ρ' H' kx :=
  fun x ρ1 cl ad H1 a b d f => h x ρ1 cl ad H1 a b (e.trans d) f
def lE (X : Cx) (E : EK) (w : WE) : TE := fun σ H Q => ∃ c ρ k kx, Gd X.K c σ H ρ ∧ w kx ρ k ∧ (∀ r ρ' v H', k r ρ' → Gd X.K c σ H' ρ' → Ev c ρ H ρ' H' → RepR X.K c σ H' ρ' v r → Q v H') ∧ ExOk X.K E c σ ρ H kx
def lT (X : Cx) (E : EK) (w : WT) : TT := fun σ H Q => ∃ c ρ k kx, Gd X.K c σ H ρ ∧ w kx ρ k ∧ (∀ b ρ' H', k b ρ' → Gd X.K c σ H' ρ' → Ev c ρ H ρ' H' → Q b H') ∧ ExOk X.K E c σ ρ H kx
def lA (X : Cx) (E : EK) (w : WA) : TA := fun σ H Q => ∃ c ρ k kx, Gd X.K c σ H ρ ∧ w kx ρ k ∧ (∀ rs ρ' vs H', k rs ρ' → Gd X.K c σ H' ρ' → Ev c ρ H ρ' H' → Paired (fun v r => RepR X.K c σ H' ρ' v r) vs rs → Q vs H') ∧ ExOk X.K E c σ ρ H kx
/-- p is lent by no name -/
def NoIo (p : Addr) (ρ : List En) : Prop := ∀ (i : Nat) d, ρ[i]? ≠ some (.io p d)
def lN (X : Cx) (E : EK) (w : WN) : TE := fun σ H Q => ∃ c ρ k kx, Gd X.K c σ H ρ ∧ w kx ρ k ∧ (∀ d ρ' p H', k d ρ' → Gd X.K (c.more p) σ H' ρ' → Ev c ρ H ρ' H' → H p = none → NoIo p ρ' → At X.K (Mof (c.more p) ρ') H' p d → Q (.ref p) H') ∧ ExOk X.K E c σ ρ H kx
structure BE (X : Cx) (E : EK) (e : Expr) (w : WE) : Prop where
  pe : PE X e (lE X E w)
structure BT (X : Cx) (E : EK) (e : Expr) (w : WT) : Prop where
  pt : PT X e (lT X E w)
/-- a test within and, or -/
structure BW (X : Cx) (E : EK) (e : Expr) (w : WT) : Prop where
  pw : PW X e (lT X E w)
structure BA (X : Cx) (E : EK) (es : List Expr) (w : WA) : Prop where
  pa : PA X es (lA X E w)
structure BN (X : Cx) (E : EK) (e : Expr) (w : WN) : Prop where
  pe : PE X e (lN X E w)
theorem peI {X : Cx} {e : Expr} {t t' : TE} (h : PE X e t) (i : ∀ σ H Q, t' σ H Q → t σ H Q) : PE X e t' := ⟨fun pins s σ H Q I q => h.run pins s σ H Q I (i σ H Q q)⟩
theorem ptI {X : Cx} {e : Expr} {t t' : TT} (h : PT X e t) (i : ∀ σ H Q, t' σ H Q → t σ H Q) : PT X e t' := ⟨fun pins s σ H Q I q => h.run pins s σ H Q I (i σ H Q q)⟩
theorem pwI {X : Cx} {e : Expr} {t t' : TT} (h : PW X e t) (i : ∀ σ H Q, t' σ H Q → t σ H Q) : PW X e t' := ⟨fun wh pins s σ H Q I q => h.run wh pins s σ H Q I (i σ H Q q)⟩
theorem paI {X : Cx} {e : List Expr} {t t' : TA} (h : PA X e t) (i : ∀ σ H Q, t' σ H Q → t σ H Q) : PA X e t' := ⟨fun pos pins s σ H Q I q => h.run pos pins s σ H Q I (i σ H Q q)⟩
theorem psI {X : Cx} {e : Stmt} {t t' : TS} (h : PS X e t) (i : ∀ D σ H, t' D σ H → t D σ H) : PS X e t' := ⟨fun pins s σ H D I q => h.run pins s σ H D I (i D σ H q)⟩
theorem pssI {X : Cx} {e : List Stmt} {t t' : TS} (h : PSs X e t) (i : ∀ D σ H, t' D σ H → t D σ H) : PSs X e t' := ⟨fun pins s σ H D I q => h.run pins s σ H D I (i D σ H q)⟩

section
variable {X : Cx} {E : EK} {a b e : Expr} {es : List Expr} {wa wb w : WE} {pos : Pos}
/-! ### names, constants -/
def wVar (i : Nat) : WE := fun _ ρ k => match ρ[i]? with
  | some (.val d) => k (.val d) ρ
  | some (.rd d) => k (.see d) ρ
  | some (.own _ _) => k (.at i) ρ
  | some (.io _ _) => k (.at i) ρ
  | some (.obj v) => k (.obj v) ρ
  | some (.xn v _ _) => k (.obj v) ρ
  | _ => False
theorem be_pv {i : Nat} (h : PE X e (tVar i)) : BE X E e (wVar i) := by
  refine ⟨peI h fun σ H Q ⟨c, ρ, k, kx, g, hw, hk, hx⟩ => ?_⟩
  unfold wVar at hw
  split at hw
  · rename_i d he
    obtain ⟨v, h1, h2⟩ := g.val i d he
    exact ⟨v, h1, hk _ _ _ _ hw g .refl h2⟩
  · rename_i d he
    obtain ⟨v, h1, h2⟩ := g.rd i d he
    exact ⟨v, h1, hk _ _ _ _ hw g .refl h2⟩
  · rename_i l d he
    obtain ⟨h1, h2⟩ := g.own i l d he
    exact ⟨_, h1, hk _ _ _ _ hw g .refl ⟨l, rfl, h1⟩⟩
  · rename_i l d he
    obtain ⟨h1, h2⟩ := g.io i l d he
    exact ⟨_, h1, hk _ _ _ _ hw g .refl ⟨l, rfl, h1⟩⟩
  · rename_i v he
    exact ⟨v, g.obj i v he, hk _ _ _ _ hw g .refl rfl⟩
  · rename_i v p x he
    exact ⟨v, (g.xn i v p x he).1, hk _ _ _ _ hw g .refl rfl⟩
  · exact hw.elim
def wC (d : PyData) : WE := fun _ ρ k => k (.val d) ρ
theorem be_c {v : V} {d : PyData} (h : PE X e (tC v)) (r : ∀ M H, Rep X.K M H d v) : BE X E e (wC d) :=
  ⟨peI h fun σ H Q ⟨c, ρ, k, kx, g, hw, hk, hx⟩ => hk _ _ _ _ hw g .refl (r _ _)⟩
theorem be_int {i j pos} : BE X E (.Constant (.int i) j pos) (wC (.int i)) := be_c pe_int fun _ _ => rfl
theorem be_bl {b j pos} : BE X E (.Constant (.bool b) j pos) (wC (.bool b)) := be_c pe_bl fun _ _ => rfl
theorem be_non {j pos} : BE X E (.Constant .none j pos) (wC .none) := be_c pe_non fun _ _ => rfl
theorem be_str {x j pos} : BE X E (.Constant (.str x) j pos) (wC (.str x)) := be_c pe_str fun _ _ => rfl
/-- a value that is no data -/
def wO (v : V) : WE := fun _ ρ k => k (.obj v) ρ
theorem be_o {v : V} (h : PE X e (tC v)) : BE X E e (wO v) := ⟨peI h fun σ H Q ⟨c, ρ, k, kx, g, hw, hk, hx⟩ => hk _ _ _ _ hw g .refl rfl⟩

/-! ### operators -/
/-- M's places are there -/
def Thr (M : Ow) (H : Hp) : Prop := ∀ a, M a → H a ≠ none
def Sm (H H' : Hp) : Prop := ∀ b o, H b = some o → H' b = some o
abbrev G2 := PyData → PyData → (PyData → Prop) → Prop
/-- a two-place operation by value -/
def OpD (X : Cx) (f : Value → Value → Sem Value) (g : G2) : Prop :=
  ∃ r : R2, OpR X f r ∧ ∀ (M : Ow) (H : Hp) (x y : V) (d e : PyData) (k : PyData → Prop) (Q : VK), Thr M H → See X.K M No H d x → See X.K M No H e y → g d e k →
    (∀ v H' z, k z → Sm H H' → Rep X.K M H' z v → Q v H') → r x y H Q
/-- .. that makes a new list -/
def OpN (X : Cx) (f : Value → Value → Sem Value) (g : G2) : Prop :=
  ∃ r : R2, OpR X f r ∧ ∀ (M : Ow) (H : Hp) (x y : V) (d e : PyData) (k : PyData → Prop) (Q : VK), Thr M H → See X.K M No H d x → See X.K M No H e y → g d e k →
    (∀ p H' z, k z → H p = none → Sm H H' → At X.K (fun a => M a ∨ a = p) H' p z → Q (.ref p) H') → r x y H Q
theorem At.rep {K : PySem.W.Frag} {M : Ow} {H : Hp} {p : Addr} {z : PyData} (h : At K (fun a => M a ∨ a = p) H p z) (n : ¬ M p) : Rep K M H z (.ref p) := by
  have m : Mv (fun a => M a ∨ a = p) M H H := Mv.sub fun a z => .inl z
  cases z with
  | list ds => obtain ⟨xs, h1, h2⟩ := h; exact ⟨p, xs, rfl, ⟨h1, n⟩, h2.mv m⟩
  | dict ds => obtain ⟨xs, h1, h2⟩ := h; exact ⟨p, xs, rfl, ⟨h1, n⟩, h2.mv m⟩
  | _ => exact h.elim
theorem OpN.d {f : Value → Value → Sem Value} {g : G2} (h : OpN X f g) : OpD X f g := by
  obtain ⟨r, h1, h2⟩ := h
  exact ⟨r, h1, fun M H x y d e k Q th sx sy hg hq => h2 M H x y d e k Q th sx sy hg fun p H' z kz hp sm ha => hq _ _ z kz sm (ha.rep fun q => th p q hp)⟩
def wOp (g : G2) (wa wb : WE) : WE := fun kx ρ k => wa kx ρ fun r1 ρ1 => wb kx ρ1 fun r2 ρ2 => ∃ d e, r1.get ρ2 = some d ∧ r2.get ρ2 = some e ∧ g d e fun z => k (.val z) ρ2
theorem bin_run {r : R2} {g : G2} {k : PyData → List En → Prop} (ha : BE X E a wa) (hb : BE X E b wb)
    (h2 : ∀ (M : Ow) (H : Hp) (x y : V) (d e : PyData) (k : PyData → Prop) (Q : VK), Thr M H → See X.K M No H d x → See X.K M No H e y → g d e k → (∀ v H' z, k z → Sm H H' → Rep X.K M H' z v → Q v H') → r x y H Q)
    {σ : L2.St} {H : Hp} {Q : VK} {c : Ct} {ρ : List En} {kx : KX} (gd : Gd X.K c σ H ρ)
    (hw : wa kx ρ fun r1 ρ1 => wb kx ρ1 fun r2 ρ2 => ∃ d e, r1.get ρ2 = some d ∧ r2.get ρ2 = some e ∧ g d e fun z => k z ρ2)
    (hk : ∀ z ρ' v H', k z ρ' → Gd X.K c σ H' ρ' → Ev c ρ H ρ' H' → Rep X.K (Mof c ρ') H' z v → Q v H') (hx : ExOk X.K E c σ ρ H kx) : tOp r (lE X E wa) (lE X E wb) σ H Q := by
  refine ⟨c, ρ, _, kx, gd, hw, fun r1 ρ1 v1 H1 k1 g1 e1 p1 => ?_, hx⟩
  refine ⟨c, ρ1, _, kx, g1, k1, fun r2 ρ2 v2 H2 k2 g2 e2 p2 => ?_, hx.ev e1⟩
  obtain ⟨d, e, hd, he, hg⟩ := k2
  refine h2 (Mof c ρ2) H2 v1 v2 d e _ _ (fun a z => g2.mth z) ((p1.ev g1 e2).see g2 hd) (p2.see g2 he) hg fun v H' z kz sm rp => ?_
  exact hk z ρ2 v H' kz (g2.same sm) ((e1.trans e2).trans (.same sm)) rp
theorem be_op {op : Operator} {g : G2} (ho : OpD X (binaryOp op) g) (ha : BE X E a wa) (hb : BE X E b wb) : BE X E (.BinOp a op b pos) (wOp g wa wb) := by
  obtain ⟨r, h1, h2⟩ := ho
  exact ⟨peI (pe_op h1 ha.pe hb.pe) fun σ H Q ⟨c, ρ, k, kx, gd, hw, hk, hx⟩ => bin_run ha hb h2 gd hw (fun z ρ' v H' a b c d => hk _ _ _ _ a b c d) hx⟩
theorem be_cmp {op : CmpOp} {g : G2} (ho : OpD X (compareOp op) g) (ha : BE X E a wa) (hb : BE X E b wb) (hm : behindInMarks op b = false) : BE X E (.Compare a [op] [b] pos) (wOp g wa wb) := by
  obtain ⟨r, h1, h2⟩ := ho
  exact ⟨peI (pe_cmpR h1 ha.pe hb.pe hm) fun σ H Q ⟨c, ρ, k, kx, gd, hw, hk, hx⟩ => bin_run ha hb h2 gd hw (fun z ρ' v H' a b c d => hk _ _ _ _ a b c d) hx⟩
def wTst (w : WE) : WT := fun kx ρ k => w kx ρ fun r ρ' => ∃ b, r = .val (.bool b) ∧ k b ρ'
theorem bt_cmp {op : CmpOp} {g : G2} (ho : OpD X (compareOp op) g) (ha : BE X E a wa) (hb : BE X E b wb) (hm : behindInMarks op b = false) : BT X E (.Compare a [op] [b] pos) (wTst (wOp g wa wb)) := by
  obtain ⟨r, h1, h2⟩ := ho
  refine ⟨ptI (pt_cmpR h1 ha.pe hb.pe hm) fun σ H Q ⟨c, ρ, k, kx, gd, hw, hk, hx⟩ => ?_⟩
  refine bin_run ha hb h2 gd hw (fun z ρ' v H' a b c d => ?_) hx
  obtain ⟨q, e, hq⟩ := a
  cases e
  exact ⟨q, d, hk _ _ _ hq b c⟩
/-- an expression that gives a truth value, as a test -/
theorem bt_val (h : BE X E e w) (he : ∀ whole, isTrue e X.env whole = (do let v ← whole; standAt e.pos; holding [v] (truthy v)) := by intro _; rfl) : BT X E e (wTst w) := by
  refine ⟨ptI (pt_val h.pe he) fun σ H Q ⟨c, ρ, k, kx, gd, hw, hk, hx⟩ => ?_⟩
  refine ⟨c, ρ, _, kx, gd, hw, fun r ρ' v H' k1 g1 e1 p1 => ?_, hx⟩
  obtain ⟨q, e, hq⟩ := k1
  subst e
  exact ⟨q, p1, hk _ _ _ hq g1 e1⟩
/-- a op b op' c -/
def wChain (g g' : G2) (wa wb wc : WE) : WE := fun kx ρ k => wa kx ρ fun r1 ρ1 => wb kx ρ1 fun r2 ρ2 => ∃ d e, r1.get ρ2 = some d ∧ r2.get ρ2 = some e ∧ g d e fun z => ∃ q, z = .bool q ∧
  if q = true then wc kx ρ2 fun r3 ρ3 => ∃ e' f, r2.get ρ3 = some e' ∧ r3.get ρ3 = some f ∧ g' e' f fun z => k (.val z) ρ3 else k (.val (.bool false)) ρ2
theorem be_chain {op op' : CmpOp} {g g' : G2} {c0 : Expr} {wc : WE} (ho : OpD X (compareOp op) g) (ho' : OpD X (compareOp op') g') (ha : BE X E a wa) (hb : BE X E b wb) (hc : BE X E c0 wc)
    (mk : ∀ {r r' : R2} {ta tb tc : TE}, OpR X (compareOp op) r → OpR X (compareOp op') r' → PE X a ta → PE X b tb → PE X c0 tc → PE X (.Compare a [op, op'] [b, c0] pos) (tChain r r' ta tb tc)) :
    BE X E (.Compare a [op, op'] [b, c0] pos) (wChain g g' wa wb wc) := by
  obtain ⟨r, h1, h2⟩ := ho
  obtain ⟨r', h1', h2'⟩ := ho'
  refine ⟨peI (mk h1 h1' ha.pe hb.pe hc.pe) fun σ H Q ⟨c, ρ, k, kx, gd, hw, hk, hx⟩ => ?_⟩
  refine ⟨c, ρ, _, kx, gd, hw, fun r1 ρ1 v1 H1 k1 g1 e1 p1 => ?_, hx⟩
  refine ⟨c, ρ1, _, kx, g1, k1, fun r2 ρ2 v2 H2 k2 g2 e2 p2 => ?_, hx.ev e1⟩
  obtain ⟨d, e, hd, he, hg⟩ := k2
  refine h2 (Mof c ρ2) H2 v1 v2 d e _ _ (fun a z => g2.mth z) ((p1.ev g1 e2).see g2 hd) (p2.see g2 he) hg fun v H' z kz sm rp => ?_
  obtain ⟨q, rfl, hq⟩ := kz
  have g2' := g2.same sm
  have e12 := (e1.trans e2).trans (Ev.same (c := c) (ρ := ρ2) sm)
  refine ⟨q, rp, ?_⟩
  cases q with
  | false => exact hk _ ρ2 _ H' hq g2' e12 rfl
  | true =>
    refine ⟨c, ρ2, _, kx, g2', hq, fun r3 ρ3 v3 H3 k3 g3 e3 p3 => ?_, hx.ev e12⟩
    obtain ⟨e', f, he', hf, hg'⟩ := k3
    refine h2' (Mof c ρ3) H3 v2 v3 e' f _ _ (fun a z => g3.mth z) (((p2.ev g2 (Ev.same sm)).ev g2' e3).see g3 he') (p3.see g3 hf) hg' fun v H'' z kz sm' rp' => ?_
    exact hk _ ρ3 v H'' kz (g3.same sm') ((e12.trans e3).trans (.same sm')) rp'
/-- one-place operators on ints -/
def wUn (f : Int → Int) (wa : WE) : WE := fun kx ρ k => wa kx ρ fun r ρ1 => ∃ i, r.get ρ1 = some (.int i) ∧ k (.val (.int (f i))) ρ1
theorem be_un {op : UnaryOp} {f : Int → Int} (ho : UnR X (unaryOp op) (rU fun i => .int (f i))) (ha : BE X E a wa) : BE X E (.UnaryOp op a pos) (wUn f wa) := by
  refine ⟨peI (pe_un ho ha.pe) fun σ H Q ⟨c, ρ, k, kx, gd, hw, hk, hx⟩ => ?_⟩
  refine ⟨c, ρ, _, kx, gd, hw, fun r1 ρ1 v1 H1 k1 g1 e1 p1 => ?_, hx⟩
  obtain ⟨i, hi, h⟩ := k1
  have := p1.see g1 hi
  exact ⟨i, this, hk _ ρ1 _ H1 h g1 e1 rfl⟩

/-! ### tests joined -/
def wNot (w : WT) : WT := fun kx ρ k => w kx ρ fun b ρ' => k (!b) ρ'
theorem bt_not {w : WT} (h : BT X E a w) : BT X E (.UnaryOp .Not a pos) (wNot w) := by
  refine ⟨ptI (pt_not h.pt) fun σ H Q ⟨c, ρ, k, kx, gd, hw, hk, hx⟩ => ?_⟩
  exact ⟨c, ρ, _, kx, gd, hw, fun q ρ' H' a b d => hk _ _ _ a b d, hx⟩
def wAnd (w u : WT) : WT := fun kx ρ k => w kx ρ fun b ρ' => if b = true then u kx ρ' k else k false ρ'
def wOr (w u : WT) : WT := fun kx ρ k => w kx ρ fun b ρ' => if b = true then k true ρ' else u kx ρ' k
theorem BW.bt {w : WT} (h : BW X E e w) : BT X E e w := ⟨h.pw.pt⟩
theorem bw_and1 {w : WT} (h : BT X E a w) : BW X E (.BoolOp .And [a] pos) w := ⟨pw_and1 h.pt⟩
theorem bw_or1 {w : WT} (h : BT X E a w) : BW X E (.BoolOp .Or [a] pos) w := ⟨pw_or1 h.pt⟩
variable {rest : List Expr}
theorem bw_and {w u : WT} (h : BT X E a w) (h2 : BW X E (.BoolOp .And (b :: rest) pos) u) : BW X E (.BoolOp .And (a :: b :: rest) pos) (wAnd w u) := by
  refine ⟨pwI (pw_and h.pt h2.pw) fun σ H Q ⟨c, ρ, k, kx, gd, hw, hk, hx⟩ => ?_⟩
  refine ⟨c, ρ, _, kx, gd, hw, fun q ρ' H' k1 g1 e1 => ?_, hx⟩
  cases q with
  | true => exact ⟨c, ρ', k, kx, g1, k1, fun q' ρ2 H2 k2 g2 e2 => hk q' ρ2 H2 k2 g2 (e1.trans e2), hx.ev e1⟩
  | false => exact hk _ _ _ k1 g1 e1
theorem bw_or {w u : WT} (h : BT X E a w) (h2 : BW X E (.BoolOp .Or (b :: rest) pos) u) : BW X E (.BoolOp .Or (a :: b :: rest) pos) (wOr w u) := by
  refine ⟨pwI (pw_or h.pt h2.pw) fun σ H Q ⟨c, ρ, k, kx, gd, hw, hk, hx⟩ => ?_⟩
  refine ⟨c, ρ, _, kx, gd, hw, fun q ρ' H' k1 g1 e1 => ?_, hx⟩
  cases q with
  | false => exact ⟨c, ρ', k, kx, g1, k1, fun q' ρ2 H2 k2 g2 e2 => hk q' ρ2 H2 k2 g2 (e1.trans e2), hx.ev e1⟩
  | true => exact hk _ _ _ k1 g1 e1
/-- as values, of truth values -/
def wAndV (w u : WE) : WE := fun kx ρ k => w kx ρ fun r ρ' => ∃ q, r = .val (.bool q) ∧ if q = true then u kx ρ' k else k (.val (.bool false)) ρ'
def wOrV (w u : WE) : WE := fun kx ρ k => w kx ρ fun r ρ' => ∃ q, r = .val (.bool q) ∧ if q = true then k (.val (.bool true)) ρ' else u kx ρ' k
def wNotV (w : WE) : WE := fun kx ρ k => w kx ρ fun r ρ' => ∃ q, r = .val (.bool q) ∧ k (.val (.bool (!q))) ρ'
theorem be_one {op} (h : BE X E a w) : BE X E (.BoolOp op [a] pos) w := ⟨pe_one h.pe⟩
theorem be_and {u : WE} (h : BE X E a w) (h2 : BE X E (.BoolOp .And (b :: rest) pos) u) : BE X E (.BoolOp .And (a :: b :: rest) pos) (wAndV w u) := by
  refine ⟨peI (pe_and h.pe h2.pe) fun σ H Q ⟨c, ρ, k, kx, gd, hw, hk, hx⟩ => ?_⟩
  refine ⟨c, ρ, _, kx, gd, hw, fun r ρ' v H' k1 g1 e1 p1 => ?_, hx⟩
  obtain ⟨q, rfl, k1⟩ := k1
  refine ⟨q, p1, ?_⟩
  cases q with
  | true => exact ⟨c, ρ', k, kx, g1, k1, fun r' ρ2 v2 H2 k2 g2 e2 p2 => hk r' ρ2 v2 H2 k2 g2 (e1.trans e2) p2, hx.ev e1⟩
  | false => exact hk _ _ _ _ k1 g1 e1 rfl
theorem be_or {u : WE} (h : BE X E a w) (h2 : BE X E (.BoolOp .Or (b :: rest) pos) u) : BE X E (.BoolOp .Or (a :: b :: rest) pos) (wOrV w u) := by
  refine ⟨peI (pe_or h.pe h2.pe) fun σ H Q ⟨c, ρ, k, kx, gd, hw, hk, hx⟩ => ?_⟩
  refine ⟨c, ρ, _, kx, gd, hw, fun r ρ' v H' k1 g1 e1 p1 => ?_, hx⟩
  obtain ⟨q, rfl, k1⟩ := k1
  refine ⟨q, p1, ?_⟩
  cases q with
  | false => exact ⟨c, ρ', k, kx, g1, k1, fun r' ρ2 v2 H2 k2 g2 e2 p2 => hk r' ρ2 v2 H2 k2 g2 (e1.trans e2) p2, hx.ev e1⟩
  | true => exact hk _ _ _ _ k1 g1 e1 rfl
theorem be_not (h : BE X E a w) : BE X E (.UnaryOp .Not a pos) (wNotV w) := by
  refine ⟨peI (pe_not h.pe) fun σ H Q ⟨c, ρ, k, kx, gd, hw, hk, hx⟩ => ?_⟩
  refine ⟨c, ρ, _, kx, gd, hw, fun r ρ' v H' k1 g1 e1 p1 => ?_, hx⟩
  obtain ⟨q, rfl, k1⟩ := k1
  exact ⟨q, p1, hk _ _ _ _ k1 g1 e1 rfl⟩
def wIf (t : WT) (w u : WE) : WE := fun kx ρ k => t kx ρ fun b ρ' => if b = true then w kx ρ' k else u kx ρ' k
theorem be_if {c0 : Expr} {t : WT} (hc : BT X E c0 t) (ha : BE X E a wa) (hb : BE X E b wb) : BE X E (.IfExp c0 a b pos) (wIf t wa wb) := by
  refine ⟨peI (pe_ifExp hc.pt ha.pe hb.pe) fun σ H Q ⟨c, ρ, k, kx, gd, hw, hk, hx⟩ => ?_⟩
  refine ⟨c, ρ, _, kx, gd, hw, fun q ρ' H' k1 g1 e1 => ?_, hx⟩
  cases q with
  | true => exact ⟨c, ρ', k, kx, g1, k1, fun r' ρ2 v2 H2 k2 g2 e2 p2 => hk r' ρ2 v2 H2 k2 g2 (e1.trans e2) p2, hx.ev e1⟩
  | false => exact ⟨c, ρ', k, kx, g1, k1, fun r' ρ2 v2 H2 k2 g2 e2 p2 => hk r' ρ2 v2 H2 k2 g2 (e1.trans e2) p2, hx.ev e1⟩

/-! ### arguments -/
def wNil : WA := fun _ ρ k => k [] ρ
def wCons (w : WE) (u : WA) : WA := fun kx ρ k => w kx ρ fun r ρ1 => u kx ρ1 fun rs ρ2 => k (r :: rs) ρ2
theorem ba_nil : BA X E [] wNil := ⟨paI pa_nil fun σ H Q ⟨c, ρ, k, kx, gd, hw, hk, hx⟩ => hk [] ρ [] H hw gd .refl .nil⟩
theorem ba_cons {u : WA} (h : BE X E e w) (h2 : BA X E es u) (hs : starEach (e :: es) X.env = (false, eval e X.env) :: starEach es X.env := by rfl) : BA X E (e :: es) (wCons w u) := by
  refine ⟨paI (pa_cons h.pe h2.pa hs) fun σ H Q ⟨c, ρ, k, kx, gd, hw, hk, hx⟩ => ?_⟩
  refine ⟨c, ρ, _, kx, gd, hw, fun r1 ρ1 v1 H1 k1 g1 e1 p1 => ?_, hx⟩
  refine ⟨c, ρ1, _, kx, g1, k1, fun rs ρ2 vs H2 k2 g2 e2 p2 => ?_, hx.ev e1⟩
  exact hk _ _ _ _ k2 g2 (e1.trans e2) (.cons (p1.ev g1 e2) p2)
/-- all read, all kept -/
def getA : List R → List En → Option (List PyData)
  | [], _ => some []
  | r :: rs, ρ => match r.get ρ with
    | some d => (match getA rs ρ with
      | some ds => some (d :: ds)
      | none => none)
    | none => none
def fzA : List R → List En → Option (List PyData × List En)
  | [], ρ => some ([], ρ)
  | r :: rs, ρ => match r.fz ρ with
    | some (d, ρ1) => (match fzA rs ρ1 with
      | some (ds, ρ2) => some (d :: ds, ρ2)
      | none => none)
    | none => none
abbrev SeeA (K : PySem.W.Frag) (M : Ow) (H : Hp) : List V → List PyData → Prop := Paired fun v d => See K M No H d v
theorem getA_see {K : PySem.W.Frag} {c : Ct} {σ : L2.St} {H : Hp} {ρ : List En} (g : Gd K c σ H ρ) : ∀ {rs : List R} {vs : List V} {ds : List PyData}, Paired (fun v r => RepR K c σ H ρ v r) vs rs → getA rs ρ = some ds → SeeA K (Mof c ρ) H vs ds
  | [], _, _, .nil, e => by cases e; exact .nil
  | r :: rs, _, ds, .cons p q, e => by
    unfold getA at e
    split at e
    · rename_i d hd
      split at e
      · rename_i ds' hds
        cases e
        exact .cons (p.see g hd) (getA_see g q hds)
      · cases e
    · cases e
theorem Pmap {α β : Type} {F G : α → β → Prop} : ∀ {l₁ : List α} {l₂ : List β}, Paired F l₁ l₂ → (∀ a b, F a b → G a b) → Paired G l₁ l₂
  | _, _, .nil, _ => .nil
  | _, _, .cons r t, f => .cons (f _ _ r) (Pmap t f)
theorem fzA_rep {K : PySem.W.Frag} {c : Ct} {σ : L2.St} {H : Hp} : ∀ {rs : List R} {ρ ρ' : List En} {vs : List V} {ds : List PyData}, Gd K c σ H ρ → Paired (fun v r => RepR K c σ H ρ v r) vs rs → fzA rs ρ = some (ds, ρ') →
    Gd K c σ H ρ' ∧ Ev c ρ H ρ' H ∧ RepAll K (Mof c ρ') H ds vs
  | [], _, _, _, _, g, .nil, e => by cases e; exact ⟨g, .refl, rfl⟩
  | r :: rs, ρ, ρ', _, ds, g, .cons p q, e => by
    unfold fzA at e
    split at e
    · rename_i d ρ1 hd
      split at e
      · rename_i ds' ρ2 hds
        cases e
        obtain ⟨g1, e1, r1⟩ := p.fz g hd
        obtain ⟨g2, e2, r2⟩ := fzA_rep g1 (Pmap q fun _ _ z => RepR.ev z g e1) hds
        exact ⟨g2, e1.trans e2, _, _, rfl, r1.mv (e2.mv g1), r2⟩
      · cases e
    · cases e
/-! ### displays -/
def wTup (u : WA) : WE := fun kx ρ k => u kx ρ fun rs ρ1 => ∃ ds ρ2, fzA rs ρ1 = some (ds, ρ2) ∧ ds.length ≤ sizeLine ∧ k (.val (.tuple ds)) ρ2
theorem be_tup {x1} {u : WA} (h : BA X E es u) : BE X E (.Tuple es x1 pos) (wTup u) := by
  refine ⟨peI (pe_tup h.pa) fun σ H Q ⟨c, ρ, k, kx, gd, hw, hk, hx⟩ => ?_⟩
  refine ⟨c, ρ, _, kx, gd, hw, fun rs ρ1 vs H1 k1 g1 e1 p1 => ?_, hx⟩
  obtain ⟨ds, ρ2, hf, hl, k1⟩ := k1
  obtain ⟨g2, e2, r2⟩ := fzA_rep g1 p1 hf
  refine ⟨by rw [r2.len]; exact hl, fun p hp => ?_⟩
  have sm : Sm H1 (upd H1 p (.tup vs)) := fun b o e => by rw [upd_ne (ne_of_none e hp)]; exact e
  have e3 : Ev c ρ2 H1 ρ2 (upd H1 p (.tup vs)) := .same sm
  exact hk _ _ _ _ k1 (g2.same sm) ((e1.trans e2).trans e3) ⟨p, vs, rfl, .inl ⟨upd_same, fun z => g2.mth z hp⟩, r2.mv (e3.mv g2)⟩
def wLst (u : WA) : WN := fun kx ρ k => u kx ρ fun rs ρ1 => ∃ ds ρ2, fzA rs ρ1 = some (ds, ρ2) ∧ ds.length ≤ sizeLine ∧ k (.list ds) ρ2
theorem Gd.noio {K : PySem.W.Frag} {c : Ct} {σ : L2.St} {H : Hp} {ρ : List En} (g : Gd K c σ H ρ) {p : Addr} (hp : H p = none) : NoIo p ρ := fun i d z => by
  obtain ⟨_, h, _⟩ := g.io i p d z
  exact h.some hp
theorem bn_lst {u : WA} (h : BA X E es u) : BN X E (.List es pos) (wLst u) := by
  refine ⟨peI (pe_lst h.pa) fun σ H Q ⟨c, ρ, k, kx, gd, hw, hk, hx⟩ => ?_⟩
  refine ⟨c, ρ, _, kx, gd, hw, fun rs ρ1 vs H1 k1 g1 e1 p1 => ?_, hx⟩
  obtain ⟨ds, ρ2, hf, hl, k1⟩ := k1
  obtain ⟨g2, e2, r2⟩ := fzA_rep g1 p1 hf
  refine ⟨by rw [r2.len]; exact hl, fun p hp => ?_⟩
  have sm : Sm H1 (upd H1 p (.lst vs)) := fun b o e => by rw [upd_ne (ne_of_none e hp)]; exact e
  have g3 := g2.more hp sm (by rw [upd_same]; intro z; cases z)
  have hp0 : H p = none := e1.there p hp
  refine hk _ _ _ _ k1 g3 ((e1.trans e2).trans (.same sm)) hp0 (g2.noio hp) ⟨vs, upd_same, r2.mv ⟨fun a z => ?_, fun b o e _ => sm b o e⟩⟩
  rcases z with (z | rfl) | z
  · exact .inl (.inl z)
  · exact .inr hp
  · exact .inl (.inr z)
/-- a new list as a value like others -/
def wOf (w : WN) : WE := fun kx ρ k => w kx ρ fun d ρ' => k (.val d) ρ'
theorem BN.be {w : WN} (h : BN X E e w) : BE X E e (wOf w) := by
  refine ⟨peI h.pe fun σ H Q ⟨c, ρ, k, kx, gd, hw, hk, hx⟩ => ?_⟩
  refine ⟨c, ρ, _, kx, gd, hw, fun d ρ1 p H1 k1 g1 e1 hp ni ha => ?_, hx⟩
  have h0 : c.H0 p = none := by
    cases q : c.H0 p with
    | none => rfl
    | some o =>
      by_cases hW : c.W p
      · exact absurd hp (gd.th p (gd.wm p hW))
      · have := gd.fr p o q hW; rw [hp] at this; cases this
  have g2 := g1.less gd.wm ni h0
  refine hk _ _ _ _ k1 g2 e1 ?_
  have n : ¬ Mof c ρ1 p := fun z => by
    rcases z with z | ⟨i, d', z⟩
    · exact gd.th p z hp
    · exact (g1.own i p d' z).2.2.1 (.inr rfl)
  have m : Mv (Mof (c.more p) ρ1) (Mof c ρ1) H1 H1 := Mv.sub fun a z => z.imp .inl id
  cases d with
  | list ds => obtain ⟨xs, h1, h2⟩ := ha; exact ⟨p, xs, rfl, ⟨h1, n⟩, h2.mv m⟩
  | dict ds => obtain ⟨xs, h1, h2⟩ := ha; exact ⟨p, xs, rfl, ⟨h1, n⟩, h2.mv m⟩
  | _ => exact ha.elim
def wOpN (g : G2) (wa wb : WE) : WN := fun kx ρ k => wa kx ρ fun r1 ρ1 => wb kx ρ1 fun r2 ρ2 => ∃ d e, r1.get ρ2 = some d ∧ r2.get ρ2 = some e ∧ g d e fun z => k z ρ2
theorem bn_op {op : Operator} {g : G2} (ho : OpN X (binaryOp op) g) (ha : BE X E a wa) (hb : BE X E b wb) : BN X E (.BinOp a op b pos) (wOpN g wa wb) := by
  obtain ⟨r, h1, h2⟩ := ho
  refine ⟨peI (pe_op h1 ha.pe hb.pe) fun σ H Q ⟨c, ρ, k, kx, gd, hw, hk, hx⟩ => ?_⟩
  refine ⟨c, ρ, _, kx, gd, hw, fun r1 ρ1 v1 H1 k1 g1 e1 p1 => ?_, hx⟩
  refine ⟨c, ρ1, _, kx, g1, k1, fun r2 ρ2 v2 H2 k2 g2 e2 p2 => ?_, hx.ev e1⟩
  obtain ⟨d, e, hd, he, hg⟩ := k2
  refine h2 (Mof c ρ2) H2 v1 v2 d e _ _ (fun a z => g2.mth z) ((p1.ev g1 e2).see g2 hd) (p2.see g2 he) hg fun p H' z kz hp sm ha => ?_
  have hp0 : H p = none := (e1.trans e2).there p hp
  exact hk z ρ2 p H' kz (g2.more hp sm ha.some) ((e1.trans e2).trans (.same sm)) hp0 (g2.noio hp) (At.mv (Mv.sub fun a w => by
    rcases w with (w | w) | w
    · exact .inl (.inl w)
    · exact .inr w
    · exact .inl (.inr w)) (fun _ w => w) ha)
end
end LB

/-! LB, part 4: operators, comparisons, built-ins, subscripts by value. -/
namespace LB
open PySem PySem.Spec PyProof.Rows L2
section
variable {K : PySem.W.Frag} {M W : Ow} {H : Hp}
/-! ### reading data -/
theorem TpAt.sq {a : Addr} {xs : List V} (h : TpAt K M H a xs) : SqT K H a xs := by
  rcases h with h | h
  · exact .inl (.inl h.1)
  · exact .inr h
mutual
theorem Rep.dp : ∀ {d : PyData} {v : V}, Rep K M H d v → PyData.canLay0 d = true → Dp K H v d
  | .none, _, h, _ => by cases (show _ = _ from h); exact .non
  | .bool b, _, h, _ => by cases (show _ = _ from h); exact .bl b
  | .int i, _, h, _ => by cases (show _ = _ from h); exact .int i
  | .str s, _, h, _ => by cases (show _ = _ from h); exact .str s
  | .list ds, v, h, c => by
    obtain ⟨a, xs, rfl, l, r⟩ := h
    exact .lst (.of l.1) (RepAll.dp r (by simpa [PyData.canLay0] using c))
  | .tuple ds, v, h, c => by
    obtain ⟨a, xs, rfl, l, r⟩ := h
    exact .tup l.sq (RepAll.dp r (by simpa [PyData.canLay0] using c))
  | .dict kvs, v, h, c => by simp [PyData.canLay0] at c
theorem RepAll.dp : ∀ {ds : List PyData} {xs : List V}, RepAll K M H ds xs → PyData.canLayAll0 ds = true → DpAll K H xs ds
  | [], _, h, _ => by cases h; exact .nil
  | d :: ds, xs, h, c => by
    obtain ⟨v, vs, rfl, h1, h2⟩ := h
    have c' : d.canLay0 = true ∧ PyData.canLayAll0 ds = true := by simpa [PyData.canLayAll0] using c
    exact .cons (Rep.dp h1 c'.1) (RepAll.dp h2 c'.2)
end
theorem See.dp {d : PyData} {v : V} (h : See K M W H d v) (c : PyData.canLay0 d = true) : Dp K H v d := by
  cases d with
  | list ds =>
    obtain ⟨a, xs, rfl, l, r⟩ := h
    exact .lst (.of l.1) (RepAll.dp r (by simpa [PyData.canLay0] using c))
  | dict kvs => simp [PyData.canLay0] at c
  | none => exact Rep.dp (M := M) h c
  | bool b => exact Rep.dp (M := M) (d := .bool b) h c
  | int b => exact Rep.dp (M := M) (d := .int b) h c
  | str b => exact Rep.dp (M := M) (d := .str b) h c
  | tuple b => exact Rep.dp (M := M) (d := .tuple b) h c
theorem See.int {i : Int} {v : V} (h : See K M W H (.int i) v) : v = .int i := h
theorem See.str {i : Str} {v : V} (h : See K M W H (.str i) v) : v = .str i := h
theorem See.bl {i : Bool} {v : V} (h : See K M W H (.bool i) v) : v = .bl i := h
theorem See.lst {ds : List PyData} {v : V} (h : See K M W H (.list ds) v) : ∃ a xs, v = .ref a ∧ H a = some (.lst xs) ∧ RepAll K M H ds xs := by
  obtain ⟨a, xs, e, l, r⟩ := h; exact ⟨a, xs, e, l.1, r⟩
theorem See.tup {ds : List PyData} {v : V} (h : See K M W H (.tuple ds) v) : ∃ a xs, v = .ref a ∧ SqT K H a xs ∧ RepAll K M H ds xs := by
  obtain ⟨a, xs, e, l, r⟩ := h; exact ⟨a, xs, e, l.sq, r⟩
end

/-! ### dicts whose keys are ints and texts -/
def kvD (p : Key × PyData) : PyData × PyData := (kD p.1, p.2)
def valK {κ α : Type} [DecidableEq κ] (l : List (κ × α)) (k : κ) : Option α := (l.find? fun p => decide (p.1 = k)).map (·.2)
def putA {κ α : Type} [DecidableEq κ] (l : List (κ × α)) (k : κ) (a : α) : List (κ × α) :=
  if (l.any fun p => decide (p.1 = k)) = true then l.map (fun p => if p.1 = k then (p.1, a) else p) else l ++ [(k, a)]
def dropA {κ α : Type} [DecidableEq κ] (l : List (κ × α)) (k : κ) : List (κ × α) := l.filter fun p => decide (p.1 ≠ k)
/-- d[e] -/
structure DIx (kvs : List (PyData × PyData)) (e : PyData) (k : PyData → Prop) : Prop where
  run : ∃ (l : List (Key × PyData)) (key : Key) (d : PyData), kvs = l.map kvD ∧ e = kD key ∧ valK l key = some d ∧ k d
/-- whether e is a key -/
structure DIn (kvs : List (PyData × PyData)) (e : PyData) (k : Bool → Prop) : Prop where
  run : ∃ (l : List (Key × PyData)) (key : Key), kvs = l.map kvD ∧ e = kD key ∧ k (valK l key).isSome
/-- d[e] = z -/
structure DSet (kvs : List (PyData × PyData)) (e z : PyData) (k : PyData → Prop) : Prop where
  run : ∃ (l : List (Key × PyData)) (key : Key), kvs = l.map kvD ∧ e = kD key ∧ l.length < sizeLine ∧ k (.dict ((putA l key z).map kvD))
/-- d.get(e, z) -/
structure DOr (kvs : List (PyData × PyData)) (e z : PyData) (k : PyData → Prop) : Prop where
  run : ∃ (l : List (Key × PyData)) (key : Key), kvs = l.map kvD ∧ e = kD key ∧ k ((valK l key).getD z)
theorem kD_inj {a b : Key} (h : kD a = kD b) : a = b := by
  match a, b, h with
  | .inl _, .inl _, rfl => rfl
  | .inr _, .inr _, rfl => rfl
theorem valK_pos {κ α : Type} [DecidableEq κ] {p : κ × α} {l : List (κ × α)} {k : κ} (e : p.1 = k) : valK (p :: l) k = some p.2 := by simp [valK, List.find?_cons, e]
theorem valK_neg {κ α : Type} [DecidableEq κ] {p : κ × α} {l : List (κ × α)} {k : κ} (e : ¬ p.1 = k) : valK (p :: l) k = valK l k := by simp [valK, List.find?_cons, e]
theorem valK_nil {κ α : Type} [DecidableEq κ] {k : κ} : valK ([] : List (κ × α)) k = none := rfl
section
variable {K : PySem.W.Frag} {M W : Ow} {H : Hp}
theorem See.key {key : Key} {v : V} (h : See K M W H (kD key) v) : v = kV key := by
  cases key with
  | inl i => exact h
  | inr x => exact h
/-- typed pairs against the dict's -/
def PKV (K : PySem.W.Frag) (M : Ow) (H : Hp) : List (Key × PyData) → List (Key × V) → Prop := Paired fun p q => p.1 = q.1 ∧ Rep K M H p.2 q.2
theorem RepKV.of : ∀ {l : List (Key × PyData)} {ks : List (Key × V)}, RepKV K M H (l.map kvD) ks → PKV K M H l ks
  | [], _, h => by cases (show _ = _ from h); exact .nil
  | p :: l, ks, h => by
    obtain ⟨k, v, ks', rfl, ⟨h1, h2⟩, h3⟩ := h
    exact .cons ⟨(kD_inj h1).symm, h2⟩ (RepKV.of h3)
theorem PKV.back : ∀ {l : List (Key × PyData)} {ks : List (Key × V)}, PKV K M H l ks → RepKV K M H (l.map kvD) ks
  | _, _, .nil => rfl
  | _, _, .cons (a := p) (b := q) h t => ⟨q.1, q.2, _, rfl, ⟨by rw [← h.1], h.2⟩, PKV.back t⟩
theorem RepDV.dk {l : List (Key × PyData)} {o : HO} (h : RepDV K M H (l.map kvD) o) : ∃ ks, o = .dK ks ∧ PKV K M H l ks := by
  cases o with
  | dK ks => exact ⟨ks, rfl, RepKV.of h⟩
  | dT ks =>
    obtain ⟨ne, h⟩ := h
    cases l with
    | nil => exact absurd h ne
    | cons p l =>
      obtain ⟨k, v, ks', _, ⟨h1, _⟩, _⟩ := h
      obtain ⟨x, d⟩ := p
      cases x <;> cases h1
  | _ => exact h.elim
theorem See.dct {l : List (Key × PyData)} {v : V} (h : See K M W H (.dict (l.map kvD)) v) : ∃ a ks, v = .ref a ∧ H a = some (.dK ks) ∧ PKV K M H l ks := by
  obtain ⟨a, o, e, ⟨h1, _⟩, r⟩ := h
  obtain ⟨ks, rfl, p⟩ := RepDV.dk r
  exact ⟨a, ks, e, h1, p⟩
theorem PKV.val {k : Key} : ∀ {l : List (Key × PyData)} {ks : List (Key × V)}, PKV K M H l ks → (valK l k = none ∧ valV ks k = none) ∨ ∃ d v, valK l k = some d ∧ valV ks k = some v ∧ Rep K M H d v
  | _, _, .nil => .inl ⟨rfl, rfl⟩
  | _, _, .cons (a := p) (b := q) h t => by
    by_cases e : p.1 = k
    · exact .inr ⟨p.2, q.2, valK_pos e, valV_pos (h.1.symm.trans e), h.2⟩
    · have e' : ¬ q.1 = k := fun z => e (h.1.trans z)
      rw [valV_neg e', valK_neg e]
      exact PKV.val t
theorem PKV.len {l : List (Key × PyData)} {ks : List (Key × V)} (h : PKV K M H l ks) : ks.length = l.length := (Paired.length h).symm
theorem PKV.any {k : Key} : ∀ {l : List (Key × PyData)} {ks : List (Key × V)}, PKV K M H l ks → (ks.any fun q => decide (q.1 = k)) = l.any fun p => decide (p.1 = k)
  | _, _, .nil => rfl
  | _, _, .cons h t => by rw [List.any_cons, List.any_cons, PKV.any t, h.1]
theorem PKV.repl {k : Key} {d : PyData} {v : V} (r : Rep K M H d v) : ∀ {l : List (Key × PyData)} {ks : List (Key × V)}, PKV K M H l ks → PKV K M H (l.map fun p => if p.1 = k then (p.1, d) else p) (ks.map fun p => if p.1 = k then (p.1, v) else p)
  | _, _, .nil => .nil
  | _, _, .cons (a := p) (b := q) h t => by
    refine .cons ?_ (PKV.repl r t)
    by_cases e : p.1 = k
    · have e' : q.1 = k := h.1.symm.trans e
      simp only [if_pos e, if_pos e']; exact ⟨h.1, r⟩
    · have e' : ¬ q.1 = k := fun z => e (h.1.trans z)
      simp only [if_neg e, if_neg e']; exact h
theorem PKV.put {k : Key} {d : PyData} {v : V} (r : Rep K M H d v) {l : List (Key × PyData)} {ks : List (Key × V)} (h : PKV K M H l ks) : PKV K M H (putA l k d) (putK ks k v) := by
  unfold putA putK
  rw [h.any]
  by_cases h0 : (l.any fun p => decide (p.1 = k)) = true
  · rw [if_pos h0, if_pos h0]
    clear h0
    unfold PKV
    exact PKV.repl r h
  · rw [if_neg h0, if_neg h0]
    exact Paired.snoc h ⟨rfl, r⟩
theorem PKV.drop {k : Key} {l : List (Key × PyData)} {ks : List (Key × V)} (h : PKV K M H l ks) : PKV K M H (dropA l k) (dropK ks k) := by
  unfold dropA dropK
  induction h with
  | nil => exact .nil
  | @cons p q ps qs h t ih =>
    rw [List.filter_cons, List.filter_cons, ← h.1]
    split
    · exact .cons h ih
    · exact ih
theorem PKV.mv {M' : Ow} {H' : Hp} (m : Mv M M' H H') {l : List (Key × PyData)} {ks : List (Key × V)} (h : PKV K M H l ks) : PKV K M' H' l ks := Paired.mapP h fun _ _ z => ⟨z.1, z.2.mv m⟩
theorem At.dct {a : Addr} {l : List (Key × PyData)} (h : At K M H a (.dict (l.map kvD))) : ∃ ks, H a = Option.some (HO.dK ks) ∧ PKV K M H l ks := by
  obtain ⟨o, h1, r⟩ := h
  obtain ⟨ks, rfl, p⟩ := RepDV.dk r
  exact ⟨ks, h1, p⟩
theorem PKV.at {a : Addr} {l : List (Key × PyData)} {ks : List (Key × V)} (e : H a = some (.dK ks)) (h : PKV K M H l ks) : At K M H a (.dict (l.map kvD)) := ⟨_, e, PKV.back h⟩
end
section
variable {X : Cx}
theorem ix_dict (hu : X.A.units + 1 < cLine) : IxR X (fun x y H Q => ∃ a v, x = .ref a ∧ DGet H a y (some v) ∧ Q v H) := by
  intro value slice pins s σ H x y v u Q I rx ry h hs
  obtain ⟨a, r, rfl, g, q⟩ := h
  obtain rfl : v = Value.ref a := rx
  exact tail_any (dict_typeIs I g) PySem.F.slot_dict_getitem.lookup (d_getItem hu I g ry fun w' s' I' rw' => ⟨r, H, I', rw', q⟩) hs
theorem op_in_dict (hu : X.A.units + 1 < cLine) : OpR X (compareOp .In) (fun x y H Q => ∃ a o, y = .ref a ∧ DGet H a x o ∧ Q (.bl o.isSome) H) := by
  intro pins s σ H x y v u Q I rx ry h
  obtain ⟨a, o, rfl, g, q⟩ := h
  obtain rfl : u = Value.ref a := ry
  exact d_in hu I g rx fun s' I' => ⟨.bl o.isSome, H, I', rfl, q⟩
theorem op_notIn_dict (hu : X.A.units + 1 < cLine) : OpR X (compareOp .NotIn) (fun x y H Q => ∃ a o, y = .ref a ∧ DGet H a x o ∧ Q (.bl (!o.isSome)) H) := by
  intro pins s σ H x y v u Q I rx ry h
  obtain ⟨a, o, rfl, g, q⟩ := h
  obtain rfl : u = Value.ref a := ry
  exact d_notIn hu I g rx fun s' I' => ⟨.bl (!o.isSome), H, I', rfl, q⟩
end

/-! ### operators on ints -/
def g2I (C : Int → Int → Prop) (f : Int → Int → PyData) : G2
  | .int i, .int j, k => C i j ∧ k (f i j)
  | _, _, _ => False
def g2I0 (f : Int → Int → PyData) : G2
  | .int i, .int j, k => k (f i j)
  | _, _, _ => False
section
variable {X : Cx}
theorem opd_I {f : Value → Value → Sem Value} {C : Int → Int → Prop} {g : Int → Int → Int} (h : OpR X f (rI C fun i j => .int (g i j))) : OpD X f (g2I C fun i j => .int (g i j)) := by
  refine ⟨_, h, fun M H x y d e k Q th sx sy hg hq => ?_⟩
  unfold g2I at hg
  split at hg
  · exact ⟨_, _, sx.int, sy.int, hg.1, hq _ _ _ hg.2 (fun _ _ z => z) rfl⟩
  · exact hg.elim
theorem opd_I0 {f : Value → Value → Sem Value} {g : Int → Int → Int} (h : OpR X f (rI0 fun i j => .int (g i j))) : OpD X f (g2I0 fun i j => .int (g i j)) := by
  refine ⟨_, h, fun M H x y d e k Q th sx sy hg hq => ?_⟩
  unfold g2I0 at hg
  split at hg
  · exact ⟨_, _, sx.int, sy.int, hq _ _ _ hg (fun _ _ z => z) rfl⟩
  · exact hg.elim
theorem opd_B0 {f : Value → Value → Sem Value} {g : Int → Int → Bool} (h : OpR X f (rI0 fun i j => .bl (g i j))) : OpD X f (g2I0 fun i j => .bool (g i j)) := by
  refine ⟨_, h, fun M H x y d e k Q th sx sy hg hq => ?_⟩
  unfold g2I0 at hg
  split at hg
  · exact ⟨_, _, sx.int, sy.int, hq _ _ _ hg (fun _ _ z => z) rfl⟩
  · exact hg.elim
abbrev gMinus : G2 := g2I0 fun i j => .int (i - j)
abbrev gMul : G2 := g2I CMul fun i j => .int (i * j)
abbrev gMulX : G2 := g2I CMulX fun i j => .int (i * j)
abbrev gFdiv : G2 := g2I CDivW fun i j => .int (i / j)
abbrev gMod : G2 := g2I (fun _ j => 0 < j) fun i j => .int (i % j)
abbrev gPow : G2 := g2I CPow fun i j => .int (i ^ j.toNat)
abbrev gShl : G2 := g2I CShl fun i j => .int (i * 2 ^ j.toNat)
abbrev gShr : G2 := g2I (fun _ j => 0 ≤ j) fun i j => .int (i / 2 ^ j.toNat)
abbrev gAnd : G2 := g2I0 fun i j => .int (Builtin.bitAnd i j)
abbrev gOr : G2 := g2I0 fun i j => .int (Builtin.bitOr i j)
abbrev gXor : G2 := g2I0 fun i j => .int (Builtin.bitXor i j)
theorem od_sub : OpD X (binaryOp .Sub) gMinus := opd_I0 op_sub
theorem od_mul : OpD X (binaryOp .Mult) gMul := opd_I op_mul
theorem od_mulX : OpD X (binaryOp .Mult) gMulX := opd_I op_mulX
theorem od_fdiv : OpD X (binaryOp .FloorDiv) gFdiv := opd_I op_fdivW
theorem od_mod : OpD X (binaryOp .Mod) gMod := opd_I op_mod
theorem od_pow : OpD X (binaryOp .Pow) gPow := opd_I op_pow
theorem od_shl : OpD X (binaryOp .LShift) gShl := opd_I op_shlW
theorem od_shr : OpD X (binaryOp .RShift) gShr := opd_I op_shr
theorem od_and : OpD X (binaryOp .BitAnd) gAnd := opd_I0 op_and
theorem od_or : OpD X (binaryOp .BitOr) gOr := opd_I0 op_or
theorem od_xor : OpD X (binaryOp .BitXor) gXor := opd_I0 op_xor
abbrev gLt : G2 := g2I0 fun i j => .bool (decide (i < j))
abbrev gLe : G2 := g2I0 fun i j => .bool (decide (i ≤ j))
abbrev gGt : G2 := g2I0 fun i j => .bool (decide (j < i))
abbrev gGe : G2 := g2I0 fun i j => .bool (decide (j ≤ i))
theorem od_lt : OpD X (compareOp .Lt) gLt := opd_B0 op_lt
theorem od_le : OpD X (compareOp .LtE) gLe := opd_B0 op_le
theorem od_gt : OpD X (compareOp .Gt) gGt := opd_B0 op_gt
theorem od_ge : OpD X (compareOp .GtE) gGe := opd_B0 op_ge

/-! ### + -/
def gAdd : G2
  | .int i, .int j, k => k (.int (i + j))
  | .str x, .str y, k => x.length + y.length ≤ sizeLine ∧ k (.str (x ++ y))
  | .tuple xs, .tuple ys, k => xs.length + ys.length ≤ sizeLine ∧ k (.tuple (xs ++ ys))
  | _, _, _ => False
theorem od_add : OpD X (binaryOp .Add) gAdd := by
  refine ⟨_, (op_add.or op_add_str).or op_catA, fun M H x y d e k Q th sx sy hg hq => ?_⟩
  unfold gAdd at hg
  split at hg
  · exact .inl (.inl ⟨_, _, sx.int, sy.int, hq _ _ _ hg (fun _ _ z => z) rfl⟩)
  · exact .inl (.inr ⟨_, _, sx.str, sy.str, hg.1, hq _ _ _ hg.2 (fun _ _ z => z) rfl⟩)
  · rename_i xs ys
    obtain ⟨a, us, rfl, la, ra⟩ := sx
    obtain ⟨b, vs, rfl, lb, rb⟩ := sy
    refine .inr ⟨a, b, us, vs, rfl, rfl, la.sq, lb.sq, by rw [ra.len, rb.len]; exact hg.1, fun e => ?_, fun e1 e2 => ?_, fun _ _ p hp => ?_⟩
    · subst e
      have : xs = [] := by have := ra.len; cases xs with | nil => rfl | cons _ _ => simp at this
      subst this
      exact hq _ _ _ hg.2 (fun _ _ z => z) ⟨b, vs, rfl, lb, rb⟩
    · subst e2
      have : ys = [] := by have := rb.len; cases ys with | nil => rfl | cons _ _ => simp at this
      subst this
      exact hq _ _ _ hg.2 (fun _ _ z => z) (by rw [List.append_nil]; exact ⟨a, us, rfl, la, ra⟩)
    · have sm : Sm H (upd H p (.tup (us ++ vs))) := fun b o e => by rw [upd_ne (ne_of_none e hp)]; exact e
      exact hq _ _ _ hg.2 sm ⟨p, _, rfl, .inl ⟨upd_same, fun z => th p z hp⟩, (ra.app rb).mv ⟨fun _ z => .inl z, fun b o e _ => sm b o e⟩⟩
  · exact hg.elim
/-- list + list -/
def gCat : G2
  | .list xs, .list ys, k => xs.length + ys.length ≤ sizeLine ∧ k (.list (xs ++ ys))
  | _, _, _ => False
theorem mv_new {M : Ow} {H H' : Hp} {p : Addr} (hp : H p = none) (sm : Sm H H') : Mv M (fun a => M a ∨ a = p) H H' := ⟨fun a z => z.imp id fun q => by rw [q]; exact hp, fun b o e _ => sm b o e⟩
theorem sm_upd {H : Hp} {p : Addr} {o : HO} (hp : H p = none) : Sm H (upd H p o) := fun b u e => by rw [upd_ne (ne_of_none e hp)]; exact e
theorem od_cat : OpN X (binaryOp .Add) gCat := by
  refine ⟨_, op_cat, fun M H x y d e k Q th sx sy hg hq => ?_⟩
  unfold gCat at hg
  split at hg
  · obtain ⟨a, us, rfl, la, ra⟩ := sx.lst
    obtain ⟨b, vs, rfl, lb, rb⟩ := sy.lst
    refine ⟨a, b, us, vs, rfl, rfl, la, lb, by rw [ra.len, rb.len]; exact hg.1, fun p hp => ?_⟩
    exact hq _ _ _ hg.2 hp (sm_upd hp) ⟨_, upd_same, (ra.app rb).mv (mv_new hp (sm_upd hp))⟩
  · exact hg.elim
/-- + of what it may be -/
def gAddA : G2
  | .int i, .int j, k => k (.int (i + j))
  | .str x, .str y, k => x.length + y.length ≤ sizeLine ∧ k (.str (x ++ y))
  | .tuple xs, .tuple ys, k => xs.length + ys.length ≤ sizeLine ∧ k (.tuple (xs ++ ys))
  | .list xs, .list ys, k => xs.length + ys.length ≤ sizeLine ∧ k (.list (xs ++ ys))
  | _, _, _ => False
theorem od_addA : OpD X (binaryOp .Add) gAddA := by
  obtain ⟨r1, h1, k1⟩ := od_add (X := X)
  obtain ⟨r2, h2, k2⟩ := (od_cat (X := X)).d
  refine ⟨_, h1.or h2, fun M H x y d e k Q th sx sy hg hq => ?_⟩
  unfold gAddA at hg
  split at hg
  · exact .inl (k1 M H x y _ _ k Q th sx sy hg hq)
  · exact .inl (k1 M H x y _ _ k Q th sx sy hg hq)
  · exact .inl (k1 M H x y _ _ k Q th sx sy hg hq)
  · exact .inr (k2 M H x y _ _ k Q th sx sy hg hq)
  · exact hg.elim
/-- list * int -/
def gRep : G2
  | .list xs, .int j, k => (-(2 ^ 63) ≤ j ∧ j < 2 ^ 63 ∧ xs.length * j.toNat ≤ sizeLine) ∧ k (.list (List.replicate j.toNat xs).flatten)
  | _, _, _ => False
theorem RepAll.rep {K : PySem.W.Frag} {M : Ow} {H : Hp} {ds : List PyData} {xs : List V} (h : RepAll K M H ds xs) : ∀ n : Nat, RepAll K M H (List.replicate n ds).flatten (List.replicate n xs).flatten
  | 0 => rfl
  | n + 1 => by
    rw [List.replicate_succ, List.replicate_succ, List.flatten_cons, List.flatten_cons]
    exact h.app (RepAll.rep h n)
theorem od_rep : OpN X (binaryOp .Mult) gRep := by
  refine ⟨_, op_rep, fun M H x y d e k Q th sx sy hg hq => ?_⟩
  unfold gRep at hg
  split at hg
  · obtain ⟨a, us, rfl, la, ra⟩ := sx.lst
    refine ⟨a, _, us, rfl, sy.int, la, hg.1.1, hg.1.2.1, by rw [ra.len]; exact hg.1.2.2, fun p hp => ?_⟩
    exact hq _ _ _ hg.2 hp (sm_upd hp) ⟨_, upd_same, (ra.rep _).mv (mv_new hp (sm_upd hp))⟩
  · exact hg.elim

/-! ### ==, !=, is None -/
def scalD : PyData → PyData → Bool
  | .none, .none => true | .none, .int _ => true | .int _, .none => true | .none, .bool _ => true | .bool _, .none => true | .none, .str _ => true | .str _, .none => true
  | .int _, .int _ => true | .bool _, .bool _ => true | .str _, .str _ => true
  | .int _, .str _ => true | .str _, .int _ => true | .bool _, .str _ => true | .str _, .bool _ => true
  | _, _ => false
def EqOk (d e : PyData) : Prop := scalD d e = true ∨ (SeqAt.shaped d = true ∧ SeqAt.shaped e = true)
def gEq : G2 := fun d e k => EqOk d e ∧ k (.bool (PyData.eqv d e))
def gNe : G2 := fun d e k => EqOk d e ∧ k (.bool (!PyData.eqv d e))
theorem scal_eq {K : PySem.W.Frag} {M W : Ow} {H : Hp} {d e : PyData} {x y : V} (s : scalD d e = true) (sx : See K M W H d x) (sy : See K M W H e y) : scal x y = true ∧ decide (x = y) = PyData.eqv d e := by
  cases d <;> cases e <;> first
    | (cases s; done)
    | (cases (show _ = _ from sx); cases (show _ = _ from sy); refine ⟨rfl, ?_⟩; simp [PyData.eqv, Bool.beq_eq_decide_eq]; done)
    | (cases (show _ = _ from sx); cases (show _ = _ from sy); refine ⟨rfl, ?_⟩; simp only [PyData.eqv]; first | exact dec_int | exact dec_bl | exact dec_str)
theorem od_eq (hu : X.A.units + 64 < cLine) : OpD X (compareOp .Eq) gEq := by
  refine ⟨_, op_eq.or (op_eqD hu), fun M H x y d e k Q th sx sy hg hq => ?_⟩
  obtain ⟨ok, hk⟩ := hg
  rcases ok with s | ⟨s1, s2⟩
  · obtain ⟨h1, h2⟩ := scal_eq s sx sy
    exact .inl ⟨h1, hq _ _ _ hk (fun _ _ z => z) (by rw [h2]; rfl)⟩
  · exact .inr ⟨d, e, sx.dp (SeqAt.canLay_of_shaped s1), sy.dp (SeqAt.canLay_of_shaped s2), s1, s2, hq _ _ _ hk (fun _ _ z => z) rfl⟩
theorem od_ne (hu : X.A.units + 64 < cLine) : OpD X (compareOp .NotEq) gNe := by
  refine ⟨_, op_ne.or (op_neD hu), fun M H x y d e k Q th sx sy hg hq => ?_⟩
  obtain ⟨ok, hk⟩ := hg
  rcases ok with s | ⟨s1, s2⟩
  · obtain ⟨h1, h2⟩ := scal_eq s sx sy
    exact .inl ⟨h1, hq _ _ _ hk (fun _ _ z => z) (by rw [h2]; rfl)⟩
  · exact .inr ⟨d, e, sx.dp (SeqAt.canLay_of_shaped s1), sy.dp (SeqAt.canLay_of_shaped s2), s1, s2, hq _ _ _ hk (fun _ _ z => z) rfl⟩
def isNoneD : PyData → Bool
  | .none => true
  | _ => false
def gIsN : G2
  | d, .none, k => k (.bool (isNoneD d))
  | _, _, _ => False
def gNotN : G2
  | d, .none, k => k (.bool (!isNoneD d))
  | _, _, _ => False
theorem isNone_of {K : PySem.W.Frag} {M W : Ow} {H : Hp} {d : PyData} {x : V} (h : See K M W H d x) : decide (x = .non) = isNoneD d := by
  cases d with
  | none => cases (show _ = _ from h); rfl
  | bool b => cases (show _ = _ from h); rfl
  | int b => cases (show _ = _ from h); rfl
  | str b => cases (show _ = _ from h); rfl
  | list b => obtain ⟨a, xs, rfl, _⟩ := h; rfl
  | tuple b => obtain ⟨a, xs, rfl, _⟩ := h; rfl
  | dict b => obtain ⟨a, xs, rfl, _⟩ := h; rfl
theorem od_isN : OpD X (compareOp .Is) gIsN := by
  refine ⟨_, op_isN, fun M H x y d e k Q th sx sy hg hq => ?_⟩
  cases e with
  | none => exact ⟨sy, hq _ _ _ hg (fun _ _ z => z) (by rw [isNone_of sx]; rfl)⟩
  | _ => exact hg.elim
theorem od_notN : OpD X (compareOp .IsNot) gNotN := by
  refine ⟨_, op_notN, fun M H x y d e k Q th sx sy hg hq => ?_⟩
  cases e with
  | none => exact ⟨sy, hq _ _ _ hg (fun _ _ z => z) (by rw [isNone_of sx]; rfl)⟩
  | _ => exact hg.elim

/-! ### in -/
def flatD : PyData → Bool
  | .none => true | .bool _ => true | .int _ => true | .str _ => true
  | _ => false
def inD (d : PyData) (ds : List PyData) : Bool := ds.any fun z => PyData.eqv z d
def InOk (d : PyData) (ds : List PyData) : Prop := (flatD d = true ∧ ds.all flatD = true) ∨ (SeqAt.shaped d = true ∧ SeqAt.shaped (.list ds) = true)
def gInB (neg : Bool) : G2
  | d, .list ds, k => InOk d ds ∧ k (.bool (if neg then !inD d ds else inD d ds))
  | d, .tuple ds, k => (flatD d = true ∧ ds.all flatD = true) ∧ k (.bool (if neg then !inD d ds else inD d ds))
  | .str x, .str y, k => k (.bool (if neg then !(!(Builtin.Str.occurrences y x 0 y.length 1).isEmpty) else !(Builtin.Str.occurrences y x 0 y.length 1).isEmpty))
  | d, .dict kvs, k => DIn kvs d fun b => k (.bool (if neg then !b else b))
  | _, _, _ => False
theorem flat_of {K : PySem.W.Frag} {M W : Ow} {H : Hp} {d : PyData} {x : V} (h : See K M W H d x) (f : flatD d = true) : flatV x = true := by
  cases d <;> first
    | (cases (show _ = _ from h); rfl)
    | cases f
theorem eqV_of {K : PySem.W.Frag} {M M' W W' : Ow} {H : Hp} {d e : PyData} {x y : V} (h : See K M W H d x) (h' : See K M' W' H e y) (f : flatD d = true) (f' : flatD e = true) : eqV x y = PyData.eqv d e := by
  cases d <;> cases e <;> first
    | (cases f; done)
    | (cases f'; done)
    | (cases (show _ = _ from h); cases (show _ = _ from h'); simp [eqV, PyData.eqv]; done)
    | (cases (show _ = _ from h); cases (show _ = _ from h'); rfl)
theorem any_of {K : PySem.W.Frag} {M W : Ow} {H : Hp} {d : PyData} {x : V} (h : See K M W H d x) (f : flatD d = true) : ∀ {ds : List PyData} {xs : List V}, RepAll K M H ds xs → ds.all flatD = true → xs.all flatV = true ∧ inV x xs = inD d ds
  | [], _, r, _ => by cases r; exact ⟨rfl, rfl⟩
  | e :: ds, xs, r, fa => by
    obtain ⟨v, vs, rfl, h1, h2⟩ := r
    rw [List.all_cons, Bool.and_eq_true] at fa
    have s1 : See K M No H e v := h1.see fun _ z => z.elim
    obtain ⟨a, b⟩ := any_of h f h2 fa.2
    refine ⟨by rw [List.all_cons, flat_of s1 fa.1, a]; rfl, ?_⟩
    unfold inV inD at b ⊢
    rw [List.any_cons, List.any_cons, b, eqV_of s1 h fa.1 f]
theorem od_in (hu : X.A.units + 65 < cLine) : OpD X (compareOp .In) (gInB false) := by
  refine ⟨_, ((op_in_seq.or (op_inD hu)).or op_in_str).or (op_in_dict (by omega)), fun M H x y d e k Q th sx sy hg hq => ?_⟩
  unfold gInB at hg
  split at hg
  · obtain ⟨ok, hk⟩ := hg
    rcases ok with ⟨f1, f2⟩ | ⟨s1, s2⟩
    · obtain ⟨b, vs, rfl, lb, rb⟩ := sy.lst
      obtain ⟨h1, h2⟩ := any_of sx f1 rb f2
      exact .inl (.inl (.inl ⟨b, vs, rfl, .inl (.of lb), flat_of sx f1, h1, hq _ _ _ hk (fun _ _ z => z) (by rw [h2]; rfl)⟩))
    · exact .inl (.inl (.inr ⟨_, _, sx.dp (SeqAt.canLay_of_shaped s1), sy.dp (SeqAt.canLay_of_shaped s2), s1, s2, hq _ _ _ hk (fun _ _ z => z) rfl⟩))
  · obtain ⟨⟨f1, f2⟩, hk⟩ := hg
    obtain ⟨b, vs, rfl, lb, rb⟩ := sy.tup
    obtain ⟨h1, h2⟩ := any_of sx f1 rb f2
    exact .inl (.inl (.inl ⟨b, vs, rfl, .inr lb, flat_of sx f1, h1, hq _ _ _ hk (fun _ _ z => z) (by rw [h2]; rfl)⟩))
  · exact .inl (.inr ⟨_, _, sx.str, sy.str, hq _ _ _ hg (fun _ _ z => z) rfl⟩)
  · obtain ⟨l, key, rfl, rfl, hk⟩ := hg.run
    obtain ⟨a, ks, rfl, e, p⟩ := sy.dct
    refine .inr ⟨a, valV ks key, rfl, ?_, hq _ _ _ hk (fun _ _ z => z) ?_⟩
    · rw [sx.key]; exact DGet.k e
    · rcases p.val (k := key) with ⟨h1, h2⟩ | ⟨d, v, h1, h2, _⟩ <;> rw [h1, h2] <;> rfl
  · exact hg.elim
theorem od_nin (hu : X.A.units + 65 < cLine) : OpD X (compareOp .NotIn) (gInB true) := by
  refine ⟨_, ((op_notIn_seq.or (op_notInD hu)).or L2.op_notIn_str).or (op_notIn_dict (by omega)), fun M H x y d e k Q th sx sy hg hq => ?_⟩
  unfold gInB at hg
  split at hg
  · obtain ⟨ok, hk⟩ := hg
    rcases ok with ⟨f1, f2⟩ | ⟨s1, s2⟩
    · obtain ⟨b, vs, rfl, lb, rb⟩ := sy.lst
      obtain ⟨h1, h2⟩ := any_of sx f1 rb f2
      exact .inl (.inl (.inl ⟨b, vs, rfl, .inl (.of lb), flat_of sx f1, h1, hq _ _ _ hk (fun _ _ z => z) (by rw [h2]; rfl)⟩))
    · exact .inl (.inl (.inr ⟨_, _, sx.dp (SeqAt.canLay_of_shaped s1), sy.dp (SeqAt.canLay_of_shaped s2), s1, s2, hq _ _ _ hk (fun _ _ z => z) rfl⟩))
  · obtain ⟨⟨f1, f2⟩, hk⟩ := hg
    obtain ⟨b, vs, rfl, lb, rb⟩ := sy.tup
    obtain ⟨h1, h2⟩ := any_of sx f1 rb f2
    exact .inl (.inl (.inl ⟨b, vs, rfl, .inr lb, flat_of sx f1, h1, hq _ _ _ hk (fun _ _ z => z) (by rw [h2]; rfl)⟩))
  · exact .inl (.inr ⟨_, _, sx.str, sy.str, hq _ _ _ hg (fun _ _ z => z) rfl⟩)
  · obtain ⟨l, key, rfl, rfl, hk⟩ := hg.run
    obtain ⟨a, ks, rfl, e, p⟩ := sy.dct
    refine .inr ⟨a, valV ks key, rfl, ?_, hq _ _ _ hk (fun _ _ z => z) ?_⟩
    · rw [sx.key]; exact DGet.k e
    · rcases p.val (k := key) with ⟨h1, h2⟩ | ⟨d, v, h1, h2, _⟩ <;> rw [h1, h2] <;> rfl
  · exact hg.elim
end
end LB

/-! LB, part 5: calls of built-ins, subscripts, slices, methods by value. -/
namespace LB
open PySem PySem.Spec PyProof.Rows L2
abbrev GL := List PyData → (PyData → Prop) → Prop
section
variable {X : Cx} {E : EK}
def CallD (X : Cx) (f : Value) (g : GL) : Prop := ∃ r, CallR X f r ∧ ∀ (M : Ow) (H : Hp) (xs : List V) (ds : List PyData) (k : PyData → Prop) (Q : VK), Thr M H → SeeA X.K M H xs ds → g ds k →
  (∀ v H' z, k z → Sm H H' → Rep X.K M H' z v → Q v H') → r xs H Q
def CallN (X : Cx) (f : Value) (g : GL) : Prop := ∃ r, CallR X f r ∧ ∀ (M : Ow) (H : Hp) (xs : List V) (ds : List PyData) (k : PyData → Prop) (Q : VK), Thr M H → SeeA X.K M H xs ds → g ds k →
  (∀ p H' z, k z → H p = none → Sm H H' → At X.K (fun a => M a ∨ a = p) H' p z → Q (.ref p) H') → r xs H Q
def wCB (g : GL) (u : WA) : WE := fun kx ρ k => u kx ρ fun rs ρ1 => ∃ ds, getA rs ρ1 = some ds ∧ g ds fun z => k (.val z) ρ1
def wCBN (g : GL) (u : WA) : WN := fun kx ρ k => u kx ρ fun rs ρ1 => ∃ ds, getA rs ρ1 = some ds ∧ g ds fun z => k z ρ1
theorem cb_run {r : List V → Hp → VK → Prop} {g : GL} {es : List Expr} {u : WA} (ha : BA X E es u)
    (h2 : ∀ (M : Ow) (H : Hp) (xs : List V) (ds : List PyData) (k : PyData → Prop) (Q : VK), Thr M H → SeeA X.K M H xs ds → g ds k → (∀ v H' z, k z → Sm H H' → Rep X.K M H' z v → Q v H') → r xs H Q)
    {σ : L2.St} {H : Hp} {Q : VK} (h : lE X E (wCB g u) σ H Q) : tCB r (lA X E u) σ H Q := by
  obtain ⟨c, ρ, k, kx, gd, hw, hk, hx⟩ := h
  refine ⟨c, ρ, _, kx, gd, hw, fun rs ρ1 vs H1 k1 g1 e1 p1 => ?_, hx⟩
  obtain ⟨ds, hd, hg⟩ := k1
  refine h2 (Mof c ρ1) H1 vs ds _ _ (fun a z => g1.mth z) (getA_see g1 p1 hd) hg fun v H' z kz sm rp => ?_
  exact hk _ _ _ _ kz (g1.same sm) (e1.trans (.same sm)) rp
theorem cbn_run {r : List V → Hp → VK → Prop} {g : GL} {es : List Expr} {u : WA} (ha : BA X E es u)
    (h2 : ∀ (M : Ow) (H : Hp) (xs : List V) (ds : List PyData) (k : PyData → Prop) (Q : VK), Thr M H → SeeA X.K M H xs ds → g ds k → (∀ p H' z, k z → H p = none → Sm H H' → At X.K (fun a => M a ∨ a = p) H' p z → Q (.ref p) H') → r xs H Q)
    {σ : L2.St} {H : Hp} {Q : VK} (h : lN X E (wCBN g u) σ H Q) : tCB r (lA X E u) σ H Q := by
  obtain ⟨c, ρ, k, kx, gd, hw, hk, hx⟩ := h
  refine ⟨c, ρ, _, kx, gd, hw, fun rs ρ1 vs H1 k1 g1 e1 p1 => ?_, hx⟩
  obtain ⟨ds, hd, hg⟩ := k1
  refine h2 (Mof c ρ1) H1 vs ds _ _ (fun a z => g1.mth z) (getA_see g1 p1 hd) hg fun p H' z kz hp sm ha => ?_
  exact hk _ _ _ _ kz (g1.more hp sm ha.some) (e1.trans (.same sm)) (e1.there p hp) (g1.noio hp) (At.mv (Mv.sub fun a w => by
    rcases w with (w | w) | w
    · exact .inl (.inl w)
    · exact .inr w
    · exact .inl (.inr w)) (fun _ w => w) ha)
variable {x : Str} {p pos : Pos} {e : Expr} {es : List Expr} {u : WA} {T id : String}
theorem be_callB {g : GL} (hc : CallD X (.builtin id) g) (hg : Gl X x) (hm : X.mg x = none) (hv : bootBuiltins x = some (.builtin id)) (ha : BA X E (e :: es) u) (hn : x ≠ "__name__" := by decide) (hdb : (x == ("__debug__" : Str)) = false := by decide)
    (he : starEach (e :: es) X.env = (false, eval e X.env) :: starEach es X.env := by rfl) (hpl : (backTo pos (starEach es X.env)).any (·.1) = false := by rfl) : BE X E (.Call (.Name x p) (e :: es) [] pos) (wCB g u) := by
  obtain ⟨r, h1, h2⟩ := hc
  exact ⟨peI (pe_callB h1 hg hm hv ha.pa hn hdb he hpl) fun σ H Q h => cb_run ha h2 h⟩
theorem be_callTy {g : GL} (hc : CallD X (.type T) g) (hg : Gl X x) (hm : X.mg x = none) (hv : bootBuiltins x = some (.type T)) (ha : BA X E (e :: es) u) (hn : x ≠ "__name__" := by decide) (hdb : (x == ("__debug__" : Str)) = false := by decide)
    (he : starEach (e :: es) X.env = (false, eval e X.env) :: starEach es X.env := by rfl) (hpl : (backTo pos (starEach es X.env)).any (·.1) = false := by rfl) : BE X E (.Call (.Name x p) (e :: es) [] pos) (wCB g u) := by
  obtain ⟨r, h1, h2⟩ := hc
  exact ⟨peI (pe_callTy h1 hg hm hv ha.pa hn hdb he hpl) fun σ H Q h => cb_run ha h2 h⟩
theorem bn_callB {g : GL} (hc : CallN X (.builtin id) g) (hg : Gl X x) (hm : X.mg x = none) (hv : bootBuiltins x = some (.builtin id)) (ha : BA X E (e :: es) u) (hn : x ≠ "__name__" := by decide) (hdb : (x == ("__debug__" : Str)) = false := by decide)
    (he : starEach (e :: es) X.env = (false, eval e X.env) :: starEach es X.env := by rfl) (hpl : (backTo pos (starEach es X.env)).any (·.1) = false := by rfl) : BN X E (.Call (.Name x p) (e :: es) [] pos) (wCBN g u) := by
  obtain ⟨r, h1, h2⟩ := hc
  exact ⟨peI (pe_callB h1 hg hm hv ha.pa hn hdb he hpl) fun σ H Q h => cbn_run ha h2 h⟩
theorem bn_callTy {g : GL} (hc : CallN X (.type T) g) (hg : Gl X x) (hm : X.mg x = none) (hv : bootBuiltins x = some (.type T)) (ha : BA X E (e :: es) u) (hn : x ≠ "__name__" := by decide) (hdb : (x == ("__debug__" : Str)) = false := by decide)
    (he : starEach (e :: es) X.env = (false, eval e X.env) :: starEach es X.env := by rfl) (hpl : (backTo pos (starEach es X.env)).any (·.1) = false := by rfl) : BN X E (.Call (.Name x p) (e :: es) [] pos) (wCBN g u) := by
  obtain ⟨r, h1, h2⟩ := hc
  exact ⟨peI (pe_callTy h1 hg hm hv ha.pa hn hdb he hpl) fun σ H Q h => cbn_run ha h2 h⟩

/-! ### the built-ins -/
theorem see1 {K : PySem.W.Frag} {M : Ow} {H : Hp} {xs : List V} {d : PyData} (h : SeeA K M H xs [d]) : ∃ v, xs = [v] ∧ See K M No H d v := by
  cases h with | cons a b => cases b; exact ⟨_, rfl, a⟩
theorem see2 {K : PySem.W.Frag} {M : Ow} {H : Hp} {xs : List V} {d e : PyData} (h : SeeA K M H xs [d, e]) : ∃ v w, xs = [v, w] ∧ See K M No H d v ∧ See K M No H e w := by
  cases h with | cons a b => cases b with | cons b c => cases c; exact ⟨_, _, rfl, a, b⟩
/-- len(d) -/
structure DLen (kvs : List (PyData × PyData)) (k : PyData → Prop) : Prop where
  run : ∃ l : List (Key × PyData), kvs = l.map kvD ∧ k (.int l.length)
def gLen : GL
  | [.list ds], k => k (.int ds.length)
  | [.tuple ds], k => k (.int ds.length)
  | [.str x], k => x.length ≤ sizeLine ∧ k (.int x.length)
  | [.dict kvs], k => DLen kvs k
  | _, _ => False
theorem cd_len : CallD X (.builtin "len") gLen := by
  refine ⟨_, (call_len_seq.or call_len_str).or L2.call_lenD, fun M H xs ds k Q th sa hg hq => ?_⟩
  unfold gLen at hg
  split at hg
  · obtain ⟨v, rfl, s⟩ := see1 sa
    obtain ⟨a, us, rfl, l, r⟩ := s.lst
    exact .inl (.inl ⟨a, us, rfl, .inl (.of l), hq _ _ _ hg (fun _ _ z => z) (by rw [r.len]; rfl)⟩)
  · obtain ⟨v, rfl, s⟩ := see1 sa
    obtain ⟨a, us, rfl, l, r⟩ := s.tup
    exact .inl (.inl ⟨a, us, rfl, .inr l, hq _ _ _ hg (fun _ _ z => z) (by rw [r.len]; rfl)⟩)
  · obtain ⟨v, rfl, s⟩ := see1 sa
    exact .inl (.inr ⟨_, by rw [s.str], hg.1, hq _ _ _ hg.2 (fun _ _ z => z) rfl⟩)
  · obtain ⟨l, rfl, hk⟩ := hg.run
    obtain ⟨v, rfl, s⟩ := see1 sa
    obtain ⟨a, ks, rfl, e, p⟩ := s.dct
    exact .inr ⟨a, ks, rfl, e, hq _ _ _ hk (fun _ _ z => z) (by rw [p.len]; rfl)⟩
  · exact hg.elim
def gInt : GL
  | [.int i], k => k (.int i)
  | [.bool b], k => k (.int (if b then 1 else 0))
  | _, _ => False
theorem cd_int : CallD X (.type "int") gInt := by
  refine ⟨_, call_int1, fun M H xs ds k Q th sa hg hq => ?_⟩
  unfold gInt at hg
  split at hg
  · obtain ⟨v, rfl, s⟩ := see1 sa
    exact .inl ⟨_, by rw [s.int], hq _ _ _ hg (fun _ _ z => z) rfl⟩
  · obtain ⟨v, rfl, s⟩ := see1 sa
    exact .inr ⟨_, by rw [s.bl], hq _ _ _ hg (fun _ _ z => z) rfl⟩
  · exact hg.elim
def gAbs : GL
  | [.int i], k => k (.int (if i < 0 then -i else i))
  | _, _ => False
theorem cd_abs : CallD X (.builtin "abs") gAbs := by
  refine ⟨_, call_abs, fun M H xs ds k Q th sa hg hq => ?_⟩
  unfold gAbs at hg
  split at hg
  · obtain ⟨v, rfl, s⟩ := see1 sa
    exact ⟨_, by rw [s.int], hq _ _ _ hg (fun _ _ z => z) rfl⟩
  · exact hg.elim
def gMax2 : GL
  | [.int i, .int j], k => k (.int (if j > i then j else i))
  | _, _ => False
def gMin2 : GL
  | [.int i, .int j], k => k (.int (if j < i then j else i))
  | _, _ => False
theorem cd_max2 (hc : X.calm = true) : CallD X (.builtin "max") gMax2 := by
  refine ⟨_, call_max2 hc, fun M H xs ds k Q th sa hg hq => ?_⟩
  unfold gMax2 at hg
  split at hg
  · obtain ⟨v, w, rfl, s, t⟩ := see2 sa
    exact ⟨_, _, by rw [s.int, t.int], hq _ _ _ hg (fun _ _ z => z) rfl⟩
  · exact hg.elim
theorem cd_min2 (hc : X.calm = true) : CallD X (.builtin "min") gMin2 := by
  refine ⟨_, call_min2 hc, fun M H xs ds k Q th sa hg hq => ?_⟩
  unfold gMin2 at hg
  split at hg
  · obtain ⟨v, w, rfl, s, t⟩ := see2 sa
    exact ⟨_, _, by rw [s.int, t.int], hq _ _ _ hg (fun _ _ z => z) rfl⟩
  · exact hg.elim
def gTuple : GL
  | [.list ds], k => k (.tuple ds)
  | [.tuple ds], k => k (.tuple ds)
  | _, _ => False
theorem cd_tuple : CallD X (.type "tuple") gTuple := by
  refine ⟨_, call_tuple_of, fun M H xs ds k Q th sa hg hq => ?_⟩
  unfold gTuple at hg
  split at hg
  · obtain ⟨v, rfl, s⟩ := see1 sa
    obtain ⟨a, us, rfl, l, r⟩ := s.lst
    exact ⟨a, us, rfl, .inl ⟨.of l, fun p hp => hq _ _ _ hg (sm_upd hp) ⟨p, us, rfl, .inl ⟨upd_same, fun z => th p z hp⟩, r.mv ⟨fun _ z => .inl z, fun b o e _ => sm_upd hp b o e⟩⟩⟩⟩
  · obtain ⟨v, rfl, s⟩ := see1 sa
    obtain ⟨a, us, rfl, l, r⟩ := id s
    exact ⟨a, us, rfl, .inr ⟨l.sq, hq _ _ _ hg (fun _ _ z => z) s⟩⟩
  · exact hg.elim
def gList : GL
  | [.list ds], k => k (.list ds)
  | [.tuple ds], k => k (.list ds)
  | _, _ => False
theorem cn_list : CallN X (.type "list") gList := by
  refine ⟨_, call_list_of, fun M H xs ds k Q th sa hg hq => ?_⟩
  unfold gList at hg
  split at hg
  · obtain ⟨v, rfl, s⟩ := see1 sa
    obtain ⟨a, us, rfl, l, r⟩ := s.lst
    exact ⟨a, us, rfl, .inl (.of l), fun p hp => hq _ _ _ hg hp (sm_upd hp) ⟨us, upd_same, r.mv (mv_new hp (sm_upd hp))⟩⟩
  · obtain ⟨v, rfl, s⟩ := see1 sa
    obtain ⟨a, us, rfl, l, r⟩ := s.tup
    exact ⟨a, us, rfl, .inr l, fun p hp => hq _ _ _ hg hp (sm_upd hp) ⟨us, upd_same, r.mv (mv_new hp (sm_upd hp))⟩⟩
  · exact hg.elim
/-- sum of a list of ints -/
def gSum : GL := fun ds k => ∃ ns : List Int, ds = [.list (ns.map .int)] ∧ k (.int ns.sum)
theorem cd_sum (hc : X.calm = true) : CallD X (.builtin "sum") gSum := by
  refine ⟨_, cr_sum hc, fun M H xs ds k Q th sa hg hq => ?_⟩
  obtain ⟨ns, rfl, hk⟩ := hg
  obtain ⟨v, rfl, s⟩ := see1 sa
  obtain ⟨a, us, rfl, l, r⟩ := s.lst
  rw [r.intsV] at l
  exact ⟨a, ns, rfl, .of l, hq _ _ _ hk (fun _ _ z => z) rfl⟩
def gMaxL : GL := fun ds k => ∃ ns : List Int, ds = [.list (ns.map .int)] ∧ 0 < ns.length ∧ ∀ m, m ∈ ns → (∀ y, y ∈ ns → y ≤ m) → k (.int m)
def gMinL : GL := fun ds k => ∃ ns : List Int, ds = [.list (ns.map .int)] ∧ 0 < ns.length ∧ ∀ m, m ∈ ns → (∀ y, y ∈ ns → m ≤ y) → k (.int m)
theorem cd_maxL (hc : X.calm = true) : CallD X (.builtin "max") gMaxL := by
  refine ⟨_, cr_max hc, fun M H xs ds k Q th sa hg hq => ?_⟩
  obtain ⟨ns, rfl, h0, hk⟩ := hg
  obtain ⟨v, rfl, s⟩ := see1 sa
  obtain ⟨a, us, rfl, l, r⟩ := s.lst
  rw [r.intsV] at l
  exact ⟨a, ns, rfl, .of l, h0, fun m h1 h2 => hq _ _ _ (hk m h1 h2) (fun _ _ z => z) rfl⟩
theorem cd_minL (hc : X.calm = true) : CallD X (.builtin "min") gMinL := by
  refine ⟨_, cr_min hc, fun M H xs ds k Q th sa hg hq => ?_⟩
  obtain ⟨ns, rfl, h0, hk⟩ := hg
  obtain ⟨v, rfl, s⟩ := see1 sa
  obtain ⟨a, us, rfl, l, r⟩ := s.lst
  rw [r.intsV] at l
  exact ⟨a, ns, rfl, .of l, h0, fun m h1 h2 => hq _ _ _ (hk m h1 h2) (fun _ _ z => z) rfl⟩
def gStr : GL
  | [.int i], k => i.natAbs.log2 < 1920 ∧ k (.str (toString i))
  | _, _ => False
theorem cd_str : CallD X (.type "str") gStr := by
  refine ⟨_, call_str_int, fun M H xs ds k Q th sa hg hq => ?_⟩
  unfold gStr at hg
  split at hg
  · obtain ⟨v, rfl, s⟩ := see1 sa
    exact ⟨_, by rw [s.int], hg.1, hq _ _ _ hg.2 (fun _ _ z => z) rfl⟩
  · exact hg.elim

/-! ### isinstance with a built-in type -/
def tyD : PyData → String
  | .none => "NoneType" | .bool _ => "bool" | .int _ => "int" | .str _ => "str" | .list _ => "list" | .tuple _ => "tuple" | .dict _ => "dict"
def isIntD : PyData → Bool
  | .int _ => true | .bool _ => true | _ => false
def isBoolD : PyData → Bool
  | .bool _ => true | _ => false
def isStrD : PyData → Bool
  | .str _ => true | _ => false
def isTupD : PyData → Bool
  | .tuple _ => true | _ => false
def isLstD : PyData → Bool
  | .list _ => true | _ => false
def isDctD : PyData → Bool
  | .dict _ => true | _ => false
theorem tyx_of {K : PySem.W.Frag} {M W : Ow} {H : Hp} {d : PyData} {x : V} (h : See K M W H d x) : TyX K H x (.type (tyD d)) := by
  cases d with
  | none => cases (show _ = _ from h); exact .base .non
  | bool b => cases (show _ = _ from h); exact .base (.bl b)
  | int i => cases (show _ = _ from h); exact .base (.int i)
  | str i => cases (show _ = _ from h); exact .base (.str i)
  | list ds => obtain ⟨a, xs, rfl, l, _⟩ := h; exact .base (.lst l.1)
  | tuple ds =>
    obtain ⟨a, xs, rfl, l, _⟩ := h
    rcases l with l | ⟨o, its, n, h1, h2, _⟩
    · exact .base (.tup l.1)
    · exact .kTuple h1 h2
  | dict ds =>
    obtain ⟨a, xs, rfl, l, r⟩ := h
    cases xs with
    | dK ks => exact .base (.dK l.1)
    | dT ks => exact .base (.dT l.1)
    | _ => exact r.elim
def IsT (T : String) (f : PyData → Bool) : Prop := ∀ d : PyData, kitB (tyD d) T = some (f d)
theorem isT_int : IsT "int" isIntD := fun d => by
  cases d with
  | none => exact (by decide +kernel : kitB "NoneType" "int" = some false)
  | bool _ => exact (by decide +kernel : kitB "bool" "int" = some true)
  | int _ => exact (by decide +kernel : kitB "int" "int" = some true)
  | str _ => exact (by decide +kernel : kitB "str" "int" = some false)
  | list _ => exact (by decide +kernel : kitB "list" "int" = some false)
  | tuple _ => exact (by decide +kernel : kitB "tuple" "int" = some false)
  | dict _ => exact (by decide +kernel : kitB "dict" "int" = some false)
theorem isT_bool : IsT "bool" isBoolD := fun d => by
  cases d with
  | none => exact (by decide +kernel : kitB "NoneType" "bool" = some false)
  | bool _ => exact (by decide +kernel : kitB "bool" "bool" = some true)
  | int _ => exact (by decide +kernel : kitB "int" "bool" = some false)
  | str _ => exact (by decide +kernel : kitB "str" "bool" = some false)
  | list _ => exact (by decide +kernel : kitB "list" "bool" = some false)
  | tuple _ => exact (by decide +kernel : kitB "tuple" "bool" = some false)
  | dict _ => exact (by decide +kernel : kitB "dict" "bool" = some false)
theorem isT_str : IsT "str" isStrD := fun d => by
  cases d with
  | none => exact (by decide +kernel : kitB "NoneType" "str" = some false)
  | bool _ => exact (by decide +kernel : kitB "bool" "str" = some false)
  | int _ => exact (by decide +kernel : kitB "int" "str" = some false)
  | str _ => exact (by decide +kernel : kitB "str" "str" = some true)
  | list _ => exact (by decide +kernel : kitB "list" "str" = some false)
  | tuple _ => exact (by decide +kernel : kitB "tuple" "str" = some false)
  | dict _ => exact (by decide +kernel : kitB "dict" "str" = some false)
theorem isT_tuple : IsT "tuple" isTupD := fun d => by
  cases d with
  | none => exact (by decide +kernel : kitB "NoneType" "tuple" = some false)
  | bool _ => exact (by decide +kernel : kitB "bool" "tuple" = some false)
  | int _ => exact (by decide +kernel : kitB "int" "tuple" = some false)
  | str _ => exact (by decide +kernel : kitB "str" "tuple" = some false)
  | list _ => exact (by decide +kernel : kitB "list" "tuple" = some false)
  | tuple _ => exact (by decide +kernel : kitB "tuple" "tuple" = some true)
  | dict _ => exact (by decide +kernel : kitB "dict" "tuple" = some false)
theorem isT_list : IsT "list" isLstD := fun d => by
  cases d with
  | none => exact (by decide +kernel : kitB "NoneType" "list" = some false)
  | bool _ => exact (by decide +kernel : kitB "bool" "list" = some false)
  | int _ => exact (by decide +kernel : kitB "int" "list" = some false)
  | str _ => exact (by decide +kernel : kitB "str" "list" = some false)
  | list _ => exact (by decide +kernel : kitB "list" "list" = some true)
  | tuple _ => exact (by decide +kernel : kitB "tuple" "list" = some false)
  | dict _ => exact (by decide +kernel : kitB "dict" "list" = some false)
theorem isT_dict : IsT "dict" isDctD := fun d => by
  cases d with
  | none => exact (by decide +kernel : kitB "NoneType" "dict" = some false)
  | bool _ => exact (by decide +kernel : kitB "bool" "dict" = some false)
  | int _ => exact (by decide +kernel : kitB "int" "dict" = some false)
  | str _ => exact (by decide +kernel : kitB "str" "dict" = some false)
  | list _ => exact (by decide +kernel : kitB "list" "dict" = some false)
  | tuple _ => exact (by decide +kernel : kitB "tuple" "dict" = some false)
  | dict _ => exact (by decide +kernel : kitB "dict" "dict" = some true)
def wIsi (f : PyData → Bool) (w : WE) : WE := fun kx ρ k => w kx ρ fun r ρ1 => ∃ d, r.get ρ1 = some d ∧ k (.val (.bool (f d))) ρ1
theorem be_isi {T : String} {f : PyData → Bool} {e2 : Expr} {w : WE} (hT : IsT T f) (hg : Gl X "isinstance") (hm : X.mg "isinstance" = none) (ha : BE X E e w) (hb : PE X e2 (tC (.ty T)))
    (he : starEach [e, e2] X.env = (false, eval e X.env) :: starEach [e2] X.env := by rfl) (he2 : starEach [e2] X.env = (false, eval e2 X.env) :: starEach [] X.env := by rfl) (hpl : (backTo pos (starEach [e2] X.env)).any (·.1) = false := by rfl) :
    BE X E (.Call (.Name "isinstance" p) [e, e2] [] pos) (wIsi f w) := by
  refine ⟨peI (pe_callB call_isi hg hm boot_isinstance (pa_cons ha.pe (pa_cons hb pa_nil he2) he) (by decide) (by decide) he hpl) fun σ H Q ⟨c, ρ, k, kx, gd, hw, hk, hx⟩ => ?_⟩
  refine ⟨c, ρ, _, kx, gd, hw, fun r ρ1 v H1 k1 g1 e1 p1 => ?_, hx⟩
  obtain ⟨d, hd, hk1⟩ := k1
  exact ⟨v, .ty T, _, .type T, f d, rfl, .ty T, tyx_of (p1.see g1 hd), kit_ty (hT d), hk _ _ _ _ hk1 g1 e1 rfl⟩

/-! ### subscripts -/
theorem atI_rep {K : PySem.W.Frag} {M : Ow} {H : Hp} {ds : List PyData} {xs : List V} {i : Int} {d : PyData} (r : RepAll K M H ds xs) (h : atI ds i = some d) : ∃ v, atI xs i = some v ∧ Rep K M H d v := by
  unfold atI at h ⊢
  rw [r.len]
  cases e : ixN ds.length i with
  | none => rw [e] at h; cases h
  | some j => rw [e] at h; exact r.get h
def gIx : G2
  | .list ds, .int i, k => ∃ d, atI ds i = some d ∧ k d
  | .tuple ds, .int i, k => ∃ d, atI ds i = some d ∧ k d
  | .str z, .int i, k => ∃ c, z.length ≤ sizeLine ∧ atI z.cps.toList i = some c ∧ k (.str ⟨#[c]⟩)
  | .dict kvs, e, k => DIx kvs e k
  | _, _, _ => False
def IxD (X : Cx) (g : G2) : Prop :=
  ∃ r : R2, IxR X r ∧ ∀ (M : Ow) (H : Hp) (x y : V) (d e : PyData) (k : PyData → Prop) (Q : VK), Thr M H → See X.K M No H d x → See X.K M No H e y → g d e k →
    (∀ v H' z, k z → Sm H H' → Rep X.K M H' z v → Q v H') → r x y H Q
theorem ixd (hu : X.A.units + 65 < cLine) : IxD X gIx := by
  refine ⟨_, IxR.or ix_seq (ix_dict (by omega)), fun M H x y d e k Q th sx sy hg hq => ?_⟩
  unfold gIx at hg
  split at hg
  · obtain ⟨d, hd, hk⟩ := hg
    obtain ⟨a, us, rfl, l, r⟩ := sx.lst
    obtain ⟨v, h1, h2⟩ := atI_rep r hd
    exact .inl (.inl ⟨a, us, _, v, rfl, sy.int, .of l, h1, hq _ _ _ hk (fun _ _ z => z) h2⟩)
  · obtain ⟨d, hd, hk⟩ := hg
    obtain ⟨a, us, rfl, l, r⟩ := sx.tup
    obtain ⟨v, h1, h2⟩ := atI_rep r hd
    exact .inl (.inr (.inl ⟨a, us, _, v, rfl, sy.int, l, h1, hq _ _ _ hk (fun _ _ z => z) h2⟩))
  · obtain ⟨c, h1, h2, hk⟩ := hg
    exact .inl (.inr (.inr ⟨_, _, c, sx.str, sy.int, h1, h2, hq _ _ _ hk (fun _ _ z => z) rfl⟩))
  · obtain ⟨l, key, d, rfl, rfl, hd, hk⟩ := hg.run
    obtain ⟨a, ks, rfl, e, p⟩ := sx.dct
    rcases p.val (k := key) with ⟨h1, h2⟩ | ⟨d', v, h1, h2, r⟩
    · rw [h1] at hd; cases hd
    · rw [h1] at hd; cases hd
      refine .inr ⟨a, v, rfl, ?_, hq _ _ _ hk (fun _ _ z => z) r⟩
      rw [sy.key, ← h2]; exact DGet.k e
  · exact hg.elim
variable {a b : Expr} {wa wb : WE}
theorem be_ix (hu : X.A.units + 65 < cLine) (ha : BE X E a wa) (hb : BE X E b wb) (hs : PlainIx b := by exact fun _ _ => rfl) : BE X E (.Subscript a b pos) (wOp gIx wa wb) := by
  obtain ⟨r, h1, h2⟩ := ixd (X := X) hu
  exact ⟨peI (pe_ix h1 ha.pe hb.pe hs) fun σ H Q ⟨c, ρ, k, kx, gd, hw, hk, hx⟩ => bin_run ha hb h2 gd hw (fun z ρ' v H' a b c d => hk _ _ _ _ a b c d) hx⟩

/-! ### slices -/
abbrev WO := KX → List En → (Option Int → List En → Prop) → Prop
def lO (X : Cx) (E : EK) (w : WO) : TO := fun σ H Q => ∃ c ρ k kx, Gd X.K c σ H ρ ∧ w kx ρ k ∧ (∀ o ρ' H', k o ρ' → Gd X.K c σ H' ρ' → Ev c ρ H ρ' H' → Q o H') ∧ ExOk X.K E c σ ρ H kx
structure BO (X : Cx) (E : EK) (e : Option Expr) (w : WO) : Prop where
  po : PO X e (lO X E w)
theorem poI {X : Cx} {e : Option Expr} {t t' : TO} (h : PO X e t) (i : ∀ σ H Q, t' σ H Q → t σ H Q) : PO X e t' := ⟨fun pins s σ H Q I q => h.run pins s σ H Q I (i σ H Q q)⟩
def wNoP : WO := fun _ ρ k => k none ρ
def wPart (w : WE) : WO := fun kx ρ k => w kx ρ fun r ρ1 => ∃ i, r.get ρ1 = some (.int i) ∧ k (some i) ρ1
theorem bo_none : BO X E none wNoP := ⟨poI po_none fun σ H Q ⟨c, ρ, k, kx, gd, hw, hk, hx⟩ => hk _ _ _ hw gd .refl⟩
theorem bo_some {w : WE} (h : BE X E e w) : BO X E (some e) (wPart w) := by
  refine ⟨poI (po_some h.pe) fun σ H Q ⟨c, ρ, k, kx, gd, hw, hk, hx⟩ => ?_⟩
  refine ⟨c, ρ, _, kx, gd, hw, fun r ρ1 v H1 k1 g1 e1 p1 => ?_, hx⟩
  obtain ⟨i, hi, hk1⟩ := k1
  exact ⟨i, (p1.see g1 hi).int, hk _ _ _ hk1 g1 e1⟩
def cutD (ds : List PyData) (lo hi : Option Int) : List PyData := (ds.drop (HT.sIx ds.length 0 lo)).take (HT.sIx ds.length ds.length hi - HT.sIx ds.length 0 lo)
theorem cut_rep {K : PySem.W.Frag} {M : Ow} {H : Hp} {ds : List PyData} {xs : List V} (r : RepAll K M H ds xs) (lo hi : Option Int) : RepAll K M H (cutD ds lo hi) (cutV xs lo hi) := by
  unfold cutD cutV
  rw [r.len]
  exact (r.drop _).take _
theorem cut_whole {α : Type} {xs : List α} {lo hi : Option Int} (h : HT.sIx xs.length 0 lo = 0 ∧ HT.sIx xs.length xs.length hi = xs.length) : (xs.drop (HT.sIx xs.length 0 lo)).take (HT.sIx xs.length xs.length hi - HT.sIx xs.length 0 lo) = xs := by
  rw [h.1, h.2]; simp
def gSl : PyData → Option Int → Option Int → (PyData → Prop) → Prop
  | .list ds, lo, hi, k => k (.list (cutD ds lo hi))
  | .tuple ds, lo, hi, k => k (.tuple (cutD ds lo hi))
  | .str z, lo, hi, k => z.length ≤ sizeLine ∧ k (.str (cutS z lo hi))
  | _, _, _, _ => False
def wSl (w : WE) (wl wh : WO) : WE := fun kx ρ k => w kx ρ fun r ρ1 => wl kx ρ1 fun lo ρ2 => wh kx ρ2 fun hi ρ3 => ∃ d, r.get ρ3 = some d ∧ gSl d lo hi fun z => k (.val z) ρ3
theorem be_slice {w : WE} {wl wh : WO} {lo hi : Option Expr} {p2 : Pos} (he : BE X E e w) (hl : BO X E lo wl) (hh : BO X E hi wh) : BE X E (.Subscript e (.Slice lo hi none p2) pos) (wSl w wl wh) := by
  refine ⟨peI (pe_slice ((sl_list.or sl_tupA).or sl_str) he.pe hl.po hh.po) fun σ H Q ⟨c, ρ, k, kx, gd, hw, hk, hx⟩ => ?_⟩
  refine ⟨c, ρ, _, kx, gd, hw, fun r ρ1 v H1 k1 g1 e1 p1 => ?_, hx⟩
  refine ⟨c, ρ1, _, kx, g1, k1, fun o ρ2 H2 k2 g2 e2 => ?_, hx.ev e1⟩
  refine ⟨c, ρ2, _, kx, g2, k2, fun o' ρ3 H3 k3 g3 e3 => ?_, hx.ev (e1.trans e2)⟩
  obtain ⟨d, hd, hg⟩ := k3
  have s := ((p1.ev g1 e2).ev g2 e3).see g3 hd
  have ee := (e1.trans e2).trans e3
  cases d with
  | list ds =>
    obtain ⟨a, us, rfl, l, r⟩ := s.lst
    exact .inl (.inl ⟨a, us, rfl, .of l, fun p hp => hk _ _ _ _ hg (g3.same (sm_upd hp)) (ee.trans (.same (sm_upd hp))) ⟨p, _, rfl, ⟨upd_same, fun z => g3.mth z hp⟩, (cut_rep r o o').mv ⟨fun _ z => .inl z, fun b u e _ => sm_upd hp b u e⟩⟩⟩)
  | tuple ds =>
    obtain ⟨a, us, rfl, l, r⟩ := id s
    refine .inl (.inr ⟨a, us, rfl, l.sq, fun hw => ?_, fun hw p hp => ?_⟩)
    · refine hk _ _ _ _ hg g3 ee ?_
      rw [r.len] at hw
      unfold cutD
      rw [cut_whole hw]
      exact ⟨a, us, rfl, l, r⟩
    · exact hk _ _ _ _ hg (g3.same (sm_upd hp)) (ee.trans (.same (sm_upd hp))) ⟨p, _, rfl, .inl ⟨upd_same, fun z => g3.mth z hp⟩, (cut_rep r o o').mv ⟨fun _ z => .inl z, fun b u e _ => sm_upd hp b u e⟩⟩
  | str z => exact .inr ⟨_, s.str, hg.1, hk _ _ _ _ hg.2 g3 ee rfl⟩
  | _ => exact hg.elim
def wSlN (w : WE) (wl wh : WO) : WN := fun kx ρ k => w kx ρ fun r ρ1 => wl kx ρ1 fun lo ρ2 => wh kx ρ2 fun hi ρ3 => ∃ ds, r.get ρ3 = some (.list ds) ∧ k (.list (cutD ds lo hi)) ρ3
theorem at_more {K : PySem.W.Frag} {c : Ct} {ρ : List En} {H : Hp} {p : Addr} {z : PyData} (h : At K (fun a => Mof c ρ a ∨ a = p) H p z) : At K (Mof (c.more p) ρ) H p z := At.mv (Mv.sub fun a w => by
    rcases w with (w | w) | w
    · exact .inl (.inl w)
    · exact .inr w
    · exact .inl (.inr w)) (fun _ w => w) h
theorem bn_slice {w : WE} {wl wh : WO} {lo hi : Option Expr} {p2 : Pos} (he : BE X E e w) (hl : BO X E lo wl) (hh : BO X E hi wh) : BN X E (.Subscript e (.Slice lo hi none p2) pos) (wSlN w wl wh) := by
  refine ⟨peI (pe_slice sl_list he.pe hl.po hh.po) fun σ H Q ⟨c, ρ, k, kx, gd, hw, hk, hx⟩ => ?_⟩
  refine ⟨c, ρ, _, kx, gd, hw, fun r ρ1 v H1 k1 g1 e1 p1 => ?_, hx⟩
  refine ⟨c, ρ1, _, kx, g1, k1, fun o ρ2 H2 k2 g2 e2 => ?_, hx.ev e1⟩
  refine ⟨c, ρ2, _, kx, g2, k2, fun o' ρ3 H3 k3 g3 e3 => ?_, hx.ev (e1.trans e2)⟩
  obtain ⟨ds, hd, hg⟩ := k3
  have s := ((p1.ev g1 e2).ev g2 e3).see g3 hd
  have ee := (e1.trans e2).trans e3
  obtain ⟨a, us, rfl, l, r⟩ := s.lst
  exact ⟨a, us, rfl, .of l, fun p hp => hk _ _ _ _ hg (g3.more hp (sm_upd hp) (by rw [upd_same]; intro z; cases z)) (ee.trans (.same (sm_upd hp))) (ee.there p hp) (g3.noio hp) (at_more ⟨_, upd_same, (cut_rep r o o').mv (mv_new hp (sm_upd hp))⟩)⟩

/-! ### methods that change nothing -/
abbrev GM := PyData → List PyData → (PyData → Prop) → Prop
def MtD (X : Cx) (id : String) (g : GM) : Prop := ∃ r, MtR X id r ∧ ∀ (M : Ow) (H : Hp) (x : V) (xs : List V) (d : PyData) (ds : List PyData) (k : PyData → Prop) (Q : VK), Thr M H → See X.K M No H d x → SeeA X.K M H xs ds → g d ds k →
  (∀ v H' z, k z → Sm H H' → Rep X.K M H' z v → Q v H') → r x xs H Q
def MtN (X : Cx) (id : String) (g : GM) : Prop := ∃ r, MtR X id r ∧ ∀ (M : Ow) (H : Hp) (x : V) (xs : List V) (d : PyData) (ds : List PyData) (k : PyData → Prop) (Q : VK), Thr M H → See X.K M No H d x → SeeA X.K M H xs ds → g d ds k →
  (∀ p H' z, k z → H p = none → Sm H H' → At X.K (fun a => M a ∨ a = p) H' p z → Q (.ref p) H') → r x xs H Q
/-- of a text or a list (a tuple's own type is not told by its place) -/
def tyOk (T : String) : PyData → Prop
  | .str _ => T = "str"
  | .list _ => T = "list"
  | .int _ => T = "int"
  | _ => False
theorem tyV_of {K : PySem.W.Frag} {M W : Ow} {H : Hp} {T : String} {d : PyData} {x : V} (t : tyOk T d) (s : See K M W H d x) : tyV K T x H := by
  cases d with
  | str z => rw [s.str]; exact t
  | int z => rw [s.int]; exact t
  | list ds => obtain ⟨a, us, rfl, l, r⟩ := s.lst; exact .inl ⟨t, us, .of l⟩
  | _ => exact t.elim
def wMt0 (T : String) (g : GM) (w : WE) : WE := fun kx ρ k => w kx ρ fun r ρ1 => ∃ d, r.get ρ1 = some d ∧ tyOk T d ∧ g d [] fun z => k (.val z) ρ1
def wMt (T : String) (g : GM) (w : WE) (u : WA) : WE := fun kx ρ k => w kx ρ fun r ρ1 => ∃ d0, r.get ρ1 = some d0 ∧ tyOk T d0 ∧ u kx ρ1 fun rs ρ2 => ∃ d ds, r.get ρ2 = some d ∧ getA rs ρ2 = some ds ∧ g d ds fun z => k (.val z) ρ2
def wMtN (T : String) (g : GM) (w : WE) (u : WA) : WN := fun kx ρ k => w kx ρ fun r ρ1 => ∃ d0, r.get ρ1 = some d0 ∧ tyOk T d0 ∧ u kx ρ1 fun rs ρ2 => ∃ d ds, r.get ρ2 = some d ∧ getA rs ρ2 = some ds ∧ g d ds fun z => k z ρ2
variable {o : Expr} {name : Str} {apos cpos : Pos} {w : WE}
theorem be_mt0 {g : GM} (pa : PlainAttrs T) (slot : Slot T name id) (hty : typeOf (.builtin id) = pure (.type "method_descriptor")) (hm : MtD X id g) (ho : BE X E o w)
    (hbase : attributeBase o name X.env (eval o X.env) = eval o X.env := by rfl) (hline : (apos.endLine == cpos.line) = true := by rfl) : BE X E (.Call (.Attribute o name apos) [] [] cpos) (wMt0 T g w) := by
  obtain ⟨r, h1, h2⟩ := hm
  refine ⟨peI (pe_bm0 pa slot hty h1 ho.pe hbase hline) fun σ H Q ⟨c, ρ, k, kx, gd, hw, hk, hx⟩ => ?_⟩
  refine ⟨c, ρ, _, kx, gd, hw, fun r ρ1 v H1 k1 g1 e1 p1 => ?_, hx⟩
  obtain ⟨d, hd, ht, hg⟩ := k1
  have s := p1.see g1 hd
  exact ⟨tyV_of ht s, h2 (Mof c ρ1) H1 v [] d [] _ _ (fun a z => g1.mth z) s .nil hg fun v H' z kz sm rp => hk _ _ _ _ kz (g1.same sm) (e1.trans (.same sm)) rp⟩
theorem be_mt {g : GM} (pa : PlainAttrs T) (slot : Slot T name id) (hty : typeOf (.builtin id) = pure (.type "method_descriptor")) (hm : MtD X id g) (ho : BE X E o w) (ha : BA X E (e :: es) u)
    (hbase : attributeBase o name X.env (eval o X.env) = eval o X.env := by rfl)
    (hfew : ((backTo cpos (starEach (e :: es) X.env)).all (fun x => !x.1) && (backToKw cpos (keywordEach [] X.env)).all (fun x => x.1.isSome)
      && decide ((e :: es).length + ([] : List Keyword).length + (if ([] : List Keyword).isEmpty then 0 else 1) < 30)) = true := by rfl)
    (hline : (apos.endLine == cpos.line) = true := by rfl) (hs : starEach (e :: es) X.env = (false, eval e X.env) :: starEach es X.env := by rfl) (hplain : (backTo cpos (starEach es X.env)).any (·.1) = false := by rfl) :
    BE X E (.Call (.Attribute o name apos) (e :: es) [] cpos) (wMt T g w u) := by
  obtain ⟨r, h1, h2⟩ := hm
  refine ⟨peI (pe_bm pa slot hty h1 ho.pe ha.pa hbase hfew hline hs hplain) fun σ H Q ⟨c, ρ, k, kx, gd, hw, hk, hx⟩ => ?_⟩
  refine ⟨c, ρ, _, kx, gd, hw, fun r ρ1 v H1 k1 g1 e1 p1 => ?_, hx⟩
  obtain ⟨d0, hd0, ht, k1⟩ := k1
  refine ⟨tyV_of ht (p1.see g1 hd0), c, ρ1, _, kx, g1, k1, fun rs ρ2 vs H2 k2 g2 e2 p2 => ?_, hx.ev e1⟩
  obtain ⟨d, ds, hd, hds, hg⟩ := k2
  exact h2 (Mof c ρ2) H2 v vs d ds _ _ (fun a z => g2.mth z) ((p1.ev g1 e2).see g2 hd) (getA_see g2 p2 hds) hg fun v H' z kz sm rp => hk _ _ _ _ kz (g2.same sm) ((e1.trans e2).trans (.same sm)) rp
theorem bn_mt {g : GM} (pa : PlainAttrs T) (slot : Slot T name id) (hty : typeOf (.builtin id) = pure (.type "method_descriptor")) (hm : MtN X id g) (ho : BE X E o w) (ha : BA X E (e :: es) u)
    (hbase : attributeBase o name X.env (eval o X.env) = eval o X.env := by rfl)
    (hfew : ((backTo cpos (starEach (e :: es) X.env)).all (fun x => !x.1) && (backToKw cpos (keywordEach [] X.env)).all (fun x => x.1.isSome)
      && decide ((e :: es).length + ([] : List Keyword).length + (if ([] : List Keyword).isEmpty then 0 else 1) < 30)) = true := by rfl)
    (hline : (apos.endLine == cpos.line) = true := by rfl) (hs : starEach (e :: es) X.env = (false, eval e X.env) :: starEach es X.env := by rfl) (hplain : (backTo cpos (starEach es X.env)).any (·.1) = false := by rfl) :
    BN X E (.Call (.Attribute o name apos) (e :: es) [] cpos) (wMtN T g w u) := by
  obtain ⟨r, h1, h2⟩ := hm
  refine ⟨peI (pe_bm pa slot hty h1 ho.pe ha.pa hbase hfew hline hs hplain) fun σ H Q ⟨c, ρ, k, kx, gd, hw, hk, hx⟩ => ?_⟩
  refine ⟨c, ρ, _, kx, gd, hw, fun r ρ1 v H1 k1 g1 e1 p1 => ?_, hx⟩
  obtain ⟨d0, hd0, ht, k1⟩ := k1
  refine ⟨tyV_of ht (p1.see g1 hd0), c, ρ1, _, kx, g1, k1, fun rs ρ2 vs H2 k2 g2 e2 p2 => ?_, hx.ev e1⟩
  obtain ⟨d, ds, hd, hds, hg⟩ := k2
  exact h2 (Mof c ρ2) H2 v vs d ds _ _ (fun a z => g2.mth z) ((p1.ev g1 e2).see g2 hd) (getA_see g2 p2 hds) hg fun p H' z kz hp sm ha =>
    hk _ _ _ _ kz (g2.more hp sm ha.some) ((e1.trans e2).trans (.same sm)) ((e1.trans e2).there p hp) (g2.noio hp) (at_more ha)
def gSplit : GM
  | .str a, [.str b], k => ((b.length == 0) = false ∧ a.length + 2 ≤ sizeLine) ∧ k (.list ((Txt.split a b).map .str))
  | _, _, _ => False
theorem mn_split : MtN X "str.split" gSplit := by
  refine ⟨_, mt_split, fun M H x xs d ds k Q th sx sa hg hq => ?_⟩
  unfold gSplit at hg
  split at hg
  · obtain ⟨v, rfl, s⟩ := see1 sa
    exact ⟨_, _, sx.str, by rw [s.str], hg.1.1, hg.1.2, fun p hp => hq _ _ _ hg.2 hp (sm_upd hp) ⟨_, upd_same, RepAll.strs _⟩⟩
  · exact hg.elim
def gJoin : GM := fun d ds k => ∃ (a : Str) (ys : List Str), d = .str a ∧ (ds = [.list (ys.map .str)] ∨ ds = [.tuple (ys.map .str)]) ∧ (ys.map (·.length)).sum + ys.length * a.length ≤ 16777216 ∧ k (.str (Txt.join a ys))
theorem md_join : MtD X "str.join" gJoin := by
  refine ⟨_, mt_join, fun M H x xs d ds k Q th sx sa hg hq => ?_⟩
  obtain ⟨a, ys, rfl, hd, hl, hk⟩ := hg
  rcases hd with rfl | rfl
  · obtain ⟨v, rfl, s⟩ := see1 sa
    obtain ⟨b, us, rfl, l, r⟩ := s.lst
    rw [r.strsV] at l
    exact ⟨a, b, ys, sx.str, rfl, .inl (.of l), hl, hq _ _ _ hk (fun _ _ z => z) rfl⟩
  · obtain ⟨v, rfl, s⟩ := see1 sa
    obtain ⟨b, us, rfl, l, r⟩ := s.tup
    rw [r.strsV] at l
    exact ⟨a, b, ys, sx.str, rfl, .inr l, hl, hq _ _ _ hk (fun _ _ z => z) rfl⟩
end
end LB

/-! LB, part 6: statements, loops by value. -/
namespace LB
open PySem PySem.Spec PyProof.Rows L2
/-- what is wanted behind a statement, by value -/
structure WD where
  nx : List En → Prop
  rt : R → List En → Prop
  rn : PyData → List En → Prop
  bk : List En → Prop
  ct : List En → Prop
  ex : KX
abbrev WS := WD → List En → Prop
structure EOk (K : PySem.W.Frag) (E : EK) (c : Ct) (ρ : List En) (H : Hp) (W : WD) (D : Ends) : Prop where
  nx : ∀ σ' ρ' H', W.nx ρ' → Gd K c σ' H' ρ' → Ev c ρ H ρ' H' → D.nx σ' H'
  rt : ∀ r σ' ρ' v H', W.rt r ρ' → Gd K c σ' H' ρ' → Ev c ρ H ρ' H' → RepR K c σ' H' ρ' v r → D.rt v H'
  rn : ∀ d σ' ρ' p H', W.rn d ρ' → Gd K (c.more p) σ' H' ρ' → Ev c ρ H ρ' H' → c.H0 p = none → ¬ c.M p → NoIo p ρ' → At K (Mof (c.more p) ρ') H' p d → D.rt (.ref p) H'
  bk : ∀ σ' ρ' H', W.bk ρ' → Gd K c σ' H' ρ' → Ev c ρ H ρ' H' → D.bk σ' H'
  ct : ∀ σ' ρ' H', W.ct ρ' → Gd K c σ' H' ρ' → Ev c ρ H ρ' H' → D.ct σ' H'
  ex : ∀ x σ' ρ' cl ad H', W.ex x ρ' → Gd K c σ' H' ρ' → Ev c ρ H ρ' H' → RepX K H' x cl ad → E σ' cl ad H'
theorem EOk.ev {K : PySem.W.Frag} {E : EK} {c : Ct} {ρ ρ1 : List En} {H H1 : Hp} {W : WD} {D : Ends} (h : EOk K E c ρ H W D) (e : Ev c ρ H ρ1 H1) : EOk K E c ρ1 H1 W D :=
  ⟨fun σ' ρ' H' a b d => h.nx σ' ρ' H' a b (e.trans d), fun r σ' ρ' v H' a b d f => h.rt r σ' ρ' v H' a b (e.trans d) f, fun z σ' ρ' p H' a b d f g i j => h.rn z σ' ρ' p H' a b (e.trans d) f g i j,
   fun σ' ρ' H' a b d => h.bk σ' ρ' H' a b (e.trans d), fun σ' ρ' H' a b d => h.ct σ' ρ' H' a b (e.trans d), fun x σ' ρ' cl ad H' a b d f => h.ex x σ' ρ' cl ad H' a b (e.trans d) f⟩
theorem EOk.exok {K : PySem.W.Frag} {E : EK} {c : Ct} {σ : L2.St} {ρ : List En} {H : Hp} {W : WD} {D : Ends} (h : EOk K E c ρ H W D) : ExOk K E c σ ρ H W.ex := fun x ρ' cl ad H' a b d f => h.ex x σ ρ' cl ad H' a b d f
def lS (X : Cx) (E : EK) (w : WS) : TS := fun D σ H => ∃ c ρ W, Gd X.K c σ H ρ ∧ w W ρ ∧ EOk X.K E c ρ H W D
structure BS (X : Cx) (E : EK) (st : Stmt) (w : WS) : Prop where
  ps : PS X st (lS X E w)
structure BSs (X : Cx) (E : EK) (sts : List Stmt) (w : WS) : Prop where
  pss : PSs X sts (lS X E w)
section
variable {X : Cx} {E : EK} {st : Stmt} {rest : List Stmt} {e : Expr} {w u : WS} {we : WE} {pos : Pos}
/-! ### blocks -/
def wNext : WS := fun W ρ => W.nx ρ
def wSeq (w u : WS) : WS := fun W ρ => w { W with nx := fun ρ' => u W ρ' } ρ
theorem bss_nil : BSs X E [] wNext := ⟨pssI pss_nil fun D σ H ⟨c, ρ, W, g, hw, h⟩ => h.nx _ _ _ hw g .refl⟩
theorem bss_cons (h1 : BS X E st w) (h2 : BSs X E rest u) : BSs X E (st :: rest) (wSeq w u) := by
  refine ⟨pssI (pss_cons h1.ps h2.pss) fun D σ H ⟨c, ρ, W, g, hw, h⟩ => ?_⟩
  exact ⟨c, ρ, { W with nx := fun ρ' => u W ρ' }, g, hw, ⟨fun σ' ρ' H' a b d => ⟨c, ρ', W, b, a, h.ev d⟩, h.rt, h.rn, h.bk, h.ct, h.ex⟩⟩
theorem bss_one (h1 : BS X E st w) : BSs X E [st] w := ⟨pss_one h1.ps⟩
theorem bs_pass : BS X E (.Pass pos) wNext := ⟨psI ps_pass fun D σ H ⟨c, ρ, W, g, hw, h⟩ => h.nx _ _ _ hw g .refl⟩
def wBreak : WS := fun W ρ => W.bk ρ
def wCont : WS := fun W ρ => W.ct ρ
theorem bs_break : BS X E (.Break pos) wBreak := ⟨psI ps_break fun D σ H ⟨c, ρ, W, g, hw, h⟩ => h.bk _ _ _ hw g .refl⟩
theorem bs_continue : BS X E (.Continue pos) wCont := ⟨psI ps_continue fun D σ H ⟨c, ρ, W, g, hw, h⟩ => h.ct _ _ _ hw g .refl⟩
def wNever : WS := fun _ _ => False
theorem bs_never : BS X E st wNever := ⟨psI ps_never fun D σ H ⟨c, ρ, W, g, hw, h⟩ => hw⟩
theorem bss_never {sts : List Stmt} : BSs X E sts wNever := ⟨pssI pss_never fun D σ H ⟨c, ρ, W, g, hw, h⟩ => hw⟩
def wExpr (we : WE) : WS := fun W ρ => we W.ex ρ fun _ ρ1 => W.nx ρ1
theorem bs_expr (he : BE X E e we) (hs : swapsWith e none pos.line X.env = pure false := by rfl) : BS X E (.Expr e pos) (wExpr we) := by
  refine ⟨psI (ps_expr he.pe hs) fun D σ H ⟨c, ρ, W, g, hw, h⟩ => ?_⟩
  exact ⟨c, ρ, _, W.ex, g, hw, fun r ρ' v H' a b d f => h.nx _ _ _ a b d, h.exok⟩
def wRet (we : WE) : WS := fun W ρ => we W.ex ρ fun r ρ1 => W.rt r ρ1
theorem bs_ret (he : BE X E e we) : BS X E (.Return (some e) pos) (wRet we) := by
  refine ⟨psI (ps_ret he.pe) fun D σ H ⟨c, ρ, W, g, hw, h⟩ => ?_⟩
  exact ⟨c, ρ, _, W.ex, g, hw, fun r ρ' v H' a b d f => h.rt _ _ _ _ _ a b d f, h.exok⟩
def wRetN : WS := fun W ρ => W.rt (.val .none) ρ
theorem bs_retN : BS X E (.Return none pos) wRetN := ⟨psI ps_retN fun D σ H ⟨c, ρ, W, g, hw, h⟩ => h.rt _ _ _ _ _ hw g .refl rfl⟩
def wRetNew (wn : WN) : WS := fun W ρ => wn W.ex ρ fun d ρ1 => W.rn d ρ1
theorem h0_none {K : PySem.W.Frag} {c : Ct} {σ : L2.St} {H : Hp} {ρ : List En} (g : Gd K c σ H ρ) {p : Addr} (hp : H p = none) : c.H0 p = none ∧ ¬ c.M p := by
  refine ⟨?_, fun z => g.th p z hp⟩
  cases q : c.H0 p with
  | none => rfl
  | some o =>
    by_cases hW : c.W p
    · exact absurd hp (g.th p (g.wm p hW))
    · have := g.fr p o q hW; rw [hp] at this; cases this
theorem bs_retNew {wn : WN} (he : BN X E e wn) : BS X E (.Return (some e) pos) (wRetNew wn) := by
  refine ⟨psI (ps_ret he.pe) fun D σ H ⟨c, ρ, W, g, hw, h⟩ => ?_⟩
  exact ⟨c, ρ, _, W.ex, g, hw, fun d ρ' p H' a b e hp ni ha => h.rn d σ ρ' p H' a b e (h0_none g hp).1 (h0_none g hp).2 ni ha, h.exok⟩
/-- return of a name that holds an own list: it is new for the caller -/
def wRetOwn (i : Nat) : WS := fun W ρ => match ρ[i]? with
  | some (.own _ d) => W.rn d (ρ.set i .no)
  | _ => False
theorem bs_retOwn {i : Nat} (h0 : PE X e (tVar i)) : BS X E (.Return (some e) pos) (wRetOwn i) := by
  refine ⟨psI (ps_ret h0) fun D σ H ⟨c, ρ, W, g, hw, h⟩ => ?_⟩
  unfold wRetOwn at hw
  split at hw
  · rename_i l d he
    obtain ⟨h1, h2, h3, h4⟩ := g.own i l d he
    refine ⟨_, h1, ?_⟩
    have hs : ∀ a, Oof (ρ.set i .no) a → Oof ρ a := oof_set fun _ _ z => by cases z
    have nol : ∀ (j : Nat) d', (ρ.set i .no)[j]? ≠ some (.own l d') := fun j d' z => by
      rcases get_set z with ⟨_, z, _⟩ | ⟨ne, z⟩
      · cases z
      · exact ne (g.uo i j l d d' he z)
    have hsub : ∀ a, Mof (c.more l) (ρ.set i .no) a → Mof c ρ a := fun a z => by
      rcases z with (z | rfl) | z
      · exact .inl z
      · exact .inr ⟨i, d, he⟩
      · exact .inr (hs a z)
    have wsub : ∀ a, Wof (c.more l) (ρ.set i .no) a → Wof c ρ a := fun a z => by
      rcases z with (z | rfl) | z
      · exact .inl z
      · exact .inr ⟨i, d, he⟩
      · exact .inr (hs a z)
    have m : Mv (Mof c ρ) (Mof (c.more l) (ρ.set i .no)) H H := Mv.sub hsub
    have mw : Mv (Wof c ρ) (Wof (c.more l) (ρ.set i .no)) H H := Mv.sub wsub
    have q : ∀ {j : Nat} {e : En}, (ρ.set i .no)[j]? = some e → e = .no ∨ ρ[j]? = some e := fun z => by
      rcases get_set z with ⟨_, z, _⟩ | ⟨_, z⟩
      · exact .inl z.symm
      · exact .inr z
    have ni : NoIo l (ρ.set i .no) := fun j d' z => by
      rcases q z with y | y
      · cases y
      · exact h3 (g.wm _ (g.io j l d' y).2.2)
    have g2 : Gd X.K (c.more l) σ H (ρ.set i .no) := by
      refine ⟨by simp [g.len], fun j e z => ?_, fun j e z => ?_, fun j a e z => ?_, fun j a e z => ?_, fun j v z => ?_, fun j k a e e' z1 z2 => ?_, fun j k a e e' z1 z2 => ?_, fun b o e n => g.fr b o e fun w => n (.inl w), fun a z => z.imp (g.wm a) id, fun a z => ?_, fun j v p x z => ?_⟩
      · rcases q z with y | y
        · cases y
        · obtain ⟨v, a, b⟩ := g.val j e y; exact ⟨v, a, b.mv m⟩
      · rcases q z with y | y
        · cases y
        · obtain ⟨v, a, b⟩ := g.rd j e y; exact ⟨v, a, b.mv m mw⟩
      · rcases q z with y | y
        · cases y
        · obtain ⟨a1, a2, a3, a4⟩ := g.own j a e y
          exact ⟨a1, a2.mv m (fun _ z => z), fun w => w.elim a3 fun q' => (by subst q'; exact nol j e z), a4⟩
      · rcases q z with y | y
        · cases y
        · obtain ⟨a1, a2, a3⟩ := g.io j a e y
          exact ⟨a1, a2.mv m (fun _ z => z), .inl a3⟩
      · rcases q z with y | y
        · cases y
        · exact g.obj j v y
      · rcases q z1 with y | y1
        · cases y
        · rcases q z2 with y | y2
          · cases y
          · exact g.uo j k a e e' y1 y2
      · rcases q z1 with y | y1
        · cases y
        · rcases q z2 with y | y2
          · cases y
          · exact g.ui j k a e e' y1 y2
      · rcases z with z | rfl
        · exact g.th a z
        · exact h2.some
      · rcases q z with y | y
        · cases y
        · exact g.xn j v p x y
    exact h.rn d σ _ l H hw g2 (.setNO rfl) h4 h3 ni (h2.mv m fun _ z => z)
  · exact hw.elim
def wIfS (t : WT) (w u : WS) : WS := fun W ρ => t W.ex ρ fun b ρ1 => if b = true then w W ρ1 else u W ρ1
theorem bs_if {c0 : Expr} {a b : List Stmt} {t : WT} (hc : BT X E c0 t) (ha : BSs X E a w) (hb : BSs X E b u) : BS X E (.If c0 a b pos) (wIfS t w u) := by
  refine ⟨psI (ps_if hc.pt ha.pss hb.pss) fun D σ H ⟨c, ρ, W, g, hw, h⟩ => ?_⟩
  refine ⟨c, ρ, _, W.ex, g, hw, fun q ρ' H' k1 g1 e1 => ?_, h.exok⟩
  cases q with
  | true => exact ⟨c, ρ', W, g1, k1, h.ev e1⟩
  | false => exact ⟨c, ρ', W, g1, k1, h.ev e1⟩

/-! ### names stored -/
def stR : R → Nat → List En → Option (List En)
  | .val d, i, ρ => some (ρ.set i (.val d))
  | .see d, i, ρ => some (ρ.set i (.rd d))
  | .at j, i, ρ => (match ρ[j]? with
    | some (.own _ d) => some ((ρ.set j (.val d)).set i (.val d))
    | _ => none)
  | .obj v, i, ρ => some (ρ.set i (.obj v))
theorem stR_ok {K : PySem.W.Frag} {c : Ct} {σ : L2.St} {H : Hp} {ρ ρ2 : List En} {v : V} {r : R} {i : Nat} (p : RepR K c σ H ρ v r) (g : Gd K c σ H ρ) (h : stR r i ρ = some ρ2) : Gd K c (σ.set i (some v)) H ρ2 ∧ Ev c ρ H ρ2 H := by
  cases r with
  | val d => cases h; exact ⟨g.setVal i p, .setNO rfl⟩
  | see d => cases h; exact ⟨g.setRd i p, .setNO rfl⟩
  | obj u => cases h; cases (show v = u from p); exact ⟨g.setObj i, .setNO rfl⟩
  | «at» j =>
    have h : (match ρ[j]? with
      | some (.own _ d) => some ((ρ.set j (.val d)).set i (.val d))
      | _ => none) = some ρ2 := h
    split at h
    · rename_i l d1 he
      cases h
      obtain ⟨l', rfl, hl⟩ := p
      have := (g.own j l _ he).1
      rw [hl] at this; cases this
      obtain ⟨g1, r1⟩ := g.freeze he
      exact ⟨g1.setVal i r1, (Ev.setNO rfl).trans (.setNO rfl)⟩
    · cases h
def wSet (i : Nat) (we : WE) : WS := fun W ρ => we W.ex ρ fun r ρ1 => ∃ ρ2, stR r i ρ1 = some ρ2 ∧ W.nx ρ2
theorem bs_set {i : Nat} (mk : ∀ {te : TE}, PE X e te → PS X st (tAsg te (gName i))) (he : BE X E e we) : BS X E st (wSet i we) := by
  refine ⟨psI (mk he.pe) fun D σ H ⟨c, ρ, W, g, hw, h⟩ => ?_⟩
  refine ⟨c, ρ, _, W.ex, g, hw, fun r ρ1 v H1 k1 g1 e1 p1 => ?_, h.exok⟩
  obtain ⟨ρ2, hs, hn⟩ := k1
  obtain ⟨g2, e2⟩ := stR_ok p1 g1 hs
  exact h.nx _ _ _ hn g2 (e1.trans e2)
def wSetN (i : Nat) (wn : WN) : WS := fun W ρ => wn W.ex ρ fun d ρ1 => ∀ p, W.nx (ρ1.set i (.own p d))
theorem bs_setN {i : Nat} {wn : WN} (mk : ∀ {te : TE}, PE X e te → PS X st (tAsg te (gName i))) (he : BN X E e wn) : BS X E st (wSetN i wn) := by
  refine ⟨psI (mk he.pe) fun D σ H ⟨c, ρ, W, g, hw, h⟩ => ?_⟩
  refine ⟨c, ρ, _, W.ex, g, hw, fun d ρ1 p H1 k1 g1 e1 hp ni ha => ?_, h.exok⟩
  refine h.nx _ _ _ (k1 p) (g1.setOwn g.wm ni i ha (h0_none g hp).2 (h0_none g hp).1) ⟨e1.kept, fun a z => ?_, e1.there⟩
  obtain ⟨j, d', z | z⟩ := z
  · rcases get_set z with ⟨_, z, _⟩ | ⟨_, z⟩
    · cases z; exact .inr hp
    · exact e1.own a ⟨j, d', .inl z⟩
  · rcases get_set z with ⟨_, z, _⟩ | ⟨_, z⟩
    · cases z
    · exact e1.own a ⟨j, d', .inr z⟩

/-! ### name op= e -/
def wAug (i : Nat) (g : G2) (we : WE) : WS := fun W ρ => ∃ d, ρ[i]? = some (.val d) ∧ we W.ex ρ fun r ρ1 => ∃ e, r.get ρ1 = some e ∧ g d e fun z => W.nx (ρ1.set i (.val z))
theorem bs_aug {i : Nat} {op : Operator} {g : G2} (ho : OpD X (inplaceOp op) g) (mk : ∀ {te : TE} {ti : TIp}, PE X e te → PIp X op ti → PS X st (tAug i te ti)) (he : BE X E e we) : BS X E st (wAug i g we) := by
  obtain ⟨r, h1, h2⟩ := ho
  refine ⟨psI (mk he.pe h1) fun D σ H ⟨c, ρ, W, gd, hw, h⟩ => ?_⟩
  obtain ⟨d, hd, hw⟩ := hw
  obtain ⟨v, hv, rv⟩ := gd.val i d hd
  refine ⟨v, hv, c, ρ, _, W.ex, gd, hw, fun r' ρ1 v1 H1 k1 g1 e1 p1 => ?_, h.exok⟩
  obtain ⟨e, hq, hg⟩ := k1
  refine h2 (Mof c ρ1) H1 v v1 d e _ _ (fun a z => g1.mth z) ((rv.mv (e1.mv gd)).see fun _ z => z.elim) (p1.see g1 hq) hg fun v2 H' z kz sm rp => ?_
  exact h.nx _ _ _ kz ((g1.same sm).setVal i rp) ((e1.trans (.same sm)).trans (.setNO rfl))
def gIAdd : G2
  | .int i, .int j, k => k (.int (i + j))
  | .str x, .str y, k => x.length + y.length ≤ sizeLine ∧ k (.str (x ++ y))
  | _, _, _ => False
theorem od_iadd : OpD X (inplaceOp .Add) gIAdd := by
  refine ⟨_, (iop_add.or iop_add_str), fun M H x y d e k Q th sx sy hg hq => ?_⟩
  unfold gIAdd at hg
  split at hg
  · exact .inl ⟨_, _, sx.int, sy.int, hq _ _ _ hg (fun _ _ z => z) rfl⟩
  · exact .inr ⟨_, _, sx.str, sy.str, hg.1, hq _ _ _ hg.2 (fun _ _ z => z) rfl⟩
  · exact hg.elim
theorem od_isub : OpD X (inplaceOp .Sub) gMinus := opd_I0 iop_sub
theorem od_imul : OpD X (inplaceOp .Mult) gMul := opd_I iop_mul

/-! ### a list of a name changed by a method -/
abbrev GW := PyData → List PyData → (PyData → PyData → Prop) → Prop
def MtW (X : Cx) (id : String) (g : GW) : Prop := ∃ r, MtR X id r ∧ ∀ (M : Ow) (H : Hp) (l : Addr) (d : PyData) (vs : List V) (ds : List PyData) (k : PyData → PyData → Prop) (Q : VK), M l → Thr M H → At X.K M H l d → RepAll X.K M H ds vs → g d ds k →
  (∀ v z d' o, k z d' → At X.K M (upd H l o) l d' → Rep X.K M (upd H l o) z v → Q v (upd H l o)) → r (.ref l) vs H Q
def wMut (i : Nat) (g : GW) (u : WA) : WE := fun kx ρ k => (∃ ds0, cont i ρ = some (.list ds0)) ∧ u kx ρ fun rs ρ1 => ∃ ds ρ2 d, fzA rs ρ1 = some (ds, ρ2) ∧ cont i ρ2 = some d ∧ g d ds fun z d' => k (.val z) (wr i d' ρ2)
def wMut0 (i : Nat) (g : GW) : WE := fun kx ρ k => ∃ ds, cont i ρ = some (.list ds) ∧ g (.list ds) [] fun z d' => k (.val z) (wr i d' ρ)
theorem cell_ref {K : PySem.W.Frag} {c : Ct} {σ : L2.St} {H : Hp} {ρ : List En} (g : Gd K c σ H ρ) {i : Nat} {d : PyData} (h : cont i ρ = some d) {l : Addr} (hl : σ[i]? = some (some (.ref l))) : At K (Mof c ρ) H l d ∧ Mof c ρ l := by
  obtain ⟨l', h1, h2, h3, _⟩ := g.cell h
  rw [hl] at h1; cases h1
  exact ⟨h2, g.wsub (g.wr_w h3)⟩
theorem mof_wr {c : Ct} {ρ : List En} {i : Nat} {d d' : PyData} (h : cont i ρ = some d) : ∀ a, Mof c ρ a → Mof c (wr i d' ρ) a := fun a z => by
  rcases z with z | ⟨j, e, z⟩
  · exact .inl z
  · rcases cont_shape h with ⟨l, q⟩ | ⟨l, q⟩
    · rw [wr_own i d' q]
      by_cases hj : i = j
      · subst hj
        rw [q] at z; cases z
        exact .inr ⟨i, d', by rw [List.getElem?_set_self (List.getElem?_eq_some_iff.mp q).1]⟩
      · exact .inr ⟨j, e, by rw [List.getElem?_set_ne hj]; exact z⟩
    · rw [wr_io i d' q]
      by_cases hj : i = j
      · subst hj
        rw [q] at z; cases z
      · exact .inr ⟨j, e, by rw [List.getElem?_set_ne hj]; exact z⟩
variable {es : List Expr} {wa : WA} {name : Str} {apos cpos : Pos} {T id : String} {o : Expr} {i : Nat} {g : GW}
theorem be_mut (pa : PlainAttrs "list") (slot : Slot "list" name id) (hty : typeOf (.builtin id) = pure (.type "method_descriptor")) (hm : MtW X id g) (ho : PE X o (tVar i)) (ha : BA X E (e :: es) wa)
    (hbase : attributeBase o name X.env (eval o X.env) = eval o X.env := by rfl)
    (hfew : ((backTo cpos (starEach (e :: es) X.env)).all (fun x => !x.1) && (backToKw cpos (keywordEach [] X.env)).all (fun x => x.1.isSome)
      && decide ((e :: es).length + ([] : List Keyword).length + (if ([] : List Keyword).isEmpty then 0 else 1) < 30)) = true := by rfl)
    (hline : (apos.endLine == cpos.line) = true := by rfl) (hs : starEach (e :: es) X.env = (false, eval e X.env) :: starEach es X.env := by rfl) (hplain : (backTo cpos (starEach es X.env)).any (·.1) = false := by rfl) :
    BE X E (.Call (.Attribute o name apos) (e :: es) [] cpos) (wMut i g wa) := by
  obtain ⟨r, h1, h2⟩ := hm
  refine ⟨peI (pe_bm pa slot hty h1 ho ha.pa hbase hfew hline hs hplain) fun σ H Q ⟨c, ρ, k, kx, gd, ⟨⟨ds0, hc0⟩, hw⟩, hk, hx⟩ => ?_⟩
  obtain ⟨l, hl, a0, w0, _⟩ := gd.cell hc0
  have ⟨xs0, q0, _⟩ := a0
  refine ⟨.ref l, hl, .inl ⟨rfl, xs0, .of q0⟩, c, ρ, _, kx, gd, hw, fun rs ρ1 vs H1 k1 g1 e1 p1 => ?_, hx⟩
  obtain ⟨ds, ρ2, d, hf, hc2, hg⟩ := k1
  obtain ⟨g2, e2, r2⟩ := fzA_rep g1 p1 hf
  obtain ⟨a2, m2⟩ := cell_ref g2 hc2 hl
  refine h2 (Mof c ρ2) H1 l d vs ds _ _ m2 (fun a z => g2.mth z) a2 r2 hg fun v z d' o kz at' rp => ?_
  obtain ⟨g3, e3⟩ := g2.wrt hc2 hl at'
  exact hk _ _ _ _ kz g3 ((e1.trans e2).trans e3) (Rep.mv (Mv.sub fun a z => by
    rcases z with z | z
    · exact .inl z
    · exact .inr (oof_wr a z)) rp)
theorem be_mut0 (pa : PlainAttrs "list") (slot : Slot "list" name id) (hty : typeOf (.builtin id) = pure (.type "method_descriptor")) (hm : MtW X id g) (ho : PE X o (tVar i))
    (hbase : attributeBase o name X.env (eval o X.env) = eval o X.env := by rfl) (hline : (apos.endLine == cpos.line) = true := by rfl) :
    BE X E (.Call (.Attribute o name apos) [] [] cpos) (wMut0 i g) := by
  obtain ⟨r, h1, h2⟩ := hm
  refine ⟨peI (pe_bm0 pa slot hty h1 ho hbase hline) fun σ H Q ⟨c, ρ, k, kx, gd, ⟨ds0, hc0, hg⟩, hk, hx⟩ => ?_⟩
  obtain ⟨l, hl, a0, w0, _⟩ := gd.cell hc0
  have ⟨xs0, q0, _⟩ := a0
  refine ⟨.ref l, hl, .inl ⟨rfl, xs0, .of q0⟩, ?_⟩
  refine h2 (Mof c ρ) H l _ [] [] _ _ (gd.wsub (gd.wr_w w0)) (fun a z => gd.mth z) a0 rfl hg fun v z d' o kz at' rp => ?_
  obtain ⟨g3, e3⟩ := gd.wrt hc0 hl at'
  exact hk _ _ _ _ kz g3 e3 (Rep.mv (Mv.sub fun a z => by
    rcases z with z | z
    · exact .inl z
    · exact .inr (oof_wr a z)) rp)
theorem mv_upd {M : Ow} {H : Hp} {l : Addr} {o : HO} (m : M l) : Mv M M H (upd H l o) := ⟨fun _ z => .inl z, fun b u e n => by rw [upd_ne (fun q : b = l => n (by rw [q]; exact m))]; exact e⟩
def gAppend : GW
  | .list ds, [y], k => ds.length < sizeLine ∧ k .none (.list (ds ++ [y]))
  | _, _, _ => False
theorem mw_append : MtW X "list.append" gAppend := by
  refine ⟨_, mt_append, fun M H l d vs ds k Q m th a ra hg hq => ?_⟩
  unfold gAppend at hg
  split at hg
  · obtain ⟨us, h1, h2⟩ := a
    obtain ⟨v, vs', rfl, r1, r2⟩ := ra
    cases (show vs' = [] from r2)
    exact ⟨l, us, v, rfl, rfl, h1, by rw [h2.len]; exact hg.1, hq _ _ _ _ hg.2 ⟨_, upd_same, (h2.app (.one r1)).mv (mv_upd m)⟩ rfl⟩
  · exact hg.elim
def gExtend : GW
  | .list ds, [.list es], k => ds.length + es.length ≤ sizeLine ∧ k .none (.list (ds ++ es))
  | _, _, _ => False
theorem mw_extend : MtW X "list.extend" gExtend := by
  refine ⟨_, mt_extend, fun M H l d vs ds k Q m th a ra hg hq => ?_⟩
  unfold gExtend at hg
  split at hg
  · obtain ⟨us, h1, h2⟩ := a
    obtain ⟨v, vs', rfl, ⟨b, zs, rfl, lb, rb⟩, r2⟩ := ra
    cases (show vs' = [] from r2)
    exact ⟨l, b, us, zs, rfl, rfl, h1, lb.1, by rw [h2.len, rb.len]; exact hg.1, hq _ _ _ _ hg.2 ⟨_, upd_same, (h2.app rb).mv (mv_upd m)⟩ rfl⟩
  · exact hg.elim
def gPop : GW
  | .list ds, [], k => ∃ y, ds[ds.length - 1]? = some y ∧ k y (.list ds.dropLast)
  | .list ds, [.int i], k => ds.length < 2 ^ 62 ∧ ∃ y j, ixN ds.length i = some j ∧ ds[j]? = some y ∧ k y (.list (ds.eraseIdx j))
  | _, _, _ => False
theorem RepAll.dropLast {K : PySem.W.Frag} {M : Ow} {H : Hp} {ds : List PyData} {xs : List V} (h : RepAll K M H ds xs) : RepAll K M H ds.dropLast xs.dropLast := by
  rw [List.dropLast_eq_take, List.dropLast_eq_take, h.len]
  exact h.take _
theorem mw_pop : MtW X "list.pop" gPop := by
  refine ⟨_, MtR.or (X := X) (id := "list.pop") mt_pop mt_popAt, fun M H l d vs ds k Q m th a ra hg hq => ?_⟩
  unfold gPop at hg
  split at hg
  · obtain ⟨y, hy, hk⟩ := hg
    obtain ⟨us, h1, h2⟩ := a
    cases (show vs = [] from ra)
    obtain ⟨v, hv, rv⟩ := h2.get hy
    exact .inl ⟨l, us, v, rfl, rfl, h1, by rw [h2.len]; exact hv, hq _ _ _ _ hk ⟨_, upd_same, h2.dropLast.mv (mv_upd m)⟩ (rv.mv (mv_upd m))⟩
  · obtain ⟨hz, y, j, hj, hy, hk⟩ := hg
    obtain ⟨us, h1, h2⟩ := a
    obtain ⟨v0, vs', rfl, r1, r2⟩ := ra
    cases (show vs' = [] from r2)
    cases (show v0 = _ from r1)
    obtain ⟨v, hv, rv⟩ := h2.get hy
    obtain ⟨s1, s2, s3, s4⟩ := ixN_seq hj
    exact .inr ⟨l, us, _, j, v, rfl, rfl, h1, by omega, by omega, by rw [h2.len]; exact s1, hv, hq _ _ _ _ hk ⟨_, upd_same, (h2.erase j).mv (mv_upd m)⟩ (rv.mv (mv_upd m))⟩
  · exact hg.elim
def gInsert : GW
  | .list ds, [.int i, y], k => (ds.length < sizeLine ∧ 0 ≤ i ∧ i < 2 ^ 63) ∧ k .none (.list (ds.take i.toNat ++ [y] ++ ds.drop i.toNat))
  | _, _, _ => False
theorem mw_insert : MtW X "list.insert" gInsert := by
  refine ⟨_, mt_insert, fun M H l d vs ds k Q m th a ra hg hq => ?_⟩
  unfold gInsert at hg
  split at hg
  · obtain ⟨us, h1, h2⟩ := a
    obtain ⟨v, vs', rfl, r1, w, ws, rfl, r2, r3⟩ := ra
    cases (show ws = [] from r3)
    cases (show v = _ from r1)
    exact ⟨l, us, _, w, rfl, rfl, h1, by rw [h2.len]; exact hg.1.1, hg.1.2.1, hg.1.2.2, hq _ _ _ _ hg.2 ⟨_, upd_same, (((h2.take _).app (.one r2)).app (h2.drop _)).mv (mv_upd m)⟩ rfl⟩
  · exact hg.elim
def gReverse : GW
  | .list ds, [], k => k .none (.list ds.reverse)
  | _, _, _ => False
theorem mw_reverse : MtW X "list.reverse" gReverse := by
  refine ⟨_, mt_reverse, fun M H l d vs ds k Q m th a ra hg hq => ?_⟩
  unfold gReverse at hg
  split at hg
  · obtain ⟨us, h1, h2⟩ := a
    cases (show vs = [] from ra)
    exact ⟨l, us, rfl, rfl, h1, hq _ _ _ _ hg ⟨_, upd_same, h2.rev.mv (mv_upd m)⟩ rfl⟩
  · exact hg.elim
def gClear : GW
  | .list _, [], k => k .none (.list [])
  | _, _, _ => False
theorem mw_clear : MtW X "list.clear" gClear := by
  refine ⟨_, mt_clear, fun M H l d vs ds k Q m th a ra hg hq => ?_⟩
  unfold gClear at hg
  split at hg
  · obtain ⟨us, h1, h2⟩ := a
    cases (show vs = [] from ra)
    exact ⟨l, us, rfl, rfl, h1, hq _ _ _ _ hg ⟨_, upd_same, rfl⟩ rfl⟩
  · exact hg.elim
/-! ### x[i] = e, x[i] op= e -/
variable {we2 : WE}
def wItem (i : Nat) (we wi : WE) : WS := fun W ρ => we W.ex ρ fun r ρ1 => (∃ ds0, cont i ρ1 = some (.list ds0)) ∧ wi W.ex ρ1 fun ri ρ2 => ∃ z ρ3 ix ds j, r.fz ρ2 = some (z, ρ3) ∧ ri.get ρ3 = some (.int ix) ∧ cont i ρ3 = some (.list ds) ∧ ixN ds.length ix = some j ∧
  W.nx (wr i (.list (ds.set j z)) ρ3)
theorem bs_item {i : Nat} {b : Expr} {wb : WE} (mk : ∀ {te to ti : TE} {t : TSet}, PE X e te → PE X o to → PE X b ti → PSet X t → PS X st (tAsg te (L2.gSub to ti t))) (he : BE X E e we) (ho : PE X o (tVar i)) (hb : BE X E b wb) : BS X E st (wItem i we wb) := by
  refine ⟨psI (mk he.pe ho hb.pe set_list) fun D σ H ⟨c, ρ, W, gd, hw, h⟩ => ?_⟩
  refine ⟨c, ρ, _, W.ex, gd, hw, fun r ρ1 v1 H1 k1 g1 e1 p1 => ?_, h.exok⟩
  obtain ⟨⟨ds0, hc0⟩, k1⟩ := k1
  obtain ⟨l, hl, a0, w0, _⟩ := g1.cell hc0
  refine ⟨.ref l, hl, c, ρ1, _, W.ex, g1, k1, fun ri ρ2 v2 H2 k2 g2 e2 p2 => ?_, h.exok.ev e1⟩
  obtain ⟨z, ρ3, ix, ds, j, hf, hi, hc3, hj, hn⟩ := k2
  obtain ⟨g3, e3, r3⟩ := (p1.ev g1 e2).fz g2 hf
  obtain ⟨a3, m3⟩ := cell_ref g3 hc3 hl
  obtain ⟨us, q1, q2⟩ := a3
  have hv2 : v2 = .int ix := (((p2.ev g2 e3)).see g3 hi).int
  obtain ⟨g4, e4⟩ := g3.wrt hc3 hl (o := .lst (us.set j v1)) (d' := .list (ds.set j z)) ⟨_, upd_same, (q2.set j r3).mv (mv_upd m3)⟩
  exact ⟨l, us, ix, j, rfl, hv2, q1, by rw [q2.len]; exact hj, h.nx _ _ _ hn g4 (((e1.trans e2).trans e3).trans e4)⟩
def wAugItem (i : Nat) (g : G2) (wi we : WE) : WS := fun W ρ => (∃ ds0, cont i ρ = some (.list ds0)) ∧ wi W.ex ρ fun ri ρ1 => ∃ ds1 ix z1, cont i ρ1 = some (.list ds1) ∧ ri.get ρ1 = some (.int ix) ∧ 0 ≤ ix ∧ ix < 2 ^ 63 ∧ ds1[ix.toNat]? = some z1 ∧ we W.ex ρ1 fun r ρ2 => ∃ e2, r.get ρ2 = some e2 ∧
  g z1 e2 fun z => ∃ ds, cont i ρ2 = some (.list ds) ∧ ix < ds.length ∧ W.nx (wr i (.list (ds.set ix.toNat z)) ρ2)
def rGetL (K : PySem.W.Frag) : V → V → Hp → VK → Prop := fun x y H Q => ∃ p xs i v, x = .ref p ∧ y = .int i ∧ SqL K H p xs ∧ 0 ≤ i ∧ i < 2 ^ 63 ∧ xs[i.toNat]? = some v ∧ Q v H
theorem pget_list : PGet X (rGetL X.K) := by
  intro pins s σ H x y v u Q I rx ry h
  obtain ⟨p, xs, i, z, rfl, rfl, hq, h0, h1, he, q⟩ := h
  cases rx
  obtain ⟨t, rfl⟩ := ry
  obtain ⟨its, r, pl, hz⟩ := I.list hq
  obtain ⟨w, ew, rw'⟩ := r.get he
  exact wpAny_getItem_list pl.isList h0 h1 (by simpa using ew) ⟨z, H, I, rw', q⟩
theorem bs_augItem {i : Nat} {b : Expr} {wb : WE} {op : Operator} {g : G2} (ho : OpD X (inplaceOp op) g) (mk : ∀ {to ti te : TE} {tget : V → V → Hp → VK → Prop} {tip : TIp} {tset : TSet}, PE X o to → PE X b ti → PGet X tget → PE X e te → PIp X op tip → PSet X tset → PS X st (tAugS to ti te tget tip tset))
    (h0 : PE X o (tVar i)) (hb : BE X E b wb) (he : BE X E e we) : BS X E st (wAugItem i g wb we) := by
  obtain ⟨r, h1, h2⟩ := ho
  refine ⟨psI (mk h0 hb.pe pget_list he.pe h1 set_list) fun D σ H ⟨c, ρ, W, gd, ⟨⟨ds0, hc0⟩, hw⟩, h⟩ => ?_⟩
  obtain ⟨l, hl, a0, w0, _⟩ := gd.cell hc0
  refine ⟨.ref l, hl, c, ρ, _, W.ex, gd, hw, fun ri ρ1 v1 H1 k1 g1 e1 p1 => ?_, h.exok⟩
  obtain ⟨ds1, ix, z1, hc1, hi, h01, h63, hz1, k1⟩ := k1
  obtain ⟨⟨us1, q1, q1r⟩, m1⟩ := cell_ref g1 hc1 hl
  obtain ⟨x1, hx1, rx1⟩ := q1r.get hz1
  have hv1 : v1 = .int ix := (p1.see g1 hi).int
  refine ⟨l, us1, ix, x1, rfl, hv1, .of q1, h01, h63, hx1, c, ρ1, _, W.ex, g1, k1, fun r' ρ2 v2 H2 k2 g2 e2 p2 => ?_, h.exok.ev e1⟩
  obtain ⟨e', he', hg⟩ := k2
  refine h2 (Mof c ρ2) H2 x1 v2 z1 e' _ _ (fun a z => g2.mth z) ((rx1.mv (e2.mv g1)).see fun _ z => z.elim) (p2.see g2 he') hg fun v3 H3 z kz sm rp => ?_
  obtain ⟨ds, hc2, hlt, hn⟩ := kz
  have g3 := g2.same sm
  obtain ⟨⟨us, q2, q2r⟩, m2⟩ := cell_ref g3 hc2 hl
  have hj : ixN us.length ix = some ix.toNat := by
    unfold ixN
    rw [if_pos h01, if_pos (by rw [q2r.len]; exact hlt)]
  obtain ⟨g4, e4⟩ := g3.wrt hc2 hl (o := .lst (us.set ix.toNat v3)) (d' := .list (ds.set ix.toNat z)) ⟨_, upd_same, (q2r.set ix.toNat rp).mv (mv_upd m2)⟩
  exact ⟨l, us, ix, ix.toNat, rfl, hv1, q2, hj, h.nx _ _ _ hn g4 (((e1.trans e2).trans (.same sm)).trans e4)⟩

/-! ### while -/
structure WhP (wt : WT) (wb : WS) (W : WD) (ρ : List En) : Prop where
  run : ∃ (P : List En → Prop) (μ : List En → Nat), P ρ ∧ ∀ ρ1, P ρ1 → wt W.ex ρ1 fun b ρ2 => if b = true then
    wb { W with nx := fun ρ3 => P ρ3 ∧ μ ρ3 < μ ρ1, ct := fun ρ3 => P ρ3 ∧ μ ρ3 < μ ρ1, bk := W.nx } ρ2 else W.nx ρ2
def wWhile (wt : WT) (wb : WS) : WS := fun W ρ => WhP wt wb W ρ
theorem bs_while {c0 : Expr} {body : List Stmt} {wt : WT} {wb : WS} (hp : PassesOwn (model X.prog X.w) X.A X.env X.xe) (hc : BT X E c0 wt) (hb : BSs X E body wb) : BS X E (.While c0 body [] pos) (wWhile wt wb) := by
  refine ⟨psI (ps_while hp hc.pt hb.pss) fun D σ H ⟨c, ρ, W, gd, ⟨⟨P, μ, h0, turn⟩⟩, h⟩ => ?_⟩
  refine ⟨fun m σ1 H1 => ∃ ρ1, m = μ ρ1 ∧ P ρ1 ∧ Gd X.K c σ1 H1 ρ1 ∧ Ev c ρ H ρ1 H1, ⟨_, ρ, rfl, h0, gd, .refl⟩, ?_⟩
  rintro m σ1 H1 ⟨ρ1, rfl, p1, g1, e1⟩
  refine ⟨c, ρ1, _, W.ex, g1, turn ρ1 p1, fun b ρ2 H2 k2 g2 e2 => ?_, h.exok.ev e1⟩
  have e12 := e1.trans e2
  cases b with
  | false => exact h.nx _ _ _ k2 g2 e12
  | true =>
    refine ⟨fun σ3 H3 => ∃ ρ3, (P ρ3 ∧ μ ρ3 < μ ρ1) ∧ Gd X.K c σ3 H3 ρ3 ∧ Ev c ρ H ρ3 H3, fun σ' H' ⟨ρ3, ⟨p3, l3⟩, g3, e3⟩ => ⟨_, l3, ρ3, rfl, p3, g3, e3⟩, ?_⟩
    refine ⟨c, ρ2, _, g2, k2, ⟨fun σ' ρ' H' a b d => ⟨ρ', a, b, e12.trans d⟩, (h.ev e12).rt, (h.ev e12).rn, fun σ' ρ' H' a b d => h.nx _ _ _ a b (e12.trans d), fun σ' ρ' H' a b d => ⟨ρ', a, b, e12.trans d⟩, (h.ev e12).ex⟩⟩
end
end LB

/-! LB, part 7: what is walked; for; comprehensions, by value. -/
namespace LB
open PySem PySem.Spec PyProof.Rows L2
/-- what a loop walks: items fixed; or the list of the slot i, at l -/
inductive Src where
  | fixed (ds : List PyData)
  | cell (i : Nat) (l : Addr) (ds : List PyData)
  /-- items made of lists of slots -/
  | many (its : List PyData) (ls : List (Nat × Addr × List PyData))
def HeldAt (ρ : List En) (q : Nat × Addr × List PyData) : Prop := ρ[q.1]? = some (.own q.2.1 (.list q.2.2)) ∨ ρ[q.1]? = some (.io q.2.1 (.list q.2.2))
def Src.items : Src → List PyData
  | .fixed ds => ds
  | .cell _ _ ds => ds
  | .many its _ => its
def Src.ok : Src → List En → Prop
  | .fixed _, _ => True
  | .cell i l ds, ρ => ρ[i]? = some (.own l (.list ds)) ∨ ρ[i]? = some (.io l (.list ds))
  | .many _ ls, ρ => ∀ q ∈ ls, HeldAt ρ q
/-- a later state of the same def -/
structure Lt (K : PySem.W.Frag) (c : Ct) (ρ : List En) (H : Hp) (c' : Ct) (σ' : L2.St) (ρ' : List En) (H' : Hp) (s : Src) : Prop where
  gd : Gd K c' σ' H' ρ'
  m : Mv (Mof c ρ) (Mof c' ρ') H H'
  w : Mv (Wof c ρ) (Wof c' ρ') H H'
  ok : s.ok ρ'
structure WalksD (K : PySem.W.Frag) (c : Ct) (ρ : List En) (H : Hp) (s : Src) (J : It) : Prop where
  go : ∀ c' σ' ρ' H' (i : Nat), Lt K c ρ H c' σ' ρ' H' s → i < s.items.length → J.go i H'
  stop : ∀ c' σ' ρ' H', Lt K c ρ H c' σ' ρ' H' s → J.stop s.items.length H'
  yld : ∀ c' σ' ρ' H' (i : Nat) x H'', Lt K c ρ H c' σ' ρ' H' s → i < s.items.length → J.yld i H' x H'' → Sm H' H'' ∧ ∃ d, s.items[i]? = some d ∧ Rep K (Mof c' ρ') H'' d x
abbrev WI := KX → List En → (Src → List En → Prop) → Prop
def lI (X : Cx) (E : EK) (w : WI) : TI := fun σ H R => ∃ c ρ k kx, Gd X.K c σ H ρ ∧ w kx ρ k ∧ (∀ s ρ' J H', k s ρ' → Gd X.K c σ H' ρ' → Ev c ρ H ρ' H' → s.ok ρ' → WalksD X.K c ρ' H' s J → R J H') ∧ ExOk X.K E c σ ρ H kx
structure BI (X : Cx) (E : EK) (tg iter : Expr) (w : WI) : Prop where
  pi : PI X tg iter (lI X E w)
theorem piI {X : Cx} {tg iter : Expr} {t t' : TI} (h : PI X tg iter t) (i : ∀ σ H R, t' σ H R → t σ H R) : PI X tg iter t' := ⟨fun pins s σ H R I q => h.run pins s σ H R I (i σ H R q)⟩
/-- what stores an item -/
abbrev WG := PyData → List En → (List En → Prop) → Prop
abbrev WGs := List PyData → List En → (List En → Prop) → Prop
/-- but for the slots sl the same -/
def But (sl : List Nat) (σ σ' : L2.St) : Prop := σ'.length = σ.length ∧ ∀ j, j ∉ sl → σ'[j]? = σ[j]?
def lG (K : PySem.W.Frag) (sl : List Nat) (g : WG) : TG := fun v σ H Q => ∃ c ρ d k, Gd K c σ H ρ ∧ Rep K (Mof c ρ) H d v ∧ g d ρ k ∧ ∀ σ' ρ', k ρ' → Gd K c σ' H ρ' → Ev c ρ H ρ' H → But sl σ σ' → Q σ' H
def lGs (K : PySem.W.Frag) (sl : List Nat) (g : WGs) : TGs := fun vs σ H Q => ∃ c ρ ds k, Gd K c σ H ρ ∧ RepAll K (Mof c ρ) H ds vs ∧ g ds ρ k ∧ ∀ σ' ρ', k ρ' → Gd K c σ' H ρ' → Ev c ρ H ρ' H → But sl σ σ' → Q σ' H
structure BG (X : Cx) (tg : Expr) (sl : List Nat) (g : WG) : Prop where
  pg : PG X tg (lG X.K sl g)
structure BGs (X : Cx) (tgs : List Expr) (sl : List Nat) (g : WGs) : Prop where
  pgs : PGs X tgs (lGs X.K sl g)
theorem pgI {X : Cx} {tg : Expr} {t t' : TG} (h : PG X tg t) (i : ∀ v σ H Q, t' v σ H Q → t v σ H Q) : PG X tg t' := ⟨fun pins s σ H v u Q I r q => h.run pins s σ H v u Q I r (i v σ H Q q)⟩
theorem pgsI {X : Cx} {tg : List Expr} {t t' : TGs} (h : PGs X tg t) (i : ∀ v σ H Q, t' v σ H Q → t v σ H Q) : PGs X tg t' := ⟨fun pins s σ H v u Q I r q => h.run pins s σ H v u Q I r (i v σ H Q q)⟩
section
variable {X : Cx} {E : EK} {tg e : Expr} {es : List Expr} {pos : Pos} {we : WE}
/-! ### targets -/
def gNm (i : Nat) : WG := fun d ρ k => k (ρ.set i (.val d))
theorem bg_name {i : Nat} (h : PG X tg (gName i)) : BG X tg [i] (gNm i) := by
  refine ⟨pgI h fun v σ H Q ⟨c, ρ, d, k, g, r, hg, hk⟩ => ?_⟩
  exact hk _ _ hg (g.setVal i r) (.setNO rfl) ⟨by simp, fun j hj => List.getElem?_set_ne (fun q => hj (by simp [q]))⟩
def gsNil : WGs := fun ds ρ k => ds = [] ∧ k ρ
def gsCons (g : WG) (u : WGs) : WGs := fun ds ρ k => ∃ d r, ds = d :: r ∧ g d ρ fun ρ' => u r ρ' k
theorem bgs_nil : BGs X [] [] gsNil := by
  refine ⟨pgsI pgs_nil fun vs σ H Q ⟨c, ρ, ds, k, g, r, ⟨e, hg⟩, hk⟩ => ?_⟩
  subst e
  exact ⟨r, hk _ _ hg g .refl ⟨rfl, fun _ _ => rfl⟩⟩
theorem bgs_cons {g : WG} {u : WGs} {sl sl2 : List Nat} (h1 : BG X e sl g) (h2 : BGs X es sl2 u) (hs : (assignEach (e :: es) X.env).map (·.2) = assign e X.env :: (assignEach es X.env).map (·.2) := by rfl) : BGs X (e :: es) (sl ++ sl2) (gsCons g u) := by
  refine ⟨pgsI (pgs_cons h1.pg h2.pgs hs) fun vs σ H Q ⟨c, ρ, ds, k, gd, r, ⟨d, rs, e, hg⟩, hk⟩ => ?_⟩
  subst e
  obtain ⟨v, vs', rfl, r1, r2⟩ := r
  refine ⟨v, vs', rfl, c, ρ, d, _, gd, r1, hg, fun σ' ρ' k1 g1 e1 l1 => ?_⟩
  exact ⟨c, ρ', rs, k, g1, r2.mv (e1.mv gd), k1, fun σ2 ρ2 a b d' l => hk _ _ a b (e1.trans d') ⟨l.1.trans l1.1, fun j hj => (l.2 j (fun q => hj (List.mem_append_right _ q))).trans (l1.2 j (fun q => hj (List.mem_append_left _ q)))⟩⟩
def gTp (u : WGs) (n : Nat) : WG := fun d ρ k => ∃ ds, d = .tuple ds ∧ ds.length = n ∧ u ds ρ k
theorem bg_tup {k0 : Nat} {u : WGs} {n : Nat} {sl : List Nat} (hc : X.calm = true) (h : BGs X es sl u) (hn : (assignEach es X.env).length = n := by rfl) (hst : (assignEach es X.env).findIdx? (·.1) = none := by rfl) : BG X (.Tuple es k0 pos) sl (gTp u n) := by
  refine ⟨pgI (pg_tup hc h.pgs hn hst) fun v σ H Q ⟨c, ρ, d, k, gd, r, ⟨ds, e, hl, hg⟩, hk⟩ => ?_⟩
  subst e
  obtain ⟨a, xs, rfl, l, ra⟩ := r
  exact ⟨a, xs, rfl, l.sq, by rw [ra.len]; exact hl, c, ρ, ds, k, gd, ra, hg, hk⟩

/-! ### what is walked -/
theorem pi_seq {l : Expr} {tl : TE} (hl : PE X l tl) : PI X tg l (fun σ H R => tl σ H fun x H1 => (∃ a, x = .ref a ∧ (∃ xs, SqL X.K H1 a xs) ∧ R (Itl X.K a) H1) ∨ (∃ a, x = .ref a ∧ (∃ xs, SqT X.K H1 a xs) ∧ R (Itt X.K a) H1) ∨ ∃ z, x = .str z ∧ R (Its z) H1) := by
  refine ⟨fun pins s σ H R I h => ?_⟩
  refine thn (hl.run pins s σ H _ I h) fun v s1 ⟨x, H1, I1, r1, q1⟩ => ?_
  rcases q1 with ⟨a, e, ⟨xs, hq⟩, q⟩ | ⟨a, e, ⟨xs, hq⟩, q⟩ | ⟨z, e, q⟩
  · subst e
    cases r1
    obtain ⟨its, rv, p, hz⟩ := I1.list hq
    refine wpAny_pyIter_list p.isList ?_
    refine ⟨s1.heap.objs.size, [s1.heap.objs.size], _, _, H1, rfl, I1.kept (t' := s1.toks) fun b o e => Heap.get?_push_of_some _ e, turn_list a _, ⟨_, Heap.get?_push_size _ rfl, rfl, rfl⟩, fun b hb => ?_, q⟩
    have e : b = s1.heap.objs.size := by simpa using hb
    subst e
    exact I1.fpOk (Nat.le_refl _) (I1.hok.fresh (Nat.le_refl _))
  · subst e
    cases r1
    obtain ⟨its, rv, p, hz⟩ := I1.tuple hq
    refine wpAny_pyIter_tuple (show s1.heap.IsTuple a its.toArray from p) ?_
    refine ⟨s1.heap.objs.size, [s1.heap.objs.size], _, _, H1, rfl, I1.kept (t' := s1.toks) fun b o e => Heap.get?_push_of_some _ e, turn_tuple a _, ⟨_, Heap.get?_push_size _ rfl, rfl, rfl⟩, fun b hb => ?_, q⟩
    have e : b = s1.heap.objs.size := by simpa using hb
    subst e
    exact I1.fpOk (Nat.le_refl _) (I1.hok.fresh (Nat.le_refl _))
  · subst e
    obtain ⟨t, rfl⟩ := r1
    cases ha : z.cps.all (· < 128)
    · exact wpAny_pyIter_wide ha (pi_one (tk := s1.toks) I1 _ (turn_str _ z t "str_iterator" (.inr rfl)) ⟨_, Heap.get?_push_size _ rfl, rfl, rfl⟩ q)
    · exact wpAny_pyIter_ascii ha (pi_one (tk := s1.toks) I1 _ (turn_str _ z t "str_ascii_iterator" (.inl rfl)) ⟨_, Heap.get?_push_size _ rfl, rfl, rfl⟩ q)
def signs (z : Str) : List PyData := z.cps.toList.map fun c => .str ⟨#[c]⟩
def srcOf : R → List En → Option Src
  | .val (.list ds), _ => some (.fixed ds)
  | .val (.tuple ds), _ => some (.fixed ds)
  | .val (.str z), _ => some (.fixed (signs z))
  | .see (.list ds), _ => some (.fixed ds)
  | .see (.tuple ds), _ => some (.fixed ds)
  | .see (.str z), _ => some (.fixed (signs z))
  | .at i, ρ => (match ρ[i]? with
    | some (.own l (.list ds)) => some (.cell i l ds)
    | some (.io l (.list ds)) => some (.cell i l ds)
    | _ => none)
  | _, _ => none
section
variable {K : PySem.W.Frag} {c : Ct} {ρ : List En} {H : Hp}
theorem Itl_inj {a : Addr} {xs : List V} (h : H a = some (.lst xs)) {ys : List V} (q : SqL K H a ys) (nk : K.lookup a = none) : ys = xs := by
  rcases q with (q | ⟨o, q⟩) | ⟨o, its, n, q, _⟩
  · rw [h] at q; cases q; rfl
  · rw [h] at q; cases q
  · rw [nk] at q; cases q
/-- the items are those at a, as they stand -/
theorem walks_lst {s : Src} {a : Addr} (h : ∀ c' σ' ρ' H', Lt K c ρ H c' σ' ρ' H' s → ∃ xs, H' a = some (.lst xs) ∧ RepAll K (Mof c' ρ') H' s.items xs) : WalksD K c ρ H s (Itl K a) := by
  refine ⟨fun c' σ' ρ' H' i l hi => ?_, fun c' σ' ρ' H' l => ?_, fun c' σ' ρ' H' i x H'' l hi y => ?_⟩
  · obtain ⟨xs, h1, h2⟩ := h _ _ _ _ l
    have : i < xs.length := by rw [h2.len]; exact hi
    exact ⟨xs, xs[i], .of h1, by simp [this]⟩
  · obtain ⟨xs, h1, h2⟩ := h _ _ _ _ l
    exact ⟨xs, .of h1, by rw [h2.len]; exact Nat.le_refl _⟩
  · obtain ⟨xs, h1, h2⟩ := h _ _ _ _ l
    obtain ⟨rfl, y⟩ := y
    exact ⟨fun _ _ z => z, h2.getV (y xs (.of h1))⟩
theorem walks_tup {s : Src} {a : Addr} (h : ∀ c' σ' ρ' H', Lt K c ρ H c' σ' ρ' H' s → ∃ xs, TpAt K (Mof c' ρ') H' a xs ∧ RepAll K (Mof c' ρ') H' s.items xs) : WalksD K c ρ H s (Itt K a) := by
  refine ⟨fun c' σ' ρ' H' i l hi => ?_, fun c' σ' ρ' H' l => ?_, fun c' σ' ρ' H' i x H'' l hi y => ?_⟩
  · obtain ⟨xs, h1, h2⟩ := h _ _ _ _ l
    have : i < xs.length := by rw [h2.len]; exact hi
    exact ⟨xs, xs[i], h1.sq, by simp [this]⟩
  · obtain ⟨xs, h1, h2⟩ := h _ _ _ _ l
    exact ⟨xs, h1.sq, by rw [h2.len]; exact Nat.le_refl _⟩
  · obtain ⟨xs, h1, h2⟩ := h _ _ _ _ l
    obtain ⟨rfl, y⟩ := y
    exact ⟨fun _ _ z => z, h2.getV (y xs h1.sq)⟩
theorem walks_str {z : Str} : WalksD K c ρ H (.fixed (signs z)) (Its z) := by
  have hl : (signs z).length = z.cps.size := by simp [signs]
  refine ⟨fun c' σ' ρ' H' i l hi => ?_, fun c' σ' ρ' H' l => ?_, fun c' σ' ρ' H' i x H'' l hi y => ?_⟩
  · show i < z.cps.size
    rw [← hl]; exact hi
  · show z.cps.size ≤ _
    rw [← hl]; exact Nat.le_refl _
  · obtain ⟨rfl, ch, h1, rfl⟩ := (show H'' = H' ∧ ∃ ch, z.cps[i]? = some ch ∧ x = .str ⟨#[ch]⟩ from y)
    refine ⟨fun _ _ z => z, .str ⟨#[ch]⟩, ?_, rfl⟩
    show (signs z)[i]? = _
    unfold signs
    rw [List.getElem?_map, Array.getElem?_toList, h1]; rfl
theorem src_run {σ : L2.St} {v : V} {r : R} {s : Src} (p : RepR K c σ H ρ v r) (g : Gd K c σ H ρ) (h : srcOf r ρ = some s) {RR : It → Hp → Prop} (hR : ∀ J, s.ok ρ → WalksD K c ρ H s J → RR J H) :
    (∃ a, v = .ref a ∧ (∃ xs, SqL K H a xs) ∧ RR (Itl K a) H) ∨ (∃ a, v = .ref a ∧ (∃ xs, SqT K H a xs) ∧ RR (Itt K a) H) ∨ ∃ z, v = .str z ∧ RR (Its z) H := by
  unfold srcOf at h
  split at h
  · cases h
    obtain ⟨a, xs, rfl, l, ra⟩ := p
    exact .inl ⟨a, rfl, ⟨xs, .of l.1⟩, hR _ trivial (walks_lst fun c' σ' ρ' H' lt => ⟨xs, (lt.m.rd l).1, ra.mv lt.m⟩)⟩
  · cases h
    obtain ⟨a, xs, rfl, l, ra⟩ := p
    refine .inr (.inl ⟨a, rfl, ⟨xs, l.sq⟩, hR _ trivial (walks_tup fun c' σ' ρ' H' lt => ⟨xs, ?_, ra.mv lt.m⟩)⟩)
    rcases l with l | l
    · exact .inl (lt.m.rd l)
    · exact .inr l
  · cases h
    exact .inr (.inr ⟨_, p, hR _ trivial walks_str⟩)
  · cases h
    obtain ⟨a, xs, rfl, l, ra⟩ := p
    exact .inl ⟨a, rfl, ⟨xs, .of l.1⟩, hR _ trivial (walks_lst fun c' σ' ρ' H' lt => ⟨xs, (lt.w.rd l).1, ra.mv lt.m⟩)⟩
  · cases h
    obtain ⟨a, xs, rfl, l, ra⟩ := p
    refine .inr (.inl ⟨a, rfl, ⟨xs, l.sq⟩, hR _ trivial (walks_tup fun c' σ' ρ' H' lt => ⟨xs, ?_, ra.mv lt.m⟩)⟩)
    rcases l with l | l
    · exact .inl (lt.m.rd l)
    · exact .inr l
  · cases h
    exact .inr (.inr ⟨_, p, hR _ trivial walks_str⟩)
  · rename_i i
    split at h
    · rename_i l ds he
      cases h
      obtain ⟨l', rfl, hl⟩ := p
      obtain ⟨h1, ⟨xs, h2, h3⟩, _⟩ := g.own i l _ he
      rw [hl] at h1; cases h1
      refine .inl ⟨l, rfl, ⟨xs, .of h2⟩, hR _ (.inl he) (walks_lst fun c' σ' ρ' H' lt => ?_)⟩
      rcases lt.ok with q | q
      · obtain ⟨_, ⟨ys, a1, a2⟩, _⟩ := lt.gd.own _ _ _ q; exact ⟨ys, a1, a2⟩
      · obtain ⟨_, ⟨ys, a1, a2⟩, _⟩ := lt.gd.io _ _ _ q; exact ⟨ys, a1, a2⟩
    · rename_i l ds he
      cases h
      obtain ⟨l', rfl, hl⟩ := p
      obtain ⟨h1, ⟨xs, h2, h3⟩, _⟩ := g.io i l _ he
      rw [hl] at h1; cases h1
      refine .inl ⟨l, rfl, ⟨xs, .of h2⟩, hR _ (.inr he) (walks_lst fun c' σ' ρ' H' lt => ?_)⟩
      rcases lt.ok with q | q
      · obtain ⟨_, ⟨ys, a1, a2⟩, _⟩ := lt.gd.own _ _ _ q; exact ⟨ys, a1, a2⟩
      · obtain ⟨_, ⟨ys, a1, a2⟩, _⟩ := lt.gd.io _ _ _ q; exact ⟨ys, a1, a2⟩
    · cases h
  · cases h
end
def wSq (we : WE) : WI := fun kx ρ k => we kx ρ fun r ρ1 => ∃ s, srcOf r ρ1 = some s ∧ k s ρ1
theorem bi_seq (he : BE X E e we) : BI X E tg e (wSq we) := by
  refine ⟨piI (pi_seq he.pe) fun σ H RR ⟨c, ρ, k, kx, gd, hw, hk, hx⟩ => ?_⟩
  refine ⟨c, ρ, _, kx, gd, hw, fun r ρ1 v H1 k1 g1 e1 p1 => ?_, hx⟩
  obtain ⟨s, hs, k2⟩ := k1
  exact src_run p1 g1 hs fun J ok wk => hk s ρ1 J H1 k2 g1 e1 ok wk
/-- range -/
def rgD (lo : Int) (n : Nat) : List PyData := (List.range n).map fun i => .int (lo + (i : Nat))
theorem rgD_len (lo : Int) (n : Nat) : (rgD lo n).length = n := by simp [rgD]
theorem rgD_get {lo : Int} {n i : Nat} (h : i < n) : (rgD lo n)[i]? = some (.int (lo + (i : Nat))) := by
  unfold rgD
  rw [List.getElem?_map, List.getElem?_range h]; rfl
theorem walks_range {K : PySem.W.Frag} {c : Ct} {ρ : List En} {H : Hp} {lo : Int} {n : Nat} : WalksD K c ρ H (.fixed (rgD lo n)) (Itr lo n) := by
  refine ⟨fun c' σ' ρ' H' i l hi => ?_, fun c' σ' ρ' H' l => ?_, fun c' σ' ρ' H' i x H'' l hi y => ?_⟩
  · show i < n
    have : i < (rgD lo n).length := hi
    rwa [rgD_len] at this
  · show n ≤ (rgD lo n).length
    rw [rgD_len]; exact Nat.le_refl _
  · have hi' : i < n := by
      have : i < (rgD lo n).length := hi
      rwa [rgD_len] at this
    obtain ⟨rfl, rfl⟩ := (show H'' = H' ∧ x = .int (lo + i) from y)
    exact ⟨fun _ _ z => z, _, rgD_get hi', rfl⟩
def wRg1 (u : WA) : WI := fun kx ρ k => u kx ρ fun rs ρ1 => ∃ j : Int, getA rs ρ1 = some [.int j] ∧ (-(2 ^ 62) ≤ j ∧ j < 2 ^ 62) ∧ k (.fixed (rgD 0 j.toNat)) ρ1
def wRg2 (u : WA) : WI := fun kx ρ k => u kx ρ fun rs ρ1 => ∃ i j : Int, getA rs ρ1 = some [.int i, .int j] ∧ (-(2 ^ 62) ≤ i ∧ i < 2 ^ 62 ∧ -(2 ^ 62) ≤ j ∧ j < 2 ^ 62) ∧ k (.fixed (rgD i (j - i).toNat)) ρ1
theorem bi_range1 {u : WA} {p : Pos} (hg : Gl X "range") (hm : X.mg "range" = none) (ha : BA X E [e] u) (hs : starEach [e] X.env = [(false, eval e X.env)] := by rfl) : BI X E tg (.Call (.Name "range" p) [e] [] pos) (wRg1 u) := by
  refine ⟨piI (pi_range1 hg hm ha.pa hs) fun σ H RR ⟨c, ρ, k, kx, gd, hw, hk, hx⟩ => ?_⟩
  refine ⟨c, ρ, _, kx, gd, hw, fun rs ρ1 vs H1 k1 g1 e1 p1 => ?_, hx⟩
  obtain ⟨j, hj, ⟨b1, b2⟩, k2⟩ := k1
  obtain ⟨v, rfl, sv⟩ := see1 (getA_see g1 p1 hj)
  exact ⟨j, by rw [sv.int], b1, b2, hk _ ρ1 _ H1 k2 g1 e1 trivial walks_range⟩
theorem bi_range2 {u : WA} {e2 : Expr} {p : Pos} (hg : Gl X "range") (hm : X.mg "range" = none) (ha : BA X E [e, e2] u) (hs : starEach [e, e2] X.env = [(false, eval e X.env), (false, eval e2 X.env)] := by rfl) (hs2 : starEach [e2] X.env = [(false, eval e2 X.env)] := by rfl) :
    BI X E tg (.Call (.Name "range" p) [e, e2] [] pos) (wRg2 u) := by
  refine ⟨piI (pi_range2 hg hm ha.pa hs hs2) fun σ H RR ⟨c, ρ, k, kx, gd, hw, hk, hx⟩ => ?_⟩
  refine ⟨c, ρ, _, kx, gd, hw, fun rs ρ1 vs H1 k1 g1 e1 p1 => ?_, hx⟩
  obtain ⟨i, j, hj, ⟨b1, b2, b3, b4⟩, k2⟩ := k1
  obtain ⟨v, w, rfl, sv, sw⟩ := see2 (getA_see g1 p1 hj)
  exact ⟨i, j, by rw [sv.int, sw.int], ⟨b1, b2, b3, b4⟩, hk _ ρ1 _ H1 k2 g1 e1 trivial walks_range⟩

/-! ### for -/
structure ForP (g : WG) (wb : WS) (W : WD) (s : Src) (ρ1 : List En) : Prop where
  run : ∃ P : Nat → List En → Prop, P 0 ρ1 ∧ (∀ i ρ2, i ≤ s.items.length → P i ρ2 → s.ok ρ2) ∧
    (∀ i d ρ2, s.items[i]? = some d → P i ρ2 → g d ρ2 fun ρ3 => wb { W with nx := P (i + 1), ct := P (i + 1), bk := W.nx } ρ3) ∧ ∀ ρ2, P s.items.length ρ2 → W.nx ρ2
def wFor (wi : WI) (g : WG) (wb : WS) : WS := fun W ρ => wi W.ex ρ fun s ρ1 => ForP g wb W s ρ1
theorem lt_ev {K : PySem.W.Frag} {c : Ct} {σ σ1 : L2.St} {ρ ρ1 : List En} {H H1 : Hp} {s : Src} (g : Gd K c σ H ρ) (g1 : Gd K c σ1 H1 ρ1) (e : Ev c ρ H ρ1 H1) (ok : s.ok ρ1) : Lt K c ρ H c σ1 ρ1 H1 s := ⟨g1, e.mv g, e.mvw g, ok⟩
theorem bs_for {iter : Expr} {body : List Stmt} {wi : WI} {g : WG} {wb : WS} {sl : List Nat} (hp : PassesOwn (model X.prog X.w) X.A X.env X.xe) (hc : X.calm = true) (hi : BI X E tg iter wi) (hg : BG X tg sl g) (hb : BSs X E body wb)
    (hs : ∀ x, foldedSetIterable iter X.env x = pure x := by intro _; rfl) : BS X E (.For tg iter body [] pos) (wFor wi g wb) := by
  refine ⟨psI (ps_for hp hc hi.pi hg.pg hb.pss hs) fun D σ H ⟨c, ρ, W, gd, hw, h⟩ => ?_⟩
  refine ⟨c, ρ, _, W.ex, gd, hw, fun s ρ1 J H1 k1 g1 e1 ok1 wk => ?_, h.exok⟩
  obtain ⟨P, h0, hok, turn, done⟩ := k1.run
  refine ⟨fun i m σ2 H2 => ∃ ρ2, m = s.items.length - i ∧ i ≤ s.items.length ∧ P i ρ2 ∧ Gd X.K c σ2 H2 ρ2 ∧ Ev c ρ1 H1 ρ2 H2, ⟨_, ρ1, rfl, Nat.zero_le _, h0, g1, .refl⟩, ?_⟩
  rintro i m σ2 H2 ⟨ρ2, rfl, hle, p2, g2, e2⟩
  have lt := lt_ev g1 g2 e2 (hok i ρ2 hle p2)
  by_cases hlt : i < s.items.length
  · refine .inr ⟨wk.go c σ2 ρ2 H2 i lt hlt, fun σ3 H3 => ∃ ρ3, P (i + 1) ρ3 ∧ Gd X.K c σ3 H3 ρ3 ∧ Ev c ρ1 H1 ρ3 H3, fun σ3 H3 ⟨ρ3, p3, g3, e3⟩ => ⟨_, by omega, ρ3, rfl, hlt, p3, g3, e3⟩, fun x H3 y => ?_⟩
    obtain ⟨sm, d, hd, rd⟩ := wk.yld c σ2 ρ2 H2 i x H3 lt hlt y
    have g3 := g2.same sm
    have e3 : Ev c ρ1 H1 ρ2 H3 := e2.trans (.same sm)
    refine ⟨c, ρ2, d, _, g3, rd, turn i d ρ2 hd p2, fun σ4 ρ4 k4 g4 e4 _ => ?_⟩
    have e14 := e3.trans e4
    have h4 := h.ev (e1.trans e14)
    exact ⟨c, ρ4, _, g4, k4, ⟨fun σ' ρ' H' a b d => ⟨ρ', a, b, e14.trans d⟩, h4.rt, h4.rn, fun σ' ρ' H' a b d => h4.nx σ' ρ' H' a b d, fun σ' ρ' H' a b d => ⟨ρ', a, b, e14.trans d⟩, h4.ex⟩⟩
  · have e : i = s.items.length := by omega
    subst e
    exact .inl ⟨wk.stop c σ2 ρ2 H2 lt, h.nx _ _ _ (done ρ2 p2) g2 (e1.trans e2)⟩

/-! ### comprehensions -/
structure BTs (X : Cx) (E : EK) (ifs : List Expr) (w : WT) : Prop where
  pts : PTs X ifs (lT X E w)
def wYes : WT := fun _ ρ k => k true ρ
theorem bts_nil : BTs X E [] wYes := ⟨⟨fun pins s σ H Q I ⟨c, ρ, k, kx, gd, hw, hk, hx⟩ => pts_nil.run pins s σ H Q I (hk _ _ _ hw gd .refl)⟩⟩
theorem bts_one {c0 : Expr} {w : WT} (h : BT X E c0 w) : BTs X E [c0] w := ⟨pts_one h.pt⟩
def wipeR (ρ : List En) : List Nat → List En
  | [] => ρ
  | v :: vs => (wipeR ρ vs).set v .no
/-- what a name had ahead, where that is a value -/
def keepE : Option En → En
  | some (.val d) => .val d
  | some (.obj v) => .obj v
  | _ => .no
def restR (ρ ρ2 : List En) : List Nat → List En
  | [] => ρ2
  | v :: vs => (restR ρ ρ2 vs).set v (keepE ρ[v]?)
def restS (σ σ2 : L2.St) : List Nat → L2.St
  | [] => σ2
  | v :: vs => (restS σ σ2 vs).set v (σ[v]?.getD none)
theorem restS_wipe (σ : L2.St) : ∀ vs : List Nat, restS σ (wipe σ vs) vs = σ := by
  have len : ∀ vs σ2, (restS σ σ2 vs).length = σ2.length := fun vs σ2 => by
    induction vs with
    | nil => rfl
    | cons v vs ih => unfold restS; rw [List.length_set, ih]
  have main : ∀ vs σ2, (σ2.length = σ.length) → (∀ j, j ∉ vs → σ2[j]? = σ[j]?) → restS σ σ2 vs = σ := fun vs => by
    induction vs with
    | nil => exact fun σ2 _ h => List.ext_getElem? fun j => h j (by simp)
    | cons v vs ih =>
      intro σ2 hl h
      refine List.ext_getElem? fun j => ?_
      unfold restS
      by_cases e : v = j
      · subst e
        by_cases hv : v < σ.length
        · rw [List.getElem?_set_self (by rw [len, hl]; exact hv), List.getElem?_eq_getElem hv]; rfl
        · rw [List.getElem?_eq_none (by rw [List.length_set, len, hl]; omega), List.getElem?_eq_none (by omega)]
      · rw [List.getElem?_set_ne e]
        by_cases hj : j ∈ vs
        · have key : ∀ vs σ2, σ2.length = σ.length → j ∈ vs → (restS σ σ2 vs)[j]? = σ[j]? := fun vs => by
            induction vs with
            | nil => intro _ _ z; cases z
            | cons u us ih2 =>
              intro σ2 hl hm
              unfold restS
              by_cases e2 : u = j
              · subst e2
                by_cases hv : u < σ.length
                · rw [List.getElem?_set_self (by rw [len, hl]; exact hv), List.getElem?_eq_getElem hv]; rfl
                · rw [List.getElem?_eq_none (by rw [List.length_set, len, hl]; omega), List.getElem?_eq_none (by omega)]
              · rw [List.getElem?_set_ne e2]
                exact ih2 σ2 hl (by rcases List.mem_cons.mp hm with q | q; exact absurd q.symm e2; exact q)
          exact key vs σ2 hl hj
        · have key : ∀ vs σ2, j ∉ vs → (restS σ σ2 vs)[j]? = σ2[j]? := fun vs => by
            induction vs with
            | nil => intro _ _; rfl
            | cons u us ih2 =>
              intro σ2 hm
              unfold restS
              rw [List.getElem?_set_ne (fun q => hm (by simp [q]))]
              exact ih2 σ2 (fun q => hm (List.mem_cons_of_mem _ q))
          rw [key vs σ2 hj]
          exact h j (by simp only [List.mem_cons, not_or]; exact ⟨fun q => e q.symm, hj⟩)
  exact fun vs => main vs _ (wipe_length σ vs) fun j hj => wipe_out hj
theorem wipe_but {σ σ' : L2.St} {sl vs : List Nat} (b : But sl (wipe σ vs) σ') (h : ∀ j ∈ sl, j ∈ vs) : wipe σ' vs = wipe σ vs := by
  refine List.ext_getElem? fun j => ?_
  by_cases hj : j ∈ vs
  · have key : ∀ (τ : L2.St) (us : List Nat), j ∈ us → (wipe τ us)[j]? = if j < τ.length then some none else none := fun τ us => by
      induction us with
      | nil => intro z; cases z
      | cons u us ih =>
        intro hm
        unfold wipe
        by_cases e : u = j
        · subst e
          split
          · rename_i hv; rw [List.getElem?_set_self (by rw [wipe_length]; exact hv)]
          · rw [List.getElem?_eq_none (by rw [List.length_set, wipe_length]; omega)]
        · rw [List.getElem?_set_ne e]
          exact ih (by rcases List.mem_cons.mp hm with q | q; exact absurd q.symm e; exact q)
    rw [key _ _ hj, key _ _ hj, b.1, wipe_length]
  · rw [wipe_out hj]
    exact b.2 j (fun q => hj (h j q))
section
variable {K : PySem.W.Frag} {c : Ct} {σ : L2.St} {H : Hp} {ρ : List En}
theorem Gd.wipe (g : Gd K c σ H ρ) : ∀ vs : List Nat, Gd K c (L2.wipe σ vs) H (wipeR ρ vs) ∧ ∀ a, Wr (wipeR ρ vs) a → Wr ρ a
  | [] => ⟨g, fun _ z => z⟩
  | v :: vs => by
    obtain ⟨h1, h2⟩ := Gd.wipe g vs
    exact ⟨h1.setNo v none, fun a z => h2 a (wr_set rfl a z)⟩
theorem wr_rest {ρ2 : List En} : ∀ (vs : List Nat) a, Wr (restR ρ ρ2 vs) a → Wr ρ2 a
  | [], _, z => z
  | v :: vs, a, z => by
    refine wr_rest vs a (wr_set ?_ a z)
    unfold keepE
    split <;> rfl
theorem Gd.rest {c' : Ct} {σ2 : L2.St} {H2 : Hp} {ρ2 : List En} (g : Gd K c σ H ρ) (g2 : Gd K c' σ2 H2 ρ2) (m : Mv (Mof c ρ) (Mof c' ρ2) H H2) : ∀ vs : List Nat, Gd K c' (restS σ σ2 vs) H2 (restR ρ ρ2 vs)
  | [] => g2
  | v :: vs => by
    have h1 := Gd.rest g g2 m vs
    have sub : ∀ a, Mof c' (restR ρ ρ2 vs) a → Mof c' ρ2 a := fun a z => by
      rcases z with z | ⟨i, d, z⟩
      · exact .inl z
      · have key : ∀ vs : List Nat, (restR ρ ρ2 vs)[i]? = some (.own a d) → ρ2[i]? = some (.own a d) := fun vs => by
          induction vs with
          | nil => exact fun z => z
          | cons u us ih =>
            intro z
            unfold restR at z
            rcases get_set z with ⟨_, z, _⟩ | ⟨_, z⟩
            · unfold keepE at z; split at z <;> cases z
            · exact ih z
        exact .inr ⟨i, d, key vs z⟩
    have m' : Mv (Mof c ρ) (Mof c' (restR ρ ρ2 vs)) H H2 := ⟨fun a z => m.own a (sub a z), m.kept⟩
    show Gd K c' ((restS σ σ2 vs).set v (σ[v]?.getD none)) H2 ((restR ρ ρ2 vs).set v (keepE ρ[v]?))
    cases e : ρ[v]? with
    | none => exact h1.setNo v _
    | some en =>
      cases en with
      | val d =>
        obtain ⟨x, e1, r1⟩ := g.val v d e
        rw [e1]
        exact h1.setVal v (r1.mv m')
      | obj x =>
        rw [g.obj v x e]
        exact h1.setObj v
      | _ => exact h1.setNo v _
end
structure LcP (vs : List Nat) (g : WG) (wt : WT) (we : WE) (s : Src) (ρ1 : List En) (k : PyData → List En → Prop) : Prop where
  run : ∃ P : Nat → List PyData → List En → Prop, P 0 [] (wipeR ρ1 vs) ∧ (∀ i acc ρ2, i ≤ s.items.length → P i acc ρ2 → s.ok ρ2) ∧
    (∀ i d acc ρ2, s.items[i]? = some d → P i acc ρ2 → g d ρ2 fun ρ3 => wt (fun _ _ => False) ρ3 fun b ρ4 => if b = true then we (fun _ _ => False) ρ4 fun r ρ5 => ∃ z ρ6, r.fz ρ5 = some (z, ρ6) ∧ acc.length < sizeLine ∧ P (i + 1) (acc ++ [z]) (wipeR ρ6 vs) else P (i + 1) acc (wipeR ρ4 vs)) ∧
    ∀ acc ρ2, P s.items.length acc ρ2 → k (.list acc) (restR ρ1 ρ2 vs)
def wLc (vs : List Nat) (wi : WI) (g : WG) (wt : WT) (we : WE) : WN := fun kx ρ k => wi kx ρ fun s ρ1 => LcP vs g wt we s ρ1 k
theorem Gd.pokeX {K : PySem.W.Frag} {c : Ct} {σ : L2.St} {H : Hp} {ρ : List En} (g : Gd K c σ H ρ) {D : Addr} {o : HO} (hM : c.M D) (hW : c.W D) (hn : ¬ Wr ρ D) (hD : ∀ fs, H D ≠ some (HO.xd fs)) : Gd K c σ (upd H D o) ρ := by
  have m : Mv (Mof c ρ) (Mof c ρ) H (upd H D o) := mv_upd (.inl hM)
  have mw : Mv (Wof c ρ) (Wof c ρ) H (upd H D o) := mv_upd (.inl hW)
  have keep : ∀ {l : Addr} {u : HO}, l ≠ D → H l = some u → upd H D o l = some u := fun ne e => by rw [upd_ne ne]; exact e
  refine ⟨g.len, fun i d z => ?_, fun i d z => ?_, fun i l d z => ?_, fun i l d z => ?_, g.obj, g.uo, g.ui, fun b u e n => ?_, g.wm, fun a z => ?_, fun i v p x z => ?_⟩
  · obtain ⟨v, a, b⟩ := g.val i d z; exact ⟨v, a, b.mv m⟩
  · obtain ⟨v, a, b⟩ := g.rd i d z; exact ⟨v, a, b.mv m mw⟩
  · obtain ⟨a1, a2, a3, a4⟩ := g.own i l d z
    exact ⟨a1, a2.mv m fun u e => keep (fun q : l = D => hn (by rw [← q]; exact ⟨i, d, .inl z⟩)) e, a3, a4⟩
  · obtain ⟨a1, a2, a3⟩ := g.io i l d z
    exact ⟨a1, a2.mv m fun u e => keep (fun q : l = D => hn (by rw [← q]; exact ⟨i, d, .inr z⟩)) e, a3⟩
  · exact keep (fun q => n (by rw [q]; exact hW)) (g.fr b u e n)
  · by_cases q : a = D
    · subst q; rw [upd_same]; intro z; cases z
    · rw [upd_ne q]; exact g.th a z
  · obtain ⟨a, fs, e, f⟩ := g.xn i v p x z
    exact ⟨a, fs, keep (fun q : p = D => by rw [q] at e; exact hD fs e) e, f⟩
theorem Gd.poke {K : PySem.W.Frag} {c : Ct} {σ : L2.St} {H : Hp} {ρ : List En} (g : Gd K c σ H ρ) {D : Addr} {o : HO} (hM : c.M D) (hW : c.W D) (hn : ¬ Wr ρ D) (hD : ∃ xs, H D = some (.lst xs)) : Gd K c σ (upd H D o) ρ :=
  g.pokeX hM hW hn fun fs z => by obtain ⟨xs, e⟩ := hD; rw [e] at z; cases z
abbrev EN : EK := fun _ _ _ _ => False
theorem lc_run {sl vs : List Nat} {wi : WI} {g : WG} {wt : WT} {we : WE} (hsl : ∀ j ∈ sl, j ∈ vs) {σ : L2.St} {H : Hp} {Q : VK} (h : lN X E (wLc vs wi g wt we) σ H Q) :
    tLc (lI X E wi) (lG X.K sl g) (lT X EN wt) (lE X EN we) vs σ H Q := by
  obtain ⟨c, ρ, k, kx, gd, hw, hk, hx⟩ := h
  refine ⟨c, ρ, _, kx, gd, hw, fun s ρ1 J H1 k1 g1 e1 ok1 wk => ?_, hx⟩
  obtain ⟨P, h0, hok, turn, done⟩ := k1.run
  intro D hD
  have nD1 : ¬ Wr ρ1 D := fun z => g1.mth (g1.wsub (g1.wr_w z)) hD
  have g1' : Gd X.K (c.more D) σ (upd H1 D (.lst [])) ρ1 := g1.more hD (sm_upd hD) (by rw [upd_same]; intro z; cases z)
  obtain ⟨gw, sw⟩ := g1'.wipe vs
  have mvs : ∀ {ρ2 : List En} {H2 : Hp}, Ev c ρ1 H1 ρ2 H2 → Mv (Mof c ρ1) (Mof (c.more D) ρ2) H1 H2 ∧ Mv (Wof c ρ1) (Wof (c.more D) ρ2) H1 H2 := fun {ρ2 H2} e => by
    refine ⟨⟨fun a z => ?_, (e.mv g1).kept⟩, ⟨fun a z => ?_, (e.mvw g1).kept⟩⟩
    · rcases z with (z | rfl) | z
      · exact .inl (.inl z)
      · exact .inr hD
      · exact (e.mv g1).own a (.inr z)
    · rcases z with (z | rfl) | z
      · exact .inl (.inl z)
      · exact .inr hD
      · exact (e.mvw g1).own a (.inr z)
  let Iv : Nat → Hp → Prop := fun i H2 => ∃ acc accV ρ2, P i acc ρ2 ∧ Gd X.K (c.more D) (L2.wipe σ vs) H2 ρ2 ∧ Ev c ρ1 H1 ρ2 H2 ∧ H2 D = some (.lst accV) ∧ RepAll X.K (Mof (c.more D) ρ2) H2 acc accV ∧ ¬ Wr ρ2 D
  refine ⟨fun i m H2 => m = s.items.length - i ∧ i ≤ s.items.length ∧ Iv i H2, ⟨_, rfl, Nat.zero_le _, [], [], wipeR ρ1 vs, h0, gw, ⟨fun b o e n => sm_upd hD b o e, fun a z => .inl (sw a z), fun a z => ?_⟩, upd_same, rfl, fun z => nD1 (sw D z)⟩, ?_⟩
  · cases e : H1 a with
    | none => rfl
    | some o => rw [sm_upd hD a o e] at z; cases z
  rintro i m H2 ⟨rfl, hle, acc, accV, ρ2, p2, g2, e2, hD2, ra2, nD2⟩
  obtain ⟨mM, mW⟩ := mvs e2
  have lt : Lt X.K c ρ1 H1 (c.more D) (L2.wipe σ vs) ρ2 H2 s := ⟨g2, mM, mW, hok i acc ρ2 hle p2⟩
  by_cases hlt : i < s.items.length
  · refine .inr ⟨wk.go _ _ _ _ i lt hlt, fun H3 => Iv (i + 1) H3, fun H3 q => ⟨_, by omega, rfl, hlt, q⟩, fun x H3 y => ?_⟩
    obtain ⟨sm, d, hd, rd⟩ := wk.yld _ _ _ _ i x H3 lt hlt y
    have g3 := g2.same sm
    have e3 : Ev (c.more D) ρ2 H2 ρ2 H3 := .same sm
    refine ⟨c.more D, ρ2, d, _, g3, rd, turn i d acc ρ2 hd p2, fun σ4 ρ4 k4 g4 e4 but => ⟨wipe_but but hsl, ?_⟩⟩
    refine ⟨c.more D, ρ4, _, fun _ _ => False, g4, k4, fun b ρ5 H5 k5 g5 e5 => ?_, fun _ _ _ _ _ z => z.elim⟩
    have e25 := (e3.trans e4).trans e5
    cases b with
    | false =>
      obtain ⟨g6, s6⟩ := g5.wipe vs
      rw [wipe_but but hsl] at g6
      have e26 : Ev (c.more D) ρ2 H2 (wipeR ρ5 vs) H5 := e25.trans (.shrink s6)
      refine ⟨acc, accV, wipeR ρ5 vs, k5, g6, e2.trans e26.any, e26.kept _ _ hD2 nD2, ra2.mv (e26.mv g2), fun z => ?_⟩
      rcases e26.own D z with z | z
      · exact nD2 z
      · rw [hD2] at z; cases z
    | true =>
      refine ⟨c.more D, ρ5, _, fun _ _ => False, g5, k5, fun r ρ6 v H6 k6 g6 e6 p6 => ?_, fun _ _ _ _ _ z => z.elim⟩
      obtain ⟨z, ρ7, hf, hl, k7⟩ := k6
      obtain ⟨g7, e7, r7⟩ := p6.fz g6 hf
      have e27 := (e25.trans e6).trans e7
      have hD6 : H6 D = some (.lst accV) := e27.kept _ _ hD2 nD2
      have nD7 : ¬ Wr ρ7 D := fun z => by
        rcases e27.own D z with z | z
        · exact nD2 z
        · rw [hD2] at z; cases z
      have ra7 := ra2.mv (e27.mv g2)
      refine ⟨accV, hD6, by rw [ra7.len]; exact hl, ?_⟩
      have hM : (c.more D).M D := .inr rfl
      have hWD : (c.more D).W D := .inr rfl
      have g8 := g7.poke (o := .lst (accV ++ [v])) hM hWD nD7 ⟨_, hD6⟩
      obtain ⟨g9, s9⟩ := g8.wipe vs
      rw [wipe_but but hsl] at g9
      have sub9 : ∀ a, Mof (c.more D) (wipeR ρ7 vs) a → Mof (c.more D) ρ7 a := fun a z => by
        rcases z with z | z
        · exact .inl z
        · exact g7.wsub (g7.wr_w (s9 a (oof_wrS z)))
      refine ⟨acc ++ [z], accV ++ [v], wipeR ρ7 vs, k7, g9, ?_, upd_same, ((ra7.app (.one r7)).mv (mv_upd (.inl hM))).mv (Mv.sub sub9), fun z => nD7 (s9 D z)⟩
      have e17 : Ev c ρ1 H1 ρ7 H6 := e2.trans e27.any
      refine ⟨fun b o e n => ?_, fun a z => e17.own a (s9 a z), fun a z => ?_⟩
      · rw [upd_ne (ne_of_none e hD)]; exact e17.kept b o e n
      · by_cases q : a = D
        · subst q; exact hD
        · rw [upd_ne q] at z; exact e17.there a z
  · have e : i = s.items.length := by omega
    subst e
    refine .inl ⟨wk.stop _ _ _ _ lt, ?_⟩
    have gr := Gd.rest g1 g2 mM vs
    rw [restS_wipe] at gr
    have er : Ev c ρ1 H1 (restR ρ1 ρ2 vs) H2 := e2.trans (.shrink (wr_rest vs))
    refine hk _ _ D H2 (done acc ρ2 p2) gr (e1.trans er) (e1.there D hD) (fun j d z => nD2 (wr_rest vs D ⟨j, d, .inr z⟩)) ⟨accV, hD2, ra2.mv (Mv.sub fun a z => ?_)⟩
    rcases z with z | z
    · exact .inl z
    · exact g2.wsub (g2.wr_w (wr_rest vs a (oof_wrS z)))
theorem bn_lc {sl vs : List Nat} {wi : WI} {g : WG} {wt : WT} {we : WE} (hsl : ∀ j ∈ sl, j ∈ vs) (h : PE X e (tLc (lI X E wi) (lG X.K sl g) (lT X EN wt) (lE X EN we) vs)) : BN X E e (wLc vs wi g wt we) :=
  ⟨peI h fun σ H Q q => lc_run hsl q⟩
theorem setN_run {i : Nat} {wn : WN} {D : Ends} {σ : L2.St} {H : Hp} (h : lS X E (wSetN i wn) D σ H) : lN X E wn σ H fun x H1 => D.nx (σ.set i (some x)) H1 := by
  obtain ⟨c, ρ, W, g, hw, h⟩ := h
  refine ⟨c, ρ, _, W.ex, g, hw, fun d ρ1 p H1 k1 g1 e1 hp ni ha => ?_, h.exok⟩
  refine h.nx _ _ _ (k1 p) (g1.setOwn g.wm ni i ha (h0_none g hp).2 (h0_none g hp).1) ⟨e1.kept, fun a z => ?_, e1.there⟩
  obtain ⟨j, d', z | z⟩ := z
  · rcases get_set z with ⟨_, z, _⟩ | ⟨_, z⟩
    · cases z; exact .inr hp
    · exact e1.own a ⟨j, d', .inl z⟩
  · rcases get_set z with ⟨_, z, _⟩ | ⟨_, z⟩
    · cases z
    · exact e1.own a ⟨j, d', .inr z⟩
/-- name = [..], to be changed later -/
theorem bs_setLcN {st : Stmt} {i : Nat} {sl vs : List Nat} {wi : WI} {g : WG} {wt : WT} {we : WE} (hsl : ∀ j ∈ sl, j ∈ vs) (h : PS X st (tAsg (tLc (lI X E wi) (lG X.K sl g) (lT X EN wt) (lE X EN we) vs) (gName i))) : BS X E st (wSetN i (wLc vs wi g wt we)) :=
  ⟨psI h fun D σ H q => lc_run hsl (setN_run q)⟩
def wSetV (i : Nat) (wn : WN) : WS := fun W ρ => wn W.ex ρ fun d ρ1 => W.nx (ρ1.set i (.val d))
theorem setV_run {i : Nat} {wn : WN} {D : Ends} {σ : L2.St} {H : Hp} (h : lS X E (wSetV i wn) D σ H) : lN X E wn σ H fun x H1 => D.nx (σ.set i (some x)) H1 := by
  obtain ⟨c, ρ, W, g, hw, h⟩ := h
  refine ⟨c, ρ, _, W.ex, g, hw, fun d ρ1 p H1 k1 g1 e1 hp ni ha => ?_, h.exok⟩
  have h0 := (h0_none g hp).1
  have g2 := g1.less g.wm ni h0
  have n : ¬ Mof c ρ1 p := fun z => by
    rcases z with z | ⟨i, d', z⟩
    · exact g.th p z hp
    · exact (g1.own i p d' z).2.2.1 (.inr rfl)
  have ha' : At X.K (fun a => Mof c ρ1 a ∨ a = p) H1 p d := At.mv (Mv.sub fun a w => by
    rcases w with w | rfl
    · exact w.imp .inl id
    · exact .inl (.inr rfl)) (fun _ w => w) ha
  exact h.nx _ _ _ k1 (g2.setVal i (ha'.rep n)) (e1.trans (.setNO rfl))
/-- name = [..] -/
theorem bs_setLc {st : Stmt} {i : Nat} {sl vs : List Nat} {wi : WI} {g : WG} {wt : WT} {we : WE} (hsl : ∀ j ∈ sl, j ∈ vs) (h : PS X st (tAsg (tLc (lI X E wi) (lG X.K sl g) (lT X EN wt) (lE X EN we) vs) (gName i))) : BS X E st (wSetV i (wLc vs wi g wt we)) :=
  ⟨psI h fun D σ H q => lc_run hsl (setV_run q)⟩
theorem bs_setV {st : Stmt} {i : Nat} {wn : WN} (mk : ∀ {te : TE}, PE X e te → PS X st (tAsg te (gName i))) (he : BN X E e wn) : BS X E st (wSetV i wn) :=
  ⟨psI (mk he.pe) fun D σ H q => setV_run q⟩
end
end LB

/-! LB, part 8: defs and calls by value. -/
namespace LB
open PySem PySem.Spec PyProof.Rows L2
/-- how an argument is handed in: kept as a value; read; lent to be changed -/
inductive Md where
  | v | r | m
abbrev Spc := List PyData → (PyData → List PyData → Prop) → (Xn → List PyData → Prop) → Prop
def ArgsOk (K : PySem.W.Frag) (M W : Ow) (H : Hp) : List Md → List V → List PyData → List Addr → Prop
  | [], vs, xs, ws => vs = [] ∧ xs = [] ∧ ws = []
  | .v :: ms, vs, xs, ws => ∃ v vs' x xs', vs = v :: vs' ∧ xs = x :: xs' ∧ Rep K M H x v ∧ ArgsOk K M W H ms vs' xs' ws
  | .r :: ms, vs, xs, ws => ∃ v vs' x xs', vs = v :: vs' ∧ xs = x :: xs' ∧ See K M W H x v ∧ ArgsOk K M W H ms vs' xs' ws
  | .m :: ms, vs, xs, ws => ∃ l vs' x xs' ws', vs = .ref l :: vs' ∧ xs = x :: xs' ∧ ws = l :: ws' ∧ (M l ∧ W l ∧ At K M H l x) ∧ ArgsOk K M W H ms vs' xs' ws'
def OutOk (K : PySem.W.Frag) (M : Ow) (H : Hp) : List Addr → List PyData → Prop
  | [], outs => outs = []
  | l :: ws, outs => ∃ o r, outs = o :: r ∧ At K M H l o ∧ OutOk K M H ws r
structure Beh (ws : List Addr) (H H' : Hp) : Prop where
  fr : ∀ b o, H b = some o → b ∉ ws → H' b = some o
  th : ∀ a, H' a = none → H a = none
def inL (ws : List Addr) : Ow := fun a => a ∈ ws
def orP (M : Ow) (p : Addr) : Ow := fun a => M a ∨ a = p
/-- a def's promise by value; its result is a value -/
def spV (K : PySem.W.Frag) (ms : List Md) (S : Spc) : Sp := fun vs H Q E => ∃ M xs ws k kx, Thr M H ∧ ArgsOk K M (inL ws) H ms vs xs ws ∧ ws.Nodup ∧ S xs k kx ∧
  (∀ d outs v H', k d outs → Beh ws H H' → OutOk K M H' ws outs → Rep K M H' d v → Q v H') ∧ ∀ x outs cl ad H', kx x outs → Beh ws H H' → OutOk K M H' ws outs → RepX K H' x cl ad → E cl ad H'
/-- .. its result is a new list -/
def spN (K : PySem.W.Frag) (ms : List Md) (S : Spc) : Sp := fun vs H Q E => ∃ M xs ws k kx, Thr M H ∧ ArgsOk K M (inL ws) H ms vs xs ws ∧ ws.Nodup ∧ S xs k kx ∧
  (∀ d outs p H', k d outs → Beh ws H H' → OutOk K (orP M p) H' ws outs → H p = none → At K (orP M p) H' p d → Q (.ref p) H') ∧ ∀ x outs cl ad H', kx x outs → Beh ws H H' → OutOk K M H' ws outs → RepX K H' x cl ad → E cl ad H'
theorem args_len {K : PySem.W.Frag} {M W : Ow} {H : Hp} : ∀ {ms : List Md} {vs : List V} {xs : List PyData} {ws : List Addr}, ArgsOk K M W H ms vs xs ws → vs.length = ms.length
  | [], _, _, _, h => by rw [h.1]; rfl
  | .v :: ms, _, _, _, h => by obtain ⟨v, vs', x, xs', rfl, rfl, _, h⟩ := h; simp [args_len h]
  | .r :: ms, _, _, _, h => by obtain ⟨v, vs', x, xs', rfl, rfl, _, h⟩ := h; simp [args_len h]
  | .m :: ms, _, _, _, h => by obtain ⟨v, vs', x, xs', ws', rfl, rfl, rfl, _, h⟩ := h; simp [args_len h]
theorem spV_len {K : PySem.W.Frag} {ms : List Md} {S : Spc} {n : Nat} (hn : ms.length = n) : ∀ vs H Q E, spV K ms S vs H Q E → vs.length = n := fun vs H Q E h => by
  obtain ⟨M, xs, ws, k, kx, _, a, _⟩ := h; rw [args_len a, hn]
theorem spN_len {K : PySem.W.Frag} {ms : List Md} {S : Spc} {n : Nat} (hn : ms.length = n) : ∀ vs H Q E, spN K ms S vs H Q E → vs.length = n := fun vs H Q E h => by
  obtain ⟨M, xs, ws, k, kx, _, a, _⟩ := h; rw [args_len a, hn]

/-! ### a def's body -/
def mkEn : List Md → List PyData → List Addr → List En
  | .v :: ms, x :: xs, ws => .val x :: mkEn ms xs ws
  | .r :: ms, x :: xs, ws => .rd x :: mkEn ms xs ws
  | .m :: ms, x :: xs, l :: ws => .io l x :: mkEn ms xs ws
  | _, _, _ => []
def Outs : List Md → List En → List Addr → List PyData → Prop
  | [], _, ws, outs => ws = [] ∧ outs = []
  | .m :: ms, e :: ρ, l :: ws, outs => ∃ o r, outs = o :: r ∧ e = .io l o ∧ Outs ms ρ ws r
  | .m :: _, _, _, _ => False
  | .v :: ms, _ :: ρ, ws, outs => Outs ms ρ ws outs
  | .r :: ms, _ :: ρ, ws, outs => Outs ms ρ ws outs
  | _ :: _, [], _, _ => False
/-- what a def's body is to reach -/
def wdV (ms : List Md) (ws : List Addr) (k : PyData → List PyData → Prop) (kx : Xn → List PyData → Prop) : WD where
  nx := fun ρ => ∃ outs, Outs ms ρ ws outs ∧ k .none outs
  rt := fun r ρ => ∃ d ρ' outs, r.fz ρ = some (d, ρ') ∧ Outs ms ρ' ws outs ∧ k d outs
  rn := fun d ρ => ∃ outs, Outs ms ρ ws outs ∧ k d outs
  bk := fun _ => False
  ct := fun _ => False
  ex := fun x ρ => ∃ outs, Outs ms ρ ws outs ∧ kx x outs
def wdN (ms : List Md) (ws : List Addr) (k : PyData → List PyData → Prop) (kx : Xn → List PyData → Prop) : WD where
  nx := fun _ => False
  rt := fun _ _ => False
  rn := fun d ρ => ∃ outs, Outs ms ρ ws outs ∧ k d outs
  bk := fun _ => False
  ct := fun _ => False
  ex := fun x ρ => ∃ outs, Outs ms ρ ws outs ∧ kx x outs
section
variable {K : PySem.W.Frag} {M W : Ow} {H : Hp}
theorem mk_len : ∀ {ms : List Md} {vs : List V} {xs : List PyData} {ws : List Addr}, ArgsOk K M W H ms vs xs ws → (mkEn ms xs ws).length = vs.length
  | [], _, _, _, h => by obtain ⟨rfl, rfl, rfl⟩ := h; rfl
  | .v :: ms, _, _, _, h => by obtain ⟨v, vs', x, xs', rfl, rfl, _, h⟩ := h; simp [mkEn, mk_len h]
  | .r :: ms, _, _, _, h => by obtain ⟨v, vs', x, xs', rfl, rfl, _, h⟩ := h; simp [mkEn, mk_len h]
  | .m :: ms, _, _, _, h => by obtain ⟨v, vs', x, xs', ws', rfl, rfl, rfl, _, h⟩ := h; simp [mkEn, mk_len h]
def EnOk (K : PySem.W.Frag) (M W : Ow) (H : Hp) (ws : List Addr) (v : V) : En → Prop
  | .val d => Rep K M H d v
  | .rd d => See K M W H d v
  | .io l d => v = .ref l ∧ M l ∧ W l ∧ At K M H l d ∧ l ∈ ws
  | _ => False
theorem mk_get : ∀ {ms : List Md} {vs : List V} {xs : List PyData} {ws : List Addr} {i : Nat} {e : En}, ArgsOk K M W H ms vs xs ws → (mkEn ms xs ws)[i]? = some e → ∃ v, vs[i]? = some v ∧ EnOk K M W H ws v e
  | [], _, _, _, i, e, h, z => by obtain ⟨rfl, rfl, rfl⟩ := h; simp [mkEn] at z
  | .v :: ms, _, _, _, i, e, h, z => by
    obtain ⟨v, vs', x, xs', rfl, rfl, r, h⟩ := h
    cases i with
    | zero => simp [mkEn] at z; subst z; exact ⟨v, rfl, r⟩
    | succ i => exact mk_get h (i := i) (by simpa [mkEn] using z)
  | .r :: ms, _, _, _, i, e, h, z => by
    obtain ⟨v, vs', x, xs', rfl, rfl, r, h⟩ := h
    cases i with
    | zero => simp [mkEn] at z; subst z; exact ⟨v, rfl, r⟩
    | succ i => exact mk_get h (i := i) (by simpa [mkEn] using z)
  | .m :: ms, _, _, _, i, e, h, z => by
    obtain ⟨l, vs', x, xs', ws', rfl, rfl, rfl, ⟨r1, r2, r3⟩, h⟩ := h
    cases i with
    | zero => simp [mkEn] at z; subst z; exact ⟨_, rfl, rfl, r1, r2, r3, by simp⟩
    | succ i =>
      obtain ⟨v, h1, h2⟩ := mk_get h (i := i) (e := e) (by simpa [mkEn] using z)
      refine ⟨v, h1, ?_⟩
      cases e with
      | io l' d => exact ⟨h2.1, h2.2.1, h2.2.2.1, h2.2.2.2.1, List.mem_cons_of_mem _ h2.2.2.2.2⟩
      | _ => exact h2
theorem mk_uniq : ∀ {ms : List Md} {vs : List V} {xs : List PyData} {ws : List Addr} {i j : Nat} {l : Addr} {d e : PyData}, ArgsOk K M W H ms vs xs ws → ws.Nodup → (mkEn ms xs ws)[i]? = some (.io l d) → (mkEn ms xs ws)[j]? = some (.io l e) → i = j
  | [], _, _, _, i, j, l, d, e, h, nd, z, y => by obtain ⟨rfl, rfl, rfl⟩ := h; simp [mkEn] at z
  | .v :: ms, _, _, _, i, j, l, d, e, h, nd, z, y => by
    obtain ⟨v, vs', x, xs', rfl, rfl, r, h⟩ := h
    cases i with
    | zero => simp [mkEn] at z
    | succ i => cases j with
      | zero => simp [mkEn] at y
      | succ j => rw [mk_uniq h nd (i := i) (j := j) (by simpa [mkEn] using z) (by simpa [mkEn] using y)]
  | .r :: ms, _, _, _, i, j, l, d, e, h, nd, z, y => by
    obtain ⟨v, vs', x, xs', rfl, rfl, r, h⟩ := h
    cases i with
    | zero => simp [mkEn] at z
    | succ i => cases j with
      | zero => simp [mkEn] at y
      | succ j => rw [mk_uniq h nd (i := i) (j := j) (by simpa [mkEn] using z) (by simpa [mkEn] using y)]
  | .m :: ms, _, _, _, i, j, l, d, e, h, nd, z, y => by
    obtain ⟨a, vs', x, xs', ws', rfl, rfl, rfl, _, h⟩ := h
    obtain ⟨n1, n2⟩ := List.nodup_cons.mp nd
    cases i with
    | zero =>
      simp [mkEn] at z
      cases j with
      | zero => rfl
      | succ j =>
        obtain ⟨v, _, q⟩ := mk_get h (i := j) (e := .io l e) (by simpa [mkEn] using y)
        exact absurd q.2.2.2.2 (by rw [← z.1]; exact n1)
    | succ i =>
      cases j with
      | zero =>
        simp [mkEn] at y
        obtain ⟨v, _, q⟩ := mk_get h (i := i) (e := .io l d) (by simpa [mkEn] using z)
        exact absurd q.2.2.2.2 (by rw [← y.1]; exact n1)
      | succ j => rw [mk_uniq h n2 (i := i) (j := j) (by simpa [mkEn] using z) (by simpa [mkEn] using y)]
/-- the frame at a def's entry -/
theorem entry {ms : List Md} {vs : List V} {xs : List PyData} {ws : List Addr} {N : List Str} (th : Thr M H) (a : ArgsOk K M (inL ws) H ms vs xs ws) (nd : ws.Nodup) :
    Gd K ⟨M, inL ws, H⟩ (start N vs) H (mkEn ms xs ws ++ List.replicate (N.length - ms.length) .no) := by
  have hl := mk_len a
  have hal := args_len a
  have inW : ∀ l, l ∈ ws → M l := by
    clear hl hal nd th
    have key : ∀ {ms : List Md} {vs : List V} {xs : List PyData} {us : List Addr}, ArgsOk K M (inL ws) H ms vs xs us → ∀ l ∈ us, M l := fun {ms} => by
      induction ms with
      | nil => intro vs xs us h l hl; obtain ⟨_, _, rfl⟩ := h; cases hl
      | cons m ms ih =>
        intro vs xs us h l hl
        cases m with
        | v => obtain ⟨v, vs', x, xs', rfl, rfl, r, h⟩ := h; exact ih h l hl
        | r => obtain ⟨v, vs', x, xs', rfl, rfl, r, h⟩ := h; exact ih h l hl
        | m =>
          obtain ⟨a, vs', x, xs', ws', rfl, rfl, rfl, r, h⟩ := h
          rcases List.mem_cons.mp hl with rfl | hl
          · exact r.1
          · exact ih h l hl
    exact key a
  have g : ∀ {i : Nat} {e : En}, (mkEn ms xs ws ++ List.replicate (N.length - ms.length) .no)[i]? = some e → e = .no ∨ (∃ v, (start N vs)[i]? = some (some v) ∧ EnOk K M (inL ws) H ws v e ∧ (mkEn ms xs ws)[i]? = some e) := fun {i e} z => by
    by_cases hi : i < (mkEn ms xs ws).length
    · rw [List.getElem?_append_left hi] at z
      obtain ⟨v, h1, h2⟩ := mk_get a z
      refine .inr ⟨v, ?_, h2, z⟩
      unfold L2.start
      rw [List.getElem?_append_left (by rw [List.length_map, ← hl]; exact hi), List.getElem?_map, h1]; rfl
    · rw [List.getElem?_append_right (by omega)] at z
      rw [List.getElem?_replicate] at z
      split at z
      · cases z; exact .inl rfl
      · cases z
  have nown : ∀ x, ¬ Oof (mkEn ms xs ws ++ List.replicate (N.length - ms.length) .no) x := fun x ⟨i, d, z⟩ => by
    rcases g z with q | ⟨v, _, q, _⟩
    · cases q
    · exact q
  have mM : Mv M (Mof ⟨M, inL ws, H⟩ (mkEn ms xs ws ++ List.replicate (N.length - ms.length) .no)) H H := Mv.sub fun x z => z.elim id fun q => (nown x q).elim
  have mW : Mv (inL ws) (Wof ⟨M, inL ws, H⟩ (mkEn ms xs ws ++ List.replicate (N.length - ms.length) .no)) H H := Mv.sub fun x z => z.elim id fun q => (nown x q).elim
  refine ⟨?_, fun i d z => ?_, fun i d z => ?_, fun i l d z => ?_, fun i l d z => ?_, fun i v z => ?_, fun i j l d e z y => ?_, fun i j l d e z y => ?_, fun _ _ h _ => h, inW, th, fun i v p x z => ?_⟩
  · unfold L2.start
    rw [List.length_append, List.length_append, List.length_map, List.length_replicate, List.length_replicate, hl, hal]
  · rcases g z with q | ⟨v, h1, q, _⟩
    · cases q
    · exact ⟨v, h1, Rep.mv mM q⟩
  · rcases g z with q | ⟨v, h1, q, _⟩
    · cases q
    · exact ⟨v, h1, See.mv mM mW q⟩
  · rcases g z with q | ⟨v, h1, q, _⟩
    · cases q
    · exact q.elim
  · rcases g z with q | ⟨v, h1, q, _⟩
    · cases q
    · obtain ⟨rfl, q1, q2, q3, _⟩ := q
      exact ⟨h1, q3.mv mM fun _ z => z, q2⟩
  · rcases g z with q | ⟨v, h1, q, _⟩
    · cases q
    · exact q.elim
  · exact ((nown l) ⟨i, d, z⟩).elim
  · rcases g z with q | ⟨v, h1, _, q⟩
    · cases q
    · rcases g y with q' | ⟨v', h1', _, q'⟩
      · cases q'
      · exact mk_uniq a nd q q'
  · rcases g z with q | ⟨v, h1, q, _⟩
    · cases q
    · exact q.elim
theorem outs_ok {c : Ct} {σ : L2.St} {H' : Hp} {M' : Ow} : ∀ {ms : List Md} {n : Nat} {ρ ρ' : List En} {ws : List Addr} {outs : List PyData}, Gd K c σ H' ρ' → (∀ j e, ρ[j]? = some e → ρ'[n + j]? = some e) → (∀ a, M' a → Mof c ρ' a) → Outs ms ρ ws outs → OutOk K M' H' ws outs
  | [], n, ρ, ρ', ws, outs, g, hp, hM, h => by obtain ⟨rfl, rfl⟩ := h; rfl
  | .m :: ms, n, e :: ρ, ρ', l :: ws, outs, g, hp, hM, h => by
    obtain ⟨o, r, rfl, rfl, h⟩ := h
    have h0 : ρ'[n]? = some (.io l o) := by have := hp 0 _ rfl; simpa using this
    refine ⟨o, r, rfl, (g.io n l o h0).2.1.mv (Mv.sub hM) (fun _ z => z), outs_ok (n := n + 1) (ρ := ρ) g (fun j e z => ?_) hM h⟩
    have := hp (j + 1) e (by simpa using z)
    rwa [show n + 1 + j = n + (j + 1) by omega]
  | .m :: _, n, [], _, _, _, _, _, _, h => by exact h.elim
  | .m :: _, n, _ :: _, _, [], _, _, _, _, h => by exact h.elim
  | .v :: ms, n, e :: ρ, ρ', ws, outs, g, hp, hM, h => outs_ok (n := n + 1) (ρ := ρ) g (fun j e z => by have := hp (j + 1) e (by simpa using z); rwa [show n + 1 + j = n + (j + 1) by omega]) hM h
  | .r :: ms, n, e :: ρ, ρ', ws, outs, g, hp, hM, h => outs_ok (n := n + 1) (ρ := ρ) g (fun j e z => by have := hp (j + 1) e (by simpa using z); rwa [show n + 1 + j = n + (j + 1) by omega]) hM h
  | .v :: _, _, [], _, _, _, _, _, _, h => by exact h.elim
  | .r :: _, _, [], _, _, _, _, _, _, h => by exact h.elim
/-- a body's end -/
theorem eok_V {E0 : XK} {N : List Str} {ms : List Md} {vs : List V} {xs : List PyData} {ws : List Addr} {k : PyData → List PyData → Prop} {kx : Xn → List PyData → Prop} {Q : VK} {ρ0 : List En} {E : EK}
    (hk : ∀ d outs v H', k d outs → Beh ws H H' → OutOk K M H' ws outs → Rep K M H' d v → Q v H') (hx : ∀ x outs cl ad H', kx x outs → Beh ws H H' → OutOk K M H' ws outs → RepX K H' x cl ad → E0 cl ad H') (hE : ∀ σ cl ad H', E0 cl ad H' → E σ cl ad H') :
    EOk K E ⟨M, inL ws, H⟩ ρ0 H (wdV ms ws k kx) { nx := fun _ H' => Q .non H', rt := Q } := by
  have beh : ∀ {c' : Ct} {σ' : L2.St} {ρ' : List En} {H' : Hp}, Gd K c' σ' H' ρ' → c'.H0 = H → (∀ a, c'.W a → c'.M a → a ∈ ws ∨ H a = none) → Ev ⟨M, inL ws, H⟩ ρ0 H ρ' H' → Beh ws H H' := fun {c' σ' ρ' H'} g e0 ew e => by
    refine ⟨fun b o h n => g.fr b o (by rw [e0]; exact h) fun w => ?_, e.there⟩
    rcases ew b w (g.wm b w) with q | q
    · exact n q
    · rw [h] at q; cases q
  have ew0 : ∀ a, (⟨M, inL ws, H⟩ : Ct).W a → (⟨M, inL ws, H⟩ : Ct).M a → a ∈ ws ∨ H a = none := fun a z _ => .inl z
  refine ⟨fun σ' ρ' H' ⟨outs, h1, h2⟩ g e => ?_, fun r σ' ρ' v H' ⟨d, ρ1, outs, hf, h1, h2⟩ g e p => ?_, fun d σ' ρ' p H' ⟨outs, h1, h2⟩ g e hp nm ni ha => ?_, fun σ' ρ' H' z _ _ => z.elim, fun σ' ρ' H' z _ _ => z.elim, fun x σ' ρ' cl ad H' ⟨outs, h1, h2⟩ g e rx => ?_⟩
  · exact hk _ outs _ H' h2 (beh g rfl ew0 e) (outs_ok (n := 0) g (fun j e z => by simpa using z) (fun a z => .inl z) h1) rfl
  · obtain ⟨g1, e1, r1⟩ := p.fz g hf
    exact hk d outs v H' h2 (beh g1 rfl ew0 (e.trans e1)) (outs_ok (n := 0) g1 (fun j e z => by simpa using z) (fun a z => .inl z) h1) (r1.mv (Mv.sub fun a z => .inl z))
  · refine hk d outs _ H' h2 (beh g rfl (fun a z _ => ?_) e) (outs_ok (n := 0) g (fun j e z => by simpa using z) (fun a z => .inl (.inl z)) h1) ?_
    · rcases z with z | rfl
      · exact .inl z
      · exact .inr hp
    · exact At.rep (At.mv (Mv.sub fun a z => by
        rcases z with z | rfl
        · exact .inl (.inl z)
        · exact .inl (.inr rfl)) (fun _ z => z) ha) nm
  · exact hE _ _ _ _ (hx x outs cl ad H' h2 (beh g rfl ew0 e) (outs_ok (n := 0) g (fun j e z => by simpa using z) (fun a z => .inl z) h1) rx)
theorem eok_N {E0 : XK} {ms : List Md} {ws : List Addr} {k : PyData → List PyData → Prop} {kx : Xn → List PyData → Prop} {Q : VK} {ρ0 : List En} {E : EK}
    (hk : ∀ d outs p H', k d outs → Beh ws H H' → OutOk K (orP M p) H' ws outs → H p = none → At K (orP M p) H' p d → Q (.ref p) H') (hx : ∀ x outs cl ad H', kx x outs → Beh ws H H' → OutOk K M H' ws outs → RepX K H' x cl ad → E0 cl ad H') (hE : ∀ σ cl ad H', E0 cl ad H' → E σ cl ad H') :
    EOk K E ⟨M, inL ws, H⟩ ρ0 H (wdN ms ws k kx) { nx := fun _ H' => Q .non H', rt := Q } := by
  have beh : ∀ {c' : Ct} {σ' : L2.St} {ρ' : List En} {H' : Hp}, Gd K c' σ' H' ρ' → c'.H0 = H → (∀ a, c'.W a → c'.M a → a ∈ ws ∨ H a = none) → Ev ⟨M, inL ws, H⟩ ρ0 H ρ' H' → Beh ws H H' := fun {c' σ' ρ' H'} g e0 ew e => by
    refine ⟨fun b o h n => g.fr b o (by rw [e0]; exact h) fun w => ?_, e.there⟩
    rcases ew b w (g.wm b w) with q | q
    · exact n q
    · rw [h] at q; cases q
  have ew0 : ∀ a, (⟨M, inL ws, H⟩ : Ct).W a → (⟨M, inL ws, H⟩ : Ct).M a → a ∈ ws ∨ H a = none := fun a z _ => .inl z
  refine ⟨fun σ' ρ' H' z _ _ => z.elim, fun r σ' ρ' v H' z _ _ _ => z.elim, fun d σ' ρ' p H' ⟨outs, h1, h2⟩ g e hp nm ni ha => ?_, fun σ' ρ' H' z _ _ => z.elim, fun σ' ρ' H' z _ _ => z.elim, fun x σ' ρ' cl ad H' ⟨outs, h1, h2⟩ g e rx => ?_⟩
  · have sub : ∀ a, orP M p a → Mof ((⟨M, inL ws, H⟩ : Ct).more p) ρ' a := fun a z => .inl z
    refine hk d outs p H' h2 (beh g rfl (fun a z _ => ?_) e) (outs_ok (n := 0) g (fun j e z => by simpa using z) sub h1) hp (ha.mv (Mv.sub sub) fun _ z => z)
    rcases z with z | rfl
    · exact .inl z
    · exact .inr hp
  · exact hE _ _ _ _ (hx x outs cl ad H' h2 (beh g rfl ew0 e) (outs_ok (n := 0) g (fun j e z => by simpa using z) (fun a z => .inl z) h1) rx)
end

/-- the slots at the entry, by value -/
abbrev ent (ms : List Md) (xs : List PyData) (ws : List Addr) (n : Nat) : List En := mkEn ms xs ws ++ List.replicate (n - ms.length) .no
section
variable {P : Program} {w : World} {K : PySem.W.Frag} {mg : Str → Option Value} {base : Heap}
theorem args_as {W M : Ow} {H : Hp} : ∀ {ms : List Md} {vs : List V} {xs : List PyData} {us : List Addr}, ArgsOk K M W H ms vs xs us → us.length = (ms.filter fun | .m => true | _ => false).length ∧ xs.length = ms.length := fun {ms} => by
  induction ms with
  | nil => intro vs xs us h; obtain ⟨_, rfl, rfl⟩ := h; exact ⟨rfl, rfl⟩
  | cons m ms ih =>
    intro vs xs us h
    cases m with
    | v => obtain ⟨v, vs', x, xs', rfl, rfl, r, h⟩ := h; exact ⟨(ih h).1, by simp [(ih h).2]⟩
    | r => obtain ⟨v, vs', x, xs', rfl, rfl, r, h⟩ := h; exact ⟨(ih h).1, by simp [(ih h).2]⟩
    | m => obtain ⟨a, vs', x, xs', ws', rfl, rfl, rfl, r, h⟩ := h; exact ⟨by simp [List.filter, (ih h).1], by simp [(ih h).2]⟩
abbrev nM (ms : List Md) : Nat := (ms.filter fun | .m => true | _ => false).length
/-- THE RULE for a def that raises nothing -/
theorem fnV {x qual : Str} {st : Stmt} {f : Addr} {fd : FuncData} {N ps : List Str} {k : Nat} {ms : List Md} {S : Spc} {ws : WS} (F : Fun K x qual st f fd) (sc : FnScope N ps (defScope st)) (hl : ms.length = ps.length)
    (hb : ∀ (cdv : Value) (A : Around) (outer : List Env) (s : Shared) (H : Hp) (E : XK), Room k (A.deeper (envOfC qual (defScope st) s.heap.objs.size f cdv)) → BSs (cxOf CX0 P w K mg base N qual (defScope st) f cdv A outer s H E).nox EN (defBody st) ws)
    (hw : ∀ xs as k kx, S xs k kx → as.length = nM ms → ws (wdV ms as k fun _ _ => False) (ent ms xs as N.length)) : FnOk P w K mg base CX0 (k + 1) f fd ps (spV K ms S) := by
  refine F.ok sc (spV_len hl) fun cdv A outer s H vs Q E hr h => ?_
  obtain ⟨M, xs, as, k', kx, th, a, nd, hS, hk, hx⟩ := h
  exact ⟨_, (hb cdv A outer s H E hr).pss, ⟨M, inL as, H⟩, _, wdV ms as k' fun _ _ => False, entry th a nd, hw xs as k' kx hS (args_as a).1, eok_V (E0 := fun _ _ _ => False) (N := N) (vs := vs) (xs := xs) hk (fun _ _ _ _ _ z => z.elim) fun _ _ _ _ z => z⟩
theorem fnN {x qual : Str} {st : Stmt} {f : Addr} {fd : FuncData} {N ps : List Str} {k : Nat} {ms : List Md} {S : Spc} {ws : WS} (F : Fun K x qual st f fd) (sc : FnScope N ps (defScope st)) (hl : ms.length = ps.length)
    (hb : ∀ (cdv : Value) (A : Around) (outer : List Env) (s : Shared) (H : Hp) (E : XK), Room k (A.deeper (envOfC qual (defScope st) s.heap.objs.size f cdv)) → BSs (cxOf CX0 P w K mg base N qual (defScope st) f cdv A outer s H E).nox EN (defBody st) ws)
    (hw : ∀ xs as k kx, S xs k kx → as.length = nM ms → ws (wdN ms as k fun _ _ => False) (ent ms xs as N.length)) : FnOk P w K mg base CX0 (k + 1) f fd ps (spN K ms S) := by
  refine F.ok sc (spN_len hl) fun cdv A outer s H vs Q E hr h => ?_
  obtain ⟨M, xs, as, k', kx, th, a, nd, hS, hk, hx⟩ := h
  exact ⟨_, (hb cdv A outer s H E hr).pss, ⟨M, inL as, H⟩, _, wdN ms as k' fun _ _ => False, entry th a nd, hw xs as k' kx hS (args_as a).1, eok_N (E0 := fun _ _ _ => False) hk (fun _ _ _ _ _ z => z.elim) fun _ _ _ _ z => z⟩
/-- .. for a def that may raise -/
theorem fnVX {x qual : Str} {st : Stmt} {f : Addr} {fd : FuncData} {N ps : List Str} {k : Nat} {ms : List Md} {S : Spc} {ws : WS} (F : Fun K x qual st f fd) (sc : FnScope N ps (defScope st)) (hl : ms.length = ps.length)
    (hb : ∀ (cdv : Value) (A : Around) (outer : List Env) (s : Shared) (H : Hp) (E : XK), Room k (A.deeper (envOfC qual (defScope st) s.heap.objs.size f cdv)) → BSs (cxOf (L2.CX P w) P w K mg base N qual (defScope st) f cdv A outer s H E) (fun _ => E) (defBody st) ws)
    (hw : ∀ xs as k kx, S xs k kx → as.length = nM ms → ws (wdV ms as k kx) (ent ms xs as N.length)) : FnOk P w K mg base (L2.CX P w) (k + 1) f fd ps (spV K ms S) := by
  refine F.okX sc (spV_len hl) fun cdv A outer s H vs Q E hr h => ?_
  obtain ⟨M, xs, as, k', kx, th, a, nd, hS, hk, hx⟩ := h
  exact ⟨_, (hb cdv A outer s H E hr).pss, ⟨M, inL as, H⟩, _, wdV ms as k' kx, entry th a nd, hw xs as k' kx hS (args_as a).1, eok_V (E0 := E) (N := N) (vs := vs) (xs := xs) hk hx fun _ _ _ _ z => z⟩
theorem fnNX {x qual : Str} {st : Stmt} {f : Addr} {fd : FuncData} {N ps : List Str} {k : Nat} {ms : List Md} {S : Spc} {ws : WS} (F : Fun K x qual st f fd) (sc : FnScope N ps (defScope st)) (hl : ms.length = ps.length)
    (hb : ∀ (cdv : Value) (A : Around) (outer : List Env) (s : Shared) (H : Hp) (E : XK), Room k (A.deeper (envOfC qual (defScope st) s.heap.objs.size f cdv)) → BSs (cxOf (L2.CX P w) P w K mg base N qual (defScope st) f cdv A outer s H E) (fun _ => E) (defBody st) ws)
    (hw : ∀ xs as k kx, S xs k kx → as.length = nM ms → ws (wdN ms as k kx) (ent ms xs as N.length)) : FnOk P w K mg base (L2.CX P w) (k + 1) f fd ps (spN K ms S) := by
  refine F.okX sc (spN_len hl) fun cdv A outer s H vs Q E hr h => ?_
  obtain ⟨M, xs, as, k', kx, th, a, nd, hS, hk, hx⟩ := h
  exact ⟨_, (hb cdv A outer s H E hr).pss, ⟨M, inL as, H⟩, _, wdN ms as k' kx, entry th a nd, hw xs as k' kx hS (args_as a).1, eok_N (E0 := E) hk hx fun _ _ _ _ z => z⟩
end

/-! ### calls -/
def passA : List Md → List R → List En → Option (List PyData × List En × List Nat)
  | [], [], ρ => some ([], ρ, [])
  | .v :: ms, r :: rs, ρ => (match r.fz ρ with
    | some (d, ρ1) => (match passA ms rs ρ1 with
      | some (xs, ρ2, is) => some (d :: xs, ρ2, is)
      | none => none)
    | none => none)
  | .r :: ms, r :: rs, ρ => (match r.get ρ with
    | some d => (match passA ms rs ρ with
      | some (xs, ρ2, is) => some (d :: xs, ρ2, is)
      | none => none)
    | none => none)
  | .m :: ms, .at i :: rs, ρ => (match cont i ρ with
    | some d => (match passA ms rs ρ with
      | some (xs, ρ2, is) => some (d :: xs, ρ2, i :: is)
      | none => none)
    | none => none)
  | _, _, _ => none
/-- what is read is not lent -/
def okA : List Md → List R → List Nat → Bool
  | .r :: ms, .at i :: rs, is => !(is.contains i) && okA ms rs is
  | _ :: ms, _ :: rs, is => okA ms rs is
  | _, _, _ => true
/-- lent lists stand as such -/
def lentOk : List Nat → List En → Bool
  | [], _ => true
  | i :: is, ρ => (match cont i ρ with
    | some _ => true
    | none => false) && !(is.contains i) && lentOk is ρ
def wrs : List Nat → List PyData → List En → List En
  | i :: is, o :: os, ρ => wrs is os (wr i o ρ)
  | _, _, ρ => ρ
def lentAt (σ : L2.St) (is : List Nat) (ws : List Addr) : Prop := Paired (fun (i : Nat) (l : Addr) => σ[i]? = some (some (.ref l))) is ws
section
variable {K : PySem.W.Frag} {c : Ct} {σ : L2.St} {H : Hp}
theorem cont_own {ρ : List En} {i : Nat} {d : PyData} (h : cont i ρ = some d) : ∃ l, ρ[i]? = some (.own l d) ∨ ρ[i]? = some (.io l d) := by
  rcases cont_shape h with ⟨l, h⟩ | ⟨l, h⟩
  · exact ⟨l, .inl h⟩
  · exact ⟨l, .inr h⟩
/-- two slots that hold one list are one -/
theorem Gd.slot1 {ρ : List En} (g : Gd K c σ H ρ) {i j : Nat} {d e : PyData} {l : Addr} (hi : cont i ρ = some d) (hj : cont j ρ = some e) (si : σ[i]? = some (some (.ref l))) (sj : σ[j]? = some (some (.ref l))) : i = j := by
  obtain ⟨a, hi⟩ := cont_own hi
  obtain ⟨b, hj⟩ := cont_own hj
  have ea : a = l := by
    rcases hi with h | h
    · have := (g.own i a d h).1; rw [si] at this; cases this; rfl
    · have := (g.io i a d h).1; rw [si] at this; cases this; rfl
  have eb : b = l := by
    rcases hj with h | h
    · have := (g.own j b e h).1; rw [sj] at this; cases this; rfl
    · have := (g.io j b e h).1; rw [sj] at this; cases this; rfl
  subst ea eb
  rcases hi with h | h
  · rcases hj with h' | h'
    · exact g.uo i j _ d e h h'
    · exact absurd (g.wm _ (g.io j _ e h').2.2) (g.own i _ d h).2.2.1
  · rcases hj with h' | h'
    · exact absurd (g.wm _ (g.io i _ d h).2.2) (g.own j _ e h').2.2.1
    · exact g.ui i j _ d e h h'
/-- lists are only let go -/
def Sh (ρ ρ' : List En) : Prop := ∀ j d, cont j ρ' = some d → cont j ρ = some d
theorem Sh.trans {ρ ρ1 ρ2 : List En} (a : Sh ρ ρ1) (b : Sh ρ1 ρ2) : Sh ρ ρ2 := fun j d h => a j d (b j d h)
theorem fz_sh {r : R} {ρ ρ' : List En} {d : PyData} (h : r.fz ρ = some (d, ρ')) : Sh ρ ρ' := by
  cases r with
  | val d' => cases h; exact fun _ _ z => z
  | obj u => cases h
  | see d' =>
    cases d' <;> first
      | (cases h; done)
      | (cases h; exact fun _ _ z => z)
  | «at» i =>
    have h : (match ρ[i]? with
      | some (.own _ d) => some (d, ρ.set i (.val d))
      | _ => none) = some (d, ρ') := h
    split at h
    · rename_i l d1 he
      cases h
      intro j e z
      unfold cont at z ⊢
      by_cases q : i = j
      · subst q
        rw [List.getElem?_set_self (List.getElem?_eq_some_iff.mp he).1] at z
        cases z
      · rw [List.getElem?_set_ne q] at z; exact z
    · cases h
def readP (p : Nat → Prop) : List Md → List R → Prop
  | .r :: ms, .at i :: rs => p i ∧ readP p ms rs
  | _ :: ms, _ :: rs => readP p ms rs
  | _, _ => True
theorem readP_mono {p q : Nat → Prop} (h : ∀ i, p i → q i) : ∀ {ms : List Md} {rs : List R}, readP p ms rs → readP q ms rs := fun {ms} => by
  induction ms with
  | nil => intro rs _; cases rs <;> exact trivial
  | cons m ms ih =>
    intro rs z
    cases rs with
    | nil => cases m <;> exact trivial
    | cons r rs =>
      cases m <;> cases r <;> first
        | exact ih z
        | exact ⟨h _ z.1, ih z.2⟩
theorem readP_and {p : Nat → Prop} : ∀ {ms : List Md} {rs : List R} {is : List Nat}, readP p ms rs → okA ms rs is = true → readP (fun i => p i ∧ i ∉ is) ms rs := fun {ms} => by
  induction ms with
  | nil => intro rs is _ _; cases rs <;> exact trivial
  | cons m ms ih =>
    intro rs is z o
    cases rs with
    | nil => cases m <;> exact trivial
    | cons r rs =>
      cases m <;> cases r <;> first
        | exact ih z o
        | (have o' : (!(is.contains _) && okA ms rs is) = true := o
           rw [Bool.and_eq_true] at o'
           exact ⟨⟨z.1, by simpa using o'.1⟩, ih z.2 o'.2⟩)
theorem passA_ok : ∀ {ms : List Md} {rs : List R} {ρ ρ' : List En} {vs : List V} {xs : List PyData} {is : List Nat}, Gd K c σ H ρ → Paired (fun v r => RepR K c σ H ρ v r) vs rs → passA ms rs ρ = some (xs, ρ', is) →
    Gd K c σ H ρ' ∧ Ev c ρ H ρ' H ∧ Sh ρ ρ' ∧ readP (fun i => ∃ d, cont i ρ = some d) ms rs ∧ ∃ ws, lentAt σ is ws ∧
      ∀ ws0 : List Addr, (∀ l ∈ ws0, Wr ρ' l) → (∀ l ∈ ws, l ∈ ws0) → lentOk is ρ' = true → readP (fun i => ∀ l, σ[i]? = some (some (.ref l)) → l ∉ ws0) ms rs → ArgsOk K (Mof c ρ') (inL ws0) H ms vs xs ws := fun {ms} => by
  induction ms with
  | nil =>
    intro rs ρ ρ' vs xs is g p h
    cases rs with
    | nil =>
      cases h; cases p
      exact ⟨g, .refl, fun _ _ z => z, trivial, [], .nil, fun _ _ _ _ _ => ⟨rfl, rfl, rfl⟩⟩
    | cons r rs => cases h
  | cons m ms ih =>
    intro rs ρ ρ' vs xs is g p h
    cases rs with
    | nil => cases m <;> cases h
    | cons r rs =>
      cases p with
      | @cons v _ vs _ p1 p2 =>
      cases m with
      | v =>
        unfold passA at h
        split at h
        · rename_i d ρ1 hf
          split at h
          · rename_i xs' ρ2 is' hp
            cases h
            obtain ⟨g1, e1, r1⟩ := p1.fz g hf
            obtain ⟨g2, e2, s2, rp, ws, la, k⟩ := ih g1 (Pmap p2 fun _ _ z => RepR.ev z g e1) hp
            refine ⟨g2, e1.trans e2, (fz_sh hf).trans s2, ?_, ws, la, fun ws0 hw hs hl hr => ⟨v, vs, d, _, rfl, rfl, r1.mv (e2.mv g1), k ws0 hw hs hl (by cases r <;> exact hr)⟩⟩
            have := readP_mono (p := fun i => ∃ d, cont i ρ1 = some d) (q := fun i => ∃ d, cont i ρ = some d) (fun i h => by obtain ⟨d, z⟩ := h; exact ⟨d, fz_sh hf i d z⟩) rp
            cases r <;> exact this
          · cases h
        · cases h
      | r =>
        unfold passA at h
        split at h
        · rename_i d hf
          split at h
          · rename_i xs' ρ2 is' hp
            cases h
            obtain ⟨g2, e2, s2, rp, ws, la, k⟩ := ih g p2 hp
            refine ⟨g2, e2, s2, ?_, ws, la, fun ws0 hw hs hl hr => ?_⟩
            · cases r with
              | «at» i => exact ⟨⟨d, hf⟩, rp⟩
              | _ => exact rp
            · have wsub : ∀ a, inL ws0 a → Wof c ρ' a := fun a z => g2.wr_w (hw a z)
              cases r with
              | val d' =>
                cases hf
                exact ⟨v, vs, d, _, rfl, rfl, (Rep.mv (e2.mv g) p1).see fun a z => g2.wsub (wsub a z), k ws0 hw hs hl hr⟩
              | see d' =>
                cases hf
                exact ⟨v, vs, d, _, rfl, rfl, See.mv (e2.mv g) ⟨fun a z => (e2.mvw g).own a (wsub a z), fun b o e n => e⟩ p1, k ws0 hw hs hl hr⟩
              | «at» i =>
                obtain ⟨l, rfl, hl'⟩ := p1
                obtain ⟨a, _⟩ := cell_ref g hf hl'
                exact ⟨_, vs, d, _, rfl, rfl, (a.mv (e2.mv g) fun _ z => z).see (hr.1 l hl'), k ws0 hw hs hl hr.2⟩
              | obj u => cases hf
          · cases h
        · cases h
      | m =>
        cases r with
        | «at» i =>
          unfold passA at h
          split at h
          · rename_i d hf
            split at h
            · rename_i xs' ρ2 is' hp
              cases h
              obtain ⟨g2, e2, s2, rp, ws, la, k⟩ := ih g p2 hp
              obtain ⟨l, rfl, hl'⟩ := p1
              refine ⟨g2, e2, s2, rp, l :: ws, .cons hl' la, fun ws0 hw hs hl hr => ?_⟩
              have hl2 : ((match cont i ρ' with
                | some _ => true
                | none => false) && !(is'.contains i) && lentOk is' ρ') = true := hl
              rw [Bool.and_eq_true, Bool.and_eq_true] at hl2
              obtain ⟨⟨q1, _⟩, q2⟩ := hl2
              cases hc : cont i ρ' with
              | none => rw [hc] at q1; cases q1
              | some d' =>
                have := s2 i d' hc
                rw [hf] at this; cases this
                obtain ⟨a, m⟩ := cell_ref g2 hc hl'
                exact ⟨l, vs, d, _, ws, rfl, rfl, rfl, ⟨m, hs l (by simp), a⟩, k ws0 hw (fun l z => hs l (List.mem_cons_of_mem _ z)) q2 hr⟩
            · cases h
          · cases h
        | _ => cases h
theorem lent_mem {is : List Nat} {ws : List Addr} (la : lentAt σ is ws) : ∀ {l : Addr}, l ∈ ws → ∃ i ∈ is, σ[i]? = some (some (.ref l)) := by
  unfold lentAt at la
  induction la with
  | nil => intro l h; cases h
  | cons r t ih =>
    intro l h
    rcases List.mem_cons.mp h with rfl | h
    · exact ⟨_, by simp, r⟩
    · obtain ⟨i, h1, h2⟩ := ih h
      exact ⟨i, List.mem_cons_of_mem _ h1, h2⟩
theorem lentOk_mem : ∀ {is : List Nat} {ρ : List En}, lentOk is ρ = true → is.Nodup ∧ ∀ i ∈ is, ∃ d, cont i ρ = some d := fun {is} => by
  induction is with
  | nil => intro ρ _; exact ⟨.nil, fun _ z => by cases z⟩
  | cons i is ih =>
    intro ρ h
    have h2 : ((match cont i ρ with
      | some _ => true
      | none => false) && !(is.contains i) && lentOk is ρ) = true := h
    rw [Bool.and_eq_true, Bool.and_eq_true] at h2
    obtain ⟨⟨q1, q3⟩, q2⟩ := h2
    obtain ⟨n, k⟩ := ih q2
    refine ⟨List.nodup_cons.mpr ⟨by simpa using q3, n⟩, fun j hj => ?_⟩
    rcases List.mem_cons.mp hj with rfl | hj
    · cases hc : cont j ρ with
      | none => rw [hc] at q1; cases q1
      | some d => exact ⟨d, rfl⟩
    · exact k j hj
theorem lent_nodup {ρ : List En} (g : Gd K c σ H ρ) {is : List Nat} {ws : List Addr} (la : lentAt σ is ws) : lentOk is ρ = true → ws.Nodup := by
  unfold lentAt at la
  induction la with
  | nil => intro _; exact .nil
  | @cons i l is ws r t ih =>
    intro h
    obtain ⟨n, k⟩ := lentOk_mem h
    obtain ⟨n1, n2⟩ := List.nodup_cons.mp n
    have hl : lentOk is ρ = true := by
      have h2 : ((match cont i ρ with
        | some _ => true
        | none => false) && !(is.contains i) && lentOk is ρ) = true := h
      rw [Bool.and_eq_true] at h2; exact h2.2
    refine List.nodup_cons.mpr ⟨fun z => ?_, ih hl⟩
    obtain ⟨j, hj, sj⟩ := lent_mem (σ := σ) t z
    obtain ⟨d, hd⟩ := k i (by simp)
    obtain ⟨e, he⟩ := k j (List.mem_cons_of_mem _ hj)
    have := g.slot1 hd he r sj
    subst this
    exact n1 hj
theorem call_pre {ms : List Md} {rs : List R} {ρ ρ' : List En} {vs : List V} {xs : List PyData} {is : List Nat} (g : Gd K c σ H ρ) (p : Paired (fun v r => RepR K c σ H ρ v r) vs rs) (h : passA ms rs ρ = some (xs, ρ', is)) (ho : okA ms rs is = true) (hl : lentOk is ρ' = true) :
    Gd K c σ H ρ' ∧ Ev c ρ H ρ' H ∧ ∃ ws, lentAt σ is ws ∧ ws.Nodup ∧ (∀ l ∈ ws, Wr ρ' l) ∧ ArgsOk K (Mof c ρ') (inL ws) H ms vs xs ws := by
  obtain ⟨g2, e2, s2, rp, ws, la, k⟩ := passA_ok g p h
  obtain ⟨n, kc⟩ := lentOk_mem hl
  have hw : ∀ l ∈ ws, Wr ρ' l := fun l z => by
    obtain ⟨i, hi, si⟩ := lent_mem la z
    obtain ⟨d, hd⟩ := kc i hi
    obtain ⟨a, hd⟩ := cont_own hd
    rcases hd with q | q
    · have := (g2.own i a d q).1; rw [si] at this; cases this; exact ⟨i, d, .inl q⟩
    · have := (g2.io i a d q).1; rw [si] at this; cases this; exact ⟨i, d, .inr q⟩
  refine ⟨g2, e2, ws, la, lent_nodup g2 la hl, hw, k ws hw (fun _ z => z) hl (readP_mono (fun i ⟨⟨d, hd⟩, ni⟩ l sl hm => ?_) (readP_and rp ho))⟩
  obtain ⟨j, hj, sj⟩ := lent_mem la hm
  obtain ⟨e, he⟩ := kc j hj
  have := g.slot1 hd (s2 j e he) sl sj
  subst this
  exact ni hj
theorem wrs_get : ∀ {is : List Nat} {outs : List PyData} {ρ : List En} {j : Nat} {e : En}, is.Nodup → outs.length = is.length → (∀ i ∈ is, ∃ d, cont i ρ = some d) → (wrs is outs ρ)[j]? = some e →
    (ρ[j]? = some e ∧ j ∉ is) ∨ ∃ o l d0, (j, o) ∈ is.zip outs ∧ ((ρ[j]? = some (.own l d0) ∧ e = .own l o) ∨ (ρ[j]? = some (.io l d0) ∧ e = .io l o)) := fun {is} => by
  induction is with
  | nil => intro outs ρ j e _ _ _ h; exact .inl ⟨h, by simp⟩
  | cons i is ih =>
    intro outs ρ j e n hl hc h
    cases outs with
    | nil => simp at hl
    | cons o outs =>
      obtain ⟨n1, n2⟩ := List.nodup_cons.mp n
      obtain ⟨d, hd⟩ := hc i (by simp)
      obtain ⟨l, hd'⟩ := cont_own hd
      have hwr : ∀ {k : Nat}, k ≠ i → (wr i o ρ)[k]? = ρ[k]? := fun {k} hk => by
        rcases hd' with q | q
        · rw [wr_own i o q, List.getElem?_set_ne (Ne.symm hk)]
        · rw [wr_io i o q, List.getElem?_set_ne (Ne.symm hk)]
      have hc' : ∀ k ∈ is, ∃ d, cont k (wr i o ρ) = some d := fun k hk => by
        have ne : k ≠ i := fun q => n1 (q ▸ hk)
        obtain ⟨d, hd⟩ := hc k (List.mem_cons_of_mem _ hk)
        refine ⟨d, ?_⟩
        unfold cont at hd ⊢
        rw [hwr ne]; exact hd
      rcases ih n2 (by simpa using hl) hc' h with ⟨h1, h2⟩ | ⟨o', l', d0, hm, h1⟩
      · by_cases q : j = i
        · subst q
          rcases hd' with q | q
          · rw [wr_own j o q, List.getElem?_set_self (List.getElem?_eq_some_iff.mp q).1] at h1
            cases h1
            exact .inr ⟨o, l, d, by simp, .inl ⟨q, rfl⟩⟩
          · rw [wr_io j o q, List.getElem?_set_self (List.getElem?_eq_some_iff.mp q).1] at h1
            cases h1
            exact .inr ⟨o, l, d, by simp, .inr ⟨q, rfl⟩⟩
        · rw [hwr q] at h1
          exact .inl ⟨h1, by simp only [List.mem_cons, not_or]; exact ⟨q, h2⟩⟩
      · have hj : j ∈ is := (List.of_mem_zip hm).1
        have ne : j ≠ i := fun q => n1 (q ▸ hj)
        rw [hwr ne] at h1
        exact .inr ⟨o', l', d0, by rw [List.zip_cons_cons]; exact List.mem_cons_of_mem _ hm, h1⟩
theorem out_len {M : Ow} : ∀ {ws : List Addr} {outs : List PyData}, OutOk K M H ws outs → outs.length = ws.length := fun {ws} => by
  induction ws with
  | nil => intro outs h; cases h; rfl
  | cons l ws ih => intro outs h; obtain ⟨o, r, rfl, _, h⟩ := h; simp [ih h]
theorem out_at {M : Ow} {H' : Hp} {is : List Nat} {ws : List Addr} (la : lentAt σ is ws) : ∀ {outs : List PyData}, OutOk K M H' ws outs → ∀ {j : Nat} {o : PyData}, (j, o) ∈ is.zip outs → ∃ l, σ[j]? = some (some (.ref l)) ∧ At K M H' l o := by
  unfold lentAt at la
  induction la with
  | nil => intro outs _ j o h; simp at h
  | @cons i l is ws r t ih =>
    intro outs ho j o h
    obtain ⟨o', r', rfl, a, ho⟩ := ho
    rw [List.zip_cons_cons] at h
    rcases List.mem_cons.mp h with q | h
    · cases q; exact ⟨l, r, a⟩
    · exact ih ho h
theorem lent_len {is : List Nat} {ws : List Addr} (la : lentAt σ is ws) : is.length = ws.length := by
  unfold lentAt at la
  induction la with
  | nil => rfl
  | cons r t ih => simp [ih]
theorem call_post {c' : Ct} {ρ : List En} {H' : Hp} {is : List Nat} {ws : List Addr} {outs : List PyData} (g : Gd K c σ H ρ) (la : lentAt σ is ws) (hl : lentOk is ρ = true) (hw : ∀ l ∈ ws, Wr ρ l) (b : Beh ws H H') (ho : OutOk K (Mof c ρ) H' ws outs) :
    Gd K c σ H' (wrs is outs ρ) ∧ Ev c ρ H (wrs is outs ρ) H' ∧ ∀ a, Mof c (wrs is outs ρ) a → Mof c ρ a := by
  obtain ⟨n, kc⟩ := lentOk_mem hl
  have hlen : outs.length = is.length := by rw [out_len ho, lent_len la]
  have G : ∀ {j : Nat} {e : En}, (wrs is outs ρ)[j]? = some e → (ρ[j]? = some e ∧ j ∉ is) ∨ ∃ o l d0, (j, o) ∈ is.zip outs ∧ ((ρ[j]? = some (.own l d0) ∧ e = .own l o) ∨ (ρ[j]? = some (.io l d0) ∧ e = .io l o)) := fun h => wrs_get n hlen kc h
  have sub : ∀ a, Wr (wrs is outs ρ) a → Wr ρ a := fun a ⟨j, d, z⟩ => by
    rcases z with z | z
    · rcases G z with ⟨z, _⟩ | ⟨o, l, d0, _, ⟨z, q⟩ | ⟨z, q⟩⟩
      · exact ⟨j, d, .inl z⟩
      · cases q; exact ⟨j, d0, .inl z⟩
      · cases q
    · rcases G z with ⟨z, _⟩ | ⟨o, l, d0, _, ⟨z, q⟩ | ⟨z, q⟩⟩
      · exact ⟨j, d, .inr z⟩
      · cases q
      · cases q; exact ⟨j, d0, .inr z⟩
  have ev : Ev c ρ H (wrs is outs ρ) H' := ⟨fun x o h nx => b.fr x o h fun z => nx (hw x z), fun a z => .inl (sub a z), b.th⟩
  have msub : ∀ a, Mof c (wrs is outs ρ) a → Mof c ρ a := fun a z => by
    rcases z with z | ⟨j, d, z⟩
    · exact .inl z
    · rcases G z with ⟨z, _⟩ | ⟨o, l, d0, _, ⟨z, q⟩ | ⟨z, q⟩⟩
      · exact .inr ⟨j, d, z⟩
      · cases q; exact .inr ⟨j, d0, z⟩
      · cases q
  have len : ∀ (is : List Nat) (outs : List PyData) (ρ : List En), (wrs is outs ρ).length = ρ.length := fun is => by
    induction is with
    | nil => intro outs ρ; cases outs <;> rfl
    | cons i is ih => intro outs ρ; cases outs with
      | nil => rfl
      | cons o outs => show (wrs is outs (wr i o ρ)).length = _; rw [ih, wr_len]
  have notin : ∀ {j : Nat} {d : PyData} {l : Addr}, cont j ρ = some d → σ[j]? = some (some (.ref l)) → j ∉ is → l ∉ ws := fun {j d l} hc sl nj z => by
    obtain ⟨i, hi, si⟩ := lent_mem la z
    obtain ⟨e, he⟩ := kc i hi
    have := g.slot1 hc he sl si
    subst this
    exact nj hi
  refine ⟨g.next ev (len is outs ρ) (fun j d z => ?_) (fun j d z => ?_) (fun j v z => ?_) (fun j v p x z => by
      rcases G z with ⟨z, _⟩ | ⟨o, l, d0, _, ⟨z, q⟩ | ⟨z, q⟩⟩
      · exact z
      · cases q
      · cases q) (fun j l d z => ?_) (fun j l d z => ?_), ev, msub⟩
  · rcases G z with ⟨z, _⟩ | ⟨o, l, d0, _, ⟨z, q⟩ | ⟨z, q⟩⟩
    · exact z
    · cases q
    · cases q
  · rcases G z with ⟨z, _⟩ | ⟨o, l, d0, _, ⟨z, q⟩ | ⟨z, q⟩⟩
    · exact z
    · cases q
    · cases q
  · rcases G z with ⟨z, _⟩ | ⟨o, l, d0, _, ⟨z, q⟩ | ⟨z, q⟩⟩
    · exact z
    · cases q
    · cases q
  · rcases G z with ⟨z, nj⟩ | ⟨o, l', d0, hm, ⟨z, q⟩ | ⟨z, q⟩⟩
    · obtain ⟨h1, h2, _⟩ := g.own j l d z
      exact ⟨⟨d, z⟩, h2.mv (ev.mv g) fun u e => b.fr l u e (notin (by unfold cont; rw [z]) h1 nj)⟩
    · cases q
      obtain ⟨a, sa, at'⟩ := out_at la ho hm
      have := (g.own j l d0 z).1; rw [sa] at this; cases this
      exact ⟨⟨d0, z⟩, at'.mv (Mv.sub msub) fun _ z => z⟩
    · cases q
  · rcases G z with ⟨z, nj⟩ | ⟨o, l', d0, hm, ⟨z, q⟩ | ⟨z, q⟩⟩
    · obtain ⟨h1, h2, _⟩ := g.io j l d z
      exact ⟨⟨d, z⟩, h2.mv (ev.mv g) fun u e => b.fr l u e (notin (by unfold cont; rw [z]) h1 nj)⟩
    · cases q
    · cases q
      obtain ⟨a, sa, at'⟩ := out_at la ho hm
      have := (g.io j l d0 z).1; rw [sa] at this; cases this
      exact ⟨⟨d0, z⟩, at'.mv (Mv.sub msub) fun _ z => z⟩
end
/-- a call of a def that may raise; of one that does not -/
def wCall (ms : List Md) (S : Spc) (u : WA) : WE := fun kx ρ k => u kx ρ fun rs ρ1 => ∃ xs ρ2 is, passA ms rs ρ1 = some (xs, ρ2, is) ∧ okA ms rs is = true ∧ lentOk is ρ2 = true ∧ S xs (fun d outs => k (.val d) (wrs is outs ρ2)) fun x outs => kx x (wrs is outs ρ2)
def wCallN (ms : List Md) (S : Spc) (u : WA) : WN := fun kx ρ k => u kx ρ fun rs ρ1 => ∃ xs ρ2 is, passA ms rs ρ1 = some (xs, ρ2, is) ∧ okA ms rs is = true ∧ lentOk is ρ2 = true ∧ S xs (fun d outs => k d (wrs is outs ρ2)) fun x outs => kx x (wrs is outs ρ2)
def wCall0 (ms : List Md) (S : Spc) (u : WA) : WE := fun kx ρ k => u kx ρ fun rs ρ1 => ∃ xs ρ2 is, passA ms rs ρ1 = some (xs, ρ2, is) ∧ okA ms rs is = true ∧ lentOk is ρ2 = true ∧ S xs (fun d outs => k (.val d) (wrs is outs ρ2)) fun _ _ => False
def wCallN0 (ms : List Md) (S : Spc) (u : WA) : WN := fun kx ρ k => u kx ρ fun rs ρ1 => ∃ xs ρ2 is, passA ms rs ρ1 = some (xs, ρ2, is) ∧ okA ms rs is = true ∧ lentOk is ρ2 = true ∧ S xs (fun d outs => k d (wrs is outs ρ2)) fun _ _ => False
section
variable {K : PySem.W.Frag} {ms : List Md} {S : Spc} {c : Ct} {σ : L2.St} {H : Hp} {ρ ρ2 : List En} {rs : List R} {vs : List V} {xs : List PyData} {is : List Nat} {Q : VK} {E' : XK}
theorem call_coreV {k' : PyData → List PyData → Prop} {kx' : Xn → List PyData → Prop} (g : Gd K c σ H ρ) (p : Paired (fun v r => RepR K c σ H ρ v r) vs rs) (hp : passA ms rs ρ = some (xs, ρ2, is)) (ho : okA ms rs is = true) (hl : lentOk is ρ2 = true) (hS : S xs k' kx')
    (hk : ∀ d outs v H', k' d outs → Gd K c σ H' (wrs is outs ρ2) → Ev c ρ H (wrs is outs ρ2) H' → Rep K (Mof c (wrs is outs ρ2)) H' d v → Q v H')
    (hx : ∀ x outs cl ad H', kx' x outs → Gd K c σ H' (wrs is outs ρ2) → Ev c ρ H (wrs is outs ρ2) H' → RepX K H' x cl ad → E' cl ad H') : spV K ms S vs H Q E' := by
  obtain ⟨g2, e2, ws, la, nd, hww, ha⟩ := call_pre g p hp ho hl
  refine ⟨Mof c ρ2, xs, ws, _, _, fun a z => g2.mth z, ha, nd, hS, fun d outs v H' kd b oo r => ?_, fun x outs cl ad H' kd b oo r => ?_⟩
  · obtain ⟨g3, e3, sub⟩ := call_post (c' := c) g2 la hl hww b oo
    exact hk d outs v H' kd g3 (e2.trans e3) (r.mv (Mv.sub sub))
  · obtain ⟨g3, e3, sub⟩ := call_post (c' := c) g2 la hl hww b oo
    exact hx x outs cl ad H' kd g3 (e2.trans e3) r
theorem call_coreN {k' : PyData → List PyData → Prop} {kx' : Xn → List PyData → Prop} (g : Gd K c σ H ρ) (p : Paired (fun v r => RepR K c σ H ρ v r) vs rs) (hp : passA ms rs ρ = some (xs, ρ2, is)) (ho : okA ms rs is = true) (hl : lentOk is ρ2 = true) (hS : S xs k' kx')
    (hk : ∀ d outs q H', k' d outs → Gd K (c.more q) σ H' (wrs is outs ρ2) → Ev c ρ H (wrs is outs ρ2) H' → H q = none → NoIo q (wrs is outs ρ2) → At K (Mof (c.more q) (wrs is outs ρ2)) H' q d → Q (.ref q) H')
    (hx : ∀ x outs cl ad H', kx' x outs → Gd K c σ H' (wrs is outs ρ2) → Ev c ρ H (wrs is outs ρ2) H' → RepX K H' x cl ad → E' cl ad H') : spN K ms S vs H Q E' := by
  obtain ⟨g2, e2, ws, la, nd, hww, ha⟩ := call_pre g p hp ho hl
  refine ⟨Mof c ρ2, xs, ws, _, _, fun a z => g2.mth z, ha, nd, hS, fun d outs q H' kd b oo hq hat => ?_, fun x outs cl ad H' kd b oo r => ?_⟩
  · have pnw : ∀ l, Wr ρ2 l → l ≠ q := fun l z e => g2.mth (g2.wsub (g2.wr_w (e ▸ z))) hq
    have oo' : OutOk K (Mof (c.more q) ρ2) H' ws outs := by
      have key : ∀ {us : List Addr} {os : List PyData}, OutOk K (orP (Mof c ρ2) q) H' us os → OutOk K (Mof (c.more q) ρ2) H' us os := fun {us} => by
        induction us with
        | nil => intro os z; exact z
        | cons l us ih =>
          intro os z
          obtain ⟨o, r, rfl, a, z⟩ := z
          exact ⟨o, r, rfl, a.mv (Mv.sub fun a w => by
            rcases w with (w | w) | w
            · exact .inl (.inl w)
            · exact .inr w
            · exact .inl (.inr w)) (fun _ z => z), ih z⟩
      exact key oo
    cases hq' : H' q with
    | none => exact absurd hq' hat.some
    | some op =>
      have g2p : Gd K (c.more q) σ (upd H q op) ρ2 := g2.more hq (sm_upd hq) (by rw [upd_same]; intro z; cases z)
      have bp : Beh ws (upd H q op) H' := ⟨fun x o h n => by
        by_cases e : x = q
        · subst e; rw [upd_same] at h; cases h; exact hq'
        · rw [upd_ne e] at h; exact b.fr x o h n, fun a z => by
        by_cases e : a = q
        · subst e; rw [hq'] at z; cases z
        · rw [upd_ne e]; exact b.th a z⟩
      obtain ⟨g3, e3, sub⟩ := call_post (c' := c) g2p la hl hww bp oo'
      have e3' : Ev c ρ2 H (wrs is outs ρ2) H' := ⟨fun x o h n => e3.kept x o (by rw [upd_ne (ne_of_none h hq)]; exact h) n, fun a z => (e3.own a z).imp id fun w => by
        by_cases e : a = q
        · rw [e]; exact hq
        · rw [upd_ne e] at w; exact w, fun a z => b.th a z⟩
      refine hk d outs q H' kd g3 (e2.trans e3') hq (fun i d' z => ?_) (hat.mv ⟨fun a w => ?_, fun b o h _ => h⟩ fun _ z => z)
      · have : ∃ d0, ρ2[i]? = some (.io q d0) := by
          obtain ⟨n, kc⟩ := lentOk_mem hl
          have hlen : outs.length = is.length := by rw [out_len oo, lent_len la]
          rcases wrs_get n hlen kc z with ⟨z, _⟩ | ⟨o, l, d0, _, ⟨z, e⟩ | ⟨z, e⟩⟩
          · exact ⟨_, z⟩
          · cases e
          · cases e; exact ⟨d0, z⟩
        obtain ⟨d0, z0⟩ := this
        exact pnw q ⟨i, d0, .inr z0⟩ rfl
      · rcases sub a w with (w' | w') | w'
        · exact .inl (.inl (.inl w'))
        · exact .inl (.inr w')
        · exact .inl (.inl (.inr w'))
  · obtain ⟨g3, e3, sub⟩ := call_post (c' := c) g2 la hl hww b oo
    exact hx x outs cl ad H' kd g3 (e2.trans e3) r
end
section
variable {X : Cx} {E : EK} {es : List Expr} {ms : List Md} {S : Spc} {u : WA} {ex : Expr}
/-- mk: pe_call, pe_call0 -/
theorem be_call (mk : ∀ {t : TA}, PA X es t → PE X ex (tCall (spV X.K ms S) [] E0 t)) (hu : BA X E es u) : BE X E ex (wCall0 ms S u) := by
  refine ⟨peI (mk hu.pa) fun σ H Q h => ?_⟩
  obtain ⟨c, ρ, k, kx, g, hw, hk, hx⟩ := h
  refine ⟨c, ρ, _, kx, g, hw, fun rs ρ1 vs H1 k1 g1 e1 p1 => ?_, hx⟩
  obtain ⟨xs, ρ2, is, hp, ho, hl, hS⟩ := k1
  show spV X.K ms S (vs ++ []) H1 Q E0
  rw [List.append_nil]
  exact call_coreV g1 p1 hp ho hl hS (fun d outs v H' kd g3 e3 r => hk _ _ v H' kd g3 (e1.trans e3) r) fun _ _ _ _ _ z => z.elim
theorem bn_call (mk : ∀ {t : TA}, PA X es t → PE X ex (tCall (spN X.K ms S) [] E0 t)) (hu : BA X E es u) : BN X E ex (wCallN0 ms S u) := by
  refine ⟨peI (mk hu.pa) fun σ H Q h => ?_⟩
  obtain ⟨c, ρ, k, kx, g, hw, hk, hx⟩ := h
  refine ⟨c, ρ, _, kx, g, hw, fun rs ρ1 vs H1 k1 g1 e1 p1 => ?_, hx⟩
  obtain ⟨xs, ρ2, is, hp, ho, hl, hS⟩ := k1
  show spN X.K ms S (vs ++ []) H1 Q E0
  rw [List.append_nil]
  exact call_coreN g1 p1 hp ho hl hS (fun d outs q H' kd g3 e3 hq ni ha => hk _ _ q H' kd g3 (e1.trans e3) (e1.there q hq) ni ha) fun _ _ _ _ _ z => z.elim
/-- of a def that may raise; mk: pe_callSD with passAt -/
theorem be_callX (mk : ∀ {t : TA}, PA X es t → PE X ex (tCallSD (spV X.K ms S) [] E t)) (hu : BA X E es u) : BE X E ex (wCall ms S u) := by
  refine ⟨peI (mk hu.pa) fun σ H Q h => ?_⟩
  obtain ⟨c, ρ, k, kx, g, hw, hk, hx⟩ := h
  refine ⟨c, ρ, _, kx, g, hw, fun rs ρ1 vs H1 k1 g1 e1 p1 => ?_, hx⟩
  obtain ⟨xs, ρ2, is, hp, ho, hl, hS⟩ := k1
  show spV X.K ms S (vs ++ []) H1 Q (E σ)
  rw [List.append_nil]
  exact call_coreV g1 p1 hp ho hl hS (fun d outs v H' kd g3 e3 r => hk _ _ v H' kd g3 (e1.trans e3) r) fun x outs cl ad H' kd g3 e3 r => hx x _ cl ad H' kd g3 (e1.trans e3) r
theorem bn_callX (mk : ∀ {t : TA}, PA X es t → PE X ex (tCallSD (spN X.K ms S) [] E t)) (hu : BA X E es u) : BN X E ex (wCallN ms S u) := by
  refine ⟨peI (mk hu.pa) fun σ H Q h => ?_⟩
  obtain ⟨c, ρ, k, kx, g, hw, hk, hx⟩ := h
  refine ⟨c, ρ, _, kx, g, hw, fun rs ρ1 vs H1 k1 g1 e1 p1 => ?_, hx⟩
  obtain ⟨xs, ρ2, is, hp, ho, hl, hS⟩ := k1
  show spN X.K ms S (vs ++ []) H1 Q (E σ)
  rw [List.append_nil]
  exact call_coreN g1 p1 hp ho hl hS (fun d outs q H' kd g3 e3 hq ni ha => hk _ _ q H' kd g3 (e1.trans e3) (e1.there q hq) ni ha) fun x outs cl ad H' kd g3 e3 r => hx x _ cl ad H' kd g3 (e1.trans e3) r
end
end LB

/-! LB, part 9: callees by name; chains as tests; small things. -/
namespace LB
open PySem PySem.Spec PyProof.Rows L2
/-- a def of the text that keeps its promise, by its name -/
structure Cal (P : Program) (w : World) (K : PySem.W.Frag) (mg : Str → Option Value) (base : Heap) (CX : CXT) (k : Nat) (x : Str) (ps : List Str) (sp : Sp) : Prop where
  ex : ∃ f fd, FnOk P w K mg base CX k f fd ps sp ∧ mg x = some (.ref f) ∧ PySem.W.keepIn K (.ref f) = true ∧ Binds K fd ps []
section
variable {X : Cx} {k : Nat} {x : Str} {ps : List Str} {sp : Sp} {e : Expr} {es : List Expr} {t : TA} {p pos : Pos}
theorem Cal.pe (C : Cal X.prog X.w X.K X.mg X.base CX0 k x ps sp) (hr : Room k X.A) (hg : Gl X x) (ha : PA X (e :: es) t) (hdb : (x == ("__debug__" : Str)) = false := by decide)
    (he : starEach (e :: es) X.env = (false, eval e X.env) :: starEach es X.env := by rfl) (hpl : (backTo pos (starEach es X.env)).any (·.1) = false := by rfl) : PE X (.Call (.Name x p) (e :: es) [] pos) (tCall sp [] E0 t) := by
  obtain ⟨f, fd, F, hm, hk, hb⟩ := C.ex
  exact pe_call F hr hg hm hk hb .nil pass0 ha hdb he hpl
theorem Cal.pe0 (C : Cal X.prog X.w X.K X.mg X.base CX0 k x ps sp) (hr : Room k X.A) (hg : Gl X x) (hdb : (x == ("__debug__" : Str)) = false := by decide) : PE X (.Call (.Name x p) [] [] pos) (tCall sp [] E0 tNil) := by
  obtain ⟨f, fd, F, hm, hk, hb⟩ := C.ex
  exact pe_call0 F hr hg hm hk hb .nil pass0 hdb
variable {E : EK}
theorem Cal.peX (C : Cal X.prog X.w X.K X.mg X.base (L2.CX X.prog X.w) k x ps sp) (hr : Room k X.A) (hg : Gl X x) (hx : ∀ σ, PassesAt (L2.CX X.prog X.w) X σ (E σ)) (ha : PA X (e :: es) t) (hdb : (x == ("__debug__" : Str)) = false := by decide)
    (he : starEach (e :: es) X.env = (false, eval e X.env) :: starEach es X.env := by rfl) (hpl : (backTo pos (starEach es X.env)).any (·.1) = false := by rfl) : PE X (.Call (.Name x p) (e :: es) [] pos) (tCallSD sp [] E t) := by
  obtain ⟨f, fd, F, hm, hk, hb⟩ := C.ex
  exact pe_callSD F hr hg hm hk hb .nil hx ha hdb he hpl
end
section
variable {X : Cx} {E : EK} {a b c0 : Expr} {wa wb wc : WE} {pos : Pos} {op op' : CmpOp} {g g' : G2}
theorem bt_chain (ho : OpD X (compareOp op) g) (ho' : OpD X (compareOp op') g') (ha : BE X E a wa) (hb : BE X E b wb) (hc : BE X E c0 wc) (hm : lastMarks [op, op'] [b, c0] = false := by with_unfolding_all rfl) :
    BT X E (.Compare a [op, op'] [b, c0] pos) (wTst (wChain g g' wa wb wc)) := by
  obtain ⟨r, h1, h2⟩ := ho
  obtain ⟨r', h1', h2'⟩ := ho'
  refine ⟨ptI (pt_chain h1 h1' ha.pe hb.pe hc.pe hm) fun σ H Q ⟨c, ρ, k, kx, gd, hw, hk, hx⟩ => ?_⟩
  refine ⟨c, ρ, _, kx, gd, hw, fun r1 ρ1 v1 H1 k1 g1 e1 p1 => ?_, hx⟩
  refine ⟨c, ρ1, _, kx, g1, k1, fun r2 ρ2 v2 H2 k2 g2 e2 p2 => ?_, hx.ev e1⟩
  obtain ⟨d, e, hd, he, hg⟩ := k2
  refine h2 (Mof c ρ2) H2 v1 v2 d e _ _ (fun a z => g2.mth z) ((p1.ev g1 e2).see g2 hd) (p2.see g2 he) hg fun v H' z kz sm rp => ?_
  obtain ⟨q, rfl, hq⟩ := kz
  have g2' := g2.same sm
  have e12 := (e1.trans e2).trans (Ev.same (c := c) (ρ := ρ2) sm)
  refine ⟨q, rp, ?_⟩
  cases q with
  | false =>
    obtain ⟨b', e', hb'⟩ := hq
    cases e'
    exact ⟨false, rfl, hk _ ρ2 _ hb' g2' e12⟩
  | true =>
    refine ⟨c, ρ2, _, kx, g2', hq, fun r3 ρ3 v3 H3 k3 g3 e3 p3 => ?_, hx.ev e12⟩
    obtain ⟨e', f, he', hf, hg'⟩ := k3
    refine h2' (Mof c ρ3) H3 v2 v3 e' f _ _ (fun a z => g3.mth z) (((p2.ev g2 (Ev.same sm)).ev g2' e3).see g3 he') (p3.see g3 hf) hg' fun v H'' z kz sm' rp' => ?_
    obtain ⟨b', e', hb'⟩ := kz
    cases e'
    exact ⟨b', rp', hk _ ρ3 _ hb' (g3.same sm') ((e12.trans e3).trans (.same sm'))⟩
end
section
variable {X : Cx} {E : EK} {ms : List Md} {S : Spc} {ex : Expr}
theorem be_call0 (mk : PE X ex (tCall (spV X.K ms S) [] E0 tNil)) : BE X E ex (wCall0 ms S wNil) := by
  refine ⟨peI mk fun σ H Q h => ?_⟩
  obtain ⟨c, ρ, k, kx, g, ⟨xs, ρ2, is, hp, ho, hl, hS⟩, hk, hx⟩ := h
  show spV X.K ms S ([] ++ []) H Q E0
  exact call_coreV g .nil hp ho hl hS (fun d outs v H' kd g3 e3 r => hk _ _ v H' kd g3 e3 r) fun _ _ _ _ _ z => z.elim
theorem bn_call0 (mk : PE X ex (tCall (spN X.K ms S) [] E0 tNil)) : BN X E ex (wCallN0 ms S wNil) := by
  refine ⟨peI mk fun σ H Q h => ?_⟩
  obtain ⟨c, ρ, k, kx, g, ⟨xs, ρ2, is, hp, ho, hl, hS⟩, hk, hx⟩ := h
  show spN X.K ms S ([] ++ []) H Q E0
  exact call_coreN g .nil hp ho hl hS (fun d outs q H' kd g3 e3 hq ni ha => hk _ _ q H' kd g3 e3 hq ni ha) fun _ _ _ _ _ z => z.elim
end
theorem u65 {k : Nat} {A : Around} (r : Room k A) : A.units + 65 < cLine := by have := r.un; omega
/-! ### range as a value -/
abbrev WRg := KX → List En → (Int → Int → List En → Prop) → Prop
def lRg (X : Cx) (E : EK) (w : WRg) : L2.St → Hp → (Int → Int → Hp → Prop) → Prop := fun σ H Q => ∃ c ρ k kx, Gd X.K c σ H ρ ∧ w kx ρ k ∧ (∀ a b ρ' H', k a b ρ' → Gd X.K c σ H' ρ' → Ev c ρ H ρ' H' → Q a b H') ∧ ExOk X.K E c σ ρ H kx
structure BRg (X : Cx) (E : EK) (e : Expr) (w : WRg) : Prop where
  pr : PRg X e (lRg X E w)
theorem prI {X : Cx} {e : Expr} {t t' : L2.St → Hp → (Int → Int → Hp → Prop) → Prop} (h : PRg X e t) (i : ∀ σ H Q, t' σ H Q → t σ H Q) : PRg X e t' := fun pins s σ H Q I q => h pins s σ H Q I (i σ H Q q)
section
variable {X : Cx} {E : EK} {a b e : Expr} {wa wb : WE} {p pos : Pos}
def wRgE1 (wa : WE) : WRg := fun kx ρ k => wa kx ρ fun r ρ1 => ∃ n, r.get ρ1 = some (.int n) ∧ k 0 n ρ1
def wRgE2 (wa wb : WE) : WRg := fun kx ρ k => wa kx ρ fun r ρ1 => wb kx ρ1 fun r2 ρ2 => ∃ i j, r.get ρ2 = some (.int i) ∧ r2.get ρ2 = some (.int j) ∧ k i j ρ2
theorem brg_1 (hg : Gl X "range") (hm : X.mg "range" = none) (ha : BE X E a wa) (na : starEach [a] X.env = (false, eval a X.env) :: starEach [] X.env := by rfl) : BRg X E (.Call (.Name "range" p) [a] [] pos) (wRgE1 wa) := by
  refine ⟨prI (prg_1 hg hm ha.pe na) fun σ H Q ⟨c, ρ, k, kx, gd, hw, hk, hx⟩ => ?_⟩
  refine ⟨c, ρ, _, kx, gd, hw, fun r ρ1 v H1 k1 g1 e1 p1 => ?_, hx⟩
  obtain ⟨n, hn, hk1⟩ := k1
  exact ⟨n, (p1.see g1 hn).int, hk _ _ _ _ hk1 g1 e1⟩
def wLstRg (w : WRg) : WN := fun kx ρ k => w kx ρ fun a b ρ1 => RgOk a b ∧ k (.list (rgD a (b - a).toNat)) ρ1
def wTupRg (w : WRg) : WE := fun kx ρ k => w kx ρ fun a b ρ1 => RgOk a b ∧ k (.val (.tuple (rgD a (b - a).toNat))) ρ1
theorem rg_rep {K : PySem.W.Frag} {M : Ow} {H : Hp} (a b : Int) : RepAll K M H (rgD a (b - a).toNat) (rgV a b) := by
  refine RepAll.of_get (by rw [rgV_length, rgD_len]) fun i v d h1 h2 => ?_
  have hi : i < (b - a).toNat := by
    have := (List.getElem?_eq_some_iff.mp h2).1
    rwa [rgD_len] at this
  rw [rgD_get hi] at h2
  unfold rgV at h1
  rw [List.getElem?_map, List.getElem?_range hi] at h1
  cases h1; cases h2
  exact rfl
theorem bn_listRg {w : WRg} (hc : X.calm = true) (hg : Gl X "list") (hm : X.mg "list" = none) (he : BRg X E e w) (na : starEach [e] X.env = (false, eval e X.env) :: starEach [] X.env := by rfl) : BN X E (.Call (.Name "list" p) [e] [] pos) (wLstRg w) := by
  refine ⟨peI (pe_listRg hc hg hm he.pr na) fun σ H Q ⟨c, ρ, k, kx, gd, hw, hk, hx⟩ => ?_⟩
  refine ⟨c, ρ, _, kx, gd, hw, fun a b ρ1 H1 k1 g1 e1 => ?_, hx⟩
  obtain ⟨ok, k2⟩ := k1
  exact ⟨ok, fun q hq => hk _ _ _ _ k2 (g1.more hq (sm_upd hq) (by rw [upd_same]; intro z; cases z)) (e1.trans (.same (sm_upd hq))) (e1.there q hq) (g1.noio hq) ⟨_, upd_same, rg_rep a b⟩⟩
theorem be_tupRg {w : WRg} (hc : X.calm = true) (hg : Gl X "tuple") (hm : X.mg "tuple" = none) (he : BRg X E e w) (na : starEach [e] X.env = (false, eval e X.env) :: starEach [] X.env := by rfl) : BE X E (.Call (.Name "tuple" p) [e] [] pos) (wTupRg w) := by
  refine ⟨peI (pe_tupRg hc hg hm he.pr na) fun σ H Q ⟨c, ρ, k, kx, gd, hw, hk, hx⟩ => ?_⟩
  refine ⟨c, ρ, _, kx, gd, hw, fun a b ρ1 H1 k1 g1 e1 => ?_, hx⟩
  obtain ⟨ok, k2⟩ := k1
  exact ⟨ok, fun q hq => hk _ _ _ _ k2 (g1.same (sm_upd hq)) (e1.trans (.same (sm_upd hq))) ⟨q, _, rfl, .inl ⟨upd_same, fun z => g1.mth z hq⟩, rg_rep a b⟩⟩
/-! ### a, b = e -/
def wUnp (we : WE) (g : WG) : WS := fun W ρ => we W.ex ρ fun r ρ1 => ∃ d ρ2, r.fz ρ1 = some (d, ρ2) ∧ g d ρ2 W.nx
theorem bs_unpack {st : Stmt} {tg : Expr} {sl : List Nat} {we : WE} {g : WG} (mk : ∀ {te : TE} {t : TG}, PE X e te → PG X tg t → PS X st (tAsg te t)) (he : BE X E e we) (hg : BG X tg sl g) : BS X E st (wUnp we g) := by
  refine ⟨psI (mk he.pe hg.pg) fun D σ H ⟨c, ρ, W, gd, hw, h⟩ => ?_⟩
  refine ⟨c, ρ, _, W.ex, gd, hw, fun r ρ1 v H1 k1 g1 e1 p1 => ?_, h.exok⟩
  obtain ⟨d, ρ2, hf, k2⟩ := k1
  obtain ⟨g2, e2, r2⟩ := p1.fz g1 hf
  exact ⟨c, ρ2, d, _, g2, r2, k2, fun σ' ρ' a b d _ => h.nx _ _ _ a b ((e1.trans e2).trans d)⟩
/-! ### bit_length -/
def wBits (wa : WE) : WE := fun kx ρ k => wa kx ρ fun r ρ1 => ∃ i, r.get ρ1 = some (.int i) ∧ k (.val (.int (Builtin.Int.intBits i : Nat))) ρ1
theorem be_bits {o : Expr} {apos : Pos} (ho : BE X E o wa) (hbase : attributeBase o "bit_length" X.env (eval o X.env) = eval o X.env := by rfl) (hline : (apos.endLine == pos.line) = true := by rfl) : BE X E (.Call (.Attribute o "bit_length" apos) [] [] pos) (wBits wa) := by
  refine ⟨peI (pe_bits ho.pe hbase hline) fun σ H Q ⟨c, ρ, k, kx, gd, hw, hk, hx⟩ => ?_⟩
  refine ⟨c, ρ, _, kx, gd, hw, fun r ρ1 v H1 k1 g1 e1 p1 => ?_, hx⟩
  obtain ⟨i, hi, hk1⟩ := k1
  exact ⟨i, (p1.see g1 hi).int, hk _ _ _ _ hk1 g1 e1 rfl⟩
end
end LB

/-! LB, part 10: help for the walks over data. -/
namespace LB
open PySem PySem.Spec PyProof.Rows L2
/-- a test met -/
theorem itD {p : Prop} [i : Decidable p] {a b : Prop} (h1 : p → a) (h2 : ¬ p → b) : @ite Prop (@decide p i = true) (instDecidableEqBool _ _) a b := by
  by_cases h : p
  · rw [if_pos (decide_eq_true h)]; exact h1 h
  · rw [if_neg (fun z => h (of_decide_eq_true z))]; exact h2 h
theorem itB {c : Bool} {a b : Prop} (h1 : c = true → a) (h2 : c = false → b) : @ite Prop (c = true) (instDecidableEqBool _ _) a b := by
  cases c
  · exact h2 rfl
  · exact h1 rfl
theorem itT {c : Bool} {a b : Prop} (h : c = true) (h1 : a) : @ite Prop (c = true) (instDecidableEqBool _ _) a b := by rw [if_pos h]; exact h1
theorem itF {c : Bool} {a b : Prop} (h : c = false) (h1 : b) : @ite Prop (c = true) (instDecidableEqBool _ _) a b := by subst h; exact h1
/-- what is behind, shown once -/
theorem cut0 {u : WS} {W : WD} {ρ : List En} (P : List En → Prop) (h : ∀ ρ', P ρ' → u W ρ') (h0 : P ρ) : u W ρ := h _ h0
theorem cut1 {w u : WS} {W : WD} {ρ : List En} (P : List En → Prop) (h : ∀ ρ', P ρ' → u W ρ') (k : ∀ U : List En → Prop, (∀ ρ', P ρ' → U ρ') → w { W with nx := U } ρ) : wSeq w u W ρ := k (fun ρ' => u W ρ') h
theorem cut2 {w1 w u : WS} {W : WD} {ρ : List En} (P : List En → Prop) (h : ∀ ρ', P ρ' → u W ρ') (k : ∀ U : List En → Prop, (∀ ρ', P ρ' → U ρ') → wSeq w1 w { W with nx := U } ρ) : wSeq w1 (wSeq w u) W ρ := k (fun ρ' => u W ρ') h
theorem cut3 {w1 w2 w u : WS} {W : WD} {ρ : List En} (P : List En → Prop) (h : ∀ ρ', P ρ' → u W ρ') (k : ∀ U : List En → Prop, (∀ ρ', P ρ' → U ρ') → wSeq w1 (wSeq w2 w) { W with nx := U } ρ) : wSeq w1 (wSeq w2 (wSeq w u)) W ρ := k (fun ρ' => u W ρ') h
theorem cut4 {w1 w2 w3 w u : WS} {W : WD} {ρ : List En} (P : List En → Prop) (h : ∀ ρ', P ρ' → u W ρ') (k : ∀ U : List En → Prop, (∀ ρ', P ρ' → U ρ') → wSeq w1 (wSeq w2 (wSeq w3 w)) { W with nx := U } ρ) : wSeq w1 (wSeq w2 (wSeq w3 (wSeq w u))) W ρ := k (fun ρ' => u W ρ') h
theorem cut5 {w1 w2 w3 w4 w u : WS} {W : WD} {ρ : List En} (P : List En → Prop) (h : ∀ ρ', P ρ' → u W ρ') (k : ∀ U : List En → Prop, (∀ ρ', P ρ' → U ρ') → wSeq w1 (wSeq w2 (wSeq w3 (wSeq w4 w))) { W with nx := U } ρ) : wSeq w1 (wSeq w2 (wSeq w3 (wSeq w4 (wSeq w u)))) W ρ := k (fun ρ' => u W ρ') h
theorem cut6 {w1 w2 w3 w4 w5 w u : WS} {W : WD} {ρ : List En} (P : List En → Prop) (h : ∀ ρ', P ρ' → u W ρ') (k : ∀ U : List En → Prop, (∀ ρ', P ρ' → U ρ') → wSeq w1 (wSeq w2 (wSeq w3 (wSeq w4 (wSeq w5 w)))) { W with nx := U } ρ) : wSeq w1 (wSeq w2 (wSeq w3 (wSeq w4 (wSeq w5 (wSeq w u))))) W ρ := k (fun ρ' => u W ρ') h
/-! the names' state, put in order -/
theorem wr0o {d d0 : PyData} {l : Addr} {ρ : List En} : wr 0 d (.own l d0 :: ρ) = .own l d :: ρ := rfl
theorem wr0i {d d0 : PyData} {l : Addr} {ρ : List En} : wr 0 d (.io l d0 :: ρ) = .io l d :: ρ := rfl
theorem wrS {d : PyData} {e : En} {i : Nat} {ρ : List En} : wr (i + 1) d (e :: ρ) = e :: wr i d ρ := by
  unfold wr
  rw [List.getElem?_cons_succ]
  split <;> rfl
theorem wrs_n {os : List PyData} {ρ : List En} : wrs [] os ρ = ρ := by cases os <;> rfl
theorem wrs_c {i : Nat} {is : List Nat} {o : PyData} {os : List PyData} {ρ : List En} : wrs (i :: is) (o :: os) ρ = wrs is os (wr i o ρ) := rfl
theorem wipe_n {ρ : List En} : wipeR ρ [] = ρ := rfl
theorem wipe_c {ρ : List En} {v : Nat} {vs : List Nat} : wipeR ρ (v :: vs) = (wipeR ρ vs).set v .no := rfl
theorem rest_n {ρ ρ2 : List En} : restR ρ ρ2 [] = ρ2 := rfl
theorem rest_c {ρ ρ2 : List En} {v : Nat} {vs : List Nat} : restR ρ ρ2 (v :: vs) = (restR ρ ρ2 vs).set v (keepE ρ[v]?) := rfl
theorem keep_v {d : PyData} : keepE (some (.val d)) = .val d := rfl
theorem keep_n : keepE (some .no) = .no := rfl
theorem keep_o {v : V} : keepE (some (.obj v)) = .obj v := rfl
theorem keep_r {d : PyData} : keepE (some (.rd d)) = .no := rfl
theorem mk_v {ms : List Md} {x : PyData} {xs : List PyData} {ws : List Addr} : mkEn (.v :: ms) (x :: xs) ws = .val x :: mkEn ms xs ws := rfl
theorem mk_r {ms : List Md} {x : PyData} {xs : List PyData} {ws : List Addr} : mkEn (.r :: ms) (x :: xs) ws = .rd x :: mkEn ms xs ws := rfl
theorem mk_m {ms : List Md} {x : PyData} {xs : List PyData} {l : Addr} {ws : List Addr} : mkEn (.m :: ms) (x :: xs) (l :: ws) = .io l x :: mkEn ms xs ws := rfl
theorem mk_n {xs : List PyData} {ws : List Addr} : mkEn [] xs ws = [] := rfl
theorem LcP.at {vs : List Nat} {g : WG} {wt : WT} {we : WE} {s : Src} {ρ1 ρ0 : List En} {k : PyData → List En → Prop} (h : ρ1 = ρ0) (z : LcP vs g wt we s ρ0 k) : LcP vs g wt we s ρ1 k := by subst h; exact z
theorem ForP.at {g : WG} {wb : WS} {W : WD} {s : Src} {ρ1 ρ0 : List En} (h : ρ1 = ρ0) (z : ForP g wb W s ρ0) : ForP g wb W s ρ1 := by subst h; exact z
theorem WhP.at {t : WT} {wb : WS} {W : WD} {ρ1 ρ0 : List En} (h : ρ1 = ρ0) (z : WhP t wb W ρ0) : WhP t wb W ρ1 := by subst h; exact z
theorem wSeq.at {w u : WS} {W : WD} {ρ1 ρ0 : List En} (h : ρ1 = ρ0) (z : wSeq w u W ρ0) : wSeq w u W ρ1 := by subst h; exact z
/-- a comprehension that changes nothing: each member gives a list of none or one -/
theorem LcP.fix {vs : List Nat} {g : WG} {wt : WT} {we : WE} {s : Src} {ρ1 : List En} {k : PyData → List En → Prop} (hok : s.ok (wipeR ρ1 vs)) (f : PyData → List PyData) (hf : ∀ d, (f d).length ≤ 1) (hl : s.items.length ≤ sizeLine)
    (turn : ∀ (i : Nat) (d : PyData) (acc : List PyData) (Pn : List PyData → List En → Prop), s.items[i]? = some d → acc.length < sizeLine → Pn (acc ++ f d) (wipeR ρ1 vs) →
      g d (wipeR ρ1 vs) fun ρ3 => wt (fun _ _ => False) ρ3 fun b ρ4 => if b = true then we (fun _ _ => False) ρ4 fun r ρ5 => ∃ z ρ6, r.fz ρ5 = some (z, ρ6) ∧ acc.length < sizeLine ∧ Pn (acc ++ [z]) (wipeR ρ6 vs) else Pn acc (wipeR ρ4 vs))
    (done : k (.list (s.items.flatMap f)) (restR ρ1 (wipeR ρ1 vs) vs)) : LcP vs g wt we s ρ1 k := by
  refine ⟨fun i acc ρ => ρ = wipeR ρ1 vs ∧ acc = (s.items.take i).flatMap f, ⟨rfl, by simp⟩, fun i acc ρ2 _ ⟨e, _⟩ => by rw [e]; exact hok, fun i d acc ρ2 hd ⟨e1, e2⟩ => ?_, fun acc ρ2 ⟨e1, e2⟩ => ?_⟩
  · subst e1
    have hi : i < s.items.length := (List.getElem?_eq_some_iff.mp hd).1
    have le : ∀ l : List PyData, (l.flatMap f).length ≤ l.length := fun l => by
      induction l with
      | nil => simp
      | cons a l ih => rw [List.flatMap_cons, List.length_append, List.length_cons]; have := hf a; omega
    have hal : acc.length < sizeLine := by
      have h1 := le (s.items.take i)
      rw [← e2, List.length_take] at h1
      omega
    refine turn i d acc (fun a ρ => ρ = wipeR ρ1 vs ∧ a = (s.items.take (i + 1)).flatMap f) hd hal ⟨rfl, ?_⟩
    rw [List.take_succ, hd, e2]
    simp
  · subst e1
    rw [List.take_length] at e2
    subst e2
    exact done
theorem flat_map1 {α β : Type} (f : α → β) (l : List α) : l.flatMap (fun a => [f a]) = l.map f := by
  induction l with
  | nil => rfl
  | cons a l ih => rw [List.flatMap_cons, ih]; rfl
theorem flat_if {α β : Type} (p : α → Bool) (f : α → β) (l : List α) : l.flatMap (fun a => if p a = true then [f a] else []) = (l.filter p).map f := by
  induction l with
  | nil => rfl
  | cons a l ih =>
    rw [List.flatMap_cons, ih, List.filter_cons]
    split <;> simp

end LB
namespace LB
open PySem PySem.Spec PyProof.Rows L2
theorem as0 {as : List Addr} (h : as.length = 0) : as = [] := List.length_eq_zero_iff.mp h
theorem as1 {as : List Addr} (h : as.length = 1) : ∃ a, as = [a] := List.length_eq_one_iff.mp h
theorem as2 {as : List Addr} (h : as.length = 2) : ∃ a b, as = [a, b] := by match as, h with | [a, b], _ => exact ⟨a, b, rfl⟩
theorem as3 {as : List Addr} (h : as.length = 3) : ∃ a b c, as = [a, b, c] := by match as, h with | [a, b, c], _ => exact ⟨a, b, c, rfl⟩
theorem log2_lt {n k : Nat} (h : n < 2 ^ k) (hk : 0 < k) : n.log2 < k := by
  by_cases e : n = 0
  · subst e; exact hk
  · exact (Nat.log2_lt e).mpr h
theorem pow_pos' (k : Nat) : (0 : Int) < 1 * 2 ^ k := by
  rw [Int.one_mul]; exact Int.pow_pos (by decide)
theorem ixN_of {n j : Nat} (hj : j < n) : ixN n (j : Int) = some j := by
  unfold ixN
  rw [if_pos (by omega), if_pos (by omega)]; rfl
theorem src_row {row : PyData} {ys : List PyData} {ρ : List En} (h : row = .list ys ∨ row = .tuple ys) : srcOf (.val row) ρ = some (.fixed ys) := by
  rcases h with rfl | rfl <;> rfl
theorem rgD_mem {lo : Int} {n i : Nat} {d : PyData} (h : (rgD lo n)[i]? = some d) : i < n ∧ d = .int (lo + (i : Nat)) := by
  have hi : i < n := by
    have := (List.getElem?_eq_some_iff.mp h).1
    rwa [rgD_len] at this
  rw [rgD_get hi] at h
  cases h
  exact ⟨hi, rfl⟩
theorem LcP.fixed {vs : List Nat} {g : WG} {wt : WT} {we : WE} {ds : List PyData} {ρ1 : List En} {k : PyData → List En → Prop} (f : PyData → List PyData) (hf : ∀ d, (f d).length ≤ 1) (hl : ds.length ≤ sizeLine)
    (turn : ∀ (i : Nat) (d : PyData) (acc : List PyData) (Pn : List PyData → List En → Prop), ds[i]? = some d → acc.length < sizeLine → Pn (acc ++ f d) (wipeR ρ1 vs) →
      g d (wipeR ρ1 vs) fun ρ3 => wt (fun _ _ => False) ρ3 fun b ρ4 => if b = true then we (fun _ _ => False) ρ4 fun r ρ5 => ∃ z ρ6, r.fz ρ5 = some (z, ρ6) ∧ acc.length < sizeLine ∧ Pn (acc ++ [z]) (wipeR ρ6 vs) else Pn acc (wipeR ρ4 vs))
    (done : k (.list (ds.flatMap f)) (restR ρ1 (wipeR ρ1 vs) vs)) : LcP vs g wt we (.fixed ds) ρ1 k :=
  LcP.fix (s := .fixed ds) trivial f hf hl turn done
/-- .. that changes the names' state -/
theorem LcP.inv {vs : List Nat} {g : WG} {wt : WT} {we : WE} {ds : List PyData} {ρ1 : List En} {k : PyData → List En → Prop} (P : Nat → List PyData → List En → Prop) (h0 : P 0 [] (wipeR ρ1 vs))
    (turn : ∀ (i : Nat) (d : PyData) (acc : List PyData) (ρ2 : List En), ds[i]? = some d → P i acc ρ2 →
      g d ρ2 fun ρ3 => wt (fun _ _ => False) ρ3 fun b ρ4 => if b = true then we (fun _ _ => False) ρ4 fun r ρ5 => ∃ z ρ6, r.fz ρ5 = some (z, ρ6) ∧ acc.length < sizeLine ∧ P (i + 1) (acc ++ [z]) (wipeR ρ6 vs) else P (i + 1) acc (wipeR ρ4 vs))
    (done : ∀ acc ρ2, P ds.length acc ρ2 → k (.list acc) (restR ρ1 ρ2 vs)) : LcP vs g wt we (.fixed ds) ρ1 k :=
  ⟨P, h0, fun _ _ _ _ _ => trivial, turn, done⟩
theorem ForP.inv {g : WG} {wb : WS} {W : WD} {ds : List PyData} {ρ1 : List En} (P : Nat → List En → Prop) (h0 : P 0 ρ1)
    (turn : ∀ (i : Nat) (d : PyData) (ρ2 : List En), ds[i]? = some d → P i ρ2 → g d ρ2 fun ρ3 => wb { W with nx := P (i + 1), ct := P (i + 1), bk := W.nx } ρ3) (done : ∀ ρ2, P ds.length ρ2 → W.nx ρ2) : ForP g wb W (.fixed ds) ρ1 :=
  ⟨P, h0, fun _ _ _ _ => trivial, turn, done⟩
theorem shl_one {j : Int} (h0 : 0 ≤ j) (h : j ≤ 100000000) : CShl 1 j := ⟨h0, by
  have e : Builtin.Int.intBits 1 = 1 := by decide
  rw [e]; omega⟩
end LB

/-! LB, part 11: masks, plain. -/
namespace LB
open PySem PySem.Spec PyProof.Rows L2
def maskM (vs : List Nat) : Nat := (vs.map (2 ^ ·)).sum
def maskO (vs : List Nat) : Nat := vs.foldl (fun m v => m ||| 2 ^ v) 0
def natD (vs : List Nat) : List PyData := vs.map fun v => .int ((v : Nat) : Int)
theorem cast_pow2 (v : Nat) : ((2 ^ v : Nat) : Int) = 2 ^ v := by
  induction v with
  | zero => rfl
  | succ n ih => rw [Nat.pow_succ, Int.pow_succ, ← ih]; exact Int.natCast_mul _ _
theorem bitAnd_nat (a b : Nat) : Builtin.bitAnd (a : Int) (b : Int) = ((a &&& b : Nat) : Int) := by
  unfold Builtin.bitAnd
  rw [show decide ((0 : Int) ≤ (a : Int)) = true from decide_eq_true (by omega), show decide ((0 : Int) ≤ (b : Int)) = true from decide_eq_true (by omega)]
  rfl
theorem bitOr_nat (a b : Nat) : Builtin.bitOr (a : Int) (b : Int) = ((a ||| b : Nat) : Int) := by
  have bn : ∀ x : Nat, Builtin.bitNot ((x : Nat) : Int) = -((x : Nat) : Int) - 1 := fun x => by unfold Builtin.bitNot; omega
  unfold Builtin.bitOr Builtin.bitAnd
  rw [bn, bn, show decide ((0 : Int) ≤ (-((a : Nat) : Int) - 1)) = false from decide_eq_false (by omega), show decide ((0 : Int) ≤ (-((b : Nat) : Int) - 1)) = false from decide_eq_false (by omega)]
  have nn : ∀ x : Int, Builtin.bitNot (Builtin.bitNot x) = x := fun x => by unfold Builtin.bitNot; omega
  show Builtin.bitNot (Builtin.bitNot _) = _
  rw [nn, ← bn, ← bn, nn, nn]
  rfl
theorem bits_nat (m : Nat) : Builtin.Int.intBits (m : Int) = if m = 0 then 0 else m.log2 + 1 := by
  unfold Builtin.Int.intBits
  by_cases h : m = 0
  · subst h; rfl
  · rw [if_neg (by simp; omega), if_neg h]; rfl
theorem bits_le {m n : Nat} (h : m < 2 ^ n) : Builtin.Int.intBits (m : Int) ≤ n := by
  rw [bits_nat]
  split
  · omega
  · rename_i h0
    have := (Nat.log2_lt h0).mpr h
    omega
theorem add_or {v x : Nat} (h : x.testBit v = false) : 2 ^ v + x = 2 ^ v ||| x := by
  rw [Nat.testBit_eq_decide_div_mod_eq] at h
  have h1 : x / 2 ^ v % 2 = 0 := by
    have := of_decide_eq_false h
    omega
  have h2 : x % 2 ^ (v + 1) = x % 2 ^ v := by rw [Nat.mod_pow_succ, h1]; omega
  have hp : 0 < 2 ^ v := Nat.pow_pos (by omega)
  have h3 : x % 2 ^ v < 2 ^ v := Nat.mod_lt _ hp
  have h4 : x = 2 ^ (v + 1) * (x / 2 ^ (v + 1)) + x % 2 ^ v := by rw [← h2]; exact (Nat.div_add_mod x (2 ^ (v + 1))).symm
  have h5 : 2 ^ v * 1 + x % 2 ^ v = 2 ^ v * 1 ||| x % 2 ^ v := Nat.two_pow_add_eq_or_of_lt h3 1
  rw [Nat.mul_one] at h5
  have h6 : x % 2 ^ v < 2 ^ (v + 1) := by rw [Nat.pow_succ]; omega
  have h7 : 2 ^ v + x % 2 ^ v < 2 ^ (v + 1) := by rw [Nat.pow_succ]; omega
  have h8 := Nat.two_pow_add_eq_or_of_lt h6 (x / 2 ^ (v + 1))
  have h9 := Nat.two_pow_add_eq_or_of_lt h7 (x / 2 ^ (v + 1))
  calc 2 ^ v + x = 2 ^ (v + 1) * (x / 2 ^ (v + 1)) + (2 ^ v + x % 2 ^ v) := by omega
    _ = 2 ^ (v + 1) * (x / 2 ^ (v + 1)) ||| (2 ^ v ||| x % 2 ^ v) := by rw [h9, h5]
    _ = 2 ^ v ||| (2 ^ (v + 1) * (x / 2 ^ (v + 1)) ||| x % 2 ^ v) := by
      rw [← Nat.or_assoc, Nat.or_comm (2 ^ (v + 1) * (x / 2 ^ (v + 1))) (2 ^ v), Nat.or_assoc]
    _ = 2 ^ v ||| x := by rw [← h8, ← h4]
theorem maskM_cons (v : Nat) (vs : List Nat) : maskM (v :: vs) = 2 ^ v + maskM vs := by simp [maskM]
theorem test_maskM : ∀ {vs : List Nat} (_ : vs.Nodup) (i : Nat), (maskM vs).testBit i = decide (i ∈ vs)
  | [], _, i => by simp [maskM]
  | v :: vs, h, i => by
    obtain ⟨h1, h2⟩ := List.nodup_cons.mp h
    have c : (maskM vs).testBit v = false := by rw [test_maskM h2]; exact decide_eq_false h1
    rw [maskM_cons, add_or c, Nat.testBit_or, test_maskM h2, Nat.testBit_two_pow]
    by_cases e : i = v
    · subst e; simp
    · have : ¬ v = i := fun z => e z.symm
      simp [e, this]
theorem test_fold : ∀ (vs : List Nat) (m i : Nat), (vs.foldl (fun m v => m ||| 2 ^ v) m).testBit i = (m.testBit i || decide (i ∈ vs))
  | [], m, i => by simp
  | v :: vs, m, i => by
    rw [List.foldl_cons, test_fold vs, Nat.testBit_or, Nat.testBit_two_pow, Bool.or_assoc]
    congr 1
    by_cases e : v = i
    · subst e; simp
    · have : ¬ i = v := fun z => e z.symm
      simp [e, this]
theorem test_maskO (vs : List Nat) (i : Nat) : (maskO vs).testBit i = decide (i ∈ vs) := by
  unfold maskO; rw [test_fold]; simp
theorem maskO_eq {vs ws : List Nat} (h : vs.Nodup) (e : ∀ i, i ∈ ws ↔ i ∈ vs) : maskO ws = maskM vs :=
  Nat.eq_of_testBit_eq fun i => by rw [test_maskO, test_maskM h]; exact decide_eq_decide.mpr (e i)
theorem fold_lt {n : Nat} : ∀ {vs : List Nat} {m : Nat}, m < 2 ^ n → (∀ v ∈ vs, v < n) → vs.foldl (fun m v => m ||| 2 ^ v) m < 2 ^ n
  | [], m, h, _ => h
  | v :: vs, m, h, hv => by
    rw [List.foldl_cons]
    exact fold_lt (Nat.or_lt_two_pow h (Nat.pow_lt_pow_right (by omega) (hv v (by simp)))) fun w hw => hv w (List.mem_cons_of_mem _ hw)
theorem maskM_lt {n : Nat} {vs : List Nat} (h : vs.Nodup) (hv : ∀ v ∈ vs, v < n) : maskM vs < 2 ^ n := by
  rw [← maskO_eq h fun _ => Iff.rfl]
  exact fold_lt (Nat.pow_pos (by omega)) hv
/-- the members, ascending -/
def membersOf (m : Nat) : List Nat := (List.range (Builtin.Int.intBits (m : Int))).filter fun i => m.testBit i
abbrev Asc (l : List Nat) : Prop := l.Pairwise (· < ·)
theorem Asc.nodup {l : List Nat} (h : Asc l) : l.Nodup := List.Pairwise.imp (fun h => Nat.ne_of_lt h) h
theorem asc_ext : ∀ {a b : List Nat}, Asc a → Asc b → (∀ x, x ∈ a ↔ x ∈ b) → a = b
  | [], [], _, _, _ => rfl
  | [], b :: bs, _, _, h => absurd ((h b).mpr (by simp)) (by simp)
  | a :: as, [], _, _, h => absurd ((h a).mp (by simp)) (by simp)
  | a :: as, b :: bs, ha, hb, h => by
    obtain ⟨a1, a2⟩ := List.pairwise_cons.mp ha
    obtain ⟨b1, b2⟩ := List.pairwise_cons.mp hb
    have e : a = b := by
      have h1 := (h a).mp (by simp)
      have h2 := (h b).mpr (by simp)
      rcases List.mem_cons.mp h1 with q | q
      · exact q
      · rcases List.mem_cons.mp h2 with r | r
        · exact r.symm
        · have := a1 b r; have := b1 a q; omega
    subst e
    rw [asc_ext a2 b2 fun x => ?_]
    have hx := h x
    constructor
    · intro z
      rcases List.mem_cons.mp (hx.mp (List.mem_cons_of_mem _ z)) with q | q
      · have := a1 x z; omega
      · exact q
    · intro z
      rcases List.mem_cons.mp (hx.mpr (List.mem_cons_of_mem _ z)) with q | q
      · have := b1 x z; omega
      · exact q
theorem asc_range (n : Nat) : Asc (List.range n) := List.pairwise_lt_range
theorem asc_filter {l : List Nat} (h : Asc l) (p : Nat → Bool) : Asc (l.filter p) := List.Pairwise.filter p h
theorem test_lt {m i : Nat} (h : m.testBit i = true) : i < Builtin.Int.intBits (m : Int) := by
  have h1 := Nat.ge_two_pow_of_testBit h
  rw [bits_nat]
  have h0 : m ≠ 0 := by have : 0 < 2 ^ i := Nat.pow_pos (by omega); omega
  rw [if_neg h0]
  have := (Nat.le_log2 h0).mpr h1
  omega
theorem mem_membersOf {m i : Nat} : i ∈ membersOf m ↔ m.testBit i = true := by
  unfold membersOf
  rw [List.mem_filter, List.mem_range]
  exact ⟨fun h => h.2, fun h => ⟨test_lt h, h⟩⟩
theorem members_maskM {vs : List Nat} (h : Asc vs) : membersOf (maskM vs) = vs :=
  asc_ext (asc_filter (asc_range _) _) h fun x => by rw [mem_membersOf, test_maskM h.nodup]; simp
theorem maskM_range (n : Nat) : maskM (List.range n) = 2 ^ n - 1 :=
  Nat.eq_of_testBit_eq fun i => by rw [test_maskM (asc_range n).nodup, Nat.testBit_two_pow_sub_one]; exact decide_eq_decide.mpr List.mem_range
theorem asc_map_add {vs : List Nat} (h : Asc vs) (k : Nat) : Asc (vs.map (· + k)) := List.Pairwise.map _ (fun a b z => by omega) h
theorem maskM_shl {vs : List Nat} (h : Asc vs) (k : Nat) : maskM vs * 2 ^ k = maskM (vs.map (· + k)) :=
  Nat.eq_of_testBit_eq fun i => by
    rw [test_maskM (asc_map_add h k).nodup, Nat.testBit_mul_two_pow, test_maskM h.nodup]
    by_cases e : k ≤ i
    · simp only [e, decide_true, Bool.true_and, List.mem_map]
      apply decide_eq_decide.mpr
      exact ⟨fun z => ⟨i - k, z, by omega⟩, fun ⟨a, z, q⟩ => by rw [← q, Nat.add_sub_cancel]; exact z⟩
    · simp only [e, decide_false, Bool.false_and, List.mem_map]
      exact (decide_eq_false fun ⟨a, z, q⟩ => e (by omega)).symm
theorem maskM_shr {vs : List Nat} (h : Asc vs) (k : Nat) : maskM vs / 2 ^ k = maskM ((vs.filter (k ≤ ·)).map (· - k)) := by
  have ha : Asc ((vs.filter (k ≤ ·)).map (· - k)) := by
    have h1 : (vs.filter (k ≤ ·)).Pairwise fun a b => a < b ∧ k ≤ a := by
      refine (asc_filter h _).imp_of_mem ?_
      intro a b ha hb z
      exact ⟨z, by simpa using (List.mem_filter.mp ha).2⟩
    exact List.Pairwise.map _ (fun a b z => by omega) h1
  refine Nat.eq_of_testBit_eq fun i => ?_
  rw [test_maskM ha.nodup, Nat.testBit_div_two_pow, test_maskM h.nodup]
  apply decide_eq_decide.mpr
  rw [List.mem_map]
  constructor
  · intro z
    exact ⟨i + k, List.mem_filter.mpr ⟨z, by simp⟩, by omega⟩
  · rintro ⟨a, z, q⟩
    obtain ⟨z1, z2⟩ := List.mem_filter.mp z
    have : k ≤ a := by simpa using z2
    have : a = i + k := by omega
    rw [← this]; exact z1
theorem bit_test (m i : Nat) : PyData.eqv (.int (Builtin.bitAnd ((m : Int) / 2 ^ ((i : Nat) : Int).toNat) 1)) (.int 1) = m.testBit i := by
  rw [Int.toNat_natCast, ← cast_pow2, ← Int.natCast_ediv, show (1 : Int) = ((1 : Nat) : Int) from rfl, bitAnd_nat, Nat.testBit_eq_decide_div_mod_eq]
  have e : ∀ a b : Nat, PyData.eqv (.int ((a : Nat) : Int)) (.int ((b : Nat) : Int)) = decide (a = b) := fun a b => by
    simp only [PyData.eqv]
    by_cases h : a = b
    · subst h; simp
    · have : ¬ ((a : Nat) : Int) = (b : Nat) := by omega
      simp [h, this]
  rw [e, Nat.and_one_is_mod]
theorem map_erase {α β : Type} (f : α → β) : ∀ (l : List α) (j : Nat), (l.map f).eraseIdx j = (l.eraseIdx j).map f
  | [], j => by simp
  | a :: l, 0 => rfl
  | a :: l, j + 1 => by
    show f a :: (l.map f).eraseIdx j = f a :: (l.eraseIdx j).map f
    rw [map_erase f l j]
theorem natD_erase (l : List Nat) (j : Nat) : (natD l).eraseIdx j = natD (l.eraseIdx j) := map_erase _ l j
theorem perm_erase {α : Type} : ∀ {l : List α} {j : Nat} (h : j < l.length), (l[j] :: l.eraseIdx j).Perm l
  | [], j, h => absurd h (by simp)
  | a :: l, 0, h => .refl _
  | a :: l, j + 1, h => by
    show (l[j]'(by simpa using h) :: a :: l.eraseIdx j).Perm (a :: l)
    exact (List.Perm.swap _ _ _).trans (.cons a (perm_erase (by simpa using h)))
theorem natD_len (l : List Nat) : (natD l).length = l.length := List.length_map ..
theorem asc_len {l : List Nat} {n : Nat} (h : Asc l) (hv : ∀ v ∈ l, v ≤ n) : l.length ≤ n + 1 := by
  have key : ∀ (l : List Nat) (a : Nat), l.Pairwise (· < ·) → (∀ v ∈ l, a ≤ v ∧ v ≤ n) → a ≤ n + 1 → l.length + a ≤ n + 1 := fun l => by
    induction l with
    | nil => intro a _ _ h; simpa using h
    | cons x l ih =>
      intro a h hv _
      obtain ⟨h1, h2⟩ := List.pairwise_cons.mp h
      have hx := hv x (by simp)
      have := ih (x + 1) h2 (fun v hv' => ⟨h1 v hv', (hv v (List.mem_cons_of_mem _ hv')).2⟩) (by omega)
      simp only [List.length_cons]
      omega
  have := key l 0 h (fun v hm => ⟨Nat.zero_le _, hv v hm⟩) (by omega)
  omega
theorem natD_get {l : List Nat} {i : Nat} {d : PyData} (h : (natD l)[i]? = some d) : ∃ v, l[i]? = some v ∧ d = .int ((v : Nat) : Int) := by
  unfold natD at h
  rw [List.getElem?_map] at h
  obtain ⟨v, h1, h2⟩ := Option.map_eq_some_iff.mp h
  exact ⟨v, h1, h2.symm⟩
end LB

/-! LB, part 12: a law's head. -/
namespace LB
open PySem PySem.Spec PyProof.Rows L2
/-- _law_begin: a new list of the script's cells and three numbers -/
def spBegin (K : PySem.W.Frag) : Sp := fun vs H Q _ => ∃ (a : Addr) (ns : List Int), vs = [.ref a] ∧ SqL K H a (ns.map V.int) ∧ ns.length ≤ 63 ∧
  ∀ (p q : Addr) (H' : Hp), H p = none → H q = none → p ≠ q → Sm H H' → (∀ a, H' a = none → H a = none) → H' p = some (.lst [.ref q, .int 0, .int 0, .int 7]) → H' q = some (.lst (ns.map V.int)) → Q (.ref p) H'
/-- law's: a list of at most 63 ints is handed in, True comes out -/
def spLaw (K : PySem.W.Frag) : Sp := fun vs H Q _ => ∃ (a : Addr) (ns : List Int), vs = [.ref a] ∧ SqL K H a (ns.map V.int) ∧ ns.length ≤ 63 ∧ ∀ H', Q (.bl true) H'
/-- what a law's body is to reach -/
def wdL : WD where
  nx := fun _ => False
  rt := fun r _ => r = .val (.bool true)
  rn := fun _ _ => False
  bk := fun _ => False
  ct := fun _ => False
  ex := fun _ _ => False
theorem Gd.first {K : PySem.W.Frag} {H : Hp} {v : V} {n : Nat} : Gd K ⟨No, No, H⟩ (some v :: List.replicate n none) H (.obj v :: List.replicate n .no) := by
  have q : ∀ {i : Nat} {e : En}, (En.obj v :: List.replicate n En.no)[i]? = some e → (i = 0 ∧ e = .obj v) ∨ e = .no := fun {i e} z => by
    cases i with
    | zero => cases z; exact .inl ⟨rfl, rfl⟩
    | succ i =>
      rw [List.getElem?_cons_succ, List.getElem?_replicate] at z
      split at z
      · cases z; exact .inr rfl
      · cases z
  refine ⟨by simp, fun i d z => ?_, fun i d z => ?_, fun i l d z => ?_, fun i l d z => ?_, fun i u z => ?_, fun i j l d e z _ => ?_, fun i j l d e z _ => ?_, fun _ _ h _ => h, fun _ z => z, fun _ z => z.elim, fun i v p x z => ?_⟩
  · rcases q z with ⟨_, y⟩ | y <;> cases y
  · rcases q z with ⟨_, y⟩ | y <;> cases y
  · rcases q z with ⟨_, y⟩ | y <;> cases y
  · rcases q z with ⟨_, y⟩ | y <;> cases y
  · rcases q z with ⟨rfl, y⟩ | y
    · cases y; rfl
    · cases y
  · rcases q z with ⟨_, y⟩ | y <;> cases y
  · rcases q z with ⟨_, y⟩ | y <;> cases y
  · rcases q z with ⟨_, y⟩ | y <;> cases y
/-- the state of the draws, at the start -/
def draw0 (ns : List Int) : PyData := .list [.list (ns.map .int), .int 0, .int 0, .int 7]
theorem rep_ints {K : PySem.W.Frag} {M : Ow} {H : Hp} : ∀ ns : List Int, RepAll K M H (ns.map .int) (ns.map V.int)
  | [] => rfl
  | i :: ns => ⟨_, _, rfl, rfl, rep_ints ns⟩
theorem law_read {K : PySem.W.Frag} {X : Cx} (hK : X.K = K) {E : EK} {wl : WS} {n : Nat} {H : Hp} {vs : List V} {Q : VK} {E1 : XK} (h : spLaw K vs H Q E1)
    (hw : ∀ (v : V) (p : Addr) (ns : List Int), ns.length ≤ 63 → wl wdL (.obj v :: .own p (draw0 ns) :: List.replicate n .no)) :
    ∃ v, (vs = [v]) ∧ spBegin K [v] H (fun x H1 => lS X E wl { nx := fun _ H' => Q .non H', rt := Q } (some v :: some x :: List.replicate n none) H1) (fun _ _ _ => False) := by
  subst hK
  obtain ⟨a, ns, rfl, hS, hl, hq⟩ := h
  refine ⟨_, rfl, a, ns, rfl, hS, hl, fun p q H' hp hq0 ne sm th h1 h2 => ?_⟩
  have g0 : Gd X.K ⟨No, No, H⟩ (some (.ref a) :: List.replicate (n + 1) none) H (.obj (.ref a) :: List.replicate (n + 1) .no) := Gd.first
  have g1 := g0.more hp sm (by rw [h1]; intro z; cases z)
  have at1 : At X.K (Mof ((⟨No, No, H⟩ : Ct).more p) (.obj (.ref a) :: List.replicate (n + 1) .no)) H' p (draw0 ns) := by
    refine ⟨_, h1, _, _, rfl, ⟨q, _, rfl, ⟨h2, ?_⟩, rep_ints ns⟩, _, _, rfl, rfl, _, _, rfl, rfl, _, _, rfl, rfl, rfl⟩
    rintro ((z | z) | ⟨i, d, z⟩)
    · exact z
    · exact ne z.symm
    · cases i with
      | zero => cases z
      | succ i =>
        rw [List.getElem?_cons_succ, List.getElem?_replicate] at z
        split at z <;> cases z
  have g2 := g1.setOwn (c := ⟨No, No, H⟩) (fun _ z => z) (fun i d z => by
    cases i with
    | zero => cases z
    | succ i =>
      rw [List.getElem?_cons_succ, List.getElem?_replicate] at z
      split at z <;> cases z) 1 at1 (fun z => z) hp
  refine ⟨_, _, wdL, g2, hw _ _ _ hl, ⟨fun _ _ _ z _ _ => z.elim, fun r σ' ρ' v H2 z _ _ rp => ?_, fun _ _ _ _ _ z _ _ _ _ _ _ => z.elim, fun _ _ _ z _ _ => z.elim, fun _ _ _ z _ _ => z.elim, fun _ _ _ _ _ _ z _ _ _ => z.elim⟩⟩
  have z : r = .val (.bool true) := z
  subst z
  have rp : v = .bl true := rp
  subst rp
  exact hq _
end LB
namespace LB
open PySem PySem.Spec PyProof.Rows L2
theorem fn_never {P : Program} {w : World} {K : PySem.W.Frag} {mg : Str → Option Value} {base : Heap} {CX : CXT} {k : Nat} {f : Addr} {fd : FuncData} {ps : List Str} {sp : Sp} (h : ∀ vs H Q E, ¬ sp vs H Q E) : FnOk P w K mg base CX k f fd ps sp :=
  ⟨fun vs H Q E q => (h _ _ _ _ q).elim, fun _ _ _ _ _ _ _ _ _ _ _ _ _ q => (h _ _ _ _ q).elim⟩
theorem spV_never {K : PySem.W.Frag} {ms : List Md} {S : Spc} (h : ∀ xs k kx, ¬ S xs k kx) : ∀ vs H Q E, ¬ spV K ms S vs H Q E := fun vs H Q E ⟨_, _, _, _, _, _, _, _, hS, _⟩ => h _ _ _ hS
theorem spN_never {K : PySem.W.Frag} {ms : List Md} {S : Spc} (h : ∀ xs k kx, ¬ S xs k kx) : ∀ vs H Q E, ¬ spN K ms S vs H Q E := fun vs H Q E ⟨_, _, _, _, _, _, _, _, hS, _⟩ => h _ _ _ hS
theorem begin_cut {ns : List Int} (h : ns.length ≤ 63) : cutV (ns.map V.int) none (some 63) = ns.map V.int := by
  unfold cutV
  refine cut_whole ⟨rfl, ?_⟩
  have := HT.sIx_nat (ns.map V.int).length (ns.map V.int).length 63
  rw [List.length_map] at this ⊢
  rw [show (some 63 : Option Int) = some ((63 : Nat) : Int) from rfl, this]
  omega
end LB

/-! LB, part 13: more operators and methods. -/
namespace LB
open PySem PySem.Spec PyProof.Rows L2
section
variable {X : Cx}
/-- x is True, x is None -/
def gIsA : G2
  | d, .none, k => k (.bool (isNoneD d))
  | .bool a, .bool b, k => k (.bool (decide (a = b)))
  | _, _, _ => False
def gNotA : G2
  | d, .none, k => k (.bool (!isNoneD d))
  | .bool a, .bool b, k => k (.bool (!decide (a = b)))
  | _, _, _ => False
theorem od_isA : OpD X (compareOp .Is) gIsA := by
  obtain ⟨r, h1, h2⟩ := od_isN (X := X)
  refine ⟨_, h1.or op_isBl, fun M H x y d e k Q th sx sy hg hq => ?_⟩
  cases e with
  | none => exact .inl (h2 M H x y d .none k Q th sx sy (by unfold gIsA at hg; exact hg) hq)
  | bool b => cases d with
    | bool a => exact .inr ⟨a, b, sx.bl, sy.bl, hq _ _ _ (show k (.bool (decide (a = b))) from hg) (fun _ _ z => z) rfl⟩
    | _ => exact (show False from hg).elim
  | _ => cases d <;> exact (show False from hg).elim
theorem od_notA : OpD X (compareOp .IsNot) gNotA := by
  obtain ⟨r, h1, h2⟩ := od_notN (X := X)
  refine ⟨_, h1.or op_notBl, fun M H x y d e k Q th sx sy hg hq => ?_⟩
  cases e with
  | none => exact .inl (h2 M H x y d .none k Q th sx sy (by unfold gNotA at hg; exact hg) hq)
  | bool b => cases d with
    | bool a => exact .inr ⟨a, b, sx.bl, sy.bl, hq _ _ _ (show k (.bool (!decide (a = b))) from hg) (fun _ _ z => z) rfl⟩
    | _ => exact (show False from hg).elim
  | _ => cases d <;> exact (show False from hg).elim
/-- xs.remove(i) of a list of ints -/
def gRemove : GW := fun d ys k => ∃ (ns : List Int) (i : Int) (j : Nat), d = .list (ns.map .int) ∧ ys = [.int i] ∧ ns[j]? = some i ∧ (∀ m : Nat, m < j → ns[m]? ≠ some i) ∧ k .none (.list ((ns.eraseIdx j).map .int))
theorem mw_remove : MtW X "list.remove" gRemove := by
  refine ⟨_, mt_remove, fun M H l d vs ds k Q m th a ra hg hq => ?_⟩
  obtain ⟨ns, i, j, rfl, rfl, hj, hno, hk⟩ := hg
  obtain ⟨us, h1, h2⟩ := a
  obtain ⟨v0, vs', rfl, r1, r2⟩ := ra
  cases (show vs' = [] from r2)
  cases (show v0 = _ from r1)
  have e := h2.intsV
  subst e
  exact ⟨l, ns, i, j, rfl, rfl, h1, hj, hno, hq _ _ _ _ hk ⟨_, upd_same, rep_ints _⟩ rfl⟩
end
end LB
namespace LB
open PySem PySem.Spec PyProof.Rows L2
theorem map_get {α : Type} {f : α → PyData} {l : List α} {i : Nat} {d : PyData} (h : (l.map f)[i]? = some d) : ∃ a, l[i]? = some a ∧ d = f a := by
  rw [List.getElem?_map] at h
  obtain ⟨v, h1, h2⟩ := Option.map_eq_some_iff.mp h
  exact ⟨v, h1, h2.symm⟩
theorem natD_at {l : List Nat} {j v : Nat} (h : l[j]? = some v) : atI (natD l) ((j : Nat) : Int) = some (.int ((v : Nat) : Int)) :=
  atI_nat (by unfold natD; rw [List.getElem?_map, h]; rfl)
theorem eqv_nat (a b : Nat) : PyData.eqv (.int ((a : Nat) : Int)) (.int ((b : Nat) : Int)) = decide (a = b) := by
  simp only [PyData.eqv]
  by_cases h : a = b
  · subst h; simp
  · have : ¬ ((a : Nat) : Int) = (b : Nat) := by omega
    simp [h, this]
theorem eqv_int (a b : Int) : PyData.eqv (.int a) (.int b) = decide (a = b) := by
  simp only [PyData.eqv]
  by_cases h : a = b
  · subst h; simp
  · simp [h]
theorem bit_test0 (m i : Nat) : PyData.eqv (.int (Builtin.bitAnd ((m : Int) / 2 ^ ((i : Nat) : Int).toNat) 1)) (.int 0) = !m.testBit i := by
  rw [Int.toNat_natCast, ← cast_pow2, ← Int.natCast_ediv, show (1 : Int) = ((1 : Nat) : Int) from rfl, bitAnd_nat, show (0 : Int) = ((0 : Nat) : Int) from rfl, eqv_nat, Nat.testBit_eq_decide_div_mod_eq, Nat.and_one_is_mod]
  have : m / 2 ^ i % 2 < 2 := Nat.mod_lt _ (by omega)
  by_cases h : m / 2 ^ i % 2 = 0
  · simp [h]
  · have : m / 2 ^ i % 2 = 1 := by omega
    simp [this]
end LB
namespace LB
open PySem PySem.Spec PyProof.Rows L2
theorem asc_full {l : List Nat} {n : Nat} (h : Asc l) (hv : ∀ v ∈ l, v ≤ n) (hl : n < l.length) : ∀ x, x ≤ n → x ∈ l := fun x hx => by
  refine Classical.byContradiction fun z => ?_
  have key : ∀ (l : List Nat) (a : Nat), l.Pairwise (· < ·) → (∀ v ∈ l, a ≤ v ∧ v ≤ n ∧ v ≠ x) → a ≤ n + 1 → l.length + a + (if a ≤ x then 1 else 0) ≤ n + 1 := fun l => by
    induction l with
    | nil => intro a _ _ ha; simp only [List.length_nil]; split <;> omega
    | cons y l ih =>
      intro a h hv _
      obtain ⟨h1, h2⟩ := List.pairwise_cons.mp h
      have hy := hv y (by simp)
      have := ih (y + 1) h2 (fun v hv' => ⟨h1 v hv', (hv v (List.mem_cons_of_mem _ hv')).2⟩) (by omega)
      simp only [List.length_cons]
      split at this <;> split <;> omega
  have := key l 0 h (fun v hm => ⟨Nat.zero_le _, hv v hm, fun q => z (q ▸ hm)⟩) (by omega)
  rw [if_pos (Nat.zero_le _)] at this
  omega
theorem first_of {l : List Nat} {x : Nat} (h : x ∈ l) : ∃ j, j < l.length ∧ l[j]? = some x ∧ ∀ m, m < j → l[m]? ≠ some x := by
  induction l with
  | nil => cases h
  | cons y l ih =>
    by_cases e : y = x
    · subst e; exact ⟨0, by simp, rfl, fun m hm => by omega⟩
    · rcases List.mem_cons.mp h with q | q
      · exact absurd q.symm e
      · obtain ⟨j, h1, h2, h3⟩ := ih q
        refine ⟨j + 1, by simpa using h1, by simpa using h2, fun m hm => ?_⟩
        cases m with
        | zero => simpa using e
        | succ m => simpa using h3 m (by omega)
theorem mem_erase_ne {α : Type} : ∀ {l : List α} {j j' : Nat} {x : α} (h : j' < l.length) (_ : l[j'] = x) (_ : j' ≠ j), x ∈ l.eraseIdx j
  | [], _, _, _, h, _, _ => absurd h (by simp)
  | y :: l, 0, 0, x, _, _, n => absurd rfl n
  | y :: l, 0, j' + 1, x, h, e, _ => by
    show x ∈ l
    rw [← e]; exact List.getElem_mem _
  | y :: l, j + 1, 0, x, h, e, _ => by
    show x ∈ y :: l.eraseIdx j
    rw [← e]; exact List.mem_cons_self
  | y :: l, j + 1, j' + 1, x, h, e, n => by
    show x ∈ y :: l.eraseIdx j
    exact List.mem_cons_of_mem _ (mem_erase_ne (l := l) (j' := j') (by simpa using h) (by simpa using e) (by omega))
end LB
namespace LB
open PySem PySem.Spec PyProof.Rows L2
theorem list_all_congr {α : Type} {l : List α} {p q : α → Bool} (h : ∀ a ∈ l, p a = q a) : l.all p = l.all q := by
  induction l with
  | nil => rfl
  | cons a l ih => rw [List.all_cons, List.all_cons, h a (by simp), ih fun b hb => h b (List.mem_cons_of_mem _ hb)]
end LB
namespace LB
open PySem PySem.Spec PyProof.Rows L2
/-- tests that change nothing, joined -/
theorem wOr_pure {w u : WT} {kx : KX} {ρ : List En} {k : Bool → List En → Prop} (b1 b2 : Bool) (h1 : ∀ K : Bool → List En → Prop, K b1 ρ → w kx ρ K) (h2 : ∀ K : Bool → List En → Prop, K b2 ρ → u kx ρ K) (h : k (b1 || b2) ρ) : wOr w u kx ρ k := by
  refine h1 _ ?_
  cases b1
  · exact h2 _ h
  · exact h
theorem wAnd_pure {w u : WT} {kx : KX} {ρ : List En} {k : Bool → List En → Prop} (b1 b2 : Bool) (h1 : ∀ K : Bool → List En → Prop, K b1 ρ → w kx ρ K) (h2 : ∀ K : Bool → List En → Prop, K b2 ρ → u kx ρ K) (h : k (b1 && b2) ρ) : wAnd w u kx ρ k := by
  refine h1 _ ?_
  cases b1
  · exact h
  · exact h2 _ h
end LB

/-! LB, part 14: own exceptions whose __init__ says super().__init__(text) and stores a field. -/
namespace LB
open PySem PySem.Spec PyProof.Rows L2
abbrev veI : String := "ValueError.__init__"
section
variable {X : Cx} {pins : List (Addr × Obj)} {σ : L2.St} {H : Hp} {A : Around} {EX : Value → Shared → Prop} {aE cE uM : Addr}
/-- the wrapper that super().__init__ is: called, the instance stays an exception without fields -/
theorem mw_run {sh : Shared} {us : List Value} {Q : Value → Shared → Prop} (T : OexC X.K cE) (I : Inv X pins σ H sh) (hE : H aE = some (exo aE cE none)) (hM : sh.heap.get? uM = some (PySem.W.kxs_mw veI aE)) (hus : us.length ≤ sizeLine)
    (hQ : ∀ s', Inv X pins σ H s' → Q .none s') : wpAny (model X.prog X.w) A (call (.ref uM) us) Q EX sh := by
  obtain ⟨nmC, qC, nsC, bsC, bmC, snC, sbC, abC, coC, ddC, x0, x1, x2, x3, x5, hcls, hbm⟩ := T.cls
  obtain ⟨tE, hob⟩ := exo_at I.hok hE
  obtain ⟨hp, gs, dr, tk, os⟩ := sh
  have bnd : Value.type "method-wrapper" == Value.type "method" || Value.type "method-wrapper" == Value.type "builtin_function_or_method" || Value.type "method-wrapper" == Value.type "method-wrapper" := by decide
  have step : ∀ (h' : Heap) (t2 : Addr), (∀ b o, b ≠ aE → hp.get? b = some o → h'.get? b = some o) → h'.get? aE = some (PySem.HandSPX.excO cE t2) → Q .none ⟨h', gs, dr, tk, os⟩ := fun h' t2 kp hx => by
    have J := I.write (t' := tk) (x := aE) (e := aE) (o := exo aE cE none) (by rw [hE]; exact True.intro) (.inl rfl) kp ⟨_, hx⟩ (exo_ok hx)
    have same : upd H aE (exo aE cE none) = H := funext fun b => by
      by_cases q : b = aE
      · subst q; rw [upd_same, hE]
      · rw [upd_ne q]
    rw [same] at J
    exact hQ _ J
  refine wpAny_call (codeAny_of_tree (show wpAny _ A.in1 (callAny (.ref uM) ⟨us, []⟩) _ _ _ from ?_))
  unfold callAny
  refine wpAny_bind (wpAny_load (o := PySem.W.kxs_mw veI aE) hM ?_)
  dsimp only [PySem.W.kxs_mw]
  rw [if_pos (show _ = true from bnd)]
  refine PySem.W.KFB.if_so (by decide) (wpAny_bind ?_)
  refine PySem.W.check_bound_init F.excBase_ValueError.toExcCallFacts (I.kIn _ _ hcls) hob rfl ?_
  refine wpAny_pure ⟨plainId_quiet F.excBase_ValueError.init.plain _, ?_⟩
  refine codeAny_builtin F.excBase_ValueError.initEntry ?_
  refine PySem.W.exc_init_tree (cls := .ref cE) (t0 := tE) (dv := none) (c2 := .none) (c3 := .none) (b4 := .bool false) hob hus ?_
  exact fun h' kp hx _ => step h' _ kp hx
/-- what stands behind a def of a class that says super() -/
structure SupAt (K : PySem.W.Frag) (prog : Program) (fE cdE ccE dE : Addr) (fd : FuncData) : Prop where
  fn : ∃ oc od sl, K.lookup fE = some ⟨oc, od, .func fd, sl⟩
  code : ∃ cl od sl vs file tf, K.lookup cdE = some ⟨cl, od, .fields vs, sl⟩ ∧ vs[2]? = some (.str file tf) ∧ ((prog.main.file : Str) == file) = true
  cell : ∃ cl od sl, K.lookup ccE = some ⟨cl, od, .cell (some (.ref dE)), sl⟩
  top : (prog.main.scope.names.lookup ("super" : Str)).isSome = false
  noany : PySem.W.nsIn K cStatics "thirdparty.any" = some none
  up : PySem.W.ks_superIn K dE dE "__init__" = some (some (.builtin veI))
  sub : PySem.W.mroIn K dE (.ref dE) = some true
  ve : PySem.W.subIn K (.ref dE) (.type "ValueError") = some true
/-- super().__init__(e) in dE's own __init__ -/
theorem sup_init {body : List Stmt} {e0 : Expr} {te : TE} {p0 p1 p2 p3 : Pos} {fE cdE ccE : Addr} {fd : FuncData} {ar : Arg} {sh : Shared} {pl : Sem Bool} {Q : Value → Shared → Prop} (T : OexC X.K cE) (S : SupAt X.K X.prog fE cdE ccE cE fd) (hpar : (fd.params.posonlyargs ++ fd.params.args).head? = some ar)
    (hfun : X.env.func = some fE) (hcod : X.env.code = .ref cdE) (hcel : X.env.cells.lookup ("__class__" : Str) = some ccE) (k1 : X.env.scope.names.lookup ("super" : Str) = some .globalImplicit) (k2 : X.env.scope.names.lookup ("__class__" : Str) = some .free) (k3 : X.env.scope.names.lookup ar.arg = some .local)
    (hm : X.mg "super" = none) (n0 : X.N[0]? = some ar.arg) (s0 : σ[0]? = some (some (.ref aE))) (I : Inv X [] σ H sh) (hE : H aE = some (exo aE cE none)) (he : PE X e0 te) (hte : ∀ R : V → Hp → Prop, (∀ z, R z H) → te σ H R) (hst : starEach [e0] X.env = (false, eval e0 X.env) :: starEach [] X.env)
    (hcall : eval (.Call (.Attribute (.Call (.Name "super" p0) [] [] p1) "__init__" p2) [e0] [] p3) X.env = (do
      let ov ← attributeBase (.Call (.Name "super" p0) [] [] p1) "__init__" X.env (eval (.Call (.Name "super" p0) [] [] p1) X.env)
      standAt p2.atName
      let (f, first) ← holding [ov] (getMethod ov "__init__" pl)
      callWith p3 f first (backTo p3 (starEach [e0] X.env)) []))
    (hQ : ∀ s', Inv X [] σ H s' → Q .none s') :
    PySem.wpAt (model X.prog X.w) X.A (.func body X.env) (eval (.Call (.Attribute (.Call (.Name "super" p0) [] [] p1) "__init__" p2) [e0] [] p3) X.env) Q X.xe sh := by
  obtain ⟨nmC, qC, nsC, bsC, bmC, snC, sbC, abC, coC, ddC, x0, x1, x2, x3, x5, hcls, hbm⟩ := T.cls
  have hcl : PySem.W.clsIn X.K cE = some { name := nmC, bases := bsC, mro := .ref cE :: bmC, ns := nsC, qualname := qC, hasDict := true, slotNames := snC, subclasses := sbC, abstract := abC, collection := coC, hasDel := false } := by unfold PySem.W.clsIn; rw [hcls] <;> rfl
  obtain ⟨oc, od, sl, hfn⟩ := S.fn
  obtain ⟨cl2, od2, sl2, vs2, file, tf, hcd, hv2, hfile⟩ := S.code
  obtain ⟨cl3, od3, sl3, hcc⟩ := S.cell
  obtain ⟨mb, hmb, hboot⟩ := I.ok.mod.blt
  obtain ⟨m, hns, hloc⟩ := I.loc
  obtain ⟨u0, hu0, hlook⟩ := hloc 0 _ _ n0 s0 (.inl k3)
  have hu0 : u0 = Value.ref aE := hu0
  subst hu0
  have hself : m ar.arg = some (.ref aE) := by
    rcases hlook with q | q
    · exact q.2
    · have k4 : X.env.kindOf ar.arg = some .local := k3
      rcases q.1 with z | z <;> rw [k4] at z <;> cases z
  obtain ⟨tE, hob⟩ := exo_at I.hok hE
  have KI := I.kIn
  obtain ⟨hp, gs, dr, tk, os⟩ := sh
  refine PySem.ks_wpAt_MethodCall (pl := pl) ?_ hcall
  refine PySem.ks_wpAt_super_base k1 k2 (by decide) hfun (KI _ _ hfn) rfl hpar hcod (KI _ _ hcd) rfl hv2 hfile S.top ?_
  have boot : bootBuiltins "super" = some (Value.type "super") := by first | rfl | decide +kernel
  refine PySem.W.ks_loadName_global I.ok.kind k1 (PySem.Calls.loadGlobal_builtin (I.ok.glob ▸ I.ok.mod.glob.keeps I.bk) hm (I.ok.blt ▸ hmb.keeps I.bk) ((hboot _ (by decide +kernel)).trans boot) ⟨rfl, ?_⟩)
  refine wpAny_loadName_free I.ok.kind k2 hcel ⟨_, KI _ _ hcc, rfl⟩ ?_
  refine wpAny_loadName_local I.ok.kind k3 hns hself ?_
  have hD := KI _ _ hcls
  have hDd : (excClassObj nmC qC cE nsC bsC bmC true snC sbC abC coC ddC x0 x1 x2 x3 x5 "ValueError.__new__").data = .cls { name := nmC, bases := bsC, mro := .ref cE :: bmC, ns := nsC, qualname := qC, hasDict := true, slotNames := snC, subclasses := sbC, abstract := abC, collection := coC, hasDel := false } := rfl
  refine PySem.ks_wpAny_isType_cls hD hDd ⟨rfl, ?_⟩
  refine PySem.ks_wpAny_call_super hD hDd hob rfl (fun c z => by cases z) (PySem.W.looks_mroIn KI S.sub) fun h1 hso kp => ?_
  have I1 : Inv X [] σ H ⟨h1, gs, dr, tk, os⟩ := I.kept (t' := tk) kp
  have inst : PySem.W.InstAt h1 aE _ cE none := ⟨kp _ _ hob, rfl, rfl, trivial⟩
  have KI1 := I1.kIn
  have hup := S.up
  unfold PySem.W.ks_superIn at hup
  rw [hcl] at hup
  refine PySem.W.kxs_getMethod PySem.W.kxs_ValueError hso (PySem.W.looks_opaque KI1 S.noany) ((PySem.W.looks_clsIn KI1 hcl).andThen .now) rfl KI1 hup (inst.type.andThen (PySem.W.looks_subIn KI1 S.ve)) (PySem.W.ks_ne KI1 inst hcl) (by decide) ?_
  have I2 : Inv X [] σ H ⟨h1.push (PySem.W.kxs_mw veI aE), gs, dr, tk + 1, os⟩ := I1.kept (t' := tk + 1) fun b o z => Heap.get?_push_of_some _ z
  have hmw : (h1.push (PySem.W.kxs_mw veI aE)).get? h1.objs.size = some (PySem.W.kxs_mw veI aE) := Heap.get?_push_at rfl rfl
  have hn : H h1.objs.size = none := I1.hok.fresh (Nat.le_refl _)
  have I3 : Inv X [(h1.objs.size, PySem.W.kxs_mw veI aE)] σ H ⟨h1.push (PySem.W.kxs_mw veI aE), gs, dr, tk + 1, os⟩ := I2.pins_of fun p hp => by
    simp only [List.mem_singleton] at hp
    subst hp
    exact ⟨hmw, hn, fun z => absurd I1.lt (by rw [← z]; exact Nat.lt_irrefl _), I1.nofs (Nat.le_refl _), fun v z => by cases z⟩
  refine PySem.W.kxs_callWith (i := veI) (x := aE) (by rw [hst]; rfl) ?_
  have R := (pa_cons he pa_nil hst).run p3 _ _ σ H (fun vs H1 => H1 = H ∧ vs.length = 1) I3 (hte _ fun z => ⟨rfl, rfl⟩)
  rw [hst] at R ⊢
  refine PySem.Calls.evalArgs_plain (thn R fun us s1 ⟨vs, H1, I4, rv, e1, hl⟩ => ?_)
  subst e1
  have hat := (I4.pin (h1.objs.size, PySem.W.kxs_mw veI aE) (List.mem_append_right _ List.mem_cons_self)).1
  have hlen : us.length ≤ sizeLine := by
    rw [← Paired.length rv, hl]
    exact Nat.le_of_ble_eq_true rfl
  exact ⟨hat, mw_run T I4 hE hat hlen fun s' J => hQ s' (J.pins_of fun p hp => by cases hp)⟩
end
/-- self, y: the field is stored -/
def spSI (cE : Addr) (fld : Str) : Sp := fun vs H Q _ => ∃ (a : Addr) (y : V), vs = [.ref a, y] ∧ H a = some (exo a cE none) ∧ ∀ dx, H dx = none → dx ≠ a → Q .non (upd (upd H dx (exd dx [(fld, y)])) a (exo a cE (some dx)))
abbrev sinitB (p0 p1 p2 p3 p4 p5 p6 p7 p8 pc : Pos) (j0 : Nat) (tx fld xn : Str) : List Stmt := [.Expr (.Call (.Attribute (.Call (.Name "super" p0) [] [] p1) "__init__" p2) [.Constant (.str tx) j0 pc] [] p3) p4, .Assign [.Attribute (.Name "self" p5) fld p6] (.Name xn p7) p8]
/-- def __init__(self, x): super().__init__('..'); self.f = x -/
theorem fn_sinit {P : Program} {w : World} {K : PySem.W.Frag} {mg : Str → Option Value} {base : Heap} {CX : CXT} {k : Nat} {fE cE cdE ccE : Addr} {name qual fld xn tx : Str} {params : Arguments} {scope : Scope} {dV kV doc pm ct oc : Value} {an od : Option Addr} {osl : Array (Option Value)} {ar : Arg}
    {p0 p1 p2 p3 p4 p5 p6 p7 p8 pc : Pos} {j0 : Nat} (lk : K.lookup fE = some ⟨oc, od, .func (PySem.W.ksFn name qual params (sinitB p0 p1 p2 p3 p4 p5 p6 p7 p8 pc j0 tx fld xn) scope dV kV doc pm an (.ref cdE) ct ccE), osl⟩) (hcd : PySem.W.codeIn K (.ref cdE) qual = true) (T : OexC K cE)
    (S : SupAt K P fE cdE ccE cE (PySem.W.ksFn name qual params (sinitB p0 p1 p2 p3 p4 p5 p6 p7 p8 pc j0 tx fld xn) scope dV kV doc pm an (.ref cdE) ct ccE))
    (hpar : (params.posonlyargs ++ params.args).head? = some ar) (har : ar.arg = "self") (sk : scope.kind = .function) (sco : scope.isCoroutine = false) (sge : scope.isGenerator = false)
    (k1 : scope.names.lookup ("super" : Str) = some .globalImplicit) (k2 : scope.names.lookup ("__class__" : Str) = some .free) (k3 : scope.names.lookup ("self" : Str) = some .local) (k4 : scope.names.lookup xn = some .local) (nx : xn ≠ "self") (nd1 : (xn == ("__debug__" : Str)) = false) (nd2 : (xn == ("__classdict__" : Str)) = false)
    (hfr : ∀ y ∈ scope.names, y.2 = .cell ∨ y.2 = .free → y.1 = "__class__" ∧ y.2 = .free) (hm : mg "super" = none) (hno : PySem.W.findIn K (.ref cE) fld = some none)
    (hswap : ∀ env, swapsWith (.Name xn p7) (some (.Attribute (.Name "self" p5) fld p6)) p8.line env = pure false)
    (hcall : ∀ env : Env, ∃ pl : Sem Bool, eval (.Call (.Attribute (.Call (.Name "super" p0) [] [] p1) "__init__" p2) [.Constant (.str tx) j0 pc] [] p3) env = (do
      let ov ← attributeBase (.Call (.Name "super" p0) [] [] p1) "__init__" env (eval (.Call (.Name "super" p0) [] [] p1) env)
      standAt p2.atName
      let (f, first) ← holding [ov] (getMethod ov "__init__" pl)
      callWith p3 f first (backTo p3 (starEach [.Constant (.str tx) j0 pc] env)) []))
    (hsw2 : ∀ env, swapsWith (.Call (.Attribute (.Call (.Name "super" p0) [] [] p1) "__init__" p2) [.Constant (.str tx) j0 pc] [] p3) none p4.line env = pure false) :
    FnOk P w K mg base CX (k + 1) fE (PySem.W.ksFn name qual params (sinitB p0 p1 p2 p3 p4 p5 p6 p7 p8 pc j0 tx fld xn) scope dV kV doc pm an (.ref cdE) ct ccE) ["self", xn] (spSI cE fld) := by
  refine ⟨fun vs H Q E ⟨a, y, e, _⟩ => by rw [e]; rfl, fun A outer s H args us vs Q E hr e0 hbi r hsp => ?_⟩
  obtain ⟨a, y, rfl, hE, hq⟩ := hsp
  obtain ⟨u1, u2, rfl, r1, r2⟩ : ∃ u1 u2, us = [u1, u2] ∧ RelV (.ref a) u1 ∧ RelV y u2 := by
    cases r with
    | cons r1 r => cases r with
      | cons r2 r => cases r; exact ⟨_, _, rfl, r1, r2⟩
  have r1 : u1 = .ref a := r1
  subst r1
  have KX : K.In s.heap := e0.mod.kin.keeps fun b o e => (e0.bs b o e).1
  have lim : s.heap.NoLimit := e0.mod.nolimit.keeps fun b o e => (e0.bs b o e).1
  have nocell : ∀ z ∈ scope.names, z.2 ≠ .cell := fun z hz q => by
    have := (hfr z hz (.inl q)).2
    rw [q] at this; cases this
  refine PySem.ks_codeAny_call_defAt hr.depth (KX _ _ lk) rfl lim (PySem.W.codeRec_of KX hcd) rfl hbi nocell (fun z hz => ?_) (fun h0 hns hkeep => ?_) sco sge sk
  · rcases List.mem_cons.mp hz with q | q
    · rw [q]; exact k3
    · rcases List.mem_cons.mp q with q | q
      · rw [q]; exact k4
      · cases q
  obtain ⟨cl3, od3, sl3, hcc⟩ := S.cell
  let env : Env := callEnv (PySem.W.ksFn name qual params (sinitB p0 p1 p2 p3 p4 p5 p6 p7 p8 pc j0 tx fld xn) scope dV kV doc pm an (.ref cdE) ct ccE) s.heap.objs.size fE
  let X : Cx := ⟨P, w, K, mg, base, A.deeper env, ["self", xn], s, H, env, outer, env :: outer, [], fun z => z != ("__class__" : Str), true, [], fun e s' => wpAny (model P w) (A.deeper env) (leaving env e) (fun _ s'' => CX outer H s E e s'') (fun e' s'' => CX outer H s E e' s'') s'⟩
  have cel : ∀ (z : Str) c, env.cells.lookup z = some c → z = "__class__" ∧ c = ccE := fun z c q => by
    have q : List.lookup z [(("__class__" : Str), ccE)] = some c := q
    rw [List.lookup_cons] at q
    split at q
    · rename_i h1
      cases q
      exact ⟨by simpa using h1, rfl⟩
    · cases q
  have I : Inv X [] [some (.ref a), some y] H { s with heap := h0, toks := s.toks + ((["self", xn] : List Str).zip [Value.ref a, u2]).length } := by
    refine ⟨⟨e0.mod, sk, rfl, rfl, Nat.le_refl _, fun z z' c q q' => ?_, fun z q => ?_, fun z c q q' => ?_, fun _ => hr.hd, Around.frames_deeper e0.frames, .inr ⟨rfl, rfl⟩, fun b q => absurd q (by simp [X]), e0.bs, e0.bsz, fun b o _ q => absurd q (by simp [X]), fun b q => absurd q (by simp [X]), e0.funs, e0.frf⟩,
      rfl, e0.bare, Un.kept hkeep, ⟨_, hns, fun i z v q1 q2 q3 => ?_⟩, fun z c q => ?_, e0.hok.fresh (Nat.le_refl _), fun z c q => ?_, fun p q => absurd q (by simp [X]), e0.hok.kept hkeep, rfl⟩
    · rw [(cel z c q).1, (cel z' c q').1]
    · have q : scope.names.lookup z = some .cell ∨ scope.names.lookup z = some .free := q
      have : z = "__class__" := by
        rcases q with q | q
        · exact (hfr _ (PySem.mem_of_lookup q) (.inl rfl)).1
        · exact (hfr _ (PySem.mem_of_lookup q) (.inr rfl)).1
      subst this
      exact ⟨ccE, rfl⟩
    · rw [(cel z c q').1] at q
      simp [X] at q
    · match i, q1, q2 with
      | 0, q1, q2 =>
        cases q1; cases q2
        exact ⟨.ref a, rfl, .inl ⟨k3, by
          show List.lookup ("self" : Str) [(xn, u2), (("self" : Str), Value.ref a)] = some (.ref a)
          rw [List.lookup_cons, show (("self" : Str) == xn) = false by simpa using fun q => nx q.symm]
          simp [List.lookup]⟩⟩
      | 1, q1, q2 =>
        cases q1; cases q2
        exact ⟨u2, r2, .inl ⟨k4, by
          show List.lookup xn [(xn, u2), (("self" : Str), Value.ref a)] = some u2
          simp [List.lookup]⟩⟩
    · rw [(cel z c q).2]
      exact ⟨_, _, hkeep _ _ (KX _ _ hcc), rfl⟩
    · rw [(cel z c q).2]
      exact (e0.bs _ _ (e0.mod.kin _ _ hcc)).2
  have hin : interactive env = false := by
    unfold interactive
    rw [show env.scope.kind = .function from sk]
    rfl
  obtain ⟨pl, hpl⟩ := hcall env
  refine PySem.ks_wpAt_execs_cons (PySem.ks_wpAt_Expr_any ?_ hin (hsw2 _))
  refine sup_init (X := X) (ar := ar) (te := tC (.str tx)) T S hpar rfl rfl rfl k1 k2 (by rw [har]; exact k3) hm (by rw [har]; rfl) rfl I hE pe_str (fun R h => h _) rfl hpl fun s' I' => ?_
  have ht : PSs X [.Assign [.Attribute (.Name "self" p5) fld p6] (.Name xn p7) p8] (tOst K fld (tVar 0) (tVar 1)) := pss_one (ps_ost (pe_var (i := 0) rfl (.inl k3)) (pe_var (i := 1) rfl (.inl k4) (hd := nd1) (hcd := nd2)) (hswap _))
  refine wpAt_of_wpAny (wpAny_mono (ht.run [] s' _ H { nx := fun _ H' => Q .non H', rt := Q } I' ⟨_, rfl, _, rfl, a, cE, rfl, T, hno, .inl ⟨hE, fun dx n ne => hq dx n ne⟩⟩) (fun fl s2 hs => ?_) fun e s2 hs => hs)
  have fin : ∀ {σ' : L2.St} {H' : Hp} {v : V} {u : Value}, Inv X [] σ' H' s2 → RelV v u → Q v H' → CE outer P w H s Q u s2 := fun {σ' H' v u} J rv q => ⟨v, H', J.os, J.bare, J.base, J.hok, rv, q⟩
  cases fl with
  | ret u => obtain ⟨v, σ', H', J, rv, q⟩ := hs; exact fin J rv q
  | next => obtain ⟨σ', H', J, q⟩ := hs; exact fin (v := V.non) (u := Value.none) J rfl q
  | brk => obtain ⟨_, _, _, q⟩ := hs; exact False.elim q
  | cont => obtain ⟨_, _, _, q⟩ := hs; exact False.elim q
end LB

/-! LB, part 15: raise. -/
namespace LB
open PySem PySem.Spec PyProof.Rows L2
section
variable {X : Cx} {E : EK} {e ex : Expr} {we : WE} {pos : Pos} {C : Addr} {fld : Str}
/-- raise C(e), C's __init__ storing the field fld -/
def wRaise (C : Addr) (fld : Str) (we : WE) : WS := fun W ρ => we W.ex ρ fun r ρ1 => ∃ d ρ2, r.fz ρ1 = some (d, ρ2) ∧ W.ex ⟨C, [(fld, d)]⟩ ρ2
theorem made_heap {H1 : Hp} {a dx : Addr} {y : V} (ha : H1 a = none) (hd : (upd H1 a (exo a C none)) dx = none) (ne : dx ≠ a) :
    upd (L2.del (upd (upd (upd H1 a (exo a C none)) dx (exd dx [(fld, y)])) a (exo a C (some dx))) a) dx (.xd [(fld, y)]) = upd H1 dx (.xd [(fld, y)]) := by
  funext b
  by_cases q : b = dx
  · subst q; rw [upd_same, upd_same]
  · rw [upd_ne q, upd_ne q]
    by_cases q2 : b = a
    · subst q2; rw [del_same, ha]
    · rw [del_ne q2, upd_ne q2, upd_ne q, upd_ne q2]
theorem bs_raise (hc : X.calm = true) (tk : Takes X fun cls d σ H => E σ cls d H) (mk : ∀ {t : TA}, PA X [e] t → PMk X ex (tMkO C (spSI C fld) [] t)) (he : BE X E e we) (hst : starEach [e] X.env = (false, eval e X.env) :: starEach [] X.env := by rfl) :
    BS X E (.Raise (some ex) none pos) (wRaise C fld we) := by
  refine ⟨psI (ps_raise hc tk (mk (ba_cons he ba_nil hst).pa)) fun D σ H ⟨c, ρ, W, g, hw, h⟩ => ?_⟩
  refine ⟨c, ρ, fun rs ρ1 => (match rs with
    | [r] => ∃ d ρ2, r.fz ρ1 = some (d, ρ2) ∧ W.ex ⟨C, [(fld, d)]⟩ ρ2
    | _ => False), W.ex, g, hw, fun rs ρ1 vs H1 k1 g1 e1 p1 => ?_, h.exok⟩
  cases p1 with
  | nil => exact k1.elim
  | cons p q =>
    cases q with
    | cons p' q' => exact k1.elim
    | nil =>
      rename_i v r
      obtain ⟨d, ρ2, hf, hx⟩ := k1
      obtain ⟨g2, e2, r2⟩ := RepR.fz p g1 hf
      refine ⟨by simp, fun a ha => ⟨a, v, rfl, upd_same, fun dx hd ne => ⟨rfl, dx, _, upd_same, by rw [upd_ne ne, upd_same], by rw [upd_ne ne] at hd; exact hd, ?_⟩⟩⟩
      rw [made_heap ha hd ne]
      rw [upd_ne ne] at hd
      have sm : Sm H1 (upd H1 dx (.xd [(fld, v)])) := sm_upd hd
      exact h.ex ⟨C, [(fld, d)]⟩ σ ρ2 _ _ _ hx (g2.same sm) ((e1.trans e2).trans (.same sm)) ⟨rfl, .inr ⟨dx, _, rfl, upd_same, v, [], rfl, r2.mv ⟨fun _ z => z.elim, fun b o z _ => sm b o z⟩, rfl⟩⟩
end
end LB

set_option maxHeartbeats 1000000
/-! LB, part 16: try with several clauses, some with a name. -/
namespace LB
open PySem PySem.Spec PyProof.Rows L2
/-- a clause: its class, the slot of its name, its suite -/
structure Clause where
  c : Value
  nm : Option Nat
  ts : Addr → Value → Option Addr → TS
/-- a suite behind which the name goes -/
def gone (i : Nat) (D : Ends) : Ends := { nx := fun σ' H' => D.nx (σ'.set i none) H', rt := D.rt, bk := fun σ' H' => D.bk (σ'.set i none) H', ct := fun σ' H' => D.ct (σ'.set i none) H' }
def Clause.run (q : Clause) (a : Addr) (cls : Value) (d : Option Addr) (D : Ends) (σ : L2.St) (H : Hp) : Prop := match q.nm with
  | none => q.ts a cls d D σ H
  | some i => q.ts a cls d (gone i D) (σ.set i (some (.ref a))) H
def wMix (K : PySem.W.Frag) (Wout : WX) (D : Ends) : List Clause → WX
  | [] => Wout
  | q :: r => fun cls d σ H => ∃ b, PySem.W.exmOne K cls q.c = some b ∧ (b = true → ∀ a, H a = none → q.run a cls d D σ H) ∧ (b = false → wMix K Wout D r cls d σ H)
def SuiteOk (X : Cx) (ss : List Stmt) (ts : Addr → Value → Option Addr → TS) : Prop := ∀ (a : Addr) (oe : Obj) (cls : Value) (d : Option Addr) (pn : List (Addr × Obj)), Zc cls d oe → (∃ vs, oe.data = .fields vs) → PSs (X.suite a ((a, oe) :: pn)) ss (ts a cls d)
inductive HMix (X : Cx) : List ExceptHandler → List Clause → Prop
  | nil : HMix X [] []
  | plain {x : Str} {c : Value} {ts : Addr → Value → Option Addr → TS} {s1 : Stmt} {ss : List Stmt} {np hp : Pos} {hds : List ExceptHandler} {l : List Clause} (nc : Names X x c) (ok : SuiteOk X (s1 :: ss) ts) (r : HMix X hds l) : HMix X (.ExceptHandler (some (.Name x np)) none (s1 :: ss) hp :: hds) (⟨c, none, ts⟩ :: l)
  | named {x n : Str} {i : Nat} {c : Value} {ts : Addr → Value → Option Addr → TS} {s1 : Stmt} {ss : List Stmt} {np hp : Pos} {hds : List ExceptHandler} {l : List Clause} (nc : Names X x c) (ok : SuiteOk X (s1 :: ss) ts) (hi : X.N[i]? = some n) (hl : X.env.kindOf n = some .local) (r : HMix X hds l) :
      HMix X (.ExceptHandler (some (.Name x np)) (some n) (s1 :: ss) hp :: hds) (⟨c, some i, ts⟩ :: l)
section
variable {X : Cx} {pins : List (Addr × Obj)} {σ : L2.St} {H : Hp} {Wout : WX} {D : Ends}
/-- an exception of the body, landed in the frame: sI is the state without it -/
structure Landed (X : Cx) (pins : List (Addr × Obj)) (σ : L2.St) (H : Hp) (a : Addr) (B : Heap) (cls : Value) (d : Option Addr) (sI sh : Shared) : Prop where
  inv : Inv X pins σ H sI
  nb : ∀ b o, sI.heap.get? b = some o → b ∉ frs X.stack → B.get? b = some o
  up : sI.heap.UpToSlots sh.heap
  fl : HandSPX.FlyingZ B (X.env :: X.outer) a (Zc cls d) sh.heap
  na : H a = none
  os : sh.os = sI.os
  ag : AllBare sh.gens
theorem Landed.now {a : Addr} {B : Heap} {cls : Value} {d : Option Addr} {sI sh : Shared} (g : Landed X pins σ H a B cls d sI sh) : Inv X pins σ H sh := g.inv.landed g.nb g.fl.1 g.up g.os g.ag
theorem Landed.out {a : Addr} {B : Heap} {cls : Value} {d : Option Addr} {sI sh : Shared} (g : Landed X pins σ H a B cls d sI sh) (hf : X.env.frame = some X.env.locals) :
    ∃ oe vs, sh.heap.get? a = some oe ∧ Zc cls d oe ∧ oe.data = .fields vs ∧ a ≠ X.env.locals ∧ a ∉ X.fs := by
  obtain ⟨oe, vs, g1, g2, g3⟩ := g.fl.there
  have far : a ∉ frs (X.env :: X.outer) := fun m => by
    obtain ⟨_, o2, g4, g5⟩ := g.fl.2.2.1.mem m
    rw [g1] at g4
    cases g4
    exact g5 _ g3
  refine ⟨oe, vs, g1, g2, g3, fun z => far (List.mem_filterMap.mpr ⟨X.env, List.mem_cons_self, by rw [hf, z]⟩), fun m => ?_⟩
  obtain ⟨ev, m1, m2⟩ := List.mem_filterMap.mp m
  exact far (List.mem_filterMap.mpr ⟨ev, List.mem_cons_of_mem _ m1, m2⟩)
/-- no clause took it: it goes on -/
theorem Landed.goes {a : Addr} {B : Heap} {cls : Value} {d : Option Addr} {sI sh : Shared} (g : Landed X pins σ H a B cls d sI sh) (hs : X.stack = X.env :: X.outer) (hf : X.env.frame = some X.env.locals) (tk : Takes X Wout) (hw : Wout cls d σ H) :
    wpAny (model X.prog X.w) X.A (handleBy (.ref a) X.env []) (SP X pins D) X.xe sh := by
  refine wpAny_handleBy_nil ?_
  obtain ⟨_, _, _, oe, vs, tb, ob, ts, g1, _, g3, g4, _⟩ := id g.fl
  have last : wpAny (model X.prog X.w) X.A (setFlight (.ref a) X.env.frame) (fun _ s4 => wpAny (model X.prog X.w) X.A (throw (.ref a) : Sem Flow) (SP X pins D) X.xe s4) X.xe sh := by
    rw [hf]
    exact HandSPX.setFlight_upZ g.fl fun h4 held up4 => wpAny_throw (tk _ _ ⟨a, B, sI, pins, σ, H, cls, d, rfl, g.inv, g.nb, g.up.trans up4, .inr (.inr (by rw [hs]; exact held)), g.na, g.os, g.ag, hw⟩)
  unfold PySem.passOn
  refine wpAny_bind (wpAny_field g1 g3 g4 ?_)
  rw [if_neg (by simp : ¬ ((Value.ref tb == Value.none) = true))]
  first
    | exact wpAny_bind (wpAny_pure (wpAny_bind last))
    | exact wpAny_bind last
theorem Landed.names {a : Addr} {B : Heap} {cls c : Value} {d : Option Addr} {sI sh : Shared} {x : Str} {np : Pos} {Q : Value → Shared → Prop} {EX : Value → Shared → Prop} (g : Landed X pins σ H a B cls d sI sh) (hf : X.env.frame = some X.env.locals) (nc : Names X x c) (h : Q c sh) :
    wpAny (model X.prog X.w) (X.A.mark (some (.ref a))) (eval (.Name x np) X.env) Q EX sh := by
  obtain ⟨oe, vs, g1, g2, g3, nL, nF⟩ := g.out hf
  have S := g.now.suite g1 g3 g.na nL nF
  obtain ⟨gl, nd, hm | ⟨hm, hv, hne⟩⟩ := nc
  · exact ld_glob (X := X.suite a ((a, oe) :: (X.pn ++ pins))) S gl hm h nd
  · exact ld_blt (X := X.suite a ((a, oe) :: (X.pn ++ pins))) S gl hm hv h hne nd
theorem Landed.looks {a : Addr} {B : Heap} {cls : Value} {d : Option Addr} {sI sh : Shared} (g : Landed X pins σ H a B cls d sI sh) (hf : X.env.frame = some X.env.locals) : PySem.W.Looks (model X.prog X.w) sh.heap (typeOf (.ref a)) cls := by
  obtain ⟨oe, vs, g1, g2, _⟩ := g.out hf
  exact fun _ _ _ _ kp q => wpAny_typeOf_ref (kp _ _ g1) (g2.1.symm ▸ q)
/-- it lands once more, ahead of the suite -/
theorem Landed.again {a : Addr} {B : Heap} {cls : Value} {d : Option Addr} {sI sh : Shared} {A : Around} {EX : Value → Shared → Prop} {Q : Unit → Shared → Prop} (g : Landed X pins σ H a B cls d sI sh) (h : ∀ s2, Landed X pins σ H a B cls d sI s2 → Q () s2) : wpAny (model X.prog X.w) A (setFlight (.ref a) none) Q EX sh :=
  HandSPX.lands_againZ g.fl fun h' f' u' => h _ ⟨g.inv, g.nb, g.up.trans u', f', g.na, g.os, g.ag⟩
theorem mix_run (hs : X.stack = X.env :: X.outer) (hf : X.env.frame = some X.env.locals) (hN : X.N.Nodup) (tk : Takes X Wout) {hds : List ExceptHandler} {l : List Clause} (hk : HMix X hds l) {a : Addr} {B : Heap} {cls : Value} {d : Option Addr} {sI sh : Shared} (g : Landed X pins σ H a B cls d sI sh)
    (hw : wMix X.K Wout D l cls d σ H) : wpAny (model X.prog X.w) X.A (handleBy (.ref a) X.env hds) (SP X pins D) X.xe sh := by
  have ok := g.inv.ok
  induction hk with
  | nil => exact g.goes hs hf tk hw
  | plain nc sok r ih =>
    obtain ⟨b, hb, hy, hn⟩ := hw
    refine wpAny_handleBy_cons (codeAny_handlers_test (g.names hf nc ?_)) (by intro q; cases q)
    refine (PySem.W.exm_one g.now.kIn (g.looks hf) hb).here ?_
    cases b with
    | false => exact ih (hn rfl)
    | true =>
      refine codeAny_handlers_suite (g.again fun s2 g2 => ?_)
      obtain ⟨oe, vs, q1, q2, q3, nL, nF⟩ := g2.out hf
      refine wpAny_mono ((sok a oe cls d (X.pn ++ pins) q2 ⟨_, q3⟩).run [] _ _ H _ (g2.now.suite q1 q3 g2.na nL nF) (hy rfl a g2.na)) (fun fl s6 hsp => ?_) (fun _ _ z => False.elim z)
      cases fl with
      | next => obtain ⟨_, _, S6, q6⟩ := hsp; exact ⟨_, _, S6.unsuite ok, q6⟩
      | brk => obtain ⟨_, _, S6, q6⟩ := hsp; exact ⟨_, _, S6.unsuite ok, q6⟩
      | cont => obtain ⟨_, _, S6, q6⟩ := hsp; exact ⟨_, _, S6.unsuite ok, q6⟩
      | ret u => obtain ⟨_, _, _, S6, r6, q6⟩ := hsp; exact ⟨_, _, _, S6.unsuite ok, r6, q6⟩
  | named nc sok hi hl r ih =>
    rename_i x n i c ts s1 ss np hp hds' l'
    obtain ⟨b, hb, hy, hn⟩ := hw
    refine wpAny_handleBy_cons (codeAny_handlers_test (g.names hf nc ?_)) (by intro q; cases q)
    refine (PySem.W.exm_one g.now.kIn (g.looks hf) hb).here ?_
    cases b with
    | false => exact ih (hn rfl)
    | true =>
      refine codeAny_handlers_suite_as (g.again fun s2 g2 => ?_)
      obtain ⟨oe, vs, q1, q2, q3, nL, nF⟩ := g2.out hf
      have S := g2.now.suite q1 q3 g2.na nL nF
      refine store_ok (X := X.suite a ((a, oe) :: (X.pn ++ pins))) (v := .ref a) S hN hi (.inl hl) rfl (fun s5 S5 => ?_) (.inr hl)
      refine wpAny_mono ((sok a oe cls d (X.pn ++ pins) q2 ⟨_, q3⟩).run [] s5 _ H _ S5 (hy rfl a g2.na)) (fun fl s6 hsp => ?_) (fun _ _ z => False.elim z)
      cases fl with
      | next => obtain ⟨_, _, S6, q6⟩ := hsp; exact gone_ok (S6.unsuite ok) hN hi hl fun s7 J7 => ⟨_, _, J7, q6⟩
      | brk => obtain ⟨_, _, S6, q6⟩ := hsp; exact gone_ok (S6.unsuite ok) hN hi hl fun s7 J7 => ⟨_, _, J7, q6⟩
      | cont => obtain ⟨_, _, S6, q6⟩ := hsp; exact gone_ok (S6.unsuite ok) hN hi hl fun s7 J7 => ⟨_, _, J7, q6⟩
      | ret u => obtain ⟨_, _, _, S6, r6, q6⟩ := hsp; exact gone_ok (S6.unsuite ok) hN hi hl fun s7 J7 => ⟨_, _, _, J7, r6, q6⟩
theorem ps_try_mix {body : List Stmt} {hd1 : ExceptHandler} {hds : List ExceptHandler} {l : List Clause} {tb : WX → TS} {pos : Pos} (hs : X.stack = X.env :: X.outer) (hf : X.env.frame = some X.env.locals) (hN : X.N.Nodup) (tk : Takes X Wout)
    (hb : ∀ (W : WX) (pn : List (Addr × Obj)) (xe : Value → Shared → Prop), Takes (X.tr pn xe) W → PassesOwn (model X.prog X.w) X.A X.env xe → PSs (X.tr pn xe) body (tb W)) (hh : HMix X (hd1 :: hds) l) :
    PS X (.Try body (hd1 :: hds) [] [] pos) (fun D σ H => tb (wMix X.K Wout D l) D σ H) := by
  refine ⟨fun pins s σ H D I h => wpAny_Try_except ?_⟩
  have ok := I.ok
  let air : Value → Shared → Prop := fun e s₁ => wpAny (model X.prog X.w) X.A (noteFrame e X.env) (fun _ s₂ => wpAny (model X.prog X.w) X.A (setFlight e none) (fun _ s₃ => wpAny (model X.prog X.w) X.A (handleBy e X.env (hd1 :: hds)) (SP X pins D) X.xe s₃) X.xe s₂) X.xe s₁
  have caught : Takes (X.tr (X.pn ++ pins) air) (wMix X.K Wout D l) := fun u s' xx => by
    obtain ⟨a, B, sI, pins', σ', H', cls, d, e, J, nb, up, sky, na, os, ag, w⟩ := xx
    subst e
    have sky2 : Sky B (X.env :: X.outer) a (Zc cls d) X.env.locals s'.heap := by rw [← hs]; exact sky
    exact Sky.land Zc.steady (by rw [ok.frames, hs]) hf sky2 fun h3 f3 u3 => mix_run hs hf hN tk hh (sI := sI) (B := B) ⟨J.ofTry ok, nb, up.trans u3, f3, na, os, ag⟩ w
  refine wpAny_mono ((hb _ (X.pn ++ pins) air caught PassesOwn.looking).run [] s σ H D (I.toTry _) h) (fun fl s1 hsp => ?_) fun _ _ z => z
  cases fl with
  | next => obtain ⟨_, _, J, q⟩ := hsp; exact wpAny_execs_nil ⟨_, _, J.ofTry ok, q⟩
  | brk => obtain ⟨_, _, J, q⟩ := hsp; exact ⟨_, _, J.ofTry ok, q⟩
  | cont => obtain ⟨_, _, J, q⟩ := hsp; exact ⟨_, _, J.ofTry ok, q⟩
  | ret u => obtain ⟨_, _, _, J, r, q⟩ := hsp; exact ⟨_, _, _, J.ofTry ok, r, q⟩
end
end LB

/-! LB, part 17: a def that may raise, called where it does not. -/
namespace LB
open PySem PySem.Spec PyProof.Rows L2
/-- the promise, of arguments at which nothing is raised -/
def calmS (S : Spc) : Spc := fun xs k _ => S xs k fun _ _ => False
section
variable {P : Program} {w : World} {K : PySem.W.Frag} {mg : Str → Option Value} {base : Heap} {k : Nat} {f : Addr} {fd : FuncData} {ps : List Str} {ms : List Md} {S : Spc} {sp : Sp}
theorem fn_calm (F : FnOk P w K mg base (L2.CX P w) k f fd ps sp) : FnOk P w K mg base CX0 k f fd ps (fun vs H Q _ => sp vs H Q fun _ _ _ => False) := by
  refine ⟨fun vs H Q _ h => F.len _ _ _ _ h, fun A outer s H args us vs Q E hr e0 hb r h => ?_⟩
  refine codeAny_mono (F.run A outer s H args us vs Q (fun _ _ _ => False) hr e0 hb r h) fun re s' hq => ?_
  cases re with
  | ok fl => cases fl <;> exact hq
  | error e =>
    obtain ⟨_, _, _, _, _, _, _, _, _, _, _, _, z⟩ := hq
    exact z.elim
theorem spV_calm {vs : List V} {H : Hp} {Q : VK} {E : XK} (h : spV K ms (calmS S) vs H Q E) : spV K ms S vs H Q fun _ _ _ => False := by
  obtain ⟨M, xs, ws, kk, kx, th, a, nd, hS, hk, _⟩ := h
  exact ⟨M, xs, ws, kk, fun _ _ => False, th, a, nd, hS, hk, fun _ _ _ _ _ z => z.elim⟩
theorem spN_calm {vs : List V} {H : Hp} {Q : VK} {E : XK} (h : spN K ms (calmS S) vs H Q E) : spN K ms S vs H Q fun _ _ _ => False := by
  obtain ⟨M, xs, ws, kk, kx, th, a, nd, hS, hk, _⟩ := h
  exact ⟨M, xs, ws, kk, fun _ _ => False, th, a, nd, hS, hk, fun _ _ _ _ _ z => z.elim⟩
theorem Cal.calmV {x : Str} (C : Cal P w K mg base (L2.CX P w) k x ps (spV K ms S)) : Cal P w K mg base CX0 k x ps (spV K ms (calmS S)) := by
  obtain ⟨f, fd, F, h1, h2, h3⟩ := C.ex
  exact ⟨f, fd, (fn_calm F).imp fun _ _ _ _ q => spV_calm q, h1, h2, h3⟩
theorem Cal.calmN {x : Str} (C : Cal P w K mg base (L2.CX P w) k x ps (spN K ms S)) : Cal P w K mg base CX0 k x ps (spN K ms (calmS S)) := by
  obtain ⟨f, fd, F, h1, h2, h3⟩ := C.ex
  exact ⟨f, fd, (fn_calm F).imp fun _ _ _ _ q => spN_calm q, h1, h2, h3⟩
end
end LB

/-! LB, part 18: try by value. -/
namespace LB
open PySem PySem.Spec PyProof.Rows L2
/-- a clause by value: which classes it takes; its name's slot and class; its suite (the exception's place, its dict's) -/
structure ClD where
  tbl : List (Addr × Bool)
  nm : Option (Nat × Addr)
  ws : Addr → Addr → WS
def goneW (i : Nat) (W : WD) : WD := { nx := fun ρ => W.nx (ρ.set i .no), rt := W.rt, rn := fun _ _ => False, bk := fun ρ => W.bk (ρ.set i .no), ct := fun ρ => W.ct (ρ.set i .no), ex := fun _ _ => False }
def plainW (W : WD) : WD := { nx := W.nx, rt := W.rt, rn := fun _ _ => False, bk := W.bk, ct := W.ct, ex := fun _ _ => False }
def flatX : PyData → Bool
  | .none => true | .bool _ => true | .int _ => true | .str _ => true
  | _ => false
def ClD.run (q : ClD) (x : Xn) (W : WD) (ρ : List En) : Prop := match q.nm with
  | none => ∀ a dd, q.ws a dd (plainW W) ρ
  | some (i, C) => x.cls = C ∧ x.fs ≠ [] ∧ (∀ p ∈ x.fs, flatX p.2 = true) ∧ ∀ a dd, q.ws a dd (goneW i W) (ρ.set i (.xn (.ref a) dd x.fs))
def mixD : List ClD → WD → Xn → List En → Prop
  | [], W, x, ρ => W.ex x ρ
  | q :: r, W, x, ρ => ∃ b, (x.cls, b) ∈ q.tbl ∧ (b = true → q.run x W ρ) ∧ (b = false → mixD r W x ρ)
def wTry (l : List ClD) (wb : WS) : WS := fun W ρ => wb { W with ex := fun x ρ' => mixD l W x ρ' } ρ
theorem flatF_of {K : PySem.W.Frag} {H : Hp} : ∀ {x : List (Str × PyData)} {vs : List (Str × V)}, (∀ p ∈ x, flatX p.2 = true) → RepF K H x vs → FlatF x vs
  | [], _, _, h => h
  | (n, d) :: r, _, hf, h => by
    obtain ⟨v, vs', e, h1, h2⟩ := h
    refine ⟨v, vs', e, ?_, flatF_of (fun p hp => hf p (List.mem_cons_of_mem _ hp)) h2⟩
    have := hf (n, d) List.mem_cons_self
    cases d <;> first
      | exact h1
      | cases this
section
variable {X : Cx} {E : EK}
/-- the clause, over the heap -/
def ClD.cl (K : PySem.W.Frag) (X : Cx) (c : Value) (q : ClD) : Clause := match q.nm with
  | none => ⟨c, none, fun a _ _ => lS X EN (q.ws a 0)⟩
  | some (i, C) => ⟨c, some i, fun a cls d D σ H => cls = .ref C ∧ ∃ dd, d = some dd ∧ lS X EN (q.ws a dd) D σ H⟩
theorem eok_plain {K : PySem.W.Frag} {c : Ct} {ρ : List En} {H : Hp} {W : WD} {D : Ends} (h : EOk K E c ρ H W D) : EOk K EN c ρ H (plainW W) D :=
  ⟨h.nx, h.rt, fun _ _ _ _ _ z => z.elim, h.bk, h.ct, fun _ _ _ _ _ _ z => z.elim⟩
theorem eok_gone {K : PySem.W.Frag} {c : Ct} {ρ ρ1 : List En} {H : Hp} {W : WD} {D : Ends} {i : Nat} (h : EOk K E c ρ H W D) (e : Ev c ρ H ρ1 H) : EOk K EN c ρ1 H (goneW i W) (gone i D) :=
  ⟨fun σ' ρ' H' a b d => h.nx _ _ _ a (b.setNo i none) ((e.trans d).trans (.setNO rfl)), fun r σ' ρ' v H' a b d f => h.rt r σ' ρ' v H' a b (e.trans d) f, fun _ _ _ _ _ z => z.elim,
   fun σ' ρ' H' a b d => h.bk _ _ _ a (b.setNo i none) ((e.trans d).trans (.setNO rfl)), fun σ' ρ' H' a b d => h.ct _ _ _ a (b.setNo i none) ((e.trans d).trans (.setNO rfl)), fun _ _ _ _ _ _ z => z.elim⟩
/-- the clause's classes, as the text's classes stand -/
def TblOk (K : PySem.W.Frag) (c : Value) (t : List (Addr × Bool)) : Prop := ∀ p ∈ t, PySem.W.exmOne K (.ref p.1) c = some p.2
theorem run_ok {c : Ct} {σ : L2.St} {ρ : List En} {H : Hp} {W : WD} {D : Ends} {q : ClD} {x : Xn} {cv : Value} {ad : Option Addr} {a : Addr} (g : Gd X.K c σ H ρ) (h : EOk X.K E c ρ H W D) (rx : RepX X.K H x (.ref x.cls) ad) (hq : q.run x W ρ) :
    (q.cl X.K X cv).run a (.ref x.cls) ad D σ H := by
  unfold ClD.run at hq
  unfold ClD.cl Clause.run
  split at hq
  · exact ⟨c, ρ, _, g, hq a 0, eok_plain h⟩
  · rename_i i C hn
    obtain ⟨h1, h2, h3, h4⟩ := hq
    obtain ⟨_, z⟩ := rx
    rcases z with ⟨z, _⟩ | ⟨p, vs, z1, z2, z3⟩
    · exact absurd z h2
    · refine ⟨by rw [h1], p, z1, c, _, _, ?_, h4 a p, eok_gone h (.setNO rfl)⟩
      exact g.put i _ _ (fun _ _ z => by cases z) (fun _ _ z => by cases z) (fun _ z => by cases z) (fun _ z => by cases z) (fun _ z => by cases z) fun v p' x' z => by
        cases z
        exact ⟨rfl, vs, z2, flatF_of h3 z3⟩
theorem mix_ok {c : Ct} {σ : L2.St} {ρ : List En} {H : Hp} {W : WD} {D : Ends} {x : Xn} {ad : Option Addr} (g : Gd X.K c σ H ρ) (h : EOk X.K E c ρ H W D) (rx : RepX X.K H x (.ref x.cls) ad) : ∀ {l : List (Value × ClD)}, (∀ p ∈ l, TblOk X.K p.1 p.2.tbl) → mixD (l.map (·.2)) W x ρ →
    wMix X.K (fun cls d σ H => E σ cls d H) D (l.map fun p => p.2.cl X.K X p.1) (.ref x.cls) ad σ H
  | [], _, hm => h.ex x σ ρ _ _ H hm g .refl rx
  | (cv, q) :: l, ht, hm => by
    obtain ⟨b, h1, h2, h3⟩ := hm
    have hc : (q.cl X.K X cv).c = cv := by unfold ClD.cl; split <;> rfl
    refine ⟨b, by rw [hc]; exact ht _ List.mem_cons_self _ h1, fun e a _ => run_ok g h rx (h2 e), fun e => mix_ok g h rx (fun p hp => ht p (List.mem_cons_of_mem _ hp)) (h3 e)⟩
/-- try: body, clauses -/
theorem bs_try {body : List Stmt} {hd1 : ExceptHandler} {hds : List ExceptHandler} {l : List (Value × ClD)} {wb : WS} {pos : Pos} (hs : X.stack = X.env :: X.outer) (hf : X.env.frame = some X.env.locals) (hN : X.N.Nodup) (tk : Takes X fun cls d σ H => E σ cls d H)
    (hb : ∀ (E' : EK) (pn : List (Addr × Obj)) (xe : Value → Shared → Prop), Takes (X.tr pn xe) (fun cls d σ H => E' σ cls d H) → PassesOwn (model X.prog X.w) X.A X.env xe → BSs (X.tr pn xe) E' body wb) (ht : ∀ p ∈ l, TblOk X.K p.1 p.2.tbl) (hh : HMix X (hd1 :: hds) (l.map fun p => p.2.cl X.K X p.1)) :
    BS X E (.Try body (hd1 :: hds) [] [] pos) (wTry (l.map (·.2)) wb) := by
  refine ⟨psI (ps_try_mix hs hf hN tk (tb := fun Wx => lS X (fun σ cls d H => Wx cls d σ H) wb) (fun Wx pn xe t1 t2 => (hb _ pn xe t1 t2).pss) hh) fun D σ H ⟨c, ρ, W, g, hw, h⟩ => ?_⟩
  refine ⟨c, ρ, _, g, hw, ⟨h.nx, h.rt, h.rn, h.bk, h.ct, fun x σ' ρ' cl ad H' hm g' e' rx => ?_⟩⟩
  obtain ⟨ec, _⟩ := id rx
  subst ec
  exact mix_ok g' (h.ev e') rx ht hm
end
end LB

/-! LB, part 19: suites of clauses; fields of caught exceptions. -/
namespace LB
open PySem PySem.Spec PyProof.Rows L2
section
variable {X : Cx} {ss : List Stmt} {C : Addr} {ws : Addr → Addr → WS}
theorem suite_plain (h : ∀ (a : Addr) (oe : Obj) (cls : Value) (d : Option Addr) (pn : List (Addr × Obj)), Zc cls d oe → (∃ vs, oe.data = .fields vs) → BSs (X.suite a ((a, oe) :: pn)) EN ss (ws a 0)) : SuiteOk X ss (fun a _ _ => lS X EN (ws a 0)) :=
  fun a oe cls d pn hz hf => (h a oe cls d pn hz hf).pss
theorem suite_named (h : ∀ (a : Addr) (oe : Obj) (dd : Addr) (pn : List (Addr × Obj)), Zc (.ref C) (some dd) oe → (∃ vs, oe.data = .fields vs) → BSs (X.suite a ((a, oe) :: pn)) EN ss (ws a dd)) :
    SuiteOk X ss (fun a cls d D σ H => cls = .ref C ∧ ∃ dd, d = some dd ∧ lS X EN (ws a dd) D σ H) := fun a oe cls d pn hz hf => by
  refine ⟨fun pins s σ H D I q => ?_⟩
  obtain ⟨e1, dd, e2, q⟩ := q
  subst e1
  subst e2
  exact (h a oe dd pn hz hf).pss.run pins s σ H D I q
theorem flat_rep {K : PySem.W.Frag} {M : Ow} {H : Hp} {d : PyData} {v : V} (h : FlatV d v) : Rep K M H d v := by
  cases d <;> first
    | exact h
    | exact h.elim
theorem flat_get : ∀ {x : List (Str × PyData)} {fs : List (Str × V)} {f : Str} {d : PyData}, FlatF x fs → x.lookup f = some d → ∃ v, fs.lookup f = some v ∧ FlatV d v
  | [], _, _, _, _, h => by cases h
  | (n, e) :: r, _, f, d, hf, h => by
    obtain ⟨v, fs', rfl, h1, h2⟩ := hf
    rw [List.lookup_cons] at h ⊢
    cases q : f == n with
    | true =>
      simp only [q] at h ⊢
      cases h
      exact ⟨v, rfl, h1⟩
    | false =>
      simp only [q] at h ⊢
      exact flat_get h2 h
/-- n.f of a caught exception -/
def wFld (a dd : Addr) (i : Nat) (f : Str) : WE := fun _ ρ k => match ρ[i]? with
  | some (.xn v p x) => v = .ref a ∧ p = dd ∧ ∃ d, x.lookup f = some d ∧ k (.val d) ρ
  | _ => False
theorem be_fld {a dd : Addr} {oe : Obj} {pn : List (Addr × Obj)} {e : Expr} {pos : Pos} {n : Str} {i : Nat} {E : EK} (T : XfC X.K C) (hno : PySem.W.findIn X.K (.ref C) n = some none) (hz : Zc (.ref C) (some dd) oe) (hf : ∃ vs, oe.data = .fields vs) (he : PE (X.suite a ((a, oe) :: pn)) e (tVar i))
    (hb : attributeBase e n X.env (eval e X.env) = eval e X.env := by rfl) : BE (X.suite a ((a, oe) :: pn)) E (.Attribute e n pos) (wFld a dd i n) := by
  refine ⟨peI (pe_xf T hno hz hf he hb) fun σ H Q ⟨c, ρ, k, kx, g, hw, hk, hx⟩ => ?_⟩
  unfold wFld at hw
  split at hw
  · rename_i v p x hq
    obtain ⟨rfl, rfl, d, hl, h1⟩ := hw
    obtain ⟨g1, fs, g2, g3⟩ := g.xn i _ _ _ hq
    obtain ⟨u, hu, hv⟩ := flat_get g3 hl
    exact ⟨_, g1, rfl, rfl, _, fs, u, rfl, g2, hu, hk _ ρ u H h1 g .refl (flat_rep hv)⟩
  · exact hw.elim
end
end LB

/-! LB, part 20: isinstance of a caught exception. -/
namespace LB
open PySem PySem.Spec PyProof.Rows L2
section
variable {X : Cx} {C a dd : Addr} {oe : Obj} {pn : List (Addr × Obj)}
/-- isinstance(e, c): e the exception that the suite holds, its dict at dd -/
theorem call_isX (T : ExcC X.K C) (hz : Zc (.ref C) (some dd) oe) (hf : ∃ vs, oe.data = .fields vs) : CallR (X.suite a ((a, oe) :: pn)) (.builtin "isinstance")
    (fun xs H Q => ∃ (c : V) (cv : Value) (b : Bool) (fs : List (Str × V)), xs = [.ref a, c] ∧ (∀ u, RelV c u → u = cv) ∧ PySem.W.kitOne X.K (.ref C) cv = some b ∧ H dd = some (.xd fs) ∧ Q (.bl b) H) := by
  intro pins s σ H xs us Q I r h
  obtain ⟨c, cv, b, fs, rfl, hcv, e, hd, q⟩ := h
  cases r with
  | cons rx rr =>
    cases rr with
    | cons rt rr =>
      cases rr
      cases rx
      cases hcv _ rt
      have hget := (I.pin (a, oe) (List.mem_append.mpr (.inl List.mem_cons_self))).1
      obtain ⟨vs, hv⟩ := hf
      have hx : ObjOk X.prog X.w H s.heap dd (.xd fs) := I.hok dd _ hd
      obtain ⟨mA, hns, _⟩ := hx
      obtain ⟨od, _, _, ho, _⟩ := id hns
      have J : PySem.W.InstAt s.heap a oe C (some od) := ⟨hget, hz.1, by unfold PySem.W.notCls; rw [hv] <;> rfl, by rw [hz.2]; exact ho⟩
      have hcl : (PySem.W.clsIn X.K C).isSome = true := by
        have := T.hd
        unfold PySem.W.hasDictIn at this
        cases q : PySem.W.clsIn X.K C with
        | none => rw [q] at this; cases this
        | some _ => rfl
      exact PySem.W.kia_one (PySem.W.kitx_exc hcl T.hg T.hk T.hs T.ha T.hn T.ht T.hm) I.kIn J e (fun z => nomatch z) fun tk => ⟨.bl b, H, I.kept (t' := tk) fun _ _ z => z, rfl, q⟩
def wIsX (a dd : Addr) (i : Nat) (b : Bool) : WE := fun _ ρ k => match ρ[i]? with
  | some (.xn v p _) => v = .ref a ∧ p = dd ∧ k (.val (.bool b)) ρ
  | _ => False
theorem be_isX {e e2 : Expr} {i : Nat} {cv : V} {cval : Value} {b : Bool} {E : EK} {p pos : Pos} (T : ExcC X.K C) (hz : Zc (.ref C) (some dd) oe) (hf : ∃ vs, oe.data = .fields vs) (hg : Gl (X.suite a ((a, oe) :: pn)) "isinstance") (hm : X.mg "isinstance" = none)
    (ha : PE (X.suite a ((a, oe) :: pn)) e (tVar i)) (hb : PE (X.suite a ((a, oe) :: pn)) e2 (tC cv)) (hcv : ∀ u, RelV cv u → u = cval) (hk : PySem.W.kitOne X.K (.ref C) cval = some b)
    (he : starEach [e, e2] X.env = (false, eval e X.env) :: starEach [e2] X.env := by rfl) (he2 : starEach [e2] X.env = (false, eval e2 X.env) :: starEach [] X.env := by rfl) (hpl : (backTo pos (starEach [e2] X.env)).any (·.1) = false := by rfl) :
    BE (X.suite a ((a, oe) :: pn)) E (.Call (.Name "isinstance" p) [e, e2] [] pos) (wIsX a dd i b) := by
  refine ⟨peI (pe_callB (call_isX T hz hf) hg hm boot_isinstance (pa_cons ha (pa_cons hb pa_nil he2) he) (by decide) (by decide) he hpl) fun σ H Q ⟨c, ρ, k, kx, g, hw, hkk, hx⟩ => ?_⟩
  unfold wIsX at hw
  split at hw
  · rename_i v q x hq
    obtain ⟨rfl, rfl, h1⟩ := hw
    obtain ⟨g1, fs, g2, g3⟩ := g.xn i _ _ _ hq
    exact ⟨_, g1, _, cval, b, fs, rfl, hcv, hk, g2, hkk _ ρ _ H h1 g .refl rfl⟩
  · exact hw.elim
end
end LB

/-! LB, part 21: defs that are called within a suite, by value. -/
namespace LB
open PySem PySem.Spec PyProof.Rows L2
section
variable {P : Program} {w : World} {K : PySem.W.Frag} {mg : Str → Option Value} {base : Heap}
/-- fnV for a call within a suite: the context is not calm -/
theorem fnVH {x qual : Str} {st : Stmt} {f : Addr} {fd : FuncData} {N ps : List Str} {k : Nat} {ms : List Md} {S : Spc} {ws : WS} (F : Fun K x qual st f fd) (sc : FnScope N ps (defScope st)) (hl : ms.length = ps.length)
    (hb : ∀ (cdv : Value) (A : Around) (outer : List Env) (s : Shared) (H : Hp) (E : XK) (p : Addr × Obj), L2H.Hot1 A p → L2H.RoomH k (A.deeper (envOfC qual (defScope st) s.heap.objs.size f cdv)) → BSs (L2H.cxH CX0 P w K mg base N qual (defScope st) f cdv A outer s H E p).nox EN (defBody st) ws)
    (hw : ∀ xs as k kx, S xs k kx → as.length = nM ms → ws (wdV ms as k fun _ _ => False) (ent ms xs as N.length)) : L2H.FnH P w K mg base CX0 (k + 1) f fd ps (spV K ms S) := by
  obtain ⟨oc, od, kV, doc, pm, an, cdv, ct, osl, rfl, lk, hcd⟩ := F.ex
  refine L2H.fn_ofH lk hcd sc (spV_len hl) fun A outer s H vs Q E p hot hr h => ?_
  obtain ⟨M, xs, as, k', kx, th, a, nd, hS, hk, hx⟩ := h
  exact ⟨_, (hb cdv A outer s H E p hot hr).pss.nox, ⟨M, inL as, H⟩, _, wdV ms as k' fun _ _ => False, entry th a nd, hw xs as k' kx hS (args_as a).1, eok_V (E0 := fun _ _ _ => False) (N := N) (vs := vs) (xs := xs) hk (fun _ _ _ _ _ z => z.elim) fun _ _ _ _ z => z⟩
end
/-- such a def by its name -/
structure CalH (P : Program) (w : World) (K : PySem.W.Frag) (mg : Str → Option Value) (base : Heap) (k : Nat) (x : Str) (ps : List Str) (sp : Sp) : Prop where
  ex : ∃ f fd, L2H.FnH P w K mg base CX0 k f fd ps sp ∧ mg x = some (.ref f) ∧ PySem.W.keepIn K (.ref f) = true ∧ Binds K fd ps []
section
variable {X : Cx} {E : EK} {es : List Expr} {e ex : Expr} {ms : List Md} {S : Spc} {u : WA} {k : Nat} {x : Str} {ps : List Str} {sp : Sp} {t : TA} {q pos : Pos}
theorem passAt0 (σ : L2.St) : PassesAt CX0 X σ (EN σ) := fun pins H s e s' I h => (pass0 pins σ H s e s' I h)
theorem CalH.pe (C : CalH X.prog X.w X.K X.mg X.base k x ps sp) (hr : L2H.RoomH k X.A) (hc : L2H.HotC X) (hg : Gl X x) (ha : PA X (e :: es) t) (hdb : (x == ("__debug__" : Str)) = false := by decide) (he : starEach (e :: es) X.env = (false, eval e X.env) :: starEach es X.env := by rfl)
    (hpl : (backTo pos (starEach es X.env)).any (·.1) = false := by rfl) : PE X (.Call (.Name x q) (e :: es) [] pos) (tCallS sp EN t) := by
  obtain ⟨f, fd, F, hm, hk, hb⟩ := C.ex
  exact L2H.pe_callH F hr hc hg hm hk hb (fun σ => passAt0 σ) ha hdb he hpl
theorem be_callH (mk : ∀ {t : TA}, PA X es t → PE X ex (tCallS (spV X.K ms S) EN t)) (hu : BA X E es u) : BE X E ex (wCall0 ms S u) := by
  refine ⟨peI (mk hu.pa) fun σ H Q h => ?_⟩
  obtain ⟨c, ρ, k, kx, g, hw, hk, hx⟩ := h
  refine ⟨c, ρ, _, kx, g, hw, fun rs ρ1 vs H1 k1 g1 e1 p1 => ?_, hx⟩
  obtain ⟨xs, ρ2, is, hp, ho, hl, hS⟩ := k1
  exact call_coreV g1 p1 hp ho hl hS (fun d outs v H' kd g3 e3 r => hk _ _ v H' kd g3 (e1.trans e3) r) fun _ _ _ _ _ z => z.elim
end
end LB

/-! LB, part 22: defs called where an exception is handled, whatever its context. -/
namespace LB
open PySem PySem.Spec PyProof.Rows L2
structure FnW (P : Program) (w : World) (K : PySem.W.Frag) (mg : Str → Option Value) (base : Heap) (k : Nat) (f : Addr) (fd : FuncData) (ps : List Str) (sp : Sp) : Prop where
  len : ∀ vs H Q E, sp vs H Q E → vs.length = ps.length
  run : ∀ (A : Around) (outer : List Env) (s : Shared) (H : Hp) (args : Args) (us : List Value) (vs : List V) (Q : VK) (E : XK) (p : Addr × Obj), L2H.RoomH k A → L2H.PinOk outer H s p → Env0 P w K mg base A outer s H → BindsTo s fd args (ps.zip us) → Vals vs us → sp vs H Q E →
    codeAny (model P w) A (.call (.ref f) args) (CR CX0 outer P w H s Q E) s
section
variable {P : Program} {w : World} {K : PySem.W.Frag} {mg : Str → Option Value} {base : Heap}
theorem fnVW {x qual : Str} {st : Stmt} {f : Addr} {fd : FuncData} {N ps : List Str} {k : Nat} {ms : List Md} {S : Spc} {ws : WS} (F : Fun K x qual st f fd) (sc : FnScope N ps (defScope st)) (hl : ms.length = ps.length)
    (hb : ∀ (cdv : Value) (A : Around) (outer : List Env) (s : Shared) (H : Hp) (E : XK) (p : Addr × Obj), L2H.RoomH k (A.deeper (envOfC qual (defScope st) s.heap.objs.size f cdv)) → BSs (L2H.cxH CX0 P w K mg base N qual (defScope st) f cdv A outer s H E p).nox EN (defBody st) ws)
    (hw : ∀ xs as k kx, S xs k kx → as.length = nM ms → ws (wdV ms as k fun _ _ => False) (ent ms xs as N.length)) : FnW P w K mg base (k + 1) f fd ps (spV K ms S) := by
  obtain ⟨oc, od, kV, doc, pm, an, cdv, ct, osl, rfl, lk, hcd⟩ := F.ex
  refine ⟨spV_len hl, fun A outer s H args us vs Q E p room pin e0 bnd rv hsp => ?_⟩
  have KS : K.In s.heap := e0.mod.kin.keeps fun b o z => (e0.bs b o z).1
  have free : s.heap.NoLimit := e0.mod.nolimit.keeps fun b o z => (e0.bs b o z).1
  refine codeAny_call_function room.depth (KS _ _ lk) rfl sc.co sc.gen rfl (PySem.W.codeRec_of KS hcd) (bnd _ _ _ _ (wpAny_newFunctionEnv_cells sc.kind (fun ⟨y1, y2⟩ hy => ?_) fun env he s1 st1 => ?_))
  · rcases sc.par y1 (List.of_mem_zip hy).1 with q | q
    · exact .inl q
    · exact .inr ⟨q, PySem.W.cellsFrom_some _ _ _ (.inl q)⟩
  · subst he
    refine ⟨free.keeps st1.toInCall.keep, codeAny_func ?_⟩
    have I := L2H.inv_startH (CX := CX0) (N := N) (E := E) sc pin e0 (spV_len hl _ _ _ _ hsp) rv st1
    obtain ⟨M, xs, as, k', kx, th, a, nd, hS, hk, hx⟩ := hsp
    have der := (hb cdv A outer s H E p (room.deeper _)).pss.nox
    refine wpAny_mono (der.run [] s1 (L2.start N vs) H { nx := fun _ H' => Q .non H', rt := Q } I ⟨⟨M, inL as, H⟩, _, wdV ms as k' fun _ _ => False, entry th a nd, hw xs as k' kx hS (args_as a).1, eok_V (E0 := fun _ _ _ => False) (N := N) (vs := vs) (xs := xs) hk (fun _ _ _ _ _ z => z.elim) fun _ _ _ _ z => z⟩) (fun fl s' q => ?_) fun _ _ z => z
    cases fl with
    | ret u => obtain ⟨v, _, H', J, r, q⟩ := q; exact ⟨v, H', J.os, J.bare, J.base, J.hok, r, q⟩
    | next => obtain ⟨_, H', J, q⟩ := q; exact ⟨.non, H', J.os, J.bare, J.base, J.hok, rfl, q⟩
    | brk => obtain ⟨_, _, _, q⟩ := q; exact q.elim
    | cont => obtain ⟨_, _, _, q⟩ := q; exact q.elim
end
end LB
namespace LB
open PySem PySem.Spec PyProof.Rows L2
structure CalW (P : Program) (w : World) (K : PySem.W.Frag) (mg : Str → Option Value) (base : Heap) (k : Nat) (x : Str) (ps : List Str) (sp : Sp) : Prop where
  ex : ∃ f fd, FnW P w K mg base k f fd ps sp ∧ mg x = some (.ref f) ∧ PySem.W.keepIn K (.ref f) = true ∧ Binds K fd ps []
section
variable {X : Cx} {E : EK} {es : List Expr} {e ex : Expr} {ms : List Md} {S : Spc} {u : WA} {k : Nat} {x : Str} {ps : List Str} {sp : Sp} {t : TA} {q pos : Pos} {pr : Addr × Obj}
theorem CalW.pe (C : CalW X.prog X.w X.K X.mg X.base k x ps sp) (hr : L2H.RoomH k X.A) (hp : pr ∈ X.pn) (hg : Gl X x) (ha : PA X (e :: es) t) (hdb : (x == ("__debug__" : Str)) = false := by decide) (he : starEach (e :: es) X.env = (false, eval e X.env) :: starEach es X.env := by rfl)
    (hpl : (backTo pos (starEach es X.env)).any (·.1) = false := by rfl) : PE X (.Call (.Name x q) (e :: es) [] pos) (tCallS sp EN t) := by
  obtain ⟨f, fd, F, hm, hk, hb⟩ := C.ex
  refine ⟨fun pins s σ H Q I h => wpAny_Call_Name_kw (ld_glob I hg hm ?_ hdb)⟩
  refine PySem.W.callWith_K (h₀ := X.base) I.ok.mod.kin hk (thn (ha.run pos pins s σ H _ I h) fun us s1 ⟨vs, H1, I1, r, hq⟩ => ⟨I1.kIn, ?_⟩) he hpl
  have lu : us.length = ps.length := by rw [← r.length]; exact F.len _ _ _ _ hq
  have bd := hb s1 us I1.kIn (by rw [List.append_nil]; exact lu)
  rw [List.append_nil] at bd
  obtain ⟨p1, p2, p3, p4, p5⟩ := I1.pin pr (List.mem_append_left _ hp)
  refine wpAny_call (codeAny_mono (F.run X.A X.stack s1 H1 ⟨us, []⟩ us vs Q _ pr hr ⟨p1, p2, fun hm => (List.mem_cons.mp (I1.stkSub pr.1 hm)).elim p3 p4, p5⟩ I1.env0 bd r hq) fun re s' hr' => ?_)
  cases re with
  | error _ => exact hr'.elim
  | ok fl => cases fl with
    | ret _ => exact I1.after hr'
    | next => exact hr'.elim
    | brk => exact hr'.elim
    | cont => exact hr'.elim
end
end LB

/-! LB, part 23: the program's exception classes; constants of modules. -/
namespace LB
open PySem PySem.Spec PyProof.Rows L2
/-- the places of the program's exception classes (0: not in this text) -/
structure Cs where
  DeedError : Addr
  BadText : Addr
  BadWorld : Addr
  TooMany : Addr
  BadPlan : Addr
  BadWay : Addr
  BadLimit : Addr
  BadQuestion : Addr
  BadEdit : Addr
  BadValue : Addr
  BadDossier : Addr
  Unknown : Addr
  Unlike : Addr
  ZeroPrice : Addr
  NothingToUndo : Addr
/-- a class C whose __init__ takes one text or number, made by C(e) -/
structure Rz (P : Program) (w : World) (K : PySem.W.Frag) (mg : Str → Option Value) (base : Heap) (x : Str) (C : Addr) (fld : Str) : Prop where
  T : OexC K C
  ex : ∃ (fI : Addr) (fd : FuncData) (xn : Str), PySem.W.findIn K (.ref C) "__init__" = some (some (.ref fI)) ∧ PySem.W.typeIn K (.ref fI) = some (.type "function") ∧ FnOk P w K mg base CX0 1 fI fd ["self", xn] (spSI C fld) ∧ Binds K fd ["self", xn] []
  mgC : mg x = some (.ref C)
theorem Rz.of {P : Program} {w : World} {K : PySem.W.Frag} {mg : Str → Option Value} {base : Heap} {x fld : Str} {C fI cdE ccE : Addr} {name qual xn tx : Str} {params : Arguments} {scope : Scope} {dV kV doc pm ct : Value} {an : Option Addr}
    {p0 p1 p2 p3 p4 p5 p6 p7 p8 pc : Pos} {j0 : Nat} (T : OexC K C) (mgC : mg x = some (.ref C)) (iC : PySem.W.findIn K (.ref C) "__init__" = some (some (.ref fI))) (tI : PySem.W.typeIn K (.ref fI) = some (.type "function"))
    (F : FnOk P w K mg base CX0 1 fI (PySem.W.ksFn name qual params (sinitB p0 p1 p2 p3 p4 p5 p6 p7 p8 pc j0 tx fld xn) scope dV kV doc pm an (.ref cdE) ct ccE) ["self", xn] (spSI C fld))
    (b : Binds K (PySem.W.ksFn name qual params (sinitB p0 p1 p2 p3 p4 p5 p6 p7 p8 pc j0 tx fld xn) scope dV kV doc pm an (.ref cdE) ct ccE) ["self", xn] []) : Rz P w K mg base x C fld := ⟨T, ⟨fI, _, xn, iC, tI, F, b⟩, mgC⟩
section
variable {X : Cx} {x fld : Str} {C : Addr} {e : Expr} {ta : TA} {p pos : Pos}
theorem Rz.pmk (Z : Rz X.prog X.w X.K X.mg X.base x C fld) (hr : Room 2 X.A) (hg : Gl X x) (ha : PA X [e] ta)
    (hdb : (x == ("__debug__" : Str)) = false := by decide) (he : starEach [e] X.env = (false, eval e X.env) :: starEach [] X.env := by rfl) (hpl : (backTo pos (starEach [] X.env)).any (·.1) = false := by rfl) :
    PMk X (.Call (.Name x p) [e] [] pos) (tMkO C (spSI C fld) [] ta) := by
  obtain ⟨fI, fd, xn, h1, h2, h3, h4⟩ := Z.ex
  exact pmk_oex Z.T h1 h2 h3 hr h4 .nil pass0 hg Z.mgC ha hdb he hpl
end
/-- a class of the text as a clause names it -/
structure Hz (K : PySem.W.Frag) (mg : Str → Option Value) (x : Str) (C : Addr) : Prop where
  bX : PySem.W.subIn K (.ref C) (.type "BaseException") = some true
  hd : PySem.W.hasDictIn K C = true
  ty : PySem.W.typeIn K (.ref C) = some (.type "type")
  mgC : mg x = some (.ref C)
  self : PySem.W.subIn K (.ref C) (.ref C) = some true
theorem Hz.names {X : Cx} {x : Str} {C : Addr} (Z : Hz X.K X.mg x C) (hg : Gl X x) (hdb : (x == ("__debug__" : Str)) = false := by decide) : Names X x (.ref C) := ⟨hg, hdb, .inl Z.mgC⟩
theorem Hz.exm {K : PySem.W.Frag} {mg : Str → Option Value} {x : Str} {C : Addr} {cls : Value} {b : Bool} (Z : Hz K mg x C) (h : PySem.W.subIn K cls (.ref C) = some b) : PySem.W.exmOne K cls (.ref C) = some b := PySem.W.exm_ref Z.bX Z.hd Z.ty h
/-- isinstance(e, C), e of the class R -/
theorem Hz.kit {K : PySem.W.Frag} {mg : Str → Option Value} {x : Str} {C : Addr} {R : Addr} {b : Bool} (Z : Hz K mg x C) (h : PySem.W.subIn K (.ref R) (.ref C) = some b)   : PySem.W.kitOne K (.ref R) (.ref C) = some b := by
  have hb : R = C → b = true := fun q => by
    subst q
    have := Z.self
    rw [h] at this
    exact Option.some.inj this
  unfold PySem.W.kitOne
  by_cases q : R = C
  · subst q
    rw [if_pos (by simp), hb rfl]
  · have h2 := Z.hd
    unfold PySem.W.hasDictIn at h2
    rw [if_neg (by simpa using q)]
    have e2 : ((PySem.W.clsIn K C).isSome && PySem.W.typeIn K (.ref C) == some (.type "type")) = true := by
      rw [Z.ty]
      cases hc : PySem.W.clsIn K C with
      | none => rw [hc] at h2; cases h2
      | some _ => rfl
    show (if ((PySem.W.clsIn K C).isSome && PySem.W.typeIn K (.ref C) == some (.type "type")) = true then PySem.W.subIn K (.ref R) (.ref C) else none) = some b
    rw [if_pos e2]
    exact h
theorem tbl_nil {K : PySem.W.Frag} {c : Value} : TblOk K c [] := fun _ h => by cases h
theorem tbl_cons {K : PySem.W.Frag} {c : Value} {R : Addr} {b : Bool} {t : List (Addr × Bool)} (h : PySem.W.exmOne K (.ref R) c = some b) (r : TblOk K c t) : TblOk K c ((R, b) :: t) := fun p hp => by
  rcases List.mem_cons.mp hp with q | q
  · subst q; exact h
  · exact r p q

/-! ### constants of modules -/
/-- the module's name x holds the datum d -/
structure GlD (K : PySem.W.Frag) (mg : Str → Option Value) (x : Str) (d : PyData) : Prop where
  ex : ∃ (v : V) (u : Value), mg x = some u ∧ RelV v u ∧ ∀ M H, Rep K M H d v
/-- a written value stands for a datum -/
def Wd (K : PySem.W.Frag) (d : PyData) (u : Value) : Prop := ∃ v, RelV v u ∧ ∀ M H, Rep K M H d v
def WdA (K : PySem.W.Frag) (ds : List PyData) (us : List Value) : Prop := ∃ vs, Vals vs us ∧ ∀ M H, RepAll K M H ds vs
section
variable {K : PySem.W.Frag} {mg : Str → Option Value}
theorem wd_int {i : Int} {t : Tok} : Wd K (.int i) (.int i t) := ⟨.int i, ⟨t, rfl⟩, fun _ _ => rfl⟩
theorem wd_str {i : Str} {t : Tok} : Wd K (.str i) (.str i t) := ⟨.str i, ⟨t, rfl⟩, fun _ _ => rfl⟩
theorem wd_bl {b : Bool} : Wd K (.bool b) (.bool b) := ⟨.bl b, rfl, fun _ _ => rfl⟩
theorem wd_non : Wd K .none .none := ⟨.non, rfl, fun _ _ => rfl⟩
theorem wd_nil : WdA K [] [] := ⟨[], .nil, fun _ _ => rfl⟩
theorem wd_cons {d : PyData} {ds : List PyData} {u : Value} {us : List Value} (h : Wd K d u) (r : WdA K ds us) : WdA K (d :: ds) (u :: us) := by
  obtain ⟨v, h1, h2⟩ := h
  obtain ⟨vs, h3, h4⟩ := r
  exact ⟨v :: vs, .cons h1 h3, fun M H => ⟨v, vs, rfl, h2 M H, h4 M H⟩⟩
theorem wd_tup {a : Addr} {ds : List PyData} {od : Option Addr} {its : Array Value} {n : Nat} {sl : Array (Option Value)} (l : K.lookup a = some ⟨.type "tuple", od, .seq its n, sl⟩) (hz : its.size ≤ sizeLine) (h : WdA K ds its.toList) : Wd K (.tuple ds) (.ref a) := by
  obtain ⟨vs, h1, h2⟩ := h
  exact ⟨.ref a, rfl, fun M H => ⟨a, vs, rfl, .inr ⟨_, its, n, l, rfl, rfl, hz, h1⟩, h2 M H⟩⟩
theorem gld {x : Str} {d : PyData} {u : Value} (h : mg x = some u) (w : Wd K d u) : GlD K mg x d := by
  obtain ⟨v, h1, h2⟩ := w
  exact ⟨v, u, h, h1, h2⟩
theorem be_glob {X : Cx} {E : EK} {x : Str} {d : PyData} {pos : Pos} (G : GlD X.K X.mg x d) (hg : Gl X x) (hdb : (x == ("__debug__" : Str)) = false := by decide) : BE X E (.Name x pos) (wC d) := by
  obtain ⟨v, u, h1, h2, h3⟩ := G.ex
  exact be_c (pe_glob hg h1 h2 hdb) h3
end
end LB

/-! LB, part 24: help for derivations with try; isinstance with several classes. -/
namespace LB
open PySem PySem.Spec PyProof.Rows L2
theorem rhu {k : Nat} {A : Around} (r : L2H.RoomH k A) : A.units + 64 < cLine := by have := r.un; omega
theorem rhu65 {k : Nat} {A : Around} (r : L2H.RoomH k A) : A.units + 65 < cLine := by have := r.un; omega
theorem tbs_nil {K : PySem.W.Frag} : ∀ p ∈ ([] : List (Value × ClD)), TblOk K p.1 p.2.tbl := fun _ h => by cases h
theorem tbs_cons {K : PySem.W.Frag} {p : Value × ClD} {l : List (Value × ClD)} (h : TblOk K p.1 p.2.tbl) (r : ∀ q ∈ l, TblOk K q.1 q.2.tbl) : ∀ q ∈ p :: l, TblOk K q.1 q.2.tbl := fun q hq => by
  rcases List.mem_cons.mp hq with z | z
  · subst z; exact h
  · exact r q z
theorem kit_ty {K : PySem.W.Frag} {R : Addr} {T : String} (hT : PySem.W.kitMeta T = true) (h : PySem.W.subIn K (.ref R) (.type T) = some true) : PySem.W.kitOne K (.ref R) (.type T) = some true := by
  unfold PySem.W.kitOne
  rw [if_neg (by simp)]
  show (if PySem.W.kitMeta T = true then PySem.W.subIn K (.ref R) (.type T) else none) = some true
  rw [if_pos hT]
  exact h
theorem kitAny_nil {K : PySem.W.Frag} {t : Value} : PySem.W.kitAny K t [] = some false := rfl
theorem kitAny_f {K : PySem.W.Frag} {t c : Value} {r : List Value} {b : Bool} (h : PySem.W.kitOne K t c = some false) (g : PySem.W.kitAny K t r = some b) : PySem.W.kitAny K t (c :: r) = some b := by
  unfold PySem.W.kitAny
  rw [h]
  exact g
theorem kitAny_t {K : PySem.W.Frag} {t c : Value} {r : List Value} (h : PySem.W.kitOne K t c = some true) : PySem.W.kitAny K t (c :: r) = some true := by
  unfold PySem.W.kitAny
  rw [h]
section
variable {X : Cx} {C a dd : Addr} {oe : Obj} {pn : List (Addr × Obj)}
theorem refs_vals : ∀ {cs : List Addr} {its : List Value}, Vals (cs.map V.ref) its → its = cs.map Value.ref
  | [], _, h => by cases h; rfl
  | c :: cs, _, h => by
    cases h with
    | cons h1 h2 =>
      have h1 : _ = Value.ref c := h1
      rw [h1, refs_vals h2]; rfl
theorem call_isXt (T : ExcC X.K C) (hz : Zc (.ref C) (some dd) oe) (hf : ∃ vs, oe.data = .fields vs) : CallR (X.suite a ((a, oe) :: pn)) (.builtin "isinstance")
    (fun xs H Q => ∃ (t : Addr) (cs : List Addr) (b : Bool) (fs : List (Str × V)), xs = [.ref a, .ref t] ∧ H t = some (.tup (cs.map V.ref)) ∧ PySem.W.kitAny X.K (.ref C) (cs.map Value.ref) = some b ∧ H dd = some (.xd fs) ∧ Q (.bl b) H) := by
  intro pins s σ H xs us Q I r h
  obtain ⟨t, cs, b, fs, rfl, ht, e, hd, q⟩ := h
  cases r with
  | cons rx rr =>
    cases rr with
    | cons rt rr =>
      cases rr
      cases rx
      cases rt
      have hget := (I.pin (a, oe) (List.mem_append.mpr (.inl List.mem_cons_self))).1
      obtain ⟨vs, hv⟩ := hf
      have hx : ObjOk X.prog X.w H s.heap dd (.xd fs) := I.hok dd _ hd
      obtain ⟨mA, hns, _⟩ := hx
      obtain ⟨od, _, _, ho, _⟩ := id hns
      have J : PySem.W.InstAt s.heap a oe C (some od) := ⟨hget, hz.1, by unfold PySem.W.notCls; rw [hv] <;> rfl, by rw [hz.2]; exact ho⟩
      have hcl : (PySem.W.clsIn X.K C).isSome = true := by
        have := T.hd
        unfold PySem.W.hasDictIn at this
        cases q : PySem.W.clsIn X.K C with
        | none => rw [q] at this; cases this
        | some _ => rfl
      obtain ⟨its, rv, ⟨o, g1, g2, n, g3⟩, _⟩ := I.tuple (.inl (.inl ht))
      obtain rfl := refs_vals rv
      obtain ⟨c1, d1, da, sl⟩ := o
      cases g2
      cases g3
      exact PySem.W.kia_tup (PySem.W.kitx_exc hcl T.hg T.hk T.hs T.ha T.hn T.ht T.hm) I.kIn J g1 e (fun z => nomatch z) fun tk => ⟨.bl b, H, I.kept (t' := tk) fun _ _ z => z, rfl, q⟩
/-- a tuple of classes written in a call -/
structure ClsA (X : Cx) (es : List Expr) (cs : List Addr) : Prop where
  pa : ∀ (Q : List V → Hp → Prop), PA X es (fun _ H Q => Q (cs.map V.ref) H)
theorem clsa_nil : ClsA X [] [] := ⟨fun _ => ⟨fun pos pins s σ H Q I q => (pa_nil (X := X)).run pos pins s σ H Q I q⟩⟩
theorem clsa_cons {e : Expr} {es : List Expr} {c : Addr} {cs : List Addr} (h : PE X e (tC (.ref c))) (r : ClsA X es cs) (hs : starEach (e :: es) X.env = (false, eval e X.env) :: starEach es X.env := by rfl) : ClsA X (e :: es) (c :: cs) :=
  ⟨fun _ => paI (pa_cons h (r.pa fun _ _ => True) hs) fun σ H Q q => q⟩
theorem be_isXt {e : Expr} {es : List Expr} {i : Nat} {cs : List Addr} {b : Bool} {E : EK} {x1 : Nat} {p p2 pos : Pos} (T : ExcC X.K C) (hz : Zc (.ref C) (some dd) oe) (hf : ∃ vs, oe.data = .fields vs) (hg : Gl (X.suite a ((a, oe) :: pn)) "isinstance") (hm : X.mg "isinstance" = none)
    (ha : PE (X.suite a ((a, oe) :: pn)) e (tVar i)) (hb : ClsA (X.suite a ((a, oe) :: pn)) es cs) (hl : cs.length ≤ 100) (hk : PySem.W.kitAny X.K (.ref C) (cs.map Value.ref) = some b)
    (he : starEach [e, .Tuple es x1 p2] X.env = (false, eval e X.env) :: starEach [.Tuple es x1 p2] X.env := by rfl) (he2 : starEach [.Tuple es x1 p2] X.env = (false, eval (.Tuple es x1 p2) X.env) :: starEach [] X.env := by rfl) (hpl : (backTo pos (starEach [.Tuple es x1 p2] X.env)).any (·.1) = false := by rfl) :
    BE (X.suite a ((a, oe) :: pn)) E (.Call (.Name "isinstance" p) [e, .Tuple es x1 p2] [] pos) (wIsX a dd i b) := by
  refine ⟨peI (pe_callB (call_isXt T hz hf) hg hm boot_isinstance (pa_cons ha (pa_cons (pe_tup (hb.pa fun _ _ => True)) pa_nil he2) he) (by decide) (by decide) he hpl) fun σ H Q ⟨c, ρ, k, kx, g, hw, hkk, hx⟩ => ?_⟩
  unfold wIsX at hw
  split at hw
  · rename_i v q x hq
    obtain ⟨rfl, rfl, h1⟩ := hw
    obtain ⟨g1, fs, g2, g3⟩ := g.xn i _ _ _ hq
    refine ⟨_, g1, by rw [List.length_map]; exact Nat.le_trans hl (by decide), fun t ht => ?_⟩
    have sm : Sm H (upd H t (.tup (cs.map V.ref))) := sm_upd ht
    exact ⟨t, cs, b, fs, rfl, upd_same, hk, sm _ _ g2, hkk _ ρ _ _ h1 (g.same sm) (.same sm) rfl⟩
  · exact hw.elim
end
end LB

/-! LB, part 25: enumerate of tuples. -/
namespace PySem
open Sem (wp)
set_option maxHeartbeats 1000000 in
theorem lb_meets_enum {v : Value} {o : Obj} {H : Heap → Prop} (B : Begins v o H) :
    Meets (Builtin.«enumerate.__new__» ⟨[.type "enumerate", v], []⟩) (fun _ R s => H s.heap ∧
      R (.ok (.ret (.ref (s.heap.push o).objs.size))) { s with heap := (s.heap.push o).push { cls := .type "enumerate", data := .fields #[.none, .bool false, .ref s.heap.objs.size, rawInt 0, .none, .none] } }) :=
  .of_wp fun prog w A R s h => by
    obtain ⟨hp, g, d, tk, os⟩ := s; obtain ⟨h1, h⟩ := h
    have hsub := sub_enumerate
    have q1 : ∀ {A' : Around} {E : Value → Shared → Prop} {Q : Value → Shared → Prop}, Q (.ref hp.objs.size) ⟨hp.push o, g, d, tk, os⟩ → wpAny (model prog w) A' (pyIter v) Q E ⟨hp, g, d, tk, os⟩ :=
      fun q => B.iter prog w _ _ ⟨hp, g, d, tk, os⟩ _ h1 q
    wp_walk using q1
    refine wpAny_stack_any fun st => wpAny_pure ?_
    split
    · rename_i c _ _ _ _ _
      cases (c == Value.type "enumerate")
      · wp_walk using q1
        exact ⟨_, rfl, h⟩
      · wp_walk using q1
        exact ⟨_, rfl, h⟩
    · wp_walk using q1
      exact ⟨_, rfl, h⟩
section
variable {prog : Program} {w : World} {A : Around} {E : Value → Shared → Prop} {s : Shared}
theorem lb_enum_begins {v : Value} {o : Obj} {H : Heap → Prop} {Q : Value → Shared → Prop} (B : Begins v o H) (h1 : H s.heap)
    (h : ∀ h', IsEnum h' (s.heap.objs.size + 1) s.heap.objs.size 0 .none → h'.get? s.heap.objs.size = some o → h'.objs.size = s.heap.objs.size + 2 →
      (∀ b o, s.heap.get? b = some o → h'.get? b = some o) → Q (.ref (s.heap.objs.size + 1)) { s with heap := h' }) :
    wpAny (model prog w) A (call (.type "enumerate") [v]) Q E s := by
  refine callType_new F.called_enumerate (by decide) (F.typeCall_enumerate_1 _) (F.newCall_enumerate_1 _) (fun obj => F.args_object_init_2 obj _) F.entry_enumerate_new
    (lb_meets_enum B) ⟨h1, ?_⟩
  have hz : (s.heap.push o).objs.size = s.heap.objs.size + 1 := Heap.size_push ..
  show _ ∧ _
  rw [hz]
  have he : IsEnum ((s.heap.push o).push { cls := .type "enumerate", data := .fields #[.none, .bool false, .ref s.heap.objs.size, rawInt 0, .none, .none] }) (s.heap.objs.size + 1) s.heap.objs.size 0 .none := by
    have := Heap.get?_push_size (s.heap.push o) (o := { cls := .type "enumerate", data := .fields #[.none, .bool false, .ref s.heap.objs.size, rawInt 0, .none, .none] }) rfl
    rw [hz] at this; exact this
  refine ⟨⟨_, he, rfl⟩, h _ he (Heap.get?_push_of_some _ (Heap.get?_push_size _ B.free)) (by rw [Heap.size_push, hz]) fun b o x => Heap.get?_push_of_some _ (Heap.get?_push_of_some _ x)⟩
end
end PySem
namespace LB
open PySem PySem.Spec PyProof.Rows L2
/-- the tuple at a, each item in a new pair -/
def ItT (K : PySem.W.Frag) (a : Addr) : It :=
  ⟨fun i H => ∃ (xs : List V) (x : V), SqT K H a xs ∧ xs[i]? = some x, fun i H v H' => ∃ T x, v = .ref T ∧ H T = none ∧ H' = upd H T (.tup [.int (i : Nat), x]) ∧ ∀ xs, SqT K H a xs → xs[i]? = some x, fun i H => ∃ xs : List V, SqT K H a xs ∧ xs.length ≤ i⟩
theorem turn_enumT {P : Program} {w : World} {K : PySem.W.Frag} {elts : List Expr} {kk : Nat} {tpos : Pos} (a e it : Addr) :
    Turn P w K (.Tuple elts kk tpos) (ItT K a) [e, it] e (fun i h => (∃ old, IsEnum h e it ((i : Nat) : Int) old) ∧ h.IsTupleIter it a i ∧ e ≠ it) where
  mem := by simp
  obj := fun i h st b hb => by
    obtain ⟨⟨old, he⟩, ⟨o, ho, hc, hd⟩, _⟩ := st
    have e' : b = e ∨ b = it := by simpa using hb
    rcases e' with z | z
    · rw [z]; exact ⟨_, he, fun v q => nomatch q⟩
    · rw [z]; exact ⟨o, ho, fun v q => by rw [hd] at q; cases q⟩
  keep := fun i h h' st k => let ⟨⟨old, he⟩, hi, hne⟩ := st; ⟨⟨old, k e (by simp) _ he⟩, hi.at fun o q => k it (by simp) o q, hne⟩
  item := by
    intro X hP hw hK hc i pins s σ H E I hf st hg
    subst hP hw hK
    obtain ⟨⟨old, he⟩, hit, hne⟩ := st
    obtain ⟨xs, x, hq, hx⟩ := hg
    obtain ⟨its, rv, p, hz⟩ := I.tuple hq
    obtain ⟨u, hu, ru⟩ := rv.get hx
    have hel : e < s.heap.objs.size := Heap.lt_size he
    have hil : it < s.heap.objs.size := by obtain ⟨_, q, _⟩ := hit; exact Heap.lt_size q
    have nai : a ≠ it := fun z => by
      subst z
      obtain ⟨o1, g1, c1, _⟩ := p
      obtain ⟨o2, g2, c2, _⟩ := hit
      rw [g1] at g2; cases g2
      rw [c1] at c2; simp at c2
    have nae : e ≠ a := fun z => by
      subst z
      obtain ⟨o1, g1, c1, _⟩ := p
      rw [he] at g1; cases g1
      simp at c1
    have hi : i < its.toArray.size := by
      have := (List.getElem?_eq_some_iff.mp hu).1
      simpa using this
    refine wpAny_pyNext_enum_itemD (Draws.tuple (show X.A.in1.handled = none from I.ok.hd hc) it a nai its.toArray) he ⟨hit, p⟩ hi hne (by simp [hne, nae]) fun x' h' tk hx' ho hit' hT hsz hk => ?_
    have ex : x' = u := by
      have h1 : its.toArray[i]? = some x' := hx'
      rw [List.getElem?_toArray, hu] at h1
      exact (Option.some.inj h1).symm
    subst ex
    refine ⟨_, rfl, wpAny_letOwnedTupleGo_enum (s := { s with heap := h', toks := tk + 1 }) ho fun h'' he' sb => ?_⟩
    have hT2 : h''.get? s.heap.objs.size = some { cls := .type "tuple", data := .seq #[.int i tk, x'] } := (sb.2 _ (Nat.ne_of_gt hel)).trans hT
    have new : ObjOk X.prog X.w (upd H s.heap.objs.size (.tup [.int (i : Nat), x])) h'' s.heap.objs.size (.tup [.int (i : Nat), x]) :=
      ⟨by show 2 ≤ sizeLine; decide, [.int i tk, x'], .cons ⟨_, rfl⟩ (.cons ru .nil), ⟨_, hT2, rfl, _, rfl⟩⟩
    have I1 : Inv X pins σ (upd H s.heap.objs.size (.tup [.int (i : Nat), x])) { s with heap := h'', toks := tk + 1 } :=
      I.turnedNew (ch := [e, it]) (fun b ob hb q => (sb.2 b (fun z => hb (by simp [z]))).trans (hk b ob (fun z => hb (by simp [z])) (fun z => hb (by simp [z])) q)) hf (Nat.le_refl _) new
    refine ⟨.ref s.heap.objs.size, _, I1, rfl, ⟨_, x, rfl, I.hok.fresh (Nat.le_refl _), rfl, fun ys hy => by rw [I.tuple_inj hy hq]; exact hx⟩, ⟨⟨x', ?_⟩, hit'.1.at fun o q => (sb.2 it (Ne.symm hne)).trans q, hne⟩, fun b hb => ?_⟩
    · have e1 : ((i + 1 : Nat) : Int) = (i : Int) + 1 := by omega
      rw [e1]; exact he'
    · have hb' : b < s.heap.objs.size := by
        have e' : b = e ∨ b = it := by simpa using hb
        rcases e' with z | z
        · rw [z]; exact hel
        · rw [z]; exact hil
      rw [upd_ne (Nat.ne_of_lt hb')]
      exact (hf b hb).1
  done := by
    intro X hP hw hK hc i pins s σ H E I hf st hg
    subst hP hw hK
    obtain ⟨⟨old, he⟩, hit, hne⟩ := st
    obtain ⟨xs, hq, hx⟩ := hg
    obtain ⟨its, rv, p, hz⟩ := I.tuple hq
    obtain ⟨f0, f1, f2, f3, f4, f5⟩ := hf it (by simp)
    have hl := rv.length
    have hT : s.TypeIs (.ref e) "enumerate" := ⟨_, he, rfl⟩
    unfold pyNext
    refine wpAny_bind (wpAny_attempt (wpAny_callSpecial?_slot (name := Str.ofString "__next__") hT F.slot_enumerate_next
      (wpAny_call_entry F.slot_enumerate_next hT F.entry_enumerate_next ?_ (F.args_enumerate_next_1 _))))
    show wpAny _ _ (field (.ref e) 2 >>= _) _ _ _
    refine wpAny_bind (wpAny_field he rfl (x := .ref it) rfl ?_)
    refine wpAny_bind (wpAny_nextOf_tuple_end (items := its.toArray) (show X.A.in1.handled = none from I.ok.hd hc) hit p (by simp; omega) fun h' x he' hx' => ?_)
    obtain ⟨o, ho, hcc⟩ := hx'
    refine wpAny_bind (wpAny_isInstance (T := "StopIteration") (b := true) ⟨o, ho, hcc⟩ isSubtype_stop ?_)
    exact wpAny_pure ⟨rfl, I.turned (t' := s.toks) (fun b o hb q => he' b o hb q) f0 f1 f3 f4 f5⟩
  self := fun A i s Q E st h => let ⟨⟨_, he⟩, _⟩ := st; wpAny_pyIter_enum he h
def iEnumA (K : PySem.W.Frag) (ta : TA) : TI := fun σ H R => ta σ H fun vs H1 => ∃ a xs, vs = [.ref a] ∧ ((SqL K H1 a xs ∧ R (Ite K a) H1) ∨ (SqT K H1 a xs ∧ R (ItT K a) H1))
theorem pi_enumA {X : Cx} {e : Expr} {ta : TA} {p pos tpos : Pos} {elts : List Expr} {kk : Nat} (hg : Gl X "enumerate") (hm : X.mg "enumerate" = none) (ha : PA X [e] ta) (hs : starEach [e] X.env = [(false, eval e X.env)] := by rfl) :
    PI X (.Tuple elts kk tpos) (.Call (.Name "enumerate" p) [e] [] pos) (iEnumA X.K ta) := by
  refine ⟨fun pins s σ H R I h => ?_⟩
  refine Call_ (ld_blt I hg hm boot_enumerate (PyProof.Rows.callWith_type1 (thn (ha.run pos pins s σ H _ I h) fun us s1 ⟨vs, H1, I1, r1, q1⟩ => ?_) hs rfl))
  obtain ⟨a, xs, ex, q⟩ := q1
  subst ex
  cases r1 with
  | cons r rr =>
    cases rr
    cases r
    have e'' : ∀ b, b ∈ [s1.heap.objs.size + 1, s1.heap.objs.size] → FpOk X pins H1 b := fun b hb => by
      have e' : b = s1.heap.objs.size + 1 ∨ b = s1.heap.objs.size := by simpa using hb
      have hle : s1.heap.objs.size ≤ b := by
        rcases e' with z | z
        · rw [z]; exact Nat.le_add_right _ _
        · rw [z]; exact Nat.le_refl _
      exact I1.fpOk hle (I1.hok.fresh hle)
    rcases q with ⟨hq, q⟩ | ⟨hq, q⟩
    · obtain ⟨its, rv, p', hz⟩ := I1.list hq
      refine call_enumerate_list p'.isList fun h' he hit hsz hk => wpAny_pyIter_enum he ?_
      have I2 : Inv X pins σ H1 { s1 with heap := h' } := I1.kept (t' := s1.toks) hk
      exact ⟨s1.heap.objs.size + 1, [s1.heap.objs.size + 1, s1.heap.objs.size], _, _, H1, rfl, I2, turn_enum a (s1.heap.objs.size + 1) s1.heap.objs.size, ⟨⟨.none, he⟩, hit, Nat.succ_ne_self _⟩, e'', q⟩
    · obtain ⟨its, rv, p', hz⟩ := I1.tuple hq
      refine lb_enum_begins (begins_tuple a its.toArray) p' fun h' he hit hsz hk => wpAny_pyIter_enum he ?_
      have I2 : Inv X pins σ H1 { s1 with heap := h' } := I1.kept (t' := s1.toks) hk
      exact ⟨s1.heap.objs.size + 1, [s1.heap.objs.size + 1, s1.heap.objs.size], _, _, H1, rfl, I2, turn_enumT a (s1.heap.objs.size + 1) s1.heap.objs.size, ⟨⟨.none, he⟩, ⟨_, hit, rfl, rfl⟩, Nat.succ_ne_self _⟩, e'', q⟩
/-! ### enumerate, zip by value -/
def enumD (ds : List PyData) : List PyData := ds.mapIdx fun i d => .tuple [.int ((i : Nat) : Int), d]
theorem enumD_len (ds : List PyData) : (enumD ds).length = ds.length := List.length_mapIdx
theorem enumD_get {ds : List PyData} {i : Nat} {d : PyData} (h : ds[i]? = some d) : (enumD ds)[i]? = some (.tuple [.int ((i : Nat) : Int), d]) := by
  unfold enumD
  rw [List.getElem?_mapIdx, h]; rfl
def zipD (ds es : List PyData) : List PyData := (ds.zip es).map fun p => .tuple [p.1, p.2]
/-- a new pair at T -/
theorem pair_rep {K : PySem.W.Frag} {c : Ct} {σ : L2.St} {H : Hp} {ρ : List En} (g : Gd K c σ H ρ) {T : Addr} {x y : V} {d e : PyData} (hT : H T = none) (rx : Rep K (Mof c ρ) H d x) (ry : Rep K (Mof c ρ) H e y) :
    Sm H (upd H T (.tup [x, y])) ∧ Rep K (Mof c ρ) (upd H T (.tup [x, y])) (.tuple [d, e]) (.ref T) := by
  have sm : Sm H (upd H T (.tup [x, y])) := sm_upd hT
  have m : Mv (Mof c ρ) (Mof c ρ) H (upd H T (.tup [x, y])) := ⟨fun _ z => .inl z, fun b o e _ => sm b o e⟩
  exact ⟨sm, T, [x, y], rfl, .inl ⟨upd_same, fun z => g.mth z hT⟩, x, [y], rfl, rx.mv m, y, [], rfl, ry.mv m, rfl⟩
section
variable {X : Cx} {E : EK} {e e2 : Expr} {K : PySem.W.Frag} {c : Ct} {ρ : List En} {H : Hp}
theorem walks_enL {ds : List PyData} {a : Addr} {s : Src} (hs : s.items = enumD ds) (h : ∀ c' σ' ρ' H', Lt K c ρ H c' σ' ρ' H' s → ∃ xs, H' a = some (.lst xs) ∧ RepAll K (Mof c' ρ') H' ds xs) : WalksD K c ρ H s (Ite K a) := by
  have hl : s.items.length = ds.length := by rw [hs, enumD_len]
  refine ⟨fun c' σ' ρ' H' i l hi => ?_, fun c' σ' ρ' H' l => ?_, fun c' σ' ρ' H' i x H'' l hi y => ?_⟩
  · obtain ⟨xs, h1, h2⟩ := h _ _ _ _ l
    have : i < xs.length := by rw [h2.len, ← hl]; exact hi
    exact ⟨xs, xs[i], .of h1, by simp [this]⟩
  · obtain ⟨xs, h1, h2⟩ := h _ _ _ _ l
    exact ⟨xs, .of h1, by rw [h2.len, ← hl]; exact Nat.le_refl _⟩
  · obtain ⟨xs, h1, h2⟩ := h _ _ _ _ l
    obtain ⟨T, v, rfl, hT, rfl, y⟩ := y
    obtain ⟨d, hd, rd⟩ := h2.getV (y xs (.of h1))
    obtain ⟨q1, q2⟩ := pair_rep l.gd hT (d := .int ((i : Nat) : Int)) (x := .int ((i : Nat) : Int)) rfl rd
    exact ⟨q1, _, by rw [hs]; exact enumD_get hd, q2⟩
theorem walks_enT {ds : List PyData} {a : Addr} {s : Src} (hs : s.items = enumD ds) (h : ∀ c' σ' ρ' H', Lt K c ρ H c' σ' ρ' H' s → ∃ xs, TpAt K (Mof c' ρ') H' a xs ∧ RepAll K (Mof c' ρ') H' ds xs) : WalksD K c ρ H s (ItT K a) := by
  have hl : s.items.length = ds.length := by rw [hs, enumD_len]
  refine ⟨fun c' σ' ρ' H' i l hi => ?_, fun c' σ' ρ' H' l => ?_, fun c' σ' ρ' H' i x H'' l hi y => ?_⟩
  · obtain ⟨xs, h1, h2⟩ := h _ _ _ _ l
    have : i < xs.length := by rw [h2.len, ← hl]; exact hi
    exact ⟨xs, xs[i], h1.sq, by simp [this]⟩
  · obtain ⟨xs, h1, h2⟩ := h _ _ _ _ l
    exact ⟨xs, h1.sq, by rw [h2.len, ← hl]; exact Nat.le_refl _⟩
  · obtain ⟨xs, h1, h2⟩ := h _ _ _ _ l
    obtain ⟨T, v, rfl, hT, rfl, y⟩ := y
    obtain ⟨d, hd, rd⟩ := h2.getV (y xs h1.sq)
    obtain ⟨q1, q2⟩ := pair_rep l.gd hT (d := .int ((i : Nat) : Int)) (x := .int ((i : Nat) : Int)) rfl rd
    exact ⟨q1, _, by rw [hs]; exact enumD_get hd, q2⟩
/-- a list or tuple that is walked beside others: its items, the slots whose lists must stay -/
def colOf : R → List En → Option (List PyData × List (Nat × Addr × List PyData))
  | .val (.list ds), _ => some (ds, [])
  | .val (.tuple ds), _ => some (ds, [])
  | .see (.list ds), _ => some (ds, [])
  | .see (.tuple ds), _ => some (ds, [])
  | .at i, ρ => (match ρ[i]? with
    | some (.own l (.list ds)) => some (ds, [(i, l, ds)])
    | some (.io l (.list ds)) => some (ds, [(i, l, ds)])
    | _ => none)
  | _, _ => none
def mkSrc (its : List PyData) : List (Nat × Addr × List PyData) → Src
  | [] => .fixed its
  | q :: ls => .many its (q :: ls)
theorem mk_items (its : List PyData) (ls : List (Nat × Addr × List PyData)) : (mkSrc its ls).items = its := by cases ls <;> rfl
theorem mk_ok {its : List PyData} {ls : List (Nat × Addr × List PyData)} {ρ : List En} (h : (mkSrc its ls).ok ρ) : ∀ q ∈ ls, HeldAt ρ q := by
  cases ls with
  | nil => intro q hq; cases hq
  | cons _ _ => exact h
theorem ok_mk {its : List PyData} {ls : List (Nat × Addr × List PyData)} {ρ : List En} (h : ∀ q ∈ ls, HeldAt ρ q) : (mkSrc its ls).ok ρ := by
  cases ls with
  | nil => exact trivial
  | cons _ _ => exact h
/-- it stands there at every later state -/
def ColL (K : PySem.W.Frag) (c : Ct) (ρ : List En) (H : Hp) (a : Addr) (ds : List PyData) (ls : List (Nat × Addr × List PyData)) : Prop := ∀ c' σ' ρ' H', Gd K c' σ' H' ρ' → Mv (Mof c ρ) (Mof c' ρ') H H' → Mv (Wof c ρ) (Wof c' ρ') H H' → (∀ q ∈ ls, HeldAt ρ' q) → ∃ xs, H' a = some (.lst xs) ∧ RepAll K (Mof c' ρ') H' ds xs
def ColT (K : PySem.W.Frag) (c : Ct) (ρ : List En) (H : Hp) (a : Addr) (ds : List PyData) : Prop := ∀ c' σ' ρ' H', Gd K c' σ' H' ρ' → Mv (Mof c ρ) (Mof c' ρ') H H' → ∃ xs, TpAt K (Mof c' ρ') H' a xs ∧ RepAll K (Mof c' ρ') H' ds xs
theorem col_run {σ : L2.St} {v : V} {r : R} {ds : List PyData} {ls : List (Nat × Addr × List PyData)} (p : RepR K c σ H ρ v r) (g : Gd K c σ H ρ) (h : colOf r ρ = some (ds, ls)) :
    (∀ q ∈ ls, HeldAt ρ q) ∧ ∃ a, v = .ref a ∧ (((∃ xs, SqL K H a xs) ∧ ColL K c ρ H a ds ls) ∨ ((∃ xs, SqT K H a xs) ∧ ColT K c ρ H a ds)) := by
  unfold colOf at h
  split at h
  · cases h
    obtain ⟨a, xs, rfl, l, ra⟩ := p
    exact ⟨(fun _ z => by cases z), a, rfl, .inl ⟨⟨xs, .of l.1⟩, fun c' σ' ρ' H' g' m w ok => ⟨xs, (m.rd l).1, ra.mv m⟩⟩⟩
  · cases h
    obtain ⟨a, xs, rfl, l, ra⟩ := p
    refine ⟨(fun _ z => by cases z), a, rfl, .inr ⟨⟨xs, l.sq⟩, fun c' σ' ρ' H' g' m => ⟨xs, ?_, ra.mv m⟩⟩⟩
    rcases l with l | l
    · exact .inl (m.rd l)
    · exact .inr l
  · cases h
    obtain ⟨a, xs, rfl, l, ra⟩ := p
    exact ⟨(fun _ z => by cases z), a, rfl, .inl ⟨⟨xs, .of l.1⟩, fun c' σ' ρ' H' g' m w ok => ⟨xs, (w.rd l).1, ra.mv m⟩⟩⟩
  · cases h
    obtain ⟨a, xs, rfl, l, ra⟩ := p
    refine ⟨(fun _ z => by cases z), a, rfl, .inr ⟨⟨xs, l.sq⟩, fun c' σ' ρ' H' g' m => ⟨xs, ?_, ra.mv m⟩⟩⟩
    rcases l with l | l
    · exact .inl (m.rd l)
    · exact .inr l
  · rename_i i
    have key : ∀ l, HeldAt ρ (i, l, ds) → ls = [(i, l, ds)] → (∀ q ∈ ls, HeldAt ρ q) ∧ ∃ a, v = .ref a ∧ (((∃ xs, SqL K H a xs) ∧ ColL K c ρ H a ds ls) ∨ ((∃ xs, SqT K H a xs) ∧ ColT K c ρ H a ds)) := by
      rintro l he rfl
      obtain ⟨l', rfl, hl⟩ := p
      have : l' = l ∧ ∃ xs, H l = some (.lst xs) := by
        rcases he with he | he
        · obtain ⟨h1, ⟨xs, h2, h3⟩, _⟩ := g.own i l _ he
          rw [hl] at h1; cases h1
          exact ⟨rfl, xs, h2⟩
        · obtain ⟨h1, ⟨xs, h2, h3⟩, _⟩ := g.io i l _ he
          rw [hl] at h1; cases h1
          exact ⟨rfl, xs, h2⟩
      obtain ⟨rfl, xs, h2⟩ := this
      refine ⟨by simpa using he, l', rfl, .inl ⟨⟨xs, .of h2⟩, fun c' σ' ρ' H' g' m w ok => ?_⟩⟩
      rcases ok _ List.mem_cons_self with q | q
      · obtain ⟨_, ⟨ys, a1, a2⟩, _⟩ := g'.own _ _ _ q; exact ⟨ys, a1, a2⟩
      · obtain ⟨_, ⟨ys, a1, a2⟩, _⟩ := g'.io _ _ _ q; exact ⟨ys, a1, a2⟩
    split at h
    · rename_i l ds' he
      cases h
      exact key l (.inl he) rfl
    · rename_i l ds' he
      cases h
      exact key l (.inr he) rfl
    · cases h
  · cases h
def wEnum (u : WA) : WI := fun kx ρ k => u kx ρ fun rs ρ1 => ∃ r ds ls, rs = [r] ∧ colOf r ρ1 = some (ds, ls) ∧ k (mkSrc (enumD ds) ls) ρ1
theorem bi_enumerate {tge : List Expr} {kk : Nat} {tpos p pos : Pos} {u : WA} (hg : Gl X "enumerate") (hm : X.mg "enumerate" = none) (ha : BA X E [e] u) (hs : starEach [e] X.env = [(false, eval e X.env)] := by rfl) :
    BI X E (.Tuple tge kk tpos) (.Call (.Name "enumerate" p) [e] [] pos) (wEnum u) := by
  refine ⟨piI (pi_enumA hg hm ha.pa hs) fun σ H RR ⟨c, ρ, k, kx, gd, hw, hk, hx⟩ => ?_⟩
  refine ⟨c, ρ, _, kx, gd, hw, fun rs ρ1 vs H1 k1 g1 e1 p1 => ?_, hx⟩
  obtain ⟨r, ds, ls, rfl, hc, k2⟩ := k1
  cases p1 with
  | cons pv pn =>
    cases pn
    obtain ⟨ok, a, rfl, h⟩ := col_run pv g1 hc
    rcases h with ⟨⟨xs, hq⟩, h⟩ | ⟨⟨xs, hq⟩, h⟩
    · exact ⟨a, xs, rfl, .inl ⟨hq, hk _ ρ1 _ H1 k2 g1 e1 (ok_mk ok) (walks_enL (mk_items _ _) fun c' σ' ρ' H' lt => h c' σ' ρ' H' lt.gd lt.m lt.w (mk_ok lt.ok))⟩⟩
    · exact ⟨a, xs, rfl, .inr ⟨hq, hk _ ρ1 _ H1 k2 g1 e1 (ok_mk ok) (walks_enT (mk_items _ _) fun c' σ' ρ' H' lt => h c' σ' ρ' H' lt.gd lt.m)⟩⟩
end
end LB

/-! LB, part 26: an exception class as the text's top leaves it. -/
namespace LB
open PySem PySem.Spec PyProof.Rows L2
/-- the first statement of a class's text -/
def initOf : Stmt → Stmt
  | .ClassDef _ _ _ (s :: _) _ _ _ _ _ _ _ => s
  | s => s
def okFr (sc : Scope) : Bool := sc.names.all fun y => decide (y.2 = .cell ∨ y.2 = .free → y.1 = "__class__" ∧ y.2 = .free)
theorem rz_mk {P : Program} {w : World} {K : PySem.W.Frag} {mg : Str → Option Value} {base : Heap} {x fld xn tx : Str} {C fI cdE ccE N : Addr} {st : Stmt} {nm q qual file : Str} {bs bm : List Value} {sn : List Str} {sub : List Value} {ab : Bool} {col : Option Bool} {dd : Option Addr} {k0 k1 k2 k3 k5 : Option Value}
    {oc kV doc pm ct cl cl3 : Value} {an od od2 od3 : Option Addr} {osl sl sl3 : Array (Option Value)} {vs : Array Value} {tf : Tok} {params : Arguments} {scope : Scope} {ar : Arg} {p0 p1 p2 p3 p4 p5 p6 p7 p8 pc : Pos} {j0 : Nat}
    (mgC : mg x = some (.ref C)) (lC : K.lookup C = some (excClassObj nm q C N bs bm true sn sub ab col dd k0 k1 k2 k3 k5 "ValueError.__new__")) (rv : PySem.HandSPX.refsVE bm = true)
    (sa : PySem.W.findIn K (.ref C) "__setattr__" = some (some (.builtin "object.__setattr__"))) (exC : PySem.W.subIn K (.ref C) (.type "BaseException") = some true) (tyC : PySem.W.typeIn K (.ref C) = some (.type "type")) (kC : PySem.W.keepIn K (.ref C) = true)
    (iC : PySem.W.findIn K (.ref C) "__init__" = some (some (.ref fI))) (tI : PySem.W.typeIn K (.ref fI) = some (.type "function"))
    (lk : K.lookup fI = some ⟨oc, od, .func (PySem.W.ksFn "__init__" qual (defArgs st) (defBody st) (defScope st) .none kV doc pm an (.ref cdE) ct ccE), osl⟩) (hcd : PySem.W.codeIn K (.ref cdE) qual = true)
    (lcd : K.lookup cdE = some ⟨cl, od2, .fields vs, sl⟩) (hv : vs[2]? = some (.str file tf)) (lcc : K.lookup ccE = some ⟨cl3, od3, .cell (some (.ref C)), sl3⟩)
    (noany : PySem.W.nsIn K cStatics "thirdparty.any" = some none) (up : PySem.W.ks_superIn K C C "__init__" = some (some (.builtin veI))) (smro : PySem.W.mroIn K C (.ref C) = some true) (ve : PySem.W.subIn K (.ref C) (.type "ValueError") = some true) (hno : PySem.W.findIn K (.ref C) fld = some none)
    (hm : mg "super" = none)
    (hfile : ((P.main.file : Str) == file) = true) (top : (P.main.scope.names.lookup ("super" : Str)).isSome = false)
    (hB : defBody st = sinitB p0 p1 p2 p3 p4 p5 p6 p7 p8 pc j0 tx fld xn) (hA : defArgs st = params) (hS : defScope st = scope)
    (hpar : (params.posonlyargs ++ params.args).head? = some ar) (har : ar.arg = "self") (sk : scope.kind = .function) (sco : scope.isCoroutine = false) (sge : scope.isGenerator = false)
    (k1' : scope.names.lookup ("super" : Str) = some .globalImplicit) (k2' : scope.names.lookup ("__class__" : Str) = some .free) (k3' : scope.names.lookup ("self" : Str) = some .local) (k4' : scope.names.lookup xn = some .local) (nx : (xn == "self") = false) (nd1 : (xn == ("__debug__" : Str)) = false) (nd2 : (xn == ("__classdict__" : Str)) = false)
    (hfr : okFr scope = true) (hbi : ∀ us : List Value, us.length = 2 → bindArgs (PySem.W.ksFn "__init__" qual params (sinitB p0 p1 p2 p3 p4 p5 p6 p7 p8 pc j0 tx fld xn) scope .none kV doc pm an (.ref cdE) ct ccE) ⟨us, []⟩ = pure ((["self", xn] : List Str).zip us))
    (hswap : ∀ env, swapsWith (.Name xn p7) (some (.Attribute (.Name "self" p5) fld p6)) p8.line env = pure false)
    (hcall : ∀ env : Env, ∃ pl : Sem Bool, eval (.Call (.Attribute (.Call (.Name "super" p0) [] [] p1) "__init__" p2) [.Constant (.str tx) j0 pc] [] p3) env = (do
      let ov ← attributeBase (.Call (.Name "super" p0) [] [] p1) "__init__" env (eval (.Call (.Name "super" p0) [] [] p1) env)
      standAt p2.atName
      let (f, first) ← holding [ov] (getMethod ov "__init__" pl)
      callWith p3 f first (backTo p3 (starEach [.Constant (.str tx) j0 pc] env)) []))
    (hsw2 : ∀ env, swapsWith (.Call (.Attribute (.Call (.Name "super" p0) [] [] p1) "__init__" p2) [.Constant (.str tx) j0 pc] [] p3) none p4.line env = pure false) :
    Rz P w K mg base x C fld := by
  subst hA hS
  rw [hB] at lk
  have T : OexC K C := ⟨⟨nm, q, N, bs, bm, sn, sub, ab, col, dd, k0, k1, k2, k3, k5, lC, rv⟩, sa, exC, tyC, kC⟩
  exact Rz.of T mgC iC tI (fn_sinit lk hcd T ⟨⟨_, _, _, lk⟩, ⟨_, _, _, _, _, _, lcd, hv, hfile⟩, ⟨_, _, _, lcc⟩, top, noany, up, smro, ve⟩ hpar har sk sco sge k1' k2' k3' k4' (by simpa using nx) nd1 nd2
    (fun y hy => of_decide_eq_true (List.all_eq_true.mp hfr y hy)) hm hno hswap hcall hsw2) (.all hbi)
end LB

/-! LB, part 27: upper, index. -/
namespace LB
open PySem PySem.Spec PyProof.Rows L2
section
variable {X : Cx} {E : EK}
def gUpper : GM
  | .str a, [], k => a.length ≤ 5592405 ∧ k (.str (Txt.upper a))
  | _, _, _ => False
theorem md_upper : MtD X "str.upper" gUpper := by
  refine ⟨_, mt_upper, fun M H x xs d ds k Q th sd sa hg hq => ?_⟩
  unfold gUpper at hg
  split at hg
  · cases sa
    exact ⟨_, sd.str, rfl, hg.1, hq _ _ _ hg.2 (fun _ _ z => z) rfl⟩
  · exact hg.elim
/-- a module's tuple, by its place -/
structure GlT (K : PySem.W.Frag) (mg : Str → Option Value) (x : Str) (ds : List PyData) : Prop where
  ex : ∃ (a : Addr) (its : Array Value) (n : Nat) (sl : Array (Option Value)), mg x = some (.ref a) ∧ K.lookup a = some ⟨.type "tuple", none, .seq its n, sl⟩ ∧ its.size ≤ sizeLine ∧ WdA K ds its.toList
theorem glt {K : PySem.W.Frag} {mg : Str → Option Value} {x : Str} {ds : List PyData} {a : Addr} {its : Array Value} {n : Nat} {sl : Array (Option Value)} (h : mg x = some (.ref a)) (l : K.lookup a = some ⟨.type "tuple", none, .seq its n, sl⟩) (z : its.size ≤ sizeLine) (w : WdA K ds its.toList) : GlT K mg x ds := ⟨a, its, n, sl, h, l, z, w⟩
/-- T.index(e), T a module's tuple of texts -/
def wTix (ds : List PyData) (we : WE) : WE := fun kx ρ k => we kx ρ fun r ρ1 => ∃ z j, r.get ρ1 = some (.str z) ∧ ds[j]? = some (.str z) ∧ (∀ m : Nat, m < j → ds[m]? ≠ some (.str z)) ∧ k (.val (.int ((j : Nat) : Int))) ρ1
theorem be_tix {x : Str} {ws : List Str} {e : Expr} {we : WE} {p apos cpos : Pos} (G : GlT X.K X.mg x (ws.map .str)) (hg : Gl X x) (he : BE X E e we) (hdb : (x == ("__debug__" : Str)) = false := by decide)
    (hbase : attributeBase (.Name x p) "index" X.env (eval (.Name x p) X.env) = eval (.Name x p) X.env := by rfl)
    (hfew : ((backTo cpos (starEach [e] X.env)).all (fun x => !x.1) && (backToKw cpos (keywordEach [] X.env)).all (fun x => x.1.isSome)
      && decide ([e].length + ([] : List Keyword).length + (if ([] : List Keyword).isEmpty then 0 else 1) < 30)) = true := by rfl)
    (hline : (apos.endLine == cpos.line) = true := by rfl) (hs : starEach [e] X.env = (false, eval e X.env) :: starEach [] X.env := by rfl) (hplain : (backTo cpos (starEach [] X.env)).any (·.1) = false := by rfl) :
    BE X E (.Call (.Attribute (.Name x p) "index" apos) [e] [] cpos) (wTix (ws.map .str) we) := by
  obtain ⟨a, its, n, sl, h1, h2, h3, vs, h4, h5⟩ := G.ex
  have hv := (h5 No (fun _ => none)).strsV
  subst hv
  refine ⟨peI (pe_bm PySem.F.plainAttrs_tuple PySem.F.slot_tuple_index PySem.F.type_tuple_index mt_tup_index (pe_glob (v := .ref a) hg h1 rfl hdb) (pa_cons he.pe pa_nil hs) hbase hfew hline hs hplain) fun σ H Q ⟨c, ρ, k, kx, gd, hw, hk, hx⟩ => ?_⟩
  refine ⟨.inr (.inl ⟨rfl, _, h2, rfl, rfl⟩), c, ρ, _, kx, gd, hw, fun r ρ1 v H1 k1 g1 e1 p1 => ?_, hx⟩
  obtain ⟨z, j, hz, hj, hm, hk1⟩ := k1
  have hv : v = .str z := (p1.see g1 hz).str
  subst hv
  have hjs : ws[j]? = some z := by
    rw [List.getElem?_map] at hj
    obtain ⟨y, h6, h7⟩ := Option.map_eq_some_iff.mp hj
    cases h7
    exact h6
  exact ⟨a, ws, z, j, rfl, rfl, .inr ⟨_, its, n, h2, rfl, rfl, h3, h4⟩, hjs, fun m hmj q => hm m hmj (by rw [List.getElem?_map, q]; rfl), hk _ _ _ _ hk1 g1 e1 rfl⟩
end
end LB
namespace LB
open PySem PySem.Spec PyProof.Rows L2
theorem Hz.pe {X : Cx} {x : Str} {C : Addr} {pos : Pos} (Z : Hz X.K X.mg x C) (hg : Gl X x) (hdb : (x == ("__debug__" : Str)) = false := by decide) : PE X (.Name x pos) (tC (.ref C)) := pe_glob hg Z.mgC rfl hdb
theorem rel_ref {C : Addr} : ∀ u, RelV (.ref C) u → u = .ref C := fun _ h => h
theorem rel_ty {T : String} : ∀ u, RelV (.ty T) u → u = .type T := fun _ h => h
theorem pe_tyN {X : Cx} {x : Str} {T : String} {pos : Pos} (hg : Gl X x) (hm : X.mg x = none) (hv : bootBuiltins x = some (.type T)) (hn : x ≠ "__name__" := by decide) (hd : (x == ("__debug__" : Str)) = false := by decide) : PE X (.Name x pos) (tC (.ty T)) := pe_bltn hg hm hv rfl hn hd
end LB
namespace LB
open PySem PySem.Spec PyProof.Rows L2
theorem roomH_suite {X : Cx} {k : Nat} {a : Addr} {pn : List (Addr × Obj)} (hr : Room k X.A) : L2H.RoomH k (X.suite a pn).A := ⟨hr.dp, hr.un⟩
end LB

/-! LB, part 28: typed loops; texts in lists. -/
namespace LB
open PySem PySem.Spec PyProof.Rows L2
section
variable {α : Type} {enc : α → PyData} {l : List α}
/-- [g a for a in l if p a], nothing else changed -/
theorem LcP.sel {vs : List Nat} {gt : WG} {wt : WT} {we : WE} {ρ1 : List En} {k : PyData → List En → Prop} (p : α → Bool) (g : α → PyData) (hl : l.length ≤ sizeLine)
    (turn : ∀ (i : Nat) (a : α) (acc : List PyData) (Pn : List PyData → List En → Prop), l[i]? = some a → acc.length < sizeLine → (p a = true → Pn (acc ++ [g a]) (wipeR ρ1 vs)) → (p a = false → Pn acc (wipeR ρ1 vs)) →
      gt (enc a) (wipeR ρ1 vs) fun ρ3 => wt (fun _ _ => False) ρ3 fun b ρ4 => if b = true then we (fun _ _ => False) ρ4 fun r ρ5 => ∃ z ρ6, r.fz ρ5 = some (z, ρ6) ∧ acc.length < sizeLine ∧ Pn (acc ++ [z]) (wipeR ρ6 vs) else Pn acc (wipeR ρ4 vs))
    (done : k (.list ((l.filter p).map g)) (restR ρ1 (wipeR ρ1 vs) vs)) : LcP vs gt wt we (.fixed (l.map enc)) ρ1 k := by
  refine LcP.inv (fun i acc ρ => ρ = wipeR ρ1 vs ∧ acc = ((l.take i).filter p).map g) ⟨rfl, rfl⟩ ?_ ?_
  · rintro i d acc ρ2 hd ⟨rfl, rfl⟩
    obtain ⟨a, ha, rfl⟩ := map_get hd
    have tk : l.take (i + 1) = l.take i ++ [a] := by rw [List.take_succ, ha]; rfl
    have hi := (List.getElem?_eq_some_iff.mp ha).1
    refine turn i a _ (fun acc ρ => ρ = wipeR ρ1 vs ∧ acc = ((l.take (i + 1)).filter p).map g) ha ?_ (fun hp => ⟨rfl, ?_⟩) (fun hp => ⟨rfl, ?_⟩)
    · rw [List.length_map]
      have h1 := List.length_filter_le p (l.take i)
      rw [List.length_take] at h1
      omega
    · rw [tk, List.filter_append, List.map_append, List.filter_cons_of_pos hp]; rfl
    · rw [tk, List.filter_append, List.filter_cons_of_neg (by simp [hp]), List.filter_nil, List.append_nil]
  · rintro acc ρ2 ⟨rfl, rfl⟩
    rw [List.length_map, List.take_length]
    exact done
/-- [.. for a in l if ..] with an invariant -/
theorem LcP.lst {vs : List Nat} {gt : WG} {wt : WT} {we : WE} {ρ1 : List En} {k : PyData → List En → Prop} (P : Nat → List PyData → List En → Prop) (h0 : P 0 [] (wipeR ρ1 vs))
    (turn : ∀ (i : Nat) (a : α) (acc : List PyData) (ρ2 : List En), l[i]? = some a → P i acc ρ2 →
      gt (enc a) ρ2 fun ρ3 => wt (fun _ _ => False) ρ3 fun b ρ4 => if b = true then we (fun _ _ => False) ρ4 fun r ρ5 => ∃ z ρ6, r.fz ρ5 = some (z, ρ6) ∧ acc.length < sizeLine ∧ P (i + 1) (acc ++ [z]) (wipeR ρ6 vs) else P (i + 1) acc (wipeR ρ4 vs))
    (done : ∀ acc ρ2, P l.length acc ρ2 → k (.list acc) (restR ρ1 ρ2 vs)) : LcP vs gt wt we (.fixed (l.map enc)) ρ1 k := by
  refine LcP.inv P h0 (fun i d acc ρ2 hd hp => ?_) (fun acc ρ2 hp => done acc ρ2 (by rwa [List.length_map] at hp))
  obtain ⟨a, ha, rfl⟩ := map_get hd
  exact turn i a acc ρ2 ha hp
/-- for a in l -/
theorem ForP.lst {gt : WG} {wb : WS} {W : WD} {ρ1 : List En} (P : Nat → List En → Prop) (h0 : P 0 ρ1)
    (turn : ∀ (i : Nat) (a : α) (ρ2 : List En), l[i]? = some a → P i ρ2 → gt (enc a) ρ2 fun ρ3 => wb { W with nx := P (i + 1), ct := P (i + 1), bk := W.nx } ρ3) (done : ∀ ρ2, P l.length ρ2 → W.nx ρ2) : ForP gt wb W (.fixed (l.map enc)) ρ1 := by
  refine ForP.inv P h0 (fun i d ρ2 hd hp => ?_) (fun ρ2 hp => done ρ2 (by rwa [List.length_map] at hp))
  obtain ⟨a, ha, rfl⟩ := map_get hd
  exact turn i a ρ2 ha hp
/-- for i, a in enumerate(l) -/
theorem ForP.enum {gt : WG} {wb : WS} {W : WD} {ρ1 : List En} (P : Nat → List En → Prop) (h0 : P 0 ρ1)
    (turn : ∀ (i : Nat) (a : α) (ρ2 : List En), l[i]? = some a → P i ρ2 → gt (.tuple [.int ((i : Nat) : Int), enc a]) ρ2 fun ρ3 => wb { W with nx := P (i + 1), ct := P (i + 1), bk := W.nx } ρ3) (done : ∀ ρ2, P l.length ρ2 → W.nx ρ2) : ForP gt wb W (.fixed (enumD (l.map enc))) ρ1 := by
  refine ForP.inv P h0 (fun i d ρ2 hd hp => ?_) (fun ρ2 hp => done ρ2 (by rwa [enumD_len, List.length_map] at hp))
  have hi : i < l.length := by
    have := (List.getElem?_eq_some_iff.mp hd).1
    rwa [enumD_len, List.length_map] at this
  have ha : l[i]? = some l[i] := List.getElem?_eq_getElem hi
  have he : (enumD (l.map enc))[i]? = some (.tuple [.int ((i : Nat) : Int), enc l[i]]) := enumD_get (by rw [List.getElem?_map, ha]; rfl)
  rw [hd] at he
  cases he
  exact turn i _ ρ2 ha hp
end
/-- for i in range(n) -/
theorem ForP.rng {gt : WG} {wb : WS} {W : WD} {ρ1 : List En} {n : Nat} (P : Nat → List En → Prop) (h0 : P 0 ρ1)
    (turn : ∀ (i : Nat) (ρ2 : List En), i < n → P i ρ2 → gt (.int ((i : Nat) : Int)) ρ2 fun ρ3 => wb { W with nx := P (i + 1), ct := P (i + 1), bk := W.nx } ρ3) (done : ∀ ρ2, P n ρ2 → W.nx ρ2) : ForP gt wb W (.fixed (rgD 0 n)) ρ1 := by
  refine ForP.inv P h0 (fun i d ρ2 hd hp => ?_) (fun ρ2 hp => done ρ2 (by rwa [rgD_len] at hp))
  obtain ⟨hi, rfl⟩ := rgD_mem hd
  rw [Int.zero_add]
  exact turn i ρ2 hi hp
theorem LcP.rng {vs : List Nat} {gt : WG} {wt : WT} {we : WE} {ρ1 : List En} {n : Nat} {k : PyData → List En → Prop} (P : Nat → List PyData → List En → Prop) (h0 : P 0 [] (wipeR ρ1 vs))
    (turn : ∀ (i : Nat) (acc : List PyData) (ρ2 : List En), i < n → P i acc ρ2 →
      gt (.int ((i : Nat) : Int)) ρ2 fun ρ3 => wt (fun _ _ => False) ρ3 fun b ρ4 => if b = true then we (fun _ _ => False) ρ4 fun r ρ5 => ∃ z ρ6, r.fz ρ5 = some (z, ρ6) ∧ acc.length < sizeLine ∧ P (i + 1) (acc ++ [z]) (wipeR ρ6 vs) else P (i + 1) acc (wipeR ρ4 vs))
    (done : ∀ acc ρ2, P n acc ρ2 → k (.list acc) (restR ρ1 ρ2 vs)) : LcP vs gt wt we (.fixed (rgD 0 n)) ρ1 k := by
  refine LcP.inv P h0 (fun i d acc ρ2 hd hp => ?_) (fun acc ρ2 hp => done acc ρ2 (by rwa [rgD_len] at hp))
  obtain ⟨hi, rfl⟩ := rgD_mem hd
  rw [Int.zero_add]
  exact turn i acc ρ2 hi hp
/-- [g i for i in range(n) if p i] -/
theorem LcP.rsel {vs : List Nat} {gt : WG} {wt : WT} {we : WE} {ρ1 : List En} {n : Nat} {k : PyData → List En → Prop} (p : Nat → Bool) (g : Nat → PyData) (hl : n ≤ sizeLine)
    (turn : ∀ (i : Nat) (acc : List PyData) (Pn : List PyData → List En → Prop), i < n → acc.length < sizeLine → (p i = true → Pn (acc ++ [g i]) (wipeR ρ1 vs)) → (p i = false → Pn acc (wipeR ρ1 vs)) →
      gt (.int ((i : Nat) : Int)) (wipeR ρ1 vs) fun ρ3 => wt (fun _ _ => False) ρ3 fun b ρ4 => if b = true then we (fun _ _ => False) ρ4 fun r ρ5 => ∃ z ρ6, r.fz ρ5 = some (z, ρ6) ∧ acc.length < sizeLine ∧ Pn (acc ++ [z]) (wipeR ρ6 vs) else Pn acc (wipeR ρ4 vs))
    (done : k (.list (((List.range n).filter p).map g)) (restR ρ1 (wipeR ρ1 vs) vs)) : LcP vs gt wt we (.fixed (rgD 0 n)) ρ1 k := by
  have e : rgD 0 n = (List.range n).map fun i => PyData.int ((i : Nat) : Int) := by
    unfold rgD
    refine List.map_congr_left fun i _ => by rw [Int.zero_add]
  rw [e]
  refine LcP.sel p g (by rw [List.length_range]; exact hl) (fun i a acc Pn ha hacc h1 h2 => ?_) done
  have hi := (List.getElem?_eq_some_iff.mp ha).1
  rw [List.length_range] at hi
  rw [List.getElem?_range hi] at ha
  cases ha
  exact turn i acc Pn hi hacc h1 h2
/-! ### texts -/
def strD (ws : List Str) : List PyData := ws.map .str
theorem strD_len (ws : List Str) : (strD ws).length = ws.length := List.length_map ..
theorem strD_get {ws : List Str} {i : Nat} {d : PyData} (h : (strD ws)[i]? = some d) : ∃ w, ws[i]? = some w ∧ d = .str w := map_get h
theorem strD_at {l : List Str} {j : Nat} {v : Str} (h : l[j]? = some v) : atI (strD l) ((j : Nat) : Int) = some (.str v) := atI_nat (by unfold strD; rw [List.getElem?_map, h]; rfl)
theorem strD_app (a b : List Str) : strD (a ++ b) = strD a ++ strD b := List.map_append
theorem strD_take (l : List Str) (n : Nat) : (strD l).take n = strD (l.take n) := by unfold strD; rw [List.map_take]
theorem strD_drop (l : List Str) (n : Nat) : (strD l).drop n = strD (l.drop n) := by unfold strD; rw [List.map_drop]
theorem strD_flat (ws : List Str) : (strD ws).all flatD = true := by
  rw [List.all_eq_true]
  intro x hx
  obtain ⟨v, _, rfl⟩ := List.mem_map.mp hx
  rfl
theorem natD_flat (vs : List Nat) : (natD vs).all flatD = true := by
  rw [List.all_eq_true]
  intro x hx
  obtain ⟨v, _, rfl⟩ := List.mem_map.mp hx
  rfl
theorem natD_app (a b : List Nat) : natD (a ++ b) = natD a ++ natD b := List.map_append
theorem natD_take (l : List Nat) (n : Nat) : (natD l).take n = natD (l.take n) := by unfold natD; rw [List.map_take]
theorem natD_drop (l : List Nat) (n : Nat) : (natD l).drop n = natD (l.drop n) := by unfold natD; rw [List.map_drop]
theorem eqv_str (a b : Str) : PyData.eqv (.str a) (.str b) = decide (a = b) := by
  simp only [PyData.eqv, Bool.beq_eq_decide_eq]
theorem inD_str (v : Str) (vs : List Str) : inD (.str v) (strD vs) = decide (v ∈ vs) := by
  unfold inD strD
  rw [List.any_map]
  have : ((fun z => PyData.eqv z (.str v)) ∘ fun w : Str => PyData.str w) = fun w : Str => decide (w = v) := funext fun w => eqv_str w v
  rw [this]
  by_cases h : v ∈ vs
  · rw [decide_eq_true h, List.any_eq_true]; exact ⟨v, h, by simp⟩
  · rw [decide_eq_false h, List.any_eq_false]; intro w hw; simp; intro q; exact h (q ▸ hw)
theorem inD_nat (v : Nat) (vs : List Nat) : inD (.int ((v : Nat) : Int)) (natD vs) = decide (v ∈ vs) := by
  unfold inD natD
  rw [List.any_map]
  have : ((fun z => PyData.eqv z (.int ((v : Nat) : Int))) ∘ fun w : Nat => PyData.int ((w : Nat) : Int)) = fun w : Nat => decide (w = v) := funext fun w => eqv_nat w v
  rw [this]
  by_cases h : v ∈ vs
  · rw [decide_eq_true h, List.any_eq_true]; exact ⟨v, h, by simp⟩
  · rw [decide_eq_false h, List.any_eq_false]; intro w hw; simp; intro q; exact h (q ▸ hw)
/-- x in xs: what the test's outcome says -/
theorem in_t {w : Str} {ws : List Str} (h : (if (false : Bool) = true then !inD (.str w) (strD ws) else inD (.str w) (strD ws)) = true) : w ∈ ws := by
  simpa [inD_str] using h
theorem in_f {w : Str} {ws : List Str} (h : (if (false : Bool) = true then !inD (.str w) (strD ws) else inD (.str w) (strD ws)) = false) : w ∉ ws := by
  simpa [inD_str] using h
theorem nin_t {w : Str} {ws : List Str} (h : (if (true : Bool) = true then !inD (.str w) (strD ws) else inD (.str w) (strD ws)) = true) : w ∉ ws := by
  simpa [inD_str] using h
theorem nin_f {w : Str} {ws : List Str} (h : (if (true : Bool) = true then !inD (.str w) (strD ws) else inD (.str w) (strD ws)) = false) : w ∈ ws := by
  simpa [inD_str] using h
theorem inn_t {w : Nat} {ws : List Nat} (h : (if (false : Bool) = true then !inD (.int ((w : Nat) : Int)) (natD ws) else inD (.int ((w : Nat) : Int)) (natD ws)) = true) : w ∈ ws := by
  simpa [inD_nat] using h
theorem inn_f {w : Nat} {ws : List Nat} (h : (if (false : Bool) = true then !inD (.int ((w : Nat) : Int)) (natD ws) else inD (.int ((w : Nat) : Int)) (natD ws)) = false) : w ∉ ws := by
  simpa [inD_nat] using h
theorem ninn_t {w : Nat} {ws : List Nat} (h : (if (true : Bool) = true then !inD (.int ((w : Nat) : Int)) (natD ws) else inD (.int ((w : Nat) : Int)) (natD ws)) = true) : w ∉ ws := by
  simpa [inD_nat] using h
theorem ninn_f {w : Nat} {ws : List Nat} (h : (if (true : Bool) = true then !inD (.int ((w : Nat) : Int)) (natD ws) else inD (.int ((w : Nat) : Int)) (natD ws)) = false) : w ∈ ws := by
  simpa [inD_nat] using h
/-! ### slices of lists -/
theorem cutD_map {α : Type} (f : α → PyData) (l : List α) (lo hi : Option Int) : cutD (l.map f) lo hi = ((l.drop (HT.sIx l.length 0 lo)).take (HT.sIx l.length l.length hi - HT.sIx l.length 0 lo)).map f := by
  unfold cutD
  rw [List.length_map, List.map_take, List.map_drop]
theorem cut_lo {α : Type} (f : α → PyData) (l : List α) (n : Nat) : cutD (l.map f) none (some ((n : Nat) : Int)) = (l.take n).map f := by
  rw [cutD_map, HT.sIx_nat, HT.sIx_none, List.drop_zero, Nat.sub_zero]
  congr 1
  exact List.take_eq_take_min.symm
theorem cut_hi {α : Type} (f : α → PyData) (l : List α) (n : Nat) : cutD (l.map f) (some ((n : Nat) : Int)) none = (l.drop n).map f := by
  rw [cutD_map, HT.sIx_nat, HT.sIx_none]
  congr 1
  by_cases h : n ≤ l.length
  · rw [Nat.min_eq_left h]
    have e : (l.drop n).length = l.length - n := List.length_drop
    rw [← e, List.take_length]
  · rw [Nat.min_eq_right (by omega), List.drop_of_length_le (by omega), List.drop_of_length_le (by omega)]
    simp
theorem cut_mid {α : Type} (f : α → PyData) (l : List α) (n m : Nat) : cutD (l.map f) (some ((n : Nat) : Int)) (some ((m : Nat) : Int)) = ((l.drop n).take (m - n)).map f := by
  rw [cutD_map, HT.sIx_nat, HT.sIx_nat]
  congr 1
  by_cases h : n ≤ l.length
  · rw [Nat.min_eq_left h]
    by_cases h2 : m ≤ l.length
    · rw [Nat.min_eq_left h2]
    · rw [Nat.min_eq_right (by omega)]
      have e : (l.drop n).length = l.length - n := List.length_drop
      rw [← e, List.take_length, List.take_of_length_le (by rw [e]; omega)]
  · rw [Nat.min_eq_right (show l.length ≤ n by omega), List.drop_of_length_le (show l.length ≤ n by omega), List.drop_of_length_le (Nat.le_refl _)]
    simp
/-- the last n away, the last n -/
theorem cut_all {α : Type} (f : α → PyData) (l : List α) : cutD (l.map f) none none = l.map f := by
  rw [cutD_map, HT.sIx_none, HT.sIx_none, List.drop_zero, Nat.sub_zero, List.take_length]
end LB

/-! LB, part 29: texts as lists of code points. -/
namespace LB
open PySem PySem.Spec PyProof.Rows L2
/-- the code points -/
def cp (s : Str) : List Nat := s.cps.toList
def ofCp (l : List Nat) : Str := ⟨l.toArray⟩
theorem cp_of (l : List Nat) : cp (ofCp l) = l := rfl
theorem of_cp (s : Str) : ofCp (cp s) = s := by cases s; rfl
theorem cp_inj {a b : Str} (h : cp a = cp b) : a = b := by rw [← of_cp a, ← of_cp b, h]
theorem cp_app (a b : Str) : cp (a ++ b) = cp a ++ cp b := by
  show ((a.cps ++ b.cps).toList) = _
  rw [Array.toList_append]; rfl
theorem cp_len (s : Str) : (cp s).length = s.length := Array.length_toList
theorem len_app (a b : Str) : (a ++ b).length = a.length + b.length := by rw [← cp_len, ← cp_len, ← cp_len, cp_app, List.length_append]
theorem cp_cut (z : Str) (lo hi : Option Int) : cp (cutS z lo hi) = ((cp z).drop (HT.sIx z.length 0 lo)).take (HT.sIx z.length z.length hi - HT.sIx z.length 0 lo) := rfl
theorem cp_lo (z : Str) (n : Nat) : cp (cutS z none (some ((n : Nat) : Int))) = (cp z).take n := by
  rw [cp_cut, HT.sIx_nat, HT.sIx_none, List.drop_zero, Nat.sub_zero, ← cp_len]
  exact List.take_eq_take_min.symm
theorem cp_hi (z : Str) (n : Nat) : cp (cutS z (some ((n : Nat) : Int)) none) = (cp z).drop n := by
  rw [cp_cut, HT.sIx_nat, HT.sIx_none, ← cp_len]
  by_cases h : n ≤ (cp z).length
  · rw [Nat.min_eq_left h]
    have e : ((cp z).drop n).length = (cp z).length - n := List.length_drop
    rw [← e, List.take_length]
  · rw [Nat.min_eq_right (by omega), List.drop_of_length_le (by omega), List.drop_of_length_le (by omega)]
    simp
theorem signs_cp (z : Str) : LB.signs z = (cp z).map fun c => PyData.str ⟨#[c]⟩ := rfl
theorem signs_len (z : Str) : (LB.signs z).length = z.length := by simp [LB.signs, Str.length]
theorem str1_inj {a b : Nat} (h : (⟨#[a]⟩ : Str) = ⟨#[b]⟩) : a = b := by
  injection h with h
  injection h with h
  exact (List.cons.inj h).1
/-- all its code points are such -/
theorem strOk_cp (s : Str) : PyData.strOk s = (cp s).all (· < 0x110000) := by
  show s.cps.all _ = s.cps.toList.all _
  rw [Array.all_toList]
theorem strOk_app {a b : Str} (h : PyData.strOk a = true) (h2 : PyData.strOk b = true) : PyData.strOk (a ++ b) = true := by
  rw [strOk_cp] at h h2 ⊢
  rw [cp_app, List.all_append, h, h2]; rfl
theorem all_sub {α : Type} {p : α → Bool} {a b : List α} (h : b.all p = true) (s : ∀ x ∈ a, x ∈ b) : a.all p = true := by
  rw [List.all_eq_true] at h ⊢
  exact fun x hx => h x (s x hx)
theorem strOk_cut {a : Str} {lo hi : Option Int} (h : PyData.strOk a = true) : PyData.strOk (cutS a lo hi) = true := by
  rw [strOk_cp] at h ⊢
  exact all_sub h fun x hx => List.mem_of_mem_drop (List.mem_of_mem_take hx)
theorem strOk_one {a : Str} {c : Nat} (h : PyData.strOk a = true) (hc : c ∈ cp a) : PyData.strOk ⟨#[c]⟩ = true := by
  rw [strOk_cp] at h ⊢
  exact all_sub h fun x hx => by
    have : x = c := by simpa [cp] using hx
    rw [this]; exact hc
theorem strOk_signs {a : Str} (h : PyData.strOk a = true) {y : PyData} (hy : y ∈ LB.signs a) : ∃ c, c ∈ cp a ∧ y = .str ⟨#[c]⟩ ∧ PyData.strOk ⟨#[c]⟩ = true := by
  obtain ⟨c, hc, rfl⟩ := List.mem_map.mp hy
  exact ⟨c, hc, rfl, strOk_one h hc⟩
/-! ### lists of texts compared -/
theorem shaped_strs {ws : List Str} (h : ∀ w ∈ ws, PyData.strOk w = true) : SeqAt.shaped (.list (strD ws)) = true := by
  unfold SeqAt.shaped strD
  simp only [PyData.canLay0, canLayAll_strs', PyData.depth, depthAll_strs']
  rw [List.all_eq_true.mpr h]; rfl
theorem eqvAll_strs : ∀ (a b : List Str), PyData.eqvAll (strD a) (strD b) = decide (a = b)
  | [], [] => by simp [strD, PyData.eqvAll]
  | [], b :: bs => by simp [strD, PyData.eqvAll]
  | a :: as, [] => by simp [strD, PyData.eqvAll]
  | a :: as, b :: bs => by
    show PyData.eqvAll (.str a :: strD as) (.str b :: strD bs) = _
    rw [PyData.eqvAll, eqvAll_strs as bs, eqv_str]
    by_cases h1 : a = b <;> by_cases h2 : as = bs <;> simp [h1, h2]
theorem eqv_strs (a b : List Str) : PyData.eqv (.list (strD a)) (.list (strD b)) = decide (a = b) := by
  rw [PyData.eqv, eqvAll_strs]
end LB
namespace LB
open PySem PySem.Spec PyProof.Rows L2
section
variable {α : Type} (f : α → PyData) (l : List α)
theorem map_lo {k : Int} (h : 0 ≤ k) : cutD (l.map f) none (some k) = (l.take k.toNat).map f := by
  obtain ⟨n, rfl⟩ := Int.eq_ofNat_of_zero_le h
  exact cut_lo f l n
theorem map_hi {k : Int} (h : 0 ≤ k) : cutD (l.map f) (some k) none = (l.drop k.toNat).map f := by
  obtain ⟨n, rfl⟩ := Int.eq_ofNat_of_zero_le h
  exact cut_hi f l n
theorem map_mid {k m : Int} (h : 0 ≤ k) (h2 : 0 ≤ m) : cutD (l.map f) (some k) (some m) = ((l.drop k.toNat).take (m.toNat - k.toNat)).map f := by
  obtain ⟨n, rfl⟩ := Int.eq_ofNat_of_zero_le h
  obtain ⟨q, rfl⟩ := Int.eq_ofNat_of_zero_le h2
  exact cut_mid f l n q
end
theorem strD_lo {l : List Str} {k : Int} (h : 0 ≤ k) : cutD (strD l) none (some k) = strD (l.take k.toNat) := map_lo .str l h
theorem strD_hi {l : List Str} {k : Int} (h : 0 ≤ k) : cutD (strD l) (some k) none = strD (l.drop k.toNat) := map_hi .str l h
theorem strD_mid {l : List Str} {k m : Int} (h : 0 ≤ k) (h2 : 0 ≤ m) : cutD (strD l) (some k) (some m) = strD ((l.drop k.toNat).take (m.toNat - k.toNat)) := map_mid .str l h h2
theorem natD_lo {l : List Nat} {k : Int} (h : 0 ≤ k) : cutD (natD l) none (some k) = natD (l.take k.toNat) := map_lo _ l h
theorem natD_hi {l : List Nat} {k : Int} (h : 0 ≤ k) : cutD (natD l) (some k) none = natD (l.drop k.toNat) := map_hi _ l h
theorem natD_mid {l : List Nat} {k m : Int} (h : 0 ≤ k) (h2 : 0 ≤ m) : cutD (natD l) (some k) (some m) = natD ((l.drop k.toNat).take (m.toNat - k.toNat)) := map_mid _ l h h2
theorem strD_one (w : Str) : [PyData.str w] = strD [w] := rfl
theorem natD_one (w : Nat) : [PyData.int ((w : Nat) : Int)] = natD [w] := rfl
/-- each is such -/
def All {α : Type} (p : α → Prop) (l : List α) : Prop := ∀ a ∈ l, p a
section
variable {α : Type} {p : α → Prop} {a b : List α}
theorem All.take (h : All p a) (n : Nat) : All p (a.take n) := fun x hx => h x (List.mem_of_mem_take hx)
theorem All.drop (h : All p a) (n : Nat) : All p (a.drop n) := fun x hx => h x (List.mem_of_mem_drop hx)
theorem All.app (h : All p a) (g : All p b) : All p (a ++ b) := fun x hx => (List.mem_append.mp hx).elim (h x) (g x)
theorem All.one {x : α} (h : p x) : All p [x] := fun y hy => by rw [List.mem_singleton.mp hy]; exact h
theorem All.nil : All p ([] : List α) := fun y hy => by cases hy
theorem All.cons {x : α} (h : p x) (g : All p a) : All p (x :: a) := fun y hy => (List.mem_cons.mp hy).elim (fun e => e ▸ h) (g y)
theorem All.filter (h : All p a) (q : α → Bool) : All p (a.filter q) := fun x hx => h x (List.mem_filter.mp hx).1
theorem All.get (h : All p a) {i : Nat} {x : α} (e : a[i]? = some x) : p x := h x (List.mem_of_getElem? e)
theorem All.imp {q : α → Prop} (h : All p a) (f : ∀ x, p x → q x) : All q a := fun x hx => f x (h x hx)
theorem All.erase (h : All p a) (i : Nat) : All p (a.eraseIdx i) := fun x hx => h x ((List.eraseIdx_sublist _ _).subset hx)
theorem All.rev (h : All p a) : All p a.reverse := fun x hx => h x (List.mem_reverse.mp hx)
end
end LB
namespace LB
open PySem PySem.Spec PyProof.Rows L2 in
theorem stv {d : PyData} {i : Nat} {ρ ρ' : List En} (h : ρ.set i (.val d) = ρ') : stR (.val d) i ρ = some ρ' := congrArg some h
end LB

/-! LB, part 30: texts split and joined. -/
namespace LB
open PySem PySem.Spec PyProof.Rows L2
theorem cut_first {c : Nat} : ∀ {a b A B : List Nat}, c ∉ a → c ∉ b → a ++ c :: A = b ++ c :: B → a = b ∧ A = B
  | [], [], A, B, _, _, h => ⟨rfl, (List.cons.inj h).2⟩
  | [], y :: b, A, B, _, h2, h => by
    have := (List.cons.inj h).1
    exact absurd (this ▸ List.mem_cons_self) h2
  | x :: a, [], A, B, h1, _, h => by
    have := (List.cons.inj h).1
    exact absurd (this ▸ List.mem_cons_self) h1
  | x :: a, y :: b, A, B, h1, h2, h => by
    obtain ⟨e, h⟩ := List.cons.inj h
    obtain ⟨p, q⟩ := cut_first (fun z => h1 (List.mem_cons_of_mem _ z)) (fun z => h2 (List.mem_cons_of_mem _ z)) h
    exact ⟨by rw [e, p], q⟩
theorem txt_join (s : Str) (l : List Str) : Txt.join s l = Str.join s l := StrLaws.glued_eq_join s l
theorem cp_join2 (s x y : Str) (r : List Str) : cp (Str.join s (x :: y :: r)) = cp x ++ (cp s ++ cp (Str.join s (y :: r))) := by
  show cp (x ++ s ++ Str.join s (y :: r)) = _
  rw [cp_app, cp_app, List.append_assoc]
theorem mem_join {s : Str} {c : Nat} : ∀ {l : List Str}, c ∈ cp (Str.join s l) → c ∈ cp s ∨ ∃ x ∈ l, c ∈ cp x
  | [], h => by simp [Str.join, cp, Str.empty] at h
  | [x], h => .inr ⟨x, List.mem_cons_self, h⟩
  | x :: y :: r, h => by
    rw [cp_join2] at h
    rcases List.mem_append.mp h with h | h
    · exact .inr ⟨x, List.mem_cons_self, h⟩
    · rcases List.mem_append.mp h with h | h
      · exact .inl h
      · rcases mem_join h with h | ⟨z, h1, h2⟩
        · exact .inl h
        · exact .inr ⟨z, List.mem_cons_of_mem _ h1, h2⟩
theorem join_inj {c : Nat} : ∀ {a b : List Str}, a ≠ [] → b ≠ [] → All (fun x => c ∉ cp x) a → All (fun x => c ∉ cp x) b → Str.join ⟨#[c]⟩ a = Str.join ⟨#[c]⟩ b → a = b
  | [], _, h, _, _, _, _ => absurd rfl h
  | _, [], _, h, _, _, _ => absurd rfl h
  | [x], [y], _, _, _, _, h => by rw [show x = y from h]
  | [x], y :: z :: r, _, _, h1, _, h => by
    have h3 : cp x = _ := congrArg cp (show x = Str.join ⟨#[c]⟩ (y :: z :: r) from h)
    rw [cp_join2] at h3
    exact absurd (h3 ▸ List.mem_append_right _ (List.mem_append_left _ (List.mem_singleton.mpr rfl))) (h1 x List.mem_cons_self)
  | y :: z :: r, [x], _, _, _, h1, h => by
    have h3 : _ = cp x := congrArg cp (show Str.join ⟨#[c]⟩ (y :: z :: r) = x from h)
    rw [cp_join2] at h3
    exact absurd (h3 ▸ List.mem_append_right _ (List.mem_append_left _ (List.mem_singleton.mpr rfl))) (h1 x List.mem_cons_self)
  | x :: x2 :: r, y :: y2 :: q, _, _, h1, h2, h => by
    have h3 := congrArg cp h
    rw [cp_join2, cp_join2] at h3
    obtain ⟨p1, p2⟩ := cut_first (h1 x List.mem_cons_self) (h2 y List.mem_cons_self) h3
    have := join_inj (by simp) (by simp) (fun z hz => h1 z (List.mem_cons_of_mem _ hz)) (fun z hz => h2 z (List.mem_cons_of_mem _ hz)) (cp_inj p2)
    rw [cp_inj p1, this]
theorem split_ne (x y : Str) : Txt.split x y ≠ [] := by
  unfold Txt.split
  split
  · simp
  · split
    · simp
    · intro h
      have := congrArg List.length h
      rw [length_partsBetween] at this
      simp at this
/-- rows joined and split again -/
theorem split_join {c : Nat} {rows : List Str} (h : rows ≠ []) (hc : All (fun x => c ∉ cp x) rows) : Txt.split (Txt.join ⟨#[c]⟩ rows) ⟨#[c]⟩ = rows := by
  refine join_inj (c := c) (split_ne _ _) h (fun p hp => StrLaws.split_free _ c p hp) hc ?_
  rw [StrLaws.join_split, txt_join]
/-- a text of the rows between the signs c -/
theorem join_split' (x : Str) (c : Nat) : Txt.join ⟨#[c]⟩ (Txt.split x ⟨#[c]⟩) = x := by rw [txt_join, StrLaws.join_split]
theorem sum_len_le {n : Nat} : ∀ {l : List Str}, All (fun x => x.length ≤ n) l → (l.map (·.length)).sum ≤ l.length * n
  | [], _ => by simp
  | x :: l, h => by
    have h1 := h x List.mem_cons_self
    have h2 := sum_len_le (n := n) (l := l) fun z hz => h z (List.mem_cons_of_mem _ hz)
    rw [List.map_cons, List.sum_cons, List.length_cons, Nat.add_mul]
    omega
theorem join_len {s : Str} {n : Nat} {l : List Str} (h : All (fun x => x.length ≤ n) l) : (Txt.join s l).length ≤ l.length * n + l.length * s.length := by
  rw [txt_join]
  have h1 := StrLaws.join_length_le s l
  have h2 := sum_len_le h
  omega
/-- one sign in a text -/
theorem found_cp (x : Str) (c : Nat) : (!(Builtin.Str.occurrences x ⟨#[c]⟩ 0 x.length 1).isEmpty) = decide (c ∈ cp x) := StrLaws.found_one x c
theorem strOk_join {s : Str} {l : List Str} (hs : PyData.strOk s = true) (h : All (fun x => PyData.strOk x = true) l) : PyData.strOk (Txt.join s l) = true := by
  rw [strOk_cp, List.all_eq_true]
  intro c hc
  rw [txt_join] at hc
  rcases mem_join hc with z | ⟨x, h1, h2⟩
  · rw [strOk_cp, List.all_eq_true] at hs; exact hs c z
  · have h3 : PyData.strOk x = true := h x h1
    rw [strOk_cp, List.all_eq_true] at h3; exact h3 c h2
theorem cp_join0 : ∀ (l : List Str), cp (Str.join ⟨#[]⟩ l) = (l.map cp).flatten
  | [] => rfl
  | [x] => by show cp x = _; simp
  | x :: y :: r => by
    rw [cp_join2, cp_join0 (y :: r)]
    simp [cp]
end LB

/-! LB, part 31: small help. -/
namespace LB
open PySem PySem.Spec PyProof.Rows L2
/-- not p as a test -/
theorem itN {p : Prop} [i : Decidable p] {a b : Prop} (h1 : ¬ p → a) (h2 : p → b) : @ite Prop ((!@decide p i) = true) (instDecidableEqBool _ _) a b := by
  by_cases h : p
  · rw [if_neg (by simp [h])]; exact h2 h
  · rw [if_pos (by simp [h])]; exact h1 h
theorem itNB {c : Bool} {a b : Prop} (h1 : c = false → a) (h2 : c = true → b) : @ite Prop ((!c) = true) (instDecidableEqBool _ _) a b := by
  cases c
  · exact h1 rfl
  · exact h2 rfl
theorem itNT {c : Bool} {a b : Prop} (h : c = true) (h1 : b) : @ite Prop ((!c) = true) (instDecidableEqBool _ _) a b := by rw [h]; exact h1
theorem itNF {c : Bool} {a b : Prop} (h : c = false) (h1 : a) : @ite Prop ((!c) = true) (instDecidableEqBool _ _) a b := by rw [h]; exact h1
/-- c in x, c one sign -/
theorem in_cp {c : Nat} {w s : Str} (hs : s = ⟨#[c]⟩) {b : Bool} (h : (if (false : Bool) = true then !(!(Builtin.Str.occurrences w s 0 w.length 1).isEmpty) else !(Builtin.Str.occurrences w s 0 w.length 1).isEmpty) = b) : decide (c ∈ cp w) = b := by
  subst hs
  rw [← found_cp]
  simpa using h
theorem nin_cp {c : Nat} {w s : Str} (hs : s = ⟨#[c]⟩) {b : Bool} (h : (if (true : Bool) = true then !(!(Builtin.Str.occurrences w s 0 w.length 1).isEmpty) else !(Builtin.Str.occurrences w s 0 w.length 1).isEmpty) = b) : (!decide (c ∈ cp w)) = b := by
  subst hs
  rw [← found_cp]
  simpa using h
theorem cdivw {x y : Int} (h : 0 < y) (h2 : y < 2147483648) : CDivW x y := ⟨h, by
  have : y.natAbs < 2 ^ 31 := by omega
  have := log2_lt this (by decide)
  omega⟩
theorem log2_small {i : Int} (h : i.natAbs < 2147483648) : i.natAbs.log2 < 1920 := by
  have : i.natAbs < 2 ^ 31 := by omega
  have := log2_lt this (by decide)
  omega
end LB

/-! LB, part 32: 'sep'.join(..).replace(y, z): the tokens of the written texts differ, as one was drawn before. -/
namespace LB
open PySem PySem.Spec PyProof.Rows L2
section
variable {X : Cx} {E : EK} {e : Expr} {es : List Expr} {T id : String} {name : Str} {apos cpos pos : Pos}
/-- after o one token at least is drawn -/
def Drew (X : Cx) (o : Expr) (to : TE) : Prop := ∀ pins s σ H Q, Inv X pins σ H s → to σ H Q → wpAny (model X.prog X.w) X.A (eval o X.env) (fun v s' => 1 ≤ s'.toks ∧ EP X pins σ Q v s') X.xe s
theorem Drew.i {o : Expr} {t t' : TE} (h : Drew X o t) (i : ∀ σ H Q, t' σ H Q → t σ H Q) : Drew X o t' := fun pins s σ H Q I q => h pins s σ H Q I (i σ H Q q)
theorem drew_bm {y0 : Str} {j0 : Nat} {p0 : Pos} {t : TA} {r : V → List V → Hp → VK → Prop} (pa : PlainAttrs T) (slot : Slot T name id) (hty : typeOf (.builtin id) = pure (.type "method_descriptor")) (hm : MtR X id r) (ha : PA X (e :: es) t)
    (hbase : attributeBase (.Constant (.str y0) j0 p0) name X.env (eval (.Constant (.str y0) j0 p0) X.env) = eval (.Constant (.str y0) j0 p0) X.env := by rfl)
    (hfew : ((backTo cpos (starEach (e :: es) X.env)).all (fun x => !x.1) && (backToKw cpos (keywordEach [] X.env)).all (fun x => x.1.isSome)
      && decide ((e :: es).length + ([] : List Keyword).length + (if ([] : List Keyword).isEmpty then 0 else 1) < 30)) = true := by rfl)
    (hline : (apos.endLine == cpos.line) = true := by rfl) (hs : starEach (e :: es) X.env = (false, eval e X.env) :: starEach es X.env := by rfl) (hplain : (backTo cpos (starEach es X.env)).any (·.1) = false := by rfl) :
    Drew X (.Call (.Attribute (.Constant (.str y0) j0 p0) name apos) (e :: es) [] cpos) (tBM X.K T r (tC (.str y0)) t) := fun pins s σ H Q I h => by
  refine wpAny_Call_method_late hbase hfew hline rfl (Calls.Constant_str ?_)
  have I1 := I.tok (s.toks + 1)
  obtain ⟨ty, q1⟩ : tyV X.K T (.str y0) H ∧ t σ H fun xs H2 => r (.str y0) xs H2 Q := h
  have rl : RelV (.str y0) (.str y0 s.toks) := ⟨s.toks, rfl⟩
  obtain ⟨h1, h2⟩ := tyV_is I1 rl ty
  refine ⟨T, id, pa, slot, hty, h1, h2, ?_⟩
  have hA := ha.run cpos pins _ σ H (fun xs H2 => r (.str y0) xs H2 Q) I1 q1
  have body : wpAny (model X.prog X.w) X.A (callWith cpos (.builtin id) [.str y0 s.toks] (backTo cpos (starEach (e :: es) X.env)) []) (EP X pins σ Q) X.xe ({ heap := s.heap, gens := s.gens, drawn := s.drawn, toks := s.toks + 1, os := s.os } : Shared) := by
    rw [hs]
    refine Calls.callWith_builtin (show (false || (backTo cpos (starEach es X.env)).any (·.1)) = false by rw [hplain]; rfl) (Calls.evalArgs_plain (thn (Q := AP X pins σ fun xs H2 => r (.str y0) xs H2 Q) ?_ fun us s2 ⟨vs, H2, I2, r2, q2⟩ => ?_))
    · rw [hs] at hA; exact hA
    exact hm pins s2 σ H2 (.str y0) vs _ us Q I2 rl r2 q2
  refine wpAny_mono (wpAny_toks body) (fun v s' q => ⟨?_, q.2⟩) (fun _ _ z => z.2)
  have h9 : s.toks + 1 ≤ s'.toks := q.1
  omega
def tRepC (to : TE) (y z : Str) : TE := fun σ H Q => to σ H fun v H1 => ∃ x, v = .str x ∧ x.length + (x.length + 1) * z.length ≤ 16777216 ∧ Q (.str (Txt.replace x y z)) H1
theorem pe_repD {o : Expr} {to : TE} {y z : Str} {j k : Nat} {c0 c1 : Pos} (ho : Drew X o to) (hyz : (y == z) = false)
    (hst : starEach [.Constant (.str y) j c0, .Constant (.str z) k c1] X.env = [(false, eval (.Constant (.str y) j c0) X.env), (false, eval (.Constant (.str z) k c1) X.env)] := by rfl)
    (hbase : attributeBase o "replace" X.env (eval o X.env) = eval o X.env := by rfl) (hline : (apos.endLine == pos.line) = true := by rfl) :
    PE X (.Call (.Attribute o "replace" apos) [.Constant (.str y) j c0, .Constant (.str z) k c1] [] pos) (tRepC to y z) := ⟨fun pins s σ H Q I h => by
  refine Call_method2 hbase hst hline (thn (ho pins s σ H _ I h) fun v s1 ⟨h1, v', H1, I1, r1, x, e1, hb, q⟩ => ?_)
  subst e1
  obtain ⟨tx, rfl⟩ := r1
  refine ⟨"str", "str.replace", F.plainAttrs_str, F.slot_str_replace, F.type_str_replace, typeIs_str s1 x tx, fun x e => (nomatch e), ?_⟩
  refine Calls.callWith_builtin rfl (Calls.evalArgs_plain (Calls.spliced_cons (Calls.Constant_str (Calls.spliced_cons (Calls.Constant_str (Calls.spliced_nil ?_))))))
  refine SC.replace ?_ ?_ ?_ hyz hb fun t' k => ⟨.str (Txt.replace x y z), H1, I1.tok k, ⟨t', rfl⟩, q⟩
  · exact fun a => by
      have : s1.toks = 0 := a
      omega
  · exact fun a => by
      have : s1.toks + 1 = 0 := a
      omega
  · exact fun a => by
      have : s1.toks = s1.toks + 1 := a
      omega⟩
def wRepl (w : WE) (y z : Str) : WE := fun kx ρ k => w kx ρ fun r ρ1 => ∃ x, r = .val (.str x) ∧ x.length + (x.length + 1) * z.length ≤ 16777216 ∧ k (.val (.str (Txt.replace x y z))) ρ1
theorem be_repl {y0 y z : Str} {j0 j k : Nat} {p0 c0 c1 apos0 cpos0 : Pos} {u : WA} (ha : BA X E (e :: es) u) (hyz : (y == z) = false)
    (hbase0 : attributeBase (.Constant (.str y0) j0 p0) "join" X.env (eval (.Constant (.str y0) j0 p0) X.env) = eval (.Constant (.str y0) j0 p0) X.env := by rfl)
    (hfew : ((backTo cpos0 (starEach (e :: es) X.env)).all (fun x => !x.1) && (backToKw cpos0 (keywordEach [] X.env)).all (fun x => x.1.isSome)
      && decide ((e :: es).length + ([] : List Keyword).length + (if ([] : List Keyword).isEmpty then 0 else 1) < 30)) = true := by rfl)
    (hline0 : (apos0.endLine == cpos0.line) = true := by rfl) (hs : starEach (e :: es) X.env = (false, eval e X.env) :: starEach es X.env := by rfl) (hplain : (backTo cpos0 (starEach es X.env)).any (·.1) = false := by rfl)
    (hst : starEach [.Constant (.str y) j c0, .Constant (.str z) k c1] X.env = [(false, eval (.Constant (.str y) j c0) X.env), (false, eval (.Constant (.str z) k c1) X.env)] := by rfl)
    (hbase : attributeBase (.Call (.Attribute (.Constant (.str y0) j0 p0) "join" apos0) (e :: es) [] cpos0) "replace" X.env (eval (.Call (.Attribute (.Constant (.str y0) j0 p0) "join" apos0) (e :: es) [] cpos0) X.env) = eval (.Call (.Attribute (.Constant (.str y0) j0 p0) "join" apos0) (e :: es) [] cpos0) X.env := by rfl)
    (hline : (apos.endLine == pos.line) = true := by rfl) :
    BE X E (.Call (.Attribute (.Call (.Attribute (.Constant (.str y0) j0 p0) "join" apos0) (e :: es) [] cpos0) "replace" apos) [.Constant (.str y) j c0, .Constant (.str z) k c1] [] pos) (wRepl (wMt "str" gJoin (wC (.str y0)) u) y z) := by
  obtain ⟨r, h1, h2⟩ := md_join (X := X)
  refine ⟨peI (pe_repD (drew_bm F.plainAttrs_str F.slot_str_join F.type_str_join h1 ha.pa hbase0 hfew hline0 hs hplain) hyz hst hbase hline) fun σ H Q ⟨c, ρ, k, kx, gd, hw, hk, hx⟩ => ?_⟩
  obtain ⟨d0, hd0, ht, k1⟩ := hw
  obtain rfl : PyData.str y0 = d0 := Option.some.inj hd0
  refine ⟨rfl, c, ρ, _, kx, gd, k1, fun rs ρ2 vs H2 k2 g2 e2 p2 => ?_, hx⟩
  obtain ⟨d, ds, hd, hds, hg⟩ := k2
  obtain rfl : PyData.str y0 = d := Option.some.inj hd
  refine h2 (Mof c ρ2) H2 (V.str y0) vs (PyData.str y0) ds _ _ (fun a z => g2.mth z) (show See X.K _ _ H2 (PyData.str y0) (V.str y0) from rfl) (getA_see g2 p2 hds) hg fun v H' z kz sm rp => ?_
  obtain ⟨x, e1, hb, q⟩ := kz
  cases e1
  have rp : v = V.str x := rp
  exact ⟨x, rp, hb, hk _ _ _ _ q (g2.same sm) (e2.trans (.same sm)) rfl⟩
end
end LB

/-! LB, part 33: comprehensions of two clauses. -/
namespace LB
open PySem PySem.Spec PyProof.Rows L2
theorem Mv.trans {M1 M2 M3 : Ow} {H1 H2 H3 : Hp} (a : Mv M1 M2 H1 H2) (b : Mv M2 M3 H2 H3) : Mv M1 M3 H1 H3 := by
  have nm : ∀ x o, H1 x = some o → ¬ M1 x → ¬ M2 x := fun x o h n z => by
    rcases a.own x z with z | z
    · exact n z
    · rw [h] at z; cases z
  refine ⟨fun x z => ?_, fun x o h n => b.kept x o (a.kept x o h n) (nm x o h n)⟩
  by_cases h1 : M1 x
  · exact .inl h1
  cases h2 : H1 x with
  | none => exact .inr rfl
  | some o =>
    rcases b.own x z with z | z
    · exact absurd z (nm x o h2 h1)
    · rw [a.kept x o h2 h1] at z; cases z
theorem wipe_get (τ : L2.St) (j : Nat) : ∀ us : List Nat, (L2.wipe τ us)[j]? = if j ∈ us then (if j < τ.length then some none else none) else τ[j]?
  | [] => by rw [if_neg (by simp)]; rfl
  | u :: us => by
    have ih := wipe_get τ j us
    have hl : ∀ us : List Nat, (L2.wipe τ us).length = τ.length := fun us => by
      induction us with
      | nil => rfl
      | cons u us ih => show ((L2.wipe τ us).set u none).length = _; rw [List.length_set, ih]
    show ((L2.wipe τ us).set u none)[j]? = _
    by_cases h : u = j
    · subst h
      rw [if_pos List.mem_cons_self]
      by_cases hlt : u < τ.length
      · rw [if_pos hlt, List.getElem?_set_self (by rw [hl]; exact hlt)]
      · rw [if_neg hlt, List.getElem?_eq_none (by rw [List.length_set, hl]; omega)]
    · rw [List.getElem?_set_ne h, ih]
      by_cases hm : j ∈ us
      · rw [if_pos hm, if_pos (List.mem_cons_of_mem _ hm)]
      · rw [if_neg hm, if_neg (by simp [hm]; exact fun z => h z.symm)]
theorem wipe_len (τ : L2.St) : ∀ us : List Nat, (L2.wipe τ us).length = τ.length
  | [] => rfl
  | u :: us => by show ((L2.wipe τ us).set u none).length = _; rw [List.length_set, wipe_len τ us]
theorem wipe_in {σ : L2.St} {vs1 vs : List Nat} (h : ∀ j ∈ vs1, j ∈ vs) : L2.wipe (L2.wipe σ vs1) vs = L2.wipe σ vs := by
  refine List.ext_getElem? fun j => ?_
  rw [wipe_get, wipe_get, wipe_len, wipe_get]
  by_cases hj : j ∈ vs
  · rw [if_pos hj, if_pos hj]
  · rw [if_neg hj, if_neg hj, if_neg fun z => hj (h j z)]
structure LcI (vs vs1 : List Nat) (g1 : WG) (wt1 : WT) (we : WE) (Pn : List PyData → List En → Prop) (s1 : Src) (ρ5 : List En) (acc : List PyData) : Prop where
  run : ∃ P1 : Nat → List PyData → List En → Prop, P1 0 acc (wipeR ρ5 vs1) ∧ (∀ i acc ρ2, i ≤ s1.items.length → P1 i acc ρ2 → s1.ok ρ2) ∧
    (∀ i d acc ρ2, s1.items[i]? = some d → P1 i acc ρ2 → g1 d ρ2 fun ρ3 => wt1 (fun _ _ => False) ρ3 fun b ρ4 => if b = true then we (fun _ _ => False) ρ4 fun r ρ5 => ∃ z ρ6, r.fz ρ5 = some (z, ρ6) ∧ acc.length < sizeLine ∧ P1 (i + 1) (acc ++ [z]) (wipeR ρ6 vs1) else P1 (i + 1) acc (wipeR ρ4 vs1)) ∧
    ∀ acc ρ2, P1 s1.items.length acc ρ2 → Pn acc (wipeR ρ2 vs)
structure LcP2 (vs vs1 : List Nat) (g : WG) (wt : WT) (wi1 : WI) (g1 : WG) (wt1 : WT) (we : WE) (s : Src) (ρ1 : List En) (k : PyData → List En → Prop) : Prop where
  run : ∃ P : Nat → List PyData → List En → Prop, P 0 [] (wipeR ρ1 vs) ∧ (∀ i acc ρ2, i ≤ s.items.length → P i acc ρ2 → s.ok ρ2) ∧
    (∀ i d acc ρ2, s.items[i]? = some d → P i acc ρ2 → g d ρ2 fun ρ3 => wt (fun _ _ => False) ρ3 fun b ρ4 => if b = true then wi1 (fun _ _ => False) ρ4 fun s1 ρ5 => LcI vs vs1 g1 wt1 we (P (i + 1)) s1 ρ5 acc else P (i + 1) acc (wipeR ρ4 vs)) ∧
    ∀ acc ρ2, P s.items.length acc ρ2 → k (.list acc) (restR ρ1 ρ2 vs)
def wLc2 (vs vs1 : List Nat) (wi : WI) (g : WG) (wt : WT) (wi1 : WI) (g1 : WG) (wt1 : WT) (we : WE) : WN := fun kx ρ k => wi kx ρ fun s ρ1 => LcP2 vs vs1 g wt wi1 g1 wt1 we s ρ1 k
section
variable {X : Cx} {E : EK} {e : Expr}
theorem lc2_run {sl vs sl1 vs1 : List Nat} {wi wi1 : WI} {g g1 : WG} {wt wt1 : WT} {we : WE} (hsl : ∀ j ∈ sl, j ∈ vs) (hsl1 : ∀ j ∈ sl1, j ∈ vs1) (hvs : ∀ j ∈ vs1, j ∈ vs) {σ : L2.St} {H : Hp} {Q : VK} (h : lN X E (wLc2 vs vs1 wi g wt wi1 g1 wt1 we) σ H Q) :
    tLc2 (lI X E wi) (lG X.K sl g) (lT X EN wt) (lI X EN wi1) (lG X.K sl1 g1) (lT X EN wt1) (lE X EN we) vs vs1 σ H Q := by
  obtain ⟨c, ρ, k, kx, gd, hw, hk, hx⟩ := h
  refine ⟨c, ρ, _, kx, gd, hw, fun s ρ1 J H1 k1 g1 e1 ok1 wk => ?_, hx⟩
  obtain ⟨P, h0, hok, turn, done⟩ := k1.run
  intro D hD
  have nD1 : ¬ Wr ρ1 D := fun z => g1.mth (g1.wsub (g1.wr_w z)) hD
  have g1' : Gd X.K (c.more D) σ (upd H1 D (.lst [])) ρ1 := g1.more hD (sm_upd hD) (by rw [upd_same]; intro z; cases z)
  obtain ⟨gw, sw⟩ := g1'.wipe vs
  have hM : (c.more D).M D := .inr rfl
  have hWD : (c.more D).W D := .inr rfl
  have mvs : ∀ {ρ2 : List En} {H2 : Hp}, Ev c ρ1 H1 ρ2 H2 → Mv (Mof c ρ1) (Mof (c.more D) ρ2) H1 H2 ∧ Mv (Wof c ρ1) (Wof (c.more D) ρ2) H1 H2 := fun {ρ2 H2} e => by
    refine ⟨⟨fun a z => ?_, (e.mv g1).kept⟩, ⟨fun a z => ?_, (e.mvw g1).kept⟩⟩
    · rcases z with (z | rfl) | z
      · exact .inl (.inl z)
      · exact .inr hD
      · exact (e.mv g1).own a (.inr z)
    · rcases z with (z | rfl) | z
      · exact .inl (.inl z)
      · exact .inr hD
      · exact (e.mvw g1).own a (.inr z)
  let Iv : Nat → Hp → Prop := fun i H2 => ∃ acc accV ρ2, P i acc ρ2 ∧ Gd X.K (c.more D) (L2.wipe σ vs) H2 ρ2 ∧ Ev c ρ1 H1 ρ2 H2 ∧ H2 D = some (.lst accV) ∧ RepAll X.K (Mof (c.more D) ρ2) H2 acc accV ∧ ¬ Wr ρ2 D
  refine ⟨fun i m H2 => m = s.items.length - i ∧ i ≤ s.items.length ∧ Iv i H2, ⟨_, rfl, Nat.zero_le _, [], [], wipeR ρ1 vs, h0, gw, ⟨fun b o e n => sm_upd hD b o e, fun a z => .inl (sw a z), fun a z => ?_⟩, upd_same, rfl, fun z => nD1 (sw D z)⟩, ?_⟩
  · cases e : H1 a with
    | none => rfl
    | some o => rw [sm_upd hD a o e] at z; cases z
  rintro i m H2 ⟨rfl, hle, acc, accV, ρ2, p2, g2, e2, hD2, ra2, nD2⟩
  obtain ⟨mM, mW⟩ := mvs e2
  have lt : Lt X.K c ρ1 H1 (c.more D) (L2.wipe σ vs) ρ2 H2 s := ⟨g2, mM, mW, hok i acc ρ2 hle p2⟩
  by_cases hlt : i < s.items.length
  · refine .inr ⟨wk.go _ _ _ _ i lt hlt, fun H3 => Iv (i + 1) H3, fun H3 q => ⟨_, by omega, rfl, hlt, q⟩, fun x H3 y => ?_⟩
    obtain ⟨sm, d, hd, rd⟩ := wk.yld _ _ _ _ i x H3 lt hlt y
    have g3 := g2.same sm
    have e3 : Ev (c.more D) ρ2 H2 ρ2 H3 := .same sm
    refine ⟨c.more D, ρ2, d, _, g3, rd, turn i d acc ρ2 hd p2, fun σ4 ρ4 k4 g4 e4 but => ⟨wipe_but but hsl, ?_⟩⟩
    refine ⟨c.more D, ρ4, _, fun _ _ => False, g4, k4, fun b ρ5 H5 k5 g5 e5 => ?_, fun _ _ _ _ _ z => z.elim⟩
    have e25 := (e3.trans e4).trans e5
    cases b with
    | false =>
      obtain ⟨g6, s6⟩ := g5.wipe vs
      rw [wipe_but but hsl] at g6
      have e26 : Ev (c.more D) ρ2 H2 (wipeR ρ5 vs) H5 := e25.trans (.shrink s6)
      refine ⟨acc, accV, wipeR ρ5 vs, k5, g6, e2.trans e26.any, e26.kept _ _ hD2 nD2, ra2.mv (e26.mv g2), fun z => ?_⟩
      rcases e26.own D z with z | z
      · exact nD2 z
      · rw [hD2] at z; cases z
    | true =>
      refine ⟨c.more D, ρ5, _, fun _ _ => False, g5, k5, fun s1 ρ6 J1 H6 k6 g6 e6 ok6 wk1 => ?_, fun _ _ _ _ _ z => z.elim⟩
      have e26 := e25.trans e6
      have hD6 : H6 D = some (.lst accV) := e26.kept _ _ hD2 nD2
      have nD6 : ¬ Wr ρ6 D := fun z => by
        rcases e26.own D z with z | z
        · exact nD2 z
        · rw [hD2] at z; cases z
      have e16 : Ev c ρ1 H1 ρ6 H6 := e2.trans e26.any
      obtain ⟨P1, h01, hok1, turn1, done1⟩ := k6.run
      obtain ⟨gw1, sw1⟩ := g6.wipe vs1
      let Iv1 : Nat → Hp → Prop := fun j H7 => ∃ acc accV ρ7, P1 j acc ρ7 ∧ Gd X.K (c.more D) (L2.wipe σ4 vs1) H7 ρ7 ∧ Ev c ρ1 H1 ρ7 H7 ∧ H7 D = some (.lst accV) ∧ RepAll X.K (Mof (c.more D) ρ7) H7 acc accV ∧ ¬ Wr ρ7 D ∧ Mv (Mof (c.more D) ρ6) (Mof (c.more D) ρ7) H6 H7 ∧ Mv (Wof (c.more D) ρ6) (Wof (c.more D) ρ7) H6 H7
      have e6s : Ev (c.more D) ρ6 H6 (wipeR ρ6 vs1) H6 := .shrink sw1
      refine ⟨fun j m H7 => m = s1.items.length - j ∧ j ≤ s1.items.length ∧ Iv1 j H7, ⟨_, rfl, Nat.zero_le _, acc, accV, wipeR ρ6 vs1, h01, gw1, e16.trans e6s.any, hD6, ra2.mv ((e26.trans e6s).mv g2), fun z => nD6 (sw1 D z), e6s.mv g6, e6s.mvw g6⟩, ?_⟩
      rintro j m H7 ⟨rfl, hle1, acc, accV, ρ7, p7, g7, e17, hD7, ra7, nD7, m7, w7⟩
      have lt1 : Lt X.K (c.more D) ρ6 H6 (c.more D) (L2.wipe σ4 vs1) ρ7 H7 s1 := ⟨g7, m7, w7, hok1 j acc ρ7 hle1 p7⟩
      by_cases hlt1 : j < s1.items.length
      · refine .inr ⟨wk1.go _ _ _ _ j lt1 hlt1, fun H8 => Iv1 (j + 1) H8, fun H8 q => ⟨_, by omega, rfl, hlt1, q⟩, fun x1 H8 y1 => ?_⟩
        obtain ⟨sm1, d1, hd1, rd1⟩ := wk1.yld _ _ _ _ j x1 H8 lt1 hlt1 y1
        have g8 := g7.same sm1
        have e8 : Ev (c.more D) ρ7 H7 ρ7 H8 := .same sm1
        refine ⟨c.more D, ρ7, d1, _, g8, rd1, turn1 j d1 acc ρ7 hd1 p7, fun σ9 ρ9 k9 g9 e9 but1 => ⟨wipe_but but1 hsl1, ?_⟩⟩
        refine ⟨c.more D, ρ9, _, fun _ _ => False, g9, k9, fun b ρ10 H10 k10 g10 e10 => ?_, fun _ _ _ _ _ z => z.elim⟩
        have e710 := (e8.trans e9).trans e10
        cases b with
        | false =>
          obtain ⟨g11, s11⟩ := g10.wipe vs1
          rw [wipe_but but1 hsl1] at g11
          have e711 : Ev (c.more D) ρ7 H7 (wipeR ρ10 vs1) H10 := e710.trans (.shrink s11)
          refine ⟨acc, accV, wipeR ρ10 vs1, k10, g11, e17.trans e711.any, e711.kept _ _ hD7 nD7, ra7.mv (e711.mv g7), fun z => ?_, m7.trans (e711.mv g7), w7.trans (e711.mvw g7)⟩
          rcases e711.own D z with z | z
          · exact nD7 z
          · rw [hD7] at z; cases z
        | true =>
          refine ⟨c.more D, ρ10, _, fun _ _ => False, g10, k10, fun r ρ11 v H11 k11 g11 e11 p11 => ?_, fun _ _ _ _ _ z => z.elim⟩
          obtain ⟨z, ρ12, hf, hl, k12⟩ := k11
          obtain ⟨g12, e12, r12⟩ := p11.fz g11 hf
          have e712 := (e710.trans e11).trans e12
          have hD11 : H11 D = some (.lst accV) := e712.kept _ _ hD7 nD7
          have nD12 : ¬ Wr ρ12 D := fun z => by
            rcases e712.own D z with z | z
            · exact nD7 z
            · rw [hD7] at z; cases z
          have ra12 := ra7.mv (e712.mv g7)
          refine ⟨accV, hD11, by rw [ra12.len]; exact hl, ?_⟩
          have g13 := g12.poke (o := .lst (accV ++ [v])) hM hWD nD12 ⟨_, hD11⟩
          obtain ⟨g14, s14⟩ := g13.wipe vs1
          rw [wipe_but but1 hsl1] at g14
          have sub14 : ∀ a, Mof (c.more D) (wipeR ρ12 vs1) a → Mof (c.more D) ρ12 a := fun a z => by
            rcases z with z | z
            · exact .inl z
            · exact g12.wsub (g12.wr_w (s14 a (oof_wrS z)))
          have subW : ∀ a, Wof (c.more D) (wipeR ρ12 vs1) a → Wof (c.more D) ρ12 a := fun a z => by
            rcases z with z | z
            · exact .inl z
            · exact g12.wr_w (s14 a (oof_wrS z))
          have mu : Mv (Mof (c.more D) ρ12) (Mof (c.more D) (wipeR ρ12 vs1)) H11 (upd H11 D (.lst (accV ++ [v]))) := (mv_upd (.inl hM)).trans (Mv.sub sub14)
          have wu : Mv (Wof (c.more D) ρ12) (Wof (c.more D) (wipeR ρ12 vs1)) H11 (upd H11 D (.lst (accV ++ [v]))) := (mv_upd (.inl hWD)).trans (Mv.sub subW)
          refine ⟨acc ++ [z], accV ++ [v], wipeR ρ12 vs1, k12, g14, ?_, upd_same, (ra12.app (.one r12)).mv mu, fun z => nD12 (s14 D z), (m7.trans (e712.mv g7)).trans mu, (w7.trans (e712.mvw g7)).trans wu⟩
          have e112 : Ev c ρ1 H1 ρ12 H11 := e17.trans e712.any
          refine ⟨fun b o e n => ?_, fun a z => e112.own a (s14 a z), fun a z => ?_⟩
          · rw [upd_ne (ne_of_none e hD)]; exact e112.kept b o e n
          · by_cases q : a = D
            · subst q; exact hD
            · rw [upd_ne q] at z; exact e112.there a z
      · have e : j = s1.items.length := by omega
        subst e
        refine .inl ⟨wk1.stop _ _ _ _ lt1, ?_⟩
        obtain ⟨g15, s15⟩ := g7.wipe vs
        rw [wipe_in hvs, wipe_but but hsl] at g15
        have e715 : Ev (c.more D) ρ7 H7 (wipeR ρ7 vs) H7 := .shrink s15
        exact ⟨acc, accV, wipeR ρ7 vs, done1 acc ρ7 p7, g15, e17.trans e715.any, hD7, ra7.mv (e715.mv g7), fun z => nD7 (s15 D z)⟩
  · have e : i = s.items.length := by omega
    subst e
    refine .inl ⟨wk.stop _ _ _ _ lt, ?_⟩
    have gr := Gd.rest g1 g2 mM vs
    rw [restS_wipe] at gr
    have er : Ev c ρ1 H1 (restR ρ1 ρ2 vs) H2 := e2.trans (.shrink (wr_rest vs))
    refine hk _ _ D H2 (done acc ρ2 p2) gr (e1.trans er) (e1.there D hD) (fun j d z => nD2 (wr_rest vs D ⟨j, d, .inr z⟩)) ⟨accV, hD2, ra2.mv (Mv.sub fun a z => ?_)⟩
    rcases z with z | z
    · exact .inl z
    · exact g2.wsub (g2.wr_w (wr_rest vs a (oof_wrS z)))
theorem bn_lc2 {sl vs sl1 vs1 : List Nat} {wi wi1 : WI} {g g1 : WG} {wt wt1 : WT} {we : WE} (hsl : ∀ j ∈ sl, j ∈ vs) (hsl1 : ∀ j ∈ sl1, j ∈ vs1) (hvs : ∀ j ∈ vs1, j ∈ vs) (h : PE X e (tLc2 (lI X E wi) (lG X.K sl g) (lT X EN wt) (lI X EN wi1) (lG X.K sl1 g1) (lT X EN wt1) (lE X EN we) vs vs1)) : BN X E e (wLc2 vs vs1 wi g wt wi1 g1 wt1 we) :=
  ⟨peI h fun σ H Q q => lc2_run hsl hsl1 hvs q⟩
theorem bs_setLc2N {st : Stmt} {i : Nat} {sl vs sl1 vs1 : List Nat} {wi wi1 : WI} {g g1 : WG} {wt wt1 : WT} {we : WE} (hsl : ∀ j ∈ sl, j ∈ vs) (hsl1 : ∀ j ∈ sl1, j ∈ vs1) (hvs : ∀ j ∈ vs1, j ∈ vs) (h : PS X st (tAsg (tLc2 (lI X E wi) (lG X.K sl g) (lT X EN wt) (lI X EN wi1) (lG X.K sl1 g1) (lT X EN wt1) (lE X EN we) vs vs1) (gName i))) : BS X E st (wSetN i (wLc2 vs vs1 wi g wt wi1 g1 wt1 we)) :=
  ⟨psI h fun D σ H q => lc2_run hsl hsl1 hvs (setN_run q)⟩
theorem bs_setLc2 {st : Stmt} {i : Nat} {sl vs sl1 vs1 : List Nat} {wi wi1 : WI} {g g1 : WG} {wt wt1 : WT} {we : WE} (hsl : ∀ j ∈ sl, j ∈ vs) (hsl1 : ∀ j ∈ sl1, j ∈ vs1) (hvs : ∀ j ∈ vs1, j ∈ vs) (h : PS X st (tAsg (tLc2 (lI X E wi) (lG X.K sl g) (lT X EN wt) (lI X EN wi1) (lG X.K sl1 g1) (lT X EN wt1) (lE X EN we) vs vs1) (gName i))) : BS X E st (wSetV i (wLc2 vs vs1 wi g wt wi1 g1 wt1 we)) :=
  ⟨psI h fun D σ H q => lc2_run hsl hsl1 hvs (setV_run q)⟩
end
/-- the two clauses over lists that do not change; P: the rows done, the members of this row done, what is gathered -/
theorem LcP2.inv {vs vs1 : List Nat} {g : WG} {wt : WT} {wi1 : WI} {g1 : WG} {wt1 : WT} {we : WE} {ds : List PyData} {ρ1 : List En} {k : PyData → List En → Prop} (P : Nat → List PyData → List En → Prop) (h0 : P 0 [] (wipeR ρ1 vs))
    (turn : ∀ (i : Nat) (d : PyData) (acc : List PyData) (ρ2 : List En), ds[i]? = some d → P i acc ρ2 →
      g d ρ2 fun ρ3 => wt (fun _ _ => False) ρ3 fun b ρ4 => if b = true then wi1 (fun _ _ => False) ρ4 fun s1 ρ5 => LcI vs vs1 g1 wt1 we (P (i + 1)) s1 ρ5 acc else P (i + 1) acc (wipeR ρ4 vs))
    (done : ∀ acc ρ2, P ds.length acc ρ2 → k (.list acc) (restR ρ1 ρ2 vs)) : LcP2 vs vs1 g wt wi1 g1 wt1 we (.fixed ds) ρ1 k :=
  ⟨P, h0, fun _ _ _ _ _ => trivial, turn, done⟩
theorem LcI.inv {vs vs1 : List Nat} {g1 : WG} {wt1 : WT} {we : WE} {Pn : List PyData → List En → Prop} {ds : List PyData} {ρ5 : List En} {acc0 : List PyData} (P : Nat → List PyData → List En → Prop) (h0 : P 0 acc0 (wipeR ρ5 vs1))
    (turn : ∀ (i : Nat) (d : PyData) (acc : List PyData) (ρ2 : List En), ds[i]? = some d → P i acc ρ2 →
      g1 d ρ2 fun ρ3 => wt1 (fun _ _ => False) ρ3 fun b ρ4 => if b = true then we (fun _ _ => False) ρ4 fun r ρ5 => ∃ z ρ6, r.fz ρ5 = some (z, ρ6) ∧ acc.length < sizeLine ∧ P (i + 1) (acc ++ [z]) (wipeR ρ6 vs1) else P (i + 1) acc (wipeR ρ4 vs1))
    (done : ∀ acc ρ2, P ds.length acc ρ2 → Pn acc (wipeR ρ2 vs)) : LcI vs vs1 g1 wt1 we Pn (.fixed ds) ρ5 acc0 :=
  ⟨P, h0, fun _ _ _ _ _ => trivial, turn, done⟩
theorem LcP2.at {vs vs1 : List Nat} {g : WG} {wt : WT} {wi1 : WI} {g1 : WG} {wt1 : WT} {we : WE} {s : Src} {ρ1 ρ0 : List En} {k : PyData → List En → Prop} (h : ρ1 = ρ0) (z : LcP2 vs vs1 g wt wi1 g1 wt1 we s ρ0 k) : LcP2 vs vs1 g wt wi1 g1 wt1 we s ρ1 k := by subst h; exact z
theorem LcI.at {vs vs1 : List Nat} {g1 : WG} {wt1 : WT} {we : WE} {Pn : List PyData → List En → Prop} {s : Src} {ρ1 ρ0 : List En} {acc0 : List PyData} (h : ρ1 = ρ0) (z : LcI vs vs1 g1 wt1 we Pn s ρ0 acc0) : LcI vs vs1 g1 wt1 we Pn s ρ1 acc0 := by subst h; exact z
end LB

/-! LB, part 34: x[::-1] of lists and tuples. -/
namespace LB
open PySem PySem.Spec PyProof.Rows L2
section
variable {prog : Program} {w : World} {A : Around} {E : Value → Shared → Prop} {s : Shared}
theorem applied_rev {sl : Addr} {vl vu vs : Value} {n : Nat} {Q : Int × Int × Nat → Shared → Prop} (hs : s.heap.IsSliceOf sl vl vu vs) (pl : IsPart vl none) (pu : IsPart vu none) (ps : IsPart vs (some (-1)))
    (h : Q ((n : Int) - 1, -1, n) s) : wpAny (model prog w) A (Builtin.Slice.sliceApplied (.ref sl) (pure (n : Int))) Q E s := by
  obtain ⟨os, hos, hcs, hds⟩ := id hs
  unfold Builtin.Slice.sliceApplied Builtin.Slice.sliceFields
  refine wpAny_bind (wpAny_bind (wpAny_field hos hds rfl (wpAny_bind (wpAny_field hos hds rfl (wpAny_bind (wpAny_field hos hds rfl (wpAny_pure ?_)))))))
  refine wpAny_bind (HT.slicePart_ ps ?_)
  show wpAny (model prog w) A (if ((-1 : Int) == 0) = true then _ else _) Q E s
  rw [if_neg (by decide)]
  refine wpAny_bind (HT.slicePart_ pl (wpAny_bind (HT.slicePart_ pu (wpAny_bind (wpAny_pure ?_)))))
  show wpAny (model prog w) A (pure ((n : Int) - 1, -1, Builtin.Slice.slicePlaces ((n : Int) - 1) (-1) (-1))) Q E s
  have e : Builtin.Slice.slicePlaces ((n : Int) - 1) (-1) (-1) = n := by
    unfold Builtin.Slice.slicePlaces
    rw [if_neg (by decide)]
    by_cases hn : n = 0
    · subst hn; rfl
    · rw [if_pos (by omega), Int.neg_neg, Int.ediv_one]; omega
  rw [e]
  exact wpAny_pure h
theorem picks_rev {α : Type} (its : List α) : ((List.range its.toArray.size).filterMap fun (k : Nat) => its.toArray[(((its.toArray.size : Nat) : Int) - 1 + (k : Int) * -1).toNat]?) = its.reverse := by
  have key : ∀ k : Nat, its.toArray[(((its.toArray.size : Nat) : Int) - 1 + (k : Int) * -1).toNat]? = its[(((its.length : Nat) : Int) - 1 + (k : Int) * -1).toNat]? := fun k => by simp
  rw [show its.toArray.size = its.length from List.size_toArray]
  have : ∀ m, m ≤ its.length → ((List.range m).filterMap fun (k : Nat) => its.toArray[(((its.length : Nat) : Int) - 1 + (k : Int) * -1).toNat]?) = its.reverse.take m := fun m => by
    induction m with
    | zero => intro _; simp
    | succ m ih =>
      intro hm
      have h2 : (((its.length : Nat) : Int) - 1 + (m : Int) * -1).toNat = its.length - 1 - m := by omega
      rw [List.range_succ, List.filterMap_append, ih (by omega), List.take_succ]
      congr 1
      rw [List.getElem?_reverse (by omega), List.filterMap_cons, h2, List.getElem?_toArray]
      have : its[its.length - 1 - m]? = some its[its.length - 1 - m] := List.getElem?_eq_getElem (by omega)
      rw [this]
      rfl
  rw [this its.length (Nat.le_refl _), List.take_of_length_le (by rw [List.length_reverse]; exact Nat.le_refl _)]
theorem tuple_rev {t sl : Addr} {its : List Value} {vl vu vs : Value} {Q : Value → Shared → Prop} (ht : IsTup s.heap t its.toArray) (hs : s.heap.IsSliceOf sl vl vu vs) (pl : IsPart vl none) (pu : IsPart vu none) (ps : IsPart vs (some (-1)))
    (h : Q (.ref s.heap.objs.size) { heap := s.heap.push { cls := .type "tuple", data := .seq its.reverse.toArray }, gens := s.gens, drawn := s.drawn, toks := s.toks, os := s.os }) (hsz : its.length ≤ sizeLine) :
    wpAny (model prog w) A (getItem (.ref t) (.ref sl)) Q E s := by
  obtain ⟨os, hos, hcs, hds⟩ := id hs
  have hTs : s.TypeIs (.ref sl) "slice" := ⟨os, hos, hcs⟩
  unfold getItem
  refine wpAny_holding (wpAny_bind (wpAny_sequenceKey ht.typeIs (by decide) (wpAny_bind (wpAny_callSpecial?_slot ht.typeIs slot_tuple_getitem (wpAny_call_entry slot_tuple_getitem ht.typeIs entry_tuple_getitem ?_)))))
  unfold Builtin.«tuple.__getitem__»
  have es : slotArgs "__getitem__" 1 { pos := [Value.ref t, Value.ref sl] } = pure (Value.ref t, [Value.ref sl]) := rfl
  rw [es]
  refine wpAny_bind (wpAny_pure ?_)
  refine wpAny_bind (tupleItemsOf_ ht (wpAny_bind (wpAny_typeOf hTs ?_)))
  rw [if_pos (by decide)]
  refine wpAny_bind (applied_rev hs pl pu ps ?_)
  have hn : ¬ (((((its.toArray.size : Nat) : Int) - 1 == 0) && ((-1 : Int) == 1) && (its.toArray.size == its.toArray.size)) = true) := by
    rw [show ((-1 : Int) == 1) = false from rfl, Bool.and_false, Bool.false_and]
    exact Bool.false_ne_true
  dsimp only
  rw [if_neg hn]
  have hp := picks_rev its
  rw [hp]
  exact wpAny_bind (wpAny_newObj_type (wpAny_pure ⟨_, rfl, wpAny_pure h⟩) (by show its.reverse.toArray.size ≤ sizeLine; rw [List.size_toArray, List.length_reverse]; exact hsz))
end
section
variable {X : Cx} {E : EK} {e : Expr} {te : TE} {k : Nat} {p1 p2 p3 pos : Pos} {w : WE}
theorem pe_revB (he : PE X e te) : PE X (.Subscript e (.Slice none none (some (.UnaryOp .USub (.Constant (.int 1) k p1) p2)) p3) pos) (fun σ H Q => te σ H fun x H1 => ∃ a xs, x = .ref a ∧ ((SqT X.K H1 a xs ∧ ∀ p, H1 p = none → Q (.ref p) (upd H1 p (.tup xs.reverse))) ∨ (SqL X.K H1 a xs ∧ ∀ p, H1 p = none → Q (.ref p) (upd H1 p (.lst xs.reverse))))) := ⟨fun pins s σ H Q I h => by
  refine Subscript_ (thn (he.run pins s σ H _ I h) fun v s1 ⟨x, H1, I1, r1, a, xs, ex, hq⟩ => ?_)
  subst ex
  cases r1
  have hst := po_some (pe_un (pos := p2) un_neg (pe_int (X := X) (i := 1) (j := k) (pos := p1)))
  refine wpAny_Slice (thn (po_none.run pins s1 σ H1 (fun o H2 => o = none ∧ H2 = H1) I1 ⟨rfl, rfl⟩) fun vl s2 ⟨l, H2, I2, pl, el, e2⟩ => ?_)
  subst el; subst e2
  refine thn (po_none.run pins s2 σ H2 (fun o H3 => o = none ∧ H3 = H2) I2 ⟨rfl, rfl⟩) fun vu s3 ⟨u, H3, I3, pu, eu, e3⟩ => ?_
  subst eu; subst e3
  refine thn (hst.run pins s3 σ H3 (fun o H4 => o = some (-1) ∧ H4 = H3) I3 ⟨1, rfl, -1, rfl, rfl, rfl⟩) fun vs s4 ⟨st, H4, I4, ps, es, e4⟩ => ?_
  subst es; subst e4
  have I5 : L2.Inv X pins σ H4 ({ heap := s4.heap.push { cls := .type "slice", data := .fields #[vl, vu, vs] }, gens := s4.gens, drawn := s4.drawn, toks := s4.toks, os := s4.os } : Shared) := I4.kept fun b ob q => Heap.get?_push_of_some _ q
  rcases hq with ⟨hx, q⟩ | ⟨hx, q⟩
  · obtain ⟨its, r, ht, hz⟩ := I5.tuple hx
    refine tail_any ht.typeIs slot_tuple_getitem.lookup (tuple_rev ht (Heap.IsSliceOf.new s4.heap vl vu vs) pl pu ps ?_ ?_) rfl
    · refine ⟨.ref _, upd H4 _ (.tup xs.reverse), I5.laid (fun b ob q => Heap.get?_push_of_some _ q) (Nat.le_refl _) ⟨?_, its.reverse, r.reverse, IsTup.new _ _⟩, rfl, q _ (I5.hok.fresh (Nat.le_refl _))⟩
      rw [List.length_reverse]; exact hz
    · have := r.length; omega
  · obtain ⟨its, r, ht, hz⟩ := I5.list hx
    have hl := r.length
    refine tail_any ht.isList.typeIs slot_list_getitem.lookup (wpAny_getItem_list_slice ht.isList (Heap.IsSliceOf.new s4.heap vl vu vs) pl pu ps (by decide) ?_ (by rw [List.size_toArray]; omega)) rfl
    rw [PySem.W.krv_pick its.toArray]
    refine ⟨.ref _, upd H4 _ (.lst xs.reverse), I5.laid (fun b ob q => Heap.get?_push_of_some _ q) (Nat.le_refl _) ⟨?_, its.reverse, 0, r.reverse, Heap.get?_push_size _ rfl⟩, rfl, q _ (I5.hok.fresh (Nat.le_refl _))⟩
    rw [List.length_reverse]; exact hz⟩
def gRev : PyData → (PyData → Prop) → Prop
  | .list ds, k => k (.list ds.reverse)
  | .tuple ds, k => k (.tuple ds.reverse)
  | _, _ => False
def wRev (w : WE) : WE := fun kx ρ k => w kx ρ fun r ρ1 => ∃ d, r.get ρ1 = some d ∧ gRev d fun z => k (.val z) ρ1
theorem rep_rev {K : PySem.W.Frag} {M : Ow} {H : Hp} : ∀ {ds : List PyData} {xs : List V}, RepAll K M H ds xs → RepAll K M H ds.reverse xs.reverse
  | [], xs, h => by cases h; rfl
  | d :: ds, xs, h => by
    obtain ⟨v, vs, rfl, h1, h2⟩ := h
    rw [List.reverse_cons, List.reverse_cons]
    exact (rep_rev h2).app (.one h1)
theorem be_rev (he : BE X E e w) : BE X E (.Subscript e (.Slice none none (some (.UnaryOp .USub (.Constant (.int 1) k p1) p2)) p3) pos) (wRev w) := by
  refine ⟨peI (pe_revB he.pe) fun σ H Q ⟨c, ρ, k, kx, gd, hw, hk, hx⟩ => ?_⟩
  refine ⟨c, ρ, _, kx, gd, hw, fun r ρ1 v H1 k1 g1 e1 p1 => ?_, hx⟩
  obtain ⟨d, hd, hg⟩ := k1
  have s := p1.see g1 hd
  cases d with
  | list ds =>
    obtain ⟨a, us, rfl, l, r⟩ := s.lst
    exact ⟨a, us, rfl, .inr ⟨.of l, fun p hp => hk _ _ _ _ hg (g1.same (sm_upd hp)) (e1.trans (.same (sm_upd hp))) ⟨p, _, rfl, ⟨upd_same, fun z => g1.mth z hp⟩, (rep_rev r).mv ⟨fun _ z => .inl z, fun b u e _ => sm_upd hp b u e⟩⟩⟩⟩
  | tuple ds =>
    obtain ⟨a, us, rfl, l, r⟩ := id s
    exact ⟨a, us, rfl, .inl ⟨l.sq, fun p hp => hk _ _ _ _ hg (g1.same (sm_upd hp)) (e1.trans (.same (sm_upd hp))) ⟨p, _, rfl, .inl ⟨upd_same, fun z => g1.mth z hp⟩, (rep_rev r).mv ⟨fun _ z => .inl z, fun b u e _ => sm_upd hp b u e⟩⟩⟩⟩
  | _ => exact hg.elim
end
end LB

/-! LB, part 35: dicts by value: {}, {k: v}, d[k] = v, d[k] += v, d.get, and typed tables. -/
namespace LB
open PySem PySem.Spec PyProof.Rows L2
section
variable {X : Cx} {E : EK} {st : Stmt} {e o b : Expr} {we wi wd wk wx : WE} {pos apos cpos : Pos}
/-! ### {} -/
def wDNew : WN := fun _ ρ k => k (.dict []) ρ
theorem bn_dnew : BN X E (.Dict [] [] pos) wDNew := by
  refine ⟨peI pe_dnewK fun σ H Q ⟨c, ρ, k, kx, gd, hw, hk, hx⟩ => ?_⟩
  intro p hp
  have sm : Sm H (upd H p (.dK [])) := sm_upd hp
  exact hk _ _ p _ hw (gd.more hp sm (by rw [upd_same]; intro z; cases z)) (.same sm) hp (gd.noio hp) ⟨_, upd_same, (rfl : ([] : List (Key × V)) = [])⟩
/-! ### d[k] = v -/
def wItemD (i : Nat) (we wi : WE) : WS := fun W ρ => we W.ex ρ fun r ρ1 => (∃ kvs0, cont i ρ1 = some (.dict kvs0)) ∧ wi W.ex ρ1 fun ri ρ2 => ∃ z ρ3 key kvs, r.fz ρ2 = some (z, ρ3) ∧ ri.get ρ3 = some key ∧ cont i ρ3 = some (.dict kvs) ∧
  DSet kvs key z fun d' => W.nx (wr i d' ρ3)
theorem bs_itemD {i : Nat} (hu : X.A.units + 65 < cLine) (mk : ∀ {te to ti : TE} {t : TSet}, PE X e te → PE X o to → PE X b ti → PSet X t → PS X st (tAsg te (L2.gSub to ti t))) (he : BE X E e we) (ho : PE X o (tVar i)) (hb : BE X E b wi) : BS X E st (wItemD i we wi) := by
  refine ⟨psI (mk he.pe ho hb.pe (set_dict (by omega))) fun D σ H ⟨c, ρ, W, gd, hw, h⟩ => ?_⟩
  refine ⟨c, ρ, _, W.ex, gd, hw, fun r ρ1 v1 H1 k1 g1 e1 p1 => ?_, h.exok⟩
  obtain ⟨⟨ds0, hc0⟩, k1⟩ := k1
  obtain ⟨l, hl, a0, w0, _⟩ := g1.cell hc0
  refine ⟨.ref l, hl, c, ρ1, _, W.ex, g1, k1, fun ri ρ2 v2 H2 k2 g2 e2 p2 => ?_, h.exok.ev e1⟩
  obtain ⟨z, ρ3, key, kvs, hf, hi, hc3, hs⟩ := k2
  obtain ⟨m, kk, rfl, rfl, hlen, hn⟩ := hs.run
  obtain ⟨g3, e3, r3⟩ := (p1.ev g1 e2).fz g2 hf
  obtain ⟨a3, m3⟩ := cell_ref g3 hc3 hl
  obtain ⟨ks, q1, q2⟩ := a3.dct
  have hv2 : v2 = kV kk := ((p2.ev g2 e3).see g3 hi).key
  obtain ⟨g4, e4⟩ := g3.wrt hc3 hl (o := .dK (putK ks kk v1)) (d' := .dict ((putA m kk z).map kvD)) ((PKV.mv (mv_upd m3) (q2.put r3)).at upd_same)
  exact ⟨l, _, rfl, by rw [hv2]; exact DPut.k q1 (by rw [q2.len]; exact hlen), h.nx _ _ _ hn g4 (((e1.trans e2).trans e3).trans e4)⟩
/-! ### d.get -/
structure DIs (kvs : List (PyData × PyData)) : Prop where
  run : ∃ l : List (Key × PyData), kvs = l.map kvD
theorem isD_of {K : PySem.W.Frag} {M W : Ow} {H : Hp} {kvs : List (PyData × PyData)} {v : V} (s : See K M W H (.dict kvs) v) (h : DIs kvs) : ∃ a, v = .ref a ∧ IsD H a := by
  obtain ⟨l, rfl⟩ := h.run
  obtain ⟨a, ks, e, h1, _⟩ := s.dct
  exact ⟨a, e, .inl ⟨ks, .inl h1⟩⟩
theorem get_of {K : PySem.W.Frag} {M W : Ow} {H : Hp} {l : List (Key × PyData)} {key : Key} {v y : V} (s : See K M W H (.dict (l.map kvD)) v) (sk : See K M W H (kD key) y) :
    ∃ a, v = .ref a ∧ ((valK l key = none ∧ DGet H a y none) ∨ ∃ d u, valK l key = some d ∧ DGet H a y (some u) ∧ Rep K M H d u) := by
  obtain ⟨a, ks, e, h1, p⟩ := s.dct
  refine ⟨a, e, ?_⟩
  rw [sk.key]
  rcases p.val (k := key) with ⟨e1, e2⟩ | ⟨d, u, e1, e2, r⟩
  · exact .inl ⟨e1, by rw [← e2]; exact DGet.k h1⟩
  · exact .inr ⟨d, u, e1, by rw [← e2]; exact DGet.k h1, r⟩
def wDGet1 (wd wk : WE) : WE := fun kx ρ k => wd kx ρ fun r ρ1 => (∃ kvs, r.get ρ1 = some (.dict kvs) ∧ DIs kvs) ∧ wk kx ρ1 fun rk ρ2 => ∃ kvs key, r.get ρ2 = some (.dict kvs) ∧ rk.get ρ2 = some key ∧ DOr kvs key .none fun z => k (.val z) ρ2
theorem be_dget1 (hu : X.A.units + 65 < cLine) (ho : BE X E o wd) (he : BE X E e wk) (m : M1 X o "get" apos e cpos := by exact ⟨rfl, rfl, rfl, rfl⟩) : BE X E (.Call (.Attribute o "get" apos) [e] [] cpos) (wDGet1 wd wk) := by
  refine ⟨peI (pe_dget1 (by omega) ho.pe he.pe m) fun σ H Q ⟨c, ρ, k, kx, gd, hw, hk, hx⟩ => ?_⟩
  refine ⟨c, ρ, _, kx, gd, hw, fun r ρ1 v1 H1 k1 g1 e1 p1 => ?_, hx⟩
  obtain ⟨⟨kvs0, h0, i0⟩, k1⟩ := k1
  obtain ⟨a, rfl, ia⟩ := isD_of (p1.see g1 h0) i0
  refine ⟨a, rfl, ia, c, ρ1, _, kx, g1, k1, fun rk ρ2 v2 H2 k2 g2 e2 p2 => ?_, hx.ev e1⟩
  obtain ⟨kvs, key, h1, h2, hd⟩ := k2
  obtain ⟨l, kk, rfl, rfl, hz⟩ := hd.run
  obtain ⟨a', ea, h⟩ := get_of ((p1.ev g1 e2).see g2 h1) (p2.see g2 h2)
  cases ea
  rcases h with ⟨e3, g⟩ | ⟨d, u, e3, g, r3⟩
  · rw [e3] at hz
    exact ⟨_, g, hk _ _ _ _ hz g2 (e1.trans e2) rfl⟩
  · rw [e3] at hz
    exact ⟨_, g, hk _ _ _ _ hz g2 (e1.trans e2) r3⟩
def wDGet2 (wd wk wx : WE) : WE := fun kx ρ k => wd kx ρ fun r ρ1 => (∃ kvs, r.get ρ1 = some (.dict kvs) ∧ DIs kvs) ∧ wk kx ρ1 fun rk ρ2 => wx kx ρ2 fun rx ρ3 => ∃ kvs key z0, r.get ρ3 = some (.dict kvs) ∧ rk.get ρ3 = some key ∧ rx = .val z0 ∧ DOr kvs key z0 fun z => k (.val z) ρ3
theorem be_dget2 (hu : X.A.units + 65 < cLine) (ho : BE X E o wd) (he : BE X E e wk) (hf : BE X E b wx) (m : M2 X o "get" apos e b cpos := by exact ⟨rfl, rfl, rfl, rfl⟩) : BE X E (.Call (.Attribute o "get" apos) [e, b] [] cpos) (wDGet2 wd wk wx) := by
  refine ⟨peI (pe_dget2 (by omega) ho.pe he.pe hf.pe m) fun σ H Q ⟨c, ρ, k, kx, gd, hw, hk, hx⟩ => ?_⟩
  refine ⟨c, ρ, _, kx, gd, hw, fun r ρ1 v1 H1 k1 g1 e1 p1 => ?_, hx⟩
  obtain ⟨⟨kvs0, h0, i0⟩, k1⟩ := k1
  obtain ⟨a, rfl, ia⟩ := isD_of (p1.see g1 h0) i0
  refine ⟨a, rfl, ia, c, ρ1, _, kx, g1, k1, fun rk ρ2 v2 H2 k2 g2 e2 p2 => ?_, hx.ev e1⟩
  refine ⟨c, ρ2, _, kx, g2, k2, fun rx ρ3 v3 H3 k3 g3 e3 p3 => ?_, hx.ev (e1.trans e2)⟩
  obtain ⟨kvs, key, z0, h1, h2, rfl, hd⟩ := k3
  obtain ⟨l, kk, rfl, rfl, hz⟩ := hd.run
  obtain ⟨a', ea, h⟩ := get_of (((p1.ev g1 e2).ev g2 e3).see g3 h1) ((p2.ev g2 e3).see g3 h2)
  cases ea
  rcases h with ⟨e4, g⟩ | ⟨d, u, e4, g, r4⟩
  · rw [e4] at hz
    exact ⟨_, g, hk _ _ _ _ hz g3 ((e1.trans e2).trans e3) p3⟩
  · rw [e4] at hz
    exact ⟨_, g, hk _ _ _ _ hz g3 ((e1.trans e2).trans e3) r4⟩
/-! ### {k: v, ..} -/
def wPs : List (WE × WE) → KX → List En → (List (R × R) → List En → Prop) → Prop
  | [], _, ρ, k => k [] ρ
  | p :: r, kx, ρ, k => p.1 kx ρ fun ra ρ1 => p.2 kx ρ1 fun rb ρ2 => wPs r kx ρ2 fun l ρ3 => k ((ra, rb) :: l) ρ3
/-- the pairs kept: keys and values -/
def kvA : List (R × R) → Option (List (Key × PyData))
  | [] => some []
  | (.val (.int i), .val z) :: r => (kvA r).map fun l => (.inl i, z) :: l
  | (.val (.str i), .val z) :: r => (kvA r).map fun l => (.inr i, z) :: l
  | _ :: _ => none
def mergeA (l : List (Key × PyData)) (m : List (Key × PyData)) : List (Key × PyData) := m.foldl (fun acc p => putA acc p.1 p.2) l
inductive BPs (X : Cx) (E : EK) : Pos → List (Option Expr) → List Expr → List (WE × WE) → Prop where
  | nil {pos : Pos} : BPs X E pos [] [] []
  | cons {pos : Pos} {k v : Expr} {ks : List (Option Expr)} {vs : List Expr} {wk wv : WE} {r : List (WE × WE)} (hk : BE X E k wk) (hv : BE X E v wv) (h : BPs X E pos ks vs r) : BPs X E pos (some k :: ks) (v :: vs) ((wk, wv) :: r)
theorem BPs.pps {pos : Pos} {ks : List (Option Expr)} {vs : List Expr} {ws : List (WE × WE)} (h : BPs X E pos ks vs ws) : PPs X pos ks vs (ws.map fun p => (lE X E p.1, lE X E p.2)) := by
  induction h with
  | nil => exact pps_nil
  | cons hk hv _ ih => exact pps_cons hk.pe hv.pe ih
theorem ps_run {c : Ct} {σ : L2.St} {kx : KX} : ∀ {ws : List (WE × WE)} {ρ : List En} {H : Hp} {k : List (R × R) → List En → Prop} {Q : List (V × V) → Hp → Prop}, Gd X.K c σ H ρ → wPs ws kx ρ k → ExOk X.K E c σ ρ H kx →
    (∀ l ρ' vs H', l.length = ws.length → k l ρ' → Gd X.K c σ H' ρ' → Ev c ρ H ρ' H' → Paired (fun (v : V × V) (r : R × R) => RepR X.K c σ H' ρ' v.1 r.1 ∧ RepR X.K c σ H' ρ' v.2 r.2) vs l → Q vs H') → tPairs (ws.map fun p => (lE X E p.1, lE X E p.2)) σ H Q
  | [], ρ, H, k, Q, g, hw, hx, hk => hk [] ρ [] H rfl hw g .refl .nil
  | p :: r, ρ, H, k, Q, g, hw, hx, hk => by
    refine ⟨c, ρ, _, kx, g, hw, fun ra ρ1 v1 H1 k1 g1 e1 p1 => ?_, hx⟩
    refine ⟨c, ρ1, _, kx, g1, k1, fun rb ρ2 v2 H2 k2 g2 e2 p2 => ?_, hx.ev e1⟩
    refine ps_run g2 k2 (hx.ev (e1.trans e2)) fun l ρ3 vs H3 hl k3 g3 e3 p3 => ?_
    exact hk _ _ _ _ (by rw [List.length_cons, List.length_cons, hl]) k3 g3 ((e1.trans e2).trans e3) (.cons ⟨(p1.ev g1 e2).ev g2 e3, p2.ev g2 e3⟩ p3)
theorem kvA_rep {c : Ct} {σ : L2.St} {H : Hp} {ρ : List En} : ∀ {l : List (R × R)} {vs : List (V × V)} {m : List (Key × PyData)}, Paired (fun (v : V × V) (r : R × R) => RepR X.K c σ H ρ v.1 r.1 ∧ RepR X.K c σ H ρ v.2 r.2) vs l → kvA l = some m →
    ∃ ks : List (Key × V), vs = ks.map (fun kv => (kV kv.1, kv.2)) ∧ PKV X.K (Mof c ρ) H m ks
  | [], _, m, .nil, h => by cases h; exact ⟨[], rfl, .nil⟩
  | (.val (.int i), .val z) :: r, _, m, .cons (a := v) p t, h => by
    obtain ⟨m', h1, rfl⟩ := Option.map_eq_some_iff.mp (show (kvA r).map _ = some m from h)
    obtain ⟨ks, e, q⟩ := kvA_rep t h1
    obtain ⟨x, y⟩ := v
    cases (show x = V.int i from p.1)
    exact ⟨(.inl i, y) :: ks, by rw [e]; rfl, .cons ⟨rfl, p.2⟩ q⟩
  | (.val (.str i), .val z) :: r, _, m, .cons (a := v) p t, h => by
    obtain ⟨m', h1, rfl⟩ := Option.map_eq_some_iff.mp (show (kvA r).map _ = some m from h)
    obtain ⟨ks, e, q⟩ := kvA_rep t h1
    obtain ⟨x, y⟩ := v
    cases (show x = V.str i from p.1)
    exact ⟨(.inr i, y) :: ks, by rw [e]; rfl, .cons ⟨rfl, p.2⟩ q⟩
  | (.val .none, _) :: _, _, _, _, h => by cases h
  | (.val (.bool _), _) :: _, _, _, _, h => by cases h
  | (.val (.list _), _) :: _, _, _, _, h => by cases h
  | (.val (.tuple _), _) :: _, _, _, _, h => by cases h
  | (.val (.dict _), _) :: _, _, _, _, h => by cases h
  | (.see _, _) :: _, _, _, _, h => by cases h
  | (.at _, _) :: _, _, _, _, h => by cases h
  | (.obj _, _) :: _, _, _, _, h => by cases h
  | (.val (.int _), .see _) :: _, _, _, _, h => by cases h
  | (.val (.int _), .at _) :: _, _, _, _, h => by cases h
  | (.val (.int _), .obj _) :: _, _, _, _, h => by cases h
  | (.val (.str _), .see _) :: _, _, _, _, h => by cases h
  | (.val (.str _), .at _) :: _, _, _, _, h => by cases h
  | (.val (.str _), .obj _) :: _, _, _, _, h => by cases h
theorem PKV.merge {K : PySem.W.Frag} {M : Ow} {H : Hp} : ∀ {m : List (Key × PyData)} {ks : List (Key × V)} {l : List (Key × PyData)} {js : List (Key × V)}, PKV K M H m ks → PKV K M H l js → PKV K M H (mergeA l m) (mergeK js ks)
  | _, _, _, _, .nil, h => h
  | _, _, _, _, .cons (a := p) (b := q) h t, h2 => by
    have := PKV.merge t (PKV.put (k := p.1) h.2 h2)
    show PKV K M H (mergeA (putA _ p.1 p.2) _) (mergeK (putK _ q.1 q.2) _)
    rw [← h.1]; exact this
def wDisp (ws : List (WE × WE)) : WN := fun _ ρ k => wPs ws (fun _ _ => False) ρ fun l ρ1 => ∃ m, kvA l = some m ∧ k (.dict ((mergeA [] m).map kvD)) ρ1
theorem bn_disp {ks : List (Option Expr)} {vs : List Expr} {ws : List (WE × WE)} (h : BPs X E pos ks vs ws) (hall : ks.all (·.isSome) = true) (hl : ks.length = vs.length) (h0 : ks ≠ []) (h15 : ks.length ≤ 15) (hw0 : ks.length = ws.length) : BN X E (.Dict ks vs pos) (wDisp ws) := by
  refine ⟨peI (pe_disp h.pps hall hl h0 h15) fun σ H Q ⟨c, ρ, k, kx, gd, hw, hk, hx⟩ => ?_⟩
  intro p hp
  have sm : Sm H (upd H p (.dK [])) := sm_upd hp
  have g1 := gd.more hp sm (by rw [upd_same]; intro z; cases z)
  have nw : ¬ Wr ρ p := fun z => gd.mth (gd.wsub (gd.wr_w z)) hp
  refine ps_run g1 hw (fun _ _ _ _ _ z => z.elim) fun l ρ1 us H1 hlen k1 g2 e2 p2 => ?_
  obtain ⟨m, hm, k1⟩ := k1
  obtain ⟨js, e, q⟩ := kvA_rep p2 hm
  have hp1 : H1 p = some (.dK []) := e2.kept _ _ upd_same nw
  have np1 : ¬ Wr ρ1 p := fun z => by
    rcases e2.own p z with z | z
    · exact nw z
    · rw [upd_same] at z; cases z
  have e3 : Ev c ρ H ρ1 H1 := (Ev.same sm).trans e2.any
  have hlm : js.length ≤ 15 := by
    have h1 : us.length = l.length := Paired.length p2
    have h2 : us.length = js.length := by rw [e, List.length_map]
    omega
  refine ⟨hp1, js, e, hlm, ?_⟩
  have hM : (c.more p).M p := .inr rfl
  have hW : (c.more p).W p := .inr rfl
  have g3 := g2.pokeX (o := .dK (mergeK [] js)) hM hW np1 fun fs z => by rw [hp1] at z; cases z
  refine hk _ ρ1 p _ k1 g3 ⟨fun b o hb n => ?_, e3.own, fun a z => ?_⟩ hp (fun i d z => np1 ⟨i, d, .inr z⟩) (PKV.at upd_same (PKV.mv (mv_upd (.inl hM)) (PKV.merge q .nil)))
  · rw [upd_ne (ne_of_none hb hp)]; exact e3.kept b o hb n
  · by_cases y : a = p
    · subst y; exact hp
    · rw [upd_ne y] at z; exact e3.there a z
/-! ### d[k] op= v -/
def wAugD (i : Nat) (g : G2) (wi we : WE) : WS := fun W ρ => (∃ kvs0, cont i ρ = some (.dict kvs0)) ∧ wi W.ex ρ fun ri ρ1 => ∃ kvs1 key, cont i ρ1 = some (.dict kvs1) ∧ ri.get ρ1 = some key ∧ DIx kvs1 key fun z1 => we W.ex ρ1 fun r ρ2 => ∃ e2, r.get ρ2 = some e2 ∧
  g z1 e2 fun z => ∃ kvs, cont i ρ2 = some (.dict kvs) ∧ DSet kvs key z fun d' => W.nx (wr i d' ρ2)
end

/-! ### typed tables -/
section
variable {α : Type}
/-- a dict of texts -/
abbrev sD (enc : α → PyData) (m : List (Str × α)) : List (PyData × PyData) := m.map fun p => (.str p.1, enc p.2)
/-- .. of numbers -/
abbrev nD (enc : α → PyData) (m : List (Nat × α)) : List (PyData × PyData) := m.map fun p => (.int ((p.1 : Nat) : Int), enc p.2)
abbrev iD (enc : α → PyData) (m : List (Int × α)) : List (PyData × PyData) := m.map fun p => (.int p.1, enc p.2)
theorem valK_map {κ ι β : Type} [DecidableEq κ] [DecidableEq ι] {f : κ → ι} (hf : ∀ a b, f a = f b → a = b) (enc : α → β) (k : κ) : ∀ m : List (κ × α), valK (m.map fun p => (f p.1, enc p.2)) (f k) = (valK m k).map enc
  | [] => rfl
  | p :: m => by
    rw [List.map_cons]
    by_cases e : p.1 = k
    · rw [valK_pos (p := (f p.1, enc p.2)) (by rw [e]), valK_pos e]; rfl
    · rw [valK_neg (p := (f p.1, enc p.2)) (fun z => e (hf _ _ z)), valK_neg e, valK_map hf enc k m]
theorem any_map {κ ι β : Type} [DecidableEq κ] [DecidableEq ι] {f : κ → ι} (hf : ∀ a b, f a = f b → a = b) (enc : α → β) (k : κ) (m : List (κ × α)) : ((m.map fun p => (f p.1, enc p.2)).any fun p => decide (p.1 = f k)) = m.any fun p => decide (p.1 = k) := by
  rw [List.any_map]
  congr 1
  funext p
  simp only [Function.comp_apply]
  by_cases e : p.1 = k
  · rw [decide_eq_true e, decide_eq_true (by rw [e])]
  · rw [decide_eq_false e, decide_eq_false fun z => e (hf _ _ z)]
theorem putA_map {κ ι β : Type} [DecidableEq κ] [DecidableEq ι] {f : κ → ι} (hf : ∀ a b, f a = f b → a = b) (enc : α → β) (k : κ) (a : α) (m : List (κ × α)) : putA (m.map fun p => (f p.1, enc p.2)) (f k) (enc a) = (putA m k a).map fun p => (f p.1, enc p.2) := by
  unfold putA
  rw [any_map hf]
  split
  · rw [List.map_map, List.map_map]
    congr 1
    funext p
    simp only [Function.comp_apply]
    by_cases e : p.1 = k
    · rw [if_pos e, if_pos (by rw [e])]
    · rw [if_neg e, if_neg fun z => e (hf _ _ z)]
  · rw [List.map_append]; rfl
theorem inr_inj (a b : Str) (h : (Sum.inr a : Key) = .inr b) : a = b := by cases h; rfl
theorem inl_inj (a b : Int) (h : (Sum.inl a : Key) = .inl b) : a = b := by cases h; rfl
theorem nat_inj (a b : Nat) (h : (Sum.inl (a : Int) : Key) = .inl (b : Int)) : a = b := by
  have := inl_inj _ _ h; omega
theorem kvD_str (enc : α → PyData) (m : List (Str × α)) : sD enc m = (m.map fun p => ((Sum.inr p.1 : Key), enc p.2)).map kvD := by
  rw [List.map_map]; rfl
theorem kvD_nat (enc : α → PyData) (m : List (Nat × α)) : nD enc m = (m.map fun p => ((Sum.inl (p.1 : Int) : Key), enc p.2)).map kvD := by
  rw [List.map_map]; rfl
theorem kvD_int (enc : α → PyData) (m : List (Int × α)) : iD enc m = (m.map fun p => ((Sum.inl p.1 : Key), enc p.2)).map kvD := by
  rw [List.map_map]; rfl
variable {enc : α → PyData} {a : α} {k : PyData → Prop}
theorem DIx.str {m : List (Str × α)} {n : Str} (h : valK m n = some a) (hk : k (enc a)) : DIx (sD enc m) (.str n) k :=
  ⟨_, .inr n, enc a, kvD_str enc m, rfl, by rw [valK_map inr_inj, h]; rfl, hk⟩
theorem DIx.nat {m : List (Nat × α)} {n : Nat} (h : valK m n = some a) (hk : k (enc a)) : DIx (nD enc m) (.int (n : Int)) k :=
  ⟨_, .inl (n : Int), enc a, kvD_nat enc m, rfl, by rw [valK_map (f := fun n : Nat => (Sum.inl (n : Int) : Key)) nat_inj, h]; rfl, hk⟩
theorem DIx.int {m : List (Int × α)} {n : Int} (h : valK m n = some a) (hk : k (enc a)) : DIx (iD enc m) (.int n) k :=
  ⟨_, .inl n, enc a, kvD_int enc m, rfl, by rw [valK_map inl_inj, h]; rfl, hk⟩
theorem DIn.str {m : List (Str × α)} {n : Str} {k : Bool → Prop} (hk : k (valK m n).isSome) : DIn (sD enc m) (.str n) k :=
  ⟨_, .inr n, kvD_str enc m, rfl, by rw [valK_map inr_inj, Option.isSome_map]; exact hk⟩
theorem DIn.nat {m : List (Nat × α)} {n : Nat} {k : Bool → Prop} (hk : k (valK m n).isSome) : DIn (nD enc m) (.int (n : Int)) k :=
  ⟨_, .inl (n : Int), kvD_nat enc m, rfl, by rw [valK_map (f := fun n : Nat => (Sum.inl (n : Int) : Key)) nat_inj, Option.isSome_map]; exact hk⟩
theorem DIn.int {m : List (Int × α)} {n : Int} {k : Bool → Prop} (hk : k (valK m n).isSome) : DIn (iD enc m) (.int n) k :=
  ⟨_, .inl n, kvD_int enc m, rfl, by rw [valK_map inl_inj, Option.isSome_map]; exact hk⟩
theorem DSet.str {m : List (Str × α)} {n : Str} {z : PyData} (a : α) (hz : z = enc a) (hl : m.length < sizeLine) (hk : k (.dict (sD enc (putA m n a)))) : DSet (sD enc m) (.str n) z k := by
  subst hz
  exact ⟨_, .inr n, kvD_str enc m, rfl, by rw [List.length_map]; exact hl, by rw [putA_map inr_inj, ← kvD_str]; exact hk⟩
theorem DSet.nat {m : List (Nat × α)} {n : Nat} {z : PyData} (a : α) (hz : z = enc a) (hl : m.length < sizeLine) (hk : k (.dict (nD enc (putA m n a)))) : DSet (nD enc m) (.int (n : Int)) z k := by
  subst hz
  exact ⟨_, .inl (n : Int), kvD_nat enc m, rfl, by rw [List.length_map]; exact hl, by rw [putA_map (f := fun n : Nat => (Sum.inl (n : Int) : Key)) nat_inj, ← kvD_nat]; exact hk⟩
theorem DSet.int {m : List (Int × α)} {n : Int} {z : PyData} (a : α) (hz : z = enc a) (hl : m.length < sizeLine) (hk : k (.dict (iD enc (putA m n a)))) : DSet (iD enc m) (.int n) z k := by
  subst hz
  exact ⟨_, .inl n, kvD_int enc m, rfl, by rw [List.length_map]; exact hl, by rw [putA_map inl_inj, ← kvD_int]; exact hk⟩
theorem DOr.str {m : List (Str × α)} {n : Str} {z : PyData} (hk : k (((valK m n).map enc).getD z)) : DOr (sD enc m) (.str n) z k :=
  ⟨_, .inr n, kvD_str enc m, rfl, by rw [valK_map inr_inj]; exact hk⟩
theorem DOr.nat {m : List (Nat × α)} {n : Nat} {z : PyData} (hk : k (((valK m n).map enc).getD z)) : DOr (nD enc m) (.int (n : Int)) z k :=
  ⟨_, .inl (n : Int), kvD_nat enc m, rfl, by rw [valK_map (f := fun n : Nat => (Sum.inl (n : Int) : Key)) nat_inj]; exact hk⟩
theorem DOr.int {m : List (Int × α)} {n : Int} {z : PyData} (hk : k (((valK m n).map enc).getD z)) : DOr (iD enc m) (.int n) z k :=
  ⟨_, .inl n, kvD_int enc m, rfl, by rw [valK_map inl_inj]; exact hk⟩
theorem DLen.str {m : List (Str × α)} (hk : k (.int (m.length : Nat))) : DLen (sD enc m) k := ⟨_, kvD_str enc m, by rw [List.length_map]; exact hk⟩
theorem DLen.nat {m : List (Nat × α)} (hk : k (.int (m.length : Nat))) : DLen (nD enc m) k := ⟨_, kvD_nat enc m, by rw [List.length_map]; exact hk⟩
theorem DLen.int {m : List (Int × α)} (hk : k (.int (m.length : Nat))) : DLen (iD enc m) k := ⟨_, kvD_int enc m, by rw [List.length_map]; exact hk⟩
theorem DIs.str {m : List (Str × α)} : DIs (sD enc m) := ⟨_, kvD_str enc m⟩
theorem DIs.nat {m : List (Nat × α)} : DIs (nD enc m) := ⟨_, kvD_nat enc m⟩
theorem DIs.int {m : List (Int × α)} : DIs (iD enc m) := ⟨_, kvD_int enc m⟩
/-! what a table holds -/
section
variable {κ : Type} [DecidableEq κ]
theorem valK_snoc {m : List (κ × α)} {j : κ} (k : κ) (h : valK m j = none) : valK (m ++ [(j, a)]) k = if j = k then some a else valK m k := by
  induction m with
  | nil =>
    by_cases e : j = k
    · rw [if_pos e]; exact valK_pos e
    · rw [if_neg e]; exact valK_neg e
  | cons p m ih =>
    by_cases e : p.1 = j
    · rw [valK_pos e] at h; cases h
    · rw [valK_neg e] at h
      by_cases e2 : p.1 = k
      · rw [List.cons_append, valK_pos e2, valK_pos e2, if_neg fun z => e (e2.trans z.symm)]
      · rw [List.cons_append, valK_neg e2, valK_neg e2]; exact ih h
theorem valK_any (m : List (κ × α)) (k : κ) : (m.any fun p => decide (p.1 = k)) = (valK m k).isSome := by
  induction m with
  | nil => rfl
  | cons p m ih =>
    rw [List.any_cons]
    by_cases e : p.1 = k
    · rw [valK_pos e, decide_eq_true e]; rfl
    · rw [valK_neg e, decide_eq_false e, Bool.false_or, ih]
theorem putA_new {m : List (κ × α)} {j : κ} (h : valK m j = none) : putA m j a = m ++ [(j, a)] := by
  unfold putA
  rw [valK_any, h]; rfl
theorem valK_repl (j k : κ) : ∀ m : List (κ × α), valK (m.map fun p => if p.1 = j then (p.1, a) else p) k = (valK m k).map fun x => if j = k then a else x
  | [] => rfl
  | p :: m => by
    rw [List.map_cons]
    by_cases e : p.1 = j
    · by_cases e2 : p.1 = k
      · rw [if_pos e, valK_pos (p := (p.1, a)) e2, valK_pos e2, Option.map_some, if_pos (e.symm.trans e2)]
      · rw [if_pos e, valK_neg (p := (p.1, a)) e2, valK_neg e2, valK_repl j k m]
    · by_cases e2 : p.1 = k
      · rw [if_neg e, valK_pos e2, valK_pos e2, Option.map_some, if_neg fun z => e (e2.trans z.symm)]
      · rw [if_neg e, valK_neg e2, valK_neg e2, valK_repl j k m]
theorem valK_put (m : List (κ × α)) (j k : κ) : valK (putA m j a) k = if j = k then some a else valK m k := by
  cases h : valK m j with
  | none => rw [putA_new h, valK_snoc k h]
  | some b =>
    have e : putA m j a = m.map fun p => if p.1 = j then (p.1, a) else p := by
      unfold putA
      rw [valK_any, h]; rfl
    rw [e, valK_repl]
    by_cases q : j = k
    · subst q; rw [h, Option.map_some, if_pos rfl, if_pos rfl]
    · rw [if_neg q]
      cases valK m k with
      | none => rfl
      | some x => rw [Option.map_some, if_neg q]
theorem putA_len (m : List (κ × α)) (j : κ) (a : α) : (putA m j a).length ≤ m.length + 1 := by
  unfold putA
  split
  · rw [List.length_map]; omega
  · rw [List.length_append]; exact Nat.le_refl _
theorem valK_mem {m : List (κ × α)} {k : κ} {a : α} (h : valK m k = some a) : (k, a) ∈ m := by
  induction m with
  | nil => cases h
  | cons p m ih =>
    by_cases e : p.1 = k
    · rw [valK_pos e] at h
      cases h; subst e
      exact List.mem_cons_self
    · rw [valK_neg e] at h
      exact List.mem_cons_of_mem _ (ih h)
theorem valK_no {m : List (κ × α)} {k : κ} (h : k ∉ m.map (·.1)) : valK m k = none := by
  cases q : valK m k with
  | none => rfl
  | some a => exact absurd (List.mem_map.mpr ⟨_, valK_mem q, rfl⟩) h
theorem valK_nd {m : List (κ × α)} (hn : (m.map (·.1)).Nodup) {k : κ} {a : α} (h : (k, a) ∈ m) : valK m k = some a := by
  induction m with
  | nil => cases h
  | cons p m ih =>
    rw [List.map_cons, List.nodup_cons] at hn
    rcases List.mem_cons.mp h with q | q
    · subst q; exact valK_pos rfl
    · rw [valK_neg (fun z => hn.1 (by rw [z]; exact List.mem_map.mpr ⟨_, q, rfl⟩))]
      exact ih hn.2 q
theorem mem_putA {m : List (κ × α)} {k : κ} {a : α} {p : κ × α} (h : p ∈ putA m k a) : p ∈ m ∨ p = (k, a) := by
  unfold putA at h
  split at h
  · obtain ⟨q, hq, e⟩ := List.mem_map.mp h
    split at e
    · rename_i hk
      exact .inr (by rw [← e, hk])
    · exact .inl (by rw [← e]; exact hq)
  · rcases List.mem_append.mp h with q | q
    · exact .inl q
    · exact .inr (List.mem_singleton.mp q)
/-- a table made of a row of pairs -/
def tabA (l : List (κ × α)) : List (κ × α) := l.foldl (fun m p => putA m p.1 p.2) []
theorem tabA_snoc (l : List (κ × α)) (p : κ × α) : tabA (l ++ [p]) = putA (tabA l) p.1 p.2 := by unfold tabA; rw [List.foldl_append]; rfl
theorem tabA_mem (l : List (κ × α)) : ∀ p ∈ tabA l, p ∈ l := by
  have key : ∀ (l m : List (κ × α)), ∀ p ∈ l.foldl (fun m p => putA m p.1 p.2) m, p ∈ m ∨ p ∈ l := fun l => by
    induction l with
    | nil => intro m p h; exact .inl h
    | cons q l ih =>
      intro m p h
      rcases ih _ p h with z | z
      · rcases mem_putA z with z | z
        · exact .inl z
        · exact .inr (by rw [z]; exact List.mem_cons_self)
      · exact .inr (List.mem_cons_of_mem _ z)
  intro p h
  rcases key l [] p h with z | z
  · cases z
  · exact z
theorem tabA_len (l : List (κ × α)) : (tabA l).length ≤ l.length := by
  have key : ∀ (l m : List (κ × α)), (l.foldl (fun m p => putA m p.1 p.2) m).length ≤ m.length + l.length := fun l => by
    induction l with
    | nil => intro m; exact Nat.le_refl _
    | cons q l ih =>
      intro m
      have h1 := ih (putA m q.1 q.2)
      have h2 := putA_len m q.1 q.2
      show (l.foldl _ (putA m q.1 q.2)).length ≤ _
      rw [List.length_cons]; omega
  have := key l []
  unfold tabA
  simpa using this
theorem tabA_nd {l : List (κ × α)} (h : (l.map (·.1)).Nodup) : tabA l = l := by
  have key : ∀ (l m : List (κ × α)), ((m ++ l).map (·.1)).Nodup → l.foldl (fun m p => putA m p.1 p.2) m = m ++ l := fun l => by
    induction l with
    | nil => intro m _; simp
    | cons q l ih =>
      intro m hn
      have h1 : valK m q.1 = none := valK_no fun z => by
        rw [List.map_append, List.nodup_append] at hn
        exact hn.2.2 _ z q.1 (by simp) rfl
      show l.foldl _ (putA m q.1 q.2) = _
      rw [putA_new h1, ih (m ++ [(q.1, q.2)]) (by rw [List.append_assoc]; exact hn), List.append_assoc]; rfl
  exact key l [] (by simpa using h)
end
end
end LB

/-! LB, part 36: places from the end, lists of data. -/
namespace LB
open PySem PySem.Spec PyProof.Rows L2
theorem atI_neg {ds : List PyData} {k : Nat} {d : PyData} (hk : 0 < k) (h : ds[ds.length - k]? = some d) (hl : k ≤ ds.length) : atI ds (-(k : Int)) = some d := by
  unfold atI ixN
  rw [if_neg (by omega), if_pos (by omega)]
  have e : (-(k : Int) + (ds.length : Int)).toNat = ds.length - k := by omega
  show ds[(-(k : Int) + (ds.length : Int)).toNat]? = _
  rw [e]; exact h
theorem atI_last {α : Type} {f : α → PyData} {l : List α} {n : Nat} {x : α} (hl : l.length = n + 1) (h : l[n]? = some x) : atI (l.map f) (-1) = some (f x) := by
  refine atI_neg (k := 1) (by omega) ?_ (by rw [List.length_map]; omega)
  rw [List.length_map, hl, Nat.add_sub_cancel, List.getElem?_map, h]; rfl
theorem strD_erase (l : List Str) (j : Nat) : (strD l).eraseIdx j = strD (l.eraseIdx j) := map_erase _ l j
theorem eraseIdx_len {α : Type} {l : List α} {j : Nat} (h : j < l.length) : (l.eraseIdx j).length = l.length - 1 := List.length_eraseIdx_of_lt h
theorem cutD_le (ds : List PyData) (lo hi : Option Int) : (cutD ds lo hi).length ≤ ds.length := by
  unfold cutD
  rw [List.length_take, List.length_drop]; omega
theorem strD_sub {l : List Str} {ds : List PyData} (h : ∀ x ∈ ds, x ∈ strD l) : ∃ r : List Str, ds = strD r ∧ ∀ x ∈ r, x ∈ l := by
  induction ds with
  | nil => exact ⟨[], rfl, fun x hx => by cases hx⟩
  | cons d ds ih =>
    obtain ⟨r, e, hr⟩ := ih fun x hx => h x (List.mem_cons_of_mem _ hx)
    obtain ⟨w, hw, rfl⟩ := List.mem_map.mp (h d List.mem_cons_self)
    exact ⟨w :: r, by rw [e]; rfl, fun x hx => by
      rcases List.mem_cons.mp hx with q | q
      · rw [q]; exact hw
      · exact hr x q⟩
theorem cutD_strs (l : List Str) (lo hi : Option Int) : ∃ r : List Str, cutD (strD l) lo hi = strD r ∧ r.length ≤ l.length ∧ ∀ x ∈ r, x ∈ l := by
  have h := cutD_map PyData.str l lo hi
  refine ⟨_, h, ?_, fun x hx => List.mem_of_mem_drop (List.mem_of_mem_take hx)⟩
  rw [List.length_take, List.length_drop]; omega
theorem eqv_bool (b : Bool) : PyData.eqv (.bool b) (.bool b) = true := by cases b <;> rfl
section
variable {α : Type} {enc : α → PyData} {l : List α} {s : Src}
/-- the same over any source of these items -/
theorem ForP.lstS {gt : WG} {wb : WS} {W : WD} {ρ1 : List En} (hs : s.items = l.map enc) (P : Nat → List En → Prop) (h0 : P 0 ρ1) (hok : ∀ i ρ, P i ρ → s.ok ρ)
    (turn : ∀ (i : Nat) (a : α) (ρ2 : List En), l[i]? = some a → P i ρ2 → gt (enc a) ρ2 fun ρ3 => wb { W with nx := P (i + 1), ct := P (i + 1), bk := W.nx } ρ3) (done : ∀ ρ2, P l.length ρ2 → W.nx ρ2) : ForP gt wb W s ρ1 := by
  refine ⟨P, h0, fun i ρ _ h => hok i ρ h, fun i d ρ2 hd hp => ?_, fun ρ2 hp => done ρ2 (by rwa [hs, List.length_map] at hp)⟩
  rw [hs] at hd
  obtain ⟨a, ha, rfl⟩ := map_get hd
  exact turn i a ρ2 ha hp
theorem LcP.lstS {vs : List Nat} {gt : WG} {wt : WT} {we : WE} {ρ1 : List En} {k : PyData → List En → Prop} (hs : s.items = l.map enc) (P : Nat → List PyData → List En → Prop) (h0 : P 0 [] (wipeR ρ1 vs)) (hok : ∀ i acc ρ, P i acc ρ → s.ok ρ)
    (turn : ∀ (i : Nat) (a : α) (acc : List PyData) (ρ2 : List En), l[i]? = some a → P i acc ρ2 →
      gt (enc a) ρ2 fun ρ3 => wt (fun _ _ => False) ρ3 fun b ρ4 => if b = true then we (fun _ _ => False) ρ4 fun r ρ5 => ∃ z ρ6, r.fz ρ5 = some (z, ρ6) ∧ acc.length < sizeLine ∧ P (i + 1) (acc ++ [z]) (wipeR ρ6 vs) else P (i + 1) acc (wipeR ρ4 vs))
    (done : ∀ acc ρ2, P l.length acc ρ2 → k (.list acc) (restR ρ1 ρ2 vs)) : LcP vs gt wt we s ρ1 k := by
  refine ⟨P, h0, fun i acc ρ _ h => hok i acc ρ h, fun i d acc ρ2 hd hp => ?_, fun acc ρ2 hp => done acc ρ2 (by rwa [hs, List.length_map] at hp)⟩
  rw [hs] at hd
  obtain ⟨a, ha, rfl⟩ := map_get hd
  exact turn i a acc ρ2 ha hp
theorem LcP.selS {vs : List Nat} {gt : WG} {wt : WT} {we : WE} {ρ1 : List En} {k : PyData → List En → Prop} (hs : s.items = l.map enc) (hok : s.ok (wipeR ρ1 vs)) (p : α → Bool) (g : α → PyData) (hl : l.length ≤ sizeLine)
    (turn : ∀ (i : Nat) (a : α) (acc : List PyData) (Pn : List PyData → List En → Prop), l[i]? = some a → acc.length < sizeLine → (p a = true → Pn (acc ++ [g a]) (wipeR ρ1 vs)) → (p a = false → Pn acc (wipeR ρ1 vs)) →
      gt (enc a) (wipeR ρ1 vs) fun ρ3 => wt (fun _ _ => False) ρ3 fun b ρ4 => if b = true then we (fun _ _ => False) ρ4 fun r ρ5 => ∃ z ρ6, r.fz ρ5 = some (z, ρ6) ∧ acc.length < sizeLine ∧ Pn (acc ++ [z]) (wipeR ρ6 vs) else Pn acc (wipeR ρ4 vs))
    (done : k (.list ((l.filter p).map g)) (restR ρ1 (wipeR ρ1 vs) vs)) : LcP vs gt wt we s ρ1 k := by
  refine LcP.lstS hs (fun i acc ρ => ρ = wipeR ρ1 vs ∧ acc = ((l.take i).filter p).map g) ⟨rfl, rfl⟩ (fun i acc ρ h => by rw [h.1]; exact hok) ?_ ?_
  · rintro i a acc ρ2 ha ⟨rfl, rfl⟩
    have tk : l.take (i + 1) = l.take i ++ [a] := by rw [List.take_succ, ha]; rfl
    have hi := (List.getElem?_eq_some_iff.mp ha).1
    refine turn i a _ (fun acc ρ => ρ = wipeR ρ1 vs ∧ acc = ((l.take (i + 1)).filter p).map g) ha ?_ (fun hp => ⟨rfl, ?_⟩) (fun hp => ⟨rfl, ?_⟩)
    · rw [List.length_map]
      have h1 := List.length_filter_le p (l.take i)
      rw [List.length_take] at h1
      omega
    · rw [tk, List.filter_append, List.map_append, List.filter_cons_of_pos hp]; rfl
    · rw [tk, List.filter_append, List.filter_cons_of_neg (by simp [hp]), List.filter_nil, List.append_nil]
  · rintro acc ρ2 ⟨rfl, rfl⟩
    rw [List.take_length]
    exact done
end
end LB

/-! LB, part 37: dicts changed by methods. -/
namespace LB
open PySem PySem.Spec PyProof.Rows L2
section
variable {X : Cx} {E : EK} {o : Expr} {apos cpos : Pos}
def wDClear (i : Nat) : WE := fun kx ρ k => ∃ kvs, cont i ρ = some (.dict kvs) ∧ DIs kvs ∧ k (.val .none) (wr i (.dict []) ρ)
theorem be_dclear {i : Nat} (h0 : PE X o (tVar i)) (hbase : attributeBase o "clear" X.env (eval o X.env) = eval o X.env := by rfl) (hline : (apos.endLine == cpos.line) = true := by rfl) : BE X E (.Call (.Attribute o "clear" apos) [] [] cpos) (wDClear i) := by
  refine ⟨peI (pe_dclear h0 hbase hline) fun σ H Q ⟨c, ρ, k, kx, g, hw, hk, hx⟩ => ?_⟩
  obtain ⟨kvs, hc, hi, hk1⟩ := hw
  obtain ⟨m, rfl⟩ := hi.run
  obtain ⟨l, hl, a0, w0, _⟩ := g.cell hc
  obtain ⟨a3, m3⟩ := cell_ref g hc hl
  obtain ⟨ks, q1, q2⟩ := a3.dct
  obtain ⟨g4, e4⟩ := g.wrt hc hl (o := .dK []) (d' := .dict []) (PKV.at (l := []) upd_same .nil)
  exact ⟨.ref l, hl, .inr (.inr (.inl ⟨rfl, .inl ⟨ks, q1⟩⟩)), l, ks, rfl, rfl, q1, hk _ _ _ _ hk1 g4 e4 rfl⟩
end
/-- two branches that join: what is behind is shown once -/
theorem joinIf {b : Bool} {w u : WS} {W : WD} {ρ : List En} (P : List En → Prop) (h : ∀ ρ', P ρ' → W.nx ρ') (k : ∀ U : List En → Prop, (∀ ρ', P ρ' → U ρ') → @ite Prop (b = true) (instDecidableEqBool _ _) (w { W with nx := U } ρ) (u { W with nx := U } ρ)) : @ite Prop (b = true) (instDecidableEqBool _ _) (w W ρ) (u W ρ) := k W.nx h
theorem strD_cons (w : Str) (l : List Str) : strD (w :: l) = .str w :: strD l := rfl
theorem strD_nil : strD [] = [] := rfl
end LB

/-! LB, part 38: range(i, j, c). -/
namespace LB
open PySem PySem.Spec PyProof.Rows L2
def rgC (lo c : Int) (n : Nat) : List PyData := (List.range n).map fun i => .int (lo + (i : Nat) * c)
theorem rgC_len (lo c : Int) (n : Nat) : (rgC lo c n).length = n := by simp [rgC]
theorem rgC_get {lo c : Int} {n i : Nat} (h : i < n) : (rgC lo c n)[i]? = some (.int (lo + (i : Nat) * c)) := by
  unfold rgC
  rw [List.getElem?_map, List.getElem?_range h]; rfl
theorem walks_rangeC {K : PySem.W.Frag} {c : Ct} {ρ : List En} {H : Hp} {lo s : Int} {n : Nat} : WalksD K c ρ H (.fixed (rgC lo s n)) (Itc lo s n) := by
  refine ⟨fun c' σ' ρ' H' i l hi => ?_, fun c' σ' ρ' H' l => ?_, fun c' σ' ρ' H' i x H'' l hi y => ?_⟩
  · show i < n
    have : i < (rgC lo s n).length := hi
    rwa [rgC_len] at this
  · show n ≤ (rgC lo s n).length
    rw [rgC_len]; exact Nat.le_refl _
  · have hi' : i < n := by
      have : i < (rgC lo s n).length := hi
      rwa [rgC_len] at this
    obtain ⟨rfl, rfl⟩ := (show H'' = H' ∧ x = .int (lo + (i : Nat) * s) from y)
    exact ⟨fun _ _ z => z, _, rgC_get hi', rfl⟩
section
variable {X : Cx} {E : EK} {e e2 e3 tg : Expr} {pos : Pos}
def wRg3 (u : WA) : WI := fun kx ρ k => u kx ρ fun rs ρ1 => ∃ (i j c : Int) (n : Nat), getA rs ρ1 = some [.int i, .int j, .int c] ∧ RgC i j c n ∧ k (.fixed (rgC i c n)) ρ1
theorem see3 {K : PySem.W.Frag} {M : Ow} {H : Hp} {xs : List V} {d e f : PyData} (h : SeeA K M H xs [d, e, f]) : ∃ v w u, xs = [v, w, u] ∧ See K M No H d v ∧ See K M No H e w ∧ See K M No H f u := by
  cases h with | cons a b => cases b with | cons b c => cases c with | cons c d => cases d; exact ⟨_, _, _, rfl, a, b, c⟩
theorem bi_range3 {u : WA} {p : Pos} (hg : Gl X "range") (hm : X.mg "range" = none) (ha : BA X E [e, e2, e3] u) (hs : starEach [e, e2, e3] X.env = (false, eval e X.env) :: starEach [e2, e3] X.env := by rfl) (hpl : (backTo pos (starEach [e2, e3] X.env)).any (·.1) = false := by rfl) :
    BI X E tg (.Call (.Name "range" p) [e, e2, e3] [] pos) (wRg3 u) := by
  refine ⟨piI (pi_range3 hg hm ha.pa hs hpl) fun σ H RR ⟨c, ρ, k, kx, gd, hw, hk, hx⟩ => ?_⟩
  refine ⟨c, ρ, _, kx, gd, hw, fun rs ρ1 vs H1 k1 g1 e1 p1 => ?_, hx⟩
  obtain ⟨i, j, c', n, hj, hr, k2⟩ := k1
  obtain ⟨v, w, u', rfl, sv, sw, su⟩ := see3 (getA_see g1 p1 hj)
  exact ⟨i, j, c', n, by rw [sv.int, sw.int, su.int], hr, hk _ ρ1 _ H1 k2 g1 e1 trivial walks_rangeC⟩
end
/-- for i in range(n - 1, -1, -1) -/
theorem ForP.down {gt : WG} {wb : WS} {W : WD} {ρ1 : List En} {n : Nat} (P : Nat → List En → Prop) (h0 : P n ρ1)
    (turn : ∀ (i : Nat) (ρ2 : List En), i < n → P (i + 1) ρ2 → gt (.int ((i : Nat) : Int)) ρ2 fun ρ3 => wb { W with nx := P i, ct := P i, bk := W.nx } ρ3) (done : ∀ ρ2, P 0 ρ2 → W.nx ρ2) : ForP gt wb W (.fixed (rgC (((n : Nat) : Int) - 1) (-1) n)) ρ1 := by
  refine ForP.inv (fun i ρ => P (n - i) ρ) (by simpa using h0) (fun i d ρ2 hd hp => ?_) (fun ρ2 hp => done ρ2 (by rw [rgC_len, Nat.sub_self] at hp; exact hp))
  have hi : i < n := by
    have := (List.getElem?_eq_some_iff.mp hd).1
    rwa [rgC_len] at this
  rw [rgC_get hi] at hd
  cases hd
  have e1 : n - i = (n - i - 1) + 1 := by omega
  rw [e1] at hp
  have := turn (n - i - 1) ρ2 (by omega) hp
  have e2 : ((n - i - 1 : Nat) : Int) = ((n : Nat) : Int) - 1 + (i : Nat) * (-1) := by omega
  rw [e2] at this
  exact this
/-- [.. for i, a in enumerate(l) ..] with an invariant -/
theorem LcP.enum {α : Type} {enc : α → PyData} {l : List α} {vs : List Nat} {gt : WG} {wt : WT} {we : WE} {ρ1 : List En} {k : PyData → List En → Prop} (P : Nat → List PyData → List En → Prop) (h0 : P 0 [] (wipeR ρ1 vs))
    (turn : ∀ (i : Nat) (a : α) (acc : List PyData) (ρ2 : List En), l[i]? = some a → P i acc ρ2 →
      gt (.tuple [.int ((i : Nat) : Int), enc a]) ρ2 fun ρ3 => wt (fun _ _ => False) ρ3 fun b ρ4 => if b = true then we (fun _ _ => False) ρ4 fun r ρ5 => ∃ z ρ6, r.fz ρ5 = some (z, ρ6) ∧ acc.length < sizeLine ∧ P (i + 1) (acc ++ [z]) (wipeR ρ6 vs) else P (i + 1) acc (wipeR ρ4 vs))
    (done : ∀ acc ρ2, P l.length acc ρ2 → k (.list acc) (restR ρ1 ρ2 vs)) : LcP vs gt wt we (.fixed (enumD (l.map enc))) ρ1 k := by
  refine LcP.inv P h0 (fun i d acc ρ2 hd hp => ?_) (fun acc ρ2 hp => done acc ρ2 (by rwa [enumD_len, List.length_map] at hp))
  have hi : i < l.length := by
    have := (List.getElem?_eq_some_iff.mp hd).1
    rwa [enumD_len, List.length_map] at this
  have ha : l[i]? = some l[i] := List.getElem?_eq_getElem hi
  have he : (enumD (l.map enc))[i]? = some (.tuple [.int ((i : Nat) : Int), enc l[i]]) := enumD_get (by rw [List.getElem?_map, ha]; rfl)
  rw [hd] at he
  cases he
  exact turn i _ acc ρ2 ha hp
end LB

/-! LB, part 39: a call whose last argument is a new list that the callee changes. -/
namespace LB
open PySem PySem.Spec PyProof.Rows L2
section
variable {K : PySem.W.Frag} {c : Ct} {σ : L2.St} {H : Hp} {ρ : List En}
theorem app_get {α : Type} {l : List α} {a : α} {i : Nat} {e : α} (h : (l ++ [a])[i]? = some e) : (l[i]? = some e ∧ i < l.length) ∨ (i = l.length ∧ e = a) := by
  by_cases hi : i < l.length
  · rw [List.getElem?_append_left hi] at h; exact .inl ⟨h, hi⟩
  · have := (List.getElem?_eq_some_iff.mp h).1
    rw [List.length_append, List.length_singleton] at this
    have e1 : i = l.length := by omega
    subst e1
    rw [List.getElem?_append_right (Nat.le_refl _), Nat.sub_self] at h
    cases h
    exact .inr ⟨rfl, rfl⟩
theorem get_app {α : Type} {l : List α} {a : α} {i : Nat} {e : α} (h : l[i]? = some e) : (l ++ [a])[i]? = some e := by
  rw [List.getElem?_append_left (List.getElem?_eq_some_iff.mp h).1]; exact h
theorem oof_app {e : En} {a : Addr} (h : Oof ρ a) : Oof (ρ ++ [e]) a := by
  obtain ⟨i, d, h⟩ := h
  exact ⟨i, d, get_app h⟩
/-- a slot more, with nothing told of it -/
theorem Gd.ext (g : Gd K c σ H ρ) (s : Option V) : Gd K c (σ ++ [s]) H (ρ ++ [.no]) := by
  have q : ∀ {i : Nat} {e : En}, (ρ ++ [.no])[i]? = some e → e ≠ .no → ρ[i]? = some e := fun h n => by
    rcases app_get h with ⟨h, _⟩ | ⟨_, h⟩
    · exact h
    · exact absurd h n
  have so : ∀ a, Oof (ρ ++ [.no]) a → Oof ρ a := fun a ⟨i, d, h⟩ => ⟨i, d, q h (by intro z; cases z)⟩
  have m : Mv (Mof c ρ) (Mof c (ρ ++ [.no])) H H := Mv.sub fun a z => z.imp id (so a)
  have mw : Mv (Wof c ρ) (Wof c (ρ ++ [.no])) H H := Mv.sub fun a z => z.imp id (so a)
  refine ⟨by rw [List.length_append, List.length_append, g.len]; rfl, fun i d z => ?_, fun i d z => ?_, fun i l d z => ?_, fun i l d z => ?_, fun i v z => get_app (g.obj i v (q z (by intro z; cases z))), fun i j l d e z y => g.uo i j l d e (q z (by intro z; cases z)) (q y (by intro z; cases z)), fun i j l d e z y => g.ui i j l d e (q z (by intro z; cases z)) (q y (by intro z; cases z)), g.fr, g.wm, g.th, fun i v p x z => ?_⟩
  · obtain ⟨v, a, b⟩ := g.val i d (q z (by intro z; cases z)); exact ⟨v, get_app a, b.mv m⟩
  · obtain ⟨v, a, b⟩ := g.rd i d (q z (by intro z; cases z)); exact ⟨v, get_app a, b.mv m mw⟩
  · obtain ⟨a, b, e⟩ := g.own i l d (q z (by intro z; cases z)); exact ⟨get_app a, b.mv m fun _ z => z, e⟩
  · obtain ⟨a, b, e⟩ := g.io i l d (q z (by intro z; cases z)); exact ⟨get_app a, b.mv m fun _ z => z, e⟩
  · obtain ⟨a, b⟩ := g.xn i v p x (q z (by intro z; cases z)); exact ⟨get_app a, b⟩
/-- the last slot forgotten -/
theorem Gd.drop {s : Option V} {e : En} (g : Gd K c (σ ++ [s]) H (ρ ++ [e])) : Gd K c σ H ρ := by
  have hl : σ.length = ρ.length := by
    have := g.len
    rw [List.length_append, List.length_append] at this
    simpa using this
  have w : ∀ {i : Nat} {en : En} {x : Option V}, ρ[i]? = some en → (σ ++ [s])[i]? = some x → σ[i]? = some x := fun h1 h2 => by
    have hi := (List.getElem?_eq_some_iff.mp h1).1
    rwa [List.getElem?_append_left (by omega)] at h2
  have m : Mv (Mof c (ρ ++ [e])) (Mof c ρ) H H := Mv.sub fun a z => z.imp id oof_app
  have mw : Mv (Wof c (ρ ++ [e])) (Wof c ρ) H H := Mv.sub fun a z => z.imp id oof_app
  refine ⟨hl, fun i d z => ?_, fun i d z => ?_, fun i l d z => ?_, fun i l d z => ?_, fun i v z => w z (g.obj i v (get_app z)), fun i j l d e z y => g.uo i j l d e (get_app z) (get_app y), fun i j l d e z y => g.ui i j l d e (get_app z) (get_app y), g.fr, g.wm, g.th, fun i v p x z => ?_⟩
  · obtain ⟨v, a, b⟩ := g.val i d (get_app z); exact ⟨v, w z a, b.mv m⟩
  · obtain ⟨v, a, b⟩ := g.rd i d (get_app z); exact ⟨v, w z a, b.mv m mw⟩
  · obtain ⟨a, b, e⟩ := g.own i l d (get_app z); exact ⟨w z a, b.mv m fun _ z => z, e⟩
  · obtain ⟨a, b, e⟩ := g.io i l d (get_app z); exact ⟨w z a, b.mv m fun _ z => z, e⟩
  · obtain ⟨a, b⟩ := g.xn i v p x (get_app z); exact ⟨w z a, b⟩
/-- a new list at p, held by a slot more -/
theorem Gd.push {p : Addr} {d : PyData} (g : Gd K (c.more p) σ H ρ) (hw : ∀ a, c.W a → c.M a) (hi : NoIo p ρ) (h : At K (Mof (c.more p) ρ) H p d) (n1 : ¬ c.M p) (n2 : c.H0 p = none) : Gd K c (σ ++ [some (.ref p)]) H (ρ ++ [.own p d]) := by
  have g1 := g.ext none
  have hi' : NoIo p (ρ ++ [.no]) := fun i d z => by
    rcases app_get z with ⟨z, _⟩ | ⟨_, z⟩
    · exact hi i d z
    · cases z
  have m : Mv (Mof (c.more p) ρ) (Mof (c.more p) (ρ ++ [.no])) H H := Mv.sub fun a z => z.imp id fun ⟨i, d, z⟩ => by
    rcases app_get z with ⟨z, _⟩ | ⟨_, z⟩
    · exact ⟨i, d, z⟩
    · cases z
  have g2 := g1.setOwn hw hi' ρ.length (h.mv m fun _ z => z) n1 n2
  have e1 : (ρ ++ [En.no]).set ρ.length (En.own p d) = ρ ++ [En.own p d] := by
    rw [List.set_append_right _ _ (Nat.le_refl _), Nat.sub_self]; rfl
  have e2 : (σ ++ [none]).set ρ.length (some (.ref p)) = σ ++ [some (.ref p)] := by
    rw [← g.len, List.set_append_right _ _ (Nat.le_refl _), Nat.sub_self]; rfl
  rw [e1, e2] at g2
  exact g2
end
/-- arguments, the last one a new list -/
abbrev WAN := KX → List En → (List R → PyData → List En → Prop) → Prop
def lAN (X : Cx) (E : EK) (w : WAN) : TA := fun σ H Q => ∃ c ρ k kx, Gd X.K c σ H ρ ∧ w kx ρ k ∧
  (∀ rs d ρ' vs p H', k rs d ρ' → Gd X.K (c.more p) σ H' ρ' → Ev c ρ H ρ' H' → H p = none → NoIo p ρ' → At X.K (Mof (c.more p) ρ') H' p d → Paired (fun v r => RepR X.K (c.more p) σ H' ρ' v r) vs rs → Q (vs ++ [.ref p]) H') ∧ ExOk X.K E c σ ρ H kx
structure BAN (X : Cx) (E : EK) (es : List Expr) (w : WAN) : Prop where
  pa : PA X es (lAN X E w)
section
variable {X : Cx} {E : EK} {e : Expr} {es : List Expr}
def wOne (wn : WN) : WAN := fun kx ρ k => wn kx ρ fun d ρ1 => k [] d ρ1
def wConsN (w : WE) (u : WAN) : WAN := fun kx ρ k => w kx ρ fun r ρ1 => u kx ρ1 fun rs d ρ2 => k (r :: rs) d ρ2
theorem ban_one {wn : WN} (h : BN X E e wn) (hs : starEach [e] X.env = (false, eval e X.env) :: starEach [] X.env := by rfl) : BAN X E [e] (wOne wn) := by
  refine ⟨paI (pa_cons h.pe pa_nil hs) fun σ H Q ⟨c, ρ, k, kx, g, hw, hk, hx⟩ => ?_⟩
  exact ⟨c, ρ, _, kx, g, hw, fun d ρ1 p H1 k1 g1 e1 hp ni ha => hk [] d ρ1 [] p H1 k1 g1 e1 hp ni ha .nil, hx⟩
theorem rep_more {K : PySem.W.Frag} {c : Ct} {σ : L2.St} {H H' : Hp} {ρ ρ' : List En} {p : Addr} {v : V} {r : R} (h : RepR K c σ H ρ v r) (g : Gd K c σ H ρ) (e : Ev c ρ H ρ' H') (hp : H p = none) : RepR K (c.more p) σ H' ρ' v r := by
  have mv : Mv (Mof c ρ) (Mof (c.more p) ρ') H H' := ⟨fun a z => by
    rcases z with (z | rfl) | z
    · exact .inl (.inl z)
    · exact .inr hp
    · exact (e.mv g).own a (.inr z), (e.mv g).kept⟩
  have mvw : Mv (Wof c ρ) (Wof (c.more p) ρ') H H' := ⟨fun a z => by
    rcases z with (z | rfl) | z
    · exact .inl (.inl z)
    · exact .inr hp
    · exact (e.mvw g).own a (.inr z), (e.mvw g).kept⟩
  cases r with
  | val d => exact Rep.mv mv h
  | see d => exact See.mv mv mvw h
  | «at» i => exact h
  | obj u => exact h
theorem ban_cons {w : WE} {u : WAN} (h : BE X E e w) (h2 : BAN X E es u) (hs : starEach (e :: es) X.env = (false, eval e X.env) :: starEach es X.env := by rfl) : BAN X E (e :: es) (wConsN w u) := by
  refine ⟨paI (pa_cons h.pe h2.pa hs) fun σ H Q ⟨c, ρ, k, kx, g, hw, hk, hx⟩ => ?_⟩
  refine ⟨c, ρ, _, kx, g, hw, fun r ρ1 v H1 k1 g1 e1 p1 => ?_, hx⟩
  refine ⟨c, ρ1, _, kx, g1, k1, fun rs d ρ2 vs p H2 k2 g2 e2 hp ni ha p2 => ?_, hx.ev e1⟩
  exact hk (r :: rs) d ρ2 (v :: vs) p H2 k2 g2 (e1.trans e2) (e1.there p hp) ni ha (.cons (rep_more p1 g1 e2 hp) p2)
def wCallL0 (ms : List Md) (S : Spc) (u : WAN) : WE := fun kx ρ k => u kx ρ fun rs d ρ1 => ∀ p, ∃ xs ρ2 is, passA ms (rs ++ [.at ρ1.length]) (ρ1 ++ [.own p d]) = some (xs, ρ2, is) ∧ okA ms (rs ++ [.at ρ1.length]) is = true ∧ lentOk is ρ2 = true ∧ ρ2.length = ρ1.length + 1 ∧
  S xs (fun d outs => k (.val d) (wrs is outs ρ2).dropLast) fun _ _ => False
theorem wrs_len : ∀ (is : List Nat) (os : List PyData) (ρ : List En), (wrs is os ρ).length = ρ.length
  | [], os, ρ => by rw [wrs_n]
  | i :: is, [], ρ => rfl
  | i :: is, o :: os, ρ => by rw [wrs_c, wrs_len is os, wr_len]
theorem be_callL {ms : List Md} {S : Spc} {u : WAN} {ex : Expr} (mk : ∀ {t : TA}, PA X es t → PE X ex (tCall (spV X.K ms S) [] E0 t)) (hu : BAN X E es u) : BE X E ex (wCallL0 ms S u) := by
  refine ⟨peI (mk hu.pa) fun σ H Q h => ?_⟩
  obtain ⟨c, ρ, k, kx, g, hw, hk, hx⟩ := h
  refine ⟨c, ρ, _, kx, g, hw, fun rs d ρ1 vs p H1 k1 g1 e1 hp0 ni ha p1 => ?_, hx⟩
  obtain ⟨xs, ρ2, is, hp, ho, hl, hlen, hS⟩ := k1 p
  obtain ⟨n2, n1⟩ := h0_none g hp0
  have gp := g1.push g.wm ni ha n1 n2
  have so : ∀ a, Oof (ρ1 ++ [.own p d]) a → Oof ρ1 a ∨ a = p := fun a ⟨i, x, z⟩ => by
    rcases app_get z with ⟨z, _⟩ | ⟨_, z⟩
    · exact .inl ⟨i, x, z⟩
    · cases z; exact .inr rfl
  have m : Mv (Mof (c.more p) ρ1) (Mof c (ρ1 ++ [.own p d])) H1 H1 := Mv.sub fun a z => by
    rcases z with z | z
    · exact .inl (.inl z)
    · rcases so a z with z | z
      · exact .inr z
      · exact .inl (.inr z)
  have mw : Mv (Wof (c.more p) ρ1) (Wof c (ρ1 ++ [.own p d])) H1 H1 := Mv.sub fun a z => by
    rcases z with z | z
    · exact .inl (.inl z)
    · rcases so a z with z | z
      · exact .inr z
      · exact .inl (.inr z)
  have pr : Paired (fun v r => RepR X.K c (σ ++ [some (.ref p)]) H1 (ρ1 ++ [.own p d]) v r) (vs ++ [.ref p]) (rs ++ [.at ρ1.length]) := by
    refine Paired.snoc (Pmap p1 fun v r z => ?_) ⟨p, rfl, ?_⟩
    · cases r with
      | val d => exact Rep.mv m z
      | see d => exact See.mv m mw z
      | «at» i => obtain ⟨l, e, z⟩ := z; exact ⟨l, e, get_app z⟩
      | obj u => exact z
    · rw [← g1.len, List.getElem?_append_right (Nat.le_refl _), Nat.sub_self]; rfl
  show spV X.K ms S ((vs ++ [.ref p]) ++ []) H1 Q E0
  rw [List.append_nil]
  refine call_coreV gp pr hp ho hl hS (fun d' outs v H' kd g3 e3 r => ?_) fun _ _ _ _ _ z => z.elim
  have hne : (wrs is outs ρ2) ≠ [] := fun z => by
    have := wrs_len is outs ρ2
    rw [z, hlen] at this; cases this
  have split := List.dropLast_concat_getLast hne
  generalize (wrs is outs ρ2).getLast hne = en at split
  generalize (wrs is outs ρ2).dropLast = ρf at split kd
  rw [← split] at g3 e3 r
  refine hk _ ρf v H' kd g3.drop ?_ (Rep.mv (Mv.sub fun a z => z.imp id oof_app) r)
  have wapp : ∀ a, Wr (ρ1 ++ [.own p d]) a → Wr ρ1 a ∨ a = p := fun a ⟨i, x, z⟩ => by
    rcases z with z | z
    · rcases app_get z with ⟨z, _⟩ | ⟨_, z⟩
      · exact .inl ⟨i, x, .inl z⟩
      · cases z; exact .inr rfl
    · rcases app_get z with ⟨z, _⟩ | ⟨_, z⟩
      · exact .inl ⟨i, x, .inr z⟩
      · cases z
  refine ⟨fun b o hb n => e3.kept b o (e1.kept b o hb n) fun z => ?_, fun a z => ?_, fun a z => e1.there a (e3.there a z)⟩
  · rcases wapp b z with z | z
    · rcases e1.own b z with z | z
      · exact n z
      · rw [hb] at z; cases z
    · rw [z, hp0] at hb; cases hb
  · have z' : Wr (ρf ++ [en]) a := by
      obtain ⟨i, x, z | z⟩ := z
      · exact ⟨i, x, .inl (get_app z)⟩
      · exact ⟨i, x, .inr (get_app z)⟩
    rcases e3.own a z' with w | w
    · rcases wapp a w with w | w
      · exact e1.own a w
      · rw [w]; exact .inr hp0
    · exact .inr (e1.there a w)
end
end LB

/-! LB, part 40: sorted of lists of alike data (any length), of dicts with keys of ints; chains of comparisons as values. -/
namespace LB
open PySem PySem.Spec PyProof.Rows L2
section
variable {X : Cx}
theorem each_vals {R : Value → V × PyData → Prop} (hR : ∀ v b, RelV b.1 v → R v b) : ∀ {bs : List (V × PyData)} {us : List Value}, Vals (bs.map (·.1)) us → PySem.W.EachIs R us bs
  | [], us, h => by cases h; exact .nil
  | b :: bs, us, h => by
    cases h with
    | cons h1 h2 => exact .cons (hR _ _ h1) (each_vals hR h2)
theorem vals_each : ∀ {bs : List (V × PyData)} {us : List Value}, PySem.W.EachIs (fun (v : Value) (b : V × PyData) => RelV b.1 v) us bs → Vals (bs.map (·.1)) us
  | [], _, .nil => .nil
  | _ :: _, _, .cons h t => .cons h (vals_each t)
theorem each_reads {h : Heap} : ∀ {bs : List (V × PyData)} {us : List Value} {as : List Addr}, ReadsAll h us (bs.map (·.2)) as → PySem.W.EachIs (fun v (b : V × PyData) => ∃ as, Reads h v b.2 as) us bs
  | [], us, as, r => by
    have r' : ReadsAll h us [] as := r
    cases r'; exact .nil
  | b :: bs, us, as, r => by
    have r' : ReadsAll h us (b.2 :: bs.map (·.2)) as := r
    cases r' with
    | cons h1 h2 => exact .cons ⟨_, h1⟩ (each_reads h2)
def rSortedDt (K : PySem.W.Frag) (u : Nat) : List V → Hp → VK → Prop := fun vs H Q => ∃ (a : Addr) (bs : List (V × PyData)), vs = [V.ref a] ∧ SqL K H a (bs.map (·.1)) ∧ DpAll K H (bs.map (·.1)) (bs.map (·.2)) ∧ PySem.W.AllAlike (bs.map (·.2)) ∧ PySem.W.Sortable (bs.map (·.2)) ∧
  (∀ b ∈ bs, u + 2 + b.2.depth < cLine) ∧ ∀ p, H p = none → Q (.ref p) (upd H p (.lst ((bs.mergeSort (PySem.W.dataLe false (fun b => b.2))).map (·.1))))
theorem cr_sortedDt : CallR X (.builtin "sorted") (rSortedDt X.K X.A.units) := by
  intro pins s σ H vs us Q I r h
  obtain ⟨a, bs, rfl, hs, hd, hal, hk, hu, q⟩ := h
  obtain ⟨its, rv, hl, hz⟩ := I.list hs
  rw [Vals.ref1 r]
  obtain ⟨as, hr⟩ := Dp.readsAll I _ _ _ hd rv
  rw [List.length_map] at hz
  refine PySem.W.sorted_data (β := V × PyData) (enc := fun b => b.2) (R := fun v b => RelV b.1 v) (vs := its) hl.isList (each_vals (fun _ _ z => z) rv) (each_reads hr) hal hk hz hu fun out h1 h2 => ?_
  obtain ⟨ep, he'⟩ := PyProof.Rows.sortedAll_at s.heap its out.toArray
  have hv := vals_each h2
  have hlen : ((bs.mergeSort (PySem.W.dataLe false (fun b => b.2))).map (·.1)).length ≤ sizeLine := by
    rw [List.length_map, List.length_mergeSort]; exact hz
  exact ⟨.ref _, upd H (s.heap.objs.size + 1) (.lst ((bs.mergeSort (PySem.W.dataLe false (fun b => b.2))).map (·.1))), I.laid (t' := s.toks) (fun _ _ => PyProof.Rows.sortedAll_old) (Nat.le_succ _) ⟨hlen, out, ep, hv, he'⟩, rfl, q _ (I.hok.fresh (Nat.le_succ _))⟩
end
abbrev dLe : PyData → PyData → Bool := PySem.W.dataLe false fun d => d
/-- data that sorted takes -/
structure SrtOk (ds : List PyData) : Prop where
  al : PySem.W.AllAlike ds
  st : PySem.W.Sortable ds
  ly : PyData.canLayAll0 ds = true
  dp : ∀ d ∈ ds, d.depth ≤ 60
/-- keys of ints -/
structure DSort (kvs : List (PyData × PyData)) (k : PyData → Prop) : Prop where
  run : ∃ l : List (Int × PyData), kvs = (l.map fun p => ((Sum.inl p.1 : Key), p.2)).map kvD ∧ l.length < 64 ∧ ∀ ys : List Int, ys.Perm (l.map (·.1)) → ys.Pairwise (· ≤ ·) → k (.list (ys.map .int))
def gSorted : GL
  | [.list ds], k => SrtOk ds ∧ k (.list (ds.mergeSort dLe))
  | [.dict kvs], k => DSort kvs k
  | _, _ => False
theorem RepAll.zip {K : PySem.W.Frag} {M : Ow} {H : Hp} : ∀ {ds : List PyData} {xs : List V}, RepAll K M H ds xs → ∃ bs : List (V × PyData), xs = bs.map (·.1) ∧ ds = bs.map (·.2) ∧ ∀ b ∈ bs, Rep K M H b.2 b.1
  | [], xs, h => by cases h; exact ⟨[], rfl, rfl, fun _ h => by cases h⟩
  | d :: ds, xs, h => by
    obtain ⟨v, vs, rfl, h1, h2⟩ := h
    obtain ⟨bs, rfl, rfl, h3⟩ := RepAll.zip h2
    refine ⟨(v, d) :: bs, rfl, rfl, fun b hb => ?_⟩
    rcases List.mem_cons.mp hb with rfl | hb
    · exact h1
    · exact h3 b hb
theorem RepAll.unzip {K : PySem.W.Frag} {M : Ow} {H : Hp} : ∀ {bs : List (V × PyData)}, (∀ b ∈ bs, Rep K M H b.2 b.1) → RepAll K M H (bs.map (·.2)) (bs.map (·.1))
  | [], _ => rfl
  | b :: bs, h => ⟨_, _, rfl, h b List.mem_cons_self, RepAll.unzip fun c hc => h c (List.mem_cons_of_mem _ hc)⟩
theorem cn_sorted {X : Cx} (hc : X.calm = true) (hu : X.A.units + 65 < cLine) : CallN X (.builtin "sorted") gSorted := by
  refine ⟨_, cr_sortedDt.or (call_sortedDI hc), fun M H xs ds k Q th sa hg hq => ?_⟩
  unfold gSorted at hg
  split at hg
  · rename_i ds
    obtain ⟨v, rfl, s⟩ := see1 sa
    obtain ⟨a, us, rfl, l, r⟩ := s.lst
    obtain ⟨⟨al, st, ly, dp⟩, hk⟩ := hg
    have dpa := r.dp ly
    obtain ⟨bs, rfl, rfl, hb⟩ := r.zip
    refine .inl ⟨a, bs, rfl, .of l, dpa, al, st, fun b hb' => ?_, fun p hp => ?_⟩
    · have := dp b.2 (List.mem_map.mpr ⟨b, hb', rfl⟩)
      omega
    · refine hq _ _ _ hk hp (sm_upd hp) ⟨_, upd_same, ?_⟩
      have e : (bs.map (·.2)).mergeSort dLe = (bs.mergeSort (PySem.W.dataLe false fun b => b.2)).map (·.2) :=
        (PySem.W.sort_maps (fun b : V × PyData => b.2) fun a _ b _ => rfl).symm
      rw [e]
      refine (RepAll.unzip fun b hb' => hb b ((List.mergeSort_perm _ _).mem_iff.mp hb')).mv (mv_new hp (sm_upd hp))
  · rename_i kvs
    obtain ⟨v, rfl, s⟩ := see1 sa
    obtain ⟨l, rfl, h64, hk⟩ := hg
    obtain ⟨a, ks, rfl, e, pk⟩ := s.dct
    refine .inr ⟨a, ks, l.map (·.1), rfl, .inl e, ?_, by rw [List.length_map]; exact h64, fun ys p h1 h2 hp => hq _ _ _ (hk ys h1 h2) hp (sm_upd hp) ⟨_, upd_same, rep_ints ys⟩⟩
    clear hk s e
    have key : ∀ {l : List (Int × PyData)} {ks : List (Key × V)}, PKV X.K M H (l.map fun p => ((Sum.inl p.1 : Key), p.2)) ks → ks.map (·.1) = (l.map (·.1)).map Sum.inl := fun {l} => by
      induction l with
      | nil => intro ks h; cases h; rfl
      | cons p l ih =>
        intro ks h
        cases h with
        | cons h1 h2 => rw [List.map_cons, List.map_cons, List.map_cons, ih h2, ← h1.1]
    exact key pk
  · exact hg.elim
/-! ### a op b op' c as a value -/
section
variable {X : Cx} {E : EK} {a b c0 : Expr} {wa wb wc : WE} {pos : Pos} {op op' : CmpOp} {g g' : G2}
theorem be_chainV (ho : OpD X (compareOp op) g) (ho' : OpD X (compareOp op') g') (ha : BE X E a wa) (hb : BE X E b wb) (hc : BE X E c0 wc) (hm : lastMarks [op, op'] [b, c0] = false := by with_unfolding_all rfl) :
    BE X E (.Compare a [op, op'] [b, c0] pos) (wChain g g' wa wb wc) := be_chain ho ho' ha hb hc fun h1 h2 h3 h4 h5 => pe_chain h1 h2 h3 h4 h5 hm
end
end LB

/-! LB, part 41: sorted keys of typed dicts; tuples of texts compared. -/
namespace LB
open PySem PySem.Spec PyProof.Rows L2
theorem DSort.nat {α : Type} {enc : α → PyData} {m : List (Nat × α)} {k : PyData → Prop} (hn : (m.map (·.1)).Nodup) (hl : m.length < 64) (h : ∀ ys : List Nat, Asc ys → (∀ x, x ∈ ys ↔ x ∈ m.map (·.1)) → k (.list (natD ys))) : DSort (nD enc m) k := by
  refine ⟨m.map fun p => (((p.1 : Nat) : Int), enc p.2), ?_, by rw [List.length_map]; exact hl, fun ys hp hs => ?_⟩
  · rw [kvD_nat, List.map_map, List.map_map, List.map_map]; rfl
  · rw [List.map_map] at hp
    have hc : ∀ y ∈ ys, ((y.toNat : Nat) : Int) = y := fun y hy => by
      obtain ⟨p, _, e⟩ := List.mem_map.mp (hp.mem_iff.mp hy)
      have : ((p.1 : Nat) : Int) = y := e
      omega
    have hnd : ys.Nodup := hp.nodup_iff.mpr (by
      have : (m.map ((fun x : Int × PyData => x.1) ∘ fun p : Nat × α => (((p.1 : Nat) : Int), enc p.2))) = (m.map (·.1)).map fun n : Nat => (n : Int) := by rw [List.map_map]; rfl
      rw [this]
      unfold List.Nodup at hn ⊢
      rw [List.pairwise_map]
      exact hn.imp fun a z => a (by omega))
    have e : ys.map PyData.int = natD (ys.map Int.toNat) := by
      unfold natD
      rw [List.map_map]
      exact List.map_congr_left fun y hy => by show PyData.int y = PyData.int _; rw [hc y hy]
    rw [e]
    refine h _ ?_ fun x => ?_
    · show List.Pairwise (· < ·) (ys.map Int.toNat)
      rw [List.pairwise_map]
      have h2 : ys.Pairwise fun a b => a ≤ b ∧ a ≠ b := (List.pairwise_and_iff).mpr ⟨hs, hnd⟩
      refine List.Pairwise.imp_of_mem (fun {a b} ha hb z => ?_) h2
      have h3 := hc a ha
      have h4 := hc b hb
      omega
    · rw [List.mem_map]
      constructor
      · rintro ⟨y, hy, rfl⟩
        obtain ⟨p, h1, h2⟩ := List.mem_map.mp (hp.mem_iff.mp hy)
        have h2 : ((p.1 : Nat) : Int) = y := h2
        exact List.mem_map.mpr ⟨p, h1, by omega⟩
      · intro hx
        obtain ⟨p, h1, rfl⟩ := List.mem_map.mp hx
        exact ⟨((p.1 : Nat) : Int), hp.mem_iff.mpr (List.mem_map.mpr ⟨p, h1, rfl⟩), by omega⟩
theorem strOk_all {ws : List Str} (h : All (fun w => PyData.strOk w = true) ws) : PyData.canLayAll0 (strD ws) = true := by
  unfold strD
  rw [canLayAll_strs', List.all_eq_true]
  exact h
theorem shaped_tstrs {ws : List Str} (h : All (fun w => PyData.strOk w = true) ws) : SeqAt.shaped (.tuple (strD ws)) = true := by
  unfold SeqAt.shaped strD
  simp only [PyData.canLay0, canLayAll_strs', PyData.depth, depthAll_strs']
  rw [List.all_eq_true.mpr h]; rfl
theorem eqv_tstrs (a b : List Str) : PyData.eqv (.tuple (strD a)) (.tuple (strD b)) = decide (a = b) := by
  rw [PyData.eqv, eqvAll_strs]
theorem shaped_spair {n : Str} {ws : List Str} (hn : PyData.strOk n = true) (h : All (fun w => PyData.strOk w = true) ws) : SeqAt.shaped (.tuple [.str n, .tuple (strD ws)]) = true := by
  unfold SeqAt.shaped strD
  simp only [PyData.canLay0, PyData.canLayAll0, canLayAll_strs', PyData.depth, PyData.depthAll, depthAll_strs']
  rw [List.all_eq_true.mpr h, hn]; rfl
theorem eqv_spair (n m : Str) (a b : List Str) : PyData.eqv (.tuple [.str n, .tuple (strD a)]) (.tuple [.str m, .tuple (strD b)]) = decide (n = m ∧ a = b) := by
  rw [PyData.eqv, PyData.eqvAll, PyData.eqvAll, PyData.eqvAll, eqv_tstrs, eqv_str]
  by_cases h1 : n = m <;> by_cases h2 : a = b <;> simp [h1, h2]
/-- row[-2:] -/
theorem cut_last2 (l : List PyData) (a b : PyData) : LB.cutD (l ++ [a, b]) (some (-2)) none = [a, b] := by
  unfold LB.cutD
  have e : HT.sIx (l ++ [a, b]).length 0 (some (-2)) = l.length := by
    simp only [HT.sIx, List.length_append, List.length_cons, List.length_nil]
    rw [if_pos (by decide)]; omega
  rw [e]
  simp only [HT.sIx, List.length_append, List.length_cons, List.length_nil]
  rw [List.drop_append_of_le_length (Nat.le_refl _), List.drop_length, List.nil_append, show l.length + (0 + 1 + 1) - l.length = 2 by omega]; rfl
end LB

/-! LB, part 42: comprehensions within comprehensions. -/
namespace LB
open PySem PySem.Spec PyProof.Rows L2
/-- the scope of a comprehension, as its own comprehensions see it -/
@[reducible] def rl (scope sc : Scope) : Scope := { scope with names := scope.names.map fun (n, k) => if (k == .free && sc.kind == .function && sc.names.lookup n == some .cell) then (n, .cell) else (n, k) }
theorem blkIn {N : List Str} {outer sc scope : Scope} {env : Env} {own : List (Str × Nat)} (hs : env.scope = sc) (h : blkC N (rl outer sc) scope own = true) : BlkOk N (relabel outer env) scope own := by
  subst hs
  exact blkOk_by h
end LB

/-! LB, part 43: a def that returns (value, new list), the caller's a, b = f(..); x or y of ints. -/
namespace LB
open PySem PySem.Spec PyProof.Rows L2
/-- a def's promise: a tuple of a value and a new list -/
def spT (K : PySem.W.Frag) (ms : List Md) (S : Spc) : Sp := fun vs H Q E => ∃ M xs ws k kx, Thr M H ∧ ArgsOk K M (inL ws) H ms vs xs ws ∧ ws.Nodup ∧ S xs k kx ∧
  ∀ h d outs t p v H', k (.tuple [h, d]) outs → Beh ws H H' → OutOk K (orP M p) H' ws outs → H p = none → H t = none → H' t = some (.tup [v, .ref p]) → Rep K (orP M p) H' h v → At K (orP M p) H' p d → Q (.ref t) H'
theorem spT_len {K : PySem.W.Frag} {ms : List Md} {S : Spc} {n : Nat} (hn : ms.length = n) : ∀ vs H Q E, spT K ms S vs H Q E → vs.length = n := fun vs H Q E h => by
  obtain ⟨M, xs, ws, k, kx, _, a, _⟩ := h; rw [args_len a, hn]
/-! ### the def -/
def tRet2 (i0 i1 : Nat) : TS := fun D σ H => tVar i0 σ H fun v0 H1 => tVar i1 σ H1 fun v1 H2 => ∀ t, H2 t = none → D.rt (.ref t) (upd H2 t (.tup [v0, v1]))
theorem ps_ret2 {X : Cx} {i0 i1 : Nat} {a b : Expr} {n0 : Nat} {tpos pos : Pos} (h0 : PE X a (tVar i0)) (h1 : PE X b (tVar i1)) (hs : starEach [a, b] X.env = (false, eval a X.env) :: starEach [b] X.env := by rfl) (hs2 : starEach [b] X.env = (false, eval b X.env) :: starEach [] X.env := by rfl) : PS X (.Return (some (.Tuple [a, b] n0 tpos)) pos) (tRet2 i0 i1) := by
  refine psI (ps_ret (pe_tup (pa_cons h0 (pa_cons h1 pa_nil hs2) hs))) fun D σ H h => ?_
  obtain ⟨v0, e0, v1, e1, h⟩ := h
  exact ⟨v0, e0, v1, e1, Nat.le_of_ble_eq_true rfl, h⟩
structure BSsT (X : Cx) (E : EK) (i0 i1 : Nat) (sts : List Stmt) (w : WS) : Prop where
  pss : PSs X sts (fun D σ H => ∃ c ρ W, Gd X.K c σ H ρ ∧ w W ρ ∧ EOk X.K E c ρ H W { D with nx := fun σ' H' => tRet2 i0 i1 D σ' H' })
section
variable {X : Cx} {E : EK} {st : Stmt} {rest : List Stmt} {w u : WS} {i0 i1 : Nat}
theorem bssT_last (h : PS X st (tRet2 i0 i1)) : BSsT X E i0 i1 [st] wNext :=
  ⟨pss_one (psI h fun D σ H ⟨c, ρ, W, g, hw, h⟩ => h.nx _ _ _ hw g .refl)⟩
theorem bssT_cons (h1 : BS X E st w) (h2 : BSsT X E i0 i1 rest u) : BSsT X E i0 i1 (st :: rest) (wSeq w u) := by
  refine ⟨pssI (pss_cons h1.ps h2.pss) fun D σ H ⟨c, ρ, W, g, hw, h⟩ => ?_⟩
  exact ⟨c, ρ, { W with nx := fun ρ' => u W ρ' }, g, hw, ⟨fun σ' ρ' H' a b d => ⟨c, ρ', W, b, a, h.ev d⟩, h.rt, h.rn, h.bk, h.ct, h.ex⟩⟩
end
/-- what a def's body is to reach: behind the last statement but the return -/
def wdT (i0 i1 : Nat) (ms : List Md) (ws : List Addr) (k : PyData → List PyData → Prop) : WD where
  nx := fun ρ => ∃ h l d outs, ρ[i0]? = some (.val h) ∧ ρ[i1]? = some (.own l d) ∧ Outs ms ρ ws outs ∧ k (.tuple [h, d]) outs
  rt := fun _ _ => False
  rn := fun _ _ => False
  bk := fun _ => False
  ct := fun _ => False
  ex := fun _ _ => False
section
variable {P : Program} {w : World} {K : PySem.W.Frag} {mg : Str → Option Value} {base : Heap}
theorem fnT {x qual : Str} {st : Stmt} {f : Addr} {fd : FuncData} {N ps : List Str} {k : Nat} {ms : List Md} {S : Spc} {ws : WS} {i0 i1 : Nat} (F : Fun K x qual st f fd) (sc : FnScope N ps (defScope st)) (hl : ms.length = ps.length)
    (hb : ∀ (cdv : Value) (A : Around) (outer : List Env) (s : Shared) (H : Hp) (E : XK), Room k (A.deeper (envOfC qual (defScope st) s.heap.objs.size f cdv)) → BSsT (cxOf CX0 P w K mg base N qual (defScope st) f cdv A outer s H E).nox EN i0 i1 (defBody st) ws)
    (hw : ∀ xs as k kx, S xs k kx → as.length = nM ms → ws (wdT i0 i1 ms as k) (ent ms xs as N.length)) : FnOk P w K mg base CX0 (k + 1) f fd ps (spT K ms S) := by
  refine F.ok sc (spT_len hl) fun cdv A outer s H vs Q E hr h => ?_
  obtain ⟨M, xs, as, k', kx, th, a, nd, hSx, hk⟩ := h
  refine ⟨_, (hb cdv A outer s H E hr).pss, ⟨M, inL as, H⟩, _, wdT i0 i1 ms as k', entry th a nd, hw xs as k' kx hSx (args_as a).1, ?_⟩
  refine ⟨fun σ' ρ' H' z g e => ?_, fun _ _ _ _ _ z _ _ _ => z.elim, fun _ _ _ _ _ z _ _ _ _ _ _ => z.elim, fun _ _ _ z _ _ => z.elim, fun _ _ _ z _ _ => z.elim, fun _ _ _ _ _ _ z _ _ _ => z.elim⟩
  obtain ⟨h, l, d, outs, z0, z1, ho, hkd⟩ := z
  obtain ⟨v, s0, r0⟩ := g.val i0 h z0
  obtain ⟨s1, a1, nm, n0⟩ := g.own i1 l d z1
  refine ⟨v, s0, .ref l, s1, fun t ht => ?_⟩
  have sm : Sm H' (upd H' t (.tup [v, .ref l])) := sm_upd ht
  have hl0 : H l = none := n0
  have ht0 : H t = none := e.there t ht
  have sub : ∀ a, orP M l a → Mof (⟨M, inL as, H⟩ : Ct) ρ' a := fun a z => by
    rcases z with z | rfl
    · exact .inl z
    · exact .inr ⟨i1, d, z1⟩
  have mv : Mv (Mof (⟨M, inL as, H⟩ : Ct) ρ') (orP M l) H' (upd H' t (.tup [v, .ref l])) := ⟨fun a z => .inl (sub a z), fun b o hb _ => sm b o hb⟩
  have beh : Beh as H (upd H' t (.tup [v, .ref l])) := by
    refine ⟨fun b o hb n => sm b o (g.fr b o hb n), fun a z => ?_⟩
    by_cases q : a = t
    · rw [q]; exact ht0
    · rw [upd_ne q] at z; exact e.there a z
  have oo : OutOk K (orP M l) H' as outs := outs_ok (n := 0) g (fun j e z => by simpa using z) sub ho
  have oo' : OutOk K (orP M l) (upd H' t (.tup [v, .ref l])) as outs := by
    have key : ∀ {us : List Addr} {os : List PyData}, OutOk K (orP M l) H' us os → OutOk K (orP M l) (upd H' t (.tup [v, .ref l])) us os := fun {us} => by
      induction us with
      | nil => intro os z; exact z
      | cons b us ih =>
        intro os z
        obtain ⟨o, r, rfl, a, z⟩ := z
        exact ⟨o, r, rfl, a.mv ⟨fun _ z => .inl z, fun b o hb _ => sm b o hb⟩ (fun o hb => sm b o hb), ih z⟩
    exact key oo
  exact hk h d outs t l v _ hkd beh oo' hl0 ht0 upd_same (r0.mv mv) (a1.mv mv fun o hb => sm l o hb)
end
/-! ### the call: a, b = f(..) -/
def wUnpT (ms : List Md) (S : Spc) (i0 i1 : Nat) (u : WA) : WS := fun W ρ => u W.ex ρ fun rs ρ1 => ∃ xs ρ2 is, passA ms rs ρ1 = some (xs, ρ2, is) ∧ okA ms rs is = true ∧ lentOk is ρ2 = true ∧
  S xs (fun dd outs => ∃ h d, dd = .tuple [h, d] ∧ ∀ p, W.nx (((wrs is outs ρ2).set i0 (.val h)).set i1 (.own p d))) fun _ _ => False
section
variable {X : Cx} {E : EK} {es : List Expr} {ms : List Md} {S : Spc} {u : WA} {st : Stmt} {i0 i1 : Nat}
theorem bs_unpT (mk : ∀ {t : TA}, PA X es t → PS X st (tAsg (tCall (spT X.K ms S) [] E0 t) (gTup X.K 2 (gCons (gName i0) (gCons (gName i1) gNil))))) (hu : BA X E es u) : BS X E st (wUnpT ms S i0 i1 u) := by
  refine ⟨psI (mk hu.pa) fun D σ H ⟨c, ρ, W, g, hw, h⟩ => ?_⟩
  refine ⟨c, ρ, _, W.ex, g, hw, fun rs ρ1 vs H1 k1 g1 e1 p1 => ?_, h.exok⟩
  obtain ⟨xs, ρ2, is, hp, ho, hl, hS⟩ := k1
  show spT X.K ms S (vs ++ []) H1 _ E0
  rw [List.append_nil]
  obtain ⟨g2, e2, ws, la, nd, hww, ha⟩ := call_pre g1 p1 hp ho hl
  refine ⟨Mof c ρ2, xs, ws, _, _, fun a z => g2.mth z, ha, nd, hS, fun h0 d0 outs t q v H' kd b oo hq ht htt hr hat => ?_⟩
  obtain ⟨h', d', ed, hnx⟩ := kd
  obtain ⟨rfl, rfl⟩ : h0 = h' ∧ d0 = d' := by cases ed; exact ⟨rfl, rfl⟩
  have hq1 : H q = none := e1.there q hq
  have pnw : ∀ l, Wr ρ2 l → l ≠ q := fun l z e => g2.mth (g2.wsub (g2.wr_w (e ▸ z))) hq
  have oo' : OutOk X.K (Mof (c.more q) ρ2) H' ws outs := by
    have key : ∀ {us : List Addr} {os : List PyData}, OutOk X.K (orP (Mof c ρ2) q) H' us os → OutOk X.K (Mof (c.more q) ρ2) H' us os := fun {us} => by
      induction us with
      | nil => intro os z; exact z
      | cons l us ih =>
        intro os z
        obtain ⟨o, r, rfl, a, z⟩ := z
        exact ⟨o, r, rfl, a.mv (Mv.sub fun a w => by
          rcases w with (w | w) | w
          · exact .inl (.inl w)
          · exact .inr w
          · exact .inl (.inr w)) (fun _ z => z), ih z⟩
    exact key oo
  cases hq' : H' q with
  | none => exact absurd hq' hat.some
  | some op =>
    have g2p : Gd X.K (c.more q) σ (upd H1 q op) ρ2 := g2.more hq (sm_upd hq) (by rw [upd_same]; intro z; cases z)
    have bp : Beh ws (upd H1 q op) H' := ⟨fun x o hx n => by
      by_cases e : x = q
      · subst e; rw [upd_same] at hx; cases hx; exact hq'
      · rw [upd_ne e] at hx; exact b.fr x o hx n, fun a z => by
      by_cases e : a = q
      · subst e; rw [hq'] at z; cases z
      · rw [upd_ne e]; exact b.th a z⟩
    obtain ⟨g3, e3, sub⟩ := call_post (c' := c) g2p la hl hww bp oo'
    have e3' : Ev c ρ2 H1 (wrs is outs ρ2) H' := ⟨fun x o hx n => e3.kept x o (by rw [upd_ne (ne_of_none hx hq)]; exact hx) n, fun a z => (e3.own a z).imp id fun w => by
      by_cases e : a = q
      · rw [e]; exact hq
      · rw [upd_ne e] at w; exact w, fun a z => b.th a z⟩
    have ni : NoIo q (wrs is outs ρ2) := fun i d' z => by
      have : ∃ d0, ρ2[i]? = some (.io q d0) := by
        obtain ⟨n, kc⟩ := lentOk_mem hl
        have hlen : outs.length = is.length := by rw [out_len oo, lent_len la]
        rcases wrs_get n hlen kc z with ⟨z, _⟩ | ⟨o, l, d0, _, ⟨z, e⟩ | ⟨z, e⟩⟩
        · exact ⟨_, z⟩
        · cases e
        · cases e; exact ⟨d0, z⟩
      obtain ⟨d0, z0⟩ := this
      exact pnw q ⟨i, d0, .inr z0⟩ rfl
    have subm : ∀ a, Mof (c.more q) (wrs is outs ρ2) a → orP (Mof c ρ2) q a := fun a w => by
      rcases sub a w with (w' | w') | w'
      · exact .inl (.inl w')
      · exact .inr w'
      · exact .inl (.inr w')
    have mm : Mv (orP (Mof c ρ2) q) (Mof (c.more q) (wrs is outs ρ2)) H' H' := Mv.sub subm
    have hr3 : Rep X.K (Mof (c.more q) (wrs is outs ρ2)) H' h0 v := hr.mv mm
    have ha3 : At X.K (Mof (c.more q) (wrs is outs ρ2)) H' q d0 := hat.mv mm fun _ z => z
    have e123 := (e1.trans e2).trans e3'
    have hfin := hnx q
    generalize wrs is outs ρ2 = ρ3 at *
    have g4 := g3.setVal i0 hr3
    have sub4 : ∀ a, Wr (ρ3.set i0 (.val h0)) a → Wr ρ3 a := fun a ⟨j, d, z⟩ => by
      rcases z with z | z
      · rcases get_set z with ⟨_, z, _⟩ | ⟨_, z⟩
        · cases z
        · exact ⟨j, d, .inl z⟩
      · rcases get_set z with ⟨_, z, _⟩ | ⟨_, z⟩
        · cases z
        · exact ⟨j, d, .inr z⟩
    have m4 : Mv (Mof (c.more q) ρ3) (Mof (c.more q) (ρ3.set i0 (.val h0))) H' H' := Mv.sub fun a z => z.imp id fun z => oof_set (fun _ _ z => by cases z) a z
    have ni4 : NoIo q (ρ3.set i0 (.val h0)) := fun j d z => by
      rcases get_set z with ⟨_, z, _⟩ | ⟨_, z⟩
      · cases z
      · exact ni j d z
    have g5 := g4.setOwn g.wm ni4 i1 (ha3.mv m4 fun _ z => z) (h0_none g hq1).2 (h0_none g hq1).1
    have hgoal : D.nx ((σ.set i0 (some v)).set i1 (some (.ref q))) H' := by
      refine h.nx _ _ _ hfin g5 ⟨e123.kept, fun a z => ?_, e123.there⟩
      obtain ⟨j, d', z | z⟩ := z
      · rcases get_set z with ⟨_, z, _⟩ | ⟨_, z⟩
        · cases z; exact .inr hq1
        · exact e123.own a (sub4 a ⟨j, d', .inl z⟩)
      · rcases get_set z with ⟨_, z, _⟩ | ⟨_, z⟩
        · cases z
        · exact e123.own a (sub4 a ⟨j, d', .inr z⟩)
    exact ⟨t, [v, .ref q], rfl, .inl (.inl htt), rfl, v, [.ref q], rfl, .ref q, [], rfl, rfl, hgoal⟩
end
/-! ### x or y of ints -/
section
variable {X : Cx} {E : EK} {a b : Expr} {rest : List Expr} {wa : WE} {pos : Pos}
def wOrI (w u : WE) : WE := fun kx ρ k => w kx ρ fun r ρ' => ∃ i : Int, r = .val (.int i) ∧ if decide (i ≠ 0) = true then k (.val (.int i)) ρ' else u kx ρ' k
theorem be_orI {u : WE} (h : BE X E a wa) (h2 : BE X E (.BoolOp .Or (b :: rest) pos) u) : BE X E (.BoolOp .Or (a :: b :: rest) pos) (wOrI wa u) := by
  refine ⟨peI (pe_orT h.pe h2.pe) fun σ H Q ⟨c, ρ, k, kx, gd, hw, hk, hx⟩ => ?_⟩
  refine ⟨c, ρ, _, kx, gd, hw, fun r ρ' v H' k1 g1 e1 p1 => ?_, hx⟩
  obtain ⟨i, rfl, k1⟩ := k1
  have p1' : v = .int i := p1
  subst p1'
  refine ⟨decide (i ≠ 0), by show decide (i ≠ 0) = (i != 0); by_cases q : i = 0 <;> simp [q, bne], ?_⟩
  by_cases q : i ≠ 0
  · rw [if_pos (decide_eq_true q)] at k1 ⊢
    exact hk _ _ _ _ k1 g1 e1 rfl
  · rw [if_neg (by simp [q])] at k1 ⊢
    exact ⟨c, ρ', k, kx, g1, k1, fun r' ρ2 v2 H2 k2 g2 e2 p2 => hk r' ρ2 v2 H2 k2 g2 (e1.trans e2) p2, hx.ev e1⟩
end
end LB

set_option maxHeartbeats 4000000
namespace K24
open PySem PySem.Spec PyProof.Rows L2 LB

local macro_rules | `(tactic| walk_at "2") => `(tactic| refine Exists.intro _ (Exists.intro _ (And.intro rfl (And.intro rfl ?_))))
local macro_rules | `(tactic| walk_at "1") => `(tactic| refine Exists.intro _ (And.intro rfl ?_))
local macro_rules | `(tactic| walk_at "3") => `(tactic| refine Exists.intro _ (Exists.intro _ (And.intro rfl ?_)))
local macro_rules | `(tactic| walk_at "side") => `(tactic| (first | with_reducible assumption | omega | exact Nat.le_of_ble_eq_true rfl | ((with_reducible refine And.intro ?_ ?_) <;> omega) | (simp only [strD_len, natD_len, rgD_len, List.length_map, List.length_append, List.length_cons, List.length_nil, List.length_take, List.length_drop, List.length_range]; omega) | (dsimp only; omega) | (unfold CMul; omega) | ((with_reducible show CDivW _ _); exact ⟨by decide, by decide +kernel⟩) | ((with_reducible show CPow _ _); exact ⟨by decide, by decide, by decide⟩) | ((with_reducible show CShl _ _); exact ⟨by decide, by decide +kernel⟩) | ((with_reducible show RgOk _ _); exact ⟨by omega, by omega, by omega, by omega, by omega⟩)))
local macro_rules | `(tactic| walk_at "c") => `(tactic| refine And.intro (by (first | with_reducible assumption | omega | exact Nat.le_of_ble_eq_true rfl | ((with_reducible refine And.intro ?_ ?_) <;> omega) | (simp only [strD_len, natD_len, rgD_len, List.length_map, List.length_append, List.length_cons, List.length_nil, List.length_take, List.length_drop, List.length_range]; omega) | (dsimp only; omega) | (unfold CMul; omega) | ((with_reducible show CDivW _ _); exact ⟨by decide, by decide +kernel⟩) | ((with_reducible show CPow _ _); exact ⟨by decide, by decide, by decide⟩) | ((with_reducible show CShl _ _); exact ⟨by decide, by decide +kernel⟩) | ((with_reducible show RgOk _ _); exact ⟨by omega, by omega, by omega, by omega, by omega⟩))) ?_)
local macro_rules | `(tactic| walk_at "q") => `(tactic| refine @And.intro (EqOk _ _) _ (Or.inl rfl) ?_)
local macro_rules | `(tactic| walk_at "m") => `(tactic| refine And.intro (Exists.intro _ rfl) ?_)
local macro_rules | `(tactic| walk_at "a") => `(tactic| refine And.intro (Eq.refl _) ?_)
local macro_rules | `(tactic| walk_at "k") => `(tactic| refine Exists.intro _ (Exists.intro _ (Exists.intro _ (And.intro rfl (And.intro rfl (And.intro rfl ?_))))))
local macro_rules | `(tactic| walk_at "p") => `(tactic| refine Exists.intro _ (Exists.intro _ (Exists.intro _ (And.intro rfl (And.intro rfl (And.intro (by (first | with_reducible assumption | omega | exact Nat.le_of_ble_eq_true rfl | ((with_reducible refine And.intro ?_ ?_) <;> omega) | (simp only [strD_len, natD_len, rgD_len, List.length_map, List.length_append, List.length_cons, List.length_nil, List.length_take, List.length_drop, List.length_range]; omega) | (dsimp only; omega) | (unfold CMul; omega) | ((with_reducible show CDivW _ _); exact ⟨by decide, by decide +kernel⟩) | ((with_reducible show CPow _ _); exact ⟨by decide, by decide, by decide⟩) | ((with_reducible show CShl _ _); exact ⟨by decide, by decide +kernel⟩) | ((with_reducible show RgOk _ _); exact ⟨by omega, by omega, by omega, by omega, by omega⟩))) ?_))))))
local macro_rules | `(tactic| walk_at "v") => `(tactic| refine Exists.intro _ (Exists.intro _ (Exists.intro _ (And.intro rfl (And.intro rfl ?_)))))
local macro_rules | `(tactic| walk_at "nf") => `(tactic| ((try simp only [ent, List.set_cons_zero, List.set_cons_succ, wr0o, wr0i, wrS, wrs_n, wrs_c, wipe_n, wipe_c, rest_n, rest_c, keep_v, keep_n, keep_o, keep_r, mk_v, mk_r, mk_m, mk_n, List.getElem?_cons_zero, List.getElem?_cons_succ, List.length_cons, List.length_nil, List.replicate_succ, List.replicate_zero, List.cons_append, List.nil_append, Nat.reduceAdd, Nat.reduceSub]); exact rfl))
local macro_rules | `(tactic| walk_at "s") => `(tactic| refine Exists.intro _ (And.intro (stv (by ((try simp only [ent, List.set_cons_zero, List.set_cons_succ, wr0o, wr0i, wrS, wrs_n, wrs_c, wipe_n, wipe_c, rest_n, rest_c, keep_v, keep_n, keep_o, keep_r, mk_v, mk_r, mk_m, mk_n, List.getElem?_cons_zero, List.getElem?_cons_succ, List.length_cons, List.length_nil, List.replicate_succ, List.replicate_zero, List.cons_append, List.nil_append, Nat.reduceAdd, Nat.reduceSub]); exact rfl))) ?_))
local macro_rules | `(tactic| walk_at "n") => `(tactic| (first | refine LcP.at (by ((try simp only [ent, List.set_cons_zero, List.set_cons_succ, wr0o, wr0i, wrS, wrs_n, wrs_c, wipe_n, wipe_c, rest_n, rest_c, keep_v, keep_n, keep_o, keep_r, mk_v, mk_r, mk_m, mk_n, List.getElem?_cons_zero, List.getElem?_cons_succ, List.length_cons, List.length_nil, List.replicate_succ, List.replicate_zero, List.cons_append, List.nil_append, Nat.reduceAdd, Nat.reduceSub]); exact rfl)) ?_ | refine ForP.at (by ((try simp only [ent, List.set_cons_zero, List.set_cons_succ, wr0o, wr0i, wrS, wrs_n, wrs_c, wipe_n, wipe_c, rest_n, rest_c, keep_v, keep_n, keep_o, keep_r, mk_v, mk_r, mk_m, mk_n, List.getElem?_cons_zero, List.getElem?_cons_succ, List.length_cons, List.length_nil, List.replicate_succ, List.replicate_zero, List.cons_append, List.nil_append, Nat.reduceAdd, Nat.reduceSub]); exact rfl)) ?_ | refine WhP.at (by ((try simp only [ent, List.set_cons_zero, List.set_cons_succ, wr0o, wr0i, wrS, wrs_n, wrs_c, wipe_n, wipe_c, rest_n, rest_c, keep_v, keep_n, keep_o, keep_r, mk_v, mk_r, mk_m, mk_n, List.getElem?_cons_zero, List.getElem?_cons_succ, List.length_cons, List.length_nil, List.replicate_succ, List.replicate_zero, List.cons_append, List.nil_append, Nat.reduceAdd, Nat.reduceSub]); exact rfl)) ?_ | refine LcP2.at (by ((try simp only [ent, List.set_cons_zero, List.set_cons_succ, wr0o, wr0i, wrS, wrs_n, wrs_c, wipe_n, wipe_c, rest_n, rest_c, keep_v, keep_n, keep_o, keep_r, mk_v, mk_r, mk_m, mk_n, List.getElem?_cons_zero, List.getElem?_cons_succ, List.length_cons, List.length_nil, List.replicate_succ, List.replicate_zero, List.cons_append, List.nil_append, Nat.reduceAdd, Nat.reduceSub]); exact rfl)) ?_ | refine LcI.at (by ((try simp only [ent, List.set_cons_zero, List.set_cons_succ, wr0o, wr0i, wrS, wrs_n, wrs_c, wipe_n, wipe_c, rest_n, rest_c, keep_v, keep_n, keep_o, keep_r, mk_v, mk_r, mk_m, mk_n, List.getElem?_cons_zero, List.getElem?_cons_succ, List.length_cons, List.length_nil, List.replicate_succ, List.replicate_zero, List.cons_append, List.nil_append, Nat.reduceAdd, Nat.reduceSub]); exact rfl)) ?_))
local macro_rules | `(tactic| walk_at "r") => `(tactic| ((repeat first | refine Exists.intro _ (Exists.intro _ (And.intro rfl (And.intro rfl ?_))) | refine Exists.intro _ (And.intro rfl ?_) | refine Exists.intro _ (Exists.intro _ (And.intro rfl ?_)) | refine And.intro (by (first | with_reducible assumption | omega | exact Nat.le_of_ble_eq_true rfl | ((with_reducible refine And.intro ?_ ?_) <;> omega) | (simp only [strD_len, natD_len, rgD_len, List.length_map, List.length_append, List.length_cons, List.length_nil, List.length_take, List.length_drop, List.length_range]; omega) | (dsimp only; omega) | (unfold CMul; omega) | ((with_reducible show CDivW _ _); exact ⟨by decide, by decide +kernel⟩) | ((with_reducible show CPow _ _); exact ⟨by decide, by decide, by decide⟩) | ((with_reducible show CShl _ _); exact ⟨by decide, by decide +kernel⟩) | ((with_reducible show RgOk _ _); exact ⟨by omega, by omega, by omega, by omega, by omega⟩))) ?_ | refine And.intro (Eq.refl _) ?_ | refine itT rfl ?_ | refine itF rfl ?_); try (first | refine LcP.at (by ((try simp only [ent, List.set_cons_zero, List.set_cons_succ, wr0o, wr0i, wrS, wrs_n, wrs_c, wipe_n, wipe_c, rest_n, rest_c, keep_v, keep_n, keep_o, keep_r, mk_v, mk_r, mk_m, mk_n, List.getElem?_cons_zero, List.getElem?_cons_succ, List.length_cons, List.length_nil, List.replicate_succ, List.replicate_zero, List.cons_append, List.nil_append, Nat.reduceAdd, Nat.reduceSub]); exact rfl)) ?_ | refine ForP.at (by ((try simp only [ent, List.set_cons_zero, List.set_cons_succ, wr0o, wr0i, wrS, wrs_n, wrs_c, wipe_n, wipe_c, rest_n, rest_c, keep_v, keep_n, keep_o, keep_r, mk_v, mk_r, mk_m, mk_n, List.getElem?_cons_zero, List.getElem?_cons_succ, List.length_cons, List.length_nil, List.replicate_succ, List.replicate_zero, List.cons_append, List.nil_append, Nat.reduceAdd, Nat.reduceSub]); exact rfl)) ?_ | refine WhP.at (by ((try simp only [ent, List.set_cons_zero, List.set_cons_succ, wr0o, wr0i, wrS, wrs_n, wrs_c, wipe_n, wipe_c, rest_n, rest_c, keep_v, keep_n, keep_o, keep_r, mk_v, mk_r, mk_m, mk_n, List.getElem?_cons_zero, List.getElem?_cons_succ, List.length_cons, List.length_nil, List.replicate_succ, List.replicate_zero, List.cons_append, List.nil_append, Nat.reduceAdd, Nat.reduceSub]); exact rfl)) ?_ | refine LcP2.at (by ((try simp only [ent, List.set_cons_zero, List.set_cons_succ, wr0o, wr0i, wrS, wrs_n, wrs_c, wipe_n, wipe_c, rest_n, rest_c, keep_v, keep_n, keep_o, keep_r, mk_v, mk_r, mk_m, mk_n, List.getElem?_cons_zero, List.getElem?_cons_succ, List.length_cons, List.length_nil, List.replicate_succ, List.replicate_zero, List.cons_append, List.nil_append, Nat.reduceAdd, Nat.reduceSub]); exact rfl)) ?_ | refine LcI.at (by ((try simp only [ent, List.set_cons_zero, List.set_cons_succ, wr0o, wr0i, wrS, wrs_n, wrs_c, wipe_n, wipe_c, rest_n, rest_c, keep_v, keep_n, keep_o, keep_r, mk_v, mk_r, mk_m, mk_n, List.getElem?_cons_zero, List.getElem?_cons_succ, List.length_cons, List.length_nil, List.replicate_succ, List.replicate_zero, List.cons_append, List.nil_append, Nat.reduceAdd, Nat.reduceSub]); exact rfl)) ?_)))
local macro_rules | `(tactic| walk_at "t") => `(tactic| (first | refine itT (by ((first | rw [eqv_int] | rw [eqv_nat] | skip); exact decide_eq_true (by omega))) ?_ | refine itF (by ((first | rw [eqv_int] | rw [eqv_nat] | skip); exact decide_eq_false (by omega))) ?_ | refine itNT (by ((first | rw [eqv_int] | rw [eqv_nat] | skip); exact decide_eq_true (by omega))) ?_ | refine itNF (by ((first | rw [eqv_int] | rw [eqv_nat] | skip); exact decide_eq_false (by omega))) ?_))
local macro_rules | `(tactic| walk_at "g") => `(tactic| ((try simp only [ent, List.set_cons_zero, List.set_cons_succ, wr0o, wr0i, wrS, wrs_n, wrs_c, wipe_n, wipe_c, rest_n, rest_c, keep_v, keep_n, keep_o, keep_r, mk_v, mk_r, mk_m, mk_n, List.getElem?_cons_zero, List.getElem?_cons_succ, List.replicate_succ, List.replicate_zero, List.cons_append, List.nil_append, Nat.reduceAdd, Nat.reduceSub]); (repeat first | refine Exists.intro _ (Exists.intro _ (And.intro rfl (And.intro rfl ?_))) | refine Exists.intro _ (And.intro (stv (by ((try simp only [ent, List.set_cons_zero, List.set_cons_succ, wr0o, wr0i, wrS, wrs_n, wrs_c, wipe_n, wipe_c, rest_n, rest_c, keep_v, keep_n, keep_o, keep_r, mk_v, mk_r, mk_m, mk_n, List.getElem?_cons_zero, List.getElem?_cons_succ, List.length_cons, List.length_nil, List.replicate_succ, List.replicate_zero, List.cons_append, List.nil_append, Nat.reduceAdd, Nat.reduceSub]); exact rfl))) ?_) | refine Exists.intro _ (And.intro rfl ?_) | refine Exists.intro _ (Exists.intro _ (And.intro rfl ?_)) | refine @And.intro (EqOk _ _) _ (Or.inl rfl) ?_ | refine And.intro (Exists.intro _ rfl) ?_ | refine Exists.intro _ (Exists.intro _ (Exists.intro _ (And.intro rfl (And.intro rfl (And.intro rfl ?_))))) | refine And.intro (by (first | with_reducible assumption | omega | exact Nat.le_of_ble_eq_true rfl | ((with_reducible refine And.intro ?_ ?_) <;> omega) | (simp only [strD_len, natD_len, rgD_len, List.length_map, List.length_append, List.length_cons, List.length_nil, List.length_take, List.length_drop, List.length_range]; omega) | (dsimp only; omega) | (unfold CMul; omega) | ((with_reducible show CDivW _ _); exact ⟨by decide, by decide +kernel⟩) | ((with_reducible show CPow _ _); exact ⟨by decide, by decide, by decide⟩) | ((with_reducible show CShl _ _); exact ⟨by decide, by decide +kernel⟩) | ((with_reducible show RgOk _ _); exact ⟨by omega, by omega, by omega, by omega, by omega⟩))) ?_ | refine And.intro (Eq.refl _) ?_ | refine itT rfl ?_ | refine itF rfl ?_ | refine Exists.intro _ (Exists.intro _ (Exists.intro _ (And.intro rfl (And.intro rfl (And.intro (by (first | with_reducible assumption | omega | exact Nat.le_of_ble_eq_true rfl | ((with_reducible refine And.intro ?_ ?_) <;> omega) | (simp only [strD_len, natD_len, rgD_len, List.length_map, List.length_append, List.length_cons, List.length_nil, List.length_take, List.length_drop, List.length_range]; omega) | (dsimp only; omega) | (unfold CMul; omega) | ((with_reducible show CDivW _ _); exact ⟨by decide, by decide +kernel⟩) | ((with_reducible show CPow _ _); exact ⟨by decide, by decide, by decide⟩) | ((with_reducible show CShl _ _); exact ⟨by decide, by decide +kernel⟩) | ((with_reducible show RgOk _ _); exact ⟨by omega, by omega, by omega, by omega, by omega⟩))) ?_))))) | refine Exists.intro _ (Exists.intro _ (Exists.intro _ (And.intro rfl (And.intro rfl ?_)))) | refine itT (by ((first | rw [eqv_int] | rw [eqv_nat] | skip); exact decide_eq_true (by omega))) ?_ | refine itF (by ((first | rw [eqv_int] | rw [eqv_nat] | skip); exact decide_eq_false (by omega))) ?_ | refine itNT (by ((first | rw [eqv_int] | rw [eqv_nat] | skip); exact decide_eq_true (by omega))) ?_ | refine itNF (by ((first | rw [eqv_int] | rw [eqv_nat] | skip); exact decide_eq_false (by omega))) ?_); try (first | refine LcP.at (by ((try simp only [ent, List.set_cons_zero, List.set_cons_succ, wr0o, wr0i, wrS, wrs_n, wrs_c, wipe_n, wipe_c, rest_n, rest_c, keep_v, keep_n, keep_o, keep_r, mk_v, mk_r, mk_m, mk_n, List.getElem?_cons_zero, List.getElem?_cons_succ, List.length_cons, List.length_nil, List.replicate_succ, List.replicate_zero, List.cons_append, List.nil_append, Nat.reduceAdd, Nat.reduceSub]); exact rfl)) ?_ | refine ForP.at (by ((try simp only [ent, List.set_cons_zero, List.set_cons_succ, wr0o, wr0i, wrS, wrs_n, wrs_c, wipe_n, wipe_c, rest_n, rest_c, keep_v, keep_n, keep_o, keep_r, mk_v, mk_r, mk_m, mk_n, List.getElem?_cons_zero, List.getElem?_cons_succ, List.length_cons, List.length_nil, List.replicate_succ, List.replicate_zero, List.cons_append, List.nil_append, Nat.reduceAdd, Nat.reduceSub]); exact rfl)) ?_ | refine WhP.at (by ((try simp only [ent, List.set_cons_zero, List.set_cons_succ, wr0o, wr0i, wrS, wrs_n, wrs_c, wipe_n, wipe_c, rest_n, rest_c, keep_v, keep_n, keep_o, keep_r, mk_v, mk_r, mk_m, mk_n, List.getElem?_cons_zero, List.getElem?_cons_succ, List.length_cons, List.length_nil, List.replicate_succ, List.replicate_zero, List.cons_append, List.nil_append, Nat.reduceAdd, Nat.reduceSub]); exact rfl)) ?_ | refine LcP2.at (by ((try simp only [ent, List.set_cons_zero, List.set_cons_succ, wr0o, wr0i, wrS, wrs_n, wrs_c, wipe_n, wipe_c, rest_n, rest_c, keep_v, keep_n, keep_o, keep_r, mk_v, mk_r, mk_m, mk_n, List.getElem?_cons_zero, List.getElem?_cons_succ, List.length_cons, List.length_nil, List.replicate_succ, List.replicate_zero, List.cons_append, List.nil_append, Nat.reduceAdd, Nat.reduceSub]); exact rfl)) ?_ | refine LcI.at (by ((try simp only [ent, List.set_cons_zero, List.set_cons_succ, wr0o, wr0i, wrS, wrs_n, wrs_c, wipe_n, wipe_c, rest_n, rest_c, keep_v, keep_n, keep_o, keep_r, mk_v, mk_r, mk_m, mk_n, List.getElem?_cons_zero, List.getElem?_cons_succ, List.length_cons, List.length_nil, List.replicate_succ, List.replicate_zero, List.cons_append, List.nil_append, Nat.reduceAdd, Nat.reduceSub]); exact rfl)) ?_)))
local macro_rules | `(tactic| walk_at "e") => `(tactic| refine Exists.intro _ (Exists.intro _ (Exists.intro _ (And.intro rfl (And.intro (by (first | exact And.intro rfl rfl | exact Exists.intro _ (Exists.intro _ (And.intro rfl (And.intro rfl (And.intro rfl rfl)))) | exact Exists.intro _ (Exists.intro _ (And.intro rfl (And.intro rfl (Exists.intro _ (Exists.intro _ (And.intro rfl (And.intro rfl (And.intro rfl rfl)))))))))) ?_)))))
local macro_rules | `(tactic| walk_at "o") => `(tactic| refine Exists.intro _ (And.intro (by (first | exact And.intro rfl rfl | exact Exists.intro _ (Exists.intro _ (And.intro rfl (And.intro rfl (And.intro rfl rfl)))) | exact Exists.intro _ (Exists.intro _ (And.intro rfl (And.intro rfl (Exists.intro _ (Exists.intro _ (And.intro rfl (And.intro rfl (And.intro rfl rfl)))))))))) ?_))
local macro_rules | `(tactic| walk_at "eq") => `(tactic| exact fun K h => by (refine Exists.intro _ (Exists.intro _ (And.intro rfl (And.intro rfl ?_))); exact And.intro (.inl rfl) ⟨_, rfl, by rw [eqv_int]; exact h⟩))

abbrev g___name__ : PyData := .str "law_deedoath_k24_narrowed_soundly"
/-! ### what the laws' draws promise -/
/-- the state of the draws -/
def DOk (d : PyData) : Prop := ∃ (ns : List Int) (i left seed : Int), d = .list [.list (ns.map .int), .int i, .int left, .int seed] ∧ 0 ≤ i ∧ 0 ≤ left ∧ 0 ≤ seed
def S__law_draw : Spc := fun xs k _ => ∃ d m, xs = [d, .int m] ∧ DOk d ∧ 0 < m ∧ m < 2147483648 ∧ ∀ r d', 0 ≤ r → r < m → DOk d' → k (.int r) [d']
inductive Pk : PyData → List PyData → Prop
  | l (ys : List PyData) : Pk (.list ys) ys
  | t (ys : List PyData) : Pk (.tuple ys) ys
  | s (z : Str) (h : z.length ≤ sizeLine) : Pk (.str z) (LB.signs z)
def S__law_pick : Spc := fun xs k _ => ∃ d row ys, xs = [d, row] ∧ DOk d ∧ Pk row ys ∧ ys ≠ [] ∧ ys.length < 2147483648 ∧ ∀ y ∈ ys, ∀ d', DOk d' → k y [d']
def S__law_pop : Spc := fun xs k _ => ∃ d ys, xs = [d, .list ys] ∧ DOk d ∧ ys ≠ [] ∧ ys.length < 2147483648 ∧ ∀ (j : Nat) y, ys[j]? = some y → ∀ d', DOk d' → k y [d', .list (ys.eraseIdx j)]
def isInt : PyData → Bool
  | .int _ => true | _ => false
def S__law_is_int : Spc := fun xs k _ => ∃ d, xs = [d] ∧ k (.bool (isInt d)) []
/-- data of tuples, ints, texts, truth values and None, at most n deep -/
def plainN : Nat → PyData → Prop
  | n, .none => 0 < n | n, .bool _ => 0 < n | n, .int _ => 0 < n | n, .str _ => 0 < n
  | 0, _ => False
  | n + 1, .tuple xs => xs.length ≤ sizeLine ∧ ∀ x ∈ xs, plainN n x
  | _, _ => False
theorem plainI (i : Int) : plainN 2 (.int i) := Nat.two_pos
def S__law_same (n : Nat) : Spc := fun xs k _ => ∃ d, xs = [d, d] ∧ plainN n d ∧ k (.bool true) []
def rowOf (row : PyData) (ys : List PyData) : Prop := row = .list ys ∨ row = .tuple ys
def S_full_mask : Spc := fun xs k _ => ∃ t : Nat, xs = [.int t] ∧ t ≤ 1000000 ∧ k (.int ((2 ^ (t + 1) - 1 : Nat) : Int)) []
def S_mask_of : Spc := fun xs k _ => ∃ row vs, xs = [row] ∧ rowOf row (natD vs) ∧ (∀ v ∈ vs, v ≤ 1000000) ∧ k (.int ((maskO vs : Nat) : Int)) []
def S_values_of : Spc := fun xs k _ => ∃ m : Nat, xs = [.int m] ∧ Builtin.Int.intBits (m : Int) ≤ 1000000 ∧ k (.tuple (natD (membersOf m))) []
def S_shifted : Spc := fun xs k _ => ∃ (m : Nat) (n : Int), xs = [.int m, .int n] ∧ Builtin.Int.intBits (m : Int) ≤ 1000000 ∧ -1000000 ≤ n ∧ n ≤ 1000000 ∧ ∀ r : Nat, (0 ≤ n → r = m * 2 ^ n.toNat) → (n < 0 → r = m / 2 ^ (-n).toNat) → k (.int ((r : Nat) : Int)) []
def S__law_mask : Spc := fun xs k _ => ∃ row vs, xs = [row] ∧ rowOf row (natD vs) ∧ vs.length ≤ sizeLine ∧ (∀ v ∈ vs, v ≤ 1000000) ∧ k (.int ((maskM vs : Nat) : Int)) []
theorem nev__law_same : ∀ xs k kx, ¬ S__law_same 0 xs k kx := fun xs k kx ⟨d, _, h, _⟩ => by cases d <;> simp [plainN] at h
def limD (ls : List (Nat × Nat)) : List PyData := ls.map fun p => .tuple [.int ((p.1 : Nat) : Int), .int ((p.2 : Nat) : Int)]
def holdsB (ls : List (Nat × Nat)) (st : List Nat) : Bool := ls.all fun p => p.2.testBit (st.getD p.1 0)
/-- effects: the dial, set or add, the number -/
def effD (es : List (Nat × Bool × Int)) : List PyData := es.map fun e => .tuple [.int ((e.1 : Nat) : Int), .str (if e.2.1 then "set" else "add"), .int e.2.2]
def onE (e : Nat × Bool × Int) (x : Int) : Int := if e.2.1 then e.2.2 else x + e.2.2
def applE (es : List (Nat × Bool × Int)) (st : List Int) : List Int := es.foldl (fun s e => s.set e.1 (onE e (s.getD e.1 0))) st
def behE (es : List (Nat × Bool × Int)) (st : List Int) : List Int := st.mapIdx fun k x => match es.find? (fun e => e.1 == k) with
  | none => x
  | some e => onE e x
def S_holds : Spc := fun xs k _ => ∃ row ls st, xs = [row, .tuple (natD st)] ∧ rowOf row (limD ls) ∧ (∀ p ∈ ls, p.1 < st.length) ∧ k (.bool (holdsB ls st)) []
def S_can : Spc := fun xs k _ => ∃ nm pr row ef ls st, xs = [.tuple [nm, pr, row, ef], .tuple (natD st)] ∧ rowOf row (limD ls) ∧ (∀ p ∈ ls, p.1 < st.length) ∧ k (.bool (holdsB ls st)) []
def S_after : Spc := fun xs k _ => ∃ nm pr lm row es st, xs = [.tuple [nm, pr, lm, row], .tuple (st.map .int)] ∧ rowOf row (effD es) ∧ (∀ e ∈ es, e.1 < st.length) ∧ k (.tuple ((applE es st).map .int)) []
def S__law_rare : Spc := fun xs k _ => ∃ d m, xs = [d, .int m] ∧ DOk d ∧ 0 < m ∧ m < 2147483648 ∧ ∀ b d', DOk d' → k (.bool b) [d']
theorem pickN {l : List Nat} {y : PyData} (hy : y ∈ natD l) {M : Nat} (h : ∀ m ∈ l, m ≤ M) : ∃ m : Nat, y = .int ((m : Nat) : Int) ∧ m ≤ M ∧ m ∈ l := by
  obtain ⟨m, hm, rfl⟩ := List.mem_map.mp hy
  exact ⟨m, rfl, h m hm, hm⟩
/-! ### rows that forbid, boxes -/
abbrev Row := List (Nat × Nat)
def rowD (r : Row) : PyData := .tuple (limD r)
def rowsD (rs : List Row) : List PyData := rs.map rowD
theorem limD_len (ls : List (Nat × Nat)) : (limD ls).length = ls.length := List.length_map ..
theorem limD_app (a b : List (Nat × Nat)) : limD (a ++ b) = limD a ++ limD b := List.map_append
theorem rowsD_len (l : List Row) : (rowsD l).length = l.length := List.length_map ..
theorem rowsD_app (a b : List Row) : rowsD (a ++ b) = rowsD a ++ rowsD b := List.map_append
theorem del_test : ∀ (i a m : Nat), (a - (a &&& m)).testBit i = (a.testBit i && !m.testBit i)
  | 0, a, m => by
    have h := Nat.testBit_and a m 0
    have hl : a &&& m ≤ a := Nat.and_le_left
    simp only [Nat.testBit_zero] at h ⊢
    rcases Nat.mod_two_eq_zero_or_one a with ha | ha <;> rcases Nat.mod_two_eq_zero_or_one m with hm | hm <;> rcases Nat.mod_two_eq_zero_or_one (a &&& m) with hx | hx <;> simp only [ha, hm, hx] at h ⊢ <;> first
      | (simp at h; done)
      | (have : (a - (a &&& m)) % 2 = 0 := by omega
         simp [this]; done)
      | (have : (a - (a &&& m)) % 2 = 1 := by omega
         simp [this]; done)
  | i + 1, a, m => by
    have ih := del_test i (a / 2) (m / 2)
    have h := Nat.testBit_and a m 0
    have hl : a &&& m ≤ a := Nat.and_le_left
    have hd : (a &&& m) / 2 = a / 2 &&& m / 2 := Nat.and_div_two
    simp only [Nat.testBit_zero] at h
    have e : (a - (a &&& m)) / 2 = a / 2 - (a / 2 &&& m / 2) := by
      rw [← hd]
      rcases Nat.mod_two_eq_zero_or_one a with ha | ha <;> rcases Nat.mod_two_eq_zero_or_one (a &&& m) with hx | hx
      · omega
      · rw [ha, hx] at h; simp at h
      · omega
      · omega
    rw [Nat.testBit_succ, e, ih, Nat.testBit_succ, Nat.testBit_succ]
theorem bitAndNot (a b : Nat) : Builtin.bitAnd (a : Int) (Builtin.bitNot (b : Int)) = ((a - (a &&& b) : Nat) : Int) := by
  have h0 : ¬ 0 ≤ Builtin.bitNot (b : Int) := by show ¬ (0 : Int) ≤ -(b : Int) - 1; omega
  rw [PyProof.Rows.bitAnd_pn (Int.natCast_nonneg a) h0]
  have h1 : (Builtin.bitNot (Builtin.bitNot (b : Int))).toNat = b := by show (-(-(b : Int) - 1) - 1).toNat = b; omega
  rw [h1, Int.toNat_natCast]
  have hl : a &&& b ≤ a := Nat.and_le_left
  omega
def looseB (ms : List Nat) (p : Nat × Nat) : Bool := decide (ms.getD p.1 0 &&& p.2 ≠ ms.getD p.1 0)
def loose (ms : List Nat) (r : Row) : Row := r.filter (looseB ms)
theorem loose_iff {ms : List Nat} {p : Nat × Nat} : looseB ms p = true ↔ ∃ v, (ms.getD p.1 0).testBit v = true ∧ p.2.testBit v = false := by
  unfold looseB
  rw [decide_eq_true_iff]
  constructor
  · intro h
    refine Classical.byContradiction fun z => h (Nat.eq_of_testBit_eq fun v => ?_)
    rw [Nat.testBit_and]
    cases h1 : (ms.getD p.1 0).testBit v with
    | false => rfl
    | true =>
      cases h2 : p.2.testBit v with
      | true => rfl
      | false => exact absurd ⟨v, h1, h2⟩ z
  · rintro ⟨v, h1, h2⟩ z
    have := congrArg (·.testBit v) z
    simp only [Nat.testBit_and, h1, h2] at this
    cases this
theorem del_zero {a m : Nat} : a - (a &&& m) ≠ 0 ↔ a &&& m ≠ a := by
  have hl : a &&& m ≤ a := Nat.and_le_left
  omega
/-- every value of A is one of B -/
def Sub (A B : List Nat) : Prop := ∀ (k v : Nat), (A.getD k 0).testBit v = true → (B.getD k 0).testBit v = true
theorem Sub.rfl' (A : List Nat) : Sub A A := fun _ _ h => h
theorem Sub.trans {A B C : List Nat} (h : Sub A B) (h2 : Sub B C) : Sub A C := fun k v z => h2 k v (h k v z)
theorem Sub.anti {A B : List Nat} (hl : A.length = B.length) (h : Sub A B) (h2 : Sub B A) : A = B := by
  refine List.ext_getElem hl fun k h3 h4 => ?_
  have e : A.getD k 0 = B.getD k 0 := Nat.eq_of_testBit_eq fun v => by
    rw [Bool.eq_iff_iff]; exact ⟨h k v, h2 k v⟩
  rwa [List.getD_eq_getElem?_getD, List.getD_eq_getElem?_getD, List.getElem?_eq_getElem h3, List.getElem?_eq_getElem h4] at e
theorem Sub.lse {A B : List Nat} (h : Sub A B) {p : Nat × Nat} (hp : looseB A p = true) : looseB B p = true := by
  obtain ⟨v, h1, h2⟩ := loose_iff.mp hp
  exact loose_iff.mpr ⟨v, h _ _ h1, h2⟩
theorem Sub.lseL {A B : List Nat} (h : Sub A B) (r : Row) : (loose A r).Sublist (loose B r) := by
  have : loose A r = (loose B r).filter (looseB A) := by
    unfold loose
    rw [List.filter_filter]
    refine List.filter_congr fun p _ => ?_
    cases hp : looseB A p with
    | false => rfl
    | true => rw [h.lse hp]; rfl
  rw [this]; exact List.filter_sublist
/-- no row steps at A, none is dead -/
def Quiet (A : List Nat) (r : Row) : Prop := loose A r ≠ [] ∧ ∀ p, loose A r = [p] → A.getD p.1 0 &&& p.2 = 0
def Clo (rs : List Row) (A : List Nat) : Prop := ∀ r ∈ rs, Quiet A r
def delAt (ms : List Nat) (p : Nat × Nat) : List Nat := ms.set p.1 (ms.getD p.1 0 - (ms.getD p.1 0 &&& p.2))
theorem del_get {ms : List Nat} {p : Nat × Nat} (hp : p.1 < ms.length) (k : Nat) : (delAt ms p).getD k 0 = if p.1 = k then ms.getD k 0 - (ms.getD k 0 &&& p.2) else ms.getD k 0 := by
  unfold delAt
  rw [List.getD_eq_getElem?_getD, List.getElem?_set]
  by_cases e : p.1 = k
  · subst e; rw [if_pos rfl, if_pos hp, if_pos rfl]; rfl
  · rw [if_neg e, if_neg e, List.getD_eq_getElem?_getD]
theorem del_sub {ms : List Nat} {p : Nat × Nat} (hp : p.1 < ms.length) : Sub (delAt ms p) ms := fun k v h => by
  rw [del_get hp] at h
  split at h
  · rw [del_test] at h; exact (Bool.and_eq_true_iff.mp h).1
  · exact h
/-- a closed box stays within -/
theorem clo_step {rs : List Row} {A ms : List Nat} (hA : Clo rs A) (hs : Sub A ms) {r : Row} (hr : r ∈ rs) {p : Nat × Nat} (hp : p.1 < ms.length) (hl : loose ms r = [p]) : Sub A (delAt ms p) := by
  obtain ⟨h1, h2⟩ := hA r hr
  have hsub := hs.lseL r
  rw [hl] at hsub
  have e : loose A r = [p] := by
    rcases List.sublist_cons_iff.mp hsub with h | ⟨q, h3, h4⟩
    · exact absurd (List.sublist_nil.mp h) h1
    · rw [List.sublist_nil.mp h4] at h3; exact h3
  have hz := h2 p e
  intro k v h
  rw [del_get hp]
  split
  · rename_i q
    subst q
    rw [del_test, hs _ _ h]
    have := congrArg (·.testBit v) hz
    simp only [Nat.testBit_and, h, Nat.zero_testBit, Bool.true_and] at this
    rw [this]; rfl
  · exact hs _ _ h
theorem clo_dead {rs : List Row} {A ms : List Nat} (hA : Clo rs A) (hs : Sub A ms) {r : Row} (hr : r ∈ rs) (hl : loose ms r = []) : False := by
  have hsub := hs.lseL r
  rw [hl] at hsub
  exact (hA r hr).1 (List.sublist_nil.mp hsub)
/-- the greatest closed box within, or none -/
def Gr (rs : List Row) (box : List Nat) : Option (List Nat) → Prop
  | none => ∀ A, A.length = box.length → Clo rs A → ¬ Sub A box
  | some C => C.length = box.length ∧ (∀ m ∈ C, m < 1024) ∧ Clo rs C ∧ Sub C box ∧ ∀ A, A.length = box.length → Clo rs A → Sub A box → Sub A C
theorem Gr.uniq {rs rs' : List Row} {box : List Nat} (hm : ∀ r, r ∈ rs ↔ r ∈ rs') : ∀ {a b : Option (List Nat)}, Gr rs box a → Gr rs' box b → a = b := by
  have hc : ∀ A, Clo rs A ↔ Clo rs' A := fun A => ⟨fun h r hr => h r ((hm r).mpr hr), fun h r hr => h r ((hm r).mp hr)⟩
  intro a b ha hb
  cases a with
  | none =>
    cases b with
    | none => rfl
    | some D => exact absurd hb.2.2.2.1 (ha D hb.1 ((hc D).mpr hb.2.2.1))
  | some C =>
    cases b with
    | none => exact absurd ha.2.2.2.1 (hb C ha.1 ((hc C).mp ha.2.2.1))
    | some D =>
      obtain ⟨a1, a0, a2, a3, a4⟩ := ha
      obtain ⟨b1, b0, b2, b3, b4⟩ := hb
      rw [Sub.anti (a1.trans b1.symm) (b4 C a1 ((hc C).mp a2) a3) (a4 D b1 ((hc D).mpr b2) b3)]
theorem Gr.self {rs : List Row} {C : List Nat} (h : Clo rs C) (hs : ∀ m ∈ C, m < 1024) : Gr rs C (some C) := ⟨rfl, hs, h, .rfl' C, fun _ _ _ h => h⟩
/-- a box on the way to the greatest closed one -/
structure OnWay (rs : List Row) (box ms : List Nat) : Prop where
  len : ms.length = box.length
  sm : ∀ m ∈ ms, m < 1024
  sub : Sub ms box
  gr : ∀ A, A.length = box.length → Clo rs A → Sub A box → Sub A ms
theorem OnWay.start {rs : List Row} {box : List Nat} (h : ∀ m ∈ box, m < 1024) : OnWay rs box box := ⟨rfl, h, .rfl' _, fun _ _ _ h => h⟩
theorem OnWay.step {rs : List Row} {box ms : List Nat} (h : OnWay rs box ms) {r : Row} (hr : r ∈ rs) {p : Nat × Nat} (hp : p.1 < box.length) (hl : loose ms r = [p]) : OnWay rs box (delAt ms p) := by
  have hp2 : p.1 < ms.length := by rw [h.len]; exact hp
  refine ⟨by unfold delAt; rw [List.length_set]; exact h.len, fun m hm => ?_, (del_sub hp2).trans h.sub, fun A h1 h2 h3 => clo_step h2 (h.gr A h1 h2 h3) hr hp2 hl⟩
  rcases List.mem_or_eq_of_mem_set hm with z | rfl
  · exact h.sm m z
  · have : ms.getD p.1 0 < 1024 := by
      rw [List.getD_eq_getElem?_getD, List.getElem?_eq_getElem hp2]
      exact h.sm _ (List.getElem_mem hp2)
    omega
theorem OnWay.dead {rs : List Row} {box ms : List Nat} (h : OnWay rs box ms) {r : Row} (hr : r ∈ rs) (hl : loose ms r = []) : Gr rs box none :=
  fun A h1 h2 h3 => clo_dead h2 (h.gr A h1 h2 h3) hr hl
theorem OnWay.done {rs : List Row} {box ms : List Nat} (h : OnWay rs box ms) (hc : Clo rs ms) : Gr rs box (some ms) := ⟨h.len, h.sm, hc, h.sub, h.gr⟩
/-! how many values -/
def bits (ms : List Nat) : Nat := (ms.map fun m => (membersOf m).length).sum
theorem sum_set : ∀ (l : List Nat) (k x : Nat) (h : k < l.length), (l.set k x).sum + l[k] = l.sum + x
  | a :: l, 0, x, _ => by simp [List.set]; omega
  | a :: l, k + 1, x, h => by
    have := sum_set l k x (by simpa using h)
    simp only [List.set_cons_succ, List.sum_cons, List.getElem_cons_succ] at this ⊢
    omega
theorem bits_del {ms : List Nat} {p : Nat × Nat} (hp : p.1 < ms.length) (hz : ms.getD p.1 0 &&& p.2 ≠ 0) : bits (delAt ms p) + 1 ≤ bits ms := by
  unfold bits delAt
  rw [List.map_set]
  have hk : p.1 < (ms.map fun m => (membersOf m).length).length := by rw [List.length_map]; exact hp
  have h := sum_set (ms.map fun m => (membersOf m).length) p.1 (membersOf (ms.getD p.1 0 - (ms.getD p.1 0 &&& p.2))).length hk
  rw [List.getElem_map] at h
  have e : ms.getD p.1 0 = ms[p.1] := by rw [List.getD_eq_getElem?_getD, List.getElem?_eq_getElem hp]; rfl
  rw [e] at h hz ⊢
  have hm : membersOf (ms[p.1] - (ms[p.1] &&& p.2)) = (membersOf ms[p.1]).filter fun v => !p.2.testBit v := by
    refine asc_ext (asc_filter (asc_range _) _) (asc_filter (asc_filter (asc_range _) _) _) fun v => ?_
    rw [mem_membersOf, List.mem_filter, mem_membersOf, del_test, Bool.and_eq_true_iff]
  obtain ⟨v, hv⟩ : ∃ v, (ms[p.1] &&& p.2).testBit v = true := by
    refine Classical.byContradiction fun z => hz (Nat.eq_of_testBit_eq fun v => ?_)
    rw [Nat.zero_testBit]
    cases q : (ms[p.1] &&& p.2).testBit v with
    | false => rfl
    | true => exact absurd ⟨v, q⟩ z
  rw [Nat.testBit_and, Bool.and_eq_true_iff] at hv
  have hlt : ((membersOf ms[p.1]).filter fun v => !p.2.testBit v).length < (membersOf ms[p.1]).length := by
    refine Nat.lt_of_le_of_ne (List.length_filter_le _ _) fun z => ?_
    have := List.length_filter_eq_length_iff.mp z v (mem_membersOf.mpr hv.1)
    rw [hv.2] at this; cases this
  rw [hm] at h ⊢
  omega
def lpD : Row → PyData
  | [] => .tuple [.int 0, .none]
  | [p] => .tuple [.int 1, .tuple [.int ((p.1 : Nat) : Int), .int ((p.2 : Nat) : Int)]]
  | _ :: q :: _ => .tuple [.int 2, .tuple [.int ((q.1 : Nat) : Int), .int ((q.2 : Nat) : Int)]]
def RowOk (n : Nat) (r : Row) : Prop := r.length ≤ 4 ∧ ∀ p ∈ r, p.1 < n ∧ p.2 < 1024
def RowsOk (n : Nat) (rs : List Row) : Prop := rs.length ≤ 1000 ∧ ∀ r ∈ rs, RowOk n r
def BoxOk (box : List Nat) : Prop := box.length ≤ 90 ∧ ∀ m ∈ box, m < 1024
def resD : Option (List Nat) → PyData
  | none => .none
  | some C => .tuple (natD C)
def S_loose_pair : Spc := fun xs k _ => ∃ r ms, xs = [rowD r, .list (natD ms)] ∧ RowOk ms.length r ∧ k (lpD (loose ms r)) []
def S_narrowed : Spc := fun xs k _ => ∃ rs box, xs = [.tuple (rowsD rs), .tuple (natD box)] ∧ RowsOk box.length rs ∧ BoxOk box ∧ ∀ res, Gr rs box res → k (resD res) []
theorem rg_natD (n : Nat) : rgD 0 n = natD (List.range n) := by
  unfold rgD natD
  refine List.map_congr_left fun i _ => ?_
  rw [Int.zero_add]
theorem natD_int (l : List Nat) : natD l = (l.map fun v => ((v : Nat) : Int)).map .int := by unfold natD; rw [List.map_map]; rfl
theorem sum_cast : ∀ l : List Nat, (l.map fun n : Nat => (n : Int)).sum = ((l.sum : Nat) : Int)
  | [] => rfl
  | n :: l => by rw [List.map_cons, List.sum_cons, sum_cast l, List.sum_cons, Int.natCast_add]
theorem gSum_nat {l : List Nat} {k : PyData → Prop} (hk : k (.int ((l.sum : Nat) : Int))) : gSum [.list (natD l)] k :=
  ⟨l.map fun v => ((v : Nat) : Int), by rw [natD_int], by rw [sum_cast]; exact hk⟩
def natOf : PyData → Nat
  | .int i => i.toNat
  | _ => 0
theorem natOf_natD (l : List Nat) : (natD l).map natOf = l := by
  unfold natD
  rw [List.map_map]
  exact List.map_id _
/-- what falls in narrowed's loop -/
def muW (ρ : List En) : Nat := match ρ[2]?, ρ[3]? with
  | some (En.own _ (PyData.list ds)), some (En.val (PyData.bool true)) => bits (ds.map natOf) + 1
  | _, _ => 0
theorem and_ne0 (a b : Nat) : (!PyData.eqv (.int (Builtin.bitAnd ((a : Nat) : Int) ((b : Nat) : Int))) (.int 0)) = decide (a &&& b ≠ 0) := by
  rw [bitAnd_nat, show (0 : Int) = ((0 : Nat) : Int) from rfl, eqv_nat, decide_not]
theorem full_le {t : Nat} (h1 : 1 ≤ t) (h9 : t ≤ 9) : 4 ≤ 2 ^ (t + 1) ∧ 2 ^ (t + 1) ≤ 1024 :=
  ⟨Nat.pow_le_pow_right (n := 2) (by decide) (show 2 ≤ t + 1 by omega), Nat.pow_le_pow_right (n := 2) (by decide) (show t + 1 ≤ 10 by omega)⟩
def stsD (sts : List (List Nat)) : List PyData := sts.map fun s => .tuple (natD s)
theorem stsD_len (l : List (List Nat)) : (stsD l).length = l.length := List.length_map ..
def S__law_meets : Spc := fun xs k _ => ∃ row ls st, xs = [row, .tuple (natD st)] ∧ rowOf row (limD ls) ∧ ls.length ≤ 1000 ∧ (∀ p ∈ ls, p.1 < st.length) ∧ k (.bool (holdsB ls st)) []
def S__law_full : Spc := fun xs k _ => ∃ t : Nat, xs = [.int ((t : Nat) : Int)] ∧ t ≤ 9 ∧ k (.int ((2 ^ (t + 1) - 1 : Nat) : Int)) []
def TopsK (tops : List Nat) : Prop := tops.length ≤ 90 ∧ (∀ t ∈ tops, 1 ≤ t ∧ t ≤ 9) ∧ tops.sum ≤ 90
def S__law_tops : Spc := fun xs k _ => ∃ d, xs = [d] ∧ DOk d ∧ ∀ tops d', TopsK tops → DOk d' → k (.tuple (natD tops)) [d']
def S__law_wide : Spc := fun xs k _ => ∃ d, xs = [d] ∧ DOk d ∧ ∀ tops d', TopsK tops → DOk d' → k (.tuple (natD tops)) [d']
def valsM (m : Nat) : List Nat := (List.range 10).filter fun v => m.testBit v
def S__law_values : Spc := fun xs k _ => ∃ m : Nat, xs = [.int ((m : Nat) : Int)] ∧ m < 1024 ∧ k (.list (natD (valsM m))) []
def S__law_row : Spc := fun xs k _ => ∃ d tops, xs = [d, .tuple (natD tops)] ∧ DOk d ∧ TopsK tops ∧ tops ≠ [] ∧ ∀ r d', RowOk tops.length r → DOk d' → k (rowD r) [d']
def prD (p : Nat × Nat) : PyData := .tuple [.int ((p.1 : Nat) : Int), .int ((p.2 : Nat) : Int)]
def S__law_chain : Spc := fun xs k _ => ∃ d tops, xs = [d, .tuple (natD tops)] ∧ DOk d ∧ TopsK tops ∧ tops ≠ [] ∧ ∀ (hd : Nat × Nat) (rows : List Row) d', hd.1 < tops.length → (∀ t, tops[hd.1]? = some t → hd.2 < 2 ^ (t + 1)) → rows.length ≤ 100 → (∀ r ∈ rows, RowOk tops.length r) → DOk d' → k (.tuple [prD hd, .list (rowsD rows)]) [d']
def S__law_mixed : Spc := fun xs k _ => ∃ d rs, xs = [d, .list (rowsD rs)] ∧ DOk d ∧ rs.length ≤ 1000 ∧ ∀ (rs' : List Row) d', rs'.length ≤ rs.length → (∀ r ∈ rs', r ∈ rs) → DOk d' → k (.tuple (rowsD rs')) [d']
structure CaseOk (rs : List Row) (box part : List Nat) : Prop where
  rw_ : RowsOk box.length rs
  bx : BoxOk box
  pl : part.length = box.length
  ps : ∀ m ∈ part, m < 1024
  sub : Sub part box
  bt : bits box ≤ 399
  bp : bits part ≤ 399
  rl : rs.length ≤ 400
def S__law_case : Spc := fun xs k _ => ∃ d b, xs = [d, .bool b] ∧ DOk d ∧ ∀ rs box part d', CaseOk rs box part → DOk d' → k (.tuple [.tuple (rowsD rs), .tuple (natD box), .tuple (natD part)]) [d']
def S__law_narrow : Spc := fun xs k _ => ∃ rs box, xs = [.tuple (rowsD rs), .tuple (natD box)] ∧ RowsOk box.length rs ∧ BoxOk box ∧ bits box ≤ 399 ∧ ∀ res, Gr rs box res → k (resD res) []
def InBox (box s : List Nat) : Prop := s.length = box.length ∧ ∀ k, k < box.length → (box.getD k 0).testBit (s.getD k 0) = true
def S__law_states : Spc := fun xs k _ => ∃ box, ∃ most : Nat, xs = [.tuple (natD box), .int ((most : Nat) : Int)] ∧ BoxOk box ∧ 1 ≤ most ∧ most ≤ 1000 ∧ ∀ sts : List (List Nat), (∀ s ∈ sts, InBox box s) → sts.length ≤ most → k (.list (stsD sts)) []
def inB (box s : List Nat) : Bool := (List.range box.length).all fun k => (box.getD k 0).testBit (s.getD k 0)
def S__law_in : Spc := fun xs k _ => ∃ box s, xs = [.tuple (natD box), .tuple (natD s)] ∧ s.length = box.length ∧ box.length ≤ 90 ∧ k (.bool (inB box s)) []
def letB (rs : List Row) (s : List Nat) : Bool := rs.all fun r => !holdsB r s
def S__law_let : Spc := fun xs k _ => ∃ rs s, xs = [.tuple (rowsD rs), .tuple (natD s)] ∧ RowsOk s.length rs ∧ k (.bool (letB rs s)) []
def S__law_told : Spc := fun xs k _ => ∃ rs box part, xs = [.tuple [.tuple (rowsD rs), .tuple (natD box), .tuple (natD part)]] ∧ CaseOk rs box part ∧ k (.bool true) []
/-! points -/
def pointO (s : List Nat) : List Nat := s.map (2 ^ ·)
theorem point_get (s : List Nat) {k : Nat} (hk : k < s.length) (v : Nat) : ((pointO s).getD k 0).testBit v = decide (s.getD k 0 = v) := by
  unfold pointO
  rw [List.getD_eq_getElem?_getD, List.getElem?_map, List.getElem?_eq_getElem hk, List.getD_eq_getElem?_getD, List.getElem?_eq_getElem hk]
  exact Nat.testBit_two_pow
theorem point_out (s : List Nat) {k : Nat} (hk : ¬ k < s.length) (v : Nat) : ((pointO s).getD k 0).testBit v = false := by
  unfold pointO
  rw [List.getD_eq_getElem?_getD, List.getElem?_eq_none (by rw [List.length_map]; omega)]
  exact Nat.zero_testBit v
theorem point_sub {box s : List Nat} (h : InBox box s) : Sub (pointO s) box := fun k v hv => by
  by_cases hk : k < s.length
  · rw [point_get s hk] at hv
    rw [← of_decide_eq_true hv]
    exact h.2 k (by rw [← h.1]; exact hk)
  · rw [point_out s hk] at hv; cases hv
theorem point_loose (s : List Nat) {p : Nat × Nat} (hp : p.1 < s.length) : looseB (pointO s) p = !p.2.testBit (s.getD p.1 0) := by
  rw [Bool.eq_iff_iff, loose_iff]
  constructor
  · rintro ⟨v, h1, h2⟩
    rw [point_get s hp] at h1
    rw [of_decide_eq_true h1, h2]; rfl
  · intro h
    exact ⟨s.getD p.1 0, by rw [point_get s hp]; exact decide_eq_true rfl, by simpa using h⟩
theorem point_clo {rs : List Row} {s : List Nat} (hr : RowsOk s.length rs) (h : letB rs s = true) : Clo rs (pointO s) := fun r hrm => by
  have h1 := List.all_eq_true.mp h r hrm
  have hro := (hr.2 r hrm).2
  refine ⟨fun z => ?_, fun p hp => ?_⟩
  · have : holdsB r s = true := by
      unfold holdsB
      rw [List.all_eq_true]
      intro p hp
      have h2 := List.filter_eq_nil_iff.mp z p hp
      rw [point_loose s (hro p hp).1] at h2
      simpa using h2
    rw [this] at h1; cases h1
  · have hm : p ∈ loose (pointO s) r := by rw [hp]; exact List.mem_singleton.mpr rfl
    obtain ⟨h2, h3⟩ := List.mem_filter.mp hm
    have hp1 := (hro p h2).1
    rw [point_loose s hp1] at h3
    refine Nat.eq_of_testBit_eq fun v => ?_
    rw [Nat.testBit_and, point_get s hp1, Nat.zero_testBit]
    by_cases e : s.getD p.1 0 = v
    · subst e
      have : p.2.testBit (s.getD p.1 0) = false := by simpa using h3
      rw [this, Bool.and_false]
    · rw [decide_eq_false e]; rfl
theorem point_dead {rs : List Row} {s : List Nat} (hr : RowsOk s.length rs) (h : letB rs s = false) {res : Option (List Nat)} (hg : Gr rs (pointO s) res) : res = none := by
  cases res with
  | none => rfl
  | some C =>
    obtain ⟨c1, c0, c2, c3, c4⟩ := hg
    have : ¬ ∀ r ∈ rs, (!holdsB r s) = true := fun z => by
      have := List.all_eq_true.mpr z
      unfold letB at h; rw [h] at this; cases this
    obtain ⟨r, hrm, hh⟩ : ∃ r ∈ rs, holdsB r s = true := Classical.byContradiction fun z => this fun r hrm => by
      cases q : holdsB r s with
      | false => rfl
      | true => exact absurd ⟨r, hrm, q⟩ z
    refine (clo_dead c2 c3 hrm ?_).elim
    unfold loose
    rw [List.filter_eq_nil_iff]
    intro p hp
    rw [point_loose s ((hr.2 r hrm).2 p hp).1]
    unfold holdsB at hh
    have := List.all_eq_true.mp hh p hp
    rw [this]; simp
theorem in_of {box s : List Nat} (hl : s.length = box.length) (h : Sub (pointO s) box) : inB box s = true := by
  unfold inB
  rw [List.all_eq_true]
  intro k hk
  have hk := List.mem_range.mp hk
  exact h k _ (by rw [point_get s (by omega)]; exact decide_eq_true rfl)
theorem Clo.tail {r : Row} {rs : List Row} {A : List Nat} (h : Clo (r :: rs) A) : Clo rs A := fun q hq => h q (List.mem_cons_of_mem _ hq)
/-! bits of boxes -/
def BoxT (tops box : List Nat) : Prop := box.length = tops.length ∧ ∀ (k : Nat) t m, tops[k]? = some t → box[k]? = some m → m < 2 ^ (t + 1)
theorem members_le {m t : Nat} (h : m < 2 ^ (t + 1)) : (membersOf m).length ≤ t + 1 :=
  asc_len (asc_filter (asc_range _) _) fun v hv => by
    have h1 := mem_membersOf.mp hv
    refine Decidable.byContradiction fun z => ?_
    have : m < 2 ^ v := Nat.lt_of_lt_of_le h (Nat.pow_le_pow_right (by decide) (by omega))
    rw [Nat.testBit_lt_two_pow this] at h1; cases h1
theorem bits_le_sum : ∀ {tops box : List Nat}, BoxT tops box → bits box ≤ tops.sum + tops.length
  | [], [], _ => Nat.zero_le _
  | t :: tops, m :: box, h => by
    have h1 := members_le (h.2 0 t m rfl rfl)
    have h2 := bits_le_sum (tops := tops) (box := box) ⟨by simpa using h.1, fun k t m a b => h.2 (k + 1) t m (by simpa using a) (by simpa using b)⟩
    unfold bits at h2 ⊢
    simp only [List.map_cons, List.sum_cons, List.length_cons]
    omega
  | [], _ :: _, h => by have := h.1; simp at this
  | _ :: _, [], h => by have := h.1; simp at this
theorem BoxT.sm {tops box : List Nat} (ht : TopsK tops) (h : BoxT tops box) : ∀ m ∈ box, m < 1024 := fun m hm => by
  obtain ⟨k, hk, rfl⟩ := List.mem_iff_getElem.mp hm
  have hk2 : k < tops.length := by rw [← h.1]; exact hk
  have h1 := h.2 k _ _ (List.getElem?_eq_getElem hk2) (List.getElem?_eq_getElem hk)
  have h2 := (ht.2.1 _ (List.getElem_mem hk2)).2
  exact Nat.lt_of_lt_of_le h1 (Nat.pow_le_pow_right (n := 2) (by decide) (show tops[k] + 1 ≤ 10 by omega))
theorem BoxT.ok {tops box : List Nat} (ht : TopsK tops) (h : BoxT tops box) : BoxOk box ∧ bits box ≤ 399 := by
  refine ⟨⟨by rw [h.1]; exact ht.1, h.sm ht⟩, ?_⟩
  have := bits_le_sum h
  have h1 := ht.1
  have h2 := ht.2.2
  omega
theorem BoxT.snoc {tops box : List Nat} {i t m : Nat} (h : BoxT (tops.take i) box) (hi : tops[i]? = some t) (hm : m < 2 ^ (t + 1)) : BoxT (tops.take (i + 1)) (box ++ [m]) := by
  have hi2 := (List.getElem?_eq_some_iff.mp hi).1
  have hl : box.length = i := by rw [h.1, List.length_take]; omega
  have ht : tops.take (i + 1) = tops.take i ++ [t] := by rw [List.take_succ, hi]; rfl
  refine ⟨by rw [ht, List.length_append, List.length_append, h.1]; rfl, fun k t' m' h1 h2 => ?_⟩
  rw [ht] at h1
  by_cases hk : k < i
  · rw [List.getElem?_append_left (by rw [List.length_take]; omega)] at h1
    rw [List.getElem?_append_left (by omega)] at h2
    exact h.2 k t' m' h1 h2
  · have h3 := (List.getElem?_eq_some_iff.mp h2).1
    rw [List.length_append, List.length_singleton] at h3
    have e : k = i := by omega
    subst e
    rw [List.getElem?_append_right (by rw [List.length_take]; omega), List.length_take, show k - min k tops.length = 0 by omega] at h1
    rw [List.getElem?_append_right (by omega), hl, Nat.sub_self] at h2
    cases h1; cases h2; exact hm
theorem BoxT.set {tops box : List Nat} {j m : Nat} (h : BoxT tops box) (hm : ∀ t, tops[j]? = some t → m < 2 ^ (t + 1)) : BoxT tops (box.set j m) := by
  refine ⟨by rw [List.length_set]; exact h.1, fun k t m' h1 h2 => ?_⟩
  rw [List.getElem?_set] at h2
  split at h2
  · rename_i e
    subst e
    split at h2
    · cases h2; exact hm t h1
    · cases h2
  · exact h.2 k t m' h1 h2
theorem res_plain {n : Nat} {res : Option (List Nat)} (hl : ∀ C, res = some C → C.length ≤ 1000) : plainN 3 (resD res) := by
  have sz : sizeLine = 2 ^ 24 := rfl
  cases res with
  | none => exact Nat.succ_pos _
  | some C =>
    refine ⟨by rw [natD_len]; have := hl C rfl; omega, fun x hx => ?_⟩
    obtain ⟨v, _, rfl⟩ := List.mem_map.mp hx
    exact Nat.succ_pos _
theorem cutD_sts (l : List (List Nat)) (lo hi : Option Int) : ∃ r : List (List Nat), LB.cutD (stsD l) lo hi = stsD r ∧ r.length ≤ l.length ∧ ∀ x ∈ r, x ∈ l := by
  unfold stsD
  rw [cutD_map]
  exact ⟨_, rfl, by rw [List.length_take, List.length_drop]; omega, fun x hx => List.mem_of_mem_drop (List.mem_of_mem_take hx)⟩
theorem bit_small {m v : Nat} (hm : m < 1024) (h : m.testBit v = true) : v < 10 := by
  refine Decidable.byContradiction fun z => ?_
  rw [Nat.testBit_lt_two_pow (Nat.lt_of_lt_of_le hm (Nat.pow_le_pow_right (n := 2) (by decide) (show 10 ≤ v by omega)))] at h
  cases h
theorem InBox.small {box s : List Nat} (hb : ∀ m ∈ box, m < 1024) (h : InBox box s) : ∀ v ∈ s, v < 10 := fun v hv => by
  obtain ⟨k, hk, rfl⟩ := List.mem_iff_getElem.mp hv
  have hk2 : k < box.length := by rw [← h.1]; exact hk
  have h1 := h.2 k hk2
  rw [List.getD_eq_getElem?_getD, List.getD_eq_getElem?_getD, List.getElem?_eq_getElem hk, List.getElem?_eq_getElem hk2] at h1
  exact bit_small (hb _ (List.getElem_mem hk2)) h1
theorem point_ok {s : List Nat} (hl : s.length ≤ 90) (h : ∀ v ∈ s, v < 10) : BoxOk (pointO s) := by
  refine ⟨by unfold pointO; rw [List.length_map]; exact hl, fun m hm => ?_⟩
  obtain ⟨v, hv, rfl⟩ := List.mem_map.mp hm
  exact Nat.pow_lt_pow_right (a := 2) (by decide) (show v < 10 from h v hv)
theorem pointO_len (s : List Nat) : (pointO s).length = s.length := List.length_map ..
theorem gr_plain {bx : List Nat} {rs : List Row} {res : Option (List Nat)} (hb : bx.length ≤ 90) (hg : Gr rs bx res) : plainN 3 (resD res) := res_plain (n := 0) fun C hC => by
  subst hC
  rw [hg.1]; omega

/-- from: for pair in row: -/
def w_loose_pair_1 : WS := (wSeq (wFor (wSq (wVar 0)) (gNm 4)
    (wIfS (wTst (wOp gNe (wOp gAnd (wOp gIx (wVar 1) (wOp gIx (wVar 4) (wC (.int 0)))) (wUn (fun i => Builtin.bitNot i) (wOp gIx (wVar 4) (wC (.int 1))))) (wC (.int 0))))
    (wSeq (wAug 2 gIAdd (wC (.int 1)))
    (wSeq (wSet 3 (wVar 4))
    (wIfS (wTst (wOp gEq (wVar 2) (wC (.int 2))))
    (wRet (wTup (wCons (wVar 2) (wCons (wVar 3) wNil))))
    wNext)))
    wNext))
    (wRet (wTup (wCons (wVar 2) (wCons (wVar 3) wNil)))))
/-- loose_pair(row, masks) -/
@[reducible] def w_loose_pair : WS := (wSeq (wSet 2 (wC (.int 0)))
    (wSeq (wSet 3 (wC .none))
    w_loose_pair_1))
theorem hw_loose_pair : ∀ xs as k kx, S_loose_pair xs k kx → as.length = nM [.v, .r] → w_loose_pair (wdV [.v, .r] as k (fun _ _ => False)) (ent [.v, .r] xs as 5) := by
  rintro xs as k kx ⟨r, ms, rfl, ⟨hr1, hr2⟩, hk⟩ ha
  have := as0 ha
  subst this
  have sz : sizeLine = 2 ^ 24 := rfl
  walk_at "g"
  refine ForP.lst (l := r) (enc := fun p : Nat × Nat => PyData.tuple [.int ((p.1 : Nat) : Int), .int ((p.2 : Nat) : Int)]) (fun i ρ => ∃ e4, (loose ms (r.take i) = [] ∧ ρ = [.val (rowD r), .rd (.list (natD ms)), .val (.int 0), .val .none, e4]) ∨ ∃ p, loose ms (r.take i) = [p] ∧ ρ = [.val (rowD r), .rd (.list (natD ms)), .val (.int 1), .val (.tuple [.int ((p.1 : Nat) : Int), .int ((p.2 : Nat) : Int)]), e4]) ⟨_, .inl ⟨rfl, rfl⟩⟩ (fun i p ρ2 hi hp => ?_) fun ρ2 hp => ?_
  · have hpm := List.mem_of_getElem? hi
    obtain ⟨q1, q2⟩ := hr2 p hpm
    have hat : ms[p.1]? = some (ms.getD p.1 0) := by rw [List.getD_eq_getElem?_getD, List.getElem?_eq_getElem q1]; rfl
    have htk : loose ms (r.take (i + 1)) = loose ms (r.take i) ++ (if looseB ms p = true then [p] else []) := by
      unfold loose
      rw [List.take_succ, hi, List.filter_append]
      congr 1
      cases hb : looseB ms p <;> simp [List.filter_cons, hb]
    have htst : (!PyData.eqv (.int (Builtin.bitAnd ((ms.getD p.1 0 : Nat) : Int) (Builtin.bitNot ((p.2 : Nat) : Int)))) (.int 0)) = looseB ms p := by
      rw [bitAndNot, show (0 : Int) = ((0 : Nat) : Int) from rfl, eqv_nat]
      unfold looseB
      rw [← decide_not, decide_eq_decide]
      exact del_zero
    obtain ⟨e4, ⟨hl, rfl⟩ | ⟨p0, hl, rfl⟩⟩ := hp
    · walk_at "g"
      refine ⟨_, natD_at hat, ?_⟩
      walk_at "g"
      dsimp only []
      rw [htst]
      refine itB (fun h => ?_) (fun h => ?_)
      · rw [h, if_pos rfl, hl] at htk
        walk_at "g"
        exact ⟨_, .inr ⟨p, htk, rfl⟩⟩
      · rw [h, if_neg (by decide), hl] at htk
        exact ⟨_, .inl ⟨htk, rfl⟩⟩
    · walk_at "g"
      refine ⟨_, natD_at hat, ?_⟩
      walk_at "g"
      dsimp only []
      rw [htst]
      refine itB (fun h => ?_) (fun h => ?_)
      · rw [h, if_pos rfl, hl] at htk
        walk_at "g"
        walk_at "e"
        have e : loose ms r = p0 :: p :: loose ms (r.drop (i + 1)) := by
          have e1 : loose ms r = loose ms (r.take (i + 1)) ++ loose ms (r.drop (i + 1)) := by
            unfold loose
            rw [← List.filter_append, List.take_append_drop]
          rw [e1, htk]; rfl
        rw [e] at hk
        exact hk
      · rw [h, if_neg (by decide), hl] at htk
        exact ⟨_, .inr ⟨p0, htk, rfl⟩⟩
  obtain ⟨e4, ⟨hl, rfl⟩ | ⟨p0, hl, rfl⟩⟩ := hp
  · rw [List.take_length] at hl
    rw [hl] at hk
    walk_at "g"
    walk_at "e"
    exact hk
  · rw [List.take_length] at hl
    rw [hl] at hk
    walk_at "g"
    walk_at "e"
    exact hk
/-- from: if many == 1 and masks[pair[0]] & pair[1] != 0: -/
def w_narrowed_1 : WS := (wIfS (wAnd (wTst (wOp gEq (wVar 5) (wC (.int 1)))) (wTst (wOp gNe (wOp gAnd (wOp gIx (wVar 2) (wOp gIx (wVar 6) (wC (.int 0)))) (wOp gIx (wVar 6) (wC (.int 1)))) (wC (.int 0)))))
    (wSeq (wItem 2 (wOp gAnd (wOp gIx (wVar 2) (wOp gIx (wVar 6) (wC (.int 0)))) (wUn (fun i => Builtin.bitNot i) (wOp gIx (wVar 6) (wC (.int 1))))) (wOp gIx (wVar 6) (wC (.int 0))))
    (wSet 3 (wC (.bool true))))
    wNext)
/-- from: for row in rows: -/
def w_narrowed_2 : WS := (wFor (wSq (wVar 0)) (gNm 4)
    (wSeq (wUnp (wCall0 [.v, .r] S_loose_pair (wCons (wVar 4) (wCons (wVar 2) wNil))) (gTp (gsCons (gNm 5) (gsCons (gNm 6) gsNil)) 2))
    (wSeq (wIfS (wTst (wOp gEq (wVar 5) (wC (.int 0))))
    (wRet (wC .none))
    wNext)
    w_narrowed_1)))
/-- from: is_changed = True -/
def w_narrowed_3 : WS := (wSeq (wSet 3 (wC (.bool true)))
    (wSeq (wWhile (wTst (wVar 3))
    (wSeq (wSet 3 (wC (.bool false)))
    w_narrowed_2))
    (wRet (wCB gTuple (wCons (wVar 2) wNil)))))
/-- narrowed(rows, box) -/
@[reducible] def w_narrowed : WS := (wSeq (wSetN 2 (wCBN gList (wCons (wVar 1) wNil)))
    w_narrowed_3)
theorem hw_narrowed : ∀ xs as k kx, S_narrowed xs k kx → as.length = nM [.v, .v] → w_narrowed (wdV [.v, .v] as k (fun _ _ => False)) (ent [.v, .v] xs as 7) := by
  rintro xs as k kx ⟨rs, box, rfl, hrs, hb, hk⟩ ha
  have := as0 ha
  subst this
  have sz : sizeLine = 2 ^ 24 := rfl
  have lrs := rowsD_len rs
  have hrl := hrs.1
  have hbl := hb.1
  walk_at "g"
  intro q
  walk_at "g"
  refine ⟨⟨fun ρ => ∃ ms b e4 e5 e6, ρ = [.val (.tuple (rowsD rs)), .val (.tuple (natD box)), .own q (.list (natD ms)), .val (.bool b), e4, e5, e6] ∧ OnWay rs box ms ∧ (b = false → Clo rs ms), muW, ⟨box, true, _, _, _, rfl, .start hb.2, fun z => by cases z⟩, fun ρ1 hp => ?_⟩⟩
  obtain ⟨ms, b, e4, e5, e6, rfl, how, hcl⟩ := hp
  cases b with
  | false =>
    walk_at "g"
    walk_at "e"
    exact hk (some ms) (how.done (hcl rfl))
  | true =>
    walk_at "g"
    refine ForP.lst (l := rs) (enc := rowD) (fun i ρ => ∃ ms' b' e4 e5 e6, ρ = [.val (.tuple (rowsD rs)), .val (.tuple (natD box)), .own q (.list (natD ms')), .val (.bool b'), e4, e5, e6] ∧ OnWay rs box ms' ∧ (b' = false → ms' = ms ∧ ∀ r ∈ rs.take i, Quiet ms r) ∧ (b' = true → bits ms' + 1 ≤ bits ms)) ⟨ms, false, _, _, _, rfl, how, fun _ => ⟨rfl, by simp⟩, fun z => by cases z⟩ (fun i r ρ2 hi hp => ?_) fun ρ2 hp => ?_
    · obtain ⟨ms', b', e4, e5, e6, rfl, how', hq1, hq2⟩ := hp
      have hrm := List.mem_of_getElem? hi
      have hro0 := hrs.2 r hrm
      have hro : RowOk ms'.length r := by rw [how'.len]; exact hro0
      have htk : rs.take (i + 1) = rs.take i ++ [r] := by rw [List.take_succ, hi]; rfl
      have next : Quiet ms' r → ∀ (e5 e6 : En), ∃ ms'' b'' e4' e5' e6', ([.val (.tuple (rowsD rs)), .val (.tuple (natD box)), .own q (.list (natD ms')), .val (.bool b'), .val (rowD r), e5, e6] : List En) = [.val (.tuple (rowsD rs)), .val (.tuple (natD box)), .own q (.list (natD ms'')), .val (.bool b''), e4', e5', e6'] ∧ OnWay rs box ms'' ∧ (b'' = false → ms'' = ms ∧ ∀ r ∈ rs.take (i + 1), Quiet ms r) ∧ (b'' = true → bits ms'' + 1 ≤ bits ms) := fun hq e5 e6 => by
        refine ⟨ms', b', _, _, _, rfl, how', fun z => ⟨(hq1 z).1, fun x hx => ?_⟩, hq2⟩
        rw [htk] at hx
        rcases List.mem_append.mp hx with y | y
        · exact (hq1 z).2 x y
        · rw [List.mem_singleton.mp y, ← (hq1 z).1]; exact hq
      walk_at "g"
      rcases hL : loose ms' r with _ | ⟨p, _ | ⟨p2, rest⟩⟩
      · walk_at "g"
        walk_at "e"
        exact hk none (how'.dead hrm hL)
      · have hpm : p ∈ r := by
          have : p ∈ loose ms' r := by rw [hL]; exact List.mem_singleton.mpr rfl
          exact (List.mem_filter.mp this).1
        obtain ⟨q1, q2⟩ := hro.2 p hpm
        have hat : ms'[p.1]? = some (ms'.getD p.1 0) := by rw [List.getD_eq_getElem?_getD, List.getElem?_eq_getElem q1]; rfl
        walk_at "g"
        refine ⟨_, natD_at hat, ?_⟩
        walk_at "g"
        dsimp only []
        rw [and_ne0]
        have hle : bits ms' ≤ bits ms := by
          cases b' with
          | false => rw [(hq1 rfl).1]; exact Nat.le_refl _
          | true => have := hq2 rfl; omega
        refine itD (fun h => ?_) (fun h => ?_)
        · have hbd := bits_del q1 h
          walk_at "g"
          refine ⟨_, natD_at hat, ?_⟩
          walk_at "g"
          refine ⟨_, _, _, _, _, rfl, rfl, rfl, ixN_of (by rw [natD_len]; exact q1), ?_⟩
          rw [show (natD ms').set p.1 (PyData.int (Builtin.bitAnd ((ms'.getD p.1 0 : Nat) : Int) (Builtin.bitNot ((p.2 : Nat) : Int)))) = natD (delAt ms' p) by rw [bitAndNot]; unfold natD delAt; rw [List.map_set]]
          walk_at "g"
          exact ⟨delAt ms' p, true, _, _, _, rfl, how'.step hrm (by rw [← how'.len]; exact q1) hL, (fun z => by cases z), fun _ => by omega⟩
        · exact next ⟨by rw [hL]; simp, fun x hx => by rw [hL] at hx; cases hx; exact Classical.not_not.mp h⟩ _ _
      · walk_at "g"
        exact next ⟨by rw [hL]; simp, fun x hx => by rw [hL] at hx; cases hx⟩ _ _
    · obtain ⟨ms', b', e4, e5, e6, rfl, how', hq1, hq2⟩ := hp
      rw [List.take_length] at hq1
      cases b' with
      | false =>
        obtain ⟨rfl, hq⟩ := hq1 rfl
        exact ⟨⟨ms', false, _, _, _, rfl, how', fun _ => hq⟩, Nat.succ_pos _⟩
      | true =>
        refine ⟨⟨ms', true, _, _, _, rfl, how', fun z => by cases z⟩, ?_⟩
        have := hq2 rfl
        show bits ((natD ms').map natOf) + 1 < bits ((natD ms).map natOf) + 1
        rw [natOf_natD, natOf_natD]; omega
/-- from: d[3] = int(d[3] * 48271 + int(size) % 2147483629 * 16807 + d[1] * 69621 + 11) % 2147483647 -/
def w__law_draw_1 : WS := (wSeq (wItem 0 (wOp gMod (wCB gInt (wCons (wOp gAddA (wOp gAddA (wOp gAddA (wOp gMul (wOp gIx (wVar 0) (wC (.int 3))) (wC (.int 48271))) (wOp gMul (wOp gMod (wCB gInt (wCons (wVar 3) wNil)) (wC (.int 2147483629))) (wC (.int 16807)))) (wOp gMul (wOp gIx (wVar 0) (wC (.int 1))) (wC (.int 69621)))) (wC (.int 11))) wNil)) (wC (.int 2147483647))) (wC (.int 3)))
    (wRet (wOp gMod (wCB gInt (wCons (wOp gFdiv (wOp gIx (wVar 0) (wC (.int 3))) (wC (.int 16))) wNil)) (wVar 1))))
/-- from: if size >= 2 * 10 ** 18: -/
def w__law_draw_2 : WS := (wSeq (wIfS (wTst (wOp gGe (wVar 3) (wOp gMul (wC (.int 2)) (wOp gPow (wC (.int 10)) (wC (.int 18))))))
    (wSeq (wSet 2 (wOp gMod (wCB gInt (wCons (wOp gFdiv (wVar 3) (wC (.int 2))) wNil)) (wOp gShl (wC (.int 1)) (wC (.int 6000)))))
    (wSeq (wItem 0 (wOp gFdiv (wVar 2) (wVar 1)) (wC (.int 2)))
    (wRet (wOp gMod (wCB gInt (wCons (wVar 2) wNil)) (wVar 1)))))
    wNext)
    w__law_draw_1)
/-- from: if d[1] < len(d[0]): -/
def w__law_draw_3 : WS := (wSeq (wIfS (wTst (wOp gLt (wOp gIx (wVar 0) (wC (.int 1))) (wCB gLen (wCons (wOp gIx (wVar 0) (wC (.int 0))) wNil))))
    (wSeq (wSet 4 (wOp gIx (wOp gIx (wVar 0) (wC (.int 0))) (wOp gIx (wVar 0) (wC (.int 1)))))
    (wSet 3 (wOp gAddA (wOp gMul (wC (.int 2)) (wCB gAbs (wCons (wVar 4) wNil))) (wCB gInt (wCons (wOp gLt (wVar 4) (wC (.int 0))) wNil)))))
    wNext)
    (wSeq (wAugItem 0 gIAdd (wC (.int 1)) (wC (.int 1)))
    w__law_draw_2))
/-- _law_draw(d, many) -/
@[reducible] def w__law_draw : WS := (wSeq (wIfS (wTst (wOp gGt (wOp gIx (wVar 0) (wC (.int 2))) (wC (.int 0))))
    (wSeq (wSet 2 (wOp gIx (wVar 0) (wC (.int 2))))
    (wSeq (wItem 0 (wOp gFdiv (wVar 2) (wVar 1)) (wC (.int 2)))
    (wRet (wOp gMod (wCB gInt (wCons (wVar 2) wNil)) (wVar 1)))))
    wNext)
    (wSeq (wSet 3 (wC (.int 0)))
    w__law_draw_3))
theorem hw__law_draw : ∀ xs as k kx, S__law_draw xs k kx → as.length = nM [.m, .v] → w__law_draw (wdV [.m, .v] as k (fun _ _ => False)) (ent [.m, .v] xs as 5) := by
  rintro xs as k kx ⟨d, m, rfl, hd, hm, hm2, hk⟩ ha
  obtain ⟨a, rfl⟩ := as1 ha
  obtain ⟨ns, i, left, seed, rfl, h1, h2, h3⟩ := hd
  have hd : ∀ x : Int, CDivW x m := fun x => ⟨hm, by
    have : m.natAbs < 2 ^ 31 := by omega
    have := log2_lt this (by decide)
    omega⟩
  have out : ∀ (x l s : Int) (j : Int), 0 ≤ j → 0 ≤ l → 0 ≤ s → k (.int (x % m)) [.list [.list (ns.map .int), .int j, .int l, .int s]] := fun x l s j hj hl hs =>
    hk _ _ (Int.emod_nonneg _ (by omega)) (Int.emod_lt_of_pos _ hm) ⟨_, _, _, _, rfl, hj, hl, hs⟩
  walk_at "r"
  refine itD (fun h => ?_) (fun h => ?_)
  · walk_at "r"
    refine And.intro (hd _) ?_
    refine ⟨⟨_, rfl⟩, ?_⟩
    refine ⟨_, _, _, _, _, rfl, rfl, rfl, rfl, ?_⟩
    walk_at "r"
    refine ⟨_, _, _, rfl, ⟨_, _, rfl, rfl, rfl, rfl⟩, out _ _ _ _ h1 (Int.ediv_nonneg h2 (by omega)) h3⟩
  refine cut3 (fun ρ => ∃ (s : Int) (e : En), 0 ≤ s ∧ ρ = [.io a (.list [.list (ns.map .int), .int i, .int left, .int seed]), .val (.int m), .no, .val (.int s), e]) ?_ fun U key => ?_
  · rintro ρ ⟨s, e, hs, rfl⟩
    refine ⟨⟨_, rfl⟩, ?_⟩
    refine ⟨_, _, _, rfl, rfl, by omega, by omega, rfl, ?_⟩
    refine ⟨_, rfl, _, rfl, by show (1 : Int) < 4; decide, ?_⟩
    walk_at "r"
    refine itD (fun h => ?_) (fun h => ?_)
    · walk_at "r"
      refine And.intro (pow_pos' _) ?_
      walk_at "r"
      refine And.intro (hd _) ?_
      refine ⟨⟨_, rfl⟩, ?_⟩
      refine ⟨_, _, _, _, _, rfl, rfl, rfl, rfl, ?_⟩
      walk_at "r"
      refine ⟨_, _, _, rfl, ⟨_, _, rfl, rfl, rfl, rfl⟩, out _ _ _ _ (by omega) (Int.ediv_nonneg (Int.emod_nonneg _ (Int.ne_of_gt (pow_pos' _))) (by omega)) h3⟩
    · walk_at "r"
      refine ⟨⟨_, rfl⟩, ?_⟩
      refine ⟨_, _, _, _, _, rfl, rfl, rfl, rfl, ?_⟩
      walk_at "r"
      refine ⟨_, _, _, rfl, ⟨_, _, rfl, rfl, rfl, rfl⟩, out _ _ _ _ (by omega) h2 (Int.emod_nonneg _ (by decide))⟩
  · walk_at "r"
    refine itD (fun h => ?_) (fun h => ?_)
    · obtain ⟨j, rfl⟩ := Int.eq_ofNat_of_zero_le h1
      have hj : j < ns.length := by rw [List.length_map] at h; omega
      walk_at "r"
      refine ⟨.int ns[j], atI_nat (by rw [List.getElem?_map, List.getElem?_eq_getElem hj]; rfl), ?_⟩
      walk_at "r"
      refine key _ ⟨_, _, ?_, rfl⟩
      split <;> split <;> simp_all <;> omega
    · exact key _ ⟨0, .no, by omega, rfl⟩
/-- _law_pick(d, row) -/
@[reducible] def w__law_pick : WS := (wRet (wOp gIx (wVar 1) (wCall0 [.m, .v] S__law_draw (wCons (wVar 0) (wCons (wCB gLen (wCons (wVar 1) wNil)) wNil)))))
theorem hw__law_pick : ∀ xs as k kx, S__law_pick xs k kx → as.length = nM [.m, .r] → w__law_pick (wdV [.m, .r] as k (fun _ _ => False)) (ent [.m, .r] xs as 2) := by
  rintro xs as k kx ⟨d, row, ys, rfl, hd, hrow, hne, hlt, hk⟩ ha
  obtain ⟨a, rfl⟩ := as1 ha
  have hlen : 0 < ys.length := List.length_pos_iff.mpr hne
  have fin : ∀ (r : Int) (d' : PyData), 0 ≤ r → r < (ys.length : Nat) → DOk d' → ∃ y, atI ys r = some y ∧ k y [d'] := fun r d' h1 h2 hd' => by
    obtain ⟨j, rfl⟩ := Int.eq_ofNat_of_zero_le h1
    have hj : j < ys.length := by omega
    exact ⟨ys[j], atI_nat (List.getElem?_eq_getElem hj), hk _ (List.getElem_mem hj) _ hd'⟩
  cases hrow with
  | l =>
    walk_at "1"
    refine ⟨_, _, _, rfl, rfl, rfl, _, _, rfl, hd, by omega, by omega, fun r d' h1 h2 hd' => ?_⟩
    obtain ⟨y, hy, hky⟩ := fin r d' h1 h2 hd'
    walk_at "2"
    refine ⟨y, hy, ?_⟩
    exact ⟨_, _, _, rfl, ⟨_, _, rfl, rfl, rfl, rfl⟩, hky⟩
  | t =>
    walk_at "1"
    refine ⟨_, _, _, rfl, rfl, rfl, _, _, rfl, hd, by omega, by omega, fun r d' h1 h2 hd' => ?_⟩
    obtain ⟨y, hy, hky⟩ := fin r d' h1 h2 hd'
    walk_at "2"
    refine ⟨y, hy, ?_⟩
    exact ⟨_, _, _, rfl, ⟨_, _, rfl, rfl, rfl, rfl⟩, hky⟩
  | s z hz =>
    have lz : (LB.signs z).length = z.length := by simp [LB.signs, Str.length]
    rw [lz] at hlen hlt fin
    walk_at "1"
    refine And.intro hz ?_
    refine ⟨_, _, _, rfl, rfl, rfl, _, _, rfl, hd, by omega, by omega, fun r d' h1 h2 hd' => ?_⟩
    obtain ⟨y, hy, hky⟩ := fin r d' h1 h2 hd'
    walk_at "2"
    have hy2 : ∃ c, atI z.cps.toList r = some c ∧ y = .str ⟨#[c]⟩ := by
      unfold LB.signs at hy
      unfold atI at hy ⊢
      simp only [List.length_map] at hy
      cases q : ixN z.cps.toList.length r with
      | none => rw [q] at hy; cases hy
      | some j =>
        rw [q] at hy
        simp only [Option.bind_some] at hy ⊢
        obtain ⟨c, h3, h4⟩ := map_get hy
        exact ⟨c, h3, h4⟩
    obtain ⟨c, hc, rfl⟩ := hy2
    refine ⟨c, hz, hc, ?_⟩
    exact ⟨_, _, _, rfl, ⟨_, _, rfl, rfl, rfl, rfl⟩, hky⟩
/-- _law_pop(d, row) -/
@[reducible] def w__law_pop : WS := (wRet (wMut 1 gPop (wCons (wCall0 [.m, .v] S__law_draw (wCons (wVar 0) (wCons (wCB gLen (wCons (wVar 1) wNil)) wNil))) wNil)))
theorem hw__law_pop : ∀ xs as k kx, S__law_pop xs k kx → as.length = nM [.m, .m] → w__law_pop (wdV [.m, .m] as k (fun _ _ => False)) (ent [.m, .m] xs as 2) := by
  rintro xs as k kx ⟨d, ys, rfl, hd, hne, hlt, hk⟩ ha
  obtain ⟨a, b, rfl⟩ := as2 ha
  have hlen : 0 < ys.length := List.length_pos_iff.mpr hne
  refine ⟨⟨_, rfl⟩, ?_⟩
  walk_at "1"
  refine ⟨_, _, _, rfl, rfl, rfl, _, _, rfl, hd, by omega, by omega, fun r d' h1 h2 hd' => ?_⟩
  obtain ⟨j, rfl⟩ := Int.eq_ofNat_of_zero_le h1
  have hj : j < ys.length := by omega
  refine ⟨_, _, _, rfl, rfl, by omega, ys[j], j, ixN_of hj, List.getElem?_eq_getElem hj, ?_⟩
  exact ⟨_, _, _, rfl, ⟨_, _, rfl, rfl, _, _, rfl, rfl, rfl, rfl⟩, hk _ _ (List.getElem?_eq_getElem hj) _ hd'⟩
/-- _law_is_int(thing) -/
@[reducible] def w__law_is_int : WS := (wRet (wAndV (wIsi isIntD (wVar 0)) (wNotV (wIsi isBoolD (wVar 0)))))
theorem hw__law_is_int : ∀ xs as k kx, S__law_is_int xs k kx → as.length = nM [.v] → w__law_is_int (wdV [.v] as k (fun _ _ => False)) (ent [.v] xs as 1) := by
  rintro xs as k kx ⟨d, rfl, hk⟩ ha
  have := as0 ha
  subst this
  cases d <;> (walk_at "r"; walk_at "e"; exact hk)
/-- from: if isinstance(one, bool) or one is None or isinstance(one, str): -/
def w__law_same_1 (n : Nat) : WS := (wSeq (wIfS (wOr (wTst (wIsi isBoolD (wVar 0))) (wOr (wTst (wOp gIsA (wVar 0) (wC .none))) (wTst (wIsi isStrD (wVar 0)))))
    (wRet (wAndV (wOp gEq (wIsi isBoolD (wVar 0)) (wIsi isBoolD (wVar 1))) (wOp gEq (wVar 0) (wVar 1))))
    wNext)
    (wRet (wAndV (wCall0 [.v] S__law_is_int (wCons (wVar 0) wNil)) (wAndV (wCall0 [.v] S__law_is_int (wCons (wVar 1) wNil)) (wOp gEq (wVar 0) (wVar 1))))))
/-- from: return len([k for k in range(len(one)) if not _law_same(one[k], other[k])]) == 0 -/
def w__law_same_2 (n : Nat) : WS := (wRet (wOp gEq (wCB gLen (wCons (wOf (wLc [2] (wRg1 (wCons (wCB gLen (wCons (wVar 0) wNil)) wNil)) (gNm 2) (wNot (wTst (wCall0 [.v, .v] (S__law_same n) (wCons (wOp gIx (wVar 0) (wVar 2)) (wCons (wOp gIx (wVar 1) (wVar 2)) wNil))))) (wVar 2))) wNil)) (wC (.int 0))))
/-- _law_same(one, other) -/
@[reducible] def w__law_same (n : Nat) : WS := (wSeq (wIfS (wTst (wIsi isTupD (wVar 0)))
    (wSeq (wIfS (wOr (wNot (wTst (wIsi isTupD (wVar 1)))) (wTst (wOp gNe (wCB gLen (wCons (wVar 0) wNil)) (wCB gLen (wCons (wVar 1) wNil)))))
    (wRet (wC (.bool false)))
    wNext)
    (w__law_same_2 n))
    wNext)
    (w__law_same_1 n))
theorem hw__law_same (n : Nat) : ∀ xs as k kx, S__law_same (n + 1) xs k kx → as.length = nM [.v, .v] → w__law_same n (wdV [.v, .v] as k (fun _ _ => False)) (ent [.v, .v] xs as 3) := by
  rintro xs as k kx ⟨d, rfl, hp, hk⟩ ha
  have := as0 ha
  subst this
  have eqI : ∀ i : Int, PyData.eqv (.int i) (.int i) = true := fun i => by simp [PyData.eqv]
  cases d with
  | tuple ds =>
    obtain ⟨hl, hx⟩ := hp
    have hl' : ds.length < 2 ^ 62 := by
      have : sizeLine = 2 ^ 24 := rfl
      omega
    walk_at "r"
    refine And.intro (.inl rfl) ?_
    walk_at "1"
    refine itF (by rw [eqI]; rfl) ?_
    walk_at "1"
    refine ⟨_, rfl, ⟨by omega, by omega⟩, ?_⟩
    refine LcP.inv (fun i acc ρ => acc = [] ∧ ρ = [.val (.tuple ds), .val (.tuple ds), .no]) ⟨rfl, rfl⟩ ?_ ?_
    · rintro i d acc ρ2 hi ⟨rfl, rfl⟩
      have hi2 : i < ds.length := by
        have := (List.getElem?_eq_some_iff.mp hi).1
        simpa [Src.items, rgD_len] using this
      have hd : some (PyData.int (0 + (i : Nat))) = some d := by rw [← hi]; exact (rgD_get (by simpa using hi2)).symm
      cases hd
      rw [Int.zero_add]
      walk_at "2"
      refine ⟨ds[i], atI_nat (List.getElem?_eq_getElem hi2), ?_⟩
      walk_at "2"
      refine ⟨ds[i], atI_nat (List.getElem?_eq_getElem hi2), ?_⟩
      refine ⟨_, _, _, rfl, rfl, rfl, _, rfl, hx _ (List.getElem_mem hi2), ?_⟩
      exact ⟨_, rfl, itF rfl ⟨rfl, rfl⟩⟩
    · rintro acc ρ2 ⟨rfl, rfl⟩
      walk_at "r"
      refine And.intro (.inl rfl) ?_
      walk_at "e"
      exact hk
  | int i =>
    walk_at "r"
    refine ⟨_, _, _, rfl, rfl, rfl, _, rfl, ?_⟩
    walk_at "r"
    refine ⟨_, _, _, rfl, rfl, rfl, _, rfl, ?_⟩
    walk_at "r"
    refine And.intro (.inl rfl) ?_
    walk_at "e"
    rw [eqI]
    exact hk
  | none =>
    walk_at "r"
    refine And.intro (.inl rfl) ?_
    walk_at "r"
    refine And.intro (.inl rfl) ?_
    walk_at "e"
    exact hk
  | bool b =>
    walk_at "r"
    refine And.intro (.inl rfl) ?_
    walk_at "r"
    refine And.intro (.inl rfl) ?_
    walk_at "e"
    have e : PyData.eqv (.bool b) (.bool b) = true := by simp [PyData.eqv]
    rw [e]
    exact hk
  | str b =>
    walk_at "r"
    refine And.intro (.inl rfl) ?_
    walk_at "r"
    refine And.intro (.inl rfl) ?_
    walk_at "e"
    have e : PyData.eqv (.str b) (.str b) = true := by simp [PyData.eqv]
    rw [e]
    exact hk
  | list b => cases n <;> exact hp.elim
  | dict b => cases n <;> exact hp.elim
/-- _law_full(top) -/
@[reducible] def w__law_full : WS := (wRet (wOp gMinus (wOp gMul (wC (.int 2)) (wOp gShl (wC (.int 1)) (wVar 0))) (wC (.int 1))))
theorem hw__law_full : ∀ xs as k kx, S__law_full xs k kx → as.length = nM [.v] → w__law_full (wdV [.v] as k (fun _ _ => False)) (ent [.v] xs as 1) := by
  rintro xs as k kx ⟨t, rfl, ht, hk⟩ ha
  have := as0 ha
  subst this
  have hp : (2 : Int) ^ t ≤ 2 ^ 9 ∧ 0 < (2 : Int) ^ t := by
    rcases (show t = 0 ∨ t = 1 ∨ t = 2 ∨ t = 3 ∨ t = 4 ∨ t = 5 ∨ t = 6 ∨ t = 7 ∨ t = 8 ∨ t = 9 by omega) with h | h | h | h | h | h | h | h | h | h <;> subst h <;> decide
  have he : ((2 ^ (t + 1) - 1 : Nat) : Int) = 2 * (1 * 2 ^ t) - 1 := by
    rw [Int.natCast_sub (Nat.one_le_two_pow), Int.natCast_pow, Int.pow_succ]; simp; omega
  walk_at "g"
  refine And.intro (shl_one (by omega) (by omega)) ?_
  walk_at "g"
  walk_at "e"
  rw [he] at hk
  exact hk
/-- _law_meets(limits, state) -/
@[reducible] def w__law_meets : WS := (wRet (wOp gEq (wCB gLen (wCons (wOf (wLc [2] (wSq (wVar 0)) (gNm 2) (wTst (wOp gEq (wOp gAnd (wOp gShr (wOp gIx (wVar 2) (wC (.int 1))) (wOp gIx (wVar 1) (wOp gIx (wVar 2) (wC (.int 0))))) (wC (.int 1))) (wC (.int 0)))) (wC (.int 1)))) wNil)) (wC (.int 0))))
theorem hw__law_meets : ∀ xs as k kx, S__law_meets xs k kx → as.length = nM [.v, .v] → w__law_meets (wdV [.v, .v] as k (fun _ _ => False)) (ent [.v, .v] xs as 3) := by
  rintro xs as k kx ⟨row, ls, st, rfl, hrow, hl, hls, hk⟩ ha
  have := as0 ha
  subst this
  have sz : sizeLine = 2 ^ 24 := rfl
  have fin : decide ((ls.filter fun p => !p.2.testBit (st.getD p.1 0)).length = 0) = holdsB ls st := by
    rw [Bool.eq_iff_iff, decide_eq_true_iff, List.length_eq_zero_iff, List.filter_eq_nil_iff]
    unfold holdsB
    rw [List.all_eq_true]
    simp
  walk_at "g"
  refine ⟨_, src_row hrow, ?_⟩
  refine LcP.sel (l := ls) (fun p => !p.2.testBit (st.getD p.1 0)) (fun _ => .int 1) (by omega) (fun i p acc Pn hi hacc p1 p2 => ?_) ?_
  · have hp1 := hls p (List.mem_of_getElem? hi)
    walk_at "g"
    refine ⟨_, natD_at (List.getElem?_eq_getElem hp1), ?_⟩
    walk_at "g"
    have e : PyData.eqv (.int (Builtin.bitAnd ((p.2 : Int) / 2 ^ ((st[p.1] : Nat) : Int).toNat) 1)) (.int 0) = !p.2.testBit (st.getD p.1 0) := by
      rw [bit_test0, List.getD_eq_getElem?_getD, List.getElem?_eq_getElem hp1]; rfl
    dsimp only []
    rw [e]
    refine itB (fun h => ?_) (fun h => ?_)
    · walk_at "g"
      exact p1 h
    · exact p2 h
  walk_at "g"
  walk_at "e"
  rw [List.length_map]
  have e0 : PyData.eqv (.int (((ls.filter fun p => !p.2.testBit (st.getD p.1 0)).length : Nat) : Int)) (.int 0) = holdsB ls st := by rw [← fin, ← eqv_nat]; rfl
  rw [e0]
  exact hk
/-- from: if size * (top + 1) <= 160: -/
def w__law_tops_1 : WS := (wIfS (wTst (wOp gLe (wOp gMul (wVar 2) (wOp gAddA (wVar 4) (wC (.int 1)))) (wC (.int 160))))
    (wSeq (wSet 2 (wOp gMul (wVar 2) (wOp gAddA (wVar 4) (wC (.int 1)))))
    (wExpr (wMut 1 gAppend (wCons (wVar 4) wNil))))
    wNext)
/-- from: for k in range(_law_pick(d, [3, 2, 4, 3, 0, 5, 4, 6, 1, 2])): -/
def w__law_tops_2 : WS := (wSeq (wFor (wRg1 (wCons (wCall0 [.m, .r] S__law_pick (wCons (wVar 0) (wCons (wOf (wLst (wCons (wC (.int 3)) (wCons (wC (.int 2)) (wCons (wC (.int 4)) (wCons (wC (.int 3)) (wCons (wC (.int 0)) (wCons (wC (.int 5)) (wCons (wC (.int 4)) (wCons (wC (.int 6)) (wCons (wC (.int 1)) (wCons (wC (.int 2)) wNil)))))))))))) wNil))) wNil)) (gNm 3)
    (wSeq (wSet 4 (wOp gAddA (wC (.int 1)) (wOp gMul (wCB gInt (wCons (wOp gEq (wCall0 [.m, .v] S__law_draw (wCons (wVar 0) (wCons (wC (.int 3)) wNil))) (wC (.int 1))) wNil)) (wCall0 [.m, .v] S__law_draw (wCons (wVar 0) (wCons (wC (.int 9)) wNil))))))
    w__law_tops_1))
    (wRet (wCB gTuple (wCons (wVar 1) wNil))))
/-- _law_tops(d) -/
@[reducible] def w__law_tops : WS := (wSeq (wSetN 1 (wLst wNil))
    (wSeq (wSet 2 (wC (.int 1)))
    w__law_tops_2))
theorem hw__law_tops : ∀ xs as k kx, S__law_tops xs k kx → as.length = nM [.m] → w__law_tops (wdV [.m] as k (fun _ _ => False)) (ent [.m] xs as 5) := by
  rintro xs as k kx ⟨d, rfl, hd, hk⟩ ha
  obtain ⟨a, rfl⟩ := as1 ha
  have sz : sizeLine = 2 ^ 24 := rfl
  walk_at "g"
  intro q
  walk_at "g"
  refine ⟨_, _, _, rfl, hd, .l _, by simp, by simp, fun y hy d1 hd1 => ?_⟩
  obtain ⟨m, rfl, hm, _⟩ := pickN (l := [3, 2, 4, 3, 0, 5, 4, 6, 1, 2]) hy (M := 6) (by decide)
  walk_at "g"
  rw [Int.toNat_natCast]
  refine ForP.rng (n := m) (fun i ρ => ∃ d' tops e3 e4, ∃ size : Nat, ρ = [.io a d', .own q (.list (natD tops)), .val (.int ((size : Nat) : Int)), e3, e4] ∧ DOk d' ∧ tops.length ≤ i ∧ (∀ t ∈ tops, 1 ≤ t ∧ t ≤ 9) ∧ tops.sum ≤ 9 * i ∧ size ≤ 160) ⟨d1, [], _, _, 1, rfl, hd1, Nat.le_refl _, by simp, by simp, by omega⟩ (fun i ρ2 hi hp => ?_) fun ρ2 hp => ?_
  · obtain ⟨d2, tops, e3, e4, size, rfl, hd2, hl, ht, hs, hz⟩ := hp
    have lt := natD_len tops
    walk_at "g"
    intro r d3 r1 r2 hd3
    walk_at "g"
    intro r' d4 r1' r2' hd4
    obtain ⟨r', rfl⟩ := Int.eq_ofNat_of_zero_le r1'
    obtain ⟨b, hb, hb1⟩ : ∃ b : Nat, (if PyData.eqv (PyData.int r) (PyData.int 1) = true then (1 : Int) else 0) = ((b : Nat) : Int) ∧ b ≤ 1 := by
      split
      · exact ⟨1, rfl, Nat.le_refl _⟩
      · exact ⟨0, rfl, by omega⟩
    have hbr : b * r' ≤ 8 := Nat.le_trans (Nat.mul_le_mul hb1 (show r' ≤ 8 by omega)) (by decide)
    have hsz : size * (1 + b * r' + 1) ≤ 160 * 10 := Nat.mul_le_mul hz (by omega)
    walk_at "g"
    rw [hb]
    have htop : (1 + ((b : Nat) : Int) * ((r' : Nat) : Int)) = ((1 + b * r' : Nat) : Int) := by rw [Int.natCast_add, Int.natCast_mul]; rfl
    rw [htop]
    have hprod : ((size : Nat) : Int) * (((1 + b * r' : Nat) : Int) + 1) = ((size * (1 + b * r' + 1) : Nat) : Int) := by rw [Int.natCast_mul, Int.natCast_add (1 + b * r')]; rfl
    rw [hprod]
    generalize hTT : 1 + b * r' = tp at *
    refine itD (fun h => ?_) (fun h => ?_)
    · walk_at "g"
      rw [hprod, show natD tops ++ [PyData.int ((tp : Nat) : Int)] = natD (tops ++ [tp]) by rw [natD_app]; rfl]
      refine ⟨d4, tops ++ [tp], _, _, size * (tp + 1), rfl, hd4, by simp; omega, fun t htm => ?_, by rw [List.sum_append]; simp; omega, by omega⟩
      rcases List.mem_append.mp htm with z | z
      · exact ht t z
      · rw [List.mem_singleton.mp z]; omega
    · exact ⟨d4, tops, _, _, size, rfl, hd4, by omega, ht, by omega, hz⟩
  obtain ⟨d2, tops, e3, e4, size, rfl, hd2, hl, ht, hs, hz⟩ := hp
  walk_at "g"
  walk_at "e"
  exact hk tops d2 ⟨by omega, ht, by omega⟩ hd2
/-- from: for k in range(1 + _law_draw(d, 90)): -/
def w__law_wide_1 : WS := (wSeq (wFor (wRg1 (wCons (wOp gAddA (wC (.int 1)) (wCall0 [.m, .v] S__law_draw (wCons (wVar 0) (wCons (wC (.int 90)) wNil)))) wNil)) (gNm 3)
    (wSeq (wSet 4 (wOp gAddA (wC (.int 1)) (wCall0 [.m, .v] S__law_draw (wCons (wVar 0) (wCons (wVar 2) wNil)))))
    (wIfS (wTst (wOp gLe (wOp gAddA (wCB gSum (wCons (wVar 1) wNil)) (wVar 4)) (wC (.int 90))))
    (wExpr (wMut 1 gAppend (wCons (wVar 4) wNil)))
    wNext)))
    (wRet (wCB gTuple (wCons (wVar 1) wNil))))
/-- _law_wide(d) -/
@[reducible] def w__law_wide : WS := (wSeq (wSetN 1 (wLst wNil))
    (wSeq (wSet 2 (wOp gAddA (wC (.int 1)) (wCall0 [.m, .v] S__law_draw (wCons (wVar 0) (wCons (wC (.int 9)) wNil)))))
    w__law_wide_1))
theorem hw__law_wide : ∀ xs as k kx, S__law_wide xs k kx → as.length = nM [.m] → w__law_wide (wdV [.m] as k (fun _ _ => False)) (ent [.m] xs as 5) := by
  rintro xs as k kx ⟨d, rfl, hd, hk⟩ ha
  obtain ⟨a, rfl⟩ := as1 ha
  have sz : sizeLine = 2 ^ 24 := rfl
  walk_at "g"
  intro q
  walk_at "g"
  intro g d1 g1 g2 hd1
  obtain ⟨g, rfl⟩ := Int.eq_ofNat_of_zero_le g1
  walk_at "g"
  intro m d2 m1 m2 hd2
  obtain ⟨m, rfl⟩ := Int.eq_ofNat_of_zero_le m1
  walk_at "g"
  rw [show (1 + ((m : Nat) : Int)).toNat = m + 1 by omega]
  refine ForP.rng (n := m + 1) (fun i ρ => ∃ d' tops e3 e4, ρ = [.io a d', .own q (.list (natD tops)), .val (.int (1 + ((g : Nat) : Int))), e3, e4] ∧ DOk d' ∧ tops.length ≤ i ∧ (∀ t ∈ tops, 1 ≤ t ∧ t ≤ 9) ∧ tops.sum ≤ 90) ⟨d2, [], _, _, rfl, hd2, Nat.le_refl _, by simp, by simp⟩ (fun i ρ2 hi hp => ?_) fun ρ2 hp => ?_
  · obtain ⟨d3, tops, e3, e4, rfl, hd3, hl, ht, hs⟩ := hp
    have lt := natD_len tops
    walk_at "g"
    intro r d4 r1 r2 hd4
    obtain ⟨r, rfl⟩ := Int.eq_ofNat_of_zero_le r1
    walk_at "g"
    refine gSum_nat ?_
    walk_at "g"
    refine itD (fun h => ?_) (fun h => ?_)
    · walk_at "g"
      rw [show natD tops ++ [.int (1 + ((r : Nat) : Int))] = natD (tops ++ [1 + r]) by rw [natD_app]; show _ = _ ++ [PyData.int ((1 + r : Nat) : Int)]; rw [Int.natCast_add]; rfl]
      refine ⟨d4, tops ++ [1 + r], _, _, rfl, hd4, by simp; omega, fun t htm => ?_, by rw [List.sum_append]; simp; omega⟩
      rcases List.mem_append.mp htm with z | z
      · exact ht t z
      · rw [List.mem_singleton.mp z]; omega
    · exact ⟨d4, tops, _, _, rfl, hd4, by omega, ht, hs⟩
  obtain ⟨d3, tops, e3, e4, rfl, hd3, hl, ht, hs⟩ := hp
  walk_at "g"
  walk_at "e"
  exact hk tops d3 ⟨by omega, ht, hs⟩ hd3
/-- _law_values(mask) -/
@[reducible] def w__law_values : WS := (wRet (wOf (wLc [1] (wRg1 (wCons (wC (.int 10)) wNil)) (gNm 1) (wTst (wOp gEq (wOp gAnd (wOp gShr (wVar 0) (wVar 1)) (wC (.int 1))) (wC (.int 1)))) (wVar 1))))
theorem hw__law_values : ∀ xs as k kx, S__law_values xs k kx → as.length = nM [.v] → w__law_values (wdV [.v] as k (fun _ _ => False)) (ent [.v] xs as 2) := by
  rintro xs as k kx ⟨m, rfl, hm, hk⟩ ha
  have := as0 ha
  subst this
  have sz : sizeLine = 2 ^ 24 := rfl
  walk_at "g"
  refine LcP.rsel (n := 10) (fun v => m.testBit v) (fun v => .int ((v : Nat) : Int)) (by omega) (fun v acc Pn hv hacc q1 q2 => ?_) ?_
  · walk_at "g"
    rw [bit_test]
    refine itB (fun h => ?_) (fun h => ?_)
    · walk_at "g"
      exact q1 h
    · exact q2 h
  walk_at "g"
  walk_at "e"
  exact hk
/-- from: row.append((dial, 1 + _law_draw(d, _law_full(tops[dial]) - 1))) -/
def w__law_row_1 : WS := (wExpr (wMut 3 gAppend (wCons (wTup (wCons (wVar 5) (wCons (wOp gAddA (wC (.int 1)) (wCall0 [.m, .v] S__law_draw (wCons (wVar 0) (wCons (wOp gMinus (wCall0 [.v] S__law_full (wCons (wOp gIx (wVar 1) (wVar 5)) wNil)) (wC (.int 1))) wNil)))) wNil))) wNil)))
/-- from: for k in range(1 + _law_draw(d, min(4, len(tops)))): -/
def w__law_row_2 : WS := (wSeq (wFor (wRg1 (wCons (wOp gAddA (wC (.int 1)) (wCall0 [.m, .v] S__law_draw (wCons (wVar 0) (wCons (wCB gMin2 (wCons (wC (.int 4)) (wCons (wCB gLen (wCons (wVar 1) wNil)) wNil))) wNil)))) wNil)) (gNm 4)
    (wSeq (wSet 5 (wCall0 [.m, .m] S__law_pop (wCons (wVar 0) (wCons (wVar 2) wNil))))
    w__law_row_1))
    (wRet (wCB gTuple (wCons (wVar 3) wNil))))
/-- _law_row(d, tops) -/
@[reducible] def w__law_row : WS := (wSeq (wSetN 2 (wLstRg (wRgE1 (wCB gLen (wCons (wVar 1) wNil)))))
    (wSeq (wSetN 3 (wLst wNil))
    w__law_row_2))
theorem hw__law_row : ∀ xs as k kx, S__law_row xs k kx → as.length = nM [.m, .v] → w__law_row (wdV [.m, .v] as k (fun _ _ => False)) (ent [.m, .v] xs as 6) := by
  rintro xs as k kx ⟨d, tops, rfl, hd, ht, hne, hk⟩ ha
  obtain ⟨a, rfl⟩ := as1 ha
  have sz : sizeLine = 2 ^ 24 := rfl
  have lt := natD_len tops
  have t1 := ht.1
  have tpos : 0 < tops.length := List.length_pos_iff.mpr hne
  walk_at "g"
  intro q
  walk_at "g"
  intro q2
  walk_at "g"
  intro r d2 r1 r2 hd2
  obtain ⟨r, rfl⟩ := Int.eq_ofNat_of_zero_le r1
  have hr : r + 1 ≤ tops.length ∧ r + 1 ≤ 4 := by split at r2 <;> omega
  walk_at "g"
  rw [show (1 + ((r : Nat) : Int)).toNat = r + 1 by omega, show rgD 0 ((((natD tops).length : Nat) : Int) - 0).toNat = natD (List.range tops.length) by rw [show ((((natD tops).length : Nat) : Int) - 0).toNat = tops.length by omega, rg_natD]]
  refine ForP.rng (n := r + 1) (fun i ρ => ∃ d' free row e4 e5, ρ = [.io a d', .val (.tuple (natD tops)), .own q (.list (natD free)), .own q2 (.list (limD row)), e4, e5] ∧ DOk d' ∧ free.length + i = tops.length ∧ (∀ x ∈ free, x < tops.length) ∧ row.length = i ∧ ∀ p ∈ row, p.1 < tops.length ∧ p.2 < 1024) ⟨d2, List.range tops.length, [], _, _, rfl, hd2, by rw [List.length_range]; rfl, fun x hx => List.mem_range.mp hx, rfl, by simp⟩ (fun i ρ2 hi hp => ?_) fun ρ2 hp => ?_
  · obtain ⟨d3, free, row, e4, e5, rfl, hd3, hfl, hfo, hrl, hro⟩ := hp
    have lfr := natD_len free
    have lrw := limD_len row
    have fne : natD free ≠ [] := fun z => by rw [z, List.length_nil] at lfr; omega
    walk_at "g"
    intro j y hy d4 hd4
    obtain ⟨dial, hdl, rfl⟩ := natD_get hy
    have hdn := hfo dial (List.mem_of_getElem? hdl)
    have hj := (List.getElem?_eq_some_iff.mp hdl).1
    have htd : tops[dial]? = some tops[dial] := List.getElem?_eq_getElem hdn
    obtain ⟨h1t, h9t⟩ := ht.2.1 _ (List.mem_of_getElem? htd)
    generalize tops[dial] = top at htd h1t h9t
    obtain ⟨p4, p10⟩ := full_le h1t h9t
    rw [natD_erase]
    walk_at "g"
    refine ⟨_, natD_at htd, ?_⟩
    walk_at "g"
    intro m d5 m1 m2 hd5
    obtain ⟨m, rfl⟩ := Int.eq_ofNat_of_zero_le m1
    walk_at "g"
    rw [show limD row ++ [.tuple [.int ((dial : Nat) : Int), .int (1 + ((m : Nat) : Int))]] = limD (row ++ [(dial, 1 + m)]) by rw [limD_app]; show _ = _ ++ [PyData.tuple [_, PyData.int ((1 + m : Nat) : Int)]]; rw [Int.natCast_add]; rfl]
    refine ⟨d5, free.eraseIdx j, row ++ [(dial, 1 + m)], _, _, rfl, hd5, by rw [eraseIdx_len hj]; omega, fun x hx => hfo x (List.mem_of_mem_eraseIdx hx), by simp [hrl], fun x hx => ?_⟩
    rcases List.mem_append.mp hx with z | z
    · exact hro x z
    · rw [List.mem_singleton.mp z]; exact ⟨hdn, by show 1 + m < 1024; omega⟩
  obtain ⟨d3, free, row, e4, e5, rfl, hd3, hfl, hfo, hrl, hro⟩ := hp
  walk_at "g"
  walk_at "e"
  exact hk row d3 ⟨by omega, hro⟩ hd3
/-- from: if _law_draw(d, 3) == 1: -/
def w__law_chain_1 : WS := (wSeq (wIfS (wTst (wOp gEq (wCall0 [.m, .v] S__law_draw (wCons (wVar 0) (wCons (wC (.int 3)) wNil))) (wC (.int 1))))
    (wExpr (wMut 6 gAppend (wCons (wTup (wCons (wTup (wCons (wVar 3) (wCons (wVar 4) wNil))) wNil)) wNil)))
    wNext)
    wNext)
/-- from: rows.append(((dial, mask), (other, full - good))) -/
def w__law_chain_2 : WS := (wSeq (wExpr (wMut 6 gAppend (wCons (wTup (wCons (wTup (wCons (wVar 3) (wCons (wVar 4) wNil))) (wCons (wTup (wCons (wVar 9) (wCons (wOp gMinus (wVar 10) (wVar 11)) wNil))) wNil))) wNil)))
    (wSeq (wSet 3 (wVar 9))
    (wSet 4 (wVar 11))))
/-- from: full = _law_full(tops[other]) -/
def w__law_chain_3 : WS := (wSeq (wSet 10 (wCall0 [.v] S__law_full (wCons (wOp gIx (wVar 1) (wVar 9)) wNil)))
    (wSeq (wSet 11 (wOp gAddA (wC (.int 1)) (wCall0 [.m, .v] S__law_draw (wCons (wVar 0) (wCons (wOp gMinus (wVar 10) (wC (.int 1))) wNil)))))
    w__law_chain_2))
/-- from: for k in range(many): -/
def w__law_chain_4 : WS := (wSeq (wFor (wRg1 (wCons (wVar 7) wNil)) (gNm 8)
    (wSeq (wSet 9 (wCall0 [.m, .m] S__law_pop (wCons (wVar 0) (wCons (wVar 2) wNil))))
    w__law_chain_3))
    w__law_chain_1)
/-- from: if _law_draw(d, 3) == 1: -/
def w__law_chain_5 : WS := (wSeq (wIfS (wTst (wOp gEq (wCall0 [.m, .v] S__law_draw (wCons (wVar 0) (wCons (wC (.int 3)) wNil))) (wC (.int 1))))
    (wSet 7 (wCall0 [.m, .v] S__law_draw (wCons (wVar 0) (wCons (wOp gAddA (wCB gLen (wCons (wVar 2) wNil)) (wC (.int 1))) wNil))))
    wNext)
    w__law_chain_4)
/-- from: head = (dial, mask) -/
def w__law_chain_6 : WS := (wSeq (wSet 5 (wTup (wCons (wVar 3) (wCons (wVar 4) wNil))))
    (wSeq (wSetN 6 (wLst wNil))
    (wSeq (wSet 7 (wCB gLen (wCons (wVar 2) wNil)))
    w__law_chain_5)))
/-- from: mask = 1 + _law_draw(d, _law_full(tops[dial]) - 1) -/
def w__law_chain_7 : WS := (wSeq (wSet 4 (wOp gAddA (wC (.int 1)) (wCall0 [.m, .v] S__law_draw (wCons (wVar 0) (wCons (wOp gMinus (wCall0 [.v] S__law_full (wCons (wOp gIx (wVar 1) (wVar 3)) wNil)) (wC (.int 1))) wNil)))))
    w__law_chain_6)
/-- _law_chain(d, tops) -/
@[reducible] def w__law_chain : WS := (wSeq (wSetN 2 (wLstRg (wRgE1 (wCB gLen (wCons (wVar 1) wNil)))))
    (wSeq (wSet 3 (wCall0 [.m, .m] S__law_pop (wCons (wVar 0) (wCons (wVar 2) wNil))))
    w__law_chain_7))
theorem hw__law_chain : ∀ xs as k kx, S__law_chain xs k kx → as.length = nM [.m, .v] → w__law_chain (wdT 5 6 [.m, .v] as k) (ent [.m, .v] xs as 12) := by
  rintro xs as k kx ⟨d, tops, rfl, hd, ht, hne, hk⟩ ha
  obtain ⟨a, rfl⟩ := as1 ha
  have sz : sizeLine = 2 ^ 24 := rfl
  have lt := natD_len tops
  have t1 := ht.1
  have tpos : 0 < tops.length := List.length_pos_iff.mpr hne
  walk_at "g"
  intro q
  have erg : rgD 0 ((((natD tops).length : Nat) : Int) - 0).toNat = natD (List.range tops.length) := by rw [show ((((natD tops).length : Nat) : Int) - 0).toNat = tops.length by omega, rg_natD]
  rw [erg]
  have lrg := natD_len (List.range tops.length)
  rw [List.length_range] at lrg
  have rne : natD (List.range tops.length) ≠ [] := fun z => by rw [z, List.length_nil] at lrg; omega
  walk_at "g"
  intro j y hy d1 hd1
  obtain ⟨dial, hdl, rfl⟩ := natD_get hy
  have hdn : dial < tops.length := List.mem_range.mp (List.mem_of_getElem? hdl)
  have hj := (List.getElem?_eq_some_iff.mp hdl).1
  have htd : tops[dial]? = some tops[dial] := List.getElem?_eq_getElem hdn
  obtain ⟨h1t, h9t⟩ := ht.2.1 _ (List.mem_of_getElem? htd)
  generalize tops[dial] = top at htd h1t h9t
  obtain ⟨p4, p10⟩ := full_le h1t h9t
  rw [natD_erase]
  have hfl : ((List.range tops.length).eraseIdx j).length + 1 = tops.length := by rw [eraseIdx_len hj, List.length_range]; omega
  have hfo : ∀ x ∈ (List.range tops.length).eraseIdx j, x < tops.length := fun x hx => List.mem_range.mp (List.mem_of_mem_eraseIdx hx)
  generalize (List.range tops.length).eraseIdx j = free at hfl hfo
  have lfr := natD_len free
  walk_at "g"
  refine ⟨_, natD_at htd, ?_⟩
  walk_at "g"
  intro m d2 m1 m2 hd2
  obtain ⟨m, rfl⟩ := Int.eq_ofNat_of_zero_le m1
  walk_at "g"
  intro q6
  walk_at "g"
  rw [show (1 + ((m : Nat) : Int)) = ((1 + m : Nat) : Int) by rw [Int.natCast_add]; rfl]
  have hm1 : 1 + m < 2 ^ (top + 1) := by omega
  have hm2 : 1 + m < 1024 := by omega
  generalize 1 + m = mask0 at hm1 hm2
  intro r d3 r1 r2 hd3
  walk_at "g"
  rw [eqv_int]
  refine joinIf (fun ρ => ∃ (d' : PyData) (many : Nat), ρ = [.io a d', .val (.tuple (natD tops)), .own q (.list (natD free)), .val (.int ((dial : Nat) : Int)), .val (.int ((mask0 : Nat) : Int)), .val (.tuple [.int ((dial : Nat) : Int), .int ((mask0 : Nat) : Int)]), .own q6 (.list []), .val (.int ((many : Nat) : Int)), .no, .no, .no, .no] ∧ DOk d' ∧ many ≤ free.length) ?_ fun U key => ?_
  · rintro ρ ⟨d4, many, rfl, hd4, hmy⟩
    unfold w__law_chain_4
    walk_at "g"
    rw [Int.toNat_natCast]
    refine ForP.rng (n := many) (fun i ρ => ∃ (d' : PyData) (free' : List Nat) (rows : List Row) (dial' mask' : Nat) (e8 e9 e10 e11 : En), ρ = [.io a d', .val (.tuple (natD tops)), .own q (.list (natD free')), .val (.int ((dial' : Nat) : Int)), .val (.int ((mask' : Nat) : Int)), .val (.tuple [.int ((dial : Nat) : Int), .int ((mask0 : Nat) : Int)]), .own q6 (.list (rowsD rows)), .val (.int ((many : Nat) : Int)), e8, e9, e10, e11] ∧ DOk d' ∧ free'.length + i = free.length ∧ (∀ x ∈ free', x < tops.length) ∧ dial' < tops.length ∧ mask' < 1024 ∧ rows.length = i ∧ ∀ r ∈ rows, RowOk tops.length r) ⟨d4, free, [], dial, mask0, _, _, _, _, rfl, hd4, rfl, hfo, hdn, hm2, rfl, by simp⟩ (fun i ρ2 hi hp => ?_) fun ρ2 hp => ?_
    · obtain ⟨d5, free', rows, dial', mask', e8, e9, e10, e11, rfl, hd5, hfl', hfo', hdn', hm', hrl, hro⟩ := hp
      have lfr' := natD_len free'
      have lrw := rowsD_len rows
      have fne : natD free' ≠ [] := fun z => by rw [z, List.length_nil] at lfr'; omega
      walk_at "g"
      intro j' y hy d6 hd6
      obtain ⟨other, hol, rfl⟩ := natD_get hy
      have hon := hfo' other (List.mem_of_getElem? hol)
      have hj' := (List.getElem?_eq_some_iff.mp hol).1
      have hto : tops[other]? = some tops[other] := List.getElem?_eq_getElem hon
      obtain ⟨h1o, h9o⟩ := ht.2.1 _ (List.mem_of_getElem? hto)
      generalize tops[other] = topo at hto h1o h9o
      obtain ⟨o4, o10⟩ := full_le h1o h9o
      rw [natD_erase]
      walk_at "g"
      refine ⟨_, natD_at hto, ?_⟩
      walk_at "g"
      intro g d7 g1 g2 hd7
      obtain ⟨g, rfl⟩ := Int.eq_ofNat_of_zero_le g1
      walk_at "g"
      rw [show (((2 ^ (topo + 1) - 1 : Nat) : Int) - (1 + ((g : Nat) : Int))) = ((2 ^ (topo + 1) - 1 - (1 + g) : Nat) : Int) by omega, show (1 + ((g : Nat) : Int)) = ((1 + g : Nat) : Int) by rw [Int.natCast_add]; rfl]
      rw [show rowsD rows ++ [.tuple [.tuple [.int ((dial' : Nat) : Int), .int ((mask' : Nat) : Int)], .tuple [.int ((other : Nat) : Int), .int ((2 ^ (topo + 1) - 1 - (1 + g) : Nat) : Int)]]] = rowsD (rows ++ [[(dial', mask'), (other, 2 ^ (topo + 1) - 1 - (1 + g))]]) by rw [rowsD_app]; rfl]
      refine ⟨d7, free'.eraseIdx j', rows ++ [[(dial', mask'), (other, 2 ^ (topo + 1) - 1 - (1 + g))]], other, 1 + g, _, _, _, _, rfl, hd7, by rw [eraseIdx_len hj']; omega, fun x hx => hfo' x (List.mem_of_mem_eraseIdx hx), hon, by omega, by simp [hrl], fun x hx => ?_⟩
      rcases List.mem_append.mp hx with z | z
      · exact hro x z
      · rw [List.mem_singleton.mp z]
        refine ⟨by simp, fun p hp => ?_⟩
        simp only [List.mem_cons, List.not_mem_nil, or_false] at hp
        rcases hp with rfl | rfl
        · exact ⟨hdn', hm'⟩
        · exact ⟨hon, by show 2 ^ (topo + 1) - 1 - (1 + g) < 1024; omega⟩
    obtain ⟨d5, free', rows, dial', mask', e8, e9, e10, e11, rfl, hd5, hfl', hfo', hdn', hm', hrl, hro⟩ := hp
    have lrw := rowsD_len rows
    have hhd : ∀ t, tops[dial]? = some t → mask0 < 2 ^ (t + 1) := fun t h => by rw [htd] at h; cases h; exact hm1
    walk_at "g"
    intro z d6 z1 z2 hd6
    walk_at "g"
    rw [eqv_int]
    refine itD (fun h => ?_) (fun h => ?_)
    · walk_at "g"
      rw [show rowsD rows ++ [.tuple [.tuple [.int ((dial' : Nat) : Int), .int ((mask' : Nat) : Int)]]] = rowsD (rows ++ [[(dial', mask')]]) by rw [rowsD_app]; rfl]
      refine ⟨prD (dial, mask0), q6, _, [d6], rfl, rfl, ⟨_, _, rfl, rfl, rfl, rfl⟩, hk (dial, mask0) (rows ++ [[(dial', mask')]]) d6 hdn hhd (by simp; omega) (fun x hx => ?_) hd6⟩
      rcases List.mem_append.mp hx with z | z
      · exact hro x z
      · rw [List.mem_singleton.mp z]
        refine ⟨by simp, fun p hp => ?_⟩
        rw [List.mem_singleton.mp hp]; exact ⟨hdn', hm'⟩
    · exact ⟨prD (dial, mask0), q6, _, [d6], rfl, rfl, ⟨_, _, rfl, rfl, rfl, rfl⟩, hk (dial, mask0) rows d6 hdn hhd (by omega) hro hd6⟩
  refine itD (fun h => ?_) (fun h => ?_)
  · walk_at "g"
    intro m2 d4 c1 c2 hd4
    obtain ⟨m2, rfl⟩ := Int.eq_ofNat_of_zero_le c1
    walk_at "g"
    exact key _ ⟨d4, m2, rfl, hd4, by omega⟩
  · exact key _ ⟨d3, free.length, by rw [← lfr], hd3, Nat.le_refl _⟩
/-- from: return tuple([_law_pop(d, left) for k in range(len(rows))]) -/
def w__law_mixed_1 : WS := (wRet (wCB gTuple (wCons (wOf (wLc [3] (wRg1 (wCons (wCB gLen (wCons (wVar 1) wNil)) wNil)) (gNm 3) wYes (wCall0 [.m, .m] S__law_pop (wCons (wVar 0) (wCons (wVar 2) wNil))))) wNil)))
/-- from: if _law_draw(d, 3) == 1: -/
def w__law_mixed_2 : WS := (wSeq (wIfS (wTst (wOp gEq (wCall0 [.m, .v] S__law_draw (wCons (wVar 0) (wCons (wC (.int 3)) wNil))) (wC (.int 1))))
    (wRet (wCB gTuple (wCons (wRev (wVar 2)) wNil)))
    wNext)
    w__law_mixed_1)
/-- _law_mixed(d, rows) -/
@[reducible] def w__law_mixed : WS := (wSeq (wSetN 2 (wCBN gList (wCons (wVar 1) wNil)))
    w__law_mixed_2)
theorem hw__law_mixed : ∀ xs as k kx, S__law_mixed xs k kx → as.length = nM [.m, .v] → w__law_mixed (wdV [.m, .v] as k (fun _ _ => False)) (ent [.m, .v] xs as 4) := by
  rintro xs as k kx ⟨d, rs, rfl, hd, hl, hk⟩ ha
  obtain ⟨a, rfl⟩ := as1 ha
  have sz : sizeLine = 2 ^ 24 := rfl
  have lrs := rowsD_len rs
  walk_at "g"
  unfold gList
  walk_at "g"
  intro q
  walk_at "g"
  intro r d2 r1 r2 hd2
  walk_at "g"
  rw [eqv_int]
  refine itD (fun h => ?_) (fun h => ?_)
  · walk_at "g"
    walk_at "e"
    rw [show (rowsD rs).reverse = rowsD rs.reverse by unfold rowsD; rw [List.map_reverse]]
    exact hk rs.reverse d2 (by rw [List.length_reverse]; exact Nat.le_refl _) (fun x hx => List.mem_reverse.mp hx) hd2
  · walk_at "g"
    rw [show (((rowsD rs).length : Nat) : Int).toNat = rs.length by omega]
    refine LcP.rng (n := rs.length) (fun i acc ρ => ∃ (d' : PyData) (left out : List Row), ρ = [.io a d', .val (.list (rowsD rs)), .own q (.list (rowsD left)), .no] ∧ acc = rowsD out ∧ DOk d' ∧ out.length = i ∧ left.length + i = rs.length ∧ (∀ x ∈ left, x ∈ rs) ∧ ∀ x ∈ out, x ∈ rs) ⟨d2, rs, [], rfl, rfl, hd2, rfl, rfl, fun _ h => h, by simp⟩ (fun i acc ρ2 hi hp => ?_) fun acc ρ2 hp => ?_
    · obtain ⟨d3, left, out, rfl, rfl, hd3, ho, hle, h1, h2⟩ := hp
      have ll := rowsD_len left
      have lo := rowsD_len out
      have lne : rowsD left ≠ [] := fun z => by rw [z, List.length_nil] at ll; omega
      walk_at "g"
      intro j y hy d4 hd4
      obtain ⟨r, hr, rfl⟩ := map_get hy
      have hj := (List.getElem?_eq_some_iff.mp hr).1
      rw [show (rowsD left).eraseIdx j = rowsD (left.eraseIdx j) from map_erase _ left j]
      refine ⟨_, _, rfl, by omega, d4, left.eraseIdx j, out ++ [r], rfl, by rw [rowsD_app]; rfl, hd4, by simp [ho], by rw [eraseIdx_len hj]; omega, fun x hx => h1 x (List.mem_of_mem_eraseIdx hx), fun x hx => ?_⟩
      rcases List.mem_append.mp hx with z | z
      · exact h2 x z
      · rw [List.mem_singleton.mp z]; exact h1 r (List.mem_of_getElem? hr)
    · obtain ⟨d3, left, out, rfl, rfl, hd3, ho, hle, h1, h2⟩ := hp
      walk_at "g"
      walk_at "e"
      exact hk out d3 (by omega) h2 hd3
/-- from: for k in range(len(tops)): -/
def w__law_case_1 : WS := (wSeq (wFor (wRg1 (wCons (wCB gLen (wCons (wVar 2) wNil)) wNil)) (gNm 5)
    (wExpr (wMut 9 gAppend (wCons (wOrI (wOp gAnd (wOp gAddA (wC (.int 1)) (wCall0 [.m, .v] S__law_draw (wCons (wVar 0) (wCons (wCall0 [.v] S__law_full (wCons (wOp gIx (wVar 2) (wVar 5)) wNil)) wNil)))) (wOp gIx (wVar 6) (wVar 5))) (wOp gIx (wVar 6) (wVar 5))) wNil))))
    (wRet (wTup (wCons (wVar 4) (wCons (wCB gTuple (wCons (wVar 6) wNil)) (wCons (wCB gTuple (wCons (wVar 9) wNil)) wNil))))))
/-- from: if _law_draw(d, 3) > 0: -/
def w__law_case_2 : WS := (wSeq (wIfS (wTst (wOp gGt (wCall0 [.m, .v] S__law_draw (wCons (wVar 0) (wCons (wC (.int 3)) wNil))) (wC (.int 0))))
    (wItem 6 (wOp gIx (wVar 3) (wC (.int 1))) (wOp gIx (wVar 3) (wC (.int 0))))
    wNext)
    (wSeq (wSetN 9 (wLst wNil))
    w__law_case_1))
/-- from: if _law_draw(d, 4) > 0: -/
def w__law_case_3 : WS := (wSeq (wIfS (wTst (wOp gGt (wCall0 [.m, .v] S__law_draw (wCons (wVar 0) (wCons (wC (.int 4)) wNil))) (wC (.int 0))))
    (wSet 8 (wCall0 [.v] S__law_full (wCons (wVar 7) wNil)))
    wNext)
    (wExpr (wMut 6 gAppend (wCons (wVar 8) wNil))))
/-- from: for top in tops: -/
def w__law_case_4 : WS := (wSeq (wFor (wSq (wVar 2)) (gNm 7)
    (wSeq (wSet 8 (wOp gAddA (wC (.int 1)) (wCall0 [.m, .v] S__law_draw (wCons (wVar 0) (wCons (wCall0 [.v] S__law_full (wCons (wVar 7) wNil)) wNil)))))
    w__law_case_3))
    w__law_case_2)
/-- from: for k in range(_law_draw(d, 6)): -/
def w__law_case_5 : WS := (wSeq (wFor (wRg1 (wCons (wCall0 [.m, .v] S__law_draw (wCons (wVar 0) (wCons (wC (.int 6)) wNil))) wNil)) (gNm 5)
    (wExpr (wMut 4 gAppend (wCons (wCall0 [.m, .v] S__law_row (wCons (wVar 0) (wCons (wVar 2) wNil))) wNil))))
    (wSeq (wSet 4 (wCall0 [.m, .v] S__law_mixed (wCons (wVar 0) (wCons (wVar 4) wNil))))
    (wSeq (wSetN 6 (wLst wNil))
    w__law_case_4)))
/-- from: if len(tops) == 0: -/
def w__law_case_6 : WS := (wSeq (wIfS (wTst (wOp gEq (wCB gLen (wCons (wVar 2) wNil)) (wC (.int 0))))
    (wRet (wTup (wCons (wTup wNil) (wCons (wTup wNil) (wCons (wTup wNil) wNil)))))
    wNext)
    (wSeq (wUnpT [.m, .v] S__law_chain 3 4 (wCons (wVar 0) (wCons (wVar 2) wNil)))
    w__law_case_5))
/-- _law_case(d, is_wide) -/
@[reducible] def w__law_case : WS := (wSeq (wSet 2 (wCall0 [.m] S__law_tops (wCons (wVar 0) wNil)))
    (wSeq (wIfS (wTst (wVar 1))
    (wSet 2 (wCall0 [.m] S__law_wide (wCons (wVar 0) wNil)))
    wNext)
    w__law_case_6))
theorem hw__law_case : ∀ xs as k kx, S__law_case xs k kx → as.length = nM [.m, .v] → w__law_case (wdV [.m, .v] as k (fun _ _ => False)) (ent [.m, .v] xs as 10) := by
  rintro xs as k kx ⟨d, b, rfl, hd, hk⟩ ha
  obtain ⟨a, rfl⟩ := as1 ha
  have sz : sizeLine = 2 ^ 24 := rfl
  walk_at "g"
  intro tops d1 ht1 hd1
  walk_at "g"
  refine joinIf (fun ρ => ∃ (d' : PyData) (tops : List Nat), ρ = [.io a d', .val (.bool b), .val (.tuple (natD tops)), .no, .no, .no, .no, .no, .no, .no] ∧ DOk d' ∧ TopsK tops) ?_ fun U key => ?_
  · rintro ρ ⟨d2, tops, rfl, hd2, ht⟩
    have lt := natD_len tops
    have t1 := ht.1
    dsimp only []
    walk_at "g"
    rw [show PyData.eqv (.int (((natD tops).length : Nat) : Int)) (.int 0) = decide ((natD tops).length = 0) from eqv_nat _ 0]
    refine itD (fun h => ?_) (fun h => ?_)
    · walk_at "g"
      walk_at "e"
      exact hk [] [] [] d2 ⟨⟨Nat.zero_le _, by simp⟩, ⟨Nat.zero_le _, by simp⟩, rfl, by simp, .rfl' _, Nat.zero_le _, Nat.zero_le _, Nat.zero_le _⟩ hd2
    have hne : tops ≠ [] := fun z => h (by rw [z]; rfl)
    walk_at "g"
    intro hd0 rows d3 hdl hdm hrl hro hd3
    refine ⟨_, _, rfl, fun p4 => ?_⟩
    walk_at "g"
    intro r d4 r1 r2 hd4
    obtain ⟨r, rfl⟩ := Int.eq_ofNat_of_zero_le r1
    walk_at "g"
    rw [Int.toNat_natCast]
    refine ForP.rng (n := r) (fun i ρ => ∃ (d' : PyData) (rows : List Row) (e5 : En), ρ = [.io a d', .val (.bool b), .val (.tuple (natD tops)), .val (prD hd0), .own p4 (.list (rowsD rows)), e5, .no, .no, .no, .no] ∧ DOk d' ∧ rows.length ≤ 100 + i ∧ ∀ r ∈ rows, RowOk tops.length r) ⟨d4, rows, _, rfl, hd4, hrl, hro⟩ (fun i ρ2 hi hp => ?_) fun ρ2 hp => ?_
    · obtain ⟨d5, rows, e5, rfl, hd5, hrl, hro⟩ := hp
      have lrw := rowsD_len rows
      walk_at "g"
      intro rw_ d6 hrw hd6
      walk_at "g"
      rw [show rowsD rows ++ [rowD rw_] = rowsD (rows ++ [rw_]) by rw [rowsD_app]; rfl]
      refine ⟨d6, rows ++ [rw_], _, rfl, hd6, by simp; omega, fun x hx => ?_⟩
      rcases List.mem_append.mp hx with z | z
      · exact hro x z
      · rw [List.mem_singleton.mp z]; exact hrw
    obtain ⟨d5, rows, e5, rfl, hd5, hrl, hro⟩ := hp
    have hrl2 : rows.length ≤ 1000 := by omega
    walk_at "g"
    intro rs' d6 hle hsub hd6
    have hrs' : RowsOk tops.length rs' := ⟨by omega, fun x hx => hro x (hsub x hx)⟩
    have hrl4 : rs'.length ≤ 400 := by omega
    clear hro hsub hrl hle hrl2
    walk_at "g"
    intro pb
    walk_at "g"
    refine ForP.lst (l := tops) (enc := fun v : Nat => PyData.int ((v : Nat) : Int)) (fun i ρ => ∃ (d' : PyData) (box : List Nat) (e7 e8 : En), ρ = [.io a d', .val (.bool b), .val (.tuple (natD tops)), .val (prD hd0), .val (.tuple (rowsD rs')), e5, .own pb (.list (natD box)), e7, e8, .no] ∧ DOk d' ∧ BoxT (tops.take i) box) ⟨d6, [], _, _, rfl, hd6, rfl, by simp⟩ (fun i top ρ2 hi hp => ?_) fun ρ2 hp => ?_
    · obtain ⟨d7, box, e7, e8, rfl, hd7, hbx⟩ := hp
      obtain ⟨h1t, h9t⟩ := ht.2.1 top (List.mem_of_getElem? hi)
      obtain ⟨p4', p10⟩ := full_le h1t h9t
      have hi2 := (List.getElem?_eq_some_iff.mp hi).1
      have lbx := natD_len box
      have lbx2 : box.length = i := by rw [hbx.1, List.length_take]; omega
      walk_at "g"
      intro m d8 m1 m2 hd8
      obtain ⟨m, rfl⟩ := Int.eq_ofNat_of_zero_le m1
      walk_at "g"
      intro z d9 z1 z2 hd9
      walk_at "g"
      refine joinIf (fun ρ => ∃ (mask : Nat), ρ = [.io a d9, .val (.bool b), .val (.tuple (natD tops)), .val (prD hd0), .val (.tuple (rowsD rs')), e5, .own pb (.list (natD box)), .val (.int ((top : Nat) : Int)), .val (.int ((mask : Nat) : Int)), .no] ∧ mask < 2 ^ (top + 1)) ?_ fun U key => ?_
      · rintro ρ ⟨mask, rfl, hmk⟩
        dsimp only []
        walk_at "g"
        rw [show natD box ++ [PyData.int ((mask : Nat) : Int)] = natD (box ++ [mask]) by rw [natD_app]; rfl]
        exact ⟨d9, box ++ [mask], _, _, rfl, hd9, hbx.snoc hi hmk⟩
      refine itD (fun h => ?_) (fun h => ?_)
      · walk_at "g"
        exact key _ ⟨2 ^ (top + 1) - 1, rfl, by omega⟩
      · exact key _ ⟨1 + m, by rw [Int.natCast_add]; rfl, by omega⟩
    obtain ⟨d7, box, e7, e8, rfl, hd7, hbx⟩ := hp
    rw [List.take_length] at hbx
    walk_at "g"
    intro z d8 z1 z2 hd8
    walk_at "g"
    refine joinIf (fun ρ => ∃ (box : List Nat), ρ = [.io a d8, .val (.bool b), .val (.tuple (natD tops)), .val (prD hd0), .val (.tuple (rowsD rs')), e5, .own pb (.list (natD box)), e7, e8, .no] ∧ BoxT tops box) ?_ fun U key => ?_
    · rintro ρ ⟨box, rfl, hbx⟩
      dsimp only []
      have hbx1 := hbx.1
      have lbx := natD_len box
      walk_at "g"
      intro pp
      walk_at "g"
      rw [show (((natD tops).length : Nat) : Int).toNat = tops.length by omega]
      refine ForP.rng (n := tops.length) (fun i ρ => ∃ (d' : PyData) (part : List Nat) (e5' : En), ρ = [.io a d', .val (.bool b), .val (.tuple (natD tops)), .val (prD hd0), .val (.tuple (rowsD rs')), e5', .own pb (.list (natD box)), e7, e8, .own pp (.list (natD part))] ∧ DOk d' ∧ BoxT (tops.take i) part ∧ ∀ (k v : Nat), k < i → (part.getD k 0).testBit v = true → (box.getD k 0).testBit v = true) ⟨d8, [], _, rfl, hd8, ⟨rfl, by simp⟩, fun k v h => by omega⟩ (fun i ρ2 hi hp => ?_) fun ρ2 hp => ?_
      · obtain ⟨d9, part, e5', rfl, hd9, hpt, hps⟩ := hp
        have hti : tops[i]? = some tops[i] := List.getElem?_eq_getElem hi
        obtain ⟨h1t, h9t⟩ := ht.2.1 _ (List.mem_of_getElem? hti)
        generalize tops[i] = top at hti h1t h9t
        obtain ⟨p4', p10⟩ := full_le h1t h9t
        have hbi0 : box[i]? = some (box.getD i 0) := by rw [List.getD_eq_getElem?_getD, List.getElem?_eq_getElem (by omega)]; rfl
        have hbi := natD_at hbi0
        have hbm := hbx.2 i top _ hti hbi0
        have lpt := natD_len part
        have lpt2 : part.length = i := by rw [hpt.1, List.length_take]; omega
        have fin : ∀ (d' : PyData) (x : Nat), DOk d' → x < 2 ^ (top + 1) → (∀ v, x.testBit v = true → (box.getD i 0).testBit v = true) → ∃ (d'' : PyData) (part' : List Nat) (e5' : En), ([.io a d', .val (.bool b), .val (.tuple (natD tops)), .val (prD hd0), .val (.tuple (rowsD rs')), .val (.int ((i : Nat) : Int)), .own pb (.list (natD box)), e7, e8, .own pp (.list (natD part ++ [PyData.int ((x : Nat) : Int)]))] : List En) = [.io a d'', .val (.bool b), .val (.tuple (natD tops)), .val (prD hd0), .val (.tuple (rowsD rs')), e5', .own pb (.list (natD box)), e7, e8, .own pp (.list (natD part'))] ∧ DOk d'' ∧ BoxT (tops.take (i + 1)) part' ∧ ∀ (k v : Nat), k < i + 1 → (part'.getD k 0).testBit v = true → (box.getD k 0).testBit v = true := fun d' x hd' hx hxs => by
          refine ⟨d', part ++ [x], _, by rw [natD_app]; rfl, hd', hpt.snoc hti hx, fun k v hk' hv => ?_⟩
          by_cases hki : k < i
          · rw [List.getD_eq_getElem?_getD, List.getElem?_append_left (by omega), ← List.getD_eq_getElem?_getD] at hv
            exact hps k v hki hv
          · have e : k = part.length := by omega
            subst e
            rw [List.getD_eq_getElem?_getD, List.getElem?_append_right (Nat.le_refl _), Nat.sub_self] at hv
            have := hxs v hv
            rwa [← lpt2] at this
        walk_at "g"
        refine ⟨_, natD_at hti, ?_⟩
        walk_at "g"
        intro m d10 m1 m2 hd10
        obtain ⟨m, rfl⟩ := Int.eq_ofNat_of_zero_le m1
        walk_at "g"
        refine ⟨_, hbi, ?_⟩
        walk_at "g"
        have hx1 : (1 + m) &&& box.getD i 0 ≤ 1 + m := Nat.and_le_left
        have e1 : Builtin.bitAnd (1 + ((m : Nat) : Int)) ((box.getD i 0 : Nat) : Int) = (((1 + m) &&& box.getD i 0 : Nat) : Int) := by
          rw [show (1 + ((m : Nat) : Int)) = ((1 + m : Nat) : Int) by rw [Int.natCast_add]; rfl, bitAnd_nat]
        rw [e1]
        refine itD (fun h => ?_) (fun h => ?_)
        · walk_at "g"
          exact fin d10 ((1 + m) &&& box.getD i 0) hd10 (by omega) fun v hv => by
            rw [Nat.testBit_and] at hv
            exact (Bool.and_eq_true_iff.mp hv).2
        · walk_at "g"
          refine ⟨_, hbi, ?_⟩
          walk_at "g"
          exact fin d10 (box.getD i 0) hd10 hbm fun v hv => hv
      obtain ⟨d9, part, e5', rfl, hd9, hpt, hps⟩ := hp
      rw [List.take_length] at hpt
      have hpl := hpt.1
      walk_at "g"
      walk_at "e"
      refine hk rs' box part d9 ⟨by rw [hbx1]; exact hrs', (hbx.ok ht).1, by rw [hpl, hbx1], hpt.sm ht, fun k v hv => ?_, (hbx.ok ht).2, (hpt.ok ht).2, hrl4⟩ hd9
      by_cases hki : k < tops.length
      · exact hps k v hki hv
      · rw [List.getD_eq_getElem?_getD, List.getElem?_eq_none (by omega)] at hv
        rw [show (none : Option Nat).getD 0 = 0 from rfl, Nat.zero_testBit] at hv
        cases hv
    refine itD (fun h => ?_) (fun h => ?_)
    · have hbx1 := hbx.1
      walk_at "g"
      refine ⟨_, _, _, _, _, rfl, rfl, rfl, ixN_of (by rw [natD_len]; omega), ?_⟩
      exact key _ ⟨box.set hd0.1 hd0.2, by unfold natD; rw [List.map_set]; rfl, hbx.set hdm⟩
    · exact key _ ⟨box, rfl, hbx⟩
  refine itB (fun h => ?_) (fun h => ?_)
  · walk_at "g"
    intro tops d2 ht hd2
    walk_at "g"
    exact key _ ⟨d2, tops, rfl, hd2, ht⟩
  · exact key _ ⟨d1, tops, rfl, hd1, ht1⟩
/-- from: if masks[k] & loose[0][1] != 0: -/
def w__law_narrow_1 : WS := (wIfS (wTst (wOp gNe (wOp gAnd (wOp gIx (wVar 2) (wVar 7)) (wOp gIx (wOp gIx (wVar 6) (wC (.int 0))) (wC (.int 1)))) (wC (.int 0))))
    (wSeq (wItem 2 (wOp gMinus (wOp gIx (wVar 2) (wVar 7)) (wOp gAnd (wOp gIx (wVar 2) (wVar 7)) (wOp gIx (wOp gIx (wVar 6) (wC (.int 0))) (wC (.int 1))))) (wVar 7))
    (wSet 4 (wC (.bool false))))
    wNext)
/-- from: if len(loose) == 1: -/
def w__law_narrow_2 : WS := (wIfS (wTst (wOp gEq (wCB gLen (wCons (wVar 6) wNil)) (wC (.int 1))))
    (wSeq (wSet 7 (wOp gIx (wOp gIx (wVar 6) (wC (.int 0))) (wC (.int 0))))
    w__law_narrow_1)
    wNext)
/-- from: for row in rows[::-1]: -/
def w__law_narrow_3 : WS := (wSeq (wFor (wSq (wRev (wVar 0))) (gNm 5)
    (wSeq (wSetV 6 (wLc [8] (wSq (wVar 5)) (gNm 8) (wTst (wOp gNe (wOp gAnd (wOp gIx (wVar 2) (wOp gIx (wVar 8) (wC (.int 0)))) (wOp gIx (wVar 8) (wC (.int 1)))) (wOp gIx (wVar 2) (wOp gIx (wVar 8) (wC (.int 0)))))) (wVar 8)))
    (wSeq (wIfS (wTst (wOp gEq (wCB gLen (wCons (wVar 6) wNil)) (wC (.int 0))))
    (wRet (wC .none))
    wNext)
    w__law_narrow_2)))
    (wIfS (wTst (wVar 4))
    (wRet (wCB gTuple (wCons (wVar 2) wNil)))
    wNext))
/-- from: for turn in range(400): -/
def w__law_narrow_4 : WS := (wSeq (wFor (wRg1 (wCons (wC (.int 400)) wNil)) (gNm 3)
    (wSeq (wSet 4 (wC (.bool true)))
    w__law_narrow_3))
    (wRet (wCB gTuple (wCons (wVar 2) wNil))))
/-- _law_narrow(rows, box) -/
@[reducible] def w__law_narrow : WS := (wSeq (wSetN 2 (wCBN gList (wCons (wVar 1) wNil)))
    w__law_narrow_4)
theorem hw__law_narrow : ∀ xs as k kx, S__law_narrow xs k kx → as.length = nM [.v, .v] → w__law_narrow (wdV [.v, .v] as k (fun _ _ => False)) (ent [.v, .v] xs as 9) := by
  rintro xs as k kx ⟨rs, box, rfl, hrs, hb, hbt, hk⟩ ha
  have := as0 ha
  subst this
  have sz : sizeLine = 2 ^ 24 := rfl
  have lrs := rowsD_len rs
  have hrl := hrs.1
  have hbl := hb.1
  walk_at "g"
  unfold gList
  walk_at "g"
  intro q
  walk_at "g"
  refine ForP.rng (n := 400) (fun t ρ => ∃ ms e3 e4 e5 e6 e7, ρ = [.val (.tuple (rowsD rs)), .val (.tuple (natD box)), .own q (.list (natD ms)), e3, e4, e5, e6, e7, .no] ∧ OnWay rs box ms ∧ bits ms + t ≤ bits box) ⟨box, _, _, _, _, _, rfl, .start hb.2, Nat.le_refl _⟩ (fun t ρ1 ht hp => ?_) fun ρ1 hp => ?_
  · obtain ⟨ms, e3, e4, e5, e6, e7, rfl, how, hbm⟩ := hp
    walk_at "g"
    rw [show (rowsD rs).reverse = rowsD rs.reverse by unfold rowsD; rw [List.map_reverse]]
    refine ForP.lst (l := rs.reverse) (enc := rowD) (fun i ρ => ∃ ms' b' e5 e6 e7, ρ = [.val (.tuple (rowsD rs)), .val (.tuple (natD box)), .own q (.list (natD ms')), .val (.int ((t : Nat) : Int)), .val (.bool b'), e5, e6, e7, .no] ∧ OnWay rs box ms' ∧ (b' = true → ms' = ms ∧ ∀ r ∈ rs.reverse.take i, Quiet ms r) ∧ (b' = false → bits ms' + 1 ≤ bits ms)) ⟨ms, true, _, _, _, rfl, how, fun _ => ⟨rfl, by simp⟩, fun z => by cases z⟩ (fun i r ρ2 hi hp => ?_) fun ρ2 hp => ?_
    · obtain ⟨ms', b', e5, e6, e7, rfl, how', hq1, hq2⟩ := hp
      have hrm := List.mem_reverse.mp (List.mem_of_getElem? hi)
      have hro : RowOk ms'.length r := by rw [how'.len]; exact hrs.2 r hrm
      have hr4 := hro.1
      have htk : rs.reverse.take (i + 1) = rs.reverse.take i ++ [r] := by rw [List.take_succ, hi]; rfl
      have next : Quiet ms' r → ∀ (e6 e7 : En), ∃ ms'' b'' e5' e6' e7', ([.val (.tuple (rowsD rs)), .val (.tuple (natD box)), .own q (.list (natD ms')), .val (.int ((t : Nat) : Int)), .val (.bool b'), .val (rowD r), e6, e7, .no] : List En) = [.val (.tuple (rowsD rs)), .val (.tuple (natD box)), .own q (.list (natD ms'')), .val (.int ((t : Nat) : Int)), .val (.bool b''), e5', e6', e7', .no] ∧ OnWay rs box ms'' ∧ (b'' = true → ms'' = ms ∧ ∀ r ∈ rs.reverse.take (i + 1), Quiet ms r) ∧ (b'' = false → bits ms'' + 1 ≤ bits ms) := fun hq e6 e7 => by
        refine ⟨ms', b', _, _, _, rfl, how', fun z => ⟨(hq1 z).1, fun x hx => ?_⟩, hq2⟩
        rw [htk] at hx
        rcases List.mem_append.mp hx with y | y
        · exact (hq1 z).2 x y
        · rw [List.mem_singleton.mp y, ← (hq1 z).1]; exact hq
      walk_at "g"
      refine LcP.sel (l := r) (enc := fun p : Nat × Nat => PyData.tuple [.int ((p.1 : Nat) : Int), .int ((p.2 : Nat) : Int)]) (looseB ms') prD (by omega) (fun i' p acc Pn hi' hacc p1 p2 => ?_) ?_
      · obtain ⟨q1, q2⟩ := hro.2 p (List.mem_of_getElem? hi')
        have hat : ms'[p.1]? = some (ms'.getD p.1 0) := by rw [List.getD_eq_getElem?_getD, List.getElem?_eq_getElem q1]; rfl
        walk_at "g"
        refine ⟨_, natD_at hat, ?_⟩
        walk_at "g"
        refine ⟨_, natD_at hat, ?_⟩
        walk_at "g"
        rw [bitAnd_nat, eqv_nat]
        refine itN (fun h => ?_) (fun h => ?_)
        · walk_at "g"
          exact p1 (decide_eq_true h)
        · exact p2 (decide_eq_false fun z => z h)
      rw [show r.filter (looseB ms') = loose ms' r from rfl]
      rcases hL : loose ms' r with _ | ⟨p, _ | ⟨p2, rest⟩⟩
      · walk_at "g"
        walk_at "e"
        exact hk none (how'.dead hrm hL)
      · have hpm : p ∈ r := by
          have : p ∈ loose ms' r := by rw [hL]; exact List.mem_singleton.mpr rfl
          exact (List.mem_filter.mp this).1
        obtain ⟨q1, q2⟩ := hro.2 p hpm
        have hat : ms'[p.1]? = some (ms'.getD p.1 0) := by rw [List.getD_eq_getElem?_getD, List.getElem?_eq_getElem q1]; rfl
        walk_at "g"
        refine ⟨_, natD_at hat, ?_⟩
        walk_at "g"
        dsimp only []
        rw [and_ne0]
        have hle : bits ms' ≤ bits ms := by
          cases b' with
          | true => rw [(hq1 rfl).1]; exact Nat.le_refl _
          | false => have := hq2 rfl; omega
        refine itD (fun h => ?_) (fun h => ?_)
        · have hbd := bits_del q1 h
          have hal : ms'.getD p.1 0 &&& p.2 ≤ ms'.getD p.1 0 := Nat.and_le_left
          walk_at "g"
          refine ⟨_, natD_at hat, ?_⟩
          walk_at "g"
          refine ⟨_, natD_at hat, ?_⟩
          walk_at "g"
          refine ⟨_, _, _, _, _, rfl, rfl, rfl, ixN_of (by rw [natD_len]; exact q1), ?_⟩
          rw [show (natD ms').set p.1 (PyData.int (((ms'.getD p.1 0 : Nat) : Int) - Builtin.bitAnd ((ms'.getD p.1 0 : Nat) : Int) ((p.2 : Nat) : Int))) = natD (delAt ms' p) by rw [bitAnd_nat, ← Int.natCast_sub hal]; unfold natD delAt; rw [List.map_set]]
          walk_at "g"
          exact ⟨delAt ms' p, false, _, _, _, rfl, how'.step hrm (by rw [← how'.len]; exact q1) hL, (fun z => by cases z), fun _ => by omega⟩
        · exact next ⟨by rw [hL]; simp, fun x hx => by rw [hL] at hx; cases hx; exact Classical.not_not.mp h⟩ _ _
      · have hlen : (p :: p2 :: rest).length ≤ 4 := by rw [← hL]; exact Nat.le_trans (List.length_filter_le _ _) hr4
        walk_at "g"
        exact next ⟨by rw [hL]; simp, fun x hx => by rw [hL] at hx; cases hx⟩ _ _
    · obtain ⟨ms', b', e5, e6, e7, rfl, how', hq1, hq2⟩ := hp
      rw [List.take_length] at hq1
      cases b' with
      | true =>
        obtain ⟨rfl, hq⟩ := hq1 rfl
        walk_at "g"
        walk_at "e"
        exact hk (some ms') (how'.done fun r hr => hq r (List.mem_reverse.mpr hr))
      | false =>
        have := hq2 rfl
        walk_at "g"
        exact ⟨ms', _, _, _, _, _, rfl, how', by omega⟩
  · obtain ⟨ms, e3, e4, e5, e6, e7, rfl, how, hbm⟩ := hp
    omega
/-- from: for row in rows: -/
def w__law_states_1 : WS := (wSeq (wFor (wSq (wVar 2)) (gNm 6)
    (wExpr (wMut 5 gExtend (wCons (wOf (wLc [7] (wSq (wVar 4)) (gNm 7) wYes (wOp gAddA (wVar 6) (wTup (wCons (wVar 7) wNil))))) wNil))))
    (wSetV 2 (wSlN (wVar 5) wNoP (wPart (wVar 1)))))
/-- from: for mask in box: -/
def w__law_states_2 : WS := (wSeq (wFor (wSq (wVar 0)) (gNm 3)
    (wSeq (wSet 4 (wCall0 [.v] S__law_values (wCons (wVar 3) wNil)))
    (wSeq (wSetN 5 (wLst wNil))
    w__law_states_1)))
    (wRet (wVar 2)))
/-- _law_states(box, most) -/
@[reducible] def w__law_states : WS := (wSeq (wSetV 2 (wLst (wCons (wTup wNil) wNil)))
    w__law_states_2)
theorem hw__law_states : ∀ xs as k kx, S__law_states xs k kx → as.length = nM [.v, .v] → w__law_states (wdV [.v, .v] as k (fun _ _ => False)) (ent [.v, .v] xs as 8) := by
  rintro xs as k kx ⟨box, most, rfl, hb, hm1, hm2, hk⟩ ha
  have := as0 ha
  subst this
  have sz : sizeLine = 2 ^ 24 := rfl
  have lb := natD_len box
  walk_at "g"
  refine ForP.lst (l := box) (enc := fun v : Nat => PyData.int ((v : Nat) : Int)) (fun i ρ => ∃ sts e3 e4 e5 e6, ρ = [.val (.tuple (natD box)), .val (.int ((most : Nat) : Int)), .val (.list (stsD sts)), e3, e4, e5, e6, .no] ∧ sts.length ≤ most ∧ ∀ s ∈ sts, s.length = i ∧ ∀ k, k < i → (box.getD k 0).testBit (s.getD k 0) = true) ⟨[[]], _, _, _, _, rfl, hm1, by simp⟩ (fun i m ρ2 hi hp => ?_) fun ρ2 hp => ?_
  · obtain ⟨sts, e3, e4, e5, e6, rfl, hsl, hso⟩ := hp
    have hm := hb.2 m (List.mem_of_getElem? hi)
    have hi2 := (List.getElem?_eq_some_iff.mp hi).1
    have hbl := hb.1
    have lv := List.length_filter_le (fun v => m.testBit v) (List.range 10)
    rw [List.length_range] at lv
    have hv : ∀ v ∈ valsM m, m.testBit v = true := fun v hv => (List.mem_filter.mp hv).2
    have lv2 : (valsM m).length ≤ 10 := lv
    have lvn := natD_len (valsM m)
    have lst := stsD_len sts
    walk_at "g"
    intro q
    walk_at "g"
    refine ForP.lst (l := sts) (enc := fun s => .tuple (natD s)) (fun j ρ => ∃ lo e6, ρ = [.val (.tuple (natD box)), .val (.int ((most : Nat) : Int)), .val (.list (stsD sts)), .val (.int ((m : Nat) : Int)), .val (.list (natD (valsM m))), .own q (.list (stsD lo)), e6, .no] ∧ lo.length ≤ 10 * j ∧ ∀ s ∈ lo, s.length = i + 1 ∧ ∀ k, k < i + 1 → (box.getD k 0).testBit (s.getD k 0) = true) ⟨[], _, rfl, by simp, by simp⟩ (fun j s ρ3 hj hp => ?_) fun ρ3 hp => ?_
    · obtain ⟨lo, e6, rfl, hll, hlo⟩ := hp
      obtain ⟨s1, s2⟩ := hso s (List.mem_of_getElem? hj)
      have hj2 := (List.getElem?_eq_some_iff.mp hj).1
      have ls := natD_len s
      have llo := stsD_len lo
      walk_at "g"
      refine LcP.sel (l := valsM m) (enc := fun v : Nat => PyData.int ((v : Nat) : Int)) (fun _ => true) (fun v => .tuple (natD (s ++ [v]))) (by omega) (fun i' v acc Pn hi' hacc p1 p2 => ?_) ?_
      · have p1 := p1 rfl
        rw [natD_app] at p1
        walk_at "g"
        exact p1
      rw [List.filter_eq_self.mpr fun _ _ => rfl]
      walk_at "g"
      rw [show (valsM m).map (fun v => PyData.tuple (natD (s ++ [v]))) = stsD ((valsM m).map fun v => s ++ [v]) by unfold stsD; rw [List.map_map]; rfl, show stsD lo ++ stsD ((valsM m).map fun v => s ++ [v]) = stsD (lo ++ (valsM m).map fun v => s ++ [v]) from List.map_append.symm]
      refine ⟨_, _, rfl, by rw [List.length_append, List.length_map]; omega, fun x hx => ?_⟩
      rcases List.mem_append.mp hx with z | z
      · exact hlo x z
      · obtain ⟨v, hvm, rfl⟩ := List.mem_map.mp z
        refine ⟨by rw [List.length_append, s1]; rfl, fun k hk' => ?_⟩
        by_cases hki : k < i
        · rw [List.getD_eq_getElem?_getD (l := s ++ [v]), List.getElem?_append_left (by omega), ← List.getD_eq_getElem?_getD]
          exact s2 k hki
        · have e : k = s.length := by omega
          subst e
          rw [List.getD_eq_getElem?_getD (l := s ++ [v]), List.getElem?_append_right (Nat.le_refl _), Nat.sub_self, List.getD_eq_getElem?_getD, s1, hi]
          exact hv v hvm
    · obtain ⟨lo, e6, rfl, hll, hlo⟩ := hp
      have llo := stsD_len lo
      walk_at "g"
      rw [show LB.cutD (stsD lo) none (some ((most : Nat) : Int)) = stsD (lo.take most) from LB.cut_lo (fun s => .tuple (natD s)) lo most]
      exact ⟨lo.take most, _, _, _, _, rfl, by rw [List.length_take]; omega, fun s hs => hlo s (List.mem_of_mem_take hs)⟩
  obtain ⟨sts, e3, e4, e5, e6, rfl, hsl, hso⟩ := hp
  walk_at "g"
  walk_at "e"
  exact hk sts (fun s hs => ⟨(hso s hs).1, fun k hk' => (hso s hs).2 k hk'⟩) hsl
/-- _law_in(box, state) -/
@[reducible] def w__law_in : WS := (wRet (wOp gEq (wCB gLen (wCons (wOf (wLc [2] (wRg1 (wCons (wCB gLen (wCons (wVar 0) wNil)) wNil)) (gNm 2) (wTst (wOp gEq (wOp gAnd (wOp gShr (wOp gIx (wVar 0) (wVar 2)) (wOp gIx (wVar 1) (wVar 2))) (wC (.int 1))) (wC (.int 0)))) (wVar 2))) wNil)) (wC (.int 0))))
theorem hw__law_in : ∀ xs as k kx, S__law_in xs k kx → as.length = nM [.v, .v] → w__law_in (wdV [.v, .v] as k (fun _ _ => False)) (ent [.v, .v] xs as 3) := by
  rintro xs as k kx ⟨box, s, rfl, hl, hn, hk⟩ ha
  have := as0 ha
  subst this
  have sz : sizeLine = 2 ^ 24 := rfl
  have lb := natD_len box
  have fin : decide (((List.range box.length).filter fun k => !(box.getD k 0).testBit (s.getD k 0)).length = 0) = inB box s := by
    rw [Bool.eq_iff_iff, decide_eq_true_iff, List.length_eq_zero_iff, List.filter_eq_nil_iff]
    unfold inB
    rw [List.all_eq_true]
    simp
  walk_at "g"
  rw [show (((natD box).length : Nat) : Int).toNat = box.length by omega]
  refine LcP.rsel (n := box.length) (fun k => !(box.getD k 0).testBit (s.getD k 0)) (fun v => .int ((v : Nat) : Int)) (by omega) (fun i acc Pn hi hacc p1 p2 => ?_) ?_
  · have h1 : box[i]? = some (box.getD i 0) := by rw [List.getD_eq_getElem?_getD, List.getElem?_eq_getElem hi]; rfl
    have h2 : s[i]? = some (s.getD i 0) := by rw [List.getD_eq_getElem?_getD, List.getElem?_eq_getElem (by omega)]; rfl
    walk_at "g"
    refine ⟨_, natD_at h1, ?_⟩
    walk_at "g"
    refine ⟨_, natD_at h2, ?_⟩
    walk_at "g"
    dsimp only []
    rw [bit_test0]
    refine itB (fun h => ?_) (fun h => ?_)
    · walk_at "g"
      exact p1 h
    · exact p2 h
  walk_at "g"
  walk_at "e"
  rw [List.length_map]
  have e0 : PyData.eqv (.int ((((List.range box.length).filter fun k => !(box.getD k 0).testBit (s.getD k 0)).length : Nat) : Int)) (.int 0) = inB box s := by rw [← fin, ← eqv_nat]; rfl
  rw [e0]
  exact hk
/-- _law_let(rows, state) -/
@[reducible] def w__law_let : WS := (wRet (wOp gEq (wCB gLen (wCons (wOf (wLc [2] (wSq (wVar 0)) (gNm 2) (wTst (wCall0 [.v, .v] S__law_meets (wCons (wVar 2) (wCons (wVar 1) wNil)))) (wVar 2))) wNil)) (wC (.int 0))))
theorem hw__law_let : ∀ xs as k kx, S__law_let xs k kx → as.length = nM [.v, .v] → w__law_let (wdV [.v, .v] as k (fun _ _ => False)) (ent [.v, .v] xs as 3) := by
  rintro xs as k kx ⟨rs, s, rfl, hr, hk⟩ ha
  have := as0 ha
  subst this
  have sz : sizeLine = 2 ^ 24 := rfl
  have lrs := rowsD_len rs
  have hrl := hr.1
  have fin : decide ((rs.filter fun r => holdsB r s).length = 0) = letB rs s := by
    rw [Bool.eq_iff_iff, decide_eq_true_iff, List.length_eq_zero_iff, List.filter_eq_nil_iff]
    unfold letB
    rw [List.all_eq_true]
    simp
  walk_at "g"
  refine LcP.sel (l := rs) (fun r => holdsB r s) rowD (by omega) (fun i r acc Pn hi hacc p1 p2 => ?_) ?_
  · have hro := hr.2 r (List.mem_of_getElem? hi)
    have hr4 := hro.1
    walk_at "g"
    refine ⟨_, r, s, rfl, .inr rfl, by omega, fun p hp => (hro.2 p hp).1, ?_⟩
    walk_at "g"
    refine itB (fun h => ?_) (fun h => ?_)
    · walk_at "g"
      exact p1 h
    · exact p2 h
  walk_at "g"
  walk_at "e"
  rw [List.length_map]
  have e0 : PyData.eqv (.int (((rs.filter fun r => holdsB r s).length : Nat) : Int)) (.int 0) = letB rs s := by rw [← fin, ← eqv_nat]; rfl
  rw [e0]
  exact hk
/-- from: if _law_let(rows, state): -/
def w__law_told_1 : WS := (wIfS (wTst (wCall0 [.v, .v] S__law_let (wCons (wVar 1) (wCons (wVar 6) wNil))))
    (wIfS (wNot (wTst (wCall0 [.v, .v] (S__law_same 3) (wCons (wCall0 [.v, .v] S_narrowed (wCons (wVar 1) (wCons (wVar 9) wNil))) (wCons (wVar 9) wNil)))))
    (wRet (wC (.bool false)))
    wNext)
    (wIfS (wTst (wOp gNotA (wCall0 [.v, .v] S_narrowed (wCons (wVar 1) (wCons (wVar 9) wNil))) (wC .none)))
    (wRet (wC (.bool false)))
    wNext))
/-- from: for state in states[:2] + states[-2:]: -/
def w__law_told_2 : WS := (wSeq (wFor (wSq (wOf (wOpN gCat (wSl (wVar 8) wNoP (wPart (wC (.int 2)))) (wSl (wVar 8) (wPart (wUn (fun i => -i) (wC (.int 2)))) wNoP)))) (gNm 6)
    (wSeq (wSet 9 (wCB gTuple (wCons (wOf (wLc [11] (wSq (wVar 6)) (gNm 11) wYes (wOp gShl (wC (.int 1)) (wVar 11)))) wNil)))
    w__law_told_1))
    (wRet (wC (.bool true))))
/-- from: if less is not None: -/
def w__law_told_3 : WS := (wSeq (wIfS (wTst (wOp gNotA (wVar 7) (wC .none)))
    (wIfS (wOr (wTst (wOp gIsA (wVar 4) (wC .none))) (wTst (wOp gGt (wCB gLen (wCons (wOf (wLc [10] (wRg1 (wCons (wCB gLen (wCons (wVar 2) wNil)) wNil)) (gNm 10) (wTst (wOp gNe (wOp gOr (wOp gIx (wVar 4) (wVar 10)) (wOp gIx (wVar 7) (wVar 10))) (wOp gIx (wVar 4) (wVar 10)))) (wVar 10))) wNil)) (wC (.int 0)))))
    (wRet (wC (.bool false)))
    wNext)
    wNext)
    (wSeq (wSet 8 (wCall0 [.v, .v] S__law_states (wCons (wVar 3) (wCons (wC (.int 8)) wNil))))
    w__law_told_2))
/-- from: if not _law_same(less, _law_narrow(rows, part)): -/
def w__law_told_4 : WS := (wSeq (wIfS (wNot (wTst (wCall0 [.v, .v] (S__law_same 3) (wCons (wVar 7) (wCons (wCall0 [.v, .v] S__law_narrow (wCons (wVar 1) (wCons (wVar 3) wNil))) wNil)))))
    (wRet (wC (.bool false)))
    wNext)
    w__law_told_3)
/-- from: if not _law_same(narrowed(rows[1:], box), _law_narrow(rows[1:], box)): -/
def w__law_told_5 : WS := (wSeq (wIfS (wNot (wTst (wCall0 [.v, .v] (S__law_same 3) (wCons (wCall0 [.v, .v] S_narrowed (wCons (wSl (wVar 1) (wPart (wC (.int 1))) wNoP) (wCons (wVar 2) wNil))) (wCons (wCall0 [.v, .v] S__law_narrow (wCons (wSl (wVar 1) (wPart (wC (.int 1))) wNoP) (wCons (wVar 2) wNil))) wNil)))))
    (wRet (wC (.bool false)))
    wNext)
    (wSeq (wSet 7 (wCall0 [.v, .v] S_narrowed (wCons (wVar 1) (wCons (wVar 3) wNil))))
    w__law_told_4))
/-- from: if due is not None and (not _law_same(narrowed(rows, due), due)): -/
def w__law_told_6 : WS := (wSeq (wIfS (wAnd (wTst (wOp gNotA (wVar 4) (wC .none))) (wNot (wTst (wCall0 [.v, .v] (S__law_same 3) (wCons (wCall0 [.v, .v] S_narrowed (wCons (wVar 1) (wCons (wVar 4) wNil))) (wCons (wVar 4) wNil))))))
    (wRet (wC (.bool false)))
    wNext)
    w__law_told_5)
/-- from: for state in _law_states(box, many): -/
def w__law_told_7 : WS := (wSeq (wFor (wSq (wCall0 [.v, .v] S__law_states (wCons (wVar 2) (wCons (wVar 5) wNil)))) (gNm 6)
    (wIfS (wAnd (wTst (wCall0 [.v, .v] S__law_let (wCons (wVar 1) (wCons (wVar 6) wNil)))) (wOr (wTst (wOp gIsA (wVar 4) (wC .none))) (wNot (wTst (wCall0 [.v, .v] S__law_in (wCons (wVar 4) (wCons (wVar 6) wNil)))))))
    (wRet (wC (.bool false)))
    wNext))
    w__law_told_6)
/-- from: many = 160 -/
def w__law_told_8 : WS := (wSeq (wSet 5 (wC (.int 160)))
    (wSeq (wIfS (wTst (wOp gGt (wCB gLen (wCons (wVar 2) wNil)) (wC (.int 7))))
    (wSet 5 (wC (.int 16)))
    wNext)
    w__law_told_7))
/-- from: if not _law_same(narrowed(rows, box), due) or not _law_same(narrowed(rows[::-1] + rows, box), due): -/
def w__law_told_9 : WS := (wSeq (wIfS (wOr (wNot (wTst (wCall0 [.v, .v] (S__law_same 3) (wCons (wCall0 [.v, .v] S_narrowed (wCons (wVar 1) (wCons (wVar 2) wNil))) (wCons (wVar 4) wNil))))) (wNot (wTst (wCall0 [.v, .v] (S__law_same 3) (wCons (wCall0 [.v, .v] S_narrowed (wCons (wOp gAddA (wRev (wVar 1)) (wVar 1)) (wCons (wVar 2) wNil))) (wCons (wVar 4) wNil))))))
    (wRet (wC (.bool false)))
    wNext)
    w__law_told_8)
theorem told_A {k : PyData → List PyData → Prop} {rs : List Row} {box part : List Nat} {sts : List (List Nat)} {e4 e5 e6 e7 : En} {dc : PyData} (hk : k (.bool true) []) (hrw : RowsOk part.length rs) (hbl : part.length ≤ 90) (hps : ∀ m ∈ part, m < 1024) (hin : ∀ s ∈ sts, InBox part s) (hsl : sts.length ≤ 8) :
    w__law_told_2 (wdV [Md.v] [] k fun _ _ => False) [.val dc, .val (.tuple (rowsD rs)), .val (.tuple (natD box)), .val (.tuple (natD part)), e4, e5, e6, e7, .val (.list (stsD sts)), .no, .no, .no] := by
  have sz : sizeLine = 2 ^ 24 := rfl
  have lst := stsD_len sts
  obtain ⟨l1, c1, c1l, c1m⟩ := cutD_sts sts none (some 2)
  obtain ⟨l2, c2, c2l, c2m⟩ := cutD_sts sts (some (-2)) none
  have ll1 := stsD_len l1
  have ll2 := stsD_len l2
  unfold w__law_told_2
  walk_at "g"
  rw [c1]
  walk_at "g"
  show gCat _ (.list (LB.cutD (stsD sts) (some (-2)) none)) _
  rw [c2]
  walk_at "g"
  rw [show stsD l1 ++ stsD l2 = stsD (l1 ++ l2) from List.map_append.symm]
  refine ForP.lst (l := l1 ++ l2) (enc := fun s => .tuple (natD s)) (fun i ρ => ∃ e6 e9, ρ = [.val dc, .val (.tuple (rowsD rs)), .val (.tuple (natD box)), .val (.tuple (natD part)), e4, e5, e6, e7, .val (.list (stsD sts)), e9, .no, .no]) ⟨_, _, rfl⟩ (fun i s ρ2 hi hp => ?_) fun ρ2 hp => ?_
  · obtain ⟨e6, e9, rfl⟩ := hp
    have hsm : s ∈ sts := by
      rcases List.mem_append.mp (List.mem_of_getElem? hi) with z | z
      · exact c1m s z
      · exact c2m s z
    have hib := hin s hsm
    have hsmall := hib.small hps
    have hslen := hib.1
    have hrs : RowsOk s.length rs := by rw [hslen]; exact hrw
    have hrp : RowsOk (pointO s).length rs := by rw [pointO_len]; exact hrs
    have hpo := point_ok (by omega) hsmall
    have hpl : (pointO s).length ≤ 90 := by rw [pointO_len]; omega
    walk_at "g"
    refine LcP.sel (l := s) (enc := fun v : Nat => PyData.int ((v : Nat) : Int)) (fun _ => true) (fun v => .int ((2 ^ v : Nat) : Int)) (by omega) (fun i' v acc Pn hi' hacc p1 p2 => ?_) ?_
    · have hv := hsmall v (List.mem_of_getElem? hi')
      have p1 := p1 rfl
      rw [show ((2 ^ v : Nat) : Int) = 1 * 2 ^ (((v : Nat) : Int)).toNat by rw [Int.toNat_natCast, cast_pow2, Int.one_mul]] at p1
      walk_at "g"
      refine And.intro (shl_one (by omega) (by omega)) ?_
      walk_at "g"
      exact p1
    rw [List.filter_eq_self.mpr fun _ _ => rfl, show s.map (fun v => PyData.int ((2 ^ v : Nat) : Int)) = natD (pointO s) by unfold natD pointO; rw [List.map_map]; rfl]
    walk_at "g"
    refine itB (fun h => ?_) (fun h => ?_)
    · walk_at "g"
      intro res hres
      rw [Gr.uniq (fun r => Iff.rfl) hres (Gr.self (point_clo hrs h) hpo.2)]
      have pl : plainN 3 (.tuple (natD (pointO s))) := gr_plain hpl (Gr.self (point_clo hrs h) hpo.2)
      unfold resD
      walk_at "g"
      exact ⟨_, _, rfl⟩
    · walk_at "g"
      intro res hres
      rw [point_dead hrs h hres]
      unfold resD
      walk_at "g"
      exact ⟨_, _, rfl⟩
  obtain ⟨e6, e9, rfl⟩ := hp
  walk_at "g"
  walk_at "e"
  exact hk
theorem told_B {k : PyData → List PyData → Prop} {rs : List Row} {box part : List Nat} {e5 e6 : En} {dc : PyData} {due : Option (List Nat)} (hk : k (.bool true) []) (hc : CaseOk rs box part) (hdue : Gr rs box due) :
    w__law_told_5 (wdV [Md.v] [] k fun _ _ => False) [.val dc, .val (.tuple (rowsD rs)), .val (.tuple (natD box)), .val (.tuple (natD part)), .val (resD due), e5, e6, .no, .no, .no, .no, .no] := by
  have sz : sizeLine = 2 ^ 24 := rfl
  have hbl := hc.bx.1
  have lb := natD_len box
  have hrw := hc.rw_
  have hbx := hc.bx
  have hbt := hc.bt
  have hrd : RowsOk box.length (rs.drop 1) := ⟨by have := hrw.1; rw [List.length_drop]; omega, fun r hr => hrw.2 r (List.mem_of_mem_drop hr)⟩
  have hpl := hc.pl
  have hrp : RowsOk part.length rs := by rw [hpl]; exact hrw
  have hpx : BoxOk part := ⟨by omega, hc.ps⟩
  have hbp := hc.bp
  unfold w__law_told_5
  walk_at "g"
  rw [show LB.cutD (rowsD rs) (some 1) none = rowsD (rs.drop 1) from LB.cut_hi rowD rs 1]
  walk_at "g"
  intro r1 hr1
  have pl1 := gr_plain hbl hr1
  walk_at "g"
  rw [show LB.cutD (rowsD rs) (some 1) none = rowsD (rs.drop 1) from LB.cut_hi rowD rs 1]
  walk_at "g"
  intro r2 hr2
  rw [Gr.uniq (fun r => Iff.rfl) hr2 hr1]
  walk_at "g"
  intro less hless
  have pl2 := gr_plain (by omega) hless
  walk_at "g"
  intro r3 hr3
  rw [Gr.uniq (fun r => Iff.rfl) hr3 hless]
  walk_at "g"
  refine joinIf (fun ρ => ρ = [.val dc, .val (.tuple (rowsD rs)), .val (.tuple (natD box)), .val (.tuple (natD part)), .val (resD due), e5, e6, .val (resD less), .no, .no, .no, .no]) ?_ fun U key => ?_
  · rintro ρ rfl
    dsimp only []
    refine cut1 (fun ρ => ∃ sts, ρ = [.val dc, .val (.tuple (rowsD rs)), .val (.tuple (natD box)), .val (.tuple (natD part)), .val (resD due), e5, e6, .val (resD less), .val (.list (stsD sts)), .no, .no, .no] ∧ (∀ s ∈ sts, InBox part s) ∧ sts.length ≤ 8) ?_ fun U key => ?_
    · rintro ρ' ⟨sts, rfl, hin, hsl⟩
      exact told_A hk hrp (by omega) hc.ps hin hsl
    · walk_at "g"
      intro sts hin hsl
      walk_at "g"
      exact key _ ⟨sts, rfl, hin, hsl⟩
  cases less with
  | none =>
    refine itF rfl ?_
    exact key _ rfl
  | some L =>
    obtain ⟨z1, z0, z2, z3, z4⟩ := hless
    have hLb := z3.trans hc.sub
    have hLl : L.length = box.length := by omega
    cases due with
    | none => exact absurd hLb (hdue L hLl z2)
    | some C =>
      have hLC := hdue.2.2.2.2 L hLl z2 hLb
      have hCl := hdue.1
      unfold resD at key ⊢
      refine itT rfl ?_
      walk_at "g"
      rw [show (((natD box).length : Nat) : Int).toNat = box.length by omega]
      refine LcP.rsel (n := box.length) (fun _ => false) (fun v => .int ((v : Nat) : Int)) (by omega) (fun i acc Pn hi hacc p1 p2 => ?_) ?_
      · have a1 : C[i]? = some (C.getD i 0) := by rw [List.getD_eq_getElem?_getD, List.getElem?_eq_getElem (by omega)]; rfl
        have a2 : L[i]? = some (L.getD i 0) := by rw [List.getD_eq_getElem?_getD, List.getElem?_eq_getElem (by omega)]; rfl
        have e1 : (!PyData.eqv (.int (Builtin.bitOr ((C.getD i 0 : Nat) : Int) ((L.getD i 0 : Nat) : Int))) (.int ((C.getD i 0 : Nat) : Int))) = false := by
          rw [bitOr_nat, eqv_nat, decide_eq_true, Bool.not_true]
          refine Nat.eq_of_testBit_eq fun v => ?_
          rw [Nat.testBit_or]
          cases q : (L.getD i 0).testBit v with
          | false => rw [Bool.or_false]
          | true => rw [hLC i v q]; rfl
        walk_at "g"
        refine ⟨_, natD_at a1, ?_⟩
        walk_at "g"
        refine ⟨_, natD_at a2, ?_⟩
        walk_at "g"
        refine ⟨_, natD_at a1, ?_⟩
        walk_at "g"
        rw [e1]
        refine itF rfl ?_
        exact p2 rfl
      rw [List.filter_eq_nil_iff.mpr (fun _ _ => by simp)]
      walk_at "g"
      exact key _ rfl
/-- _law_told(case) -/
@[reducible] def w__law_told : WS := (wSeq (wUnp (wVar 0) (gTp (gsCons (gNm 1) (gsCons (gNm 2) (gsCons (gNm 3) gsNil))) 3))
    (wSeq (wSet 4 (wCall0 [.v, .v] S__law_narrow (wCons (wVar 1) (wCons (wVar 2) wNil))))
    w__law_told_9))
theorem hw__law_told : ∀ xs as k kx, S__law_told xs k kx → as.length = nM [.v] → w__law_told (wdV [.v] as k (fun _ _ => False)) (ent [.v] xs as 12) := by
  rintro xs as k kx ⟨rs, box, part, rfl, hc, hk⟩ ha
  have := as0 ha
  subst this
  have sz : sizeLine = 2 ^ 24 := rfl
  have hbl := hc.bx.1
  have lrs := rowsD_len rs
  have hrl := hc.rw_.1
  have lb := natD_len box
  have hrw := hc.rw_
  have hbx := hc.bx
  have hbt := hc.bt
  have hrr : RowsOk box.length (rs.reverse ++ rs) := ⟨by rw [List.length_append, List.length_reverse]; have := hc.rl; omega, fun r hr => by
    rcases List.mem_append.mp hr with z | z
    · exact hrw.2 r (List.mem_reverse.mp z)
    · exact hrw.2 r z⟩
  walk_at "g"
  intro due hdue
  have pl1 := gr_plain hbl hdue
  walk_at "g"
  intro res hres
  rw [Gr.uniq (fun r => Iff.rfl) hres hdue]
  walk_at "g"
  refine And.intro (by rw [List.length_reverse]; omega) ?_
  walk_at "g"
  rw [show (rowsD rs).reverse ++ rowsD rs = rowsD (rs.reverse ++ rs) by rw [rowsD_app]; unfold rowsD; rw [List.map_reverse]]
  refine ⟨_, box, rfl, hrr, hbx, fun res2 hres2 => ?_⟩
  rw [Gr.uniq (fun r => by simp) hres2 hdue]
  walk_at "g"
  refine joinIf (fun ρ => ∃ (many : Nat), ρ = [.val (.tuple [.tuple (rowsD rs), .tuple (natD box), .tuple (natD part)]), .val (.tuple (rowsD rs)), .val (.tuple (natD box)), .val (.tuple (natD part)), .val (resD due), .val (.int ((many : Nat) : Int)), .no, .no, .no, .no, .no, .no] ∧ 1 ≤ many ∧ many ≤ 1000) ?_ fun U key => ?_
  · rintro ρ ⟨many, rfl, hm1, hm2⟩
    unfold w__law_told_7
    walk_at "g"
    intro sts hin hsl
    walk_at "g"
    refine ForP.lst (l := sts) (enc := fun s => .tuple (natD s)) (fun i ρ => ∃ e6, ρ = [.val (.tuple [.tuple (rowsD rs), .tuple (natD box), .tuple (natD part)]), .val (.tuple (rowsD rs)), .val (.tuple (natD box)), .val (.tuple (natD part)), .val (resD due), .val (.int ((many : Nat) : Int)), e6, .no, .no, .no, .no, .no]) ⟨_, rfl⟩ (fun i s ρ2 hi hp => ?_) fun ρ2 hp => ?_
    · obtain ⟨e6, rfl⟩ := hp
      have hib := hin s (List.mem_of_getElem? hi)
      have hslen := hib.1
      have hrs : RowsOk s.length rs := by rw [hslen]; exact hrw
      walk_at "g"
      refine itB (fun h => ?_) (fun h => ?_)
      · have hclo := point_clo hrs h
        have hsub := point_sub hib
        have hpl : (pointO s).length = box.length := by rw [pointO_len]; exact hslen
        cases due with
        | none => exact absurd hsub (hdue _ hpl hclo)
        | some C =>
          have hCl := hdue.1
          have hsc : s.length = C.length := by omega
          have hCb : C.length ≤ 90 := by omega
          have hinC := in_of hsc (hdue.2.2.2.2 _ hpl hclo hsub)
          unfold resD
          walk_at "g"
          rw [hinC]
          walk_at "g"
          exact ⟨_, rfl⟩
      · walk_at "g"
        exact ⟨_, rfl⟩
    obtain ⟨e6, rfl⟩ := hp
    unfold w__law_told_6
    dsimp only []
    refine cut1 (fun ρ => ∃ e6, ρ = [.val (.tuple [.tuple (rowsD rs), .tuple (natD box), .tuple (natD part)]), .val (.tuple (rowsD rs)), .val (.tuple (natD box)), .val (.tuple (natD part)), .val (resD due), .val (.int ((many : Nat) : Int)), e6, .no, .no, .no, .no, .no]) ?_ fun U key => ?_
    · rintro ρ' ⟨e6, rfl⟩
      exact told_B hk hc hdue
    cases due with
    | none =>
      unfold resD at key ⊢
      walk_at "g"
      exact key _ ⟨_, rfl⟩
    | some C =>
      have hCl := hdue.1
      have hself := Gr.self hdue.2.2.1 hdue.2.1
      have hrc : RowsOk C.length rs := by rw [hCl]; exact hrw
      have hbc : BoxOk C := ⟨by omega, hdue.2.1⟩
      unfold resD at pl1 key ⊢
      walk_at "g"
      intro res3 hres3
      rw [Gr.uniq (fun r => Iff.rfl) hres3 hself]
      unfold resD
      walk_at "g"
      exact key _ ⟨_, rfl⟩
  refine itD (fun h => ?_) (fun h => ?_)
  · walk_at "g"
    exact key _ ⟨16, rfl, by omega, by omega⟩
  · exact key _ ⟨160, rfl, by omega, by omega⟩
/-- from: return _law_told(first) and _law_told(second) and _law_told(first) -/
def w_law_1 : WS := (wRet (wAndV (wCall0 [.v] S__law_told (wCons (wVar 2) wNil)) (wAndV (wCall0 [.v] S__law_told (wCons (wVar 3) wNil)) (wCall0 [.v] S__law_told (wCons (wVar 2) wNil)))))
/-- from: second = _law_case(d, _law_draw(d, 4) == 1) -/
def w_law_2 : WS := (wSeq (wSet 3 (wCall0 [.m, .v] S__law_case (wCons (wVar 1) (wCons (wOp gEq (wCall0 [.m, .v] S__law_draw (wCons (wVar 1) (wCons (wC (.int 4)) wNil))) (wC (.int 1))) wNil))))
    w_law_1)
/-- law, behind its first statement -/
@[reducible] def w_law : WS := (wSeq (wSet 2 (wCall0 [.m, .v] S__law_case (wCons (wVar 1) (wCons (wC (.bool false)) wNil))))
    w_law_2)
theorem hw_law : ∀ (v : V) (p : Addr) (ns : List Int), ns.length ≤ 63 → w_law wdL (.obj v :: .own p (draw0 ns) :: List.replicate 2 .no) := by
  intro v p ns hns
  have hd : DOk (draw0 ns) := ⟨ns, 0, 0, 7, rfl, by omega, by omega, by omega⟩
  have sz : sizeLine = 2 ^ 24 := rfl
  walk_at "g"
  intro rs box part d1 hc1 hd1
  walk_at "g"
  intro r d2 r1 r2 hd2
  walk_at "g"
  intro rs2 box2 part2 d3 hc2 hd3
  walk_at "g"
  refine ⟨rs, box, part, rfl, hc1, ?_⟩
  walk_at "g"
  refine ⟨rs2, box2, part2, rfl, hc2, ?_⟩
  walk_at "g"
  refine ⟨rs, box, part, rfl, hc1, ?_⟩
  walk_at "g"
  exact rfl
end K24

set_option maxHeartbeats 4000000
namespace K24
open PySem PySem.Spec PyProof.Rows L2 LB

/-! ### the text -/
def topS (i : Nat) : Stmt := PySem.Challenge.pw_deedoath_k24_narrowed_soundly.main.body.getD i (.Pass ⟨0, 0, 0, 0⟩)
abbrev s_loose_pair : Stmt := topS 1
theorem sc_loose_pair : FnScope ["row", "masks", "many", "found", "pair"] ["row", "masks"] (defScope s_loose_pair) := ⟨rfl, rfl, rfl, by decide +kernel, rfl, by decide +kernel, by decide +kernel⟩
abbrev s_narrowed : Stmt := topS 2
theorem sc_narrowed : FnScope ["rows", "box", "masks", "is_changed", "row", "many", "pair"] ["rows", "box"] (defScope s_narrowed) := ⟨rfl, rfl, rfl, by decide +kernel, rfl, by decide +kernel, by decide +kernel⟩
abbrev s__law_begin : Stmt := topS 4
theorem sc__law_begin : FnScope ["script", "cell"] ["script"] (defScope s__law_begin) := ⟨rfl, rfl, rfl, by decide +kernel, rfl, by decide +kernel, by decide +kernel⟩
abbrev s__law_draw : Stmt := topS 5
theorem sc__law_draw : FnScope ["d", "many", "found", "size", "cell"] ["d", "many"] (defScope s__law_draw) := ⟨rfl, rfl, rfl, by decide +kernel, rfl, by decide +kernel, by decide +kernel⟩
abbrev s__law_pick : Stmt := topS 6
theorem sc__law_pick : FnScope ["d", "row"] ["d", "row"] (defScope s__law_pick) := ⟨rfl, rfl, rfl, by decide +kernel, rfl, by decide +kernel, by decide +kernel⟩
abbrev s__law_pop : Stmt := topS 7
theorem sc__law_pop : FnScope ["d", "row"] ["d", "row"] (defScope s__law_pop) := ⟨rfl, rfl, rfl, by decide +kernel, rfl, by decide +kernel, by decide +kernel⟩
abbrev s__law_is_int : Stmt := topS 8
theorem sc__law_is_int : FnScope ["thing"] ["thing"] (defScope s__law_is_int) := ⟨rfl, rfl, rfl, by decide +kernel, rfl, by decide +kernel, by decide +kernel⟩
abbrev s__law_same : Stmt := topS 9
theorem sc__law_same : FnScope ["one", "other", "k"] ["one", "other"] (defScope s__law_same) := ⟨rfl, rfl, rfl, by decide +kernel, rfl, by decide +kernel, by decide +kernel⟩
abbrev s__law_full : Stmt := topS 10
theorem sc__law_full : FnScope ["top"] ["top"] (defScope s__law_full) := ⟨rfl, rfl, rfl, by decide +kernel, rfl, by decide +kernel, by decide +kernel⟩
abbrev s__law_meets : Stmt := topS 11
theorem sc__law_meets : FnScope ["limits", "state", "pair"] ["limits", "state"] (defScope s__law_meets) := ⟨rfl, rfl, rfl, by decide +kernel, rfl, by decide +kernel, by decide +kernel⟩
abbrev s__law_tops : Stmt := topS 12
theorem sc__law_tops : FnScope ["d", "tops", "size", "k", "top"] ["d"] (defScope s__law_tops) := ⟨rfl, rfl, rfl, by decide +kernel, rfl, by decide +kernel, by decide +kernel⟩
abbrev s__law_wide : Stmt := topS 13
theorem sc__law_wide : FnScope ["d", "tops", "greatest", "k", "top"] ["d"] (defScope s__law_wide) := ⟨rfl, rfl, rfl, by decide +kernel, rfl, by decide +kernel, by decide +kernel⟩
abbrev s__law_values : Stmt := topS 14
theorem sc__law_values : FnScope ["mask", "v"] ["mask"] (defScope s__law_values) := ⟨rfl, rfl, rfl, by decide +kernel, rfl, by decide +kernel, by decide +kernel⟩
abbrev s__law_row : Stmt := topS 15
theorem sc__law_row : FnScope ["d", "tops", "free", "row", "k", "dial"] ["d", "tops"] (defScope s__law_row) := ⟨rfl, rfl, rfl, by decide +kernel, rfl, by decide +kernel, by decide +kernel⟩
abbrev s__law_chain : Stmt := topS 16
theorem sc__law_chain : FnScope ["d", "tops", "free", "dial", "mask", "head", "rows", "many", "k", "other", "full", "good"] ["d", "tops"] (defScope s__law_chain) := ⟨rfl, rfl, rfl, by decide +kernel, rfl, by decide +kernel, by decide +kernel⟩
abbrev s__law_mixed : Stmt := topS 17
theorem sc__law_mixed : FnScope ["d", "rows", "left", "k"] ["d", "rows"] (defScope s__law_mixed) := ⟨rfl, rfl, rfl, by decide +kernel, rfl, by decide +kernel, by decide +kernel⟩
abbrev s__law_case : Stmt := topS 18
theorem sc__law_case : FnScope ["d", "is_wide", "tops", "head", "rows", "k", "box", "top", "mask", "part"] ["d", "is_wide"] (defScope s__law_case) := ⟨rfl, rfl, rfl, by decide +kernel, rfl, by decide +kernel, by decide +kernel⟩
abbrev s__law_narrow : Stmt := topS 19
theorem sc__law_narrow : FnScope ["rows", "box", "masks", "turn", "is_same", "row", "loose", "k", "pair"] ["rows", "box"] (defScope s__law_narrow) := ⟨rfl, rfl, rfl, by decide +kernel, rfl, by decide +kernel, by decide +kernel⟩
abbrev s__law_states : Stmt := topS 20
theorem sc__law_states : FnScope ["box", "most", "rows", "mask", "values", "longer", "row", "v"] ["box", "most"] (defScope s__law_states) := ⟨rfl, rfl, rfl, by decide +kernel, rfl, by decide +kernel, by decide +kernel⟩
abbrev s__law_in : Stmt := topS 21
theorem sc__law_in : FnScope ["box", "state", "k"] ["box", "state"] (defScope s__law_in) := ⟨rfl, rfl, rfl, by decide +kernel, rfl, by decide +kernel, by decide +kernel⟩
abbrev s__law_let : Stmt := topS 22
theorem sc__law_let : FnScope ["rows", "state", "row"] ["rows", "state"] (defScope s__law_let) := ⟨rfl, rfl, rfl, by decide +kernel, rfl, by decide +kernel, by decide +kernel⟩
abbrev s__law_told : Stmt := topS 23
theorem sc__law_told : FnScope ["case", "rows", "box", "part", "due", "many", "state", "less", "states", "point", "k", "v"] ["case"] (defScope s__law_told) := ⟨rfl, rfl, rfl, by decide +kernel, rfl, by decide +kernel, by decide +kernel⟩
abbrev s_law : Stmt := topS 24
theorem sc_law : FnScope ["script", "d", "first", "second"] ["script"] (defScope s_law) := ⟨rfl, rfl, rfl, by decide +kernel, rfl, by decide +kernel, by decide +kernel⟩
/-- the built-ins' names are not stored by the text; the modules' constants -/
structure Txt (K : PySem.W.Frag) (mg : Str → Option Value) : Prop where
  b_abs : mg "abs" = none
  b_bool : mg "bool" = none
  b_int : mg "int" = none
  b_isinstance : mg "isinstance" = none
  b_len : mg "len" = none
  b_list : mg "list" = none
  b_min : mg "min" = none
  b_range : mg "range" = none
  b_str : mg "str" = none
  b_sum : mg "sum" = none
  b_tuple : mg "tuple" = none
theorem ok_loose_pair {P : Program} {w : World} {K : PySem.W.Frag} {mg : Str → Option Value} {base : Heap} {f : Addr} {fd : FuncData} (F : Fun K "loose_pair" "loose_pair" s_loose_pair f fd) (T : Txt K mg) : FnOk P w K mg base CX0 1 f fd ["row", "masks"] (spV K [.v, .r] S_loose_pair) :=
  fnV (k := 1 - 1) (ws := w_loose_pair) F sc_loose_pair rfl (fun cdv A outer s H E hr => (bss_cons (bs_set (fun h => ps_set (i := 2) sc_loose_pair.nd rfl (Or.inl rfl) h) be_int)
    (bss_cons (bs_set (fun h => ps_set (i := 3) sc_loose_pair.nd rfl (Or.inl rfl) h) be_non)
    (bss_cons (bs_for PassesOwn.never rfl (bi_seq (be_pv (pv 0))) (bg_name (pg_name (i := 4) sc_loose_pair.nd rfl (by first | exact Or.inl rfl | exact Or.inr rfl)))
    (bss_one (bs_if (bt_cmp (od_ne hr.units) (be_op od_and (be_ix (u65 hr) (be_pv (pv 1)) (be_ix (u65 hr) (be_pv (pv 4)) be_int)) (be_un un_inv (be_ix (u65 hr) (be_pv (pv 4)) be_int))) be_int (nomark _))
    (bss_cons (bs_aug od_iadd (fun h1 h2 => ps_aug (i := 2) sc_loose_pair.nd rfl (Or.inl rfl) h1 h2) be_int)
    (bss_cons (bs_set (fun h => ps_set (i := 3) sc_loose_pair.nd rfl (Or.inl rfl) h) (be_pv (pv 4)))
    (bss_one (bs_if (bt_cmp (od_eq hr.units) (be_pv (pv 2)) be_int (nomark _))
    (bss_one (bs_ret (be_tup (ba_cons (be_pv (pv 2)) (ba_cons (be_pv (pv 3)) ba_nil)))))
    bss_nil))))
    bss_nil)))
    (bss_one (bs_ret (be_tup (ba_cons (be_pv (pv 2)) (ba_cons (be_pv (pv 3)) ba_nil))))))))) (hw_loose_pair)
theorem ok_narrowed {P : Program} {w : World} {K : PySem.W.Frag} {mg : Str → Option Value} {base : Heap} {f : Addr} {fd : FuncData} (F : Fun K "narrowed" "narrowed" s_narrowed f fd) (T : Txt K mg) (C_loose_pair : Cal P w K mg base CX0 1 "loose_pair" ["row", "masks"] (spV K [.v, .r] S_loose_pair)) : FnOk P w K mg base CX0 2 f fd ["rows", "box"] (spV K [.v, .v] S_narrowed) :=
  fnV (k := 2 - 1) (ws := w_narrowed) F sc_narrowed rfl (fun cdv A outer s H E hr => (bss_cons (bs_setN (fun h => ps_set (i := 2) sc_narrowed.nd rfl (Or.inl rfl) h) (bn_callTy cn_list (by rfl) T.b_list boot_list (ba_cons (be_pv (pv 1)) ba_nil)))
    (bss_cons (bs_set (fun h => ps_set (i := 3) sc_narrowed.nd rfl (Or.inl rfl) h) be_bl)
    (bss_cons (bs_while PassesOwn.never (bt_val (be_pv (pv 3)))
    (bss_cons (bs_set (fun h => ps_set (i := 3) sc_narrowed.nd rfl (Or.inl rfl) h) be_bl)
    (bss_one (bs_for PassesOwn.never rfl (bi_seq (be_pv (pv 0))) (bg_name (pg_name (i := 4) sc_narrowed.nd rfl (by first | exact Or.inl rfl | exact Or.inr rfl)))
    (bss_cons (bs_unpack (fun h1 h2 => ps_asg h1 h2) (be_call (fun h => C_loose_pair.pe (hr.mono (by decide)) (by rfl) h) (ba_cons (be_pv (pv 4)) (ba_cons (be_pv (pv 2)) ba_nil))) (bg_tup rfl (bgs_cons (bg_name (pg_name (i := 5) sc_narrowed.nd rfl (by first | exact Or.inl rfl | exact Or.inr rfl))) (bgs_cons (bg_name (pg_name (i := 6) sc_narrowed.nd rfl (by first | exact Or.inl rfl | exact Or.inr rfl))) bgs_nil))))
    (bss_cons (bs_if (bt_cmp (od_eq hr.units) (be_pv (pv 5)) be_int (nomark _))
    (bss_one (bs_ret be_non))
    bss_nil)
    (bss_one (bs_if (BW.bt (bw_and (bt_cmp (od_eq hr.units) (be_pv (pv 5)) be_int (nomark _)) (bw_and1 (bt_cmp (od_ne hr.units) (be_op od_and (be_ix (u65 hr) (be_pv (pv 2)) (be_ix (u65 hr) (be_pv (pv 6)) be_int)) (be_ix (u65 hr) (be_pv (pv 6)) be_int)) be_int (nomark _)))))
    (bss_cons (bs_item (fun h1 h2 h3 h4 => ps_asg h1 (pg_sub h2 h3 h4)) (be_op od_and (be_ix (u65 hr) (be_pv (pv 2)) (be_ix (u65 hr) (be_pv (pv 6)) be_int)) (be_un un_inv (be_ix (u65 hr) (be_pv (pv 6)) be_int))) (pv 2) (be_ix (u65 hr) (be_pv (pv 6)) be_int))
    (bss_one (bs_set (fun h => ps_set (i := 3) sc_narrowed.nd rfl (Or.inl rfl) h) be_bl)))
    bss_nil))))))))
    (bss_one (bs_ret (be_callTy cd_tuple (by rfl) T.b_tuple boot_tuple (ba_cons (be_pv (pv 2)) ba_nil)))))))) (hw_narrowed)
theorem ok__law_draw {P : Program} {w : World} {K : PySem.W.Frag} {mg : Str → Option Value} {base : Heap} {f : Addr} {fd : FuncData} (F : Fun K "_law_draw" "_law_draw" s__law_draw f fd) (T : Txt K mg) : FnOk P w K mg base CX0 1 f fd ["d", "many"] (spV K [.m, .v] S__law_draw) :=
  fnV (k := 1 - 1) (ws := w__law_draw) F sc__law_draw rfl (fun cdv A outer s H E hr => (bss_cons (bs_if (bt_cmp od_gt (be_ix (u65 hr) (be_pv (pv 0)) be_int) be_int (nomark _))
    (bss_cons (bs_set (fun h => ps_set (i := 2) sc__law_draw.nd rfl (Or.inl rfl) h) (be_ix (u65 hr) (be_pv (pv 0)) be_int))
    (bss_cons (bs_item (fun h1 h2 h3 h4 => ps_asg h1 (pg_sub h2 h3 h4)) (be_op od_fdiv (be_pv (pv 2)) (be_pv (pv 1))) (pv 0) be_int)
    (bss_one (bs_ret (be_op od_mod (be_callTy cd_int (by rfl) T.b_int boot_int (ba_cons (be_pv (pv 2)) ba_nil)) (be_pv (pv 1)))))))
    bss_nil)
    (bss_cons (bs_set (fun h => ps_set (i := 3) sc__law_draw.nd rfl (Or.inl rfl) h) be_int)
    (bss_cons (bs_if (bt_cmp od_lt (be_ix (u65 hr) (be_pv (pv 0)) be_int) (be_callB cd_len (by rfl) T.b_len boot_len (ba_cons (be_ix (u65 hr) (be_pv (pv 0)) be_int) ba_nil)) (nomark _))
    (bss_cons (bs_set (fun h => ps_set (i := 4) sc__law_draw.nd rfl (Or.inl rfl) h) (be_ix (u65 hr) (be_ix (u65 hr) (be_pv (pv 0)) be_int) (be_ix (u65 hr) (be_pv (pv 0)) be_int)))
    (bss_one (bs_set (fun h => ps_set (i := 3) sc__law_draw.nd rfl (Or.inl rfl) h) (be_op od_addA (be_op od_mul be_int (be_callB cd_abs (by rfl) T.b_abs boot_abs (ba_cons (be_pv (pv 4)) ba_nil))) (be_callTy cd_int (by rfl) T.b_int boot_int (ba_cons (be_cmp od_lt (be_pv (pv 4)) be_int (nomark _)) ba_nil))))))
    bss_nil)
    (bss_cons (bs_augItem od_iadd (fun h1 h2 h3 h4 h5 h6 => ps_augS h1 h2 h3 h4 h5 h6) (pv 0) be_int be_int)
    (bss_cons (bs_if (bt_cmp od_ge (be_pv (pv 3)) (be_op od_mul be_int (be_op od_pow be_int be_int)) (nomark _))
    (bss_cons (bs_set (fun h => ps_set (i := 2) sc__law_draw.nd rfl (Or.inl rfl) h) (be_op od_mod (be_callTy cd_int (by rfl) T.b_int boot_int (ba_cons (be_op od_fdiv (be_pv (pv 3)) be_int) ba_nil)) (be_op od_shl be_int be_int)))
    (bss_cons (bs_item (fun h1 h2 h3 h4 => ps_asg h1 (pg_sub h2 h3 h4)) (be_op od_fdiv (be_pv (pv 2)) (be_pv (pv 1))) (pv 0) be_int)
    (bss_one (bs_ret (be_op od_mod (be_callTy cd_int (by rfl) T.b_int boot_int (ba_cons (be_pv (pv 2)) ba_nil)) (be_pv (pv 1)))))))
    bss_nil)
    (bss_cons (bs_item (fun h1 h2 h3 h4 => ps_asg h1 (pg_sub h2 h3 h4)) (be_op od_mod (be_callTy cd_int (by rfl) T.b_int boot_int (ba_cons (be_op od_addA (be_op od_addA (be_op od_addA (be_op od_mul (be_ix (u65 hr) (be_pv (pv 0)) be_int) be_int) (be_op od_mul (be_op od_mod (be_callTy cd_int (by rfl) T.b_int boot_int (ba_cons (be_pv (pv 3)) ba_nil)) be_int) be_int)) (be_op od_mul (be_ix (u65 hr) (be_pv (pv 0)) be_int) be_int)) be_int) ba_nil)) be_int) (pv 0) be_int)
    (bss_one (bs_ret (be_op od_mod (be_callTy cd_int (by rfl) T.b_int boot_int (ba_cons (be_op od_fdiv (be_ix (u65 hr) (be_pv (pv 0)) be_int) be_int) ba_nil)) (be_pv (pv 1)))))))))))) (hw__law_draw)
theorem ok__law_pick {P : Program} {w : World} {K : PySem.W.Frag} {mg : Str → Option Value} {base : Heap} {f : Addr} {fd : FuncData} (F : Fun K "_law_pick" "_law_pick" s__law_pick f fd) (T : Txt K mg) (C__law_draw : Cal P w K mg base CX0 1 "_law_draw" ["d", "many"] (spV K [.m, .v] S__law_draw)) : FnOk P w K mg base CX0 2 f fd ["d", "row"] (spV K [.m, .r] S__law_pick) :=
  fnV (k := 2 - 1) (ws := w__law_pick) F sc__law_pick rfl (fun cdv A outer s H E hr => (bss_one (bs_ret (be_ix (u65 hr) (be_pv (pv 1)) (be_call (fun h => C__law_draw.pe (hr.mono (by decide)) (by rfl) h) (ba_cons (be_pv (pv 0)) (ba_cons (be_callB cd_len (by rfl) T.b_len boot_len (ba_cons (be_pv (pv 1)) ba_nil)) ba_nil))))))) (hw__law_pick)
theorem ok__law_pop {P : Program} {w : World} {K : PySem.W.Frag} {mg : Str → Option Value} {base : Heap} {f : Addr} {fd : FuncData} (F : Fun K "_law_pop" "_law_pop" s__law_pop f fd) (T : Txt K mg) (C__law_draw : Cal P w K mg base CX0 1 "_law_draw" ["d", "many"] (spV K [.m, .v] S__law_draw)) : FnOk P w K mg base CX0 2 f fd ["d", "row"] (spV K [.m, .m] S__law_pop) :=
  fnV (k := 2 - 1) (ws := w__law_pop) F sc__law_pop rfl (fun cdv A outer s H E hr => (bss_one (bs_ret (be_mut PySem.F.plainAttrs_list PySem.F.slot_list_pop PySem.F.type_list_pop mw_pop (pv 1) (ba_cons (be_call (fun h => C__law_draw.pe (hr.mono (by decide)) (by rfl) h) (ba_cons (be_pv (pv 0)) (ba_cons (be_callB cd_len (by rfl) T.b_len boot_len (ba_cons (be_pv (pv 1)) ba_nil)) ba_nil))) ba_nil))))) (hw__law_pop)
theorem ok__law_is_int {P : Program} {w : World} {K : PySem.W.Frag} {mg : Str → Option Value} {base : Heap} {f : Addr} {fd : FuncData} (F : Fun K "_law_is_int" "_law_is_int" s__law_is_int f fd) (T : Txt K mg) : FnOk P w K mg base CX0 1 f fd ["thing"] (spV K [.v] S__law_is_int) :=
  fnV (k := 1 - 1) (ws := w__law_is_int) F sc__law_is_int rfl (fun cdv A outer s H E hr => (bss_one (bs_ret (be_and (be_isi isT_int (by rfl) T.b_isinstance (be_pv (pv 0)) (pe_bltn (by rfl) T.b_int boot_int rfl)) (be_one (be_not (be_isi isT_bool (by rfl) T.b_isinstance (be_pv (pv 0)) (pe_bltn (by rfl) T.b_bool boot_bool rfl)))))))) (hw__law_is_int)
theorem ok__law_same {P : Program} {w : World} {K : PySem.W.Frag} {mg : Str → Option Value} {base : Heap} {f : Addr} {fd : FuncData} (n : Nat) (F : Fun K "_law_same" "_law_same" s__law_same f fd) (T : Txt K mg) (C__law_is_int : Cal P w K mg base CX0 1 "_law_is_int" ["thing"] (spV K [.v] S__law_is_int)) (C__law_same : Cal P w K mg base CX0 (n + 2) "_law_same" ["one", "other"] (spV K [.v, .v] (S__law_same n))) : FnOk P w K mg base CX0 (n + 3) f fd ["one", "other"] (spV K [.v, .v] (S__law_same (n + 1))) :=
  fnV (k := (n + 3) - 1) (ws := w__law_same n) F sc__law_same rfl (fun cdv A outer s H E hr => (bss_cons (bs_if (bt_val (be_isi isT_tuple (by rfl) T.b_isinstance (be_pv (pv 0)) (pe_bltn (by rfl) T.b_tuple boot_tuple rfl)))
    (bss_cons (bs_if (BW.bt (bw_or (bt_not (bt_val (be_isi isT_tuple (by rfl) T.b_isinstance (be_pv (pv 1)) (pe_bltn (by rfl) T.b_tuple boot_tuple rfl)))) (bw_or1 (bt_cmp (od_ne hr.units) (be_callB cd_len (by rfl) T.b_len boot_len (ba_cons (be_pv (pv 0)) ba_nil)) (be_callB cd_len (by rfl) T.b_len boot_len (ba_cons (be_pv (pv 1)) ba_nil)) (nomark _)))))
    (bss_one (bs_ret be_bl))
    bss_nil)
    (bss_one (bs_ret (be_cmp (od_eq hr.units) (be_callB cd_len (by rfl) T.b_len boot_len (ba_cons ((bn_lc (by decide) (pe_lc (own := [("k", 2)]) rfl sc__law_same.nd (bi_range1 (by rfl) T.b_range (ba_cons (be_callB cd_len (by rfl) T.b_len boot_len (ba_cons (be_pv (pv 0)) ba_nil)) ba_nil)).pi (blkOk_by (own := [("k", 2)]) (N := ["one", "other", "k"]) (sc := defScope s__law_same) (by decide +kernel)) (fun _ _ _ _ _ => (bg_name (pg_name (i := 2) sc__law_same.nd rfl (by first | exact Or.inl rfl | exact Or.inr rfl))).pg) (fun _ _ _ _ _ => (bts_one (bt_not (bt_val (be_call (fun h => C__law_same.pe (hr.mono (by omega)) (by rfl) h) (ba_cons (be_ix (u65 hr) (be_pv (pv 0)) (be_pv (pv 2))) (ba_cons (be_ix (u65 hr) (be_pv (pv 1)) (be_pv (pv 2))) ba_nil)))))).pts) (fun _ _ _ _ _ => (be_pv (pv 2)).pe)))).be ba_nil)) be_int (nomark _)))))
    bss_nil)
    (bss_cons (bs_if (BW.bt (bw_or (bt_val (be_isi isT_bool (by rfl) T.b_isinstance (be_pv (pv 0)) (pe_bltn (by rfl) T.b_bool boot_bool rfl))) (bw_or (bt_cmp od_isA (be_pv (pv 0)) be_non (nomark _)) (bw_or1 (bt_val (be_isi isT_str (by rfl) T.b_isinstance (be_pv (pv 0)) (pe_bltn (by rfl) T.b_str boot_str rfl)))))))
    (bss_one (bs_ret (be_and (be_cmp (od_eq hr.units) (be_isi isT_bool (by rfl) T.b_isinstance (be_pv (pv 0)) (pe_bltn (by rfl) T.b_bool boot_bool rfl)) (be_isi isT_bool (by rfl) T.b_isinstance (be_pv (pv 1)) (pe_bltn (by rfl) T.b_bool boot_bool rfl)) (nomark _)) (be_one (be_cmp (od_eq hr.units) (be_pv (pv 0)) (be_pv (pv 1)) (nomark _))))))
    bss_nil)
    (bss_one (bs_ret (be_and (be_call (fun h => C__law_is_int.pe (hr.mono (by omega)) (by rfl) h) (ba_cons (be_pv (pv 0)) ba_nil)) (be_and (be_call (fun h => C__law_is_int.pe (hr.mono (by omega)) (by rfl) h) (ba_cons (be_pv (pv 1)) ba_nil)) (be_one (be_cmp (od_eq hr.units) (be_pv (pv 0)) (be_pv (pv 1)) (nomark _)))))))))) (hw__law_same n)
theorem ok__law_full {P : Program} {w : World} {K : PySem.W.Frag} {mg : Str → Option Value} {base : Heap} {f : Addr} {fd : FuncData} (F : Fun K "_law_full" "_law_full" s__law_full f fd) (T : Txt K mg) : FnOk P w K mg base CX0 1 f fd ["top"] (spV K [.v] S__law_full) :=
  fnV (k := 1 - 1) (ws := w__law_full) F sc__law_full rfl (fun cdv A outer s H E hr => (bss_one (bs_ret (be_op od_sub (be_op od_mul be_int (be_op od_shl be_int (be_pv (pv 0)))) be_int)))) (hw__law_full)
theorem ok__law_meets {P : Program} {w : World} {K : PySem.W.Frag} {mg : Str → Option Value} {base : Heap} {f : Addr} {fd : FuncData} (F : Fun K "_law_meets" "_law_meets" s__law_meets f fd) (T : Txt K mg) : FnOk P w K mg base CX0 1 f fd ["limits", "state"] (spV K [.v, .v] S__law_meets) :=
  fnV (k := 1 - 1) (ws := w__law_meets) F sc__law_meets rfl (fun cdv A outer s H E hr => (bss_one (bs_ret (be_cmp (od_eq hr.units) (be_callB cd_len (by rfl) T.b_len boot_len (ba_cons ((bn_lc (by decide) (pe_lc (own := [("pair", 2)]) rfl sc__law_meets.nd (bi_seq (be_pv (pv 0))).pi (blkOk_by (own := [("pair", 2)]) (N := ["limits", "state", "pair"]) (sc := defScope s__law_meets) (by decide +kernel)) (fun _ _ _ _ _ => (bg_name (pg_name (i := 2) sc__law_meets.nd rfl (by first | exact Or.inl rfl | exact Or.inr rfl))).pg) (fun _ _ _ _ _ => (bts_one (bt_cmp (od_eq hr.units) (be_op od_and (be_op od_shr (be_ix (u65 hr) (be_pv (pv 2)) be_int) (be_ix (u65 hr) (be_pv (pv 1)) (be_ix (u65 hr) (be_pv (pv 2)) be_int))) be_int) be_int (nomark _))).pts) (fun _ _ _ _ _ => be_int.pe)))).be ba_nil)) be_int (nomark _))))) (hw__law_meets)
theorem ok__law_tops {P : Program} {w : World} {K : PySem.W.Frag} {mg : Str → Option Value} {base : Heap} {f : Addr} {fd : FuncData} (F : Fun K "_law_tops" "_law_tops" s__law_tops f fd) (T : Txt K mg) (C__law_pick : Cal P w K mg base CX0 2 "_law_pick" ["d", "row"] (spV K [.m, .r] S__law_pick)) (C__law_draw : Cal P w K mg base CX0 1 "_law_draw" ["d", "many"] (spV K [.m, .v] S__law_draw)) : FnOk P w K mg base CX0 3 f fd ["d"] (spV K [.m] S__law_tops) :=
  fnV (k := 3 - 1) (ws := w__law_tops) F sc__law_tops rfl (fun cdv A outer s H E hr => (bss_cons (bs_setN (fun h => ps_set (i := 1) sc__law_tops.nd rfl (Or.inl rfl) h) (bn_lst ba_nil))
    (bss_cons (bs_set (fun h => ps_set (i := 2) sc__law_tops.nd rfl (Or.inl rfl) h) be_int)
    (bss_cons (bs_for PassesOwn.never rfl (bi_range1 (by rfl) T.b_range (ba_cons (be_call (fun h => C__law_pick.pe (hr.mono (by decide)) (by rfl) h) (ba_cons (be_pv (pv 0)) (ba_cons ((bn_lst (ba_cons be_int (ba_cons be_int (ba_cons be_int (ba_cons be_int (ba_cons be_int (ba_cons be_int (ba_cons be_int (ba_cons be_int (ba_cons be_int (ba_cons be_int ba_nil)))))))))))).be ba_nil))) ba_nil)) (bg_name (pg_name (i := 3) sc__law_tops.nd rfl (by first | exact Or.inl rfl | exact Or.inr rfl)))
    (bss_cons (bs_set (fun h => ps_set (i := 4) sc__law_tops.nd rfl (Or.inl rfl) h) (be_op od_addA be_int (be_op od_mul (be_callTy cd_int (by rfl) T.b_int boot_int (ba_cons (be_cmp (od_eq hr.units) (be_call (fun h => C__law_draw.pe (hr.mono (by decide)) (by rfl) h) (ba_cons (be_pv (pv 0)) (ba_cons be_int ba_nil))) be_int (nomark _)) ba_nil)) (be_call (fun h => C__law_draw.pe (hr.mono (by decide)) (by rfl) h) (ba_cons (be_pv (pv 0)) (ba_cons be_int ba_nil))))))
    (bss_one (bs_if (bt_cmp od_le (be_op od_mul (be_pv (pv 2)) (be_op od_addA (be_pv (pv 4)) be_int)) be_int (nomark _))
    (bss_cons (bs_set (fun h => ps_set (i := 2) sc__law_tops.nd rfl (Or.inl rfl) h) (be_op od_mul (be_pv (pv 2)) (be_op od_addA (be_pv (pv 4)) be_int)))
    (bss_one (bs_expr (be_mut PySem.F.plainAttrs_list PySem.F.slot_list_append PySem.F.type_list_append mw_append (pv 1) (ba_cons (be_pv (pv 4)) ba_nil)))))
    bss_nil))))
    (bss_one (bs_ret (be_callTy cd_tuple (by rfl) T.b_tuple boot_tuple (ba_cons (be_pv (pv 1)) ba_nil)))))))) (hw__law_tops)
theorem ok__law_wide {P : Program} {w : World} {K : PySem.W.Frag} {mg : Str → Option Value} {base : Heap} {f : Addr} {fd : FuncData} (F : Fun K "_law_wide" "_law_wide" s__law_wide f fd) (T : Txt K mg) (C__law_draw : Cal P w K mg base CX0 1 "_law_draw" ["d", "many"] (spV K [.m, .v] S__law_draw)) : FnOk P w K mg base CX0 2 f fd ["d"] (spV K [.m] S__law_wide) :=
  fnV (k := 2 - 1) (ws := w__law_wide) F sc__law_wide rfl (fun cdv A outer s H E hr => (bss_cons (bs_setN (fun h => ps_set (i := 1) sc__law_wide.nd rfl (Or.inl rfl) h) (bn_lst ba_nil))
    (bss_cons (bs_set (fun h => ps_set (i := 2) sc__law_wide.nd rfl (Or.inl rfl) h) (be_op od_addA be_int (be_call (fun h => C__law_draw.pe (hr.mono (by decide)) (by rfl) h) (ba_cons (be_pv (pv 0)) (ba_cons be_int ba_nil)))))
    (bss_cons (bs_for PassesOwn.never rfl (bi_range1 (by rfl) T.b_range (ba_cons (be_op od_addA be_int (be_call (fun h => C__law_draw.pe (hr.mono (by decide)) (by rfl) h) (ba_cons (be_pv (pv 0)) (ba_cons be_int ba_nil)))) ba_nil)) (bg_name (pg_name (i := 3) sc__law_wide.nd rfl (by first | exact Or.inl rfl | exact Or.inr rfl)))
    (bss_cons (bs_set (fun h => ps_set (i := 4) sc__law_wide.nd rfl (Or.inl rfl) h) (be_op od_addA be_int (be_call (fun h => C__law_draw.pe (hr.mono (by decide)) (by rfl) h) (ba_cons (be_pv (pv 0)) (ba_cons (be_pv (pv 2)) ba_nil)))))
    (bss_one (bs_if (bt_cmp od_le (be_op od_addA (be_callB (cd_sum rfl) (by rfl) T.b_sum (by decide +kernel) (ba_cons (be_pv (pv 1)) ba_nil)) (be_pv (pv 4))) be_int (nomark _))
    (bss_one (bs_expr (be_mut PySem.F.plainAttrs_list PySem.F.slot_list_append PySem.F.type_list_append mw_append (pv 1) (ba_cons (be_pv (pv 4)) ba_nil))))
    bss_nil))))
    (bss_one (bs_ret (be_callTy cd_tuple (by rfl) T.b_tuple boot_tuple (ba_cons (be_pv (pv 1)) ba_nil)))))))) (hw__law_wide)
theorem ok__law_values {P : Program} {w : World} {K : PySem.W.Frag} {mg : Str → Option Value} {base : Heap} {f : Addr} {fd : FuncData} (F : Fun K "_law_values" "_law_values" s__law_values f fd) (T : Txt K mg) : FnOk P w K mg base CX0 1 f fd ["mask"] (spV K [.v] S__law_values) :=
  fnV (k := 1 - 1) (ws := w__law_values) F sc__law_values rfl (fun cdv A outer s H E hr => (bss_one (bs_ret ((bn_lc (by decide) (pe_lc (own := [("v", 1)]) rfl sc__law_values.nd (bi_range1 (by rfl) T.b_range (ba_cons be_int ba_nil)).pi (blkOk_by (own := [("v", 1)]) (N := ["mask", "v"]) (sc := defScope s__law_values) (by decide +kernel)) (fun _ _ _ _ _ => (bg_name (pg_name (i := 1) sc__law_values.nd rfl (by first | exact Or.inl rfl | exact Or.inr rfl))).pg) (fun _ _ _ _ _ => (bts_one (bt_cmp (od_eq hr.units) (be_op od_and (be_op od_shr (be_pv (pv 0)) (be_pv (pv 1))) be_int) be_int (nomark _))).pts) (fun _ _ _ _ _ => (be_pv (pv 1)).pe)))).be))) (hw__law_values)
theorem ok__law_row {P : Program} {w : World} {K : PySem.W.Frag} {mg : Str → Option Value} {base : Heap} {f : Addr} {fd : FuncData} (F : Fun K "_law_row" "_law_row" s__law_row f fd) (T : Txt K mg) (C__law_draw : Cal P w K mg base CX0 1 "_law_draw" ["d", "many"] (spV K [.m, .v] S__law_draw)) (C__law_full : Cal P w K mg base CX0 1 "_law_full" ["top"] (spV K [.v] S__law_full)) (C__law_pop : Cal P w K mg base CX0 2 "_law_pop" ["d", "row"] (spV K [.m, .m] S__law_pop)) : FnOk P w K mg base CX0 3 f fd ["d", "tops"] (spV K [.m, .v] S__law_row) :=
  fnV (k := 3 - 1) (ws := w__law_row) F sc__law_row rfl (fun cdv A outer s H E hr => (bss_cons (bs_setN (fun h => ps_set (i := 2) sc__law_row.nd rfl (Or.inl rfl) h) (bn_listRg rfl (by rfl) T.b_list (brg_1 (by rfl) T.b_range (be_callB cd_len (by rfl) T.b_len boot_len (ba_cons (be_pv (pv 1)) ba_nil)))))
    (bss_cons (bs_setN (fun h => ps_set (i := 3) sc__law_row.nd rfl (Or.inl rfl) h) (bn_lst ba_nil))
    (bss_cons (bs_for PassesOwn.never rfl (bi_range1 (by rfl) T.b_range (ba_cons (be_op od_addA be_int (be_call (fun h => C__law_draw.pe (hr.mono (by decide)) (by rfl) h) (ba_cons (be_pv (pv 0)) (ba_cons (be_callB (cd_min2 rfl) (by rfl) T.b_min (by decide +kernel) (ba_cons be_int (ba_cons (be_callB cd_len (by rfl) T.b_len boot_len (ba_cons (be_pv (pv 1)) ba_nil)) ba_nil))) ba_nil)))) ba_nil)) (bg_name (pg_name (i := 4) sc__law_row.nd rfl (by first | exact Or.inl rfl | exact Or.inr rfl)))
    (bss_cons (bs_set (fun h => ps_set (i := 5) sc__law_row.nd rfl (Or.inl rfl) h) (be_call (fun h => C__law_pop.pe (hr.mono (by decide)) (by rfl) h) (ba_cons (be_pv (pv 0)) (ba_cons (be_pv (pv 2)) ba_nil))))
    (bss_one (bs_expr (be_mut PySem.F.plainAttrs_list PySem.F.slot_list_append PySem.F.type_list_append mw_append (pv 3) (ba_cons (be_tup (ba_cons (be_pv (pv 5)) (ba_cons (be_op od_addA be_int (be_call (fun h => C__law_draw.pe (hr.mono (by decide)) (by rfl) h) (ba_cons (be_pv (pv 0)) (ba_cons (be_op od_sub (be_call (fun h => C__law_full.pe (hr.mono (by decide)) (by rfl) h) (ba_cons (be_ix (u65 hr) (be_pv (pv 1)) (be_pv (pv 5))) ba_nil)) be_int) ba_nil)))) ba_nil))) ba_nil))))))
    (bss_one (bs_ret (be_callTy cd_tuple (by rfl) T.b_tuple boot_tuple (ba_cons (be_pv (pv 3)) ba_nil)))))))) (hw__law_row)
theorem ok__law_chain {P : Program} {w : World} {K : PySem.W.Frag} {mg : Str → Option Value} {base : Heap} {f : Addr} {fd : FuncData} (F : Fun K "_law_chain" "_law_chain" s__law_chain f fd) (T : Txt K mg) (C__law_draw : Cal P w K mg base CX0 1 "_law_draw" ["d", "many"] (spV K [.m, .v] S__law_draw)) (C__law_full : Cal P w K mg base CX0 1 "_law_full" ["top"] (spV K [.v] S__law_full)) (C__law_pop : Cal P w K mg base CX0 2 "_law_pop" ["d", "row"] (spV K [.m, .m] S__law_pop)) : FnOk P w K mg base CX0 3 f fd ["d", "tops"] (spT K [.m, .v] S__law_chain) :=
  fnT (k := 3 - 1) (ws := w__law_chain) F sc__law_chain rfl (fun cdv A outer s H E hr => (bssT_cons (bs_setN (fun h => ps_set (i := 2) sc__law_chain.nd rfl (Or.inl rfl) h) (bn_listRg rfl (by rfl) T.b_list (brg_1 (by rfl) T.b_range (be_callB cd_len (by rfl) T.b_len boot_len (ba_cons (be_pv (pv 1)) ba_nil)))))
    (bssT_cons (bs_set (fun h => ps_set (i := 3) sc__law_chain.nd rfl (Or.inl rfl) h) (be_call (fun h => C__law_pop.pe (hr.mono (by decide)) (by rfl) h) (ba_cons (be_pv (pv 0)) (ba_cons (be_pv (pv 2)) ba_nil))))
    (bssT_cons (bs_set (fun h => ps_set (i := 4) sc__law_chain.nd rfl (Or.inl rfl) h) (be_op od_addA be_int (be_call (fun h => C__law_draw.pe (hr.mono (by decide)) (by rfl) h) (ba_cons (be_pv (pv 0)) (ba_cons (be_op od_sub (be_call (fun h => C__law_full.pe (hr.mono (by decide)) (by rfl) h) (ba_cons (be_ix (u65 hr) (be_pv (pv 1)) (be_pv (pv 3))) ba_nil)) be_int) ba_nil)))))
    (bssT_cons (bs_set (fun h => ps_set (i := 5) sc__law_chain.nd rfl (Or.inl rfl) h) (be_tup (ba_cons (be_pv (pv 3)) (ba_cons (be_pv (pv 4)) ba_nil))))
    (bssT_cons (bs_setN (fun h => ps_set (i := 6) sc__law_chain.nd rfl (Or.inl rfl) h) (bn_lst ba_nil))
    (bssT_cons (bs_set (fun h => ps_set (i := 7) sc__law_chain.nd rfl (Or.inl rfl) h) (be_callB cd_len (by rfl) T.b_len boot_len (ba_cons (be_pv (pv 2)) ba_nil)))
    (bssT_cons (bs_if (bt_cmp (od_eq hr.units) (be_call (fun h => C__law_draw.pe (hr.mono (by decide)) (by rfl) h) (ba_cons (be_pv (pv 0)) (ba_cons be_int ba_nil))) be_int (nomark _))
    (bss_one (bs_set (fun h => ps_set (i := 7) sc__law_chain.nd rfl (Or.inl rfl) h) (be_call (fun h => C__law_draw.pe (hr.mono (by decide)) (by rfl) h) (ba_cons (be_pv (pv 0)) (ba_cons (be_op od_addA (be_callB cd_len (by rfl) T.b_len boot_len (ba_cons (be_pv (pv 2)) ba_nil)) be_int) ba_nil)))))
    bss_nil)
    (bssT_cons (bs_for PassesOwn.never rfl (bi_range1 (by rfl) T.b_range (ba_cons (be_pv (pv 7)) ba_nil)) (bg_name (pg_name (i := 8) sc__law_chain.nd rfl (by first | exact Or.inl rfl | exact Or.inr rfl)))
    (bss_cons (bs_set (fun h => ps_set (i := 9) sc__law_chain.nd rfl (Or.inl rfl) h) (be_call (fun h => C__law_pop.pe (hr.mono (by decide)) (by rfl) h) (ba_cons (be_pv (pv 0)) (ba_cons (be_pv (pv 2)) ba_nil))))
    (bss_cons (bs_set (fun h => ps_set (i := 10) sc__law_chain.nd rfl (Or.inl rfl) h) (be_call (fun h => C__law_full.pe (hr.mono (by decide)) (by rfl) h) (ba_cons (be_ix (u65 hr) (be_pv (pv 1)) (be_pv (pv 9))) ba_nil)))
    (bss_cons (bs_set (fun h => ps_set (i := 11) sc__law_chain.nd rfl (Or.inl rfl) h) (be_op od_addA be_int (be_call (fun h => C__law_draw.pe (hr.mono (by decide)) (by rfl) h) (ba_cons (be_pv (pv 0)) (ba_cons (be_op od_sub (be_pv (pv 10)) be_int) ba_nil)))))
    (bss_cons (bs_expr (be_mut PySem.F.plainAttrs_list PySem.F.slot_list_append PySem.F.type_list_append mw_append (pv 6) (ba_cons (be_tup (ba_cons (be_tup (ba_cons (be_pv (pv 3)) (ba_cons (be_pv (pv 4)) ba_nil))) (ba_cons (be_tup (ba_cons (be_pv (pv 9)) (ba_cons (be_op od_sub (be_pv (pv 10)) (be_pv (pv 11))) ba_nil))) ba_nil))) ba_nil)))
    (bss_cons (bs_set (fun h => ps_set (i := 3) sc__law_chain.nd rfl (Or.inl rfl) h) (be_pv (pv 9)))
    (bss_one (bs_set (fun h => ps_set (i := 4) sc__law_chain.nd rfl (Or.inl rfl) h) (be_pv (pv 11))))))))))
    (bssT_cons (bs_if (bt_cmp (od_eq hr.units) (be_call (fun h => C__law_draw.pe (hr.mono (by decide)) (by rfl) h) (ba_cons (be_pv (pv 0)) (ba_cons be_int ba_nil))) be_int (nomark _))
    (bss_one (bs_expr (be_mut PySem.F.plainAttrs_list PySem.F.slot_list_append PySem.F.type_list_append mw_append (pv 6) (ba_cons (be_tup (ba_cons (be_tup (ba_cons (be_pv (pv 3)) (ba_cons (be_pv (pv 4)) ba_nil))) ba_nil)) ba_nil))))
    bss_nil)
    (bssT_last (ps_ret2 (pv 5) (pv 6))))))))))))) (hw__law_chain)
theorem ok__law_mixed {P : Program} {w : World} {K : PySem.W.Frag} {mg : Str → Option Value} {base : Heap} {f : Addr} {fd : FuncData} (F : Fun K "_law_mixed" "_law_mixed" s__law_mixed f fd) (T : Txt K mg) (C__law_pop : Cal P w K mg base CX0 2 "_law_pop" ["d", "row"] (spV K [.m, .m] S__law_pop)) (C__law_draw : Cal P w K mg base CX0 1 "_law_draw" ["d", "many"] (spV K [.m, .v] S__law_draw)) : FnOk P w K mg base CX0 3 f fd ["d", "rows"] (spV K [.m, .v] S__law_mixed) :=
  fnV (k := 3 - 1) (ws := w__law_mixed) F sc__law_mixed rfl (fun cdv A outer s H E hr => (bss_cons (bs_setN (fun h => ps_set (i := 2) sc__law_mixed.nd rfl (Or.inr rfl) h) (bn_callTy cn_list (by rfl) T.b_list boot_list (ba_cons (be_pv (pv 1)) ba_nil)))
    (bss_cons (bs_if (bt_cmp (od_eq hr.units) (be_call (fun h => C__law_draw.pe (hr.mono (by decide)) (by rfl) h) (ba_cons (be_pv (pv 0)) (ba_cons be_int ba_nil))) be_int (nomark _))
    (bss_one (bs_ret (be_callTy cd_tuple (by rfl) T.b_tuple boot_tuple (ba_cons (be_rev (be_pv (pv 2))) ba_nil))))
    bss_nil)
    (bss_one (bs_ret (be_callTy cd_tuple (by rfl) T.b_tuple boot_tuple (ba_cons ((bn_lc (by decide) (pe_lc (own := [("k", 3)]) rfl sc__law_mixed.nd (bi_range1 (by rfl) T.b_range (ba_cons (be_callB cd_len (by rfl) T.b_len boot_len (ba_cons (be_pv (pv 1)) ba_nil)) ba_nil)).pi (blkOk_by (own := [("k", 3)]) (N := ["d", "rows", "left", "k"]) (sc := defScope s__law_mixed) (by decide +kernel)) (fun _ _ _ _ _ => (bg_name (pg_name (i := 3) sc__law_mixed.nd rfl (by first | exact Or.inl rfl | exact Or.inr rfl))).pg) (fun _ _ _ _ _ => bts_nil.pts) (fun _ _ _ _ _ => (be_call (fun h => C__law_pop.pe (hr.mono (by decide)) (by rfl) h) (ba_cons (be_pv (pv 0)) (ba_cons (be_pv (pv 2)) ba_nil))).pe)))).be ba_nil))))))) (hw__law_mixed)
theorem ok__law_case {P : Program} {w : World} {K : PySem.W.Frag} {mg : Str → Option Value} {base : Heap} {f : Addr} {fd : FuncData} (F : Fun K "_law_case" "_law_case" s__law_case f fd) (T : Txt K mg) (C__law_draw : Cal P w K mg base CX0 1 "_law_draw" ["d", "many"] (spV K [.m, .v] S__law_draw)) (C__law_full : Cal P w K mg base CX0 1 "_law_full" ["top"] (spV K [.v] S__law_full)) (C__law_mixed : Cal P w K mg base CX0 3 "_law_mixed" ["d", "rows"] (spV K [.m, .v] S__law_mixed)) (C__law_row : Cal P w K mg base CX0 3 "_law_row" ["d", "tops"] (spV K [.m, .v] S__law_row)) (C__law_chain : Cal P w K mg base CX0 3 "_law_chain" ["d", "tops"] (spT K [.m, .v] S__law_chain)) (C__law_wide : Cal P w K mg base CX0 2 "_law_wide" ["d"] (spV K [.m] S__law_wide)) (C__law_tops : Cal P w K mg base CX0 3 "_law_tops" ["d"] (spV K [.m] S__law_tops)) : FnOk P w K mg base CX0 4 f fd ["d", "is_wide"] (spV K [.m, .v] S__law_case) :=
  fnV (k := 4 - 1) (ws := w__law_case) F sc__law_case rfl (fun cdv A outer s H E hr => (bss_cons (bs_set (fun h => ps_set (i := 2) sc__law_case.nd rfl (Or.inl rfl) h) (be_call (fun h => C__law_tops.pe (hr.mono (by decide)) (by rfl) h) (ba_cons (be_pv (pv 0)) ba_nil)))
    (bss_cons (bs_if (bt_val (be_pv (pv 1)))
    (bss_one (bs_set (fun h => ps_set (i := 2) sc__law_case.nd rfl (Or.inl rfl) h) (be_call (fun h => C__law_wide.pe (hr.mono (by decide)) (by rfl) h) (ba_cons (be_pv (pv 0)) ba_nil))))
    bss_nil)
    (bss_cons (bs_if (bt_cmp (od_eq hr.units) (be_callB cd_len (by rfl) T.b_len boot_len (ba_cons (be_pv (pv 2)) ba_nil)) be_int (nomark _))
    (bss_one (bs_ret (be_tup (ba_cons (be_tup ba_nil) (ba_cons (be_tup ba_nil) (ba_cons (be_tup ba_nil) ba_nil))))))
    bss_nil)
    (bss_cons (bs_unpT (fun h => ps_asg (C__law_chain.pe (hr.mono (by decide)) (by rfl) h) (pg_tup rfl (pgs_cons (pg_name (i := 3) sc__law_case.nd rfl (Or.inl rfl)) (pgs_cons (pg_name (i := 4) sc__law_case.nd rfl (Or.inl rfl)) pgs_nil)))) (ba_cons (be_pv (pv 0)) (ba_cons (be_pv (pv 2)) ba_nil)))
    (bss_cons (bs_for PassesOwn.never rfl (bi_range1 (by rfl) T.b_range (ba_cons (be_call (fun h => C__law_draw.pe (hr.mono (by decide)) (by rfl) h) (ba_cons (be_pv (pv 0)) (ba_cons be_int ba_nil))) ba_nil)) (bg_name (pg_name (i := 5) sc__law_case.nd rfl (by first | exact Or.inl rfl | exact Or.inr rfl)))
    (bss_one (bs_expr (be_mut PySem.F.plainAttrs_list PySem.F.slot_list_append PySem.F.type_list_append mw_append (pv 4) (ba_cons (be_call (fun h => C__law_row.pe (hr.mono (by decide)) (by rfl) h) (ba_cons (be_pv (pv 0)) (ba_cons (be_pv (pv 2)) ba_nil))) ba_nil)))))
    (bss_cons (bs_set (fun h => ps_set (i := 4) sc__law_case.nd rfl (Or.inl rfl) h) (be_call (fun h => C__law_mixed.pe (hr.mono (by decide)) (by rfl) h) (ba_cons (be_pv (pv 0)) (ba_cons (be_pv (pv 4)) ba_nil))))
    (bss_cons (bs_setN (fun h => ps_set (i := 6) sc__law_case.nd rfl (Or.inl rfl) h) (bn_lst ba_nil))
    (bss_cons (bs_for PassesOwn.never rfl (bi_seq (be_pv (pv 2))) (bg_name (pg_name (i := 7) sc__law_case.nd rfl (by first | exact Or.inl rfl | exact Or.inr rfl)))
    (bss_cons (bs_set (fun h => ps_set (i := 8) sc__law_case.nd rfl (Or.inl rfl) h) (be_op od_addA be_int (be_call (fun h => C__law_draw.pe (hr.mono (by decide)) (by rfl) h) (ba_cons (be_pv (pv 0)) (ba_cons (be_call (fun h => C__law_full.pe (hr.mono (by decide)) (by rfl) h) (ba_cons (be_pv (pv 7)) ba_nil)) ba_nil)))))
    (bss_cons (bs_if (bt_cmp od_gt (be_call (fun h => C__law_draw.pe (hr.mono (by decide)) (by rfl) h) (ba_cons (be_pv (pv 0)) (ba_cons be_int ba_nil))) be_int (nomark _))
    (bss_one (bs_set (fun h => ps_set (i := 8) sc__law_case.nd rfl (Or.inl rfl) h) (be_call (fun h => C__law_full.pe (hr.mono (by decide)) (by rfl) h) (ba_cons (be_pv (pv 7)) ba_nil))))
    bss_nil)
    (bss_one (bs_expr (be_mut PySem.F.plainAttrs_list PySem.F.slot_list_append PySem.F.type_list_append mw_append (pv 6) (ba_cons (be_pv (pv 8)) ba_nil)))))))
    (bss_cons (bs_if (bt_cmp od_gt (be_call (fun h => C__law_draw.pe (hr.mono (by decide)) (by rfl) h) (ba_cons (be_pv (pv 0)) (ba_cons be_int ba_nil))) be_int (nomark _))
    (bss_one (bs_item (fun h1 h2 h3 h4 => ps_asg h1 (pg_sub h2 h3 h4)) (be_ix (u65 hr) (be_pv (pv 3)) be_int) (pv 6) (be_ix (u65 hr) (be_pv (pv 3)) be_int)))
    bss_nil)
    (bss_cons (bs_setN (fun h => ps_set (i := 9) sc__law_case.nd rfl (Or.inl rfl) h) (bn_lst ba_nil))
    (bss_cons (bs_for PassesOwn.never rfl (bi_range1 (by rfl) T.b_range (ba_cons (be_callB cd_len (by rfl) T.b_len boot_len (ba_cons (be_pv (pv 2)) ba_nil)) ba_nil)) (bg_name (pg_name (i := 5) sc__law_case.nd rfl (by first | exact Or.inl rfl | exact Or.inr rfl)))
    (bss_one (bs_expr (be_mut PySem.F.plainAttrs_list PySem.F.slot_list_append PySem.F.type_list_append mw_append (pv 9) (ba_cons (be_orI (be_op od_and (be_op od_addA be_int (be_call (fun h => C__law_draw.pe (hr.mono (by decide)) (by rfl) h) (ba_cons (be_pv (pv 0)) (ba_cons (be_call (fun h => C__law_full.pe (hr.mono (by decide)) (by rfl) h) (ba_cons (be_ix (u65 hr) (be_pv (pv 2)) (be_pv (pv 5))) ba_nil)) ba_nil)))) (be_ix (u65 hr) (be_pv (pv 6)) (be_pv (pv 5)))) (be_one (be_ix (u65 hr) (be_pv (pv 6)) (be_pv (pv 5))))) ba_nil)))))
    (bss_one (bs_ret (be_tup (ba_cons (be_pv (pv 4)) (ba_cons (be_callTy cd_tuple (by rfl) T.b_tuple boot_tuple (ba_cons (be_pv (pv 6)) ba_nil)) (ba_cons (be_callTy cd_tuple (by rfl) T.b_tuple boot_tuple (ba_cons (be_pv (pv 9)) ba_nil)) ba_nil)))))))))))))))))) (hw__law_case)
theorem ok__law_narrow {P : Program} {w : World} {K : PySem.W.Frag} {mg : Str → Option Value} {base : Heap} {f : Addr} {fd : FuncData} (F : Fun K "_law_narrow" "_law_narrow" s__law_narrow f fd) (T : Txt K mg) : FnOk P w K mg base CX0 1 f fd ["rows", "box"] (spV K [.v, .v] S__law_narrow) :=
  fnV (k := 1 - 1) (ws := w__law_narrow) F sc__law_narrow rfl (fun cdv A outer s H E hr => (bss_cons (bs_setN (fun h => ps_set (i := 2) sc__law_narrow.nd rfl (Or.inr rfl) h) (bn_callTy cn_list (by rfl) T.b_list boot_list (ba_cons (be_pv (pv 1)) ba_nil)))
    (bss_cons (bs_for PassesOwn.never rfl (bi_range1 (by rfl) T.b_range (ba_cons be_int ba_nil)) (bg_name (pg_name (i := 3) sc__law_narrow.nd rfl (by first | exact Or.inl rfl | exact Or.inr rfl)))
    (bss_cons (bs_set (fun h => ps_set (i := 4) sc__law_narrow.nd rfl (Or.inl rfl) h) be_bl)
    (bss_cons (bs_for PassesOwn.never rfl (bi_seq (be_rev (be_pv (pv 0)))) (bg_name (pg_name (i := 5) sc__law_narrow.nd rfl (by first | exact Or.inl rfl | exact Or.inr rfl)))
    (bss_cons (bs_setLc (by decide) (ps_setLc (i := 6) (own := [("pair", 8)]) rfl sc__law_narrow.nd rfl rfl (sw_true rfl rfl rfl (by decide +kernel)) (bi_seq (be_pv (pv 5))).pi (blkOk_by (own := [("pair", 8)]) (N := ["rows", "box", "masks", "turn", "is_same", "row", "loose", "k", "pair"]) (sc := defScope s__law_narrow) (by decide +kernel)) (fun _ _ _ _ _ => (bg_name (pg_name (i := 8) sc__law_narrow.nd rfl (by first | exact Or.inl rfl | exact Or.inr rfl))).pg) (fun _ _ _ _ _ => (bts_one (bt_cmp (od_ne hr.units) (be_op od_and (be_ix (u65 hr) (be_pv (pv 2)) (be_ix (u65 hr) (be_pv (pv 8)) be_int)) (be_ix (u65 hr) (be_pv (pv 8)) be_int)) (be_ix (u65 hr) (be_pv (pv 2)) (be_ix (u65 hr) (be_pv (pv 8)) be_int)) (nomark _))).pts) (fun _ _ _ _ _ => (be_pv (pv 8)).pe)))
    (bss_cons (bs_if (bt_cmp (od_eq hr.units) (be_callB cd_len (by rfl) T.b_len boot_len (ba_cons (be_pv (pv 6)) ba_nil)) be_int (nomark _))
    (bss_one (bs_ret be_non))
    bss_nil)
    (bss_one (bs_if (bt_cmp (od_eq hr.units) (be_callB cd_len (by rfl) T.b_len boot_len (ba_cons (be_pv (pv 6)) ba_nil)) be_int (nomark _))
    (bss_cons (bs_set (fun h => ps_set (i := 7) sc__law_narrow.nd rfl (Or.inl rfl) h) (be_ix (u65 hr) (be_ix (u65 hr) (be_pv (pv 6)) be_int) be_int))
    (bss_one (bs_if (bt_cmp (od_ne hr.units) (be_op od_and (be_ix (u65 hr) (be_pv (pv 2)) (be_pv (pv 7))) (be_ix (u65 hr) (be_ix (u65 hr) (be_pv (pv 6)) be_int) be_int)) be_int (nomark _))
    (bss_cons (bs_item (fun h1 h2 h3 h4 => ps_asg h1 (pg_sub h2 h3 h4)) (be_op od_sub (be_ix (u65 hr) (be_pv (pv 2)) (be_pv (pv 7))) (be_op od_and (be_ix (u65 hr) (be_pv (pv 2)) (be_pv (pv 7))) (be_ix (u65 hr) (be_ix (u65 hr) (be_pv (pv 6)) be_int) be_int))) (pv 2) (be_pv (pv 7)))
    (bss_one (bs_set (fun h => ps_set (i := 4) sc__law_narrow.nd rfl (Or.inl rfl) h) be_bl)))
    bss_nil)))
    bss_nil)))))
    (bss_one (bs_if (bt_val (be_pv (pv 4)))
    (bss_one (bs_ret (be_callTy cd_tuple (by rfl) T.b_tuple boot_tuple (ba_cons (be_pv (pv 2)) ba_nil))))
    bss_nil)))))
    (bss_one (bs_ret (be_callTy cd_tuple (by rfl) T.b_tuple boot_tuple (ba_cons (be_pv (pv 2)) ba_nil))))))) (hw__law_narrow)
theorem ok__law_states {P : Program} {w : World} {K : PySem.W.Frag} {mg : Str → Option Value} {base : Heap} {f : Addr} {fd : FuncData} (F : Fun K "_law_states" "_law_states" s__law_states f fd) (T : Txt K mg) (C__law_values : Cal P w K mg base CX0 1 "_law_values" ["mask"] (spV K [.v] S__law_values)) : FnOk P w K mg base CX0 2 f fd ["box", "most"] (spV K [.v, .v] S__law_states) :=
  fnV (k := 2 - 1) (ws := w__law_states) F sc__law_states rfl (fun cdv A outer s H E hr => (bss_cons (bs_setV (fun h => ps_set (i := 2) sc__law_states.nd rfl (Or.inl rfl) h) (bn_lst (ba_cons (be_tup ba_nil) ba_nil)))
    (bss_cons (bs_for PassesOwn.never rfl (bi_seq (be_pv (pv 0))) (bg_name (pg_name (i := 3) sc__law_states.nd rfl (by first | exact Or.inl rfl | exact Or.inr rfl)))
    (bss_cons (bs_set (fun h => ps_set (i := 4) sc__law_states.nd rfl (Or.inl rfl) h) (be_call (fun h => C__law_values.pe (hr.mono (by decide)) (by rfl) h) (ba_cons (be_pv (pv 3)) ba_nil)))
    (bss_cons (bs_setN (fun h => ps_set (i := 5) sc__law_states.nd rfl (Or.inl rfl) h) (bn_lst ba_nil))
    (bss_cons (bs_for PassesOwn.never rfl (bi_seq (be_pv (pv 2))) (bg_name (pg_name (i := 6) sc__law_states.nd rfl (by first | exact Or.inl rfl | exact Or.inr rfl)))
    (bss_one (bs_expr (be_mut PySem.F.plainAttrs_list PySem.F.slot_list_extend PySem.F.type_list_extend mw_extend (pv 5) (ba_cons ((bn_lc (by decide) (pe_lc (own := [("v", 7)]) rfl sc__law_states.nd (bi_seq (be_pv (pv 4))).pi (blkOk_by (own := [("v", 7)]) (N := ["box", "most", "rows", "mask", "values", "longer", "row", "v"]) (sc := defScope s__law_states) (by decide +kernel)) (fun _ _ _ _ _ => (bg_name (pg_name (i := 7) sc__law_states.nd rfl (by first | exact Or.inl rfl | exact Or.inr rfl))).pg) (fun _ _ _ _ _ => bts_nil.pts) (fun _ _ _ _ _ => (be_op od_addA (be_pv (pv 6)) (be_tup (ba_cons (be_pv (pv 7)) ba_nil))).pe)))).be ba_nil)))))
    (bss_one (bs_setV (fun h => ps_set (i := 2) sc__law_states.nd rfl (Or.inl rfl) h) (bn_slice (be_pv (pv 5)) bo_none (bo_some (be_pv (pv 1))))))))))
    (bss_one (bs_ret (be_pv (pv 2))))))) (hw__law_states)
theorem ok__law_in {P : Program} {w : World} {K : PySem.W.Frag} {mg : Str → Option Value} {base : Heap} {f : Addr} {fd : FuncData} (F : Fun K "_law_in" "_law_in" s__law_in f fd) (T : Txt K mg) : FnOk P w K mg base CX0 1 f fd ["box", "state"] (spV K [.v, .v] S__law_in) :=
  fnV (k := 1 - 1) (ws := w__law_in) F sc__law_in rfl (fun cdv A outer s H E hr => (bss_one (bs_ret (be_cmp (od_eq hr.units) (be_callB cd_len (by rfl) T.b_len boot_len (ba_cons ((bn_lc (by decide) (pe_lc (own := [("k", 2)]) rfl sc__law_in.nd (bi_range1 (by rfl) T.b_range (ba_cons (be_callB cd_len (by rfl) T.b_len boot_len (ba_cons (be_pv (pv 0)) ba_nil)) ba_nil)).pi (blkOk_by (own := [("k", 2)]) (N := ["box", "state", "k"]) (sc := defScope s__law_in) (by decide +kernel)) (fun _ _ _ _ _ => (bg_name (pg_name (i := 2) sc__law_in.nd rfl (by first | exact Or.inl rfl | exact Or.inr rfl))).pg) (fun _ _ _ _ _ => (bts_one (bt_cmp (od_eq hr.units) (be_op od_and (be_op od_shr (be_ix (u65 hr) (be_pv (pv 0)) (be_pv (pv 2))) (be_ix (u65 hr) (be_pv (pv 1)) (be_pv (pv 2)))) be_int) be_int (nomark _))).pts) (fun _ _ _ _ _ => (be_pv (pv 2)).pe)))).be ba_nil)) be_int (nomark _))))) (hw__law_in)
theorem ok__law_let {P : Program} {w : World} {K : PySem.W.Frag} {mg : Str → Option Value} {base : Heap} {f : Addr} {fd : FuncData} (F : Fun K "_law_let" "_law_let" s__law_let f fd) (T : Txt K mg) (C__law_meets : Cal P w K mg base CX0 1 "_law_meets" ["limits", "state"] (spV K [.v, .v] S__law_meets)) : FnOk P w K mg base CX0 2 f fd ["rows", "state"] (spV K [.v, .v] S__law_let) :=
  fnV (k := 2 - 1) (ws := w__law_let) F sc__law_let rfl (fun cdv A outer s H E hr => (bss_one (bs_ret (be_cmp (od_eq hr.units) (be_callB cd_len (by rfl) T.b_len boot_len (ba_cons ((bn_lc (by decide) (pe_lc (own := [("row", 2)]) rfl sc__law_let.nd (bi_seq (be_pv (pv 0))).pi (blkOk_by (own := [("row", 2)]) (N := ["rows", "state", "row"]) (sc := defScope s__law_let) (by decide +kernel)) (fun _ _ _ _ _ => (bg_name (pg_name (i := 2) sc__law_let.nd rfl (by first | exact Or.inl rfl | exact Or.inr rfl))).pg) (fun _ _ _ _ _ => (bts_one (bt_val (be_call (fun h => C__law_meets.pe (hr.mono (by decide)) (by rfl) h) (ba_cons (be_pv (pv 2)) (ba_cons (be_pv (pv 1)) ba_nil))))).pts) (fun _ _ _ _ _ => (be_pv (pv 2)).pe)))).be ba_nil)) be_int (nomark _))))) (hw__law_let)
theorem ok__law_told {P : Program} {w : World} {K : PySem.W.Frag} {mg : Str → Option Value} {base : Heap} {f : Addr} {fd : FuncData} (F : Fun K "_law_told" "_law_told" s__law_told f fd) (T : Txt K mg) (C__law_let : Cal P w K mg base CX0 2 "_law_let" ["rows", "state"] (spV K [.v, .v] S__law_let)) (C__law_same : Cal P w K mg base CX0 5 "_law_same" ["one", "other"] (spV K [.v, .v] (S__law_same 3))) (C_narrowed : Cal P w K mg base CX0 2 "narrowed" ["rows", "box"] (spV K [.v, .v] S_narrowed)) (C__law_states : Cal P w K mg base CX0 2 "_law_states" ["box", "most"] (spV K [.v, .v] S__law_states)) (C__law_narrow : Cal P w K mg base CX0 1 "_law_narrow" ["rows", "box"] (spV K [.v, .v] S__law_narrow)) (C__law_in : Cal P w K mg base CX0 1 "_law_in" ["box", "state"] (spV K [.v, .v] S__law_in)) : FnOk P w K mg base CX0 6 f fd ["case"] (spV K [.v] S__law_told) :=
  fnV (k := 6 - 1) (ws := w__law_told) F sc__law_told rfl (fun cdv A outer s H E hr => (bss_cons (bs_unpack (fun h1 h2 => ps_asg h1 h2) (be_pv (pv 0)) (bg_tup rfl (bgs_cons (bg_name (pg_name (i := 1) sc__law_told.nd rfl (by first | exact Or.inl rfl | exact Or.inr rfl))) (bgs_cons (bg_name (pg_name (i := 2) sc__law_told.nd rfl (by first | exact Or.inl rfl | exact Or.inr rfl))) (bgs_cons (bg_name (pg_name (i := 3) sc__law_told.nd rfl (by first | exact Or.inl rfl | exact Or.inr rfl))) bgs_nil)))))
    (bss_cons (bs_set (fun h => ps_set (i := 4) sc__law_told.nd rfl (Or.inr rfl) h) (be_call (fun h => C__law_narrow.pe (hr.mono (by decide)) (by rfl) h) (ba_cons (be_pv (pv 1)) (ba_cons (be_pv (pv 2)) ba_nil))))
    (bss_cons (bs_if (BW.bt (bw_or (bt_not (bt_val (be_call (fun h => C__law_same.pe (hr.mono (by omega)) (by rfl) h) (ba_cons (be_call (fun h => C_narrowed.pe (hr.mono (by decide)) (by rfl) h) (ba_cons (be_pv (pv 1)) (ba_cons (be_pv (pv 2)) ba_nil))) (ba_cons (be_pv (pv 4)) ba_nil))))) (bw_or1 (bt_not (bt_val (be_call (fun h => C__law_same.pe (hr.mono (by omega)) (by rfl) h) (ba_cons (be_call (fun h => C_narrowed.pe (hr.mono (by decide)) (by rfl) h) (ba_cons (be_op od_addA (be_rev (be_pv (pv 1))) (be_pv (pv 1))) (ba_cons (be_pv (pv 2)) ba_nil))) (ba_cons (be_pv (pv 4)) ba_nil))))))))
    (bss_one (bs_ret be_bl))
    bss_nil)
    (bss_cons (bs_set (fun h => ps_set (i := 5) sc__law_told.nd rfl (Or.inl rfl) h) be_int)
    (bss_cons (bs_if (bt_cmp od_gt (be_callB cd_len (by rfl) T.b_len boot_len (ba_cons (be_pv (pv 2)) ba_nil)) be_int (nomark _))
    (bss_one (bs_set (fun h => ps_set (i := 5) sc__law_told.nd rfl (Or.inl rfl) h) be_int))
    bss_nil)
    (bss_cons (bs_for PassesOwn.never rfl (bi_seq (be_call (fun h => C__law_states.pe (hr.mono (by decide)) (by rfl) h) (ba_cons (be_pv (pv 2)) (ba_cons (be_pv (pv 5)) ba_nil)))) (bg_name (pg_name (i := 6) sc__law_told.nd rfl (by first | exact Or.inl rfl | exact Or.inr rfl)))
    (bss_one (bs_if (BW.bt (bw_and (bt_val (be_call (fun h => C__law_let.pe (hr.mono (by decide)) (by rfl) h) (ba_cons (be_pv (pv 1)) (ba_cons (be_pv (pv 6)) ba_nil)))) (bw_and1 (BW.bt (bw_or (bt_cmp od_isA (be_pv (pv 4)) be_non (nomark _)) (bw_or1 (bt_not (bt_val (be_call (fun h => C__law_in.pe (hr.mono (by decide)) (by rfl) h) (ba_cons (be_pv (pv 4)) (ba_cons (be_pv (pv 6)) ba_nil)))))))))))
    (bss_one (bs_ret be_bl))
    bss_nil)))
    (bss_cons (bs_if (BW.bt (bw_and (bt_cmp od_notA (be_pv (pv 4)) be_non (nomark _)) (bw_and1 (bt_not (bt_val (be_call (fun h => C__law_same.pe (hr.mono (by omega)) (by rfl) h) (ba_cons (be_call (fun h => C_narrowed.pe (hr.mono (by decide)) (by rfl) h) (ba_cons (be_pv (pv 1)) (ba_cons (be_pv (pv 4)) ba_nil))) (ba_cons (be_pv (pv 4)) ba_nil))))))))
    (bss_one (bs_ret be_bl))
    bss_nil)
    (bss_cons (bs_if (bt_not (bt_val (be_call (fun h => C__law_same.pe (hr.mono (by omega)) (by rfl) h) (ba_cons (be_call (fun h => C_narrowed.pe (hr.mono (by decide)) (by rfl) h) (ba_cons (be_slice (be_pv (pv 1)) (bo_some be_int) bo_none) (ba_cons (be_pv (pv 2)) ba_nil))) (ba_cons (be_call (fun h => C__law_narrow.pe (hr.mono (by decide)) (by rfl) h) (ba_cons (be_slice (be_pv (pv 1)) (bo_some be_int) bo_none) (ba_cons (be_pv (pv 2)) ba_nil))) ba_nil)))))
    (bss_one (bs_ret be_bl))
    bss_nil)
    (bss_cons (bs_set (fun h => ps_set (i := 7) sc__law_told.nd rfl (Or.inr rfl) h) (be_call (fun h => C_narrowed.pe (hr.mono (by decide)) (by rfl) h) (ba_cons (be_pv (pv 1)) (ba_cons (be_pv (pv 3)) ba_nil))))
    (bss_cons (bs_if (bt_not (bt_val (be_call (fun h => C__law_same.pe (hr.mono (by omega)) (by rfl) h) (ba_cons (be_pv (pv 7)) (ba_cons (be_call (fun h => C__law_narrow.pe (hr.mono (by decide)) (by rfl) h) (ba_cons (be_pv (pv 1)) (ba_cons (be_pv (pv 3)) ba_nil))) ba_nil)))))
    (bss_one (bs_ret be_bl))
    bss_nil)
    (bss_cons (bs_if (bt_cmp od_notA (be_pv (pv 7)) be_non (nomark _))
    (bss_one (bs_if (BW.bt (bw_or (bt_cmp od_isA (be_pv (pv 4)) be_non (nomark _)) (bw_or1 (bt_cmp od_gt (be_callB cd_len (by rfl) T.b_len boot_len (ba_cons ((bn_lc (by decide) (pe_lc (own := [("k", 10)]) rfl sc__law_told.nd (bi_range1 (by rfl) T.b_range (ba_cons (be_callB cd_len (by rfl) T.b_len boot_len (ba_cons (be_pv (pv 2)) ba_nil)) ba_nil)).pi (blkOk_by (own := [("k", 10)]) (N := ["case", "rows", "box", "part", "due", "many", "state", "less", "states", "point", "k", "v"]) (sc := defScope s__law_told) (by decide +kernel)) (fun _ _ _ _ _ => (bg_name (pg_name (i := 10) sc__law_told.nd rfl (by first | exact Or.inl rfl | exact Or.inr rfl))).pg) (fun _ _ _ _ _ => (bts_one (bt_cmp (od_ne hr.units) (be_op od_or (be_ix (u65 hr) (be_pv (pv 4)) (be_pv (pv 10))) (be_ix (u65 hr) (be_pv (pv 7)) (be_pv (pv 10)))) (be_ix (u65 hr) (be_pv (pv 4)) (be_pv (pv 10))) (nomark _))).pts) (fun _ _ _ _ _ => (be_pv (pv 10)).pe)))).be ba_nil)) be_int (nomark _)))))
    (bss_one (bs_ret be_bl))
    bss_nil))
    bss_nil)
    (bss_cons (bs_set (fun h => ps_set (i := 8) sc__law_told.nd rfl (Or.inl rfl) h) (be_call (fun h => C__law_states.pe (hr.mono (by decide)) (by rfl) h) (ba_cons (be_pv (pv 3)) (ba_cons be_int ba_nil))))
    (bss_cons (bs_for PassesOwn.never rfl (bi_seq ((bn_op od_cat (be_slice (be_pv (pv 8)) bo_none (bo_some be_int)) (be_slice (be_pv (pv 8)) (bo_some (be_un un_neg be_int)) bo_none))).be) (bg_name (pg_name (i := 6) sc__law_told.nd rfl (by first | exact Or.inl rfl | exact Or.inr rfl)))
    (bss_cons (bs_set (fun h => ps_set (i := 9) sc__law_told.nd rfl (Or.inl rfl) h) (be_callTy cd_tuple (by rfl) T.b_tuple boot_tuple (ba_cons ((bn_lc (by decide) (pe_lc (own := [("v", 11)]) rfl sc__law_told.nd (bi_seq (be_pv (pv 6))).pi (blkOk_by (own := [("v", 11)]) (N := ["case", "rows", "box", "part", "due", "many", "state", "less", "states", "point", "k", "v"]) (sc := defScope s__law_told) (by decide +kernel)) (fun _ _ _ _ _ => (bg_name (pg_name (i := 11) sc__law_told.nd rfl (by first | exact Or.inl rfl | exact Or.inr rfl))).pg) (fun _ _ _ _ _ => bts_nil.pts) (fun _ _ _ _ _ => (be_op od_shl be_int (be_pv (pv 11))).pe)))).be ba_nil)))
    (bss_one (bs_if (bt_val (be_call (fun h => C__law_let.pe (hr.mono (by decide)) (by rfl) h) (ba_cons (be_pv (pv 1)) (ba_cons (be_pv (pv 6)) ba_nil))))
    (bss_one (bs_if (bt_not (bt_val (be_call (fun h => C__law_same.pe (hr.mono (by omega)) (by rfl) h) (ba_cons (be_call (fun h => C_narrowed.pe (hr.mono (by decide)) (by rfl) h) (ba_cons (be_pv (pv 1)) (ba_cons (be_pv (pv 9)) ba_nil))) (ba_cons (be_pv (pv 9)) ba_nil)))))
    (bss_one (bs_ret be_bl))
    bss_nil))
    (bss_one (bs_if (bt_cmp od_notA (be_call (fun h => C_narrowed.pe (hr.mono (by decide)) (by rfl) h) (ba_cons (be_pv (pv 1)) (ba_cons (be_pv (pv 9)) ba_nil))) be_non (nomark _))
    (bss_one (bs_ret be_bl))
    bss_nil))))))
    (bss_one (bs_ret be_bl)))))))))))))))) (hw__law_told)
theorem ok__law_begin {P : Program} {w : World} {K : PySem.W.Frag} {mg : Str → Option Value} {base : Heap} {f : Addr} {fd : FuncData} (F : Fun K "_law_begin" "_law_begin" s__law_begin f fd) (T : Txt K mg) : FnOk P w K mg base CX0 1 f fd ["script"] (spBegin K) := by
  refine F.ok sc__law_begin (fun vs H Q E h => ?_) (fun cdv A outer s H vs Q E hr h => ?_)
  · obtain ⟨a, ns, rfl, _⟩ := h
    rfl
  · obtain ⟨a, ns, rfl, hS, hl, hk⟩ := h
    refine ⟨_, pss_one (ps_ret (pe_lst (pa_cons (pe_lc (own := [("cell", 1)]) rfl sc__law_begin.nd (pi_seq (pe_slice sl_list (pv 0) po_none (po_some pe_int))) (blkOk_by (own := [("cell", 1)]) (N := ["script", "cell"]) (sc := defScope s__law_begin) (by decide +kernel))
      (fun _ _ _ _ _ => pg_name (i := 1) sc__law_begin.nd rfl (by first | exact Or.inl rfl | exact Or.inr rfl)) (fun _ _ _ _ _ => pts_nil) (fun _ _ _ _ _ => pe_callTy call_int1 (by rfl) T.b_int boot_int (pa_cons (pv 1) pa_nil))) (pa_cons pe_int (pa_cons pe_int (pa_cons pe_int pa_nil)))))), ?_⟩
    refine ⟨_, rfl, ?_⟩
    refine ⟨_, rfl, a, _, rfl, hS, fun q0 hq0 => .inl ⟨q0, rfl, ⟨_, .of upd_same⟩, ?_⟩⟩
    have hc : cutV (ns.map V.int) none (some 63) = ns.map V.int := begin_cut hl
    intro D hD
    have nD : q0 ≠ D := fun z => by rw [← z, upd_same] at hD; cases hD
    have hD0 : H D = none := by rw [upd_ne nD.symm] at hD; exact hD
    refine ⟨fun i m H2 => m = ns.length - i ∧ i ≤ ns.length ∧ H2 q0 = some (.lst (ns.map V.int)) ∧ H2 D = some (.lst ((ns.take i).map V.int)) ∧ Sm H H2 ∧ ∀ a, H2 a = none → H a = none, ⟨_, rfl, Nat.zero_le _, by rw [upd_ne nD, upd_same, hc], upd_same, fun b o e => ?_, fun b z => ?_⟩, ?_⟩
    · rw [upd_ne (ne_of_none e hD0), upd_ne (ne_of_none e hq0)]; exact e
    · by_cases e1 : b = D
      · subst e1; rw [upd_same] at z; cases z
      · by_cases e2 : b = q0
        · subst e2; exact hq0
        · rw [upd_ne e1, upd_ne e2] at z; exact z
    · rintro i m H2 ⟨rfl, hi, h1, h2, sm, th⟩
      by_cases hlt : i < ns.length
      · refine .inr ⟨⟨_, .int ns[i], .of h1, by rw [List.getElem?_map, List.getElem?_eq_getElem hlt]; rfl⟩, fun H3 => H3 q0 = some (.lst (ns.map V.int)) ∧ H3 D = some (.lst ((ns.take (i + 1)).map V.int)) ∧ Sm H H3 ∧ ∀ a, H3 a = none → H a = none, fun H3 ⟨g1, g2, g3, g4⟩ => ⟨_, by omega, rfl, hlt, g1, g2, g3, g4⟩, ?_⟩
        rintro x H3 ⟨rfl, hx⟩
        have hx := hx _ (.of h1)
        rw [List.getElem?_map, List.getElem?_eq_getElem hlt] at hx
        cases hx
        refine ⟨rfl, _, rfl, .inl ⟨_, rfl, _, h2, by rw [List.length_map, List.length_take]; have : sizeLine = 2 ^ 24 := rfl; omega, by rw [upd_ne nD]; exact h1, ?_, fun b o e => by rw [upd_ne (ne_of_none e hD0)]; exact sm b o e, fun b z => ?_⟩⟩
        · rw [upd_same, List.take_succ, List.getElem?_eq_getElem hlt, List.map_append]; rfl
        · by_cases e1 : b = D
          · subst e1; exact hD0
          · rw [upd_ne e1] at z; exact th b z
      · have e : i = ns.length := by omega
        subst e
        refine .inl ⟨⟨_, .of h1, by simp⟩, by show 4 ≤ sizeLine; decide, fun p hp => ?_⟩
        have np : D ≠ p := fun z => by rw [← z, h2] at hp; cases hp
        refine hk p D _ (th p hp) hD0 np.symm (fun b o e => ?_) (fun b z => ?_) upd_same (by rw [upd_ne np, h2, List.take_length])
        · rw [upd_ne (ne_of_none e (th p hp))]; exact sm b o e
        · by_cases e1 : b = p
          · subst e1; rw [upd_same] at z; cases z
          · rw [upd_ne e1] at z; exact th b z

theorem ok_law {P : Program} {w : World} {K : PySem.W.Frag} {mg : Str → Option Value} {base : Heap} {f : Addr} {fd : FuncData} (F : Fun K "law" "law" s_law f fd) (T : Txt K mg) (C__law_begin : Cal P w K mg base CX0 1 "_law_begin" ["script"] (spBegin K)) (C__law_told : Cal P w K mg base CX0 6 "_law_told" ["case"] (spV K [.v] S__law_told)) (C__law_case : Cal P w K mg base CX0 4 "_law_case" ["d", "is_wide"] (spV K [.m, .v] S__law_case)) (C__law_draw : Cal P w K mg base CX0 1 "_law_draw" ["d", "many"] (spV K [.m, .v] S__law_draw)) : FnOk P w K mg base CX0 7 f fd ["script"] (spLaw K) := by
  refine F.ok sc_law (fun vs H Q E h => ?_) (fun cdv A outer s H vs Q E hr h => ?_)
  · obtain ⟨a, ns, rfl, _⟩ := h
    rfl
  · refine ⟨_, pss_cons (ps_set (i := 1) sc_law.nd rfl (Or.inl rfl) (C__law_begin.pe (hr.mono (by decide)) (by rfl) (pa_cons (pv 0) pa_nil))) (BSs.pss (X := (cxOf CX0 P w K mg base ["script", "d", "first", "second"] "law" (defScope s_law) f cdv A outer s H E).nox) (E := EN) (w := w_law) (bss_cons (bs_set (fun h => ps_set (i := 2) sc_law.nd rfl (Or.inl rfl) h) (be_call (fun h => C__law_case.pe (hr.mono (by decide)) (by rfl) h) (ba_cons (be_pv (pv 1)) (ba_cons be_bl ba_nil))))
    (bss_cons (bs_set (fun h => ps_set (i := 3) sc_law.nd rfl (Or.inl rfl) h) (be_call (fun h => C__law_case.pe (hr.mono (by decide)) (by rfl) h) (ba_cons (be_pv (pv 1)) (ba_cons (be_cmp (od_eq hr.units) (be_call (fun h => C__law_draw.pe (hr.mono (by decide)) (by rfl) h) (ba_cons (be_pv (pv 1)) (ba_cons be_int ba_nil))) be_int (nomark _)) ba_nil))))
    (bss_one (bs_ret (be_and (be_call (fun h => C__law_told.pe (hr.mono (by decide)) (by rfl) h) (ba_cons (be_pv (pv 2)) ba_nil)) (be_and (be_call (fun h => C__law_told.pe (hr.mono (by decide)) (by rfl) h) (ba_cons (be_pv (pv 3)) ba_nil)) (be_one (be_call (fun h => C__law_told.pe (hr.mono (by decide)) (by rfl) h) (ba_cons (be_pv (pv 2)) ba_nil)))))))))), ?_⟩
    obtain ⟨v, e, hb⟩ := law_read (X := (cxOf CX0 P w K mg base ["script", "d", "first", "second"] "law" (defScope s_law) f cdv A outer s H E).nox) rfl (E := EN) h (hw_law)
    subst e
    exact ⟨_, rfl, hb⟩
theorem all_mk {l : PySem.W.OpenLaw} {w : World} {K : PySem.W.Frag} {h : Heap} {mg : Str → Option Value} {fa : Addr} (X : K.In h) (G : h.Ns mainGlobals mg) (hfa : mg "law" = some (.ref fa))
    {f0 f1 f2 f3 f4 f5 f6 f7 f8 f9 f10 f11 f12 f13 f14 f15 f16 f17 f18 f19 f20 f21 f22 : Addr} {od0 an0 od1 an1 od2 an2 od3 an3 od4 an4 od5 an5 od6 an6 od7 an7 od8 an8 od9 an9 od10 an10 od11 an11 od12 an12 od13 an13 od14 an14 od15 an15 od16 an16 od17 an17 od18 an18 od19 an19 od20 an20 od21 an21 od22 an22 : Option Addr} {sl0 sl1 sl2 sl3 sl4 sl5 sl6 sl7 sl8 sl9 sl10 sl11 sl12 sl13 sl14 sl15 sl16 sl17 sl18 sl19 sl20 sl21 sl22 : Array (Option Value)} {oc0 kV0 dc0 pm0 cd0 ct0 oc1 kV1 dc1 pm1 cd1 ct1 oc2 kV2 dc2 pm2 cd2 ct2 oc3 kV3 dc3 pm3 cd3 ct3 oc4 kV4 dc4 pm4 cd4 ct4 oc5 kV5 dc5 pm5 cd5 ct5 oc6 kV6 dc6 pm6 cd6 ct6 oc7 kV7 dc7 pm7 cd7 ct7 oc8 kV8 dc8 pm8 cd8 ct8 oc9 kV9 dc9 pm9 cd9 ct9 oc10 kV10 dc10 pm10 cd10 ct10 oc11 kV11 dc11 pm11 cd11 ct11 oc12 kV12 dc12 pm12 cd12 ct12 oc13 kV13 dc13 pm13 cd13 ct13 oc14 kV14 dc14 pm14 cd14 ct14 oc15 kV15 dc15 pm15 cd15 ct15 oc16 kV16 dc16 pm16 cd16 ct16 oc17 kV17 dc17 pm17 cd17 ct17 oc18 kV18 dc18 pm18 cd18 ct18 oc19 kV19 dc19 pm19 cd19 ct19 oc20 kV20 dc20 pm20 cd20 ct20 oc21 kV21 dc21 pm21 cd21 ct21 oc22 kV22 dc22 pm22 cd22 ct22 : Value}
    (a0 : PySem.W.nsIn K mainGlobals "loose_pair" = some (some (.ref f0))) (l0 : K.lookup f0 = some ⟨oc0, od0, .func (PySem.W.fnOf "loose_pair" "loose_pair" (defArgs s_loose_pair) (defBody s_loose_pair) (defScope s_loose_pair) .none kV0 dc0 pm0 an0 cd0 ct0), sl0⟩) (c0 : PySem.W.codeIn K cd0 "loose_pair" = true) (k0 : PySem.W.keepIn K (.ref f0) = true)
    (a1 : PySem.W.nsIn K mainGlobals "_law_begin" = some (some (.ref f1))) (l1 : K.lookup f1 = some ⟨oc1, od1, .func (PySem.W.fnOf "_law_begin" "_law_begin" (defArgs s__law_begin) (defBody s__law_begin) (defScope s__law_begin) .none kV1 dc1 pm1 an1 cd1 ct1), sl1⟩) (c1 : PySem.W.codeIn K cd1 "_law_begin" = true) (k1 : PySem.W.keepIn K (.ref f1) = true)
    (a2 : PySem.W.nsIn K mainGlobals "_law_draw" = some (some (.ref f2))) (l2 : K.lookup f2 = some ⟨oc2, od2, .func (PySem.W.fnOf "_law_draw" "_law_draw" (defArgs s__law_draw) (defBody s__law_draw) (defScope s__law_draw) .none kV2 dc2 pm2 an2 cd2 ct2), sl2⟩) (c2 : PySem.W.codeIn K cd2 "_law_draw" = true) (k2 : PySem.W.keepIn K (.ref f2) = true)
    (a3 : PySem.W.nsIn K mainGlobals "_law_is_int" = some (some (.ref f3))) (l3 : K.lookup f3 = some ⟨oc3, od3, .func (PySem.W.fnOf "_law_is_int" "_law_is_int" (defArgs s__law_is_int) (defBody s__law_is_int) (defScope s__law_is_int) .none kV3 dc3 pm3 an3 cd3 ct3), sl3⟩) (c3 : PySem.W.codeIn K cd3 "_law_is_int" = true) (k3 : PySem.W.keepIn K (.ref f3) = true)
    (a4 : PySem.W.nsIn K mainGlobals "_law_full" = some (some (.ref f4))) (l4 : K.lookup f4 = some ⟨oc4, od4, .func (PySem.W.fnOf "_law_full" "_law_full" (defArgs s__law_full) (defBody s__law_full) (defScope s__law_full) .none kV4 dc4 pm4 an4 cd4 ct4), sl4⟩) (c4 : PySem.W.codeIn K cd4 "_law_full" = true) (k4 : PySem.W.keepIn K (.ref f4) = true)
    (a5 : PySem.W.nsIn K mainGlobals "_law_meets" = some (some (.ref f5))) (l5 : K.lookup f5 = some ⟨oc5, od5, .func (PySem.W.fnOf "_law_meets" "_law_meets" (defArgs s__law_meets) (defBody s__law_meets) (defScope s__law_meets) .none kV5 dc5 pm5 an5 cd5 ct5), sl5⟩) (c5 : PySem.W.codeIn K cd5 "_law_meets" = true) (k5 : PySem.W.keepIn K (.ref f5) = true)
    (a6 : PySem.W.nsIn K mainGlobals "_law_values" = some (some (.ref f6))) (l6 : K.lookup f6 = some ⟨oc6, od6, .func (PySem.W.fnOf "_law_values" "_law_values" (defArgs s__law_values) (defBody s__law_values) (defScope s__law_values) .none kV6 dc6 pm6 an6 cd6 ct6), sl6⟩) (c6 : PySem.W.codeIn K cd6 "_law_values" = true) (k6 : PySem.W.keepIn K (.ref f6) = true)
    (a7 : PySem.W.nsIn K mainGlobals "_law_narrow" = some (some (.ref f7))) (l7 : K.lookup f7 = some ⟨oc7, od7, .func (PySem.W.fnOf "_law_narrow" "_law_narrow" (defArgs s__law_narrow) (defBody s__law_narrow) (defScope s__law_narrow) .none kV7 dc7 pm7 an7 cd7 ct7), sl7⟩) (c7 : PySem.W.codeIn K cd7 "_law_narrow" = true) (k7 : PySem.W.keepIn K (.ref f7) = true)
    (a8 : PySem.W.nsIn K mainGlobals "_law_in" = some (some (.ref f8))) (l8 : K.lookup f8 = some ⟨oc8, od8, .func (PySem.W.fnOf "_law_in" "_law_in" (defArgs s__law_in) (defBody s__law_in) (defScope s__law_in) .none kV8 dc8 pm8 an8 cd8 ct8), sl8⟩) (c8 : PySem.W.codeIn K cd8 "_law_in" = true) (k8 : PySem.W.keepIn K (.ref f8) = true)
    (a9 : PySem.W.nsIn K mainGlobals "narrowed" = some (some (.ref f9))) (l9 : K.lookup f9 = some ⟨oc9, od9, .func (PySem.W.fnOf "narrowed" "narrowed" (defArgs s_narrowed) (defBody s_narrowed) (defScope s_narrowed) .none kV9 dc9 pm9 an9 cd9 ct9), sl9⟩) (c9 : PySem.W.codeIn K cd9 "narrowed" = true) (k9 : PySem.W.keepIn K (.ref f9) = true)
    (a10 : PySem.W.nsIn K mainGlobals "_law_pick" = some (some (.ref f10))) (l10 : K.lookup f10 = some ⟨oc10, od10, .func (PySem.W.fnOf "_law_pick" "_law_pick" (defArgs s__law_pick) (defBody s__law_pick) (defScope s__law_pick) .none kV10 dc10 pm10 an10 cd10 ct10), sl10⟩) (c10 : PySem.W.codeIn K cd10 "_law_pick" = true) (k10 : PySem.W.keepIn K (.ref f10) = true)
    (a11 : PySem.W.nsIn K mainGlobals "_law_pop" = some (some (.ref f11))) (l11 : K.lookup f11 = some ⟨oc11, od11, .func (PySem.W.fnOf "_law_pop" "_law_pop" (defArgs s__law_pop) (defBody s__law_pop) (defScope s__law_pop) .none kV11 dc11 pm11 an11 cd11 ct11), sl11⟩) (c11 : PySem.W.codeIn K cd11 "_law_pop" = true) (k11 : PySem.W.keepIn K (.ref f11) = true)
    (a12 : PySem.W.nsIn K mainGlobals "_law_wide" = some (some (.ref f12))) (l12 : K.lookup f12 = some ⟨oc12, od12, .func (PySem.W.fnOf "_law_wide" "_law_wide" (defArgs s__law_wide) (defBody s__law_wide) (defScope s__law_wide) .none kV12 dc12 pm12 an12 cd12 ct12), sl12⟩) (c12 : PySem.W.codeIn K cd12 "_law_wide" = true) (k12 : PySem.W.keepIn K (.ref f12) = true)
    (a13 : PySem.W.nsIn K mainGlobals "_law_states" = some (some (.ref f13))) (l13 : K.lookup f13 = some ⟨oc13, od13, .func (PySem.W.fnOf "_law_states" "_law_states" (defArgs s__law_states) (defBody s__law_states) (defScope s__law_states) .none kV13 dc13 pm13 an13 cd13 ct13), sl13⟩) (c13 : PySem.W.codeIn K cd13 "_law_states" = true) (k13 : PySem.W.keepIn K (.ref f13) = true)
    (a14 : PySem.W.nsIn K mainGlobals "_law_let" = some (some (.ref f14))) (l14 : K.lookup f14 = some ⟨oc14, od14, .func (PySem.W.fnOf "_law_let" "_law_let" (defArgs s__law_let) (defBody s__law_let) (defScope s__law_let) .none kV14 dc14 pm14 an14 cd14 ct14), sl14⟩) (c14 : PySem.W.codeIn K cd14 "_law_let" = true) (k14 : PySem.W.keepIn K (.ref f14) = true)
    (a15 : PySem.W.nsIn K mainGlobals "_law_tops" = some (some (.ref f15))) (l15 : K.lookup f15 = some ⟨oc15, od15, .func (PySem.W.fnOf "_law_tops" "_law_tops" (defArgs s__law_tops) (defBody s__law_tops) (defScope s__law_tops) .none kV15 dc15 pm15 an15 cd15 ct15), sl15⟩) (c15 : PySem.W.codeIn K cd15 "_law_tops" = true) (k15 : PySem.W.keepIn K (.ref f15) = true)
    (a16 : PySem.W.nsIn K mainGlobals "_law_row" = some (some (.ref f16))) (l16 : K.lookup f16 = some ⟨oc16, od16, .func (PySem.W.fnOf "_law_row" "_law_row" (defArgs s__law_row) (defBody s__law_row) (defScope s__law_row) .none kV16 dc16 pm16 an16 cd16 ct16), sl16⟩) (c16 : PySem.W.codeIn K cd16 "_law_row" = true) (k16 : PySem.W.keepIn K (.ref f16) = true)
    (a17 : PySem.W.nsIn K mainGlobals "_law_chain" = some (some (.ref f17))) (l17 : K.lookup f17 = some ⟨oc17, od17, .func (PySem.W.fnOf "_law_chain" "_law_chain" (defArgs s__law_chain) (defBody s__law_chain) (defScope s__law_chain) .none kV17 dc17 pm17 an17 cd17 ct17), sl17⟩) (c17 : PySem.W.codeIn K cd17 "_law_chain" = true) (k17 : PySem.W.keepIn K (.ref f17) = true)
    (a18 : PySem.W.nsIn K mainGlobals "_law_mixed" = some (some (.ref f18))) (l18 : K.lookup f18 = some ⟨oc18, od18, .func (PySem.W.fnOf "_law_mixed" "_law_mixed" (defArgs s__law_mixed) (defBody s__law_mixed) (defScope s__law_mixed) .none kV18 dc18 pm18 an18 cd18 ct18), sl18⟩) (c18 : PySem.W.codeIn K cd18 "_law_mixed" = true) (k18 : PySem.W.keepIn K (.ref f18) = true)
    (a19 : PySem.W.nsIn K mainGlobals "_law_case" = some (some (.ref f19))) (l19 : K.lookup f19 = some ⟨oc19, od19, .func (PySem.W.fnOf "_law_case" "_law_case" (defArgs s__law_case) (defBody s__law_case) (defScope s__law_case) .none kV19 dc19 pm19 an19 cd19 ct19), sl19⟩) (c19 : PySem.W.codeIn K cd19 "_law_case" = true) (k19 : PySem.W.keepIn K (.ref f19) = true)
    (a20 : PySem.W.nsIn K mainGlobals "_law_same" = some (some (.ref f20))) (l20 : K.lookup f20 = some ⟨oc20, od20, .func (PySem.W.fnOf "_law_same" "_law_same" (defArgs s__law_same) (defBody s__law_same) (defScope s__law_same) .none kV20 dc20 pm20 an20 cd20 ct20), sl20⟩) (c20 : PySem.W.codeIn K cd20 "_law_same" = true) (k20 : PySem.W.keepIn K (.ref f20) = true)
    (a21 : PySem.W.nsIn K mainGlobals "_law_told" = some (some (.ref f21))) (l21 : K.lookup f21 = some ⟨oc21, od21, .func (PySem.W.fnOf "_law_told" "_law_told" (defArgs s__law_told) (defBody s__law_told) (defScope s__law_told) .none kV21 dc21 pm21 an21 cd21 ct21), sl21⟩) (c21 : PySem.W.codeIn K cd21 "_law_told" = true) (k21 : PySem.W.keepIn K (.ref f21) = true)
    (a22 : PySem.W.nsIn K mainGlobals "law" = some (some (.ref f22))) (l22 : K.lookup f22 = some ⟨oc22, od22, .func (PySem.W.fnOf "law" "law" (defArgs s_law) (defBody s_law) (defScope s_law) .none kV22 dc22 pm22 an22 cd22 ct22), sl22⟩) (c22 : PySem.W.codeIn K cd22 "law" = true) (k22 : PySem.W.keepIn K (.ref f22) = true)
    (z_abs : PySem.W.nsIn K mainGlobals "abs" = some none) (z_bool : PySem.W.nsIn K mainGlobals "bool" = some none) (z_int : PySem.W.nsIn K mainGlobals "int" = some none) (z_isinstance : PySem.W.nsIn K mainGlobals "isinstance" = some none) (z_len : PySem.W.nsIn K mainGlobals "len" = some none) (z_list : PySem.W.nsIn K mainGlobals "list" = some none) (z_min : PySem.W.nsIn K mainGlobals "min" = some none) (z_range : PySem.W.nsIn K mainGlobals "range" = some none) (z_str : PySem.W.nsIn K mainGlobals "str" = some none) (z_sum : PySem.W.nsIn K mainGlobals "sum" = some none) (z_tuple : PySem.W.nsIn K mainGlobals "tuple" = some none) :
    ∃ fd : FuncData, (∀ (s : Shared) (v : Value), BindsTo s fd ⟨[v], []⟩ [("script", v)]) ∧ ∀ base : Heap, K.In base → base.Ns mainGlobals mg → FnOk l.prog w K mg base CX0 7 fa fd ["script"] (spLaw K) := by
  have e := hfa.symm.trans (PySem.W.mg_of X G a22)
  cases e
  have T : Txt K mg := ⟨PySem.W.mg_none_of X G z_abs, PySem.W.mg_none_of X G z_bool, PySem.W.mg_none_of X G z_int, PySem.W.mg_none_of X G z_isinstance, PySem.W.mg_none_of X G z_len, PySem.W.mg_none_of X G z_list, PySem.W.mg_none_of X G z_min, PySem.W.mg_none_of X G z_range, PySem.W.mg_none_of X G z_str, PySem.W.mg_none_of X G z_sum, PySem.W.mg_none_of X G z_tuple⟩
  have F0 := fun_mk (st := s_loose_pair) l0 c0 k0
  have b0 := F0.binds (ps := ["row", "masks"]) fun _ _ _ _ _ _ us hl => match us, hl with | [_, _], _ => rfl
  have F1 := fun_mk (st := s__law_begin) l1 c1 k1
  have b1 := F1.binds (ps := ["script"]) fun _ _ _ _ _ _ us hl => match us, hl with | [_], _ => rfl
  have F2 := fun_mk (st := s__law_draw) l2 c2 k2
  have b2 := F2.binds (ps := ["d", "many"]) fun _ _ _ _ _ _ us hl => match us, hl with | [_, _], _ => rfl
  have F3 := fun_mk (st := s__law_is_int) l3 c3 k3
  have b3 := F3.binds (ps := ["thing"]) fun _ _ _ _ _ _ us hl => match us, hl with | [_], _ => rfl
  have F4 := fun_mk (st := s__law_full) l4 c4 k4
  have b4 := F4.binds (ps := ["top"]) fun _ _ _ _ _ _ us hl => match us, hl with | [_], _ => rfl
  have F5 := fun_mk (st := s__law_meets) l5 c5 k5
  have b5 := F5.binds (ps := ["limits", "state"]) fun _ _ _ _ _ _ us hl => match us, hl with | [_, _], _ => rfl
  have F6 := fun_mk (st := s__law_values) l6 c6 k6
  have b6 := F6.binds (ps := ["mask"]) fun _ _ _ _ _ _ us hl => match us, hl with | [_], _ => rfl
  have F7 := fun_mk (st := s__law_narrow) l7 c7 k7
  have b7 := F7.binds (ps := ["rows", "box"]) fun _ _ _ _ _ _ us hl => match us, hl with | [_, _], _ => rfl
  have F8 := fun_mk (st := s__law_in) l8 c8 k8
  have b8 := F8.binds (ps := ["box", "state"]) fun _ _ _ _ _ _ us hl => match us, hl with | [_, _], _ => rfl
  have F9 := fun_mk (st := s_narrowed) l9 c9 k9
  have b9 := F9.binds (ps := ["rows", "box"]) fun _ _ _ _ _ _ us hl => match us, hl with | [_, _], _ => rfl
  have F10 := fun_mk (st := s__law_pick) l10 c10 k10
  have b10 := F10.binds (ps := ["d", "row"]) fun _ _ _ _ _ _ us hl => match us, hl with | [_, _], _ => rfl
  have F11 := fun_mk (st := s__law_pop) l11 c11 k11
  have b11 := F11.binds (ps := ["d", "row"]) fun _ _ _ _ _ _ us hl => match us, hl with | [_, _], _ => rfl
  have F12 := fun_mk (st := s__law_wide) l12 c12 k12
  have b12 := F12.binds (ps := ["d"]) fun _ _ _ _ _ _ us hl => match us, hl with | [_], _ => rfl
  have F13 := fun_mk (st := s__law_states) l13 c13 k13
  have b13 := F13.binds (ps := ["box", "most"]) fun _ _ _ _ _ _ us hl => match us, hl with | [_, _], _ => rfl
  have F14 := fun_mk (st := s__law_let) l14 c14 k14
  have b14 := F14.binds (ps := ["rows", "state"]) fun _ _ _ _ _ _ us hl => match us, hl with | [_, _], _ => rfl
  have F15 := fun_mk (st := s__law_tops) l15 c15 k15
  have b15 := F15.binds (ps := ["d"]) fun _ _ _ _ _ _ us hl => match us, hl with | [_], _ => rfl
  have F16 := fun_mk (st := s__law_row) l16 c16 k16
  have b16 := F16.binds (ps := ["d", "tops"]) fun _ _ _ _ _ _ us hl => match us, hl with | [_, _], _ => rfl
  have F17 := fun_mk (st := s__law_chain) l17 c17 k17
  have b17 := F17.binds (ps := ["d", "tops"]) fun _ _ _ _ _ _ us hl => match us, hl with | [_, _], _ => rfl
  have F18 := fun_mk (st := s__law_mixed) l18 c18 k18
  have b18 := F18.binds (ps := ["d", "rows"]) fun _ _ _ _ _ _ us hl => match us, hl with | [_, _], _ => rfl
  have F19 := fun_mk (st := s__law_case) l19 c19 k19
  have b19 := F19.binds (ps := ["d", "is_wide"]) fun _ _ _ _ _ _ us hl => match us, hl with | [_, _], _ => rfl
  have F20 := fun_mk (st := s__law_same) l20 c20 k20
  have b20 := F20.binds (ps := ["one", "other"]) fun _ _ _ _ _ _ us hl => match us, hl with | [_, _], _ => rfl
  have F21 := fun_mk (st := s__law_told) l21 c21 k21
  have b21 := F21.binds (ps := ["case"]) fun _ _ _ _ _ _ us hl => match us, hl with | [_], _ => rfl
  have F22 := fun_mk (st := s_law) l22 c22 k22
  have b22 := F22.binds (ps := ["script"]) fun _ _ _ _ _ _ us hl => match us, hl with | [_], _ => rfl
  refine ⟨PySem.W.fnOf "law" "law" (defArgs s_law) (defBody s_law) (defScope s_law) .none kV22 dc22 pm22 an22 cd22 ct22, fun s v => .of_eq rfl, fun base _ _ => ?_⟩
  have C_loose_pair : Cal l.prog w K mg base CX0 1 "loose_pair" ["row", "masks"] (spV K [.v, .r] S_loose_pair) := ⟨_, _, ok_loose_pair F0 T, PySem.W.mg_of X G a0, k0, b0⟩
  have C__law_begin : Cal l.prog w K mg base CX0 1 "_law_begin" ["script"] (spBegin K) := ⟨_, _, ok__law_begin F1 T, PySem.W.mg_of X G a1, k1, b1⟩
  have C__law_draw : Cal l.prog w K mg base CX0 1 "_law_draw" ["d", "many"] (spV K [.m, .v] S__law_draw) := ⟨_, _, ok__law_draw F2 T, PySem.W.mg_of X G a2, k2, b2⟩
  have C__law_is_int : Cal l.prog w K mg base CX0 1 "_law_is_int" ["thing"] (spV K [.v] S__law_is_int) := ⟨_, _, ok__law_is_int F3 T, PySem.W.mg_of X G a3, k3, b3⟩
  have C__law_full : Cal l.prog w K mg base CX0 1 "_law_full" ["top"] (spV K [.v] S__law_full) := ⟨_, _, ok__law_full F4 T, PySem.W.mg_of X G a4, k4, b4⟩
  have C__law_meets : Cal l.prog w K mg base CX0 1 "_law_meets" ["limits", "state"] (spV K [.v, .v] S__law_meets) := ⟨_, _, ok__law_meets F5 T, PySem.W.mg_of X G a5, k5, b5⟩
  have C__law_values : Cal l.prog w K mg base CX0 1 "_law_values" ["mask"] (spV K [.v] S__law_values) := ⟨_, _, ok__law_values F6 T, PySem.W.mg_of X G a6, k6, b6⟩
  have C__law_narrow : Cal l.prog w K mg base CX0 1 "_law_narrow" ["rows", "box"] (spV K [.v, .v] S__law_narrow) := ⟨_, _, ok__law_narrow F7 T, PySem.W.mg_of X G a7, k7, b7⟩
  have C__law_in : Cal l.prog w K mg base CX0 1 "_law_in" ["box", "state"] (spV K [.v, .v] S__law_in) := ⟨_, _, ok__law_in F8 T, PySem.W.mg_of X G a8, k8, b8⟩
  have C_narrowed : Cal l.prog w K mg base CX0 2 "narrowed" ["rows", "box"] (spV K [.v, .v] S_narrowed) := ⟨_, _, ok_narrowed F9 T C_loose_pair, PySem.W.mg_of X G a9, k9, b9⟩
  have C__law_pick : Cal l.prog w K mg base CX0 2 "_law_pick" ["d", "row"] (spV K [.m, .r] S__law_pick) := ⟨_, _, ok__law_pick F10 T C__law_draw, PySem.W.mg_of X G a10, k10, b10⟩
  have C__law_pop : Cal l.prog w K mg base CX0 2 "_law_pop" ["d", "row"] (spV K [.m, .m] S__law_pop) := ⟨_, _, ok__law_pop F11 T C__law_draw, PySem.W.mg_of X G a11, k11, b11⟩
  have C__law_wide : Cal l.prog w K mg base CX0 2 "_law_wide" ["d"] (spV K [.m] S__law_wide) := ⟨_, _, ok__law_wide F12 T C__law_draw, PySem.W.mg_of X G a12, k12, b12⟩
  have C__law_states : Cal l.prog w K mg base CX0 2 "_law_states" ["box", "most"] (spV K [.v, .v] S__law_states) := ⟨_, _, ok__law_states F13 T C__law_values, PySem.W.mg_of X G a13, k13, b13⟩
  have C__law_let : Cal l.prog w K mg base CX0 2 "_law_let" ["rows", "state"] (spV K [.v, .v] S__law_let) := ⟨_, _, ok__law_let F14 T C__law_meets, PySem.W.mg_of X G a14, k14, b14⟩
  have C__law_tops : Cal l.prog w K mg base CX0 3 "_law_tops" ["d"] (spV K [.m] S__law_tops) := ⟨_, _, ok__law_tops F15 T C__law_pick C__law_draw, PySem.W.mg_of X G a15, k15, b15⟩
  have C__law_row : Cal l.prog w K mg base CX0 3 "_law_row" ["d", "tops"] (spV K [.m, .v] S__law_row) := ⟨_, _, ok__law_row F16 T C__law_draw C__law_full C__law_pop, PySem.W.mg_of X G a16, k16, b16⟩
  have C__law_chain : Cal l.prog w K mg base CX0 3 "_law_chain" ["d", "tops"] (spT K [.m, .v] S__law_chain) := ⟨_, _, ok__law_chain F17 T C__law_draw C__law_full C__law_pop, PySem.W.mg_of X G a17, k17, b17⟩
  have C__law_mixed : Cal l.prog w K mg base CX0 3 "_law_mixed" ["d", "rows"] (spV K [.m, .v] S__law_mixed) := ⟨_, _, ok__law_mixed F18 T C__law_pop C__law_draw, PySem.W.mg_of X G a18, k18, b18⟩
  have C__law_case : Cal l.prog w K mg base CX0 4 "_law_case" ["d", "is_wide"] (spV K [.m, .v] S__law_case) := ⟨_, _, ok__law_case F19 T C__law_draw C__law_full C__law_mixed C__law_row C__law_chain C__law_wide C__law_tops, PySem.W.mg_of X G a19, k19, b19⟩
  have R__law_same : ∀ n : Nat, FnOk l.prog w K mg base CX0 (n + 2) f20 _ ["one", "other"] (spV K [.v, .v] (S__law_same n)) := fun n => by
    induction n with
    | zero => exact fn_never (spV_never nev__law_same)
    | succ n ih => exact ok__law_same n F20 T C__law_is_int ⟨_, _, ih, PySem.W.mg_of X G a20, k20, b20⟩
  have C__law_same : Cal l.prog w K mg base CX0 5 "_law_same" ["one", "other"] (spV K [.v, .v] (S__law_same 3)) := ⟨_, _, R__law_same 3, PySem.W.mg_of X G a20, k20, b20⟩
  have C__law_told : Cal l.prog w K mg base CX0 6 "_law_told" ["case"] (spV K [.v] S__law_told) := ⟨_, _, ok__law_told F21 T C__law_let C__law_same C_narrowed C__law_states C__law_narrow C__law_in, PySem.W.mg_of X G a21, k21, b21⟩
  exact ok_law F22 T C__law_begin C__law_told C__law_case C__law_draw
theorem walk {l : PySem.W.OpenLaw} {q : Program} {loose : List Str} {XP : (Str → Option Value) → Heap → Prop} {YP : World → Heap → Prop} {d : DefRec} {K : Params → PySem.W.Frag} (hn : l.most = some 63) (hdf : d.params.defaults = [])
    (hY : ∀ (w : World) (h : Heap), YP w h → (K w.params).In h)
    (F : ∀ (w : World) (mg : Str → Option Value) (fa : Addr) (h : Heap), (K w.params).In h → h.Ns mainGlobals mg → mg d.name = some (.ref fa) →
      ∃ fd : FuncData, (∀ (s : Shared) (u : Value), BindsTo s fd ⟨[u], []⟩ [("script", u)]) ∧ ∀ base : Heap, (K w.params).In base → base.Ns mainGlobals mg → FnOk l.prog w (K w.params) mg base CX0 7 fa fd ["script"] (spLaw (K w.params))) :
    PySem.W.WalkO q loose XP YP l.row.toRowW d [] (fun f vs => PySem.call f vs) :=
  L2.walk_of (n := 63) (k := 7) (x := "script") (CX := fun w => CX0) (sp := fun w => spLaw (K w.params)) hn (by decide) hdf ⟨rfl, by decide, by decide⟩ hY F (fun _ _ a ns hl _ hS => ⟨a, ns, rfl, hS, hl, fun _ => rfl⟩) fun _ _ _ _ _ z => z
end K24

set_option maxHeartbeats 4000000
open PySem PySem.W PyProof.Rows
set_option maxRecDepth 100000 in
set_option maxHeartbeats 0 in
theorem PySem.Challenge.cw_deedoath_k24_narrowed_soundly_holds : PySem.Challenge.rw_deedoath_k24_narrowed_soundly.Holds := by
  w_on; o_law; k_head; (case hw => w_witness2)
  k_fill
  refine K24.walk (l := PySem.Challenge.rw_deedoath_k24_narrowed_soundly) rfl rfl (fun w h Y => PySem.W.kIn_of Y) ?F
  case F =>
    intro w mg fa h KX G hmg
    refine' K24.all_mk (l := PySem.Challenge.rw_deedoath_k24_narrowed_soundly) KX G hmg ?a0 ?l0 ?c0 ?k0 ?a1 ?l1 ?c1 ?k1 ?a2 ?l2 ?c2 ?k2 ?a3 ?l3 ?c3 ?k3 ?a4 ?l4 ?c4 ?k4 ?a5 ?l5 ?c5 ?k5 ?a6 ?l6 ?c6 ?k6 ?a7 ?l7 ?c7 ?k7 ?a8 ?l8 ?c8 ?k8 ?a9 ?l9 ?c9 ?k9 ?a10 ?l10 ?c10 ?k10 ?a11 ?l11 ?c11 ?k11 ?a12 ?l12 ?c12 ?k12 ?a13 ?l13 ?c13 ?k13 ?a14 ?l14 ?c14 ?k14 ?a15 ?l15 ?c15 ?k15 ?a16 ?l16 ?c16 ?k16 ?a17 ?l17 ?c17 ?k17 ?a18 ?l18 ?c18 ?k18 ?a19 ?l19 ?c19 ?k19 ?a20 ?l20 ?c20 ?k20 ?a21 ?l21 ?c21 ?k21 ?a22 ?l22 ?c22 ?k22 ?z_abs ?z_bool ?z_int ?z_isinstance ?z_len ?z_list ?z_min ?z_range ?z_str ?z_sum ?z_tuple
    (case a0 => k_is); (case l0 => k_is); (case c0 => k_is); (case k0 => k_is); (case a1 => k_is); (case l1 => k_is); (case c1 => k_is); (case k1 => k_is)
    (case a2 => k_is); (case l2 => k_is); (case c2 => k_is); (case k2 => k_is); (case a3 => k_is); (case l3 => k_is); (case c3 => k_is); (case k3 => k_is)
    (case a4 => k_is); (case l4 => k_is); (case c4 => k_is); (case k4 => k_is); (case a5 => k_is); (case l5 => k_is); (case c5 => k_is); (case k5 => k_is)
    (case a6 => k_is); (case l6 => k_is); (case c6 => k_is); (case k6 => k_is); (case a7 => k_is); (case l7 => k_is); (case c7 => k_is); (case k7 => k_is)
    (case a8 => k_is); (case l8 => k_is); (case c8 => k_is); (case k8 => k_is); (case a9 => k_is); (case l9 => k_is); (case c9 => k_is); (case k9 => k_is)
    (case a10 => k_is); (case l10 => k_is); (case c10 => k_is); (case k10 => k_is); (case a11 => k_is); (case l11 => k_is); (case c11 => k_is); (case k11 => k_is)
    (case a12 => k_is); (case l12 => k_is); (case c12 => k_is); (case k12 => k_is); (case a13 => k_is); (case l13 => k_is); (case c13 => k_is); (case k13 => k_is)
    (case a14 => k_is); (case l14 => k_is); (case c14 => k_is); (case k14 => k_is); (case a15 => k_is); (case l15 => k_is); (case c15 => k_is); (case k15 => k_is)
    (case a16 => k_is); (case l16 => k_is); (case c16 => k_is); (case k16 => k_is); (case a17 => k_is); (case l17 => k_is); (case c17 => k_is); (case k17 => k_is)
    (case a18 => k_is); (case l18 => k_is); (case c18 => k_is); (case k18 => k_is); (case a19 => k_is); (case l19 => k_is); (case c19 => k_is); (case k19 => k_is)
    (case a20 => k_is); (case l20 => k_is); (case c20 => k_is); (case k20 => k_is); (case a21 => k_is); (case l21 => k_is); (case c21 => k_is); (case k21 => k_is)
    (case a22 => k_is); (case l22 => k_is); (case c22 => k_is); (case k22 => k_is); (case z_abs => k_is); (case z_bool => k_is); (case z_int => k_is); (case z_isinstance => k_is)
    (case z_len => k_is); (case z_list => k_is); (case z_min => k_is); (case z_range => k_is); (case z_str => k_is); (case z_sum => k_is); (case z_tuple => k_is)
