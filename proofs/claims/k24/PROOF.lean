import PyProof.Rows.All
import Wide.All
import OpenK.AllK
import Wide.FinOn
import HandS.Base
import HandS.Call
import HandS.List
import HandS.Comp
import HandS.Ends
import HandS.Exc
import HandS.ExcOwn
import HandS.Defaults
import KE.KeyNested
import KE.KDictKeyed
import HandS.Lambda
import KE.SortData
import KE.LtData
import HandS.HeadHook4
import HandS.EndTab
import HandS.Iter
import HandS.Zip
import HandS.Wide
import HandS.Deep
import HandS.IsInst
import HandS.TupAny
import HandS.TupLe
import HandS.Text
import HandS.Dict
import HandS.More
import HandS.Star
import PyProof.ReprRoads
import HandS.RaiseMore
import HandS.DictComp
import HandS.Conv
import KE.KDictCopyH
import KE.KDictExact
import HandS.SortKw
import KE.SortKeyHeap
import PyProof.StrBlock
import HandS.TupSets
import HandS.Head0
import HandS.Head1
import HandS.Head2
import HandS.HeadEnd
import HandS.HeadHook1
import HandS.HeadHook2
import HandS.Words
import HandS.WordsExc
import PySem.Challenge.RW_rulefaces_k24_sets_seen_by_lots
set_option Elab.async false
set_option linter.all false
section
set_option maxRecDepth 100000
set_option maxHeartbeats 4000000
/-! Ev A: pure values, the store, and what represents them in the abstract heap -/
namespace Ev
open PySem PySem.Spec PyProof.Rows L2

/-- pure values: what is never changed any more -/
inductive PV where
  | non | bl (b : Bool) | int (i : Int) | str (s : Str)
  | tup (xs : List PV) | lst (xs : List PV) | scr (xs : List PV)
  | dct (ks vs : List PV) | st (xs : List PV)
  | ins (c : Str) (ns : List Str) (vs : List PV)
  | exc (c : Str) (ns : List Str) (vs : List PV)
  | ty (n : String) | cls (c : Str) | fn (f : Str)
  deriving Inhabited

/-- what a mutable object holds -/
inductive Ob where
  | lst (xs : List PV) | dct (ks vs : List PV) | ins (c : Str) (ns : List Str) (vs : List PV)
  deriving Inhabited
abbrev Store := List Ob
/-- a value: pure, or a mutable object by its number -/
inductive Val where
  | pv (p : PV) | box (j : Nat)
  deriving Inhabited

/-- what the representation leans on: the written part, the world, where the classes stand -/
structure RC where
  K : PySem.W.Frag
  w : World
  cl : Str → Option Addr
  /-- the tables of code objects: where, whose -/
  T : List (Addr × Str) := []

def WrL (K : PySem.W.Frag) (a : Addr) (xs : List V) : Prop := ∃ (o : Obj) (its : Array Value) (n : Nat), K.lookup a = some o ∧ o.cls = .type "list" ∧ o.dict = none ∧ o.data = .seq its n ∧ its.size ≤ sizeLine ∧ Vals xs its.toList
def WrT (K : PySem.W.Frag) (a : Addr) (xs : List V) : Prop := ∃ (o : Obj) (its : Array Value) (n : Nat), K.lookup a = some o ∧ o.cls = .type "tuple" ∧ o.data = .seq its n ∧ its.size ≤ sizeLine ∧ Vals xs its.toList
/-- a tuple stands at a, and not among the boxes -/
def TupAt (K : PySem.W.Frag) (ms : List Addr) (H : Hp) (a : Addr) (xs : List V) : Prop := (Rd H a (.tup xs) ∧ a ∉ ms) ∨ WrT K a xs
def LstAt (ms : List Addr) (H : Hp) (a : Addr) (xs : List V) : Prop := H a = some (.lst xs) ∧ a ∉ ms
/-- a list that is only read (the law's script) -/
def ScrAt (K : PySem.W.Frag) (ms : List Addr) (H : Hp) (a : Addr) (xs : List V) : Prop := (Rd H a (.lst xs) ∧ a ∉ ms) ∨ WrL K a xs

theorem TupAt.sq {K : PySem.W.Frag} {ms : List Addr} {H : Hp} {a : Addr} {xs : List V} (h : TupAt K ms H a xs) : SqT K H a xs := h.imp And.left id
theorem LstAt.sq {K : PySem.W.Frag} {ms : List Addr} {H : Hp} {a : Addr} {xs : List V} (h : LstAt ms H a xs) : SqL K H a xs := SqL.of h.1
theorem ScrAt.sq {K : PySem.W.Frag} {ms : List Addr} {H : Hp} {a : Addr} {xs : List V} (h : ScrAt K ms H a xs) : SqL K H a xs := h.imp And.left id

/-! ### dicts: keys are ints and texts, or tuples of such (nested) -/
def flatK : PV → Option Key
  | .int i => some (.inl i)
  | .str z => some (.inr z)
  | _ => none
def flatKs : List PV → Option (List Key)
  | [] => some []
  | p :: ps => (match flatK p, flatKs ps with
    | some k, some ks => some (k :: ks)
    | _, _ => none)
mutual
def nestK : PV → Option NestedKey
  | .non => some .none
  | .int i => some (.num i)
  | .str z => some (.text z)
  | .tup ps => (nestKs ps).map .tup
  | _ => none
def nestKs : List PV → Option (List NestedKey)
  | [] => some []
  | p :: ps => (match nestK p, nestKs ps with
    | some k, some ks => some (k :: ks)
    | _, _ => none)
end
def tupK : PV → Option NestedKey
  | .tup ps => (match nestKs ps with
    | some ks => if (NestedKey.tup ks).depth ≤ 8 then some (.tup ks) else none
    | none => none)
  | _ => none
def tupKs : List PV → Option (List NestedKey)
  | [] => some []
  | p :: ps => (match tupK p, tupKs ps with
    | some k, some ks => some (k :: ks)
    | _, _ => none)
/-- an entry of such a dict -/
def dEntry (w : World) (e : NestedKey × Addr × Value) : DictEntry := ⟨e.1.hash w, .ref e.2.1, e.2.2⟩
/-- the dict at a with these entries -/
def dctO (w : World) (a : Addr) (es : List (NestedKey × Addr × Value)) : HO := .ext fun h => (a == sysModules) = false ∧ ∃ o ep, h.get? a = some o ∧ o.ExactDict ∧ o.data = .dict (es.map (dEntry w)).toArray ep
/-- what is tracked of a dict: its keys, the keys' values, its values -/
def DkO (R : RC) (H : Hp) (a : Addr) (ks : List PV) (kx ys : List V) : Prop :=
  (∃ kk, flatKs ks = some kk ∧ H a = some (.dK (kk.zip ys))) ∨
  (∃ (nk : List NestedKey) (bs : List Addr) (us : List Value), tupKs ks = some nk ∧ (nk.Nodup ∧ ks ≠ []) ∧ kx = bs.map V.ref ∧ Vals ys us ∧ H a = some (dctO R.w a (nk.zip (bs.zip us))))
theorem DkO.at {R : RC} {H H' : Hp} {a : Addr} {ks : List PV} {kx ys : List V} (h : DkO R H a ks kx ys) (k : ∀ u, H a = some u → H' a = some u) : DkO R H' a ks kx ys := by
  rcases h with ⟨kk, e1, e2⟩ | ⟨nk, bs, us, e1, nd, e2, e3, e4⟩
  · exact .inl ⟨kk, e1, k _ e2⟩
  · exact .inr ⟨nk, bs, us, e1, nd, e2, e3, k _ e4⟩
mutual
/-- x in H is what p says; nothing of it is a box of ms -/
def RepP (R : RC) (ms : List Addr) (H : Hp) : PV → V → Prop
  | .non, x => x = .non
  | .bl b, x => x = .bl b
  | .int i, x => x = .int i
  | .str s, x => x = .str s
  | .tup ps, x => ∃ a xs, x = .ref a ∧ TupAt R.K ms H a xs ∧ RepPs R ms H ps xs
  | .lst ps, x => ∃ a xs, x = .ref a ∧ LstAt ms H a xs ∧ RepPs R ms H ps xs
  | .scr ps, x => ∃ a xs, x = .ref a ∧ ScrAt R.K ms H a xs ∧ RepPs R ms H ps xs
  | .dct ks vs, x => ∃ a kx ys, x = .ref a ∧ a ∉ ms ∧ ks.length = vs.length ∧ DkO R H a ks kx ys ∧ RepPs R ms H ks kx ∧ RepPs R ms H vs ys
  | .st _, _ => False
  | .ins c ns ps, x => ∃ a C dx fs, x = .ref a ∧ R.cl c = some C ∧ H a = some (.ins C dx fs) ∧ a ∉ ms ∧ H dx = some (.own a) ∧ fs.map (·.1) = ns ∧ RepPs R ms H ps (fs.map (·.2))
  | .exc _ _ _, _ => False
  | .ty n, x => x = .ty n
  | .cls c, x => ∃ a, R.cl c = some a ∧ x = .ref a
  | .fn _, _ => False
def RepPs (R : RC) (ms : List Addr) (H : Hp) : List PV → List V → Prop
  | [], xs => xs = []
  | p :: ps, xs => ∃ x r, xs = x :: r ∧ RepP R ms H p x ∧ RepPs R ms H ps r
end

theorem RepPs.length {R : RC} {ms : List Addr} {H : Hp} : ∀ {ps : List PV} {xs : List V}, RepPs R ms H ps xs → ps.length = xs.length
  | [], xs, h => by simp only [RepPs] at h; subst h; rfl
  | p :: ps, xs, h => by
    simp only [RepPs] at h
    obtain ⟨x, r, rfl, _, h2⟩ := h
    simp [RepPs.length h2]
theorem RepPs.nil {R : RC} {ms : List Addr} {H : Hp} : RepPs R ms H [] [] := by simp only [RepPs]
theorem RepPs.cons {R : RC} {ms : List Addr} {H : Hp} {p : PV} {x : V} {ps : List PV} {xs : List V} (h : RepP R ms H p x) (t : RepPs R ms H ps xs) : RepPs R ms H (p :: ps) (x :: xs) := by
  simp only [RepPs]
  exact ⟨x, xs, rfl, h, t⟩
theorem RepPs.get {R : RC} {ms : List Addr} {H : Hp} : ∀ {ps : List PV} {xs : List V} {i : Nat} {p : PV}, RepPs R ms H ps xs → ps[i]? = some p → ∃ x, xs[i]? = some x ∧ RepP R ms H p x
  | [], _, _, _, _, e => by simp at e
  | q :: ps, xs, i, p, h, e => by
    simp only [RepPs] at h
    obtain ⟨x, r, rfl, h1, h2⟩ := h
    cases i with
    | zero => simp at e; subst e; exact ⟨x, rfl, h1⟩
    | succ i =>
      simp at e
      obtain ⟨y, e2, h3⟩ := RepPs.get h2 e
      exact ⟨y, by simpa using e2, h3⟩
theorem RepPs.get' {R : RC} {ms : List Addr} {H : Hp} {ps : List PV} {xs : List V} {i : Nat} {x : V} (h : RepPs R ms H ps xs) (e : xs[i]? = some x) : ∃ p, ps[i]? = some p ∧ RepP R ms H p x := by
  have hl := h.length
  obtain ⟨hi, _⟩ := List.getElem?_eq_some_iff.mp e
  have hp : i < ps.length := by omega
  obtain ⟨y, e2, r⟩ := h.get (List.getElem?_eq_getElem hp)
  rw [e] at e2; cases e2
  exact ⟨_, List.getElem?_eq_getElem hp, r⟩
theorem RepPs.append {R : RC} {ms : List Addr} {H : Hp} : ∀ {ps qs : List PV} {xs ys : List V}, RepPs R ms H ps xs → RepPs R ms H qs ys → RepPs R ms H (ps ++ qs) (xs ++ ys)
  | [], _, xs, _, h, t => by simp only [RepPs] at h; subst h; simpa using t
  | p :: ps, _, xs, _, h, t => by
    simp only [RepPs] at h
    obtain ⟨x, r, rfl, h1, h2⟩ := h
    exact RepPs.cons h1 (RepPs.append h2 t)
theorem RepPs.take {R : RC} {ms : List Addr} {H : Hp} : ∀ {ps : List PV} {xs : List V} (n : Nat), RepPs R ms H ps xs → RepPs R ms H (ps.take n) (xs.take n)
  | [], xs, n, h => by simp only [RepPs] at h; subst h; simp [RepPs.nil]
  | p :: ps, xs, n, h => by
    simp only [RepPs] at h
    obtain ⟨x, r, rfl, h1, h2⟩ := h
    cases n with
    | zero => simp [RepPs.nil]
    | succ n => exact RepPs.cons h1 (RepPs.take n h2)
theorem RepPs.drop {R : RC} {ms : List Addr} {H : Hp} : ∀ {ps : List PV} {xs : List V} (n : Nat), RepPs R ms H ps xs → RepPs R ms H (ps.drop n) (xs.drop n)
  | [], xs, n, h => by simp only [RepPs] at h; subst h; simp [RepPs.nil]
  | p :: ps, xs, n, h => by
    have h0 := h
    simp only [RepPs] at h
    obtain ⟨x, r, rfl, h1, h2⟩ := h
    cases n with
    | zero => exact h0
    | succ n => exact RepPs.drop n h2
theorem RepPs.set {R : RC} {ms : List Addr} {H : Hp} {p : PV} {x : V} (hp : RepP R ms H p x) : ∀ {ps : List PV} {xs : List V} (i : Nat), RepPs R ms H ps xs → RepPs R ms H (ps.set i p) (xs.set i x)
  | [], xs, i, h => by simp only [RepPs] at h; subst h; simp [RepPs.nil]
  | q :: ps, xs, i, h => by
    simp only [RepPs] at h
    obtain ⟨y, r, rfl, h1, h2⟩ := h
    cases i with
    | zero => exact RepPs.cons hp h2
    | succ i => exact RepPs.cons h1 (RepPs.set hp i h2)

/-- from one heap to a later one: new boxes, and all that is tracked and no box stands -/
structure Step (ms : List Addr) (H : Hp) (ms' : List Addr) (H' : Hp) : Prop where
  grow : ∃ new, ms' = ms ++ new ∧ ∀ p ∈ new, ∀ o, H p = some o → ∃ ps, o = .tbl ps
  keep : ∀ a o, H a = some o → a ∉ ms → (∀ ps, o ≠ .tbl ps) → H' a = some o
  trk : ∀ a o, H a = some o → (∀ ps, o ≠ .tbl ps) → ∃ o', H' a = some o' ∧ ∀ ps, o' ≠ .tbl ps
theorem Step.refl (ms : List Addr) (H : Hp) : Step ms H ms H := ⟨⟨[], by simp, by simp⟩, fun _ _ h _ _ => h, fun _ o h t => ⟨o, h, t⟩⟩
theorem Step.notin {ms ms' : List Addr} {H H' : Hp} (s : Step ms H ms' H') {a : Addr} {o : HO} (h : H a = some o) (n : a ∉ ms) (ht : ∀ ps, o ≠ .tbl ps) : a ∉ ms' := by
  obtain ⟨new, rfl, hn⟩ := s.grow
  intro hm
  rcases List.mem_append.mp hm with q | q
  · exact n q
  · obtain ⟨ps, e⟩ := hn a q o h
    exact ht ps e
theorem Step.trans {m0 m1 m2 : List Addr} {H0 H1 H2 : Hp} (a : Step m0 H0 m1 H1) (b : Step m1 H1 m2 H2) : Step m0 H0 m2 H2 := by
  obtain ⟨n1, e1, h1⟩ := a.grow
  obtain ⟨n2, e2, h2⟩ := b.grow
  refine ⟨⟨n1 ++ n2, by rw [e2, e1, List.append_assoc], fun p hp o ho => ?_⟩, fun x o e n t => b.keep x o (a.keep x o e n t) (a.notin e n t) t, fun x o h t => ?_⟩
  · rcases List.mem_append.mp hp with q | q
    · exact h1 p q o ho
    · by_cases ht : ∃ ps, o = .tbl ps
      · exact ht
      · obtain ⟨o', k1, k2⟩ := a.trk p o ho fun ps z => ht ⟨ps, z⟩
        obtain ⟨ps, z⟩ := h2 p q o' k1
        exact absurd z (k2 ps)
  · obtain ⟨o1, k1, k2⟩ := a.trk x o h t
    exact b.trk x o1 k1 k2
/-- everything tracked stands -/
def Ext (H H' : Hp) : Prop := ∀ a o, H a = some o → H' a = some o
theorem Ext.refl (H : Hp) : Ext H H := fun _ _ h => h
theorem Ext.trans {H0 H1 H2 : Hp} (a : Ext H0 H1) (b : Ext H1 H2) : Ext H0 H2 := fun x o h => b x o (a x o h)
theorem Ext.new {H : Hp} {p : Addr} {o : HO} (h : H p = none) : Ext H (upd H p o) := fun a u e => by
  rw [upd_ne (ne_of_none e h)]; exact e
theorem Ext.step {ms : List Addr} {H H' : Hp} (e : Ext H H') : Step ms H ms H' := ⟨⟨[], by simp, by simp⟩, fun a o h _ _ => e a o h, fun a o h t => ⟨o, e a o h, t⟩⟩
theorem grow_one {p : Addr} {H : Hp} (h : H p = none) : ∀ q ∈ [p], ∀ o, H q = some o → ∃ ps, o = .tbl ps := fun q hq o e => by
  rw [List.mem_singleton.mp hq, h] at e; cases e

theorem rd_step {ms ms' : List Addr} {H H' : Hp} {a : Addr} {u : HO} (s : Step ms H ms' H') (h : Rd H a u) (n : a ∉ ms) (ht : ∀ ps, u ≠ .tbl ps) : Rd H' a u ∧ a ∉ ms' := by
  rcases h with h | ⟨o, h⟩
  · exact ⟨.inl (s.keep a _ h n ht), s.notin h n ht⟩
  · exact ⟨.inr ⟨o, s.keep a _ h n fun _ z => nomatch z⟩, s.notin h n fun _ z => nomatch z⟩
theorem TupAt.step {K : PySem.W.Frag} {ms ms' : List Addr} {H H' : Hp} {a : Addr} {xs : List V} (h : TupAt K ms H a xs) (s : Step ms H ms' H') : TupAt K ms' H' a xs :=
  h.imp (fun ⟨x, y⟩ => rd_step s x y fun _ z => nomatch z) id
theorem LstAt.step {ms ms' : List Addr} {H H' : Hp} {a : Addr} {xs : List V} (h : LstAt ms H a xs) (s : Step ms H ms' H') : LstAt ms' H' a xs :=
  ⟨s.keep a _ h.1 h.2 (fun _ z => nomatch z), s.notin h.1 h.2 (fun _ z => nomatch z)⟩
theorem ScrAt.step {K : PySem.W.Frag} {ms ms' : List Addr} {H H' : Hp} {a : Addr} {xs : List V} (h : ScrAt K ms H a xs) (s : Step ms H ms' H') : ScrAt K ms' H' a xs :=
  h.imp (fun ⟨x, y⟩ => rd_step s x y fun _ z => nomatch z) id

mutual
theorem RepP.step {R : RC} {ms ms' : List Addr} {H H' : Hp} (s : Step ms H ms' H') (hn : ∀ x a, H x = some (.own a) → x ∉ ms) : ∀ (p : PV) (x : V), RepP R ms H p x → RepP R ms' H' p x
  | .non, x, h => by simp only [RepP] at h ⊢; exact h
  | .bl b, x, h => by simp only [RepP] at h ⊢; exact h
  | .int i, x, h => by simp only [RepP] at h ⊢; exact h
  | .str z, x, h => by simp only [RepP] at h ⊢; exact h
  | .tup ps, x, h => by
    simp only [RepP] at h ⊢
    obtain ⟨a, xs, e, h1, h2⟩ := h
    exact ⟨a, xs, e, h1.step s, RepPs.step s hn ps xs h2⟩
  | .lst ps, x, h => by
    simp only [RepP] at h ⊢
    obtain ⟨a, xs, e, h1, h2⟩ := h
    exact ⟨a, xs, e, h1.step s, RepPs.step s hn ps xs h2⟩
  | .scr ps, x, h => by
    simp only [RepP] at h ⊢
    obtain ⟨a, xs, e, h1, h2⟩ := h
    exact ⟨a, xs, e, h1.step s, RepPs.step s hn ps xs h2⟩
  | .dct ks vs, x, h => by
    simp only [RepP] at h ⊢
    obtain ⟨a, kx, ys, e, n, hl, d, h1, h2⟩ := h
    have box : ∃ u, H a = some u ∧ ∀ ps, u ≠ .tbl ps := by
      rcases d with ⟨kk, e1, e2⟩ | ⟨nk, bs, us, e1, nd, e2, e3, e4⟩
      · exact ⟨_, e2, fun _ z => nomatch z⟩
      · exact ⟨_, e4, fun _ z => nomatch z⟩
    obtain ⟨u0, e0, ht⟩ := box
    have k : ∀ u, H a = some u → H' a = some u := fun u e2 => s.keep a u e2 n (by rw [e0] at e2; cases e2; exact ht)
    exact ⟨a, kx, ys, e, s.notin e0 n ht, hl, d.at k, RepPs.step s hn ks kx h1, RepPs.step s hn vs ys h2⟩
  | .st _, x, h => by simp only [RepP] at h
  | .ins c ns ps, x, h => by
    simp only [RepP] at h ⊢
    obtain ⟨a, C, dx, fs, e, hc, h1, n1, h2, h3, h4⟩ := h
    exact ⟨a, C, dx, fs, e, hc, s.keep a _ h1 n1 (fun _ z => nomatch z), s.notin h1 n1 (fun _ z => nomatch z), s.keep dx _ h2 (hn _ _ h2) (fun _ z => nomatch z), h3, RepPs.step s hn ps _ h4⟩
  | .exc _ _ _, x, h => by simp only [RepP] at h
  | .ty n, x, h => by simp only [RepP] at h ⊢; exact h
  | .cls c, x, h => by simp only [RepP] at h ⊢; exact h
  | .fn _, x, h => by simp only [RepP] at h
theorem RepPs.step {R : RC} {ms ms' : List Addr} {H H' : Hp} (s : Step ms H ms' H') (hn : ∀ x a, H x = some (.own a) → x ∉ ms) : ∀ (ps : List PV) (xs : List V), RepPs R ms H ps xs → RepPs R ms' H' ps xs
  | [], xs, h => by simp only [RepPs] at h ⊢; exact h
  | p :: ps, xs, h => by
    simp only [RepPs] at h ⊢
    obtain ⟨x, r, e, h1, h2⟩ := h
    exact ⟨x, r, e, RepP.step s hn p x h1, RepPs.step s hn ps r h2⟩
end
end Ev

end
section
set_option maxRecDepth 100000
set_option maxHeartbeats 4000000
/-! Ev B: the store, the slots, outcomes; the readings -/
namespace Ev
open PySem PySem.Spec PyProof.Rows L2

/-- an exception: its class, its own fields -/
structure Exc where
  c : Str
  ns : List Str := []
  vs : List PV := []
  deriving Inhabited

inductive Res (α : Type) where
  | ok (a : α) (G : Store) | exc (e : Exc) (G : Store) | stuck
  deriving Inhabited
@[inline] def Res.bind {α β : Type} (r : Res α) (k : α → Store → Res β) : Res β := match r with
  | .ok a G => k a G
  | .exc e G => .exc e G
  | .stuck => .stuck
abbrev Fr := List (Option Val)
abbrev FE := Fr → Store → Res Val
abbrev FT := Fr → Store → Res Bool
abbrev FA := Fr → Store → Res (List Val)
inductive ResS where
  | next (ρ : Fr) (G : Store) | ret (v : Val) (G : Store) | brk (ρ : Fr) (G : Store) | cont (ρ : Fr) (G : Store) | exc (e : Exc) (ρ : Fr) (G : Store) | stuck
  deriving Inhabited
abbrev FS := Fr → Store → ResS

def RepO (R : RC) (ms : List Addr) (H : Hp) : Ob → Addr → Prop
  | .lst ps, a => ∃ xs, H a = some (.lst xs) ∧ RepPs R ms H ps xs
  | .dct ks vs, a => ∃ kx ys, ks.length = vs.length ∧ DkO R H a ks kx ys ∧ RepPs R ms H ks kx ∧ RepPs R ms H vs ys
  | .ins c ns ps, a => ∃ C dx fs, R.cl c = some C ∧ H a = some (.ins C dx fs) ∧ H dx = some (.own a) ∧ fs.map (·.1) = ns ∧ RepPs R ms H ps (fs.map (·.2))
/-- an object of a code is none of ours -/
theorem code_ne_dct {c a : Addr} {q : Str} {w : World} {es : List (NestedKey × Addr × Value)} : LamX.CodeO c q ≠ dctO w a es := fun z => by
  unfold LamX.CodeO dctO at z
  injection z with z
  obtain ⟨ob, hob⟩ : ∃ ob : Obj, ob = { cls := .none, data := .fields #[.none, .str q 0] } := ⟨_, rfl⟩
  have e : ∀ b, (({ objs := Array.replicate (c + 1) ob } : Heap).get? b = some ob ∨ ({ objs := Array.replicate (c + 1) ob } : Heap).get? b = none) ∧ (b = c → ({ objs := Array.replicate (c + 1) ob } : Heap).get? b = some ob) := fun b => by
    unfold Heap.get?
    by_cases hb : b < c + 1
    · have : (Array.replicate (c + 1) ob)[b]? = some ob := by simp [Array.getElem?_replicate, hb]
      rw [this]
      subst hob
      exact ⟨.inl rfl, fun _ => rfl⟩
    · have : (Array.replicate (c + 1) ob)[b]? = none := by simp [Array.getElem?_replicate, hb]
      rw [this]
      exact ⟨.inr rfl, fun e => absurd (by rw [e]; exact Nat.lt_succ_self c) hb⟩
  have h := congrFun z ({ objs := Array.replicate (c + 1) ob } : Heap)
  have h1 : ∃ (oc : Obj) (vs : Array Value) (t : Tok), ({ objs := Array.replicate (c + 1) ob } : Heap).get? c = some oc ∧ oc.data = .fields vs ∧ vs[1]? = some (.str q t) := ⟨ob, _, 0, (e c).2 rfl, by rw [hob], rfl⟩
  obtain ⟨_, o, ep, h2, _, h3⟩ := h.mp h1
  rcases (e a).1 with h4 | h4
  · rw [h4] at h2
    cases h2
    rw [hob] at h3
    cases h3
  · rw [h4] at h2; cases h2
structure RepG (R : RC) (ms : List Addr) (H : Hp) (G : Store) : Prop where
  tb : LamX.Tabs R.T H
  len : ms.length = G.length
  nd : ms.Nodup
  ob : ∀ (i : Nat) (o : Ob) (a : Addr), G[i]? = some o → ms[i]? = some a → RepO R ms H o a
def RepV (R : RC) (ms : List Addr) (H : Hp) : Val → V → Prop
  | .pv p, x => RepP R ms H p x
  | .box j, x => ∃ a, ms[j]? = some a ∧ x = .ref a
inductive RepVs (R : RC) (ms : List Addr) (H : Hp) : List Val → List V → Prop
  | nil : RepVs R ms H [] []
  | cons {v x vs xs} : RepV R ms H v x → RepVs R ms H vs xs → RepVs R ms H (v :: vs) (x :: xs)
structure RepS (R : RC) (ms : List Addr) (H : Hp) (ρ : Fr) (σ : L2.St) : Prop where
  len : ρ.length = σ.length
  at_ : ∀ (i : Nat) (v : Val), ρ[i]? = some (some v) → ∃ x, σ[i]? = some (some x) ∧ RepV R ms H v x
/-- an exception stands -/
def RepX (R : RC) (ms : List Addr) (H : Hp) (e : Exc) (cls : Value) (d : Option Addr) : Prop :=
  ∃ C, R.cl e.c = some C ∧ cls = .ref C ∧ ((e.ns = [] ∧ e.vs = [] ∧ d = none) ∨ ∃ da fs, d = some da ∧ H da = some (.xd fs) ∧ da ∉ ms ∧ fs.map (·.1) = e.ns ∧ RepPs R ms H e.vs (fs.map (·.2)))

section
variable {R : RC} {ms ms' : List Addr} {H H' : Hp} {G G' : Store} {ρ : Fr} {σ : L2.St}

theorem RepG.of_mem (g : RepG R ms H G) {a : Addr} (h : a ∈ ms) : ∃ (i : Nat) (o : Ob), ms[i]? = some a ∧ G[i]? = some o ∧ RepO R ms H o a := by
  obtain ⟨i, hi, e⟩ := List.getElem_of_mem h
  have hi' : i < G.length := by have := g.len; omega
  refine ⟨i, G[i], ?_, ?_, ?_⟩
  · rw [List.getElem?_eq_getElem hi, e]
  · rw [List.getElem?_eq_getElem hi']
  · exact g.ob i _ _ (List.getElem?_eq_getElem hi') (by rw [List.getElem?_eq_getElem hi, e])
def isBox : HO → Bool
  | .lst _ | .dK _ | .dT _ | .set _ _ | .ins _ _ _ | .ext _ => true
  | _ => false
theorem RepO.box {o : Ob} {a : Addr} (h : RepO R ms H o a) : ∃ u, H a = some u ∧ isBox u = true := by
  cases o with
  | lst ps => obtain ⟨xs, e, _⟩ := h; exact ⟨_, e, rfl⟩
  | dct ks vs =>
    obtain ⟨kx, ys, _, d, _⟩ := h
    rcases d with ⟨kk, e1, e2⟩ | ⟨nk, bs, us, e1, nd, e2, e3, e4⟩
    · exact ⟨_, e2, rfl⟩
    · exact ⟨_, e4, rfl⟩
  | ins c ns ps => obtain ⟨C, dx, fs, _, e, _⟩ := h; exact ⟨_, e, rfl⟩
theorem RepG.box (g : RepG R ms H G) {a : Addr} (h : a ∈ ms) : ∃ u, H a = some u ∧ isBox u = true := by
  obtain ⟨_, o, _, _, r⟩ := g.of_mem h
  exact r.box
theorem RepG.no (g : RepG R ms H G) {a : Addr} {u : HO} (h : H a = some u) (hb : isBox u = false) : a ∉ ms := fun hm => by
  obtain ⟨u', e, b⟩ := g.box hm
  rw [h] at e; cases e; rw [hb] at b; cases b
theorem RepG.own (g : RepG R ms H G) : ∀ x a, H x = some (.own a) → x ∉ ms := fun _ _ e => g.no e rfl
theorem RepG.new (g : RepG R ms H G) {p : Addr} (h : H p = none) : p ∉ ms := fun hm => by
  obtain ⟨u', e, b⟩ := g.box hm
  rw [h] at e; cases e

theorem RepG.code (g : RepG R ms H G) {c : Addr} {q : Str} (h : H c = some (LamX.CodeO c q)) : c ∉ ms := fun hm => by
  obtain ⟨_, o, _, _, r⟩ := g.of_mem hm
  cases o with
  | lst ps => obtain ⟨xs, e, _⟩ := r; rw [h] at e; cases e
  | dct ks vs =>
    obtain ⟨kx, ys, _, d, _⟩ := r
    rcases d with ⟨kk, e1, e2⟩ | ⟨nk, bs, us, e1, nd, e2, e3, e4⟩
    · rw [h] at e2; cases e2
    · rw [h] at e4
      exact code_ne_dct (Option.some.inj e4)
  | ins c' ns ps => obtain ⟨C, dx, fs, _, e, _⟩ := r; rw [h] at e; cases e
theorem RepG.tabs (g : RepG R ms H G) {a : Addr} {u : HO} (ha : a ∈ ms) : LamX.Tabs R.T (upd H a u) := fun p hp => by
  obtain ⟨ps, h1, h2, h3⟩ := g.tb p hp
  refine ⟨ps, ?_, h2, fun pos cv hc => ?_⟩
  · rw [upd_ne (fun z => g.no h1 rfl (by rw [z]; exact ha))]
    exact h1
  · obtain ⟨c, e1, e2⟩ := h3 pos cv hc
    refine ⟨c, e1, ?_⟩
    rw [upd_ne (fun z => g.code e2 (by rw [z]; exact ha))]
    exact e2
theorem RepV.step (g : RepG R ms H G) (s : Step ms H ms' H') {v : Val} {x : V} (h : RepV R ms H v x) : RepV R ms' H' v x := by
  cases v with
  | pv p => exact RepP.step s g.own p x h
  | box j =>
    obtain ⟨a, e, q⟩ := h
    obtain ⟨new, rfl, _⟩ := s.grow
    refine ⟨a, ?_, q⟩
    rw [List.getElem?_append_left (List.getElem?_eq_some_iff.mp e).1]
    exact e
theorem RepVs.step (g : RepG R ms H G) (s : Step ms H ms' H') {vs : List Val} {xs : List V} (h : RepVs R ms H vs xs) : RepVs R ms' H' vs xs := by
  induction h with
  | nil => exact .nil
  | cons h t ih => exact .cons (h.step g s) ih
theorem RepVs.length {vs : List Val} {xs : List V} (h : RepVs R ms H vs xs) : vs.length = xs.length := by
  induction h with
  | nil => rfl
  | cons h t ih => simp [ih]
theorem RepVs.append {vs ws : List Val} {xs ys : List V} (h : RepVs R ms H vs xs) (t : RepVs R ms H ws ys) : RepVs R ms H (vs ++ ws) (xs ++ ys) := by
  induction h with
  | nil => exact t
  | cons h _ ih => exact .cons h ih
theorem RepS.step (r : RepS R ms H ρ σ) (g : RepG R ms H G) (s : Step ms H ms' H') : RepS R ms' H' ρ σ :=
  ⟨r.len, fun i v e => let ⟨x, e2, h⟩ := r.at_ i v e; ⟨x, e2, h.step g s⟩⟩
theorem RepS.set (r : RepS R ms H ρ σ) {i : Nat} {v : Val} {x : V} (h : RepV R ms H v x) : RepS R ms H (ρ.set i (some v)) (σ.set i (some x)) := by
  refine ⟨by simp [r.len], fun j u e => ?_⟩
  by_cases hj : i = j
  · subst hj
    by_cases hi : i < ρ.length
    · rw [List.getElem?_set_self hi] at e
      cases e
      exact ⟨x, by rw [List.getElem?_set_self (by rw [← r.len]; exact hi)], h⟩
    · rw [List.getElem?_eq_none (by simpa using hi)] at e; cases e
  · rw [List.getElem?_set_ne hj] at e ⊢
    exact r.at_ j u e
/-- everything tracked stands: the boxes, too -/
theorem RepO.ext {o : Ob} {a : Addr} (g : RepG R ms H G) (e : Ext H H') (h : RepO R ms H o a) : RepO R ms H' o a := by
  have st := e.step (ms := ms)
  cases o with
  | lst ps => obtain ⟨xs, q, r⟩ := h; exact ⟨xs, e _ _ q, RepPs.step st g.own _ _ r⟩
  | dct ks vs => obtain ⟨kx, ys, hl, d, r1, r2⟩ := h; exact ⟨kx, ys, hl, d.at fun u q => e _ _ q, RepPs.step st g.own _ _ r1, RepPs.step st g.own _ _ r2⟩
  | ins c ns ps => obtain ⟨C, dx, fs, hc, q, q2, q3, r⟩ := h; exact ⟨C, dx, fs, hc, e _ _ q, e _ _ q2, q3, RepPs.step st g.own _ _ r⟩
theorem RepG.ext (g : RepG R ms H G) (e : Ext H H') : RepG R ms H' G := ⟨g.tb.ext e, g.len, g.nd, fun i o a h1 h2 => (g.ob i o a h1 h2).ext g e⟩
theorem RepX.step (g : RepG R ms H G) (s : Step ms H ms' H') {e : Exc} {cls : Value} {d : Option Addr} (h : RepX R ms H e cls d) : RepX R ms' H' e cls d := by
  obtain ⟨C, h1, h2, h3⟩ := h
  refine ⟨C, h1, h2, h3.imp id ?_⟩
  rintro ⟨da, fs, e1, e2, e3, e4, e5⟩
  exact ⟨da, fs, e1, s.keep _ _ e2 e3 (fun _ z => nomatch z), s.notin e2 e3 (fun _ z => nomatch z), e4, RepPs.step s g.own _ _ e5⟩

/-- a box is written -/
theorem RepG.write (g : RepG R ms H G) {j : Nat} {a : Addr} {u : HO} {o : Ob} (hj : ms[j]? = some a) (hu : isBox u = true) (new : RepO R ms (upd H a u) o a) :
    RepG R ms (upd H a u) (G.set j o) ∧ Step ms H ms (upd H a u) := by
  have ha : a ∈ ms := List.mem_of_getElem? hj
  have st : Step ms H ms (upd H a u) := ⟨⟨[], by simp, by simp⟩, fun b v e n _ => by rw [upd_ne (fun q => n (by rw [q]; exact ha))]; exact e, fun b o e t => by
    by_cases q : b = a
    · subst q; exact ⟨u, upd_same, fun ps z => by rw [z] at hu; cases hu⟩
    · exact ⟨o, by rw [upd_ne q]; exact e, t⟩⟩
  refine ⟨⟨g.tabs ha, by simpa using g.len, g.nd, fun i v b e1 e2 => ?_⟩, st⟩
  by_cases hi : j = i
  · subst hi
    rw [hj] at e2; cases e2
    rw [List.getElem?_set_self (by have := (List.getElem?_eq_some_iff.mp e1).1; simpa using this)] at e1
    cases e1
    exact new
  · rw [List.getElem?_set_ne hi] at e1
    have hb : b ≠ a := fun q => by
      subst q
      obtain ⟨h1, z1⟩ := List.getElem?_eq_some_iff.mp hj
      obtain ⟨h2, z2⟩ := List.getElem?_eq_some_iff.mp e2
      exact hi ((List.getElem_inj g.nd).mp (z1.trans z2.symm))
    have r := g.ob i v b e1 e2
    cases v with
    | lst ps => obtain ⟨xs, q, r⟩ := r; exact ⟨xs, by rw [upd_ne hb]; exact q, RepPs.step st g.own _ _ r⟩
    | dct ks vs => obtain ⟨kx, ys, hl, d, r1, r2⟩ := r; exact ⟨kx, ys, hl, d.at fun u q => by rw [upd_ne hb]; exact q, RepPs.step st g.own _ _ r1, RepPs.step st g.own _ _ r2⟩
    | ins c ns ps =>
      obtain ⟨C, dx, fs, hc, q, q2, q3, r⟩ := r
      exact ⟨C, dx, fs, hc, by rw [upd_ne hb]; exact q, by rw [upd_ne (fun z => g.own _ _ q2 (by rw [z]; exact ha))]; exact q2, q3, RepPs.step st g.own _ _ r⟩
/-- a new box -/
theorem RepG.alloc (g : RepG R ms H G) {p : Addr} {H' : Hp} {o : Ob} (hp : H p = none) (e : Ext H H') (new : RepO R (ms ++ [p]) H' o p) : RepG R (ms ++ [p]) H' (G ++ [o]) ∧ Step ms H (ms ++ [p]) H' := by
  have st : Step ms H (ms ++ [p]) H' := ⟨⟨[p], rfl, grow_one hp⟩, fun a u h _ _ => e a u h, e.step (ms := ms) |>.trk⟩
  refine ⟨⟨g.tb.ext e, by simp [g.len], List.nodup_append.mpr ⟨g.nd, by simp, fun a ha b hb => by
    have := List.mem_singleton.mp hb
    subst this
    exact fun q => g.new hp (q ▸ ha)⟩, fun i v b e1 e2 => ?_⟩, st⟩
  by_cases hi : i < G.length
  · rw [List.getElem?_append_left hi] at e1
    rw [List.getElem?_append_left (by rw [g.len]; exact hi)] at e2
    have r := g.ob i v b e1 e2
    cases v with
    | lst ps => obtain ⟨xs, q, r⟩ := r; exact ⟨xs, e _ _ q, RepPs.step st g.own _ _ r⟩
    | dct ks vs => obtain ⟨kx, ys, hl, d, r1, r2⟩ := r; exact ⟨kx, ys, hl, d.at fun u q => e _ _ q, RepPs.step st g.own _ _ r1, RepPs.step st g.own _ _ r2⟩
    | ins c ns ps => obtain ⟨C, dx, fs, hc, q, q2, q3, r⟩ := r; exact ⟨C, dx, fs, hc, e _ _ q, e _ _ q2, q3, RepPs.step st g.own _ _ r⟩
  · have hl := g.len
    rw [List.getElem?_append_right (by omega)] at e1 e2
    have h0 : i - G.length = 0 := by
      cases q : i - G.length with
      | zero => rfl
      | succ n => rw [q] at e1; simp at e1
    rw [h0] at e1
    rw [hl, h0] at e2
    simp at e1 e2
    subst e1 e2
    exact new
theorem RepG.take (g : RepG R ms H G) (n : Nat) (h : ∀ i o a, i < n → G[i]? = some o → ms[i]? = some a → RepO R (ms.take n) H o a) : RepG R (ms.take n) H (G.take n) := by
  refine ⟨g.tb, by simp [g.len], g.nd.sublist (List.take_sublist _ _), fun i o a e1 e2 => ?_⟩
  rw [List.getElem?_take] at e1 e2
  split at e1
  · rename_i hi
    rw [if_pos hi] at e2
    exact h i o a hi e1 e2
  · cases e1
end

mutual
/-- fewer boxes -/
theorem RepP.less {R : RC} {ms ms' : List Addr} {H : Hp} (hm : ∀ a ∈ ms', a ∈ ms) : ∀ (p : PV) (x : V), RepP R ms H p x → RepP R ms' H p x
  | .non, x, h => by simp only [RepP] at h ⊢; exact h
  | .bl b, x, h => by simp only [RepP] at h ⊢; exact h
  | .int i, x, h => by simp only [RepP] at h ⊢; exact h
  | .str z, x, h => by simp only [RepP] at h ⊢; exact h
  | .tup ps, x, h => by
    simp only [RepP] at h ⊢
    obtain ⟨a, xs, e, h1, h2⟩ := h
    exact ⟨a, xs, e, h1.imp (fun ⟨u, n⟩ => ⟨u, fun z => n (hm a z)⟩) id, RepPs.less hm ps xs h2⟩
  | .lst ps, x, h => by
    simp only [RepP] at h ⊢
    obtain ⟨a, xs, e, h1, h2⟩ := h
    exact ⟨a, xs, e, ⟨h1.1, fun z => h1.2 (hm a z)⟩, RepPs.less hm ps xs h2⟩
  | .scr ps, x, h => by
    simp only [RepP] at h ⊢
    obtain ⟨a, xs, e, h1, h2⟩ := h
    exact ⟨a, xs, e, h1.imp (fun ⟨u, n⟩ => ⟨u, fun z => n (hm a z)⟩) id, RepPs.less hm ps xs h2⟩
  | .dct ks vs, x, h => by
    simp only [RepP] at h ⊢
    obtain ⟨a, kx, ys, e, n, hl, d, h1, h2⟩ := h
    exact ⟨a, kx, ys, e, fun z => n (hm a z), hl, d, RepPs.less hm ks kx h1, RepPs.less hm vs ys h2⟩
  | .st _, x, h => by simp only [RepP] at h
  | .ins c ns ps, x, h => by
    simp only [RepP] at h ⊢
    obtain ⟨a, C, dx, fs, e, hc, h1, n1, h2, h3, h4⟩ := h
    exact ⟨a, C, dx, fs, e, hc, h1, fun z => n1 (hm a z), h2, h3, RepPs.less hm ps _ h4⟩
  | .exc _ _ _, x, h => by simp only [RepP] at h
  | .ty n, x, h => by simp only [RepP] at h ⊢; exact h
  | .cls c, x, h => by simp only [RepP] at h ⊢; exact h
  | .fn _, x, h => by simp only [RepP] at h
theorem RepPs.less {R : RC} {ms ms' : List Addr} {H : Hp} (hm : ∀ a ∈ ms', a ∈ ms) : ∀ (ps : List PV) (xs : List V), RepPs R ms H ps xs → RepPs R ms' H ps xs
  | [], xs, h => by simp only [RepPs] at h ⊢; exact h
  | p :: ps, xs, h => by
    simp only [RepPs] at h ⊢
    obtain ⟨x, r, e, h1, h2⟩ := h
    exact ⟨x, r, e, RepP.less hm p x h1, RepPs.less hm ps r h2⟩
end
section
variable {R : RC} {ms ms' : List Addr} {H H' : Hp} {G G' : Store} {ρ : Fr} {σ : L2.St}
theorem RepO.less (hm : ∀ a ∈ ms', a ∈ ms) {o : Ob} {a : Addr} (h : RepO R ms H o a) : RepO R ms' H o a := by
  cases o with
  | lst ps => obtain ⟨xs, q, r⟩ := h; exact ⟨xs, q, RepPs.less hm _ _ r⟩
  | dct ks vs => obtain ⟨kx, ys, hl, d, r1, r2⟩ := h; exact ⟨kx, ys, hl, d, RepPs.less hm _ _ r1, RepPs.less hm _ _ r2⟩
  | ins c ns ps => obtain ⟨C, dx, fs, hc, q, q2, q3, r⟩ := h; exact ⟨C, dx, fs, hc, q, q2, q3, RepPs.less hm _ _ r⟩
theorem RepG.cut (g : RepG R ms H G) (n : Nat) : RepG R (ms.take n) H (G.take n) :=
  g.take n fun i o a _ h1 h2 => (g.ob i o a h1 h2).less fun _ hb => List.mem_of_mem_take hb
end

/-! ### readings -/
section
variable (R : RC) (W : WX)
def PostE (σ : L2.St) (ms : List Addr) (H : Hp) (Q : VK) : Res Val → Prop
  | .ok v G => ∀ ms' x H', Step ms H ms' H' → RepG R ms' H' G → RepV R ms' H' v x → Q x H'
  | .exc e G => ∀ ms' cls d H', Step ms H ms' H' → RepG R ms' H' G → RepX R ms' H' e cls d → W cls d σ H'
  | .stuck => False
def PostT (σ : L2.St) (ms : List Addr) (H : Hp) (Q : Bool → Hp → Prop) : Res Bool → Prop
  | .ok b G => ∀ ms' H', Step ms H ms' H' → RepG R ms' H' G → Q b H'
  | .exc e G => ∀ ms' cls d H', Step ms H ms' H' → RepG R ms' H' G → RepX R ms' H' e cls d → W cls d σ H'
  | .stuck => False
def PostA (σ : L2.St) (ms : List Addr) (H : Hp) (Q : List V → Hp → Prop) : Res (List Val) → Prop
  | .ok vs G => ∀ ms' xs H', Step ms H ms' H' → RepG R ms' H' G → RepVs R ms' H' vs xs → Q xs H'
  | .exc e G => ∀ ms' cls d H', Step ms H ms' H' → RepG R ms' H' G → RepX R ms' H' e cls d → W cls d σ H'
  | .stuck => False
def PostS (ms : List Addr) (H : Hp) (D : Ends) : ResS → Prop
  | .next ρ G => ∀ ms' σ' H', Step ms H ms' H' → RepG R ms' H' G → RepS R ms' H' ρ σ' → D.nx σ' H'
  | .brk ρ G => ∀ ms' σ' H', Step ms H ms' H' → RepG R ms' H' G → RepS R ms' H' ρ σ' → D.bk σ' H'
  | .cont ρ G => ∀ ms' σ' H', Step ms H ms' H' → RepG R ms' H' G → RepS R ms' H' ρ σ' → D.ct σ' H'
  | .ret v G => ∀ ms' x H', Step ms H ms' H' → RepG R ms' H' G → RepV R ms' H' v x → D.rt x H'
  | .exc e ρ G => ∀ ms' cls d σ' H', Step ms H ms' H' → RepG R ms' H' G → RepS R ms' H' ρ σ' → RepX R ms' H' e cls d → W cls d σ' H'
  | .stuck => False
/-- the reading of an evaluator's function -/
def tE (f : FE) : TE := fun σ H Q => ∃ ms ρ G, RepG R ms H G ∧ RepS R ms H ρ σ ∧ PostE R W σ ms H Q (f ρ G)
def tT (f : FT) : TT := fun σ H Q => ∃ ms ρ G, RepG R ms H G ∧ RepS R ms H ρ σ ∧ PostT R W σ ms H Q (f ρ G)
def tA (f : FA) : TA := fun σ H Q => ∃ ms ρ G, RepG R ms H G ∧ RepS R ms H ρ σ ∧ PostA R W σ ms H Q (f ρ G)
def tS (f : FS) : TS := fun D σ H => ∃ ms ρ G, RepG R ms H G ∧ RepS R ms H ρ σ ∧ PostS R W ms H D (f ρ G)
end
theorem PE.to {X : Cx} {e : Expr} {t t' : TE} (h : PE X e t) (i : ∀ σ H Q, t' σ H Q → t σ H Q) : PE X e t' := ⟨fun pins s σ H Q I q => h.run pins s σ H Q I (i σ H Q q)⟩
theorem PT.to {X : Cx} {e : Expr} {t t' : TT} (h : PT X e t) (i : ∀ σ H Q, t' σ H Q → t σ H Q) : PT X e t' := ⟨fun pins s σ H Q I q => h.run pins s σ H Q I (i σ H Q q)⟩
theorem PA.to {X : Cx} {e : List Expr} {t t' : TA} (h : PA X e t) (i : ∀ σ H Q, t' σ H Q → t σ H Q) : PA X e t' := ⟨fun pos pins s σ H Q I q => h.run pos pins s σ H Q I (i σ H Q q)⟩
theorem PS.to {X : Cx} {e : Stmt} {t t' : TS} (h : PS X e t) (i : ∀ D σ H, t' D σ H → t D σ H) : PS X e t' := ⟨fun pins s σ H D I q => h.run pins s σ H D I (i D σ H q)⟩
theorem PSs.to {X : Cx} {e : List Stmt} {t t' : TS} (h : PSs X e t) (i : ∀ D σ H, t' D σ H → t D σ H) : PSs X e t' := ⟨fun pins s σ H D I q => h.run pins s σ H D I (i D σ H q)⟩

section
variable {R : RC} {W : WX}
/-- weaker ends -/
theorem PostE.imp {σ : L2.St} {ms : List Addr} {H : Hp} {Q Q' : VK} {r : Res Val} (h : PostE R W σ ms H Q r) (i : ∀ v H, Q v H → Q' v H) : PostE R W σ ms H Q' r := by
  cases r with
  | ok v G => exact fun ms' x H' a b c => i _ _ (h ms' x H' a b c)
  | exc e G => exact h
  | stuck => exact h
/-- going on: an expression, then the rest -/
theorem tE_bind {σ : L2.St} {ms : List Addr} {ρ : Fr} {G : Store} {H : Hp} {Q : VK} {fa : FE} {k : Val → Store → Res Val}
    (g : RepG R ms H G) (s : RepS R ms H ρ σ) (h : PostE R W σ ms H Q ((fa ρ G).bind k)) {Q2 : VK}
    (go : ∀ ms1 x H1 v G1, fa ρ G = .ok v G1 → Step ms H ms1 H1 → RepG R ms1 H1 G1 → RepS R ms1 H1 ρ σ → RepV R ms1 H1 v x → PostE R W σ ms1 H1 Q (k v G1) → Q2 x H1) : tE R W fa σ H Q2 := by
  refine ⟨ms, ρ, G, g, s, ?_⟩
  cases e : fa ρ G with
  | ok v G1 =>
    rw [e] at h
    intro ms1 x H1 st g1 r
    refine go ms1 x H1 v G1 e st g1 (s.step g st) r ?_
    have h : PostE R W σ ms H Q (k v G1) := h
    cases e2 : k v G1 with
    | ok u G2 => rw [e2] at h; exact fun ms2 y H2 st2 g2 r2 => h ms2 y H2 (st.trans st2) g2 r2
    | exc e G2 => rw [e2] at h; exact fun ms2 c d H2 st2 g2 r2 => h ms2 c d H2 (st.trans st2) g2 r2
    | stuck => rw [e2] at h; exact h
  | exc e G1 => rw [e] at h; exact h
  | stuck => rw [e] at h; exact h
end
end Ev

end
section
set_option maxRecDepth 100000
set_option maxHeartbeats 4000000
/-! Ev C: what the evaluator's pieces compute -/
namespace Ev
open PySem PySem.Spec PyProof.Rows L2

mutual
def PV.beq : PV → PV → Bool
  | .non, .non => true
  | .bl a, .bl b => a == b
  | .int a, .int b => a == b
  | .str a, .str b => a == b
  | .tup a, .tup b => PV.beqs a b
  | .lst a, .lst b => PV.beqs a b
  | .scr a, .scr b => PV.beqs a b
  | .dct a b, .dct c d => PV.beqs a c && PV.beqs b d
  | .st a, .st b => PV.beqs a b
  | .ins c ns vs, .ins c' ns' vs' => c == c' && ns == ns' && PV.beqs vs vs'
  | .exc c ns vs, .exc c' ns' vs' => c == c' && ns == ns' && PV.beqs vs vs'
  | .ty a, .ty b => a == b
  | .cls a, .cls b => a == b
  | .fn a, .fn b => a == b
  | _, _ => false
def PV.beqs : List PV → List PV → Bool
  | [], [] => true
  | a :: as, b :: bs => PV.beq a b && PV.beqs as bs
  | _, _ => false
end
mutual
theorem PV.eq_of_beq : ∀ {a b : PV}, PV.beq a b = true → a = b := fun {a b} h => by
  cases a with
  | non => cases b <;> simp_all [PV.beq]
  | bl x => cases b <;> simp_all [PV.beq]
  | int x => cases b <;> simp_all [PV.beq]
  | str x => cases b <;> simp_all [PV.beq]
  | tup x => cases b <;> simp_all [PV.beq]; exact PV.eqs_of_beqs h
  | lst x => cases b <;> simp_all [PV.beq]; exact PV.eqs_of_beqs h
  | scr x => cases b <;> simp_all [PV.beq]; exact PV.eqs_of_beqs h
  | dct x y => cases b <;> simp_all [PV.beq]; exact ⟨PV.eqs_of_beqs h.1, PV.eqs_of_beqs h.2⟩
  | st x => cases b <;> simp_all [PV.beq]; exact PV.eqs_of_beqs h
  | ins c n x => cases b <;> simp_all [PV.beq]; exact PV.eqs_of_beqs h.2
  | exc c n x => cases b <;> simp_all [PV.beq]; exact PV.eqs_of_beqs h.2
  | ty x => cases b <;> simp_all [PV.beq]
  | cls x => cases b <;> simp_all [PV.beq]
  | fn x => cases b <;> simp_all [PV.beq]
theorem PV.eqs_of_beqs : ∀ {a b : List PV}, PV.beqs a b = true → a = b := fun {a b} h => by
  cases a with
  | nil => cases b <;> simp_all [PV.beqs]
  | cons x xs =>
    cases b with
    | nil => simp_all [PV.beqs]
    | cons y ys =>
      simp [PV.beqs] at h
      rw [PV.eq_of_beq h.1, PV.eqs_of_beqs h.2]
end
mutual
theorem PV.beq_refl : ∀ a : PV, PV.beq a a = true := fun a => by
  cases a with
  | non => rfl
  | bl x => simp [PV.beq]
  | int x => simp [PV.beq]
  | str x => simp [PV.beq]
  | tup x => simp [PV.beq, PV.beqs_refl x]
  | lst x => simp [PV.beq, PV.beqs_refl x]
  | scr x => simp [PV.beq, PV.beqs_refl x]
  | dct x y => simp [PV.beq, PV.beqs_refl x, PV.beqs_refl y]
  | st x => simp [PV.beq, PV.beqs_refl x]
  | ins c n x => simp [PV.beq, PV.beqs_refl x]
  | exc c n x => simp [PV.beq, PV.beqs_refl x]
  | ty x => simp [PV.beq]
  | cls x => simp [PV.beq]
  | fn x => simp [PV.beq]
theorem PV.beqs_refl : ∀ a : List PV, PV.beqs a a = true := fun a => by
  cases a with
  | nil => rfl
  | cons x xs => simp [PV.beqs, PV.beq_refl x, PV.beqs_refl xs]
end
instance : DecidableEq PV := fun a b => if h : PV.beq a b = true then isTrue (PV.eq_of_beq h) else isFalse fun e => h (by rw [e]; exact PV.beq_refl b)

/-! ### data -/
mutual
def PV.data : PV → Option PyData
  | .non => some .none
  | .bl b => some (.bool b)
  | .int i => some (.int i)
  | .str s => some (.str s)
  | .tup xs => (PV.datas xs).map .tuple
  | .lst xs => (PV.datas xs).map .list
  | _ => none
def PV.datas : List PV → Option (List PyData)
  | [] => some []
  | x :: xs => match PV.data x, PV.datas xs with
    | some d, some ds => some (d :: ds)
    | _, _ => none
end
/-- two data under C's room -/
def okD (d : PyData) : Bool := SeqAt.shaped d
def pyEq (a b : PV) : Option Bool := match a.data, b.data with
  | some x, some y => if okD x && okD y then some (PyData.eqv x y) else none
  | _, _ => none
def notNone : PyData → Bool
  | .none => false
  | _ => true
def pyLt (a b : PV) : Option Bool := match a.data, b.data with
  | some x, some y => if okD x && okD y && PySem.W.alike x y && notNone x then some (PySem.W.dataLt x y) else none
  | _, _ => none
def pyTruth : PV → Option Bool
  | .non => some false
  | .bl b => some b
  | .int i => some (i != 0)
  | .str s => if s.length ≤ sizeLine then some ((s.length : Int) != 0) else none
  | .tup xs => some (!xs.isEmpty)
  | .lst xs => some (!xs.isEmpty)
  | _ => none

/-! ### looking at boxes -/
def deref (G : Store) : Val → Option PV
  | .pv p => some p
  | .box j => match G[j]? with
    | some (.lst xs) => some (.lst xs)
    | some (.dct ks vs) => some (.dct ks vs)
    | some (.ins c ns vs) => some (.ins c ns vs)
    | none => none
def derefs (G : Store) : List Val → Option (List PV)
  | [] => some []
  | v :: vs => match deref G v, derefs G vs with
    | some p, some ps => some (p :: ps)
    | _, _ => none

/-! ### expressions -/
abbrev FF := Fr → Store → Res (List PV)
def ofO (o : Option PV) (G : Store) : Res Val := match o with
  | some p => .ok (.pv p) G
  | none => .stuck
def ofOL (o : Option (List PV)) (G : Store) : Res (List PV) := match o with
  | some p => .ok p G
  | none => .stuck
def ofOB (o : Option Bool) (G : Store) : Res Bool := match o with
  | some b => .ok b G
  | none => .stuck
def cK (p : PV) : FE := fun _ G => .ok (.pv p) G
def cStuck : FE := fun _ _ => .stuck
def cVar (i : Nat) : FE := fun ρ G => match ρ[i]? with
  | some (some v) => .ok v G
  | _ => .stuck
def opt2 (op : PV → PV → Option PV) (a b : Option PV) : Option PV := match a, b with
  | some x, some y => op x y
  | _, _ => none
def opt2B (op : PV → PV → Option Bool) (a b : Option PV) : Option Bool := match a, b with
  | some x, some y => op x y
  | _, _ => none
def opt2L (op : PV → PV → Option (List PV)) (a b : Option PV) : Option (List PV) := match a, b with
  | some x, some y => op x y
  | _, _ => none
def cBin (op : PV → PV → Option PV) (a b : FE) : FE := fun ρ G => (a ρ G).bind fun x G1 => (b ρ G1).bind fun y G2 => ofO (opt2 op (deref G2 x) (deref G2 y)) G2
def cBinF (op : PV → PV → Option (List PV)) (a b : FE) : FF := fun ρ G => (a ρ G).bind fun x G1 => (b ρ G1).bind fun y G2 => ofOL (opt2L op (deref G2 x) (deref G2 y)) G2
def cUn (op : PV → Option PV) (a : FE) : FE := fun ρ G => (a ρ G).bind fun x G1 => ofO ((deref G1 x).bind op) G1
def cFrz (f : FF) : FE := fun ρ G => (f ρ G).bind fun ps G1 => .ok (.pv (.lst ps)) G1
def cNil : FA := fun _ G => .ok [] G
def cCons (a : FE) (as : FA) : FA := fun ρ G => (a ρ G).bind fun v G1 => (as ρ G1).bind fun vs G2 => .ok (v :: vs) G2
def cCall (f : List PV → Option PV) (as : FA) : FE := fun ρ G => (as ρ G).bind fun vs G1 => ofO ((derefs G1 vs).bind f) G1
def cCallF (f : List PV → Option (List PV)) (as : FA) : FF := fun ρ G => (as ρ G).bind fun vs G1 => ofOL ((derefs G1 vs).bind f) G1
def cOwn (run : List Val → Store → Res Val) (as : FA) : FE := fun ρ G => (as ρ G).bind run
def cTup (as : FA) : FE := fun ρ G => (as ρ G).bind fun vs G1 => ofO ((pures vs).map .tup) G1
where pures : List Val → Option (List PV)
  | [] => some []
  | .pv p :: vs => (pures vs).map (p :: ·)
  | .box _ :: _ => none
def cLst (as : FA) : FF := fun ρ G => (as ρ G).bind fun vs G1 => ofOL (cTup.pures vs) G1
def cIf (t : FT) (a b : FE) : FE := fun ρ G => (t ρ G).bind fun c G1 => if c = true then a ρ G1 else b ρ G1
def asB : Val → Option Bool
  | .pv (.bl b) => some b
  | _ => none
def cAndV (a b : FE) : FE := fun ρ G => (a ρ G).bind fun v G1 => match asB v with
  | some true => b ρ G1
  | some false => .ok (.pv (.bl false)) G1
  | none => .stuck
def cOrV (a b : FE) : FE := fun ρ G => (a ρ G).bind fun v G1 => match asB v with
  | some true => .ok (.pv (.bl true)) G1
  | some false => b ρ G1
  | none => .stuck
def cNotV (a : FE) : FE := fun ρ G => (a ρ G).bind fun v G1 => match asB v with
  | some c => .ok (.pv (.bl (!c))) G1
  | none => .stuck

/-! ### tests -/
def cTru (a : FE) : FT := fun ρ G => (a ρ G).bind fun v G1 => ofOB ((deref G1 v).bind pyTruth) G1
def cNotT (a : FT) : FT := fun ρ G => (a ρ G).bind fun c G1 => .ok (!c) G1
def cAndT (a b : FT) : FT := fun ρ G => (a ρ G).bind fun c G1 => if c = true then b ρ G1 else .ok false G1
def cOrT (a b : FT) : FT := fun ρ G => (a ρ G).bind fun c G1 => if c = true then .ok true G1 else b ρ G1
def cYes : FT := fun _ G => .ok true G

/-! ### items -/
/-- what a loop walks: the items; a box that must stay as it is -/
structure Items where
  xs : List PV
  guard : Option Nat := none
abbrev FI := Fr → Store → Res Items
def guardOk (g : Option Nat) (xs : List PV) (G : Store) : Bool := match g with
  | none => true
  | some j => match G[j]? with
    | some (.lst ys) => decide (ys = xs)
    | _ => false
inductive Tgt where
  | one (i : Nat) | tup (is : List Nat)
  deriving Inhabited
def setAll : List Nat → List PV → Fr → Option Fr
  | [], [], ρ => some ρ
  | i :: is, v :: vs, ρ => setAll is vs (ρ.set i (some (.pv v)))
  | _, _, _ => none
def bindTgt : Tgt → PV → Fr → Option Fr
  | .one i, v, ρ => some (ρ.set i (some (.pv v)))
  | .tup is, .tup vs, ρ => setAll is vs ρ
  | _, _, _ => none
def wipeF (ρ : Fr) : List Nat → Fr
  | [] => ρ
  | v :: vs => (wipeF ρ vs).set v none
def charsOf (z : Str) : List PV := z.cps.toList.map fun c => .str ⟨#[c]⟩
/-- a list walked: a pure one, a box -/
def iSeq (a : FE) : FI := fun ρ G => (a ρ G).bind fun v G1 => match v with
  | .pv (.lst xs) => .ok ⟨xs, none⟩ G1
  | .pv (.tup xs) => .ok ⟨xs, none⟩ G1
  | .pv (.scr xs) => .ok ⟨xs, none⟩ G1
  | .pv (.str z) => .ok ⟨charsOf z, none⟩ G1
  | .box j => (match G1[j]? with
    | some (.lst xs) => .ok ⟨xs, some j⟩ G1
    | _ => .stuck)
  | _ => .stuck
def intsUp (lo : Int) : Nat → List PV
  | 0 => []
  | n + 1 => .int lo :: intsUp (lo + 1) n
def bound62 (i : Int) : Bool := decide (-(2 ^ 62) ≤ i ∧ i < 2 ^ 62)
def rangeItems : List PV → Option (List PV)
  | [.int j] => if bound62 j then some (intsUp 0 j.toNat) else none
  | [.int i, .int j] => if bound62 i && bound62 j then some (intsUp i (j - i).toNat) else none
  | _ => none
/-- zip of two pure ones of a kind -/
def zipPV : List PV → List PV → List PV
  | x :: xs, y :: ys => .tup [x, y] :: zipPV xs ys
  | _, _ => []
def zipItems : List Val → Option (List PV)
  | [.pv (.tup xs), .pv (.tup ys)] => some (zipPV xs ys)
  | [.pv (.lst xs), .pv (.lst ys)] => some (zipPV xs ys)
  | _ => none
def enumPV (i : Nat) : List PV → List PV
  | x :: xs => .tup [.int i, x] :: enumPV (i + 1) xs
  | [] => []
def enumItems : List Val → Option (List PV)
  | [.pv (.lst xs)] => some (enumPV 0 xs)
  | [.pv (.scr xs)] => some (enumPV 0 xs)
  | _ => none
def iVals (f : List Val → Option (List PV)) (as : FA) : FI := fun ρ G => (as ρ G).bind fun vs G1 => match f vs with
  | some xs => .ok ⟨xs, none⟩ G1
  | none => .stuck
def iCall (f : List PV → Option (List PV)) (as : FA) : FI := fun ρ G => (as ρ G).bind fun vs G1 => match (derefs G1 vs).bind f with
  | some xs => .ok ⟨xs, none⟩ G1
  | none => .stuck

/-! ### comprehensions -/
def noX {α : Type} : Res α → Res α
  | .exc _ _ => .stuck
  | r => r
/-- the turns: n is the new list's box -/
def lcLoop (it : Items) (tgt : Tgt) (tt : FT) (te : FE) (n : Nat) (ρ : Fr) : List PV → Store → Res Unit
  | [], G => if guardOk it.guard it.xs G then .ok () G else .stuck
  | x :: xs, G => if guardOk it.guard it.xs G then
      match bindTgt tgt x ρ with
      | none => .stuck
      | some ρ' => (noX (tt ρ' G)).bind fun b G1 => if b = true then
          (noX (te ρ' G1)).bind fun v G2 => match v, G2[n]? with
            | .pv p, some (.lst acc) => if acc.length < sizeLine then lcLoop it tgt tt te n ρ xs (G2.set n (.lst (acc ++ [p]))) else .stuck
            | _, _ => .stuck
        else lcLoop it tgt tt te n ρ xs G1
    else .stuck
def cLc (fi : FI) (own : List Nat) (tgt : Tgt) (tt : FT) (te : FE) : FF := fun ρ G => (fi ρ G).bind fun it G1 =>
  (lcLoop it tgt tt te G1.length (wipeF ρ own) it.xs (G1 ++ [.lst []])).bind fun _ G2 => match G2[G1.length]? with
    | some (.lst acc) => if G2.length = G1.length + 1 then .ok acc (G2.take G1.length) else .stuck
    | _ => .stuck

/-! ### statements -/
def sSkip : FS := fun ρ G => .next ρ G
def sStuck : FS := fun _ _ => .stuck
def sSeq (a b : FS) : FS := fun ρ G => match a ρ G with
  | .next ρ1 G1 => b ρ1 G1
  | r => r
def ofR {α : Type} (ρ : Fr) (r : Res α) (k : α → Store → ResS) : ResS := match r with
  | .ok a G => k a G
  | .exc e G => .exc e ρ G
  | .stuck => .stuck
def sExpr (e : FE) : FS := fun ρ G => ofR ρ (e ρ G) fun _ G1 => .next ρ G1
def sRet (e : FE) : FS := fun ρ G => ofR ρ (e ρ G) fun v G1 => .ret v G1
def sRetN : FS := fun _ G => .ret (.pv .non) G
/-- a new list that stays changeable is handed back -/
def sRetBox (f : FF) : FS := fun ρ G => ofR ρ (f ρ G) fun ps G1 => .ret (.box G1.length) (G1 ++ [.lst ps])
def sIf (t : FT) (a b : FS) : FS := fun ρ G => ofR ρ (t ρ G) fun c G1 => if c = true then a ρ G1 else b ρ G1
def sSet (i : Nat) (e : FE) : FS := fun ρ G => ofR ρ (e ρ G) fun v G1 => .next (ρ.set i (some v)) G1
def sSetBox (i : Nat) (f : FF) : FS := fun ρ G => ofR ρ (f ρ G) fun ps G1 => .next (ρ.set i (some (.box G1.length))) (G1 ++ [.lst ps])
def sBreak : FS := fun ρ G => .brk ρ G
def sCont : FS := fun ρ G => .cont ρ G
def forLoop (it : Items) (tgt : Tgt) (body : FS) : List PV → Fr → Store → ResS
  | [], ρ, G => if guardOk it.guard it.xs G then .next ρ G else .stuck
  | x :: xs, ρ, G => if guardOk it.guard it.xs G then
      match bindTgt tgt x ρ with
      | none => .stuck
      | some ρ' => match body ρ' G with
        | .next ρ1 G1 => forLoop it tgt body xs ρ1 G1
        | .cont ρ1 G1 => forLoop it tgt body xs ρ1 G1
        | .brk ρ1 G1 => .next ρ1 G1
        | r => r
    else .stuck
def sFor (fi : FI) (tgt : Tgt) (body : FS) : FS := fun ρ G => ofR ρ (fi ρ G) fun it G1 => forLoop it tgt body it.xs ρ G1

/-! ### a def -/
def freeze : Ob → PV
  | .lst xs => .lst xs
  | .dct ks vs => .dct ks vs
  | .ins c ns vs => .ins c ns vs
/-- leaving a def whose frame began at n boxes: its own boxes go, one that is handed back is frozen (keep: stays a box) -/
def leave (keep : Bool) (n : Nat) (v : Val) (G : Store) : Res Val := match v with
  | .pv p => .ok (.pv p) (G.take n)
  | .box j => if j < n then .ok (.box j) (G.take n) else match G[j]? with
    | some o => if keep then .ok (.box n) (G.take n ++ [o]) else .ok (.pv (freeze o)) (G.take n)
    | none => .stuck
def startF (N : List Str) (vs : List Val) : Fr := vs.map some ++ List.replicate (N.length - vs.length) none
def fnSem (keep : Bool) (N : List Str) (body : FS) (vs : List Val) (G : Store) : Res Val := match body (startF N vs) G with
  | .ret v G1 => leave keep G.length v G1
  | .next _ G1 => .ok (.pv .non) (G1.take G.length)
  | .exc e _ G1 => .exc e (G1.take G.length)
  | _ => .stuck
end Ev

end
section
set_option maxRecDepth 100000
set_option maxHeartbeats 4000000
/-! Ev D: each piece is sound: names, constants, operators, calls, displays, tests -/
namespace Ev
open PySem PySem.Spec PyProof.Rows L2

/-- x may be looked at as p (a box's content as a pure value) -/
def RD (R : RC) (ms : List Addr) (H : Hp) : PV → V → Prop
  | .lst ps, x => ∃ a xs, x = .ref a ∧ H a = some (.lst xs) ∧ RepPs R ms H ps xs
  | .ins c ns ps, x => ∃ a C dx fs, x = .ref a ∧ R.cl c = some C ∧ H a = some (.ins C dx fs) ∧ H dx = some (.own a) ∧ fs.map (·.1) = ns ∧ RepPs R ms H ps (fs.map (·.2))
  | .dct ks vs, x => ∃ a kx ys, x = .ref a ∧ ks.length = vs.length ∧ DkO R H a ks kx ys ∧ RepPs R ms H ks kx ∧ RepPs R ms H vs ys
  | p, x => RepP R ms H p x
inductive RDs (R : RC) (ms : List Addr) (H : Hp) : List PV → List V → Prop
  | nil : RDs R ms H [] []
  | cons {p x ps xs} : RD R ms H p x → RDs R ms H ps xs → RDs R ms H (p :: ps) (x :: xs)
/-- the boxes are tracked -/
def Trk (ms : List Addr) (H : Hp) : Prop := ∀ a ∈ ms, ∃ u, H a = some u ∧ isBox u = true
section
variable {R : RC} {ms ms' : List Addr} {H H' : Hp} {G G' : Store} {ρ : Fr} {σ : L2.St}
theorem RepG.trk (g : RepG R ms H G) : Trk ms H := fun _ h => g.box h
theorem Trk.own (t : Trk ms H) : ∀ x a, H x = some (.own a) → x ∉ ms := fun x a e hm => by
  obtain ⟨u, e2, b⟩ := t x hm
  rw [e] at e2; cases e2; cases b
theorem Trk.ext (t : Trk ms H) (e : Ext H H') : Trk ms H' := fun a h => let ⟨u, q, b⟩ := t a h; ⟨u, e _ _ q, b⟩
theorem RepP.ext (t : Trk ms H) (e : Ext H H') {p : PV} {x : V} (h : RepP R ms H p x) : RepP R ms H' p x := RepP.step (e.step (ms := ms)) t.own p x h
theorem RepPs.ext (t : Trk ms H) (e : Ext H H') {p : List PV} {x : List V} (h : RepPs R ms H p x) : RepPs R ms H' p x := RepPs.step (e.step (ms := ms)) t.own p x h
theorem Trk.new (t : Trk ms H) {p : Addr} (h : H p = none) : p ∉ ms := fun hm => by
  obtain ⟨u, e, b⟩ := t p hm
  rw [h] at e; cases e
theorem RepP.rd {p : PV} {x : V} (h : RepP R ms H p x) : RD R ms H p x := by
  cases p with
  | lst ps =>
    simp only [RepP] at h
    obtain ⟨a, xs, e, h1, h2⟩ := h
    exact ⟨a, xs, e, h1.1, h2⟩
  | ins c ns ps =>
    simp only [RepP] at h
    obtain ⟨a, C, dx, fs, e, hc, h1, n1, h2, h3, h4⟩ := h
    exact ⟨a, C, dx, fs, e, hc, h1, h2, h3, h4⟩
  | dct ks vs =>
    simp only [RepP] at h
    obtain ⟨a, kx, ys, e, n, hl, d, h1, h2⟩ := h
    exact ⟨a, kx, ys, e, hl, d, h1, h2⟩
  | _ => exact h
theorem RepV.deref (g : RepG R ms H G) {v : Val} {x : V} {p : PV} (r : RepV R ms H v x) (e : deref G v = some p) : RD R ms H p x := by
  cases v with
  | pv q =>
    simp only [Ev.deref, Option.some.injEq] at e
    subst e
    exact RepP.rd r
  | box j =>
    obtain ⟨a, h1, rfl⟩ := r
    simp only [Ev.deref] at e
    cases q : G[j]? with
    | none => rw [q] at e; cases e
    | some o =>
      rw [q] at e
      have h := g.ob j o a q h1
      cases o with
      | lst ps =>
        cases e
        obtain ⟨xs, h2, h3⟩ := h
        exact ⟨a, xs, rfl, h2, h3⟩
      | dct ks vs =>
        cases e
        obtain ⟨kx, ys, hl, d, r1, r2⟩ := h
        exact ⟨a, kx, ys, rfl, hl, d, r1, r2⟩
      | ins c ns ps =>
        cases e
        obtain ⟨C, dx, fs, hc, h1, h2, h3, h4⟩ := h
        exact ⟨a, C, dx, fs, rfl, hc, h1, h2, h3, h4⟩
theorem RepVs.derefs (g : RepG R ms H G) {vs : List Val} {xs : List V} (r : RepVs R ms H vs xs) : ∀ {ps : List PV}, derefs G vs = some ps → RDs R ms H ps xs := by
  induction r with
  | nil => intro ps e; cases e; exact .nil
  | @cons v x vs xs h t ih =>
    intro ps e
    simp only [Ev.derefs] at e
    cases q1 : Ev.deref G v with
    | none => rw [q1] at e; cases e
    | some p =>
      cases q2 : Ev.derefs G vs with
      | none => rw [q1, q2] at e; cases e
      | some ps' =>
        rw [q1, q2] at e
        cases e
        exact .cons (h.deref g q1) (ih q2)
theorem RepVs.pures {vs : List Val} {xs : List V} (r : RepVs R ms H vs xs) : ∀ {ps : List PV}, cTup.pures vs = some ps → RepPs R ms H ps xs := by
  induction r with
  | nil => intro ps e; simp only [cTup.pures] at e; cases e; exact RepPs.nil
  | @cons v x vs xs h t ih =>
    intro ps e
    cases v with
    | pv p =>
      simp only [cTup.pures] at e
      cases q2 : cTup.pures vs with
      | none => rw [q2] at e; cases e
      | some ps' => rw [q2] at e; cases e; exact RepPs.cons h (ih q2)
    | box j => simp [cTup.pures] at e
/-- a new tuple, a new list -/
theorem rep_tup (t : Trk ms H) {p : Addr} {ps : List PV} {xs : List V} (hp : H p = none) (r : RepPs R ms H ps xs) : RepP R ms (upd H p (.tup xs)) (.tup ps) (.ref p) := by
  simp only [RepP]
  exact ⟨p, xs, rfl, .inl ⟨.inl upd_same, t.new hp⟩, r.ext t (Ext.new hp)⟩
theorem rep_lst (t : Trk ms H) {p : Addr} {ps : List PV} {xs : List V} (hp : H p = none) (r : RepPs R ms H ps xs) : RepP R ms (upd H p (.lst xs)) (.lst ps) (.ref p) := by
  simp only [RepP]
  exact ⟨p, xs, rfl, ⟨upd_same, t.new hp⟩, r.ext t (Ext.new hp)⟩
end

section
variable (R : RC)
def rB (op : PV → PV → Option PV) : R2 := fun x y H Q => ∃ ms p q r, RD R ms H p x ∧ RD R ms H q y ∧ Trk ms H ∧ op p q = some r ∧ ∀ z H', Ext H H' → RepP R ms H' r z → Q z H'
def rU1 (op : PV → Option PV) : V → Hp → VK → Prop := fun x H Q => ∃ ms p r, RD R ms H p x ∧ Trk ms H ∧ op p = some r ∧ ∀ z H', Ext H H' → RepP R ms H' r z → Q z H'
def rC (f : List PV → Option PV) : List V → Hp → VK → Prop := fun xs H Q => ∃ ms ps r, RDs R ms H ps xs ∧ Trk ms H ∧ f ps = some r ∧ ∀ z H', Ext H H' → RepP R ms H' r z → Q z H'
/-- a new list comes out -/
def NewL (ms : List Addr) (H : Hp) (rs : List PV) (Q : VK) : Prop := ∀ p ys H1 H', Ext H H1 → H1 p = none → RepPs R ms H1 rs ys → Ext H1 H' → H' p = some (.lst ys) → Q (.ref p) H'
def rCF (f : List PV → Option (List PV)) : List V → Hp → VK → Prop := fun xs H Q => ∃ ms ps rs, RDs R ms H ps xs ∧ Trk ms H ∧ f ps = some rs ∧ NewL R ms H rs Q
def rBF (op : PV → PV → Option (List PV)) : R2 := fun x y H Q => ∃ ms p q rs, RD R ms H p x ∧ RD R ms H q y ∧ Trk ms H ∧ op p q = some rs ∧ NewL R ms H rs Q
variable (W : WX)
def PostF (σ : L2.St) (ms : List Addr) (H : Hp) (Q : VK) : Res (List PV) → Prop
  | .ok ps G => ∀ ms' p H', Step ms H (ms' ++ [p]) H' → RepG R (ms' ++ [p]) H' (G ++ [.lst ps]) → ms.length ≤ ms'.length → Q (.ref p) H'
  | .exc e G => ∀ ms' cls d H', Step ms H ms' H' → RepG R ms' H' G → RepX R ms' H' e cls d → W cls d σ H'
  | .stuck => False
def tF (f : FF) : TE := fun σ H Q => ∃ ms ρ G, RepG R ms H G ∧ RepS R ms H ρ σ ∧ PostF R W σ ms H Q (f ρ G)
end

section
variable {R : RC} {W : WX} {X : Cx} {ms ms' : List Addr} {H H' : Hp} {G G' : Store} {ρ : Fr} {σ : L2.St} {a b e : Expr} {es : List Expr} {fa fb : FE} {pos : Pos}

theorem Ext.of_step_nil {H : Hp} : Step ms H ms H := Step.refl ms H
/-- a result that only adds to the heap -/
theorem PostE.now {Q : VK} {p : PV} {x : V} (h : PostE R W σ ms H Q (.ok (.pv p) G)) (g : RepG R ms H G) (e : Ext H H') (r : RepP R ms H' p x) : Q x H' :=
  h ms x H' e.step (g.ext e) r
/-- the ends carried on -/
theorem PostE.on {Q : VK} {r : Res Val} (h : PostE R W σ ms H Q r) {ms1 : List Addr} {H1 : Hp} (st : Step ms H ms1 H1) : PostE R W σ ms1 H1 Q r := by
  cases r with
  | ok v G => exact fun ms2 x H2 s2 => h ms2 x H2 (st.trans s2)
  | exc e G => exact fun ms2 c d H2 s2 => h ms2 c d H2 (st.trans s2)
  | stuck => exact h
theorem PostT.on {Q : Bool → Hp → Prop} {r : Res Bool} (h : PostT R W σ ms H Q r) {ms1 : List Addr} {H1 : Hp} (st : Step ms H ms1 H1) : PostT R W σ ms1 H1 Q r := by
  cases r with
  | ok v G => exact fun ms2 H2 s2 => h ms2 H2 (st.trans s2)
  | exc e G => exact fun ms2 c d H2 s2 => h ms2 c d H2 (st.trans s2)
  | stuck => exact h
theorem PostA.on {Q : List V → Hp → Prop} {r : Res (List Val)} (h : PostA R W σ ms H Q r) {ms1 : List Addr} {H1 : Hp} (st : Step ms H ms1 H1) : PostA R W σ ms1 H1 Q r := by
  cases r with
  | ok v G => exact fun ms2 x H2 s2 => h ms2 x H2 (st.trans s2)
  | exc e G => exact fun ms2 c d H2 s2 => h ms2 c d H2 (st.trans s2)
  | stuck => exact h
theorem PostF.on {Q : VK} {r : Res (List PV)} (h : PostF R W σ ms H Q r) {ms1 : List Addr} {H1 : Hp} (st : Step ms H ms1 H1) : PostF R W σ ms1 H1 Q r := by
  cases r with
  | ok v G => exact fun ms2 x H2 s2 g l => h ms2 x H2 (st.trans s2) g (by
      obtain ⟨new, e, _⟩ := st.grow
      have := congrArg List.length e
      simp at this
      omega)
  | exc e G => exact fun ms2 c d H2 s2 => h ms2 c d H2 (st.trans s2)
  | stuck => exact h
theorem PostS.on {D : Ends} {r : ResS} (h : PostS R W ms H D r) {ms1 : List Addr} {H1 : Hp} (st : Step ms H ms1 H1) : PostS R W ms1 H1 D r := by
  cases r with
  | next _ G => exact fun ms2 x H2 s2 => h ms2 x H2 (st.trans s2)
  | brk _ G => exact fun ms2 x H2 s2 => h ms2 x H2 (st.trans s2)
  | cont _ G => exact fun ms2 x H2 s2 => h ms2 x H2 (st.trans s2)
  | ret v G => exact fun ms2 x H2 s2 => h ms2 x H2 (st.trans s2)
  | exc e _ G => exact fun ms2 c d x H2 s2 => h ms2 c d x H2 (st.trans s2)
  | stuck => exact h

/-- what is wanted of an outcome, for any kind of outcome: ok by O, an exception by W -/
def PostR {α : Type} (R : RC) (W : WX) (σ : L2.St) (ms : List Addr) (H : Hp) (O : α → Store → Prop) : Res α → Prop
  | .ok a G => O a G
  | .exc e G => ∀ ms' cls d H', Step ms H ms' H' → RepG R ms' H' G → RepX R ms' H' e cls d → W cls d σ H'
  | .stuck => False
/-- an expression ahead of anything -/
theorem tE_then {α : Type} {Q2 : VK} {k : Val → Store → Res α} {O : α → Store → Prop} (g : RepG R ms H G) (s : RepS R ms H ρ σ) (h : PostR R W σ ms H O ((fa ρ G).bind k))
    (go : ∀ v G1, fa ρ G = .ok v G1 → PostR R W σ ms H O (k v G1) → ∀ ms1 x H1, Step ms H ms1 H1 → RepG R ms1 H1 G1 → RepS R ms1 H1 ρ σ → RepV R ms1 H1 v x → Q2 x H1) : tE R W fa σ H Q2 := by
  refine ⟨ms, ρ, G, g, s, ?_⟩
  cases e : fa ρ G with
  | ok v G1 =>
    rw [e] at h
    exact fun ms1 x H1 st g1 r => go v G1 e h ms1 x H1 st g1 (s.step g st) r
  | exc e G1 => rw [e] at h; exact h
  | stuck => rw [e] at h; exact h
theorem tT_then {α : Type} {ft : FT} {Q2 : Bool → Hp → Prop} {k : Bool → Store → Res α} {O : α → Store → Prop} (g : RepG R ms H G) (s : RepS R ms H ρ σ) (h : PostR R W σ ms H O ((ft ρ G).bind k))
    (go : ∀ v G1, ft ρ G = .ok v G1 → PostR R W σ ms H O (k v G1) → ∀ ms1 H1, Step ms H ms1 H1 → RepG R ms1 H1 G1 → RepS R ms1 H1 ρ σ → Q2 v H1) : tT R W ft σ H Q2 := by
  refine ⟨ms, ρ, G, g, s, ?_⟩
  cases e : ft ρ G with
  | ok v G1 =>
    rw [e] at h
    exact fun ms1 H1 st g1 => go v G1 e h ms1 H1 st g1 (s.step g st)
  | exc e G1 => rw [e] at h; exact h
  | stuck => rw [e] at h; exact h
theorem tA_then {α : Type} {fs : FA} {Q2 : List V → Hp → Prop} {k : List Val → Store → Res α} {O : α → Store → Prop} (g : RepG R ms H G) (s : RepS R ms H ρ σ) (h : PostR R W σ ms H O ((fs ρ G).bind k))
    (go : ∀ v G1, fs ρ G = .ok v G1 → PostR R W σ ms H O (k v G1) → ∀ ms1 x H1, Step ms H ms1 H1 → RepG R ms1 H1 G1 → RepS R ms1 H1 ρ σ → RepVs R ms1 H1 v x → Q2 x H1) : tA R W fs σ H Q2 := by
  refine ⟨ms, ρ, G, g, s, ?_⟩
  cases e : fs ρ G with
  | ok v G1 =>
    rw [e] at h
    exact fun ms1 x H1 st g1 r => go v G1 e h ms1 x H1 st g1 (s.step g st) r
  | exc e G1 => rw [e] at h; exact h
  | stuck => rw [e] at h; exact h
theorem PostE.r {Q : VK} {r : Res Val} (h : PostE R W σ ms H Q r) : PostR R W σ ms H (fun v G => ∀ ms' x H', Step ms H ms' H' → RepG R ms' H' G → RepV R ms' H' v x → Q x H') r := by
  cases r <;> exact h
theorem PostT.r {Q : Bool → Hp → Prop} {r : Res Bool} (h : PostT R W σ ms H Q r) : PostR R W σ ms H (fun v G => ∀ ms' H', Step ms H ms' H' → RepG R ms' H' G → Q v H') r := by
  cases r <;> exact h
theorem PostA.r {Q : List V → Hp → Prop} {r : Res (List Val)} (h : PostA R W σ ms H Q r) : PostR R W σ ms H (fun v G => ∀ ms' x H', Step ms H ms' H' → RepG R ms' H' G → RepVs R ms' H' v x → Q x H') r := by
  cases r <;> exact h
theorem PostF.r {Q : VK} {r : Res (List PV)} (h : PostF R W σ ms H Q r) : PostR R W σ ms H (fun ps G => ∀ ms' p H', Step ms H (ms' ++ [p]) H' → RepG R (ms' ++ [p]) H' (G ++ [.lst ps]) → ms.length ≤ ms'.length → Q (.ref p) H') r := by
  cases r <;> exact h
theorem PostE.of {Q : VK} {r : Res Val} (h : PostR R W σ ms H (fun v G => ∀ ms' x H', Step ms H ms' H' → RepG R ms' H' G → RepV R ms' H' v x → Q x H') r) : PostE R W σ ms H Q r := by
  cases r <;> exact h
theorem PostT.of {Q : Bool → Hp → Prop} {r : Res Bool} (h : PostR R W σ ms H (fun v G => ∀ ms' H', Step ms H ms' H' → RepG R ms' H' G → Q v H') r) : PostT R W σ ms H Q r := by
  cases r <;> exact h
theorem PostA.of {Q : List V → Hp → Prop} {r : Res (List Val)} (h : PostR R W σ ms H (fun v G => ∀ ms' x H', Step ms H ms' H' → RepG R ms' H' G → RepVs R ms' H' v x → Q x H') r) : PostA R W σ ms H Q r := by
  cases r <;> exact h
theorem PostF.of {Q : VK} {r : Res (List PV)} (h : PostR R W σ ms H (fun ps G => ∀ ms' p H', Step ms H (ms' ++ [p]) H' → RepG R (ms' ++ [p]) H' (G ++ [.lst ps]) → ms.length ≤ ms'.length → Q (.ref p) H') r) : PostF R W σ ms H Q r := by
  cases r <;> exact h
theorem PostR.imp {α : Type} {O O' : α → Store → Prop} {r : Res α} (h : PostR R W σ ms H O r) (i : ∀ a G, O a G → O' a G) : PostR R W σ ms H O' r := by
  cases r with
  | ok a G => exact i a G h
  | exc e G => exact h
  | stuck => exact h
/-- from a later heap -/
theorem PostR.on {α : Type} {O : α → Store → Prop} {r : Res α} (h : PostR R W σ ms H O r) {ms1 : List Addr} {H1 : Hp} (st : Step ms H ms1 H1) : PostR R W σ ms1 H1 O r := by
  cases r with
  | ok v G => exact h
  | exc e G => exact fun ms2 c d H2 s2 => h ms2 c d H2 (st.trans s2)
  | stuck => exact h

/-! ### rules -/
theorem se_k {v : V} {p : PV} (h : PE X e (tC v)) (r : ∀ ms H, RepP R ms H p v) : PE X e (tE R W (cK p)) :=
  PE.to h fun σ H Q ⟨ms, ρ, G, g, s, q⟩ => PostE.now q g (Ext.refl H) (r ms H)
theorem se_var {i : Nat} (h : PE X e (tVar i)) : PE X e (tE R W (cVar i)) := PE.to h fun σ H Q ⟨ms, ρ, G, g, s, q⟩ => by
  unfold cVar at q
  cases e1 : ρ[i]? with
  | none => rw [e1] at q; exact q.elim
  | some o =>
    cases o with
    | none => rw [e1] at q; exact q.elim
    | some v =>
      rw [e1] at q
      obtain ⟨x, e2, r⟩ := s.at_ i v e1
      exact ⟨x, e2, q ms x H (Step.refl ms H) g r⟩
theorem ofO_some {o : Option PV} {G : Store} {O : Val → Store → Prop} (h : PostR R W σ ms H O (ofO o G)) : ∃ p, o = some p ∧ O (.pv p) G := by
  cases o with
  | none => exact h.elim
  | some p => exact ⟨p, rfl, h⟩
theorem ofOL_some {o : Option (List PV)} {G : Store} {O : List PV → Store → Prop} (h : PostR R W σ ms H O (ofOL o G)) : ∃ p, o = some p ∧ O p G := by
  cases o with
  | none => exact h.elim
  | some p => exact ⟨p, rfl, h⟩
theorem ofOB_some {o : Option Bool} {G : Store} {O : Bool → Store → Prop} (h : PostR R W σ ms H O (ofOB o G)) : ∃ p, o = some p ∧ O p G := by
  cases o with
  | none => exact h.elim
  | some p => exact ⟨p, rfl, h⟩
theorem opt2_some {op : PV → PV → Option PV} {a b : Option PV} {r : PV} (h : opt2 op a b = some r) : ∃ x y, a = some x ∧ b = some y ∧ op x y = some r := by
  cases a with
  | none => cases h
  | some x =>
    cases b with
    | none => cases h
    | some y => exact ⟨x, y, rfl, rfl, h⟩
theorem opt2L_some {op : PV → PV → Option (List PV)} {a b : Option PV} {r : List PV} (h : opt2L op a b = some r) : ∃ x y, a = some x ∧ b = some y ∧ op x y = some r := by
  cases a with
  | none => cases h
  | some x =>
    cases b with
    | none => cases h
    | some y => exact ⟨x, y, rfl, rfl, h⟩
/-- two expressions, then a look at both -/
theorem bin_then {r : R2} {k : Val → Val → Store → Res Val} {Q : VK} {σ : L2.St} {H : Hp}
    (h : tE R W (fun ρ G => (fa ρ G).bind fun x G1 => (fb ρ G1).bind fun y G2 => k x y G2) σ H Q)
    (go : ∀ ms ρ G v u x y H, RepG R ms H G → RepS R ms H ρ σ → RepV R ms H v x → RepV R ms H u y → PostE R W σ ms H Q (k v u G) → r x y H Q) :
    tOp r (tE R W fa) (tE R W fb) σ H Q := by
  obtain ⟨ms, ρ, G, g, s, q⟩ := h
  refine tE_then g s q.r fun v G1 e1 q1 ms1 x H1 st1 g1 s1 r1 => ?_
  refine tE_then g1 s1 (q1.on st1) fun u G2 e2 q2 ms2 y H2 st2 g2 s2 r2 => ?_
  exact go ms2 ρ G2 v u x y H2 g2 s2 (r1.step g1 st2) r2 (PostE.of ((q2.imp fun a G3 z ms' x H' s3 => z ms' x H' ((st1.trans st2).trans s3)).on st2))
theorem se_bin {op : Operator} {f : PV → PV → Option PV} (ho : OpR X (binaryOp op) (rB R f)) (ha : PE X a (tE R W fa)) (hb : PE X b (tE R W fb)) : PE X (.BinOp a op b pos) (tE R W (cBin f fa fb)) :=
  PE.to (pe_op ho ha hb) fun σ H Q h => bin_then (k := fun x y G2 => ofO (opt2 f (Ev.deref G2 x) (Ev.deref G2 y)) G2) h fun ms ρ G v u x y H g s r1 r2 q => by
    obtain ⟨p, e1, q⟩ := ofO_some q.r
    obtain ⟨p1, p2, e2, e3, e4⟩ := opt2_some e1
    exact ⟨ms, p1, p2, p, r1.deref g e2, r2.deref g e3, g.trk, e4, fun z H' ex rp => q ms z H' ex.step (g.ext ex) rp⟩
theorem se_cmp {op : CmpOp} {f : PV → PV → Option PV} (ho : OpR X (compareOp op) (rB R f)) (ha : PE X a (tE R W fa)) (hb : PE X b (tE R W fb)) (h1 : behindInMarks op b = false) : PE X (.Compare a [op] [b] pos) (tE R W (cBin f fa fb)) :=
  PE.to (pe_cmpR ho ha hb h1) fun σ H Q h => bin_then (k := fun x y G2 => ofO (opt2 f (Ev.deref G2 x) (Ev.deref G2 y)) G2) h fun ms ρ G v u x y H g s r1 r2 q => by
    obtain ⟨p, e1, q⟩ := ofO_some q.r
    obtain ⟨p1, p2, e2, e3, e4⟩ := opt2_some e1
    exact ⟨ms, p1, p2, p, r1.deref g e2, r2.deref g e3, g.trk, e4, fun z H' ex rp => q ms z H' ex.step (g.ext ex) rp⟩
theorem se_un {op : UnaryOp} {f : PV → Option PV} (ho : UnR X (unaryOp op) (rU1 R f)) (ha : PE X a (tE R W fa)) : PE X (.UnaryOp op a pos) (tE R W (cUn f fa)) :=
  PE.to (pe_un ho ha) fun σ H Q ⟨ms, ρ, G, g, s, q⟩ => by
    refine tE_then g s (PostE.r (show PostE R W σ ms H Q ((fa ρ G).bind fun x G1 => ofO ((Ev.deref G1 x).bind f) G1) from q)) fun v G1 e1 q1 ms1 x H1 st1 g1 s1 r1 => ?_
    obtain ⟨p, e1, q⟩ := ofO_some q1
    obtain ⟨p1, e2, e3⟩ := Option.bind_eq_some_iff.mp e1
    exact ⟨ms1, p1, p, r1.deref g1 e2, g1.trk, e3, fun z H' ex rp => q ms1 z H' (st1.trans ex.step) (g1.ext ex) rp⟩

/-! ### fresh lists -/
theorem Step.cut {ms ms' : List Addr} {H H' : Hp} {p : Addr} (st : Step ms H (ms' ++ [p]) H') (hl : ms.length ≤ ms'.length) : Step ms H ms' H' := by
  obtain ⟨new, e, hn⟩ := st.grow
  refine ⟨⟨ms'.drop ms.length, ?_, fun q hq => hn q ?_⟩, st.keep, st.trk⟩
  · have h1 : (ms' ++ [p]).take ms.length = ms := by rw [e, List.take_append_of_le_length (Nat.le_refl _), List.take_length]
    rw [List.take_append_of_le_length hl] at h1
    have h3 := List.take_append_drop ms.length ms'
    rw [h1] at h3
    exact h3.symm
  · have h2 : (ms' ++ [p]).drop ms.length = new := by rw [e, List.drop_append_of_le_length (Nat.le_refl _), List.drop_length, List.nil_append]
    rw [List.drop_append_of_le_length hl] at h2
    rw [← h2]
    exact List.mem_append_left _ hq
theorem RepG.cutLast {ms : List Addr} {H : Hp} {G : Store} {p : Addr} {ps : List PV} (g : RepG R (ms ++ [p]) H (G ++ [.lst ps])) : RepG R ms H G ∧ RepP R ms H (.lst ps) (.ref p) ∧ p ∉ ms ∧ ms.length = G.length := by
  have hl : ms.length = G.length := by have := g.len; simpa using this
  have g1 := g.cut ms.length
  have e1 : (ms ++ [p]).take ms.length = ms := by rw [List.take_append_of_le_length (Nat.le_refl _), List.take_length]
  have e2 : (G ++ [Ob.lst ps]).take ms.length = G := by rw [hl, List.take_append_of_le_length (Nat.le_refl _), List.take_length]
  rw [e1, e2] at g1
  have np : p ∉ ms := fun hm => by
    have nd := g.nd
    rw [List.nodup_append] at nd
    exact nd.2.2 p hm p (by simp) rfl
  obtain ⟨xs, h1, h2⟩ := g.ob G.length (.lst ps) p (by simp) (by rw [← hl]; simp)
  refine ⟨g1, ?_, np, hl⟩
  simp only [RepP]
  exact ⟨p, xs, rfl, ⟨h1, np⟩, RepPs.less (fun a ha => List.mem_append_left _ ha) _ _ h2⟩
theorem se_frz {f : FF} (h : PE X e (tF R W f)) : PE X e (tE R W (cFrz f)) := PE.to h fun σ H Q ⟨ms, ρ, G, g, s, q⟩ => ⟨ms, ρ, G, g, s, by
  unfold cFrz at q
  cases e1 : f ρ G with
  | exc e G1 => rw [e1] at q; exact q
  | stuck => rw [e1] at q; exact q
  | ok ps G1 =>
    rw [e1] at q
    intro ms' p H' st g' hl
    obtain ⟨g2, r, np, _⟩ := g'.cutLast
    exact q ms' (.ref p) H' (st.cut hl) g2 r⟩
/-- a new list by values -/
theorem NewL.post {Q : VK} {rs : List PV} (g : RepG R ms H G) (q : ∀ ms' p H', Step ms H (ms' ++ [p]) H' → RepG R (ms' ++ [p]) H' (G ++ [.lst rs]) → ms.length ≤ ms'.length → Q (.ref p) H') : NewL R ms H rs Q := by
  intro p ys H1 H' e1 hp r ex hy
  have g1 := g.ext e1
  have st : Step ms H1 (ms ++ [p]) H' := ⟨⟨[p], rfl, grow_one hp⟩, fun a u h _ _ => ex a u h, (ex.step (ms := ms)).trk⟩
  exact q ms p H' (e1.step.trans st) (g1.alloc (o := .lst rs) hp ex ⟨ys, hy, RepPs.step st g1.own _ _ r⟩).1 (Nat.le_refl _)
end
end Ev

end
section
set_option maxRecDepth 100000
set_option maxHeartbeats 4000000
/-! Ev K: what a def promises at a call made while repr shows nothing -/
namespace Ev
open PySem PySem.Spec PyProof.Rows L2
section
variable {P : Program} {w : World} {K : PySem.W.Frag} {mg : Str → Option Value} {base : Heap} {CX : CXT} {j k : Nat} {f : Addr} {fd : FuncData} {N ps : List Str} {sp : Sp}
/-- where a call is made: room, nothing shown by repr, what is told of the heap -/
structure Sit (P : Program) (w : World) (K : PySem.W.Frag) (mg : Str → Option Value) (base : Heap) (k : Nat) (A : Around) (outer : List Env) (s : Shared) (H : Hp) : Prop where
  room : Room k A
  calm : A.guards = some []
  told : Env0 P w K mg base A outer s H
/-- the promise, from each such place -/
structure FnG (P : Program) (w : World) (K : PySem.W.Frag) (mg : Str → Option Value) (base : Heap) (CX : CXT) (k : Nat) (f : Addr) (fd : FuncData) (ps : List Str) (sp : Sp) : Prop where
  many : ∀ {vs : List V} {H : Hp} {Q : VK} {E : XK}, sp vs H Q E → vs.length = ps.length
  does : ∀ {A : Around} {outer : List Env} {s : Shared} {H : Hp} {args : Args} {us : List Value} {vs : List V} {Q : VK} {E : XK}, Sit P w K mg base k A outer s H → Vals vs us → BindsTo s fd args (ps.zip us) → sp vs H Q E → codeAny (model P w) A (.call (.ref f) args) (CR CX outer P w H s Q E) s
theorem FnG.mono (F : FnG P w K mg base CX j f fd ps sp) (h : j ≤ k) : FnG P w K mg base CX k f fd ps sp := ⟨F.many, fun c => F.does ⟨c.room.mono h, c.calm, c.told⟩⟩
/-- parameters are local names, or cells that are made -/
theorem seat_of {scope : Scope} (S : FnScope N ps scope) (n : Nat) {us : List Value} {y : Str × Value} (hy : y ∈ ps.zip us) : scope.names.lookup y.1 = some .local ∨ (scope.names.lookup y.1 = some .cell ∧ ((cellsFrom n scope.names []).lookup y.1).isSome = true) := by
  obtain ⟨x, v⟩ := y
  exact (S.par x (List.of_mem_zip hy).1).imp_right fun q => ⟨q, PySem.W.cellsFrom_some _ _ _ (.inl q)⟩
/-- the def's frame when it is entered -/
abbrev inFr (CX : CXT) (P : Program) (w : World) (K : PySem.W.Frag) (mg : Str → Option Value) (base : Heap) (N : List Str) (qual : Str) (scope : Scope) (f : Addr) (cdv : Value) (A : Around) (outer : List Env) (s : Shared) (H : Hp) (E : XK) : Cx := cxOf CX P w K mg base N qual scope f cdv A outer s H E
/-- what reading the body must give, at every place -/
def BodyOk (CX : CXT) (P : Program) (w : World) (K : PySem.W.Frag) (mg : Str → Option Value) (base : Heap) (N : List Str) (k : Nat) (qual : Str) (scope : Scope) (f : Addr) (cdv : Value) (body : List Stmt) (sp : Sp) : Prop :=
  ∀ (A : Around) (outer : List Env) (s : Shared) (H : Hp) (vs : List V) (Q : VK) (E : XK), A.guards = some [] → Room k (A.deeper (envOfC qual scope s.heap.objs.size f cdv)) → sp vs H Q E →
    ∃ t, PSs (inFr CX P w K mg base N qual scope f cdv A outer s H E) body t ∧ t { nx := fun _ H' => Q .non H', rt := Q } (start N vs) H
theorem FnG.of {name qual : Str} {params : Arguments} {body : List Stmt} {scope : Scope} {dV kV doc pm cdv ct oc : Value} {an od : Option Addr} {osl : Array (Option Value)} (S : FnScope N ps scope)
    (at_ : K.lookup f = some ⟨oc, od, .func (PySem.W.fnOf name qual params body scope dV kV doc pm an cdv ct), osl⟩) (cd : PySem.W.codeIn K cdv qual = true) (many : ∀ {vs : List V} {H : Hp} {Q : VK} {E : XK}, sp vs H Q E → vs.length = ps.length)
    (b : BodyOk CX P w K mg base N k qual scope f cdv body sp) : FnG P w K mg base CX (k + 1) f (PySem.W.fnOf name qual params body scope dV kV doc pm an cdv ct) ps sp where
  many := many
  does := fun {A outer s H args us vs Q E} c rv bt q => by
    have old : ∀ b o, base.get? b = some o → s.heap.get? b = some o := fun b o e => (c.told.bs b o e).1
    refine codeAny_call_function c.room.depth (c.told.mod.kin.keeps old _ _ at_) rfl S.co S.gen rfl (PySem.W.codeRec_of (c.told.mod.kin.keeps old) cd) (bt _ _ _ _ (wpAny_newFunctionEnv_cells S.kind (fun y hy => seat_of S _ hy) fun env he s1 x => ?_))
    cases he
    refine ⟨(c.told.mod.nolimit.keeps old).keeps x.toInCall.keep, codeAny_func ?_⟩
    obtain ⟨t, ht, go⟩ := b A outer s H vs Q E c.calm (c.room.deeper _) q
    refine wpAny_mono (ht.run [] s1 _ H _ (inv_start S c.room.hd c.told (many q) rv x) go) (fun fl s' h => ?_) fun _ _ h => h
    cases fl with
    | next => obtain ⟨σ', H', J, z⟩ := h; exact ⟨.non, H', J.os, J.bare, J.base, J.hok, rfl, z⟩
    | ret u => obtain ⟨v, σ', H', J, e, z⟩ := h; exact ⟨v, H', J.os, J.bare, J.base, J.hok, e, z⟩
    | brk => obtain ⟨_, _, _, z⟩ := h; exact z.elim
    | cont => obtain ⟨_, _, _, z⟩ := h; exact z.elim
end
/-- the code of the function object at f -/
def CodeAt (K : PySem.W.Frag) (f : Addr) (cdv : Value) : Prop := ∃ (c : Addr) (oc : Value) (od : Option Addr) (fd : FuncData) (osl : Array (Option Value)), K.lookup f = some ⟨oc, od, .func fd, osl⟩ ∧ fd.code = cdv ∧ cdv = .ref c
theorem FnG.ofD {P : Program} {w : World} {K : PySem.W.Frag} {mg : Str → Option Value} {base : Heap} {CX : CXT} {k : Nat} {f : Addr} {fd : FuncData} {N ps : List Str} {sp : Sp} {x qual : Str} {params : Arguments} {body : List Stmt} {scope : Scope} {dvs : List V} {kws : List (Str × V)}
    (F : FunD K x qual params body scope dvs kws f fd) (S : FnScope N ps scope) (many : ∀ {vs : List V} {H : Hp} {Q : VK} {E : XK}, sp vs H Q E → vs.length = ps.length) (b : ∀ cdv, CodeAt K f cdv → BodyOk CX P w K mg base N k qual scope f cdv body sp) : FnG P w K mg base CX (k + 1) f fd ps sp := by
  obtain ⟨_, _, _, _, _, _, _, cdv, _, _, rfl, lk, cd, _⟩ := F.ex
  obtain ⟨c, hc⟩ := He.codeIn_ref cd
  exact FnG.of S lk cd many (b cdv ⟨c, _, _, _, _, lk, rfl, hc⟩)
section
variable {X : Cx} {CX : CXT} {k : Nat} {f : Addr} {fd : FuncData} {ps : List Str} {sp : Sp} {E : L2.St → XK} {x : Str} {p pos : Pos} {e : Expr} {es : List Expr} {t : TA}
/-- a call from within a def that is read -/
structure Calls (X : Cx) (CX : CXT) (k : Nat) (f : Addr) (fd : FuncData) (ps : List Str) (sp : Sp) (E : L2.St → XK) : Prop where
  fn : FnG X.prog X.w X.K X.mg X.base CX k f fd ps sp
  room : Room k X.A
  calm : X.A.guards = some []
  kept : PySem.W.keepIn X.K (.ref f) = true
  binds : Binds X.K fd ps []
  out : ∀ σ, PassesAt CX X σ (E σ)
theorem Calls.go (c : Calls X CX k f fd ps sp E) {pins : List (Addr × Obj)} {σ : L2.St} {H : Hp} {s : Shared} {Q : VK} {us : List Value} {vs : List V} (I : Inv X pins σ H s) (r : Vals vs us) (h : sp vs H Q (E σ)) : wpAny (model X.prog X.w) X.A (call (.ref f) us) (EP X pins σ Q) X.xe s := by
  have n : us.length = (ps ++ []).length := by rw [List.append_nil, ← c.fn.many h, r.length]
  have bt : BindsTo s fd ⟨us, []⟩ (ps.zip us) := by
    have := c.binds s us I.kIn (by simpa using n)
    simpa using this
  refine wpAny_call (codeAny_mono (c.fn.does ⟨c.room, c.calm, I.env0⟩ r bt h) fun res s' q => ?_)
  rcases res with e | fl
  · exact c.out σ pins H s e s' I q
  · cases fl <;> first | exact I.after q | exact q.elim
theorem Calls.pe (c : Calls X CX k f fd ps sp E) (g : Gl X x) (hm : X.mg x = some (.ref f)) (nd : (x == ("__debug__" : Str)) = false) (ha : PA X (e :: es) t) (he : starEach (e :: es) X.env = (false, eval e X.env) :: starEach es X.env) (hpl : (backTo pos (starEach es X.env)).any (·.1) = false) :
    PE X (.Call (.Name x p) (e :: es) [] pos) (tCallS sp E t) := ⟨fun pins s σ H Q I h =>
  wpAny_Call_Name_kw (ld_glob I g hm (PySem.W.callWith_K (h₀ := X.base) I.ok.mod.kin c.kept (thn (ha.run pos pins s σ H _ I h) fun us s1 ⟨vs, H1, I1, r, q⟩ => ⟨I1.kIn, c.go I1 r q⟩) he hpl) nd)⟩
theorem Calls.pe0 (c : Calls X CX k f fd ps sp E) (g : Gl X x) (hm : X.mg x = some (.ref f)) (nd : (x == ("__debug__" : Str)) = false) : PE X (.Call (.Name x p) [] [] pos) (tCallS sp E tNil) := ⟨fun pins s σ H Q I h =>
  wpAny_Call_Name_kw (ld_glob I g hm (PySem.W.callWith_K0 I.kIn c.kept (c.go (us := []) I .nil h)) nd)⟩
end
end Ev

end
section
set_option maxRecDepth 100000
set_option maxHeartbeats 4000000
/-! Ev W: the law's own call: the script may be tracked, the empty tables of code objects are -/
namespace Ev
open PySem PySem.Spec PyProof.Rows L2
/-- the abstract heap at the law's call -/
def H0 (T : List Addr) (f : Option (Addr × HO)) : Hp := fun b => match f with
  | some (a, u) => if b = a then some u else if b ∈ T then some (.tbl #[]) else none
  | none => if b ∈ T then some (.tbl #[]) else none
theorem H0_inv {T : List Addr} {f : Option (Addr × HO)} {b : Addr} {u : HO} (h : H0 T f b = some u) : f = some (b, u) ∨ (b ∈ T ∧ u = .tbl #[]) := by
  have tail : (if b ∈ T then some (HO.tbl #[]) else none) = some u → b ∈ T ∧ u = .tbl #[] := fun q => by
    split at q
    · rename_i m
      cases q
      exact ⟨m, rfl⟩
    · cases q
  cases f with
  | none => exact .inr (tail h)
  | some p =>
    obtain ⟨a, v⟩ := p
    simp only [H0] at h
    split at h
    · rename_i e
      cases h
      rw [e]
      exact .inl rfl
    · exact .inr (tail h)
theorem H0_tab {T : List Addr} {f : Option (Addr × HO)} {b : Addr} (hb : b ∈ T) (hf : ∀ a u, f = some (a, u) → a ∉ T) : H0 T f b = some (.tbl #[]) := by
  cases f with
  | none => exact if_pos hb
  | some p =>
    obtain ⟨a, v⟩ := p
    have : b ≠ a := fun z => hf a v rfl (z ▸ hb)
    simp only [H0, if_neg this, if_pos hb]
section
variable {P : Program} {w : World} {K : PySem.W.Frag} {mg mb : Str → Option Value} {k : Nat} {fa a : Addr} {cs : List (Addr × Addr)} {fd : FuncData} {x : Str} {s₁ : Shared} {vs : List Value} {ns : List Int}
abbrev tabObj : Obj := { cls := .none, data := .fields #[] }
abbrev listObj (vs : List Value) : Obj := { cls := .type "list", data := .seq vs.toArray }
/-- what a law's call starts from -/
structure Enter (h : Heap) (T : List Addr) (a : Addr) (vs : List Value) (f : Option (Addr × HO)) (xs : List V) : Prop where
  tab : ∀ b ∈ T, h.get? b = some tabObj
  scr : h.get? a = some (listObj vs)
  one : ∀ c u, f = some (c, u) → c = a ∧ u = .frz (listObj vs) (.lst xs)
theorem Enter.nin {h : Heap} {T : List Addr} {f : Option (Addr × HO)} {xs : List V} (e : Enter h T a vs f xs) : ∀ c u, f = some (c, u) → c ∉ T := fun c u q z => by
  have := e.tab c z
  rw [(e.one c u q).1, e.scr] at this
  cases this
theorem Enter.obj {h : Heap} {T : List Addr} {f : Option (Addr × HO)} {xs : List V} (e : Enter h T a vs f xs) {b : Addr} {u : HO} (q : H0 T f b = some u) : h.get? b = some (listObj vs) ∨ h.get? b = some tabObj := by
  rcases H0_inv q with z | ⟨z, _⟩
  · rw [(e.one b u z).1]
    exact .inl e.scr
  · exact .inr (e.tab b z)
/-- what is neither list nor empty table lies in the base -/
theorem Enter.base {h : Heap} {T : List Addr} {f : Option (Addr × HO)} {xs : List V} (e : Enter h T a vs f xs) {b : Addr} {o : Obj} (g : h.get? b = some o) (n1 : o.data ≠ (listObj vs).data) (n2 : o.data ≠ tabObj.data) : (hidT h (H0 T f)).get? b = some o := by
  refine hidT_get g ?_
  cases q : H0 T f b with
  | none => rfl
  | some u =>
    rcases e.obj q with z | z
    · rw [g] at z
      cases z
      exact absurd rfl n1
    · rw [g] at z
      cases z
      exact absurd rfl n2
theorem Enter.spaces {h : Heap} {T : List Addr} {f : Option (Addr × HO)} {xs : List V} (e : Enter h T a vs f xs) {b : Addr} {m : Str → Option Value} (q : h.Ns b m) : (hidT h (H0 T f)).Ns b m := by
  obtain ⟨o, es, ep, g, d, r⟩ := q
  exact ⟨o, es, ep, e.base g (by rw [d]; exact fun z => nomatch z) (by rw [d]; exact fun z => nomatch z), d, r⟩
theorem Enter.hok {h : Heap} {T : List Addr} {f : Option (Addr × HO)} {xs : List V} (e : Enter h T a vs f xs) (hl : xs.length ≤ sizeLine) (rv : Vals xs vs) : HOk P w (H0 T f) h := fun b u q => by
  rcases H0_inv q with z | ⟨z, hu⟩
  · obtain ⟨e1, e2⟩ := e.one b u z
    rw [e1, e2]
    exact ⟨e.scr, hl, vs, _, rv, e.scr⟩
  · rw [hu]
    exact e.tab b z
theorem law_callE {sp : Sp} (KX : K.In s₁.heap) (hns : s₁.heap.Ns mainGlobals mg) (hb : s₁.heap.Ns builtinsNs mb) (hbb : ∀ x : Str, x ≠ "__name__" → mb x = bootBuiltins x) (hlim : s₁.heap.NoLimit) (hg : s₁.gens = #[])
    (hT : ∀ p ∈ cs, s₁.heap.get? p.2 = some { cls := .none, data := .fields #[] }) (nT : ∀ p ∈ cs, K.lookup p.2 = none) (C : ∀ p ∈ cs, PySem.W.CodeHd s₁.heap p.1 p.2)
    (hbm : ∃ (bm : Addr) (ob : Obj), mg "__builtins__" = some (.ref bm) ∧ bm ≠ builtinsNs ∧ s₁.heap.get? bm = some ob ∧ ob.cls = .type "module" ∧ ob.dict = some builtinsNs ∧ ob.data = .plain)
    (ha : s₁.heap.get? a = some { cls := .type "list", data := .seq vs.toArray }) (hi : IntsAre vs ns) (hl : ns.length ≤ sizeLine) (hr : Room k callerA)
    (F : ∀ base : Heap, K.In base → base.Ns mainGlobals mg → (∀ p ∈ cs, LamX.TabB base mg p.1 p.2) → FnG P w K mg base (L2.CX P w) k fa fd [x] sp) (hbind : ∀ (s : Shared) (u : Value), BindsTo s fd ⟨[u], []⟩ [(x, u)])
    (hsp : ∀ H : Hp, (∀ p ∈ cs, H p.2 = some (.tbl #[])) → SqL K H a (ns.map V.int) → sp [.ref a] H (fun v _ => v = .bl true) fun _ _ _ => False)
    (hCX : ∀ H e s', L2.CX P w [] H s₁ (fun _ _ _ => False) e s' → False) :
    codeAny (model P w) callerA (.call (.ref fa) ⟨[.ref a], []⟩) (fun r s' => r = .ok (.ret (.bool true)) ∧ OldK s₁.heap s'.heap ∧ s'.os = s₁.os ∧ AllBare s'.gens) s₁ := by
  have rv := vals_ints hi
  have lenV := hi.length
  have lxs : (ns.map V.int).length ≤ sizeLine := by rw [List.length_map]; exact hl
  obtain ⟨f, hf1, hf2, hf3⟩ : ∃ f : Option (Addr × HO), (∀ c u, f = some (c, u) → (c = a ∧ u = .frz (listObj vs) (.lst (ns.map V.int))) ∧ K.lookup a = none) ∧ (f = none → ∃ o, K.lookup a = some o) ∧ (∀ c u, f = some (c, u) → True) := by
    cases q : K.lookup a with
    | none => exact ⟨some (a, .frz (listObj vs) (.lst (ns.map V.int))), fun c u z => (by cases z; exact ⟨⟨rfl, rfl⟩, rfl⟩), fun z => (by cases z), fun _ _ _ => trivial⟩
    | some o => exact ⟨none, fun _ _ z => (by cases z), fun _ => ⟨o, rfl⟩, fun _ _ _ => trivial⟩
  have en : Enter s₁.heap (cs.map (·.2)) a vs f (ns.map V.int) := ⟨fun b hb => by
    obtain ⟨p, hp, e⟩ := List.mem_map.mp hb
    rw [← e]
    exact hT p hp, ha, fun c u z => (hf1 c u z).1⟩
  generalize hH : H0 (cs.map (·.2)) f = H at *
  have tabs : ∀ p ∈ cs, H p.2 = some (.tbl #[]) := fun p hp => by rw [← hH]; exact H0_tab (List.mem_map.mpr ⟨p, hp, rfl⟩) en.nin
  have bas : ∀ {b : Addr} {o : Obj}, s₁.heap.get? b = some o → o.data ≠ (listObj vs).data → o.data ≠ tabObj.data → (hidT s₁.heap H).get? b = some o := fun g n1 n2 => by rw [← hH]; exact en.base g n1 n2
  have nsB : ∀ {b : Addr} {m : Str → Option Value}, s₁.heap.Ns b m → (hidT s₁.heap H).Ns b m := fun q => by rw [← hH]; exact en.spaces q
  have hok : HOk P w H s₁.heap := by rw [← hH]; exact en.hok lxs rv
  have kin : K.In (hidT s₁.heap H) := fun b o e => by
    refine hidT_get (KX b o e) ?_
    cases q : H b with
    | none => rfl
    | some u =>
      rw [← hH] at q
      rcases H0_inv q with z | ⟨z, _⟩
      · obtain ⟨⟨e1, _⟩, e2⟩ := hf1 b u z
        rw [e1, e2] at e
        cases e
      · obtain ⟨p, hp, ep⟩ := List.mem_map.mp z
        rw [← ep, nT p hp] at e
        cases e
  have md : L2.Mod K mg (hidT s₁.heap H) := ⟨kin, nsB hns, ⟨mb, nsB hb, hbb⟩, let ⟨mc, h1, h2⟩ := hlim; ⟨mc, nsB h1, h2⟩⟩
  have seqS : SqL K H a (ns.map V.int) := by
    cases e : f with
    | none =>
      obtain ⟨o, ho⟩ := hf2 e
      have q := KX a o ho
      rw [ha] at q
      cases q
      exact .inr ⟨_, vs.toArray, _, ho, rfl, rfl, rfl, by rw [List.size_toArray, lenV]; exact hl, by simpa using rv⟩
    | some p =>
      obtain ⟨c, u⟩ := p
      obtain ⟨⟨e1, e2⟩, _⟩ := hf1 c u e
      refine .inl (.inr ⟨listObj vs, ?_⟩)
      rw [← hH, e, e2, e1]
      simp only [H0, if_pos]
  have TB : ∀ p ∈ cs, LamX.TabB (hidT s₁.heap H) mg p.1 p.2 := fun p hp => by
    refine ⟨?_, ?_, fun z => ?_⟩
    · obtain ⟨o, us, file, tf, flags, tg, inF, text, tt, e1, r1, r2, r3, r⟩ := C p hp
      refine ⟨o, us, file, tf, flags, tg, inF, text, tt, bas e1 (by rw [r2]; exact fun z => nomatch z) (fun z => ?_), r1, r2, r3, r⟩
      rw [r2] at z
      cases z
      simp at r3
    · obtain ⟨bm, ob, b1, b2, b3, b4, b5, b6⟩ := hbm
      refine ⟨bm, ob, b1, b2, fun q => ?_, fun q => ?_, bas b3 (by rw [b6]; exact fun z => nomatch z) (by rw [b6]; exact fun z => nomatch z), b4, b5, b6⟩
      · obtain ⟨o, es, ep, e, hd, _⟩ := hns
        rw [q, e] at b3
        cases b3
        rw [hd] at b6
        cases b6
      · rw [q, hT p hp] at b3
        cases b3
        cases b6
    · obtain ⟨o, es, ep, e, hd, _⟩ := hns
      rw [z, hT p hp] at e
      cases e
      cases hd
  have none_nil : ∀ b, b ∉ frs [] := fun b hb => by cases hb
  have e0 : Env0 P w K mg (hidT s₁.heap H) callerA [] s₁ H := ⟨rfl, md, fun b o e => of_hidT e, Nat.le_of_eq (hidT_size _ _), trivial, fun b hb => absurd hb (none_nil b), hok, .of_eq hg⟩
  refine codeAny_mono ((F _ kin (nsB hns) TB).does (args := ⟨[.ref a], []⟩) (us := [.ref a]) (vs := [.ref a]) ⟨hr, rfl, e0⟩ (.cons rfl .nil) (hbind s₁ (.ref a)) (hsp H tabs seqS)) fun r s' h => ?_
  match r, h with
  | .error e, h => exact (hCX H e s' h).elim
  | .ok .next, h => exact False.elim h
  | .ok .brk, h => exact False.elim h
  | .ok .cont, h => exact False.elim h
  | .ok (.ret u), h =>
    obtain ⟨v, H', os, bare, un, hok', r', q⟩ := h
    cases (show v = .bl true from q)
    cases (show u = Value.bool true from r')
    have old : ∀ b o, b ∉ cs.map (·.2) → s₁.heap.get? b = some o → s'.heap.get? b = some o := fun b o nb e => by
      cases q : H b with
      | none => exact un.keep b o e q (none_nil b) (by simp)
      | some u =>
        have q' := q
        rw [← hH] at q'
        rcases H0_inv q' with z | ⟨z, _⟩
        · obtain ⟨⟨e1, e2⟩, _⟩ := hf1 b u z
          rw [e2] at q
          obtain ⟨g1, _⟩ := hok b _ q
          obtain ⟨g2, _⟩ := hok' b _ (un.frzs b _ _ q)
          rw [e] at g1
          cases g1
          exact g2
        · exact absurd z nb
    have grown : ∀ b ∈ cs.map (·.2), ∃ more : Array Value, s'.heap.get? b = some { cls := .none, data := .fields more } := fun b hb => by
      obtain ⟨p, hp, ep⟩ := List.mem_map.mp hb
      rw [← ep]
      obtain ⟨more, z⟩ := un.tbls p.2 #[] (tabs p hp)
      exact ⟨_, hok' p.2 _ z⟩
    refine ⟨rfl, ⟨fun b o e => ?_, fun b o e => ?_⟩, os, bare⟩
    · by_cases hb : b ∈ cs.map (·.2)
      · obtain ⟨more, hm⟩ := grown b hb
        obtain ⟨p, hp, ep⟩ := List.mem_map.mp hb
        subst ep
        rw [hT p hp] at e
        cases e
        exact .inr (.inl ⟨((C p hp).tab (hT p hp)).isCodeTable, rfl, #[], more, rfl, by rw [Array.empty_append]; exact hm⟩)
      · exact .inl (old b o hb e)
    · by_cases hb : b ∈ cs.map (·.2)
      · obtain ⟨more, hm⟩ := grown b hb
        exact ⟨_, hm⟩
      · exact ⟨o, old b o hb e⟩
end
/-- a law: F gives what is known at the head's heap -/
theorem walk_ofE {l : PySem.W.OpenLaw} {n k : Nat} {q : Program} {loose : List Str} {XP : (Str → Option Value) → Heap → Prop} {YP : World → Heap → Prop} {d : DefRec} {x : Str}
    (hn : l.most = some n) (hn2 : n ≤ sizeLine) (hdf : d.params.defaults = []) (hr : Room k callerA)
    (F : ∀ (w : World) (mg : Str → Option Value) (fa : Addr) (h : Heap), YP w h → h.Ns mainGlobals mg → mg d.name = some (.ref fa) →
      ∃ (K : PySem.W.Frag) (fd : FuncData) (cs : List (Addr × Addr)) (sp : Sp), K.In h ∧ (∀ p ∈ cs, h.get? p.2 = some { cls := .none, data := .fields #[] }) ∧ (∀ p ∈ cs, K.lookup p.2 = none) ∧ (∀ p ∈ cs, PySem.W.CodeHd h p.1 p.2) ∧ (∀ (s : Shared) (u : Value), BindsTo s fd ⟨[u], []⟩ [(x, u)]) ∧
        (∀ (H : Hp) (a : Addr) (ns : List Int), ns.length ≤ n → (∀ z ∈ ns, Builtin.Int.intBits z ≤ 1048576) → (∀ p ∈ cs, H p.2 = some (.tbl #[])) → SqL K H a (ns.map V.int) → sp [.ref a] H (fun v _ => v = .bl true) fun _ _ _ => False) ∧
        ∀ base : Heap, K.In base → base.Ns mainGlobals mg → (∀ p ∈ cs, LamX.TabB base mg p.1 p.2) → FnG l.prog w K mg base (L2.CX l.prog w) k fa fd [x] sp)
    (hCX : ∀ (w : World) (H : Hp) (s : Shared) (e : Value) (s' : Shared), L2.CX l.prog w [] H s (fun _ _ _ => False) e s' → False) :
    PySem.W.WalkO q loose XP YP l.row.toRowW d [] (fun f vs => PySem.call f vs) := by
  refine Att.attach_callB hn hdf fun w s₀ s₁ mg mb fa o pm cd doc a vs ns G Y ho hd hcd hmg hobj hints hlen hbits hg => ?_
  obtain ⟨K, fd, cs, sp, KX, hT, nT, C, hb, hsp, hF⟩ := F w mg fa _ Y G.T.g hmg
  exact law_callE KX G.T.g G.T.b G.T.builtins G.T.nolimit hg hT nT C G.T.bmain hobj hints (Nat.le_trans hlen hn2) hr hF hb (fun H hH hS => hsp H a ns hlen hbits hH hS) fun H e s' => hCX w H s₁ e s'
end Ev

end
section
set_option maxRecDepth 100000
set_option maxHeartbeats 4000000
/-! Ev E: arguments, calls, displays, tests, statements, the def -/
namespace Ev
open PySem PySem.Spec PyProof.Rows L2

section
variable {R : RC} {W : WX} {X : Cx} {ms ms' : List Addr} {H H' : Hp} {G G' : Store} {ρ : Fr} {σ : L2.St} {a b e : Expr} {es : List Expr} {fa fb : FE} {fs : FA} {pos : Pos}

/-! ### arguments -/
def notStar : Expr → Bool
  | .Starred _ _ => false
  | _ => true
theorem starEach_ns {e : Expr} {es : List Expr} {env : Env} (h : notStar e = true) : starEach (e :: es) env = (false, eval e env) :: starEach es env := by
  cases e <;> first | rfl | exact absurd h (by simp [notStar])
theorem backTo_ns {pos : Pos} {env : Env} : ∀ {es : List Expr} (h : es.all notStar = true), (backTo pos (starEach es env)).any (·.1) = false
  | [], _ => rfl
  | e :: es, h => by
    simp only [List.all_cons, Bool.and_eq_true] at h
    rw [starEach_ns h.1]
    have := backTo_ns (pos := pos) (env := env) h.2
    simp only [backTo, List.map_cons, List.any_cons, Bool.false_or] at this ⊢
    exact this
theorem sa_nil : PA X [] (tA R W cNil) := PA.to pa_nil fun σ H Q ⟨ms, ρ, G, g, s, q⟩ => q ms [] H (Step.refl ms H) g .nil
theorem sa_cons (h : PE X e (tE R W fa)) (t : PA X es (tA R W fs)) (hs : notStar e = true) : PA X (e :: es) (tA R W (cCons fa fs)) :=
  PA.to (pa_cons h t (starEach_ns hs)) fun σ H Q ⟨ms, ρ, G, g, s, q⟩ => by
    refine tE_then g s (PostA.r (show PostA R W σ ms H Q ((fa ρ G).bind fun v G1 => (fs ρ G1).bind fun vs G2 => .ok (v :: vs) G2) from q)) fun v G1 e1 q1 ms1 x H1 st1 g1 s1 r1 => ?_
    refine tA_then g1 s1 (q1.on st1) fun vs G2 e2 q2 ms2 xs H2 st2 g2 s2 r2 => ?_
    exact q2 ms2 (x :: xs) H2 (st1.trans st2) g2 (.cons (r1.step g1 st2) r2)
theorem se_tup {k : Nat} (h : PA X es (tA R W fs)) (hz : es.length ≤ sizeLine) (hl : ∀ ρ G vs G1, fs ρ G = .ok vs G1 → vs.length = es.length) : PE X (.Tuple es k pos) (tE R W (cTup fs)) :=
  PE.to (pe_tup h) fun σ H Q ⟨ms, ρ, G, g, s, q⟩ => by
    refine tA_then g s (PostE.r (show PostE R W σ ms H Q ((fs ρ G).bind fun vs G1 => ofO ((cTup.pures vs).map .tup) G1) from q)) fun vs G1 e1 q1 ms1 xs H1 st1 g1 s1 r1 => ?_
    obtain ⟨p, e2, q2⟩ := ofO_some q1
    obtain ⟨ps, e3, e4⟩ := Option.map_eq_some_iff.mp e2
    subst e4
    have rp := r1.pures e3
    refine ⟨by rw [← r1.length, hl _ _ _ _ e1]; exact hz, fun p hp => q2 ms1 (.ref p) _ (st1.trans (Ext.new hp).step) (g1.ext (Ext.new hp)) (rep_tup g1.trk hp rp)⟩
theorem sf_lst (h : PA X es (tA R W fs)) (hz : es.length ≤ sizeLine) (hl : ∀ ρ G vs G1, fs ρ G = .ok vs G1 → vs.length = es.length) : PE X (.List es pos) (tF R W (cLst fs)) :=
  PE.to (pe_lst h) fun σ H Q ⟨ms, ρ, G, g, s, q⟩ => by
    refine tA_then g s (PostF.r (show PostF R W σ ms H Q ((fs ρ G).bind fun vs G1 => ofOL (cTup.pures vs) G1) from q)) fun vs G1 e1 q1 ms1 xs H1 st1 g1 s1 r1 => ?_
    obtain ⟨ps, e2, q2⟩ := ofOL_some q1
    have rp := r1.pures e2
    refine ⟨by rw [← r1.length, hl _ _ _ _ e1]; exact hz, ?_⟩
    have hl1 : ms.length ≤ ms1.length := by
      obtain ⟨new, e, _⟩ := st1.grow
      rw [e]; simp
    refine fun p hp => NewL.post g1 (fun ms' p' H' st' g' l' => q2 ms' p' H' (st1.trans st') g' (Nat.le_trans hl1 l')) p xs H1 _ (Ext.refl H1) hp rp (Ext.new hp) upd_same

/-! ### built-in functions, by values -/
theorem se_callB {x id : Str} {nm : String} {p : Pos} {f : List PV → Option PV} (hc : CallR X (.builtin nm) (rC R f)) (hg : Gl X x) (hm : X.mg x = none) (hv : bootBuiltins x = some (.builtin nm)) (ha : PA X (e :: es) (tA R W fs)) (hs : (e :: es).all notStar = true)
    (hn : x ≠ "__name__") (hdb : (x == ("__debug__" : Str)) = false) : PE X (.Call (.Name x p) (e :: es) [] pos) (tE R W (cCall f fs)) := by
  simp only [List.all_cons, Bool.and_eq_true] at hs
  refine PE.to (pe_callB hc hg hm hv ha hn hdb (starEach_ns hs.1) (backTo_ns hs.2)) fun σ H Q ⟨ms, ρ, G, g, s, q⟩ => ?_
  refine tA_then g s (PostE.r (show PostE R W σ ms H Q ((fs ρ G).bind fun vs G1 => ofO ((Ev.derefs G1 vs).bind f) G1) from q)) fun vs G1 e1 q1 ms1 xs H1 st1 g1 s1 r1 => ?_
  obtain ⟨r, e2, q2⟩ := ofO_some q1
  obtain ⟨ps, e3, e4⟩ := Option.bind_eq_some_iff.mp e2
  exact ⟨ms1, ps, r, r1.derefs g1 e3, g1.trk, e4, fun z H' ex rp => q2 ms1 z H' (st1.trans ex.step) (g1.ext ex) rp⟩
theorem se_callTy {x : Str} {T : String} {p : Pos} {f : List PV → Option PV} (hc : CallR X (.type T) (rC R f)) (hg : Gl X x) (hm : X.mg x = none) (hv : bootBuiltins x = some (.type T)) (ha : PA X (e :: es) (tA R W fs)) (hs : (e :: es).all notStar = true)
    (hn : x ≠ "__name__") (hdb : (x == ("__debug__" : Str)) = false) : PE X (.Call (.Name x p) (e :: es) [] pos) (tE R W (cCall f fs)) := by
  simp only [List.all_cons, Bool.and_eq_true] at hs
  refine PE.to (pe_callTy hc hg hm hv ha hn hdb (starEach_ns hs.1) (backTo_ns hs.2)) fun σ H Q ⟨ms, ρ, G, g, s, q⟩ => ?_
  refine tA_then g s (PostE.r (show PostE R W σ ms H Q ((fs ρ G).bind fun vs G1 => ofO ((Ev.derefs G1 vs).bind f) G1) from q)) fun vs G1 e1 q1 ms1 xs H1 st1 g1 s1 r1 => ?_
  obtain ⟨r, e2, q2⟩ := ofO_some q1
  obtain ⟨ps, e3, e4⟩ := Option.bind_eq_some_iff.mp e2
  exact ⟨ms1, ps, r, r1.derefs g1 e3, g1.trk, e4, fun z H' ex rp => q2 ms1 z H' (st1.trans ex.step) (g1.ext ex) rp⟩
theorem sf_callB {x : Str} {nm : String} {p : Pos} {f : List PV → Option (List PV)} (hc : CallR X (.builtin nm) (rCF R f)) (hg : Gl X x) (hm : X.mg x = none) (hv : bootBuiltins x = some (.builtin nm)) (ha : PA X (e :: es) (tA R W fs)) (hs : (e :: es).all notStar = true)
    (hn : x ≠ "__name__") (hdb : (x == ("__debug__" : Str)) = false) : PE X (.Call (.Name x p) (e :: es) [] pos) (tF R W (cCallF f fs)) := by
  simp only [List.all_cons, Bool.and_eq_true] at hs
  refine PE.to (pe_callB hc hg hm hv ha hn hdb (starEach_ns hs.1) (backTo_ns hs.2)) fun σ H Q ⟨ms, ρ, G, g, s, q⟩ => ?_
  refine tA_then g s (PostF.r (show PostF R W σ ms H Q ((fs ρ G).bind fun vs G1 => ofOL ((Ev.derefs G1 vs).bind f) G1) from q)) fun vs G1 e1 q1 ms1 xs H1 st1 g1 s1 r1 => ?_
  obtain ⟨r, e2, q2⟩ := ofOL_some q1
  obtain ⟨ps, e3, e4⟩ := Option.bind_eq_some_iff.mp e2
  have hl1 : ms.length ≤ ms1.length := by
    obtain ⟨new, e, _⟩ := st1.grow
    rw [e]; simp
  exact ⟨ms1, ps, r, r1.derefs g1 e3, g1.trk, e4, NewL.post g1 fun ms' p' H' st' g' l' => q2 ms' p' H' (st1.trans st') g' (Nat.le_trans hl1 l')⟩
theorem sf_callTy {x : Str} {T : String} {p : Pos} {f : List PV → Option (List PV)} (hc : CallR X (.type T) (rCF R f)) (hg : Gl X x) (hm : X.mg x = none) (hv : bootBuiltins x = some (.type T)) (ha : PA X (e :: es) (tA R W fs)) (hs : (e :: es).all notStar = true)
    (hn : x ≠ "__name__") (hdb : (x == ("__debug__" : Str)) = false) : PE X (.Call (.Name x p) (e :: es) [] pos) (tF R W (cCallF f fs)) := by
  simp only [List.all_cons, Bool.and_eq_true] at hs
  refine PE.to (pe_callTy hc hg hm hv ha hn hdb (starEach_ns hs.1) (backTo_ns hs.2)) fun σ H Q ⟨ms, ρ, G, g, s, q⟩ => ?_
  refine tA_then g s (PostF.r (show PostF R W σ ms H Q ((fs ρ G).bind fun vs G1 => ofOL ((Ev.derefs G1 vs).bind f) G1) from q)) fun vs G1 e1 q1 ms1 xs H1 st1 g1 s1 r1 => ?_
  obtain ⟨r, e2, q2⟩ := ofOL_some q1
  obtain ⟨ps, e3, e4⟩ := Option.bind_eq_some_iff.mp e2
  have hl1 : ms.length ≤ ms1.length := by
    obtain ⟨new, e, _⟩ := st1.grow
    rw [e]; simp
  exact ⟨ms1, ps, r, r1.derefs g1 e3, g1.trk, e4, NewL.post g1 fun ms' p' H' st' g' l' => q2 ms' p' H' (st1.trans st') g' (Nat.le_trans hl1 l')⟩
theorem sf_bin {op : Operator} {f : PV → PV → Option (List PV)} (ho : OpR X (binaryOp op) (rBF R f)) (ha : PE X a (tE R W fa)) (hb : PE X b (tE R W fb)) : PE X (.BinOp a op b pos) (tF R W (cBinF f fa fb)) :=
  PE.to (pe_op ho ha hb) fun σ H Q ⟨ms, ρ, G, g, s, q⟩ => by
    refine tE_then g s (PostF.r (show PostF R W σ ms H Q ((fa ρ G).bind fun x G1 => (fb ρ G1).bind fun y G2 => ofOL (opt2L f (Ev.deref G2 x) (Ev.deref G2 y)) G2) from q)) fun v G1 e1 q1 ms1 x H1 st1 g1 s1 r1 => ?_
    refine tE_then g1 s1 (q1.on st1) fun u G2 e2 q2 ms2 y H2 st2 g2 s2 r2 => ?_
    obtain ⟨p, e1, q⟩ := ofOL_some q2
    obtain ⟨p1, p2, e2, e3, e4⟩ := opt2L_some e1
    have hl1 : ms.length ≤ ms2.length := by
      obtain ⟨new, e, _⟩ := (st1.trans st2).grow
      rw [e]; simp
    exact ⟨ms2, p1, p2, p, (r1.step g1 st2).deref g2 e2, r2.deref g2 e3, g2.trk, e4, NewL.post g2 fun ms' p' H' st' g' l' => q ms' p' H' ((st1.trans st2).trans st') g' (Nat.le_trans hl1 l')⟩

/-! ### own functions -/
def PostC (R : RC) (ms : List Addr) (H : Hp) (Q : VK) (E : XK) : Res Val → Prop
  | .ok v G => ∀ ms' x H', Step ms H ms' H' → RepG R ms' H' G → RepV R ms' H' v x → Q x H'
  | .exc e G => ∀ ms' cls d H', Step ms H ms' H' → RepG R ms' H' G → RepX R ms' H' e cls d → E cls d H'
  | .stuck => False
def spOf (R : RC) (n : Nat) (run : List Val → Store → Res Val) : Sp := fun vs H Q E => vs.length = n ∧ ∃ ms G args, RepG R ms H G ∧ RepVs R ms H args vs ∧ PostC R ms H Q E (run args G)
theorem PostE.c {Q : VK} {r : Res Val} (h : PostE R W σ ms H Q r) : PostC R ms H Q (WE W σ) r := by
  cases r <;> exact h
/-- a function of the module that keeps run's promise -/
structure FnS (R : RC) (P : Program) (w : World) (mg : Str → Option Value) (base : Heap) (k : Nat) (x : Str) (n : Nat) (run : List Val → Store → Res Val) : Prop where
  ex : ∃ (f : Addr) (fd : FuncData) (ps : List Str), FnG P w R.K mg base (L2.CX P w) k f fd ps (spOf R n run) ∧ mg x = some (.ref f) ∧ PySem.W.keepIn R.K (.ref f) = true ∧ Binds R.K fd ps []
theorem FnS.mono {P : Program} {w : World} {mg : Str → Option Value} {base : Heap} {j k : Nat} {x : Str} {n : Nat} {run : List Val → Store → Res Val} (F : FnS R P w mg base j x n run) (h : j ≤ k) : FnS R P w mg base k x n run :=
  let ⟨f, fd, ps, F1, r⟩ := F.ex
  ⟨f, fd, ps, F1.mono h, r⟩
theorem se_own {k n : Nat} {x : Str} {p : Pos} {run : List Val → Store → Res Val} (hK : X.K = R.K) (tk : Takes X W) (F : FnS R X.prog X.w X.mg X.base k x n run) (hr : Room k X.A) (hgd : X.A.guards = some []) (hg : Gl X x) (ha : PA X es (tA R W fs)) (hs : es.all notStar = true)
    (hl : ∀ ρ G vs G1, fs ρ G = .ok vs G1 → vs.length = n) (hdb : (x == ("__debug__" : Str)) = false) (h0 : es = [] → fs = cNil) : PE X (.Call (.Name x p) es [] pos) (tE R W (cOwn run fs)) := by
  obtain ⟨f, fd, ps, F1, hm, hk, hb⟩ := F.ex
  rw [← hK] at F1 hk hb
  cases es with
  | nil =>
    rw [h0 rfl] at hl ⊢
    refine PE.to (Calls.pe0 ⟨F1, hr, hgd, hk, hb, fun σ => passAt tk σ⟩ hg hm hdb) fun σ H Q ⟨ms, ρ, G, g, s, q⟩ => ?_
    exact ⟨hl ρ G [] G rfl, ms, G, [], g, .nil, PostE.c (show PostE R W σ ms H Q (run [] G) from q)⟩
  | cons e es =>
    simp only [List.all_cons, Bool.and_eq_true] at hs
    refine PE.to (Calls.pe ⟨F1, hr, hgd, hk, hb, fun σ => passAt tk σ⟩ hg hm hdb ha (starEach_ns hs.1) (backTo_ns hs.2)) fun σ H Q ⟨ms, ρ, G, g, s, q⟩ => ?_
    refine tA_then g s (PostE.r (show PostE R W σ ms H Q ((fs ρ G).bind run) from q)) fun vs G1 e1 q1 ms1 xs H1 st1 g1 s1 r1 => ?_
    refine ⟨by rw [← r1.length]; exact hl _ _ _ _ e1, ms1, G1, vs, g1, r1, PostE.c (PostE.of ((q1.imp fun a G3 z ms' x H' s3 => z ms' x H' (st1.trans s3)).on st1))⟩

/-! ### tests -/
theorem TruV_of {p : PV} {x : V} {c : Bool} (t : RD R ms H p x) (h : pyTruth p = some c) : TruV R.K x H c := by
  cases p with
  | non => cases t; cases h; rfl
  | bl b => cases t; cases h; rfl
  | int i => cases t; cases h; rfl
  | str s =>
    cases t
    simp only [pyTruth] at h
    split at h
    · cases h; exact ⟨by assumption, rfl⟩
    · cases h
  | tup xs =>
    have t : RepP R ms H (.tup xs) x := t
    simp only [RepP] at t
    obtain ⟨a, ys, rfl, h1, h2⟩ := t
    cases h
    refine .inr (.inl ⟨ys, h1.sq, ?_⟩)
    have := h2.length
    cases xs <;> cases ys <;> first | rfl | simp at this
  | lst xs =>
    obtain ⟨a, ys, rfl, h1, h2⟩ := t
    cases h
    refine .inl ⟨ys, SqL.of h1, ?_⟩
    have := h2.length
    cases xs <;> cases ys <;> first | rfl | simp at this
  | _ => cases h
end
end Ev

end
section
set_option maxRecDepth 100000
set_option maxHeartbeats 4000000
/-! Ev F: tests, statements, loops -/
namespace Ev
open PySem PySem.Spec PyProof.Rows L2

section
variable {R : RC} {W : WX} {X : Cx} {ms ms' : List Addr} {H H' : Hp} {G G' : Store} {ρ : Fr} {σ : L2.St} {a b e c : Expr} {es : List Expr} {fa fb : FE} {fs : FA} {ft fu : FT} {pos : Pos}
/-- expressions that are tested by their value's truth -/
def plainTest : Expr → Bool
  | .BoolOp .. | .UnaryOp .. | .Compare .. | .IfExp .. => false
  | _ => true
theorem plainTest_ok (h : plainTest a = true) : ∀ whole, isTrue a X.env whole = (do let v ← whole; standAt a.pos; holding [v] (truthy v)) := by
  intro whole
  cases a <;> first | (exact (Bool.noConfusion h)) | rfl
theorem st_tru (ha : PE X a (tE R W fa)) (hK : X.K = R.K) (h : plainTest a = true) : PT X a (tT R W (cTru fa)) :=
  PT.to (pt_truth ha (plainTest_ok h)) fun σ H Q ⟨ms, ρ, G, g, s, q⟩ => by
    refine tE_then g s (PostT.r (show PostT R W σ ms H Q ((fa ρ G).bind fun v G1 => ofOB ((Ev.deref G1 v).bind pyTruth) G1) from q)) fun v G1 e1 q1 ms1 x H1 st1 g1 s1 r1 => ?_
    obtain ⟨k, e2, q2⟩ := ofOB_some q1
    obtain ⟨p, e3, e4⟩ := Option.bind_eq_some_iff.mp e2
    rw [hK]
    exact ⟨k, TruV_of (r1.deref g1 e3) e4, q2 ms1 H1 st1 g1⟩
theorem st_not (ha : PT X a (tT R W ft)) : PT X (.UnaryOp .Not a pos) (tT R W (cNotT ft)) :=
  PT.to (pt_not ha) fun σ H Q ⟨ms, ρ, G, g, s, q⟩ => by
    refine tT_then g s (PostT.r (show PostT R W σ ms H Q ((ft ρ G).bind fun c G1 => .ok (!c) G1) from q)) fun v G1 e1 q1 ms1 H1 st1 g1 s1 => ?_
    exact q1 ms1 H1 st1 g1
/-- a comparison that gives a bool, as a test -/
theorem st_cmp {op : CmpOp} {f : PV → PV → Option Bool} (ho : OpR X (compareOp op) (rB R fun p q => (f p q).map .bl)) (ha : PE X a (tE R W fa)) (hb : PE X b (tE R W fb)) (h1 : behindInMarks op b = false) :
    PT X (.Compare a [op] [b] pos) (tT R W (fun ρ G => (fa ρ G).bind fun x G1 => (fb ρ G1).bind fun y G2 => ofOB (opt2B f (Ev.deref G2 x) (Ev.deref G2 y)) G2)) :=
  PT.to (pt_cmpR ho ha hb h1) fun σ H Q ⟨ms, ρ, G, g, s, q⟩ => by
    refine tE_then g s (PostT.r (show PostT R W σ ms H Q ((fa ρ G).bind fun x G1 => (fb ρ G1).bind fun y G2 => ofOB (opt2B f (Ev.deref G2 x) (Ev.deref G2 y)) G2) from q)) fun v G1 e1 q1 ms1 x H1 st1 g1 s1 r1 => ?_
    refine tE_then g1 s1 (q1.on st1) fun u G2 e2 q2 ms2 y H2 st2 g2 s2 r2 => ?_
    obtain ⟨k, e3, q3⟩ := ofOB_some q2
    unfold opt2B at e3
    split at e3
    · rename_i p1 p2 h3 h4
      refine ⟨ms2, p1, p2, .bl k, (r1.step g1 st2).deref g2 h3, r2.deref g2 h4, g2.trk, by simp only [e3, Option.map_some], fun z H' ex rp => ?_⟩
      cases rp
      exact ⟨k, rfl, q3 ms2 H' ((st1.trans st2).trans ex.step) (g2.ext ex)⟩
    · cases e3
theorem sw_and1 (h : PT X a (tT R W ft)) : PW X (.BoolOp .And [a] pos) (tT R W ft) := pw_and1 h
theorem sw_or1 (h : PT X a (tT R W ft)) : PW X (.BoolOp .Or [a] pos) (tT R W ft) := pw_or1 h
theorem PW.to {e : Expr} {t t' : TT} (h : PW X e t) (i : ∀ σ H Q, t' σ H Q → t σ H Q) : PW X e t' := ⟨fun wh pins s σ H Q I q => h.run wh pins s σ H Q I (i σ H Q q)⟩
theorem sw_and {rest : List Expr} (ha : PT X a (tT R W ft)) (hb : PW X (.BoolOp .And (b :: rest) pos) (tT R W fu)) : PW X (.BoolOp .And (a :: b :: rest) pos) (tT R W (cAndT ft fu)) :=
  PW.to (pw_and ha hb) fun σ H Q ⟨ms, ρ, G, g, s, q⟩ => by
    refine tT_then g s (PostT.r (show PostT R W σ ms H Q ((ft ρ G).bind fun c G1 => if c = true then fu ρ G1 else .ok false G1) from q)) fun v G1 e1 q1 ms1 H1 st1 g1 s1 => ?_
    cases v with
    | true => exact ⟨ms1, ρ, G1, g1, s1, (PostT.of q1).on st1⟩
    | false => exact q1 ms1 H1 st1 g1
theorem sw_or {rest : List Expr} (ha : PT X a (tT R W ft)) (hb : PW X (.BoolOp .Or (b :: rest) pos) (tT R W fu)) : PW X (.BoolOp .Or (a :: b :: rest) pos) (tT R W (cOrT ft fu)) :=
  PW.to (pw_or ha hb) fun σ H Q ⟨ms, ρ, G, g, s, q⟩ => by
    refine tT_then g s (PostT.r (show PostT R W σ ms H Q ((ft ρ G).bind fun c G1 => if c = true then .ok true G1 else fu ρ G1) from q)) fun v G1 e1 q1 ms1 H1 st1 g1 s1 => ?_
    cases v with
    | true => exact q1 ms1 H1 st1 g1
    | false => exact ⟨ms1, ρ, G1, g1, s1, (PostT.of q1).on st1⟩
theorem se_if (hc : PT X c (tT R W ft)) (ha : PE X a (tE R W fa)) (hb : PE X b (tE R W fb)) : PE X (.IfExp c a b pos) (tE R W (cIf ft fa fb)) :=
  PE.to (pe_ifExp hc ha hb) fun σ H Q ⟨ms, ρ, G, g, s, q⟩ => by
    refine tT_then g s (PostE.r (show PostE R W σ ms H Q ((ft ρ G).bind fun c G1 => if c = true then fa ρ G1 else fb ρ G1) from q)) fun v G1 e1 q1 ms1 H1 st1 g1 s1 => ?_
    cases v with
    | true => exact ⟨ms1, ρ, G1, g1, s1, (PostE.of q1).on st1⟩
    | false => exact ⟨ms1, ρ, G1, g1, s1, (PostE.of q1).on st1⟩
theorem asB_some {v : Val} {c : Bool} {x : V} (h : asB v = some c) (r : RepV R ms H v x) : x = .bl c := by
  cases v with
  | box j => cases h
  | pv p =>
    cases p <;> first | (cases h; done) | skip
    cases h
    exact r
theorem se_and {rest : List Expr} (ha : PE X a (tE R W fa)) (hb : PE X (.BoolOp .And (b :: rest) pos) (tE R W fb)) : PE X (.BoolOp .And (a :: b :: rest) pos) (tE R W (cAndV fa fb)) :=
  PE.to (pe_and ha hb) fun σ H Q ⟨ms, ρ, G, g, s, q⟩ => by
    refine tE_then g s (PostE.r (show PostE R W σ ms H Q ((fa ρ G).bind fun v G1 => match asB v with | some true => fb ρ G1 | some false => .ok (.pv (.bl false)) G1 | none => .stuck) from q)) fun v G1 e1 q1 ms1 x H1 st1 g1 s1 r1 => ?_
    cases hv : asB v with
    | none => rw [hv] at q1; exact q1.elim
    | some c =>
      rw [hv] at q1
      refine ⟨c, asB_some hv r1, ?_⟩
      cases c with
      | true => exact ⟨ms1, ρ, G1, g1, s1, (PostE.of q1).on st1⟩
      | false => exact q1 ms1 (.bl false) H1 st1 g1 rfl
theorem se_or {rest : List Expr} (ha : PE X a (tE R W fa)) (hb : PE X (.BoolOp .Or (b :: rest) pos) (tE R W fb)) : PE X (.BoolOp .Or (a :: b :: rest) pos) (tE R W (cOrV fa fb)) :=
  PE.to (pe_or ha hb) fun σ H Q ⟨ms, ρ, G, g, s, q⟩ => by
    refine tE_then g s (PostE.r (show PostE R W σ ms H Q ((fa ρ G).bind fun v G1 => match asB v with | some true => .ok (.pv (.bl true)) G1 | some false => fb ρ G1 | none => .stuck) from q)) fun v G1 e1 q1 ms1 x H1 st1 g1 s1 r1 => ?_
    cases hv : asB v with
    | none => rw [hv] at q1; exact q1.elim
    | some c =>
      rw [hv] at q1
      refine ⟨c, asB_some hv r1, ?_⟩
      cases c with
      | true => exact q1 ms1 (.bl true) H1 st1 g1 rfl
      | false => exact ⟨ms1, ρ, G1, g1, s1, (PostE.of q1).on st1⟩
theorem se_not (ha : PE X a (tE R W fa)) : PE X (.UnaryOp .Not a pos) (tE R W (cNotV fa)) :=
  PE.to (pe_not ha) fun σ H Q ⟨ms, ρ, G, g, s, q⟩ => by
    refine tE_then g s (PostE.r (show PostE R W σ ms H Q ((fa ρ G).bind fun v G1 => match asB v with | some c => .ok (.pv (.bl (!c))) G1 | none => .stuck) from q)) fun v G1 e1 q1 ms1 x H1 st1 g1 s1 r1 => ?_
    cases hv : asB v with
    | none => rw [hv] at q1; exact q1.elim
    | some c =>
      rw [hv] at q1
      exact ⟨c, asB_some hv r1, q1 ms1 (.bl (!c)) H1 st1 g1 rfl⟩

/-! ### statements -/
variable {st : Stmt} {sts rest : List Stmt} {sa sb : FS} {i : Nat} {x : Str} {p : Pos}
theorem ss_nil : PSs X [] (tS R W sSkip) := PSs.to pss_nil fun D σ H ⟨ms, ρ, G, g, s, q⟩ => q ms σ H (Step.refl ms H) g s
theorem ss_cons (h1 : PS X st (tS R W sa)) (h2 : PSs X rest (tS R W sb)) : PSs X (st :: rest) (tS R W (sSeq sa sb)) :=
  PSs.to (pss_cons h1 h2) fun D σ H ⟨ms, ρ, G, g, s, q⟩ => ⟨ms, ρ, G, g, s, by
    unfold sSeq at q
    cases e1 : sa ρ G with
    | next ρ1 G1 =>
      rw [e1] at q
      exact fun ms1 σ1 H1 st1 g1 s1 => ⟨ms1, ρ1, G1, g1, s1, PostS.on q st1⟩
    | ret v G1 => rw [e1] at q; exact q
    | brk ρ1 G1 => rw [e1] at q; exact q
    | cont ρ1 G1 => rw [e1] at q; exact q
    | exc e ρ1 G1 => rw [e1] at q; exact q
    | stuck => rw [e1] at q; exact q⟩
/-- an expression at the head of a statement -/
theorem tE_stmt {Q2 : VK} {k : Val → Store → ResS} {D : Ends} (g : RepG R ms H G) (s : RepS R ms H ρ σ) (h : PostS R W ms H D (ofR ρ (fa ρ G) k))
    (go : ∀ v G1, fa ρ G = .ok v G1 → PostS R W ms H D (k v G1) → ∀ ms1 x H1, Step ms H ms1 H1 → RepG R ms1 H1 G1 → RepS R ms1 H1 ρ σ → RepV R ms1 H1 v x → Q2 x H1) : tE R W fa σ H Q2 := by
  refine ⟨ms, ρ, G, g, s, ?_⟩
  cases e : fa ρ G with
  | ok v G1 => rw [e] at h; exact fun ms1 x H1 st g1 r => go v G1 e h ms1 x H1 st g1 (s.step g st) r
  | exc e G1 => rw [e] at h; exact fun ms1 c d H1 st1 g1 r => h ms1 c d σ H1 st1 g1 (s.step g st1) r
  | stuck => rw [e] at h; exact h
theorem tT_stmt {Q2 : Bool → Hp → Prop} {k : Bool → Store → ResS} {D : Ends} (g : RepG R ms H G) (s : RepS R ms H ρ σ) (h : PostS R W ms H D (ofR ρ (ft ρ G) k))
    (go : ∀ v G1, ft ρ G = .ok v G1 → PostS R W ms H D (k v G1) → ∀ ms1 H1, Step ms H ms1 H1 → RepG R ms1 H1 G1 → RepS R ms1 H1 ρ σ → Q2 v H1) : tT R W ft σ H Q2 := by
  refine ⟨ms, ρ, G, g, s, ?_⟩
  cases e : ft ρ G with
  | ok v G1 => rw [e] at h; exact fun ms1 H1 st g1 => go v G1 e h ms1 H1 st g1 (s.step g st)
  | exc e G1 => rw [e] at h; exact fun ms1 c d H1 st1 g1 r => h ms1 c d σ H1 st1 g1 (s.step g st1) r
  | stuck => rw [e] at h; exact h
theorem Step.len {ms ms' : List Addr} {H H' : Hp} (st : Step ms H ms' H') : ms.length ≤ ms'.length := by
  obtain ⟨new, e, _⟩ := st.grow
  rw [e]; simp
theorem tF_stmt {f : FF} {Q2 : VK} {k : List PV → Store → ResS} {D : Ends} (g : RepG R ms H G) (s : RepS R ms H ρ σ) (h : PostS R W ms H D (ofR ρ (f ρ G) k))
    (go : ∀ ps G1, f ρ G = .ok ps G1 → PostS R W ms H D (k ps G1) → ∀ ms1 p H1, Step ms H (ms1 ++ [p]) H1 → RepG R (ms1 ++ [p]) H1 (G1 ++ [.lst ps]) → RepS R (ms1 ++ [p]) H1 ρ σ → ms.length ≤ ms1.length → Q2 (.ref p) H1) : tF R W f σ H Q2 := by
  refine ⟨ms, ρ, G, g, s, ?_⟩
  cases e : f ρ G with
  | ok v G1 => rw [e] at h; exact fun ms1 p H1 st g1 l => go v G1 e h ms1 p H1 st g1 (s.step g st) l
  | exc e G1 => rw [e] at h; exact fun ms1 c d H1 st1 g1 r => h ms1 c d σ H1 st1 g1 (s.step g st1) r
  | stuck => rw [e] at h; exact h
theorem ss_expr (he : PE X e (tE R W fa)) (hs : swapsWith e none pos.line X.env = pure false) : PS X (.Expr e pos) (tS R W (sExpr fa)) :=
  PS.to (ps_expr he hs) fun D σ H ⟨ms, ρ, G, g, s, q⟩ => tE_stmt g s (k := fun _ G1 => .next ρ G1) q fun v G1 e1 q1 ms1 x H1 st1 g1 s1 r1 => q1 ms1 σ H1 st1 g1 s1
theorem ss_doc {z : Str} {j : Nat} {p2 : Pos} : PS X (.Expr (.Constant (.str z) j p2) pos) (tS R W sSkip) := PS.to ps_doc fun D σ H ⟨ms, ρ, G, g, s, q⟩ => q ms σ H (Step.refl ms H) g s
theorem ss_pass : PS X (.Pass pos) (tS R W sSkip) := PS.to ps_pass fun D σ H ⟨ms, ρ, G, g, s, q⟩ => q ms σ H (Step.refl ms H) g s
theorem ss_break : PS X (.Break pos) (tS R W sBreak) := PS.to ps_break fun D σ H ⟨ms, ρ, G, g, s, q⟩ => q ms σ H (Step.refl ms H) g s
theorem ss_cont : PS X (.Continue pos) (tS R W sCont) := PS.to ps_continue fun D σ H ⟨ms, ρ, G, g, s, q⟩ => q ms σ H (Step.refl ms H) g s
theorem ss_ret (he : PE X e (tE R W fa)) : PS X (.Return (some e) pos) (tS R W (sRet fa)) :=
  PS.to (ps_ret he) fun D σ H ⟨ms, ρ, G, g, s, q⟩ => tE_stmt g s (k := fun v G1 => .ret v G1) q fun v G1 e1 q1 ms1 x H1 st1 g1 s1 r1 => q1 ms1 x H1 st1 g1 r1
theorem ss_retN : PS X (.Return none pos) (tS R W sRetN) := PS.to ps_retN fun D σ H ⟨ms, ρ, G, g, s, q⟩ => q ms .non H (Step.refl ms H) g rfl
theorem rep_box {ms1 : List Addr} {H1 : Hp} {G1 : Store} {p : Addr} {ps : List PV} (g : RepG R (ms1 ++ [p]) H1 (G1 ++ [.lst ps])) : RepV R (ms1 ++ [p]) H1 (.box G1.length) (.ref p) := by
  have hl : ms1.length = G1.length := by have := g.len; simpa using this
  exact ⟨p, by rw [← hl]; simp, rfl⟩
theorem ss_retBox {f : FF} (he : PE X e (tF R W f)) : PS X (.Return (some e) pos) (tS R W (sRetBox f)) :=
  PS.to (ps_ret he) fun D σ H ⟨ms, ρ, G, g, s, q⟩ => tF_stmt g s (k := fun ps G1 => .ret (.box G1.length) (G1 ++ [.lst ps])) q fun ps G1 e1 q1 ms1 p H1 st1 g1 s1 l => q1 (ms1 ++ [p]) (.ref p) H1 st1 g1 (rep_box g1)
theorem ss_if {sc : List Stmt} (hc : PT X c (tT R W ft)) (ha : PSs X sts (tS R W sa)) (hb : PSs X sc (tS R W sb)) : PS X (.If c sts sc pos) (tS R W (sIf ft sa sb)) :=
  PS.to (ps_if hc ha hb) fun D σ H ⟨ms, ρ, G, g, s, q⟩ => tT_stmt g s (k := fun c G1 => if c = true then sa ρ G1 else sb ρ G1) q fun v G1 e1 q1 ms1 H1 st1 g1 s1 => by
    cases v with
    | true => exact ⟨ms1, ρ, G1, g1, s1, PostS.on q1 st1⟩
    | false => exact ⟨ms1, ρ, G1, g1, s1, PostS.on q1 st1⟩
theorem ss_set (hN : X.N.Nodup) (hi : X.N[i]? = some x) (hx : Loc X.env.scope x) (he : PE X e (tE R W fa)) (hs : swapsWith e (some (.Name x p)) pos.line X.env = pure false) (hf : X.fn x = true ∨ X.env.scope.names.lookup x = some .local) :
    PS X (.Assign [.Name x p] e pos) (tS R W (sSet i fa)) :=
  PS.to (ps_set hN hi hx he hs hf) fun D σ H ⟨ms, ρ, G, g, s, q⟩ => tE_stmt g s (k := fun v G1 => .next (ρ.set i (some v)) G1) q fun v G1 e1 q1 ms1 x H1 st1 g1 s1 r1 => q1 ms1 _ H1 st1 g1 (s1.set r1)
theorem ss_setBox {f : FF} (hN : X.N.Nodup) (hi : X.N[i]? = some x) (hx : Loc X.env.scope x) (he : PE X e (tF R W f)) (hs : swapsWith e (some (.Name x p)) pos.line X.env = pure false) (hf : X.fn x = true ∨ X.env.scope.names.lookup x = some .local) :
    PS X (.Assign [.Name x p] e pos) (tS R W (sSetBox i f)) :=
  PS.to (ps_set hN hi hx he hs hf) fun D σ H ⟨ms, ρ, G, g, s, q⟩ => tF_stmt g s (k := fun ps G1 => .next (ρ.set i (some (.box G1.length))) (G1 ++ [.lst ps])) q fun ps G1 e1 q1 ms1 p H1 st1 g1 s1 l =>
    q1 (ms1 ++ [p]) _ H1 st1 g1 (s1.set (rep_box g1))
end
end Ev

end
section
set_option maxRecDepth 100000
set_option maxHeartbeats 4000000
/-! Ev G: what is walked, for, list comprehensions -/
namespace Ev
open PySem PySem.Spec PyProof.Rows L2

section
variable {R : RC} {W : WX} {X : Cx} {ms ms' : List Addr} {H H' : Hp} {G G' : Store} {ρ : Fr} {σ : L2.St} {a b e c tg : Expr} {es : List Expr} {fa fb : FE} {fs : FA} {ft fu : FT} {pos : Pos}

/-- J walks the items, from (m0, H0) on -/
structure Walks (R : RC) (it : Items) (J : It) (m0 : List Addr) (H0 : Hp) : Prop where
  go : ∀ (ms : List Addr) (H : Hp) (G : Store) (i : Nat) (p : PV), Step m0 H0 ms H → RepG R ms H G → guardOk it.guard it.xs G = true → it.xs[i]? = some p → J.go i H ∧ ∀ x H', J.yld i H x H' → Ext H H' ∧ RepP R ms H' p x
  stop : ∀ (ms : List Addr) (H : Hp) (G : Store), Step m0 H0 ms H → RepG R ms H G → guardOk it.guard it.xs G = true → J.stop it.xs.length H
theorem Walks.on {it : Items} {J : It} {m0 m1 : List Addr} {H0 H1 : Hp} (w : Walks R it J m0 H0) (st : Step m0 H0 m1 H1) : Walks R it J m1 H1 :=
  ⟨fun ms H G i p s => w.go ms H G i p (st.trans s), fun ms H G s => w.stop ms H G (st.trans s)⟩
def PostI (R : RC) (W : WX) (σ : L2.St) (ms : List Addr) (H : Hp) (Rr : It → Hp → Prop) : Res Items → Prop
  | .ok it G => ∀ ms' J H', Step ms H ms' H' → RepG R ms' H' G → Walks R it J ms' H' → Rr J H'
  | .exc e G => ∀ ms' cls d H', Step ms H ms' H' → RepG R ms' H' G → RepX R ms' H' e cls d → W cls d σ H'
  | .stuck => False
def tI (R : RC) (W : WX) (f : FI) : TI := fun σ H Rr => ∃ ms ρ G, RepG R ms H G ∧ RepS R ms H ρ σ ∧ PostI R W σ ms H Rr (f ρ G)
theorem PI.to {t t' : TI} (h : PI X tg e t) (i : ∀ σ H Q, t' σ H Q → t σ H Q) : PI X tg e t' := ⟨fun pins s σ H Q I q => h.run pins s σ H Q I (i σ H Q q)⟩

/-- a list, a tuple -/
theorem walks_lst {ps : List PV} {xs : List V} {a : Addr} {m0 : List Addr} {H0 : Hp} {G0 : Store} (g0 : RepG R m0 H0 G0) (h : LstAt m0 H0 a xs) (r : RepPs R m0 H0 ps xs) : Walks R ⟨ps, none⟩ (Itl R.K a) m0 H0 := by
  refine ⟨fun ms H G i p st g _ hp => ?_, fun ms H G st g _ => ?_⟩
  · obtain ⟨x, e1, r1⟩ := (RepPs.step st g0.own _ _ r).get hp
    exact ⟨⟨xs, x, (h.step st).sq, e1⟩, fun y H' ⟨e2, q⟩ => ⟨by rw [e2]; exact Ext.refl H, by
      have := q xs (h.step st).sq
      rw [e1] at this; cases this
      rw [e2]; exact r1⟩⟩
  · exact ⟨xs, (h.step st).sq, Nat.le_of_eq r.length.symm⟩
theorem walks_scr {ps : List PV} {xs : List V} {a : Addr} {m0 : List Addr} {H0 : Hp} {G0 : Store} (g0 : RepG R m0 H0 G0) (h : ScrAt R.K m0 H0 a xs) (r : RepPs R m0 H0 ps xs) : Walks R ⟨ps, none⟩ (Itl R.K a) m0 H0 := by
  refine ⟨fun ms H G i p st g _ hp => ?_, fun ms H G st g _ => ?_⟩
  · obtain ⟨x, e1, r1⟩ := (RepPs.step st g0.own _ _ r).get hp
    exact ⟨⟨xs, x, (h.step st).sq, e1⟩, fun y H' ⟨e2, q⟩ => ⟨by rw [e2]; exact Ext.refl H, by
      have := q xs (h.step st).sq
      rw [e1] at this; cases this
      rw [e2]; exact r1⟩⟩
  · exact ⟨xs, (h.step st).sq, Nat.le_of_eq r.length.symm⟩
theorem walks_tup {ps : List PV} {xs : List V} {a : Addr} {m0 : List Addr} {H0 : Hp} {G0 : Store} (g0 : RepG R m0 H0 G0) (h : TupAt R.K m0 H0 a xs) (r : RepPs R m0 H0 ps xs) : Walks R ⟨ps, none⟩ (Itt R.K a) m0 H0 := by
  refine ⟨fun ms H G i p st g _ hp => ?_, fun ms H G st g _ => ?_⟩
  · obtain ⟨x, e1, r1⟩ := (RepPs.step st g0.own _ _ r).get hp
    exact ⟨⟨xs, x, (h.step st).sq, e1⟩, fun y H' ⟨e2, q⟩ => ⟨by rw [e2]; exact Ext.refl H, by
      have := q xs (h.step st).sq
      rw [e1] at this; cases this
      rw [e2]; exact r1⟩⟩
  · exact ⟨xs, (h.step st).sq, Nat.le_of_eq r.length.symm⟩
theorem Step.get {m0 m1 : List Addr} {H0 H1 : Hp} (st : Step m0 H0 m1 H1) {j : Nat} {a : Addr} (h : m0[j]? = some a) : m1[j]? = some a := by
  obtain ⟨new, rfl, _⟩ := st.grow
  rw [List.getElem?_append_left (List.getElem?_eq_some_iff.mp h).1]; exact h
theorem walks_box {ps : List PV} {j : Nat} {a : Addr} {m0 : List Addr} {H0 : Hp} (h : m0[j]? = some a) : Walks R ⟨ps, some j⟩ (Itl R.K a) m0 H0 := by
  have key : ∀ (ms : List Addr) (H : Hp) (G : Store), Step m0 H0 ms H → RepG R ms H G → guardOk (some j) ps G = true → ∃ xs, H a = some (.lst xs) ∧ RepPs R ms H ps xs := fun ms H G st g hg => by
    simp only [guardOk] at hg
    split at hg
    · rename_i ys e1
      have := of_decide_eq_true hg
      subst this
      exact g.ob j _ a e1 (st.get h)
    · cases hg
  refine ⟨fun ms H G i p st g hg hp => ?_, fun ms H G st g hg => ?_⟩
  · obtain ⟨xs, h1, r⟩ := key ms H G st g hg
    obtain ⟨x, e1, r1⟩ := r.get hp
    exact ⟨⟨xs, x, SqL.of h1, e1⟩, fun y H' ⟨e2, q⟩ => ⟨by rw [e2]; exact Ext.refl H, by
      have := q xs (SqL.of h1)
      rw [e1] at this; cases this
      rw [e2]; exact r1⟩⟩
  · obtain ⟨xs, h1, r⟩ := key ms H G st g hg
    exact ⟨xs, SqL.of h1, Nat.le_of_eq r.length.symm⟩
theorem walks_str {z : Str} {m0 : List Addr} {H0 : Hp} : Walks R ⟨charsOf z, none⟩ (Its z) m0 H0 := by
  refine ⟨fun ms H G i p st g _ hp => ?_, fun ms H G st g _ => ?_⟩
  · have hp : (z.cps.toList.map fun c => PV.str ⟨#[c]⟩)[i]? = some p := hp
    rw [List.getElem?_map] at hp
    obtain ⟨c, e1, rfl⟩ := Option.map_eq_some_iff.mp hp
    rw [Array.getElem?_toList] at e1
    refine ⟨(Array.getElem?_eq_some_iff.mp e1).1, fun x H' ⟨e2, c', e3, e4⟩ => ⟨by rw [e2]; exact Ext.refl H, ?_⟩⟩
    rw [e1] at e3
    cases e3
    simp only [RepP]
    exact e4
  · show z.cps.size ≤ (charsOf z).length
    unfold charsOf
    simp
theorem si_seq (hK : X.K = R.K) (h : PE X e (tE R W fa)) : PI X tg e (tI R W (iSeq fa)) := by
  refine ⟨fun pins s σ H Rr I ⟨ms, ρ, G, g, sl, q⟩ => ?_⟩
  unfold iSeq at q
  cases e1 : fa ρ G with
  | stuck => rw [e1] at q; exact q.elim
  | exc ex G1 =>
    rw [e1] at q
    exact (pi_list (tg := tg) h).run pins s σ H Rr I ⟨ms, ρ, G, g, sl, by rw [e1]; exact q⟩
  | ok v G1 =>
    rw [e1] at q
    cases v with
    | box j =>
      have q : PostI R W σ ms H Rr (match G1[j]? with | some (.lst xs) => .ok ⟨xs, some j⟩ G1 | _ => .stuck) := q
      split at q
      · rename_i xs e2
        refine (pi_list (tg := tg) h).run pins s σ H Rr I ⟨ms, ρ, G, g, sl, ?_⟩
        rw [e1]
        intro ms1 x H1 st g1 r
        obtain ⟨a, h1, rfl⟩ := r
        obtain ⟨ys, h2, h3⟩ := g1.ob j _ a e2 h1
        exact ⟨a, rfl, ⟨ys, SqL.of h2⟩, q ms1 _ H1 st g1 (by rw [hK]; exact walks_box h1)⟩
      · exact q.elim
    | pv p =>
      cases p with
      | lst ps =>
        refine (pi_list (tg := tg) h).run pins s σ H Rr I ⟨ms, ρ, G, g, sl, ?_⟩
        rw [e1]
        intro ms1 x H1 st g1 r
        have r : RepP R ms1 H1 (.lst ps) x := r
        simp only [RepP] at r
        obtain ⟨a, ys, rfl, h2, h3⟩ := r
        exact ⟨a, rfl, ⟨ys, by rw [hK]; exact h2.sq⟩, q ms1 _ H1 st g1 (by rw [hK]; exact walks_lst g1 h2 h3)⟩
      | scr ps =>
        refine (pi_list (tg := tg) h).run pins s σ H Rr I ⟨ms, ρ, G, g, sl, ?_⟩
        rw [e1]
        intro ms1 x H1 st g1 r
        have r : RepP R ms1 H1 (.scr ps) x := r
        simp only [RepP] at r
        obtain ⟨a, ys, rfl, h2, h3⟩ := r
        exact ⟨a, rfl, ⟨ys, by rw [hK]; exact h2.sq⟩, q ms1 _ H1 st g1 (by rw [hK]; exact walks_scr g1 h2 h3)⟩
      | tup ps =>
        refine (pi_tup (tg := tg) h).run pins s σ H Rr I ⟨ms, ρ, G, g, sl, ?_⟩
        rw [e1]
        intro ms1 x H1 st g1 r
        have r : RepP R ms1 H1 (.tup ps) x := r
        simp only [RepP] at r
        obtain ⟨a, ys, rfl, h2, h3⟩ := r
        exact ⟨a, rfl, ⟨ys, by rw [hK]; exact h2.sq⟩, q ms1 _ H1 st g1 (by rw [hK]; exact walks_tup g1 h2 h3)⟩
      | str z =>
        refine (pi_str (tg := tg) h).run pins s σ H Rr I ⟨ms, ρ, G, g, sl, ?_⟩
        rw [e1]
        intro ms1 x H1 st g1 r
        exact ⟨z, r, q ms1 _ H1 st g1 walks_str⟩
      | _ => exact q.elim
theorem intsUp_get (lo : Int) (n i : Nat) (p : PV) (h : (intsUp lo n)[i]? = some p) : i < n ∧ p = .int (lo + i) := by
  induction n generalizing lo i with
  | zero => simp [intsUp] at h
  | succ n ih =>
    cases i with
    | zero => simp [intsUp] at h; subst h; simp
    | succ i =>
      simp [intsUp] at h
      obtain ⟨h1, h2⟩ := ih _ _ h
      refine ⟨by omega, ?_⟩
      rw [h2]
      congr 1
      push_cast
      omega
theorem intsUp_length (lo : Int) (n : Nat) : (intsUp lo n).length = n := by
  induction n generalizing lo with
  | zero => rfl
  | succ n ih => simp [intsUp, ih]
theorem walks_range {lo : Int} {n : Nat} {m0 : List Addr} {H0 : Hp} : Walks R ⟨intsUp lo n, none⟩ (Itr lo n) m0 H0 := by
  refine ⟨fun ms H G i p st g _ hp => ?_, fun ms H G st g _ => ?_⟩
  · obtain ⟨h1, h2⟩ := intsUp_get lo n i p hp
    exact ⟨h1, fun x H' ⟨e1, e2⟩ => ⟨by rw [e1]; exact Ext.refl H, by rw [h2, e2]; simp only [RepP]⟩⟩
  · show n ≤ (intsUp lo n).length
    rw [intsUp_length]; exact Nat.le_refl _
theorem bound62_ok {i : Int} (h : bound62 i = true) : -(2 ^ 62) ≤ i ∧ i < 2 ^ 62 := of_decide_eq_true h
theorem RDs.one {p : PV} {xs : List V} (h : RDs R ms H [p] xs) : ∃ x, xs = [x] ∧ RD R ms H p x := by
  cases h with
  | cons h t => cases t; exact ⟨_, rfl, h⟩
theorem RDs.two {p q : PV} {xs : List V} (h : RDs R ms H [p, q] xs) : ∃ x y, xs = [x, y] ∧ RD R ms H p x ∧ RD R ms H q y := by
  cases h with
  | cons h t =>
    cases t with
    | cons h2 t => cases t; exact ⟨_, _, rfl, h, h2⟩
theorem RD.int {i : Int} {x : V} (h : RD R ms H (.int i) x) : x = .int i := h
theorem si_range {p : Pos} (hg : Gl X "range") (hm : X.mg "range" = none) (ha : PA X es (tA R W fs)) (hs : es.all notStar = true) (hn : es.length = 1 ∨ es.length = 2) (hl : ∀ ρ G vs G1, fs ρ G = .ok vs G1 → vs.length = es.length) :
    PI X tg (.Call (.Name "range" p) es [] pos) (tI R W (iCall rangeItems fs)) := by
  match es, hn, hs, ha, hl with
  | [e1], _, hs, ha, hl =>
    simp only [List.all_cons, List.all_nil, Bool.and_true] at hs
    refine PI.to (pi_range1 hg hm ha (starEach_ns hs)) fun σ H Rr ⟨ms, ρ, G, g, s, q⟩ => ⟨ms, ρ, G, g, s, ?_⟩
    unfold iCall at q
    cases ef : fs ρ G with
    | stuck => rw [ef] at q; exact q
    | exc e2 G1 => rw [ef] at q; exact q
    | ok vs G1 =>
      rw [ef] at q
      intro ms1 xs H1 st g1 r
      have q : PostI R W σ ms H Rr (match (Ev.derefs G1 vs).bind rangeItems with | some xs => .ok ⟨xs, none⟩ G1 | none => .stuck) := q
      split at q
      · rename_i its e3
        obtain ⟨ps, e4, e5⟩ := Option.bind_eq_some_iff.mp e3
        have rd := r.derefs g1 e4
        have l1 := hl _ _ _ _ ef
        have l2 : xs.length = 1 := by rw [← r.length]; exact l1
        unfold rangeItems at e5
        split at e5
        · rename_i j
          obtain ⟨x, rfl, rx⟩ := rd.one
          have := RD.int rx
          subst this
          split at e5
          · rename_i hb
            cases e5
            obtain ⟨b1, b2⟩ := bound62_ok hb
            exact ⟨j, rfl, b1, b2, q ms1 _ H1 st g1 walks_range⟩
          · cases e5
        · obtain ⟨x, y, rfl, _⟩ := rd.two
          simp at l2
        · cases e5
      · exact q.elim
  | [e1, e2], _, hs, ha, hl =>
    simp only [List.all_cons, List.all_nil, Bool.and_true, Bool.and_eq_true] at hs
    refine PI.to (pi_range2 hg hm ha (by rw [starEach_ns hs.1, starEach_ns hs.2]; rfl) (by rw [starEach_ns hs.2]; rfl)) fun σ H Rr ⟨ms, ρ, G, g, s, q⟩ => ⟨ms, ρ, G, g, s, ?_⟩
    unfold iCall at q
    cases ef : fs ρ G with
    | stuck => rw [ef] at q; exact q
    | exc e2 G1 => rw [ef] at q; exact q
    | ok vs G1 =>
      rw [ef] at q
      intro ms1 xs H1 st g1 r
      have q : PostI R W σ ms H Rr (match (Ev.derefs G1 vs).bind rangeItems with | some xs => .ok ⟨xs, none⟩ G1 | none => .stuck) := q
      split at q
      · rename_i its e3
        obtain ⟨ps, e4, e5⟩ := Option.bind_eq_some_iff.mp e3
        have rd := r.derefs g1 e4
        have l1 := hl _ _ _ _ ef
        have l2 : xs.length = 2 := by rw [← r.length]; exact l1
        unfold rangeItems at e5
        split at e5
        · obtain ⟨x, rfl, rx⟩ := rd.one
          simp at l2
        · rename_i i j
          obtain ⟨x, y, rfl, rx, ry⟩ := rd.two
          have := RD.int rx
          subst this
          have := RD.int ry
          subst this
          split at e5
          · rename_i hb
            cases e5
            simp only [Bool.and_eq_true] at hb
            obtain ⟨b1, b2⟩ := bound62_ok hb.1
            obtain ⟨b3, b4⟩ := bound62_ok hb.2
            exact ⟨i, j, rfl, ⟨b1, b2, b3, b4⟩, q ms1 _ H1 st g1 walks_range⟩
          · cases e5
        · cases e5
      · exact q.elim

/-! ### zip, enumerate -/
theorem zipPV_get : ∀ (ps qs : List PV) (i : Nat) (p : PV), (zipPV ps qs)[i]? = some p → ∃ x y, ps[i]? = some x ∧ qs[i]? = some y ∧ p = .tup [x, y]
  | [], _, i, p, h => by simp [zipPV] at h
  | _ :: _, [], i, p, h => by simp [zipPV] at h
  | x :: ps, y :: qs, 0, p, h => by simp [zipPV] at h; exact ⟨x, y, rfl, rfl, h.symm⟩
  | x :: ps, y :: qs, i + 1, p, h => by
    simp [zipPV] at h
    obtain ⟨u, v, h1, h2, h3⟩ := zipPV_get ps qs i p h
    exact ⟨u, v, by simpa using h1, by simpa using h2, h3⟩
theorem zipPV_len : ∀ (ps qs : List PV), (zipPV ps qs).length = min ps.length qs.length
  | [], _ => by simp [zipPV]
  | _ :: _, [] => by simp [zipPV]
  | x :: ps, y :: qs => by simp [zipPV, zipPV_len ps qs]
theorem rep_pair {T : Addr} {p q : PV} {x y : V} (g : RepG R ms H G) (hT : H T = none) (r1 : RepP R ms H p x) (r2 : RepP R ms H q y) : RepP R ms (upd H T (.tup [x, y])) (.tup [p, q]) (.ref T) := rep_tup g.trk hT (RepPs.cons r1 (RepPs.cons r2 RepPs.nil))
theorem walks_zipT {ps qs : List PV} {xs ys : List V} {a b : Addr} {m0 : List Addr} {H0 : Hp} {G0 : Store} (g0 : RepG R m0 H0 G0) (h : TupAt R.K m0 H0 a xs) (r : RepPs R m0 H0 ps xs) (h' : TupAt R.K m0 H0 b ys) (r' : RepPs R m0 H0 qs ys) :
    Walks R ⟨zipPV ps qs, none⟩ (RZ.ItzT R.K a b) m0 H0 := by
  refine ⟨fun ms H G i p st g _ hp => ?_, fun ms H G st g _ => ?_⟩
  · obtain ⟨p1, p2, e1, e2, rfl⟩ := zipPV_get ps qs i p hp
    obtain ⟨x, f1, r1⟩ := (RepPs.step st g0.own _ _ r).get e1
    obtain ⟨y, f2, r2⟩ := (RepPs.step st g0.own _ _ r').get e2
    refine ⟨⟨xs, ys, x, y, (h.step st).sq, (h'.step st).sq, f1, f2⟩, fun v H' ⟨T, x', y', e3, e4, e5, e6, e7⟩ => ?_⟩
    have q1 := e6 xs (h.step st).sq
    have q2 := e7 ys (h'.step st).sq
    rw [f1] at q1; rw [f2] at q2; cases q1; cases q2
    subst e3 e5
    exact ⟨Ext.new e4, rep_pair g e4 r1 r2⟩
  · refine ⟨xs, ys, (h.step st).sq, (h'.step st).sq, ?_⟩
    show xs.length ≤ (zipPV ps qs).length ∨ ys.length ≤ (zipPV ps qs).length
    rw [zipPV_len, ← r.length, ← r'.length]
    omega
theorem walks_zipL {ps qs : List PV} {xs ys : List V} {a b : Addr} {m0 : List Addr} {H0 : Hp} {G0 : Store} (g0 : RepG R m0 H0 G0) (h : LstAt m0 H0 a xs) (r : RepPs R m0 H0 ps xs) (h' : LstAt m0 H0 b ys) (r' : RepPs R m0 H0 qs ys) :
    Walks R ⟨zipPV ps qs, none⟩ (Itz R.K a b) m0 H0 := by
  refine ⟨fun ms H G i p st g _ hp => ?_, fun ms H G st g _ => ?_⟩
  · obtain ⟨p1, p2, e1, e2, rfl⟩ := zipPV_get ps qs i p hp
    obtain ⟨x, f1, r1⟩ := (RepPs.step st g0.own _ _ r).get e1
    obtain ⟨y, f2, r2⟩ := (RepPs.step st g0.own _ _ r').get e2
    refine ⟨⟨xs, ys, x, y, (h.step st).sq, (h'.step st).sq, f1, f2⟩, fun v H' ⟨T, x', y', e3, e4, e5, e6, e7⟩ => ?_⟩
    have q1 := e6 xs (h.step st).sq
    have q2 := e7 ys (h'.step st).sq
    rw [f1] at q1; rw [f2] at q2; cases q1; cases q2
    subst e3 e5
    exact ⟨Ext.new e4, rep_pair g e4 r1 r2⟩
  · refine ⟨xs, ys, (h.step st).sq, (h'.step st).sq, ?_⟩
    show xs.length ≤ (zipPV ps qs).length ∨ ys.length ≤ (zipPV ps qs).length
    rw [zipPV_len, ← r.length, ← r'.length]
    omega
theorem enumPV_get : ∀ (ps : List PV) (j i : Nat) (p : PV), (enumPV j ps)[i]? = some p → ∃ x, ps[i]? = some x ∧ p = .tup [.int ((j + i : Nat) : Int), x]
  | [], j, i, p, h => by simp [enumPV] at h
  | x :: ps, j, 0, p, h => by simp [enumPV] at h; exact ⟨x, rfl, by rw [← h]; rfl⟩
  | x :: ps, j, i + 1, p, h => by
    simp [enumPV] at h
    obtain ⟨u, h1, h2⟩ := enumPV_get ps (j + 1) i p h
    exact ⟨u, by simpa using h1, by rw [h2]; congr 3; omega⟩
theorem enumPV_len : ∀ (ps : List PV) (j : Nat), (enumPV j ps).length = ps.length
  | [], _ => rfl
  | _ :: ps, j => by simp [enumPV, enumPV_len ps]
theorem walks_enum {ps : List PV} {xs : List V} {a : Addr} {m0 : List Addr} {H0 : Hp} {G0 : Store} (g0 : RepG R m0 H0 G0) (h : ScrAt R.K m0 H0 a xs) (r : RepPs R m0 H0 ps xs) :
    Walks R ⟨enumPV 0 ps, none⟩ (Ite R.K a) m0 H0 := by
  refine ⟨fun ms H G i p st g _ hp => ?_, fun ms H G st g _ => ?_⟩
  · obtain ⟨p1, e1, rfl⟩ := enumPV_get ps 0 i p hp
    obtain ⟨x, f1, r1⟩ := (RepPs.step st g0.own _ _ r).get e1
    refine ⟨⟨xs, x, (h.step st).sq, f1⟩, fun v H' ⟨T, x', e3, e4, e5, e6⟩ => ?_⟩
    have q1 := e6 xs (h.step st).sq
    rw [f1] at q1; cases q1
    subst e3 e5
    exact ⟨Ext.new e4, by simpa using rep_pair (p := .int ((0 + i : Nat) : Int)) g e4 (by simp only [RepP, Nat.zero_add]) r1⟩
  · refine ⟨xs, (h.step st).sq, ?_⟩
    show xs.length ≤ (enumPV 0 ps).length
    rw [enumPV_len, r.length]
    exact Nat.le_refl _
theorem si_zip {p tpos : Pos} {elts : List Expr} {kk : Nat} {e2 : Expr} (hK : X.K = R.K) (hg : Gl X "zip") (hm : X.mg "zip" = none) (ha : PA X [e, e2] (tA R W fs)) (hs : [e, e2].all notStar = true) :
    PI X (.Tuple elts kk tpos) (.Call (.Name "zip" p) [e, e2] [] pos) (tI R W (iVals zipItems fs)) := by
  simp only [List.all_cons, List.all_nil, Bool.and_true, Bool.and_eq_true] at hs
  refine PI.to (RZ.pi_zipA hg hm ha (starEach_ns hs.1) (backTo_ns (by simp [hs.2]))) fun σ H Rr ⟨ms, ρ, G, g, s, q⟩ => ⟨ms, ρ, G, g, s, ?_⟩
  unfold iVals at q
  cases ef : fs ρ G with
  | stuck => rw [ef] at q; exact q
  | exc e2 G1 => rw [ef] at q; exact q
  | ok vs G1 =>
    rw [ef] at q
    intro ms1 xs H1 st g1 r
    have q : PostI R W σ ms H Rr (match zipItems vs with | some xs => .ok ⟨xs, none⟩ G1 | none => .stuck) := q
    rw [hK]
    split at q
    · rename_i its e3
      unfold zipItems at e3
      split at e3
      · cases e3
        cases r with
        | cons h1 t =>
          cases t with
          | cons h2 t =>
            cases t
            have h1 : RepP R ms1 H1 (.tup _) _ := h1
            have h2 : RepP R ms1 H1 (.tup _) _ := h2
            simp only [RepP] at h1 h2
            obtain ⟨a, us, rfl, k1, k2⟩ := h1
            obtain ⟨b, ws, rfl, k3, k4⟩ := h2
            exact ⟨a, b, us, ws, rfl, .inr ⟨k1.sq, k3.sq, q ms1 _ H1 st g1 (walks_zipT g1 k1 k2 k3 k4)⟩⟩
      · cases e3
        cases r with
        | cons h1 t =>
          cases t with
          | cons h2 t =>
            cases t
            have h1 : RepP R ms1 H1 (.lst _) _ := h1
            have h2 : RepP R ms1 H1 (.lst _) _ := h2
            simp only [RepP] at h1 h2
            obtain ⟨a, us, rfl, k1, k2⟩ := h1
            obtain ⟨b, ws, rfl, k3, k4⟩ := h2
            exact ⟨a, b, us, ws, rfl, .inl ⟨k1.sq, k3.sq, q ms1 _ H1 st g1 (walks_zipL g1 k1 k2 k3 k4)⟩⟩
      · cases e3
    · exact q.elim
theorem si_enum {p tpos : Pos} {elts : List Expr} {kk : Nat} (hK : X.K = R.K) (hg : Gl X "enumerate") (hm : X.mg "enumerate" = none) (ha : PA X [e] (tA R W fs)) (hs : [e].all notStar = true) :
    PI X (.Tuple elts kk tpos) (.Call (.Name "enumerate" p) [e] [] pos) (tI R W (iVals enumItems fs)) := by
  simp only [List.all_cons, List.all_nil, Bool.and_true] at hs
  refine PI.to (pi_enum hg hm ha (starEach_ns hs)) fun σ H Rr ⟨ms, ρ, G, g, s, q⟩ => ⟨ms, ρ, G, g, s, ?_⟩
  unfold iVals at q
  cases ef : fs ρ G with
  | stuck => rw [ef] at q; exact q
  | exc e2 G1 => rw [ef] at q; exact q
  | ok vs G1 =>
    rw [ef] at q
    intro ms1 xs H1 st g1 r
    have q : PostI R W σ ms H Rr (match enumItems vs with | some xs => .ok ⟨xs, none⟩ G1 | none => .stuck) := q
    rw [hK]
    split at q
    · rename_i its e3
      unfold enumItems at e3
      split at e3
      · cases e3
        cases r with
        | cons h1 t =>
          cases t
          have h1 : RepP R ms1 H1 (.lst _) _ := h1
          simp only [RepP] at h1
          obtain ⟨a, us, rfl, k1, k2⟩ := h1
          exact ⟨a, us, rfl, k1.sq, q ms1 _ H1 st g1 (walks_enum g1 (.inl ⟨.inl k1.1, k1.2⟩) k2)⟩
      · cases e3
        cases r with
        | cons h1 t =>
          cases t
          have h1 : RepP R ms1 H1 (.scr _) _ := h1
          simp only [RepP] at h1
          obtain ⟨a, us, rfl, k1, k2⟩ := h1
          exact ⟨a, us, rfl, k1.sq, q ms1 _ H1 st g1 (walks_enum g1 k1 k2)⟩
      · cases e3
    · exact q.elim
/-! ### targets -/
def gNames : List Nat → TGs
  | [] => gNil
  | i :: is => gCons (gName i) (gNames is)
def gOf (K : PySem.W.Frag) : Tgt → TG
  | .one i => gName i
  | .tup is => gTup K is.length (gNames is)
def Tgt.slots : Tgt → List Nat
  | .one i => [i]
  | .tup is => is
theorem gNames_ok {Q : L2.St → Hp → Prop} : ∀ {is : List Nat} {ps : List PV} {ρ ρ' : Fr} {σ : L2.St} {xs : List V}, setAll is ps ρ = some ρ' → RepS R ms H ρ σ → RepPs R ms H ps xs →
    (∀ σ', RepS R ms H ρ' σ' → (∀ k, k ∉ is → σ'[k]? = σ[k]?) → σ'.length = σ.length → Q σ' H) → gNames is xs σ H Q
  | [], [], ρ, ρ', σ, xs, e, s, r, q => by
    simp only [setAll] at e; cases e
    simp only [RepPs] at r
    exact ⟨r, q σ s (fun _ _ => rfl) rfl⟩
  | [], _ :: _, _, _, _, _, e, _, _, _ => by simp [setAll] at e
  | _ :: _, [], _, _, _, _, e, _, _, _ => by simp [setAll] at e
  | i :: is, p :: ps, ρ, ρ', σ, xs, e, s, r, q => by
    simp only [setAll] at e
    simp only [RepPs] at r
    obtain ⟨x, rr, rfl, r1, r2⟩ := r
    refine ⟨x, rr, rfl, ?_⟩
    refine gNames_ok e (s.set (v := .pv p) r1) r2 fun σ' s' hk hl => q σ' s' (fun k hn => ?_) (by rw [hl]; simp)
    simp only [List.mem_cons, not_or] at hn
    rw [hk k hn.2, List.getElem?_set_ne (Ne.symm hn.1)]
theorem gOf_ok {K : PySem.W.Frag} (hK : K = R.K) {Q : L2.St → Hp → Prop} {tgt : Tgt} {p : PV} {ρ' : Fr} {x : V} (e : bindTgt tgt p ρ = some ρ') (s : RepS R ms H ρ σ) (r : RepP R ms H p x)
    (q : ∀ σ', RepS R ms H ρ' σ' → (∀ k, k ∉ tgt.slots → σ'[k]? = σ[k]?) → σ'.length = σ.length → Q σ' H) : gOf K tgt x σ H Q := by
  cases tgt with
  | one i =>
    cases e
    exact q _ (s.set (v := .pv p) r) (fun k hk => by rw [List.getElem?_set_ne (by simp only [Tgt.slots, List.mem_singleton] at hk; exact Ne.symm hk)]) (by simp)
  | tup is =>
    cases p <;> first | (simp [bindTgt] at e; done) | skip
    rename_i ps
    simp only [bindTgt] at e
    simp only [RepP] at r
    obtain ⟨a, xs, rfl, h1, h2⟩ := r
    have hlen : ∀ {is : List Nat} {ps : List PV} {ρ ρ' : Fr}, setAll is ps ρ = some ρ' → ps.length = is.length := by
      intro is
      induction is with
      | nil => intro ps ρ ρ' e; cases ps <;> simp [setAll] at e ⊢
      | cons i is ih => intro ps ρ ρ' e; cases ps with
        | nil => simp [setAll] at e
        | cons p ps => simp only [setAll] at e; simp [ih e]
    refine ⟨a, xs, rfl, by rw [hK]; exact h1.sq, by rw [← h2.length]; exact hlen e, gNames_ok e s h2 q⟩

/-! ### for -/
theorem ss_for {tgt : Tgt} {fi : FI} {sb : FS} {body : List Stmt} (hK : X.K = R.K) (hp : PassesOwn (model X.prog X.w) X.A X.env X.xe) (hc : X.calm = true) (hi : PI X tg e (tI R W fi)) (hg : PG X tg (gOf X.K tgt)) (hb : PSs X body (tS R W sb)) (hs : ∀ x, foldedSetIterable e X.env x = pure x) :
    PS X (.For tg e body [] pos) (tS R W (sFor fi tgt sb)) :=
  PS.to (ps_for hp hc hi hg hb hs) fun D σ H ⟨ms, ρ, G, g, s, q⟩ => by
    refine ⟨ms, ρ, G, g, s, ?_⟩
    unfold sFor at q
    cases e1 : fi ρ G with
    | stuck => rw [e1] at q; exact q
    | exc ex G1 => rw [e1] at q; exact fun ms1 c d H1 st1 g1 r => q ms1 c d σ H1 st1 g1 (s.step g st1) r
    | ok it G1 =>
      rw [e1] at q
      have q : PostS R W ms H D (forLoop it tgt sb it.xs ρ G1) := q
      intro ms1 J H1 st1 g1 wk
      refine ⟨fun i m σ' H' => m = it.xs.length - i ∧ i ≤ it.xs.length ∧ ∃ ms2 ρ2 G2, Step ms1 H1 ms2 H' ∧ RepG R ms2 H' G2 ∧ RepS R ms2 H' ρ2 σ' ∧ PostS R W ms2 H' D (forLoop it tgt sb (it.xs.drop i) ρ2 G2),
        ⟨it.xs.length, by simp, Nat.zero_le _, ms1, ρ, G1, Step.refl ms1 H1, g1, s.step g st1, by rw [List.drop_zero]; exact q.on st1⟩, ?_⟩
      rintro i m σ2 H2 ⟨rfl, hi2, ms2, ρ2, G2, st2, g2, s2, q2⟩
      by_cases hlt : i < it.xs.length
      · right
        rw [List.drop_eq_getElem_cons hlt] at q2
        simp only [forLoop] at q2
        split at q2
        · rename_i hgd
          obtain ⟨go, yl⟩ := wk.go ms2 H2 G2 i _ st2 g2 hgd (List.getElem?_eq_getElem hlt)
          refine ⟨go, fun σ' H' => ∃ ms3 ρ3 G3, Step ms1 H1 ms3 H' ∧ RepG R ms3 H' G3 ∧ RepS R ms3 H' ρ3 σ' ∧ PostS R W ms3 H' D (forLoop it tgt sb (it.xs.drop (i + 1)) ρ3 G3), fun σ' H' n => ⟨it.xs.length - (i + 1), by omega, rfl, hlt, n⟩, fun x H3 hy => ?_⟩
          obtain ⟨ex, rp⟩ := yl x H3 hy
          cases eb : bindTgt tgt it.xs[i] ρ2 with
          | none => rw [eb] at q2; exact q2.elim
          | some ρ3 =>
            rw [eb] at q2
            have st3 := ex.step (ms := ms2)
            refine gOf_ok hK eb (s2.step g2 st3) rp fun σ3 s3 _ _ => ⟨ms2, ρ3, G2, g2.ext ex, s3, ?_⟩
            have q2 : PostS R W ms2 H2 D (match sb ρ3 G2 with
              | .next ρ1 G1 => forLoop it tgt sb (it.xs.drop (i + 1)) ρ1 G1
              | .cont ρ1 G1 => forLoop it tgt sb (it.xs.drop (i + 1)) ρ1 G1
              | .brk ρ1 G1 => .next ρ1 G1
              | r => r) := q2
            cases er : sb ρ3 G2 with
            | next ρ4 G4 =>
              rw [er] at q2
              exact fun ms4 σ4 H4 st4 g4 s4 => ⟨ms4, ρ4, G4, st2.trans (st3.trans st4), g4, s4, q2.on (st3.trans st4)⟩
            | cont ρ4 G4 =>
              rw [er] at q2
              exact fun ms4 σ4 H4 st4 g4 s4 => ⟨ms4, ρ4, G4, st2.trans (st3.trans st4), g4, s4, q2.on (st3.trans st4)⟩
            | brk ρ4 G4 =>
              rw [er] at q2
              exact fun ms4 σ4 H4 st4 g4 s4 => q2 ms4 σ4 H4 (st3.trans st4) g4 s4
            | ret v G4 =>
              rw [er] at q2
              exact fun ms4 x4 H4 st4 g4 r4 => q2 ms4 x4 H4 (st3.trans st4) g4 r4
            | exc ee ρ4 G4 =>
              rw [er] at q2
              exact fun ms4 c d σ4 H4 st4 g4 s4 r4 => q2 ms4 c d σ4 H4 (st3.trans st4) g4 s4 r4
            | stuck => rw [er] at q2; exact q2
        · exact q2.elim
      · left
        have e2 : i = it.xs.length := by omega
        subst e2
        rw [List.drop_length] at q2
        simp only [forLoop] at q2
        split at q2
        · rename_i hgd
          exact ⟨wk.stop ms2 H2 G2 st2 g2 hgd, q2 ms2 σ2 H2 (Step.refl _ _) g2 s2⟩
        · exact q2.elim
end
end Ev

end
section
set_option maxRecDepth 100000
set_option maxHeartbeats 4000000
/-! Ev H: list comprehensions; the def -/
namespace Ev
open PySem PySem.Spec PyProof.Rows L2

/-- nothing is raised here -/
abbrev W0 : WX := fun _ _ _ _ => False
section
variable {R : RC} {W : WX} {X : Cx} {ms ms' : List Addr} {H H' : Hp} {G G' : Store} {ρ : Fr} {σ : L2.St} {elt iter tg : Expr} {ifs : List Expr} {pos : Pos}

theorem wipe_len (σ : L2.St) (vs : List Nat) : (wipe σ vs).length = σ.length := wipe_length σ vs
theorem wipe_get (σ : L2.St) : ∀ (vs : List Nat) (k : Nat), (wipe σ vs)[k]? = if k ∈ vs ∧ k < σ.length then some none else σ[k]?
  | [], k => by simp [wipe]
  | v :: vs, k => by
    unfold wipe
    rw [List.getElem?_set, wipe_get σ vs k, wipe_length]
    by_cases hv : v = k
    · subst hv
      by_cases hl : v < σ.length
      · simp [hl]
      · simp [hl]
    · have : ¬ k = v := fun e => hv e.symm
      simp [hv, this]
theorem wipe_same {σ τ : L2.St} {vs : List Nat} (hl : σ.length = τ.length) (h : ∀ k, k ∉ vs → σ[k]? = τ[k]?) : wipe σ vs = wipe τ vs := by
  apply List.ext_getElem?
  intro k
  rw [wipe_get, wipe_get, hl]
  split
  · rfl
  · rename_i hn
    by_cases hk : k ∈ vs
    · have : ¬ k < τ.length := fun q => hn ⟨hk, q⟩
      rw [List.getElem?_eq_none (by omega), List.getElem?_eq_none (by omega)]
    · exact h k hk
theorem wipe_twice {σ τ : L2.St} {vs : List Nat} (hl : τ.length = (wipe σ vs).length) (h : ∀ k, k ∉ vs → τ[k]? = (wipe σ vs)[k]?) : wipe τ vs = wipe σ vs := by
  rw [wipe_length] at hl
  refine wipe_same hl fun k hk => ?_
  rw [h k hk, wipe_get, if_neg (fun q => hk q.1)]
theorem RepS.wipe (s : RepS R ms H ρ σ) : ∀ vs : List Nat, RepS R ms H (wipeF ρ vs) (wipe σ vs)
  | [] => s
  | v :: vs => by
    have ih := RepS.wipe s vs
    refine ⟨by simp [wipeF, L2.wipe, ih.len], fun i u e => ?_⟩
    simp only [wipeF, L2.wipe] at e ⊢
    by_cases hv : v = i
    · subst hv
      rw [List.getElem?_set] at e
      simp at e
    · rw [List.getElem?_set_ne hv] at e ⊢
      exact ih.at_ i u e
theorem noX_ok {α : Type} {r : Res α} {a : α} {G : Store} (h : noX r = .ok a G) : r = .ok a G := by
  cases r <;> first | exact h | cases h
theorem noX_cases {α : Type} (r : Res α) : (∃ a G, r = .ok a G ∧ noX r = .ok a G) ∨ noX r = .stuck := by
  cases r with
  | ok a G => exact .inl ⟨a, G, rfl, rfl⟩
  | exc e G => exact .inr rfl
  | stuck => exact .inr rfl
theorem PostF.stuck {σ : L2.St} {ms : List Addr} {H : Hp} {Q : VK} (h : PostF R W σ ms H Q .stuck) : False := h

theorem tLc_of {vs : List Nat} {tgt : Tgt} {fi : FI} {ft : FT} {fe : FE} {K : PySem.W.Frag} (hK : K = R.K) (hsl : ∀ k ∈ tgt.slots, k ∈ vs) {σ : L2.St} {H : Hp} {Q : VK} (h : tF R W (cLc fi vs tgt ft fe) σ H Q) :
    tLc (tI R W fi) (gOf K tgt) (tT R W0 ft) (tE R W0 fe) vs σ H Q := by
  obtain ⟨ms, ρ, G, g, s, q⟩ := h
  refine ⟨ms, ρ, G, g, s, ?_⟩
  unfold cLc at q
  cases e1 : fi ρ G with
  | stuck => rw [e1] at q; exact q
  | exc ex G1 => rw [e1] at q; exact q
  | ok it G1 =>
    rw [e1] at q
    have q : PostF R W σ ms H Q ((lcLoop it tgt ft fe G1.length (wipeF ρ vs) it.xs (G1 ++ [.lst []])).bind fun _ G2 => match G2[G1.length]? with
      | some (.lst acc) => if G2.length = G1.length + 1 then .ok acc (G2.take G1.length) else .stuck
      | _ => .stuck) := q
    intro ms1 J H1 st1 g1 wk D hD
    have al := g1.alloc (o := .lst []) (H' := upd H1 D (.lst [])) hD (Ext.new hD) ⟨[], upd_same, RepPs.nil⟩
    have s1 := (s.step g st1).step g1 al.2
    have sw := s1.wipe vs
    have hl1 : ms1.length = G1.length := g1.len
    refine ⟨fun i m H' => m = it.xs.length - i ∧ i ≤ it.xs.length ∧ ∃ ms2 G2, Step (ms1 ++ [D]) (upd H1 D (.lst [])) ms2 H' ∧ RepG R ms2 H' G2 ∧
      PostF R W σ ms H Q ((lcLoop it tgt ft fe G1.length (wipeF ρ vs) (it.xs.drop i) G2).bind fun _ G2 => match G2[G1.length]? with
      | some (.lst acc) => if G2.length = G1.length + 1 then .ok acc (G2.take G1.length) else .stuck
      | _ => .stuck), ⟨it.xs.length, by simp, Nat.zero_le _, ms1 ++ [D], G1 ++ [.lst []], Step.refl _ _, al.1, by rw [List.drop_zero]; exact q⟩, ?_⟩
    rintro i m H2 ⟨rfl, hi2, ms2, G2, st2, g2, q2⟩
    have wk2 := wk.on al.2
    by_cases hlt : i < it.xs.length
    · right
      rw [List.drop_eq_getElem_cons hlt] at q2
      simp only [lcLoop] at q2
      split at q2
      · rename_i hgd
        obtain ⟨go, yl⟩ := wk2.go ms2 H2 G2 i _ st2 g2 hgd (List.getElem?_eq_getElem hlt)
        refine ⟨go, fun H' => ∃ ms3 G3, Step (ms1 ++ [D]) (upd H1 D (.lst [])) ms3 H' ∧ RepG R ms3 H' G3 ∧ PostF R W σ ms H Q ((lcLoop it tgt ft fe G1.length (wipeF ρ vs) (it.xs.drop (i + 1)) G3).bind fun _ G2 => match G2[G1.length]? with
          | some (.lst acc) => if G2.length = G1.length + 1 then .ok acc (G2.take G1.length) else .stuck
          | _ => .stuck), fun H' n => ⟨it.xs.length - (i + 1), by omega, rfl, hlt, n⟩, fun x H3 hy => ?_⟩
        obtain ⟨ex, rp⟩ := yl x H3 hy
        split at q2
        · exact q2.stuck.elim
        · rename_i ρ3 eb
          have st3 := ex.step (ms := ms2)
          have s2 : RepS R ms2 H2 (wipeF ρ vs) (wipe σ vs) := sw.step al.1 st2
          refine gOf_ok hK eb (s2.step g2 st3) rp fun σ3 s3 hk3 hl3 => ⟨wipe_twice hl3 fun k hk => hk3 k fun z => hk (hsl k z), ?_⟩
          refine ⟨ms2, ρ3, G2, g2.ext ex, s3, ?_⟩
          rcases noX_cases (ft ρ3 G2) with ⟨b, G4, e4, e5⟩ | e5
          · rw [e5] at q2
            rw [e4]
            intro ms4 H4 st4 g4
            cases b with
            | false => exact ⟨ms4, G4, st2.trans (st3.trans st4), g4, q2⟩
            | true =>
              rw [if_pos rfl]
              refine ⟨ms4, ρ3, G4, g4, s3.step (g2.ext ex) st4, ?_⟩
              have q3 : PostF R W σ ms H Q (((noX (fe ρ3 G4)).bind fun v G2 => match v, G2[G1.length]? with
                | .pv p, some (.lst acc) => if acc.length < sizeLine then lcLoop it tgt ft fe G1.length (wipeF ρ vs) (it.xs.drop (i + 1)) (G2.set G1.length (.lst (acc ++ [p]))) else .stuck
                | _, _ => .stuck).bind fun _ G2 => match G2[G1.length]? with
                | some (.lst acc) => if G2.length = G1.length + 1 then .ok acc (G2.take G1.length) else .stuck
                | _ => .stuck) := q2
              rcases noX_cases (fe ρ3 G4) with ⟨v, G5, e6, e7⟩ | e7
              · rw [e7] at q3
                rw [e6]
                intro ms5 y H5 st5 g5 r5
                have q4 : PostF R W σ ms H Q ((match v, G5[G1.length]? with
                  | .pv p, some (.lst acc) => if acc.length < sizeLine then lcLoop it tgt ft fe G1.length (wipeF ρ vs) (it.xs.drop (i + 1)) (G5.set G1.length (.lst (acc ++ [p]))) else .stuck
                  | _, _ => (.stuck : Res Unit)).bind fun _ G2 => match G2[G1.length]? with
                  | some (.lst acc) => if G2.length = G1.length + 1 then .ok acc (G2.take G1.length) else .stuck
                  | _ => .stuck) := q3
                have stA := st2.trans (st3.trans (st4.trans st5))
                have hD5 : ms5[G1.length]? = some D := stA.get (by rw [← hl1]; simp)
                split at q4
                · rename_i p acc eA
                  split at q4
                  · rename_i hsz
                    obtain ⟨ys, h1, h2⟩ := g5.ob G1.length _ D eA hD5
                    have hly : ys.length = acc.length := h2.length.symm
                    have wr := g5.write (u := .lst (ys ++ [y])) (o := .lst (acc ++ [p])) hD5 rfl ⟨ys ++ [y], upd_same, by
                      have stw : Step ms5 H5 ms5 (upd H5 D (.lst (ys ++ [y]))) := ⟨⟨[], by simp, by simp⟩, fun b v e n _ => by rw [upd_ne (fun q => n (by rw [q]; exact List.mem_of_getElem? hD5))]; exact e, fun b o e t => by
                        by_cases q : b = D
                        · subst q; exact ⟨_, upd_same, fun ps z => nomatch z⟩
                        · exact ⟨o, by rw [upd_ne q]; exact e, t⟩⟩
                      exact RepPs.append (RepPs.step stw g5.own _ _ h2) (RepPs.cons (RepP.step stw g5.own p y r5) RepPs.nil)⟩
                    exact ⟨ys, h1, by rw [hly]; exact hsz, ms5, _, stA.trans wr.2, wr.1, q4⟩
                  · exact q4.stuck.elim
                · exact q4.stuck.elim
              · rw [e7] at q3; exact q3.stuck.elim
          · rw [e5] at q2; exact q2.stuck.elim
      · exact q2.stuck.elim
    · left
      have e2 : i = it.xs.length := by omega
      subst e2
      rw [List.drop_length] at q2
      simp only [lcLoop] at q2
      split at q2
      · rename_i hgd
        refine ⟨wk2.stop ms2 H2 G2 st2 g2 hgd, ?_⟩
        have q3 : PostF R W σ ms H Q (match G2[G1.length]? with
          | some (.lst acc) => if G2.length = G1.length + 1 then .ok acc (G2.take G1.length) else .stuck
          | _ => .stuck) := q2
        split at q3
        · rename_i acc eA
          split at q3
          · rename_i hsz
            have hl2 : ms2 = ms1 ++ [D] := by
              obtain ⟨new, e, _⟩ := st2.grow
              have h1 := g2.len
              have : new = [] := by
                have := congrArg List.length e
                simp at this
                cases new with
                | nil => rfl
                | cons _ _ => simp at this; omega
              rw [e, this, List.append_nil]
            subst hl2
            have hG : G2.take G1.length ++ [.lst acc] = G2 := by
              apply List.ext_getElem?
              intro k
              by_cases hk : k < G1.length
              · rw [List.getElem?_append_left (by rw [List.length_take]; omega), List.getElem?_take_of_lt hk]
              · rw [List.getElem?_append_right (by rw [List.length_take]; omega), List.length_take]
                by_cases hk2 : k = G1.length
                · subst hk2
                  rw [eA]
                  have : G1.length - min G1.length G2.length = 0 := by omega
                  rw [this]; rfl
                · rw [List.getElem?_eq_none (l := G2) (by omega), List.getElem?_eq_none (by simp; omega)]
            refine q3 ms1 D H2 (st1.trans (al.2.trans st2)) (by rw [hG]; exact g2) st1.len
          · exact q3.stuck.elim
        · exact q3.stuck.elim
      · exact q2.stuck.elim
theorem sf_lc {own : List (Str × Nat)} {scope : Scope} {tgt : Tgt} {fi : FI} {ft : FT} {fe : FE} (hK : X.K = R.K) (hc : X.calm = true) (hN : X.N.Nodup) (hi : PI X tg iter (tI R W fi)) (ok : BlkOk X.N X.env.scope scope own) (hsl : ∀ k ∈ tgt.slots, k ∈ own.map (·.2))
    (hg : ∀ (s : Shared) (H : Hp) (C : Addr) (cl : List (Str × Addr)) (fp : List Addr), PG (X.blk s H scope (compEnvC scope cl C X.env) fp) tg (gOf X.K tgt))
    (ht : ∀ (s : Shared) (H : Hp) (C : Addr) (cl : List (Str × Addr)) (fp : List Addr), PTs (X.blk s H scope (compEnvC scope cl C X.env) fp) ifs (tT R W0 ft))
    (he : ∀ (s : Shared) (H : Hp) (C : Addr) (cl : List (Str × Addr)) (fp : List Addr), PE (X.blk s H scope (compEnvC scope cl C X.env) fp) elt (tE R W0 fe))
    (hs : ∀ x, foldedSetIterable iter X.env x = pure x) : PE X (.ListComp elt [⟨tg, iter, ifs, 0⟩] scope pos) (tF R W (cLc fi (own.map (·.2)) tgt ft fe)) :=
  PE.to (pe_lc hc hN hi ok hg ht he hs) fun σ H Q h => tLc_of hK hsl h
/-- y = [..] on one line, y a local -/
theorem ss_setLc {i : Nat} {y : Str} {py spos : Pos} {own : List (Str × Nat)} {scope : Scope} {tgt : Tgt} {fi : FI} {ft : FT} {fe : FE} (hK : X.K = R.K) (hc : X.calm = true) (hN : X.N.Nodup) (hy : X.N[i]? = some y) (hyl : X.env.scope.names.lookup y = some .local)
    (hsw : swapsWith (.ListComp elt [⟨tg, iter, ifs, 0⟩] scope pos) (some (.Name y py)) spos.line X.env = pure true)
    (hi : PI X tg iter (tI R W fi)) (ok : BlkOk X.N X.env.scope scope own) (hsl : ∀ k ∈ tgt.slots, k ∈ own.map (·.2))
    (hg : ∀ (s : Shared) (H : Hp) (C : Addr) (cl : List (Str × Addr)) (fp : List Addr), PG (X.blk s H scope (compEnvC scope cl C X.env) fp) tg (gOf X.K tgt))
    (ht : ∀ (s : Shared) (H : Hp) (C : Addr) (cl : List (Str × Addr)) (fp : List Addr), PTs (X.blk s H scope (compEnvC scope cl C X.env) fp) ifs (tT R W0 ft))
    (he : ∀ (s : Shared) (H : Hp) (C : Addr) (cl : List (Str × Addr)) (fp : List Addr), PE (X.blk s H scope (compEnvC scope cl C X.env) fp) elt (tE R W0 fe))
    (hs : ∀ x, foldedSetIterable iter X.env x = pure x) : PS X (.Assign [.Name y py] (.ListComp elt [⟨tg, iter, ifs, 0⟩] scope pos) spos) (tS R W (sSet i (cFrz (cLc fi (own.map (·.2)) tgt ft fe)))) :=
  PS.to (ps_setLc hc hN hy hyl hsw hi ok hg ht he hs) fun D σ H ⟨ms, ρ, G, g, s, q⟩ => by
    have : tE R W (cFrz (cLc fi (own.map (·.2)) tgt ft fe)) σ H (fun x H1 => gName i x σ H1 D.nx) := tE_stmt g s (k := fun v G1 => .next (ρ.set i (some v)) G1) q fun v G1 e1 q1 ms1 x H1 st1 g1 s1 r1 => q1 ms1 _ H1 st1 g1 (s1.set r1)
    obtain ⟨ms', ρ', G', g', s', q'⟩ := this
    refine tLc_of hK hsl ⟨ms', ρ', G', g', s', ?_⟩
    unfold cFrz at q'
    cases e1 : cLc fi (own.map (·.2)) tgt ft fe ρ' G' with
    | exc e G1 => rw [e1] at q'; exact q'
    | stuck => rw [e1] at q'; exact q'
    | ok ps G1 =>
      rw [e1] at q'
      intro ms2 p H2 st g2 hl
      obtain ⟨g3, r, np, _⟩ := g2.cutLast
      exact q' ms2 (.ref p) H2 (st.cut hl) g3 r
theorem ss_setLcBox {i : Nat} {y : Str} {py spos : Pos} {own : List (Str × Nat)} {scope : Scope} {tgt : Tgt} {fi : FI} {ft : FT} {fe : FE} (hK : X.K = R.K) (hc : X.calm = true) (hN : X.N.Nodup) (hy : X.N[i]? = some y) (hyl : X.env.scope.names.lookup y = some .local)
    (hsw : swapsWith (.ListComp elt [⟨tg, iter, ifs, 0⟩] scope pos) (some (.Name y py)) spos.line X.env = pure true)
    (hi : PI X tg iter (tI R W fi)) (ok : BlkOk X.N X.env.scope scope own) (hsl : ∀ k ∈ tgt.slots, k ∈ own.map (·.2))
    (hg : ∀ (s : Shared) (H : Hp) (C : Addr) (cl : List (Str × Addr)) (fp : List Addr), PG (X.blk s H scope (compEnvC scope cl C X.env) fp) tg (gOf X.K tgt))
    (ht : ∀ (s : Shared) (H : Hp) (C : Addr) (cl : List (Str × Addr)) (fp : List Addr), PTs (X.blk s H scope (compEnvC scope cl C X.env) fp) ifs (tT R W0 ft))
    (he : ∀ (s : Shared) (H : Hp) (C : Addr) (cl : List (Str × Addr)) (fp : List Addr), PE (X.blk s H scope (compEnvC scope cl C X.env) fp) elt (tE R W0 fe))
    (hs : ∀ x, foldedSetIterable iter X.env x = pure x) : PS X (.Assign [.Name y py] (.ListComp elt [⟨tg, iter, ifs, 0⟩] scope pos) spos) (tS R W (sSetBox i (cLc fi (own.map (·.2)) tgt ft fe))) :=
  PS.to (ps_setLc hc hN hy hyl hsw hi ok hg ht he hs) fun D σ H ⟨ms, ρ, G, g, s, q⟩ =>
    tLc_of hK hsl (tF_stmt g s (k := fun ps G1 => .next (ρ.set i (some (.box G1.length))) (G1 ++ [.lst ps])) q fun ps G1 e1 q1 ms1 p H1 st1 g1 s1 l =>
      q1 (ms1 ++ [p]) _ H1 st1 g1 (s1.set (rep_box g1)))

/-! ### the def -/
theorem RepVs.start {vs : List Val} {xs : List V} {N : List Str} (r : RepVs R ms H vs xs) : RepS R ms H (startF N vs) (start N xs) := by
  have hl := r.length
  have key : ∀ {vs : List Val} {xs : List V} (_ : RepVs R ms H vs xs) (i : Nat) (v : Val), vs[i]? = some v → ∃ x, xs[i]? = some x ∧ RepV R ms H v x := by
    intro vs xs r
    induction r with
    | nil => intro i v e; simp at e
    | cons h t ih =>
      intro i v e
      cases i with
      | zero => simp at e; subst e; exact ⟨_, rfl, h⟩
      | succ i => simp at e; obtain ⟨x, e2, r2⟩ := ih i v e; exact ⟨x, by simpa using e2, r2⟩
  refine ⟨by unfold startF L2.start; simp [hl], fun i v e => ?_⟩
  unfold startF at e
  by_cases hi : i < vs.length
  · rw [List.getElem?_append_left (by simpa using hi), List.getElem?_map] at e
    cases e1 : vs[i]? with
    | none => rw [e1] at e; cases e
    | some u =>
      rw [e1] at e
      cases e
      obtain ⟨x, e2, r2⟩ := key r i v e1
      refine ⟨x, ?_, r2⟩
      unfold L2.start
      rw [List.getElem?_append_left (by simpa using (by omega : i < xs.length)), List.getElem?_map, e2]; rfl
  · rw [List.getElem?_append_right (by simpa using hi), List.getElem?_replicate] at e
    split at e <;> cases e
/-- a def keeps its evaluator's promise -/
theorem fn_ok {P : Program} {w : World} {mg : Str → Option Value} {base : Heap} {x qual : Str} {params : Arguments} {body : List Stmt} {scope : Scope} {dvs : List V} {kws : List (Str × V)} {f : Addr} {fd : FuncData} {N ps : List Str} {k : Nat} {keep : Bool} {fb : FS}
    (F : FunD R.K x qual params body scope dvs kws f fd) (S : FnScope N ps scope)
    (hbody : ∀ (cdv : Value) (A : Around) (outer : List Env) (s : Shared) (H : Hp) (E : XK), CodeAt R.K f cdv → Room k (A.deeper (envOfC qual scope s.heap.objs.size f cdv)) → A.guards = some [] →
      PSs (cxOf (L2.CX P w) P w R.K mg base N qual scope f cdv A outer s H E) body (tS R (fun cls d _ H => E cls d H) fb)) :
    FnG P w R.K mg base (L2.CX P w) (k + 1) f fd ps (spOf R ps.length (fnSem keep N fb)) := by
  refine FnG.ofD F S (fun h => h.1) fun cdv hcd A outer s H vs Q E hgd hr h => ⟨_, hbody cdv A outer s H E hcd hr hgd, ?_⟩
  obtain ⟨hlen, ms, G, args, g, r, q⟩ := h
  refine ⟨ms, startF N args, G, g, r.start, ?_⟩
  unfold fnSem at q
  have cut : ∀ {ms' : List Addr} {H' : Hp} {G' : Store}, Step ms H ms' H' → RepG R ms' H' G' → ms'.take G.length = ms ∧ RepG R ms H' (G'.take G.length) ∧ Step ms H ms H' := fun {ms' H' G'} st g' => by
    obtain ⟨new, e, _⟩ := st.grow
    have e2 : ms'.take G.length = ms := by rw [e, ← g.len, List.take_append_of_le_length (Nat.le_refl _), List.take_length]
    refine ⟨e2, by have := g'.cut G.length; rw [e2] at this; exact this, ⟨⟨[], by simp, by simp⟩, st.keep, st.trk⟩⟩
  cases e1 : fb (startF N args) G with
  | next ρ' G' =>
    rw [e1] at q
    intro ms' σ' H' st g' s'
    obtain ⟨_, g2, st2⟩ := cut st g'
    exact q ms .non H' st2 g2 rfl
  | brk ρ' G' => rw [e1] at q; exact q.elim
  | cont ρ' G' => rw [e1] at q; exact q.elim
  | stuck => rw [e1] at q; exact q
  | exc e ρ' G' =>
    rw [e1] at q
    intro ms' c d σ' H' st g' s' rx
    obtain ⟨e2, g2, st2⟩ := cut st g'
    refine q ms c d H' st2 g2 ?_
    obtain ⟨C, h1, h2, h3⟩ := rx
    refine ⟨C, h1, h2, h3.imp id ?_⟩
    rintro ⟨da, fs, f1, f2, f3, f4, f5⟩
    have hsub : ∀ a ∈ ms, a ∈ ms' := fun a ha => by rw [← e2] at ha; exact List.mem_of_mem_take ha
    exact ⟨da, fs, f1, f2, fun z => f3 (hsub _ z), f4, RepPs.less hsub _ _ f5⟩
  | ret v G' =>
    rw [e1] at q
    intro ms' y H' st g' rv
    obtain ⟨e2, g2, st2⟩ := cut st g'
    have hsub : ∀ a ∈ ms, a ∈ ms' := fun a ha => by rw [← e2] at ha; exact List.mem_of_mem_take ha
    have q : PostC R ms H Q E (leave keep G.length v G') := q
    cases v with
    | pv p => exact q ms y H' st2 g2 (RepP.less hsub p y rv)
    | box j =>
      obtain ⟨a, ha, rfl⟩ := rv
      unfold leave at q
      dsimp only at q
      by_cases hj : j < G.length
      · rw [if_pos hj] at q
        refine q ms (.ref a) H' st2 g2 ⟨a, ?_, rfl⟩
        rw [← e2, List.getElem?_take_of_lt hj]; exact ha
      · rw [if_neg hj] at q
        cases eo : G'[j]? with
        | none => rw [eo] at q; exact q.elim
        | some o =>
          rw [eo] at q
          dsimp only at q
          have ro := g'.ob j o a eo ha
          have na : a ∉ ms := fun hm => by
            obtain ⟨i, hi, ei⟩ := List.getElem_of_mem hm
            have hml : ms.length = G.length := g.len
            obtain ⟨new, en, _⟩ := st.grow
            have h1 : ms'[i]? = some a := by rw [en, List.getElem?_append_left hi, List.getElem?_eq_getElem hi, ei]
            obtain ⟨z1, z2⟩ := List.getElem?_eq_some_iff.mp h1
            obtain ⟨z3, z4⟩ := List.getElem?_eq_some_iff.mp ha
            have := (List.getElem_inj g'.nd).mp (z2.trans z4.symm)
            omega
          cases keep with
          | true =>
            simp only [if_true] at q
            have hHa : ∀ o, H a = some o → ∃ ps, o = .tbl ps := by
              obtain ⟨new, en, hn⟩ := st.grow
              have : a ∈ ms' := List.mem_of_getElem? ha
              rw [en] at this
              rcases List.mem_append.mp this with z | z
              · exact absurd z na
              · exact hn a z
            have hml : ms.length = G.length := g.len
            refine q (ms ++ [a]) (.ref a) H' ⟨⟨[a], rfl, fun p hp o ho => by rw [List.mem_singleton.mp hp] at ho; exact hHa o ho⟩, st.keep, st.trk⟩ ⟨g2.tb, by simp [g2.len], ?_, fun i o2 b h1 h2 => ?_⟩ ⟨a, by rw [← hml]; simp, rfl⟩
            · exact List.nodup_append.mpr ⟨g.nd, by simp, fun b hb c hc => by
                have := List.mem_singleton.mp hc
                subst this
                exact fun z => na (z ▸ hb)⟩
            · have hsub2 : ∀ b ∈ ms ++ [a], b ∈ ms' := fun b hb => (List.mem_append.mp hb).elim (hsub b) fun z => by rw [List.mem_singleton.mp z]; exact List.mem_of_getElem? ha
              have hgl := g2.len
              by_cases hi : i < ms.length
              · rw [List.getElem?_append_left (by omega)] at h1
                rw [List.getElem?_append_left hi] at h2
                have h1' : G'[i]? = some o2 := by rw [List.getElem?_take] at h1; split at h1 <;> first | exact h1 | cases h1
                refine (g'.ob i o2 b h1' ?_).less hsub2
                obtain ⟨new, en, _⟩ := st.grow
                rw [en, List.getElem?_append_left hi]; exact h2
              · rw [List.getElem?_append_right (by omega)] at h1 h2
                have h0 : i - ms.length = 0 := by
                  cases z : i - ms.length with
                  | zero => rfl
                  | succ n => rw [z] at h2; simp at h2
                rw [h0] at h2
                have h0' : i - (G'.take G.length).length = 0 := by omega
                rw [h0'] at h1
                simp at h1 h2
                subst h1 h2
                exact ro.less hsub2
          | false =>
            simp only [Bool.false_eq_true, if_false] at q
            refine q ms (.ref a) H' st2 g2 ?_
            cases o with
            | lst ps =>
              obtain ⟨xs, h1, h2⟩ := ro
              show RepP R ms H' (.lst ps) (.ref a)
              simp only [RepP]
              exact ⟨a, xs, rfl, ⟨h1, na⟩, RepPs.less hsub _ _ h2⟩
            | dct ks vs =>
              obtain ⟨kx, ys, hl, d, h1, h2⟩ := ro
              show RepP R ms H' (.dct ks vs) (.ref a)
              simp only [RepP]
              exact ⟨a, kx, ys, rfl, na, hl, d, RepPs.less hsub _ _ h1, RepPs.less hsub _ _ h2⟩
            | ins c ns ps =>
              obtain ⟨C, dx, fs, hc, h1, h2, h3, h4⟩ := ro
              show RepP R ms H' (.ins c ns ps) (.ref a)
              simp only [RepP]
              exact ⟨a, C, dx, fs, rfl, hc, h1, na, h2, h3, RepPs.less hsub _ _ h4⟩
end
end Ev

end
section
set_option maxRecDepth 100000
set_option maxHeartbeats 4000000
/-! Ev I: operators and comparisons on pure values -/
namespace Ev
open PySem PySem.Spec PyProof.Rows L2

def pyAdd : PV → PV → Option PV
  | .int i, .int j => some (.int (i + j))
  | .str a, .str b => if a.length + b.length ≤ sizeLine then some (.str (a ++ b)) else none
  | .tup a, .tup b => if a.length + b.length ≤ sizeLine then some (.tup (a ++ b)) else none
  | .lst a, .lst b => if a.length + b.length ≤ sizeLine then some (.lst (a ++ b)) else none
  | _, _ => none
def pyAddL : PV → PV → Option (List PV)
  | .lst a, .lst b => if a.length + b.length ≤ sizeLine then some (a ++ b) else none
  | _, _ => none
def pySub : PV → PV → Option PV
  | .int i, .int j => some (.int (i - j))
  | _, _ => none
def pyMul : PV → PV → Option PV
  | .int i, .int j => if i.natAbs.log2 + j.natAbs.log2 < 1000000 then some (.int (i * j)) else none
  | .lst a, .int k => if -(2 ^ 63) ≤ k ∧ k < 2 ^ 63 ∧ a.length * k.toNat ≤ sizeLine then some (.lst (List.replicate k.toNat a).flatten) else none
  | _, _ => none
def pyMulL : PV → PV → Option (List PV)
  | .lst a, .int k => if -(2 ^ 63) ≤ k ∧ k < 2 ^ 63 ∧ a.length * k.toNat ≤ sizeLine then some (List.replicate k.toNat a).flatten else none
  | _, _ => none
def pyMod : PV → PV → Option PV
  | .int i, .int j => if 0 < j then some (.int (i % j)) else none
  | _, _ => none
def pyFDiv : PV → PV → Option PV
  | .int i, .int j => if 0 < j ∧ j.natAbs.log2 < 9000 then some (.int (i / j)) else none
  | _, _ => none
def pyPow : PV → PV → Option PV
  | .int i, .int j => if 0 ≤ j ∧ (Builtin.Int.intBits i : Int) * j ≤ 2 ^ 27 then some (.int (i ^ j.toNat)) else none
  | _, _ => none
def pyShl : PV → PV → Option PV
  | .int i, .int j => if 0 ≤ j ∧ j ≤ 1000000 ∧ i.natAbs < 2 ^ 64 then some (.int (i * 2 ^ j.toNat)) else none
  | _, _ => none
def pyShr : PV → PV → Option PV
  | .int i, .int j => if 0 ≤ j then some (.int (i / 2 ^ j.toNat)) else none
  | _, _ => none
def pyAnd : PV → PV → Option PV
  | .int i, .int j => some (.int (Builtin.bitAnd i j))
  | _, _ => none
def pyOr : PV → PV → Option PV
  | .int i, .int j => some (.int (Builtin.bitOr i j))
  | _, _ => none
def pyNeg : PV → Option PV
  | .int i => some (.int (-i))
  | _ => none
def bTrue (o : Option Bool) : Option PV := o.map .bl
/-- ints by a Bool test -/
def pyCmpI (f : Int → Int → Bool) : PV → PV → Option Bool
  | .int i, .int j => some (f i j)
  | _, _ => none
def strLt (a b : Str) : Bool := decide (a.cps.toList < b.cps.toList)
def pyLtB : PV → PV → Option Bool
  | .int i, .int j => some (decide (i < j))
  | .str a, .str b => some (strLt a b)
  | a, b => pyLt a b
def pyLeB : PV → PV → Option Bool
  | .int i, .int j => some (decide (i ≤ j))
  | .str a, .str b => some (!strLt b a)
  | _, _ => none
def pyGtB : PV → PV → Option Bool
  | .int i, .int j => some (decide (j < i))
  | .str a, .str b => some (strLt b a)
  | _, _ => none
def pyGeB : PV → PV → Option Bool
  | .int i, .int j => some (decide (j ≤ i))
  | .str a, .str b => some (!strLt a b)
  | _, _ => none
/-- x in c -/
def pyIn (x c : PV) : Option Bool := match c with
  | .str z => (match x with
    | .str y => some (!(Builtin.Str.occurrences z y 0 z.length 1).isEmpty)
    | _ => none)
  | .lst ys => (match x.data, PV.datas ys with
    | some d, some ds => if okD d && okD (.list ds) then some (ds.any fun z => PyData.eqv z d) else none
    | _, _ => none)
  | .tup ys => (match x.data, PV.datas ys with
    | some d, some ds => if okD d && okD (.tuple ds) then some (ds.any fun z => PyData.eqv z d) else none
    | _, _ => none)
  | _ => none
def pyIs (a b : PV) : Option Bool := match b with
  | .non => some (decide (a = .non))
  | .bl c => (match a with
    | .bl d => some (decide (d = c))
    | _ => none)
  | _ => none
def pyItem (a i : PV) : Option PV := match i with
  | .int k => (match a with
    | .lst xs => atI xs k
    | .tup xs => atI xs k
    | .scr xs => atI xs k
    | .str z => if z.length ≤ sizeLine then (atI z.cps.toList k).map fun c => .str ⟨#[c]⟩ else none
    | _ => none)
  | _ => none

section
variable {R : RC} {W : WX} {X : Cx} {ms ms' : List Addr} {H H' : Hp} {G G' : Store} {ρ : Fr} {σ : L2.St}

/-! ### reading pure values -/
theorem rd_int {i : Int} {x : V} (h : RD R ms H (.int i) x) : x = .int i := h
theorem rd_str {s : Str} {x : V} (h : RD R ms H (.str s) x) : x = .str s := h
theorem rd_bl {s : Bool} {x : V} (h : RD R ms H (.bl s) x) : x = .bl s := h
theorem rd_non {x : V} (h : RD R ms H .non x) : x = .non := h
theorem rd_tup {ps : List PV} {x : V} (h : RD R ms H (.tup ps) x) : ∃ a xs, x = .ref a ∧ TupAt R.K ms H a xs ∧ RepPs R ms H ps xs := by
  have h : RepP R ms H (.tup ps) x := h
  simpa only [RepP] using h
theorem rd_scr {ps : List PV} {x : V} (h : RD R ms H (.scr ps) x) : ∃ a xs, x = .ref a ∧ ScrAt R.K ms H a xs ∧ RepPs R ms H ps xs := by
  have h : RepP R ms H (.scr ps) x := h
  simpa only [RepP] using h
theorem rd_lst {ps : List PV} {x : V} (h : RD R ms H (.lst ps) x) : ∃ a xs, x = .ref a ∧ H a = some (.lst xs) ∧ RepPs R ms H ps xs := h
mutual
/-- a pure value as the layer's data -/
theorem RepP.dp {K : PySem.W.Frag} (hK : K = R.K) : ∀ (p : PV) (d : PyData) (x : V), p.data = some d → RepP R ms H p x → Dp K H x d
  | .non, d, x, e, r => by simp only [PV.data] at e; simp only [RepP] at r; cases e; rw [r]; exact .non
  | .bl b, d, x, e, r => by simp only [PV.data] at e; simp only [RepP] at r; cases e; rw [r]; exact .bl b
  | .int b, d, x, e, r => by simp only [PV.data] at e; simp only [RepP] at r; cases e; rw [r]; exact .int b
  | .str b, d, x, e, r => by simp only [PV.data] at e; simp only [RepP] at r; cases e; rw [r]; exact .str b
  | .tup ps, d, x, e, r => by
    simp only [PV.data] at e
    simp only [RepP] at r
    obtain ⟨ds, e1, rfl⟩ := Option.map_eq_some_iff.mp e
    obtain ⟨a, xs, rfl, h1, h2⟩ := r
    exact .tup (by rw [hK]; exact h1.sq) (RepPs.dp hK ps ds xs e1 h2)
  | .lst ps, d, x, e, r => by
    simp only [PV.data] at e
    simp only [RepP] at r
    obtain ⟨ds, e1, rfl⟩ := Option.map_eq_some_iff.mp e
    obtain ⟨a, xs, rfl, h1, h2⟩ := r
    exact .lst h1.sq (RepPs.dp hK ps ds xs e1 h2)
  | .scr _, d, x, e, r => by simp [PV.data] at e
  | .dct _ _, d, x, e, r => by simp [PV.data] at e
  | .st _, d, x, e, r => by simp [PV.data] at e
  | .ins _ _ _, d, x, e, r => by simp [PV.data] at e
  | .exc _ _ _, d, x, e, r => by simp [PV.data] at e
  | .ty _, d, x, e, r => by simp [PV.data] at e
  | .cls _, d, x, e, r => by simp [PV.data] at e
  | .fn _, d, x, e, r => by simp [PV.data] at e
theorem RepPs.dp {K : PySem.W.Frag} (hK : K = R.K) : ∀ (ps : List PV) (ds : List PyData) (xs : List V), PV.datas ps = some ds → RepPs R ms H ps xs → DpAll K H xs ds
  | [], ds, xs, e, r => by simp only [PV.datas] at e; simp only [RepPs] at r; cases e; rw [r]; exact .nil
  | p :: ps, ds, xs, e, r => by
    simp only [PV.datas] at e
    simp only [RepPs] at r
    obtain ⟨x, rr, rfl, h1, h2⟩ := r
    cases e1 : p.data with
    | none => rw [e1] at e; cases e
    | some d =>
      cases e2 : PV.datas ps with
      | none => rw [e1, e2] at e; cases e
      | some ds' =>
        rw [e1, e2] at e
        cases e
        exact .cons (RepP.dp hK p d x e1 h1) (RepPs.dp hK ps ds' rr e2 h2)
end
theorem RD.dp {K : PySem.W.Frag} (hK : K = R.K) {p : PV} {d : PyData} {x : V} (e : p.data = some d) (r : RD R ms H p x) : Dp K H x d := by
  cases p with
  | lst ps =>
    simp only [PV.data] at e
    obtain ⟨ds, e1, rfl⟩ := Option.map_eq_some_iff.mp e
    obtain ⟨a, xs, rfl, h1, h2⟩ := r
    exact .lst (SqL.of h1) (RepPs.dp hK ps ds xs e1 h2)
  | ins _ _ _ => simp [PV.data] at e
  | dct _ _ => simp [PV.data] at e
  | _ => exact RepP.dp (ms := ms) hK _ d x e r

theorem rd_isnon {p : PV} {x : V} (h : RD R ms H p x) : x = .non ↔ p = .non := by
  constructor
  · rintro rfl
    cases p with
    | non => rfl
    | bl _ => cases h
    | int _ => cases h
    | str _ => cases h
    | tup _ => obtain ⟨a, b, c, _⟩ := rd_tup h; cases c
    | lst _ => obtain ⟨a, b, c, _⟩ := rd_lst h; cases c
    | scr _ => obtain ⟨a, b, c, _⟩ := rd_scr h; cases c
    | ins _ _ _ => obtain ⟨a, C, dx, fs, z, _⟩ := h; cases z
    | dct a b => obtain ⟨_, _, _, e, _⟩ := h; cases e
    | st a => have h : RepP R ms H (.st a) .non := h; simp only [RepP] at h
    | exc a b c => have h : RepP R ms H (.exc a b c) .non := h; simp only [RepP] at h
    | ty _ => cases h
    | cls c => have h : RepP R ms H (.cls c) .non := h; simp only [RepP] at h; obtain ⟨a, _, z⟩ := h; cases z
    | fn a => have h : RepP R ms H (.fn a) .non := h; simp only [RepP] at h
  · rintro rfl
    exact rd_non h

/-! ### ints -/
theorem op2_int {f : Value → Value → Sem Value} {r : R2} {op : PV → PV → Option PV} (h : OpR X f r) (hr : ∀ x y H Q, rB R op x y H Q → r x y H Q) : OpR X f (rB R op) :=
  fun pins s σ H x y v u Q I rx ry q => h pins s σ H x y v u Q I rx ry (hr x y H Q q)
theorem so_sub : OpR X (binaryOp .Sub) (rB R pySub) := op2_int op_sub fun x y H Q ⟨ms, p, q, r, h1, h2, t, e, k⟩ => by
  unfold pySub at e
  split at e
  · cases e
    cases h1; cases h2
    exact ⟨_, _, rfl, rfl, k _ H (Ext.refl H) (by simp only [RepP])⟩
  · cases e
theorem so_mod : OpR X (binaryOp .Mod) (rB R pyMod) := op2_int op_mod fun x y H Q ⟨ms, p, q, r, h1, h2, t, e, k⟩ => by
  unfold pyMod at e
  split at e
  · split at e
    · cases e
      cases h1; cases h2
      exact ⟨_, _, rfl, rfl, by assumption, k _ H (Ext.refl H) (by simp only [RepP])⟩
    · cases e
  · cases e
theorem so_fdiv : OpR X (binaryOp .FloorDiv) (rB R pyFDiv) := op2_int op_fdivW fun x y H Q ⟨ms, p, q, r, h1, h2, t, e, k⟩ => by
  unfold pyFDiv at e
  split at e
  · split at e
    · cases e
      cases h1; cases h2
      exact ⟨_, _, rfl, rfl, by assumption, k _ H (Ext.refl H) (by simp only [RepP])⟩
    · cases e
  · cases e
theorem so_pow : OpR X (binaryOp .Pow) (rB R pyPow) := by
  intro pins s σ H x y v u Q I rx ry ⟨ms, p, q, r, h1, h2, t, e, k⟩
  unfold pyPow at e
  split at e
  · split at e
    · rename_i hc
      cases e
      cases h1; cases h2
      obtain ⟨t1, rfl⟩ := rx
      obtain ⟨t2, rfl⟩ := ry
      exact pow_int hc.1 hc.2 ⟨.int _, H, I.tok _, ⟨_, rfl⟩, k _ H (Ext.refl H) (by simp only [RepP])⟩
    · cases e
  · cases e
theorem so_shl : OpR X (binaryOp .LShift) (rB R pyShl) := op2_int op_shl fun x y H Q ⟨ms, p, q, r, h1, h2, t, e, k⟩ => by
  unfold pyShl at e
  split at e
  · split at e
    · cases e
      cases h1; cases h2
      exact ⟨_, _, rfl, rfl, by assumption, k _ H (Ext.refl H) (by simp only [RepP])⟩
    · cases e
  · cases e
theorem so_shr : OpR X (binaryOp .RShift) (rB R pyShr) := op2_int op_shr fun x y H Q ⟨ms, p, q, r, h1, h2, t, e, k⟩ => by
  unfold pyShr at e
  split at e
  · split at e
    · cases e
      cases h1; cases h2
      exact ⟨_, _, rfl, rfl, by assumption, k _ H (Ext.refl H) (by simp only [RepP])⟩
    · cases e
  · cases e
theorem so_and : OpR X (binaryOp .BitAnd) (rB R pyAnd) := op2_int op_and fun x y H Q ⟨ms, p, q, r, h1, h2, t, e, k⟩ => by
  unfold pyAnd at e
  split at e
  · cases e
    cases h1; cases h2
    exact ⟨_, _, rfl, rfl, k _ H (Ext.refl H) (by simp only [RepP])⟩
  · cases e
theorem so_or : OpR X (binaryOp .BitOr) (rB R pyOr) := op2_int op_or fun x y H Q ⟨ms, p, q, r, h1, h2, t, e, k⟩ => by
  unfold pyOr at e
  split at e
  · cases e
    cases h1; cases h2
    exact ⟨_, _, rfl, rfl, k _ H (Ext.refl H) (by simp only [RepP])⟩
  · cases e
theorem RepPs.flat {n : Nat} {ps : List PV} {xs : List V} (h : RepPs R ms H ps xs) : RepPs R ms H (List.replicate n ps).flatten (List.replicate n xs).flatten := by
  induction n with
  | zero => simp [RepPs.nil]
  | succ n ih => simp only [List.replicate_succ, List.flatten_cons]; exact h.append ih
theorem so_mul : OpR X (binaryOp .Mult) (rB R pyMul) := by
  intro pins s σ H x y v u Q I rx ry ⟨ms, p, q, r, h1, h2, t, e, k⟩
  unfold pyMul at e
  split at e
  · split at e
    · rename_i hc
      cases e
      cases h1; cases h2
      exact op_mulW pins s σ H _ _ v u Q I rx ry ⟨_, _, rfl, rfl, hc, k _ H (Ext.refl H) (by simp only [RepP])⟩
    · cases e
  · split at e
    · rename_i hc
      cases e
      obtain ⟨a, xs, rfl, h3, h4⟩ := rd_lst h1
      cases h2
      exact op_rep pins s σ H _ _ v u Q I rx ry ⟨a, _, xs, rfl, rfl, h3, hc.1, hc.2.1, by rw [← h4.length]; exact hc.2.2, fun p hp => k _ _ (Ext.new hp) (rep_lst t hp h4.flat)⟩
    · cases e
  · cases e
theorem so_mulF : OpR X (binaryOp .Mult) (rBF R pyMulL) := by
  intro pins s σ H x y v u Q I rx ry ⟨ms, p, q, r, h1, h2, t, e, k⟩
  unfold pyMulL at e
  split at e
  · split at e
    · rename_i hc
      cases e
      obtain ⟨a, xs, rfl, h3, h4⟩ := rd_lst h1
      cases h2
      exact op_rep pins s σ H _ _ v u Q I rx ry ⟨a, _, xs, rfl, rfl, h3, hc.1, hc.2.1, by rw [← h4.length]; exact hc.2.2, fun p hp => k p _ H _ (Ext.refl H) hp h4.flat (Ext.new hp) upd_same⟩
    · cases e
  · cases e
theorem so_add (hK : X.K = R.K) : OpR X (binaryOp .Add) (rB R pyAdd) := by
  intro pins s σ H x y v u Q I rx ry ⟨ms, p, q, r, h1, h2, t, e, k⟩
  unfold pyAdd at e
  split at e
  · cases e
    cases h1; cases h2
    exact op_add pins s σ H _ _ v u Q I rx ry ⟨_, _, rfl, rfl, k _ H (Ext.refl H) (by simp only [RepP])⟩
  · split at e
    · cases e
      cases h1; cases h2
      exact op_add_str pins s σ H _ _ v u Q I rx ry ⟨_, _, rfl, rfl, by assumption, k _ H (Ext.refl H) (by simp only [RepP])⟩
    · cases e
  · split at e
    · rename_i pa pb hc
      cases e
      obtain ⟨a, xs, rfl, h3, h4⟩ := rd_tup h1
      obtain ⟨b, ys, rfl, h5, h6⟩ := rd_tup h2
      have l1 := h4.length
      have l2 := h6.length
      refine op_catA pins s σ H _ _ v u Q I rx ry ⟨a, b, xs, ys, rfl, rfl, by rw [hK]; exact h3.sq, by rw [hK]; exact h5.sq, by omega, fun e => ?_, fun e1 e2 => ?_, fun e1 e2 p hp => ?_⟩
      · subst e
        have : pa = [] := List.eq_nil_of_length_eq_zero (by simpa using l1)
        subst this
        exact k _ H (Ext.refl H) (by rw [List.nil_append]; exact h2)
      · subst e2
        have : pb = [] := List.eq_nil_of_length_eq_zero (by simpa using l2)
        subst this
        exact k _ H (Ext.refl H) (by rw [List.append_nil]; exact h1)
      · exact k _ _ (Ext.new hp) (rep_tup t hp (h4.append h6))
    · cases e
  · split at e
    · rename_i pa pb hc
      cases e
      obtain ⟨a, xs, rfl, h3, h4⟩ := rd_lst h1
      obtain ⟨b, ys, rfl, h5, h6⟩ := rd_lst h2
      have l1 := h4.length
      have l2 := h6.length
      exact op_cat pins s σ H _ _ v u Q I rx ry ⟨a, b, xs, ys, rfl, rfl, h3, h5, by omega, fun p hp => k _ _ (Ext.new hp) (rep_lst t hp (h4.append h6))⟩
    · cases e
  · cases e
theorem so_addF : OpR X (binaryOp .Add) (rBF R pyAddL) := by
  intro pins s σ H x y v u Q I rx ry ⟨ms, p, q, r, h1, h2, t, e, k⟩
  unfold pyAddL at e
  split at e
  · split at e
    · rename_i pa pb hc
      cases e
      obtain ⟨a, xs, rfl, h3, h4⟩ := rd_lst h1
      obtain ⟨b, ys, rfl, h5, h6⟩ := rd_lst h2
      have l1 := h4.length
      have l2 := h6.length
      exact op_cat pins s σ H _ _ v u Q I rx ry ⟨a, b, xs, ys, rfl, rfl, h3, h5, by omega, fun p hp => k p _ H _ (Ext.refl H) hp (h4.append h6) (Ext.new hp) upd_same⟩
    · cases e
  · cases e
theorem su_neg : UnR X (unaryOp .USub) (rU1 R pyNeg) := by
  intro pins s σ H x v Q I rx ⟨ms, p, r, h1, t, e, k⟩
  unfold pyNeg at e
  split at e
  · cases e
    cases h1
    exact un_neg pins s σ H _ v Q I rx ⟨_, rfl, k _ H (Ext.refl H) (by simp only [RepP])⟩
  · cases e

/-! ### comparisons -/
def bl (f : PV → PV → Option Bool) : PV → PV → Option PV := fun p q => (f p q).map .bl
theorem pyEq_some {a b : PV} {k : Bool} (h : pyEq a b = some k) : ∃ x y, a.data = some x ∧ b.data = some y ∧ SeqAt.shaped x = true ∧ SeqAt.shaped y = true ∧ k = PyData.eqv x y := by
  unfold pyEq at h
  split at h
  · rename_i x y e1 e2
    split at h
    · rename_i hc
      cases h
      simp only [Bool.and_eq_true] at hc
      exact ⟨x, y, e1, e2, hc.1, hc.2, rfl⟩
    · cases h
  · cases h
theorem so_eq (hK : X.K = R.K) (hu : X.A.units + 64 < cLine) : OpR X (compareOp .Eq) (rB R (bl pyEq)) := by
  intro pins s σ H x y v u Q I rx ry ⟨ms, p, q, r, h1, h2, t, e, k⟩
  obtain ⟨c, e1, rfl⟩ := Option.map_eq_some_iff.mp e
  obtain ⟨d1, d2, e2, e3, s1, s2, rfl⟩ := pyEq_some e1
  exact op_eqD hu pins s σ H _ _ v u Q I rx ry ⟨d1, d2, RD.dp hK e2 h1, RD.dp hK e3 h2, s1, s2, k _ H (Ext.refl H) (by simp only [RepP])⟩
def pyNe (a b : PV) : Option Bool := (pyEq a b).map (!·)
theorem so_ne (hK : X.K = R.K) (hu : X.A.units + 64 < cLine) : OpR X (compareOp .NotEq) (rB R (bl pyNe)) := by
  intro pins s σ H x y v u Q I rx ry ⟨ms, p, q, r, h1, h2, t, e, k⟩
  obtain ⟨c0, e0, rfl⟩ := Option.map_eq_some_iff.mp e
  obtain ⟨c, e1, rfl⟩ := Option.map_eq_some_iff.mp e0
  clear e0
  obtain ⟨d1, d2, e2, e3, s1, s2, rfl⟩ := pyEq_some e1
  exact op_neD hu pins s σ H _ _ v u Q I rx ry ⟨d1, d2, RD.dp hK e2 h1, RD.dp hK e3 h2, s1, s2, k _ H (Ext.refl H) (by simp only [RepP])⟩
theorem so_lt (hK : X.K = R.K) (hu : X.A.units + 64 < cLine) : OpR X (compareOp .Lt) (rB R (bl pyLtB)) := by
  intro pins s σ H x y v u Q I rx ry ⟨ms, p, q, r, h1, h2, t, e, k⟩
  obtain ⟨c, e1, rfl⟩ := Option.map_eq_some_iff.mp e
  unfold pyLtB at e1
  split at e1
  · cases e1
    cases h1; cases h2
    exact op_lt pins s σ H _ _ v u Q I rx ry ⟨_, _, rfl, rfl, k _ H (Ext.refl H) (by simp only [RepP])⟩
  · cases e1
    cases h1; cases h2
    exact op_lt_str pins s σ H _ _ v u Q I rx ry ⟨_, _, rfl, rfl, k _ H (Ext.refl H) (by simp only [RepP]; rfl)⟩
  · unfold pyLt at e1
    split at e1
    · rename_i d1 d2 e2 e3
      split at e1
      · rename_i hc
        obtain rfl := Option.some.inj e1
        simp only [Bool.and_eq_true, okD] at hc
        obtain ⟨⟨⟨c1, c2⟩, c3⟩, c4⟩ := hc
        obtain ⟨as, r1⟩ := Dp.reads I d1 x v (RD.dp hK e2 h1) rx
        obtain ⟨bs, r2⟩ := Dp.reads I d2 y u (RD.dp hK e3 h2) ry
        have hn : d1 ≠ .none := fun z => by rw [z] at c4; exact Bool.noConfusion c4
        have := PySem.W.rcLt_alike d1 d2 X.A s v u as bs r1 r2 c3 hn (SeqAt.room_of_shaped c1 hu)
        exact this X.prog X.w X.xe _ ⟨.bl _, H, I, rfl, k _ H (Ext.refl H) (by simp only [RepP])⟩
      · cases e1
    · cases e1
theorem so_le : OpR X (compareOp .LtE) (rB R (bl pyLeB)) := by
  intro pins s σ H x y v u Q I rx ry ⟨ms, p, q, r, h1, h2, t, e, k⟩
  obtain ⟨c, e1, rfl⟩ := Option.map_eq_some_iff.mp e
  unfold pyLeB at e1
  split at e1
  · cases e1
    cases h1; cases h2
    exact op_le pins s σ H _ _ v u Q I rx ry ⟨_, _, rfl, rfl, k _ H (Ext.refl H) (by simp only [RepP])⟩
  · cases e1
    cases h1; cases h2
    exact op_le_str pins s σ H _ _ v u Q I rx ry ⟨_, _, rfl, rfl, k _ H (Ext.refl H) (by simp only [RepP]; rfl)⟩
  · cases e1
theorem so_gt : OpR X (compareOp .Gt) (rB R (bl pyGtB)) := by
  intro pins s σ H x y v u Q I rx ry ⟨ms, p, q, r, h1, h2, t, e, k⟩
  obtain ⟨c, e1, rfl⟩ := Option.map_eq_some_iff.mp e
  unfold pyGtB at e1
  split at e1
  · cases e1
    cases h1; cases h2
    exact op_gt pins s σ H _ _ v u Q I rx ry ⟨_, _, rfl, rfl, k _ H (Ext.refl H) (by simp only [RepP])⟩
  · cases e1
    cases h1; cases h2
    exact op_gt_str pins s σ H _ _ v u Q I rx ry ⟨_, _, rfl, rfl, k _ H (Ext.refl H) (by simp only [RepP]; rfl)⟩
  · cases e1
theorem so_ge : OpR X (compareOp .GtE) (rB R (bl pyGeB)) := by
  intro pins s σ H x y v u Q I rx ry ⟨ms, p, q, r, h1, h2, t, e, k⟩
  obtain ⟨c, e1, rfl⟩ := Option.map_eq_some_iff.mp e
  unfold pyGeB at e1
  split at e1
  · cases e1
    cases h1; cases h2
    exact op_ge pins s σ H _ _ v u Q I rx ry ⟨_, _, rfl, rfl, k _ H (Ext.refl H) (by simp only [RepP])⟩
  · cases e1
    cases h1; cases h2
    exact op_ge_str pins s σ H _ _ v u Q I rx ry ⟨_, _, rfl, rfl, k _ H (Ext.refl H) (by simp only [RepP]; rfl)⟩
  · cases e1
theorem so_in (hK : X.K = R.K) (hu : X.A.units + 65 < cLine) : OpR X (compareOp .In) (rB R (bl pyIn)) := by
  intro pins s σ H x y v u Q I rx ry ⟨ms, p, q, r, h1, h2, t, e, k⟩
  obtain ⟨c, e1, rfl⟩ := Option.map_eq_some_iff.mp e
  unfold pyIn at e1
  split at e1
  · split at e1
    · cases e1
      cases h1; cases h2
      exact op_in_str pins s σ H _ _ v u Q I rx ry ⟨_, _, rfl, rfl, k _ H (Ext.refl H) (by simp only [RepP])⟩
    · cases e1
  · split at e1
    · rename_i d ds e2 e3
      split at e1
      · rename_i hc
        cases e1
        simp only [Bool.and_eq_true, okD] at hc
        exact op_inD hu pins s σ H _ _ v u Q I rx ry ⟨d, ds, RD.dp hK e2 h1, RD.dp (d := .list ds) hK (by simp only [PV.data, e3, Option.map_some]) h2, hc.1, hc.2, k _ H (Ext.refl H) (by simp only [RepP])⟩
      · cases e1
    · cases e1
  · split at e1
    · rename_i d ds e2 e3
      split at e1
      · rename_i hc
        cases e1
        simp only [Bool.and_eq_true, okD] at hc
        obtain ⟨as, r1⟩ := Dp.reads I d x v (RD.dp hK e2 h1) rx
        obtain ⟨bs, r2⟩ := Dp.reads I (.tuple ds) y u (RD.dp (d := .tuple ds) hK (by simp only [PV.data, e3, Option.map_some]) h2) ry
        exact SeqAt.in_tuple_reads r2 r1 (SeqAt.canLay_of_shaped hc.2) (SeqAt.canLay_of_shaped hc.1) (room_in_shaped hc.1 hu) ⟨.bl _, H, I, rfl, k _ H (Ext.refl H) (by simp only [RepP])⟩
      · cases e1
    · cases e1
  · cases e1
def pyNotIn (a b : PV) : Option Bool := (pyIn a b).map (!·)
theorem so_notIn (hK : X.K = R.K) (hu : X.A.units + 65 < cLine) : OpR X (compareOp .NotIn) (rB R (bl pyNotIn)) := by
  intro pins s σ H x y v u Q I rx ry ⟨ms, p, q, r, h1, h2, t, e, k⟩
  obtain ⟨c0, e0, rfl⟩ := Option.map_eq_some_iff.mp e
  obtain ⟨c, e1, rfl⟩ := Option.map_eq_some_iff.mp e0
  clear e0
  unfold pyIn at e1
  split at e1
  · split at e1
    · cases e1
      cases h1; cases h2
      exact op_notIn_str pins s σ H _ _ v u Q I rx ry ⟨_, _, rfl, rfl, k _ H (Ext.refl H) (by simp only [RepP])⟩
    · cases e1
  · split at e1
    · rename_i d ds e2 e3
      split at e1
      · rename_i hc
        cases e1
        simp only [Bool.and_eq_true, okD] at hc
        exact op_notInD hu pins s σ H _ _ v u Q I rx ry ⟨d, ds, RD.dp hK e2 h1, RD.dp (d := .list ds) hK (by simp only [PV.data, e3, Option.map_some]) h2, hc.1, hc.2, k _ H (Ext.refl H) (by simp only [RepP])⟩
      · cases e1
    · cases e1
  · split at e1
    · rename_i d ds e2 e3
      split at e1
      · rename_i hc
        cases e1
        simp only [Bool.and_eq_true, okD] at hc
        obtain ⟨as, r1⟩ := Dp.reads I d x v (RD.dp hK e2 h1) rx
        obtain ⟨bs, r2⟩ := Dp.reads I (.tuple ds) y u (RD.dp (d := .tuple ds) hK (by simp only [PV.data, e3, Option.map_some]) h2) ry
        exact SeqAt.notIn_tuple_reads r2 r1 (SeqAt.canLay_of_shaped hc.2) (SeqAt.canLay_of_shaped hc.1) (room_in_shaped hc.1 hu) ⟨.bl _, H, I, rfl, k _ H (Ext.refl H) (by simp only [RepP])⟩
      · cases e1
    · cases e1
  · cases e1
theorem so_is : OpR X (compareOp .Is) (rB R (bl pyIs)) := by
  intro pins s σ H x y v u Q I rx ry ⟨ms, p, q, r, h1, h2, t, e, k⟩
  obtain ⟨c, e1, rfl⟩ := Option.map_eq_some_iff.mp e
  unfold pyIs at e1
  split at e1
  · cases e1
    cases h2
    refine op_isN pins s σ H _ _ v u Q I rx ry ⟨rfl, k _ H (Ext.refl H) ?_⟩
    simp only [RepP]
    congr 1
    have := rd_isnon h1
    simp [this]
  · split at e1
    · cases e1
      cases h1; cases h2
      exact op_is_bl pins s σ H _ _ v u Q I rx ry ⟨_, _, rfl, rfl, k _ H (Ext.refl H) (by simp only [RepP])⟩
    · cases e1
  · cases e1
end
end Ev

end
section
set_option maxRecDepth 100000
set_option maxHeartbeats 4000000
/-! Ev S: sorting alike data among which there are empty tuples -/
namespace Ev
open PySem PySem.Spec PySem.Calls PySem.W PyProof.Rows PySem.SeqAt PySem.MeetsSeq
section
variable {prog : Program} {w : World} {A : Around} {E : Value → Shared → Prop} {s : Shared}
/-- tuple's own < as sorting calls it -/
theorem tup_lt_call {Q : Value → Shared → Prop} {p q : Addr} {xs ys : Array Value} {eqs lts : Nat → Bool} (hp : s.heap.IsTuple p xs) (hq : s.heap.IsTuple q ys)
    (he : ∀ j (h1 : j < xs.size) (h2 : j < ys.size), EqAt A.in1 s xs[j] ys[j] (eqs j)) (hr : ∀ j (h1 : j < xs.size) (h2 : j < ys.size), eqs j = false → RcLt A.in1 s xs[j] ys[j] (lts j))
    (h : Q (.bool (firstLt eqs lts (decide (xs.size < ys.size)) (List.range (min xs.size ys.size)))) s) : wpAny (model prog w) A (call (.builtin "tuple.__lt__") [.ref p, .ref q]) Q E s := by
  rcases hp with ⟨⟨c1, d1, u1, l1⟩, g1, k1, n1, m1⟩
  rcases hq with ⟨⟨c2, d2, u2, l2⟩, g2, k2, n2, m2⟩
  dsimp only at k1 m1 k2 m2
  cases k1; cases m1; cases k2; cases m2
  exact call_meets F.slot_tuple_lt ⟨_, g1, rfl⟩ F.entry_tuple_lt (F.args_tuple_lt_2 _ _) (tuple_ltAt p q xs ys n1 n2 d1 d2 l1 l2 eqs lts) ⟨g1, g2, he, hr, h⟩
theorem one_lt_tuples {xs ys : List PyData} {a b : Value} {as bs : List Addr} {Q : Bool → Shared → Prop} (ra : Reads s.heap a (.tuple xs) as) (rb : Reads s.heap b (.tuple ys) bs) (h : alike (.tuple xs) (.tuple ys) = true)
    (hu : A.units + min (PyData.tuple xs).depth (PyData.tuple ys).depth < cLine) (hq : Q (dataLt (.tuple xs) (.tuple ys)) s) : wpAny (model prog w) A (oneLt' true a b) Q E s := by
  have hal : alikeAll xs ys = true := by simpa [alike] using h
  cases ra with
  | @tuple l o vs n _ as₁ g1 g2 g3 g4 =>
    cases rb with
    | @tuple l' o' vs' n' _ bs₁ k1 k2 k3 k4 =>
      have n1 : vs.size = xs.length := by simpa using SeqAt.ReadsAll.length _ _ _ g4
      have n2 : vs'.size = ys.length := by simpa using SeqAt.ReadsAll.length _ _ _ k4
      rw [dataLt_tuple, ← firstLt_toks xs ys hal, ← n1, ← n2] at hq
      rw [oneLt'_eq]
      simp only [if_true]
      refine wpAny_bind (wpAny_cRoomFor (room_here hu) ?_)
      refine wpAny_bind (wpAny_callSpecialIfBound?_slot (T := "tuple") ⟨_, g1, g2⟩ F.slot_tuple_lt (tup_lt_call (eqs := pairEq xs ys) (lts := fun j => dataLt (xs.getD j .none) (ys.getD j .none)) ⟨_, g1, g2, _, g3⟩ ⟨_, k1, k2, _, k3⟩ (fun j j1 j2 => ?_) (fun j j1 j2 hj => ?_) ?_))
      · have z := eqAt_alikeAll xs ys A.in1 s vs.toList vs'.toList _ _ g4 k4 hal (room_in hu) j (by simpa using j1) (by simpa using j2)
        simpa using z
      · have z := rcLt_alikeAll xs ys A.in1 s vs.toList vs'.toList _ _ g4 k4 hal (room_in hu) j (by simpa using j1) (by simpa using j2) hj
        simpa using z
      · exact wpAny_truthy_bool hq
/-- the first items, where there are any -/
def firstsOf (h : Heap) : List Value → List (Option Value) → Prop
  | [], [] => True
  | v :: vs, f :: fs => (∃ a o xs n, v = .ref a ∧ h.get? a = some o ∧ o.cls = .type "tuple" ∧ o.data = .seq xs n ∧ xs[0]? = f) ∧ firstsOf h vs fs
  | _, _ => False
theorem firstsOf_mapM {M : Model} : ∀ (vs : List Value) (fs : List (Option Value)) {Q : List (Option Value) → Shared → Prop}, firstsOf s.heap vs fs → Q fs s → wpAny M A (vs.mapM firstOfTuple') Q E s
  | [], [], _, _, h => by rw [List.mapM_nil]; exact wpAny_pure h
  | [], _ :: _, _, t, _ => t.elim
  | _ :: _, [], _, t, _ => t.elim
  | v :: vs, f :: fs, Q, t, h => by
    obtain ⟨⟨a, o, xs, n, e1, e2, e3, e4, e5⟩, t⟩ := t
    subst e1
    rw [List.mapM_cons]
    refine wpAny_bind ?_
    rw [kas_first_eq]
    refine wpAny_bind (Looks.here (show Looks M s.heap (typeOf (.ref a)) o.cls from (Looks.ld e2).andThen .now) ?_)
    rw [e3, if_neg (by first | decide | simp)]
    refine wpAny_bind (listItems_at e2 e4 (wpAny_pure ?_))
    rw [e5]
    exact wpAny_bind (firstsOf_mapM vs fs (Q := fun bs s' => wpAny M A (pure (f :: bs)) Q E s') t (wpAny_pure h))
theorem each_firsts {h : Heap} : ∀ {vs : List Value} {ds : List PyData}, EachIs (fun v d => ∃ as, Reads h v d as) vs ds → (∀ d, d ∈ ds → ∃ r, d = .tuple r) →
    ∃ fs, firstsOf h vs fs ∧ fs.length = vs.length ∧ ((∃ d, d ∈ ds ∧ d = .tuple []) → none ∈ fs)
  | _, _, .nil, _ => ⟨[], trivial, rfl, fun ⟨d, hd, _⟩ => absurd hd (by simp)⟩
  | _, _, .cons (b := d) ⟨as, r⟩ t, ht => by
    obtain ⟨fs, h1, h2, h3⟩ := each_firsts t fun d hd => ht d (List.mem_cons_of_mem _ hd)
    obtain ⟨rest, rfl⟩ := ht d (List.mem_cons_self ..)
    cases r with
    | @tuple a o xs n _ _ ho hc hd hr =>
      refine ⟨xs[0]? :: fs, ⟨⟨a, o, xs, n, rfl, ho, hc, hd, rfl⟩, h1⟩, by simp [h2], ?_⟩
      rintro ⟨d, hm, rfl⟩
      rcases List.mem_cons.mp hm with q | q
      · cases q
        have : xs.size = 0 := by simpa using SeqAt.ReadsAll.length _ _ _ hr
        have e : xs[0]? = none := by simp [this]
        rw [e]
        exact List.mem_cons_self ..
      · exact List.mem_cons_of_mem _ (h3 ⟨_, q, rfl⟩)
theorem keyLt_general (x y : Value) : keyLt' general' x y = oneLt' false x y := rfl
/-- the kind where a tuple is empty -/
theorem kind_mixed {M : Model} {vs : List Value} {fs : List (Option Value)} (t : firstsOf s.heap vs fs) (hn : none ∈ fs) (hT : ∀ v ∈ vs, Looks M s.heap (typeOf v) (.type "tuple")) :
    ∃ kd, (kd = general' ∨ kd = oneType') ∧ ∀ (E : Value → Shared → Prop) {Q : SortKind → Shared → Prop}, Q kd s → wpAny M A (keyKind' vs.toArray) Q E s := by
  have hall : (fs.toArray.all fun x => x.isSome) = false := by
    rw [List.all_toArray, Bool.eq_false_iff]
    intro h
    rw [List.all_eq_true] at h
    have := h none hn
    simp at this
  by_cases hf : (fs[0]?.bind id).isSome = true
  · refine ⟨general', .inl rfl, fun E Q hq => ?_⟩
    rw [kat_kind_eq, List.mapM_toArray, map_eq_pure_bind]
    refine wpAny_bind (wpAny_bind (firstsOf_mapM vs fs t (wpAny_pure ?_)))
    rw [hall, if_neg (by decide)]
    rw [if_pos (by simpa using hf)]
    exact wpAny_pure hq
  · refine ⟨oneType', .inr rfl, fun E Q hq => ?_⟩
    rw [kat_kind_eq, List.mapM_toArray, map_eq_pure_bind]
    refine wpAny_bind (wpAny_bind (firstsOf_mapM vs fs t (wpAny_pure ?_)))
    rw [hall, if_neg (by decide)]
    rw [if_neg (by simpa using hf)]
    rw [oneTypeOnly'_eq, List.mapM_toArray, map_eq_pure_bind]
    refine wpAny_bind (wpAny_bind (wpAny_bind (kas_mapM (r := Value.type "tuple") _ (fun v hv Q' hq => (hT v hv).here hq) (wpAny_pure ?_))))
    cases vs with
    | nil =>
      cases fs with
      | nil => exact absurd hn (by simp)
      | cons _ _ => exact t.elim
    | cons v vs =>
      have h0 : (List.map (fun _ => Value.type "tuple") (v :: vs)).toArray[0]? = some (Value.type "tuple") := by simp
      have hal : ((List.map (fun _ => Value.type "tuple") (v :: vs)).toArray.all fun x => x == Value.type "tuple") = true := by
        simp only [List.all_toArray, List.all_map, List.all_eq_true]
        intro _ _
        exact (by decide : (Value.type "tuple" == Value.type "tuple") = true)
      simp only [h0, hal]
      first
        | exact wpAny_pure (wpAny_pure hq)
        | exact wpAny_pure hq
        | (simp; exact wpAny_pure hq)
/-- alike data, none of it None, can be sorted -/
theorem sorts_alike {vs : List Value} {ds : List PyData} (e : EachIs (fun v d => ∃ as, Reads s.heap v d as) vs ds) (hal : AllAlike ds) (hn : ∀ d, d ∈ ds → d ≠ .none) (hu : ∀ d, d ∈ ds → A.units + d.depth < cLine) : SortsAt prog w A s (dataKind s.heap ds) vs := by
  by_cases h1 : Sortable ds
  · exact SortsAt.data e hal h1 hu
  · -- all are tuples, and one of them is empty
    have ht : ∃ d xs, d ∈ ds ∧ d = .tuple xs := by
      apply Classical.byContradiction
      intro q
      exact h1 (.inr fun d hd => ⟨hn d hd, fun xs ex => q ⟨d, xs, hd, ex⟩⟩)
    obtain ⟨d₀, xs₀, m₀, rfl⟩ := ht
    have all : ∀ d, d ∈ ds → ∃ r, d = .tuple r := fun d hd => by
      have q := hal _ m₀ d hd
      cases d <;> first | exact ⟨_, rfl⟩ | exact absurd q (by simp [alike])
    have emp : ∃ d, d ∈ ds ∧ d = .tuple [] := by
      apply Classical.byContradiction
      intro q
      refine h1 (.inl fun d hd => ?_)
      obtain ⟨r, rfl⟩ := all d hd
      cases r with
      | nil => exact absurd ⟨_, hd, rfl⟩ q
      | cons x r => exact ⟨x, r, rfl⟩
    obtain ⟨fs, f1, f2, f3⟩ := each_firsts e all
    have hT : ∀ v ∈ vs, Looks (model prog w) s.heap (typeOf v) (.type "tuple") := fun v hv => by
      obtain ⟨d, hd, as, r⟩ := e.left v hv
      obtain ⟨r', rfl⟩ := all d hd
      exact looks_reads r
    obtain ⟨kd, hkd, run⟩ := kind_mixed (M := model prog w) (A := A) f1 (f3 emp) hT
    refine ⟨fun v hv => ?_, kd, ?_, fun _ E Q hq => run E hq⟩
    · obtain ⟨d, hd, as, r⟩ := e.left v hv
      exact ⟨_, dataKind_some hal hd r⟩
    · intro E x y a b Q ha hb hq
      obtain ⟨d, as, hd, ra, rfl⟩ := dataKind_inv ha
      obtain ⟨d', as', hd', rb, rfl⟩ := dataKind_inv hb
      have room : A.units + min d.depth d'.depth < cLine := Nat.lt_of_le_of_lt (Nat.add_le_add_left (Nat.min_le_left _ _) _) (hu d hd)
      have hdd := hal d hd d' hd'
      obtain ⟨r1, rfl⟩ := all d hd
      obtain ⟨r2, rfl⟩ := all d' hd'
      rcases hkd with q | q
      · rw [q, keyLt_general]
        exact oneLt_alike (fun z => absurd z (by decide)) ra rb hdd (fun z => nomatch z) room hq
      · rw [q, keyLt'_oneType]
        exact one_lt_tuples ra rb hdd room hq
/-- sorted(xs) of alike data -/
theorem sorted_alike {β : Type} {R : Value → β → Prop} {enc : β → PyData} {bs : List β} {vs : List Value} {l : Addr} {Q : Value → Shared → Prop} (hl : s.heap.IsList l vs.toArray) (e : EachIs R vs bs) (er : EachIs (fun v b => ∃ as, Reads s.heap v (enc b) as) vs bs)
    (hal : AllAlike (bs.map enc)) (hn : ∀ b, b ∈ bs → enc b ≠ .none) (hL : bs.length ≤ sizeLine)
    (hu : ∀ b, b ∈ bs → A.units + 2 + (enc b).depth < cLine) (h : ∀ out, out.length = bs.length → EachIs R out (bs.mergeSort (dataLe false enc)) → Q (.ref (s.heap.objs.size + 1)) { s with heap := sortedAll s.heap vs (List.toArray out) }) :
    wpAny (model prog w) A (call (.builtin "sorted") [.ref l]) Q E s := by
  have er' : EachIs (fun v b => ∃ as, Reads (sortingHeap (copyHeap s.heap vs) (s.heap.objs.size + 1) vs) v (enc b) as) vs bs := er.mono fun _ _ ⟨as, r⟩ => ⟨as, PyProof.Rows.Reads.keeps (fun _ _ => sorting_copy_old) r⟩
  refine sorted_vals hl (sorts_alike (s := { s with heap := sortingHeap (copyHeap s.heap vs) (s.heap.objs.size + 1) vs }) (each_map (R := fun v d => ∃ as, Reads (sortingHeap (copyHeap s.heap vs) (s.heap.objs.size + 1) vs) v d as) enc er') hal (fun d hd => ?_) (bound_map hu)) (by rw [e.length]; exact hL)
    (h _ (by rw [sortVals_length false rfl]; exact e.length) (sortVals_data false e er' hal))
  obtain ⟨b, hb, rfl⟩ := List.mem_map.mp hd
  exact hn b hb
end
end Ev

end
section
set_option maxRecDepth 100000
set_option maxHeartbeats 4000000
/-! Ev J: built-in functions on pure values -/
namespace Ev
open PySem PySem.Spec PyProof.Rows L2

def pyLen : List PV → Option PV
  | [.str s] => if s.length ≤ sizeLine then some (.int s.length) else none
  | [.tup xs] => some (.int xs.length)
  | [.lst xs] => some (.int xs.length)
  | [.scr xs] => some (.int xs.length)
  | _ => none
def pyTuple : List PV → Option PV
  | [.tup xs] => some (.tup xs)
  | [.lst xs] => some (.tup xs)
  | [.scr xs] => some (.tup xs)
  | _ => none
def pyList : List PV → Option (List PV)
  | [.tup xs] => some xs
  | [.lst xs] => some xs
  | [.scr xs] => some xs
  | _ => none
def pyInt : List PV → Option PV
  | [.int i] => some (.int i)
  | [.bl b] => some (.int (if b then 1 else 0))
  | _ => none
def pyAbs : List PV → Option PV
  | [.int i] => some (.int (if i < 0 then -i else i))
  | _ => none
def pyMax : List PV → Option PV
  | [.int i, .int j] => some (.int (if j > i then j else i))
  | _ => none
def pyMin : List PV → Option PV
  | [.int i, .int j] => some (.int (if j < i then j else i))
  | _ => none
def asBools : List PV → Option (List Bool)
  | [] => some []
  | .bl b :: xs => (asBools xs).map (b :: ·)
  | _ :: _ => none
def asInts : List PV → Option (List Int)
  | [] => some []
  | .int b :: xs => (asInts xs).map (b :: ·)
  | _ :: _ => none
def pyAll : List PV → Option PV
  | [.lst xs] => (asBools xs).map fun bs => .bl (bs.all id)
  | _ => none
def pyAny : List PV → Option PV
  | [.lst xs] => (asBools xs).map fun bs => .bl (bs.any id)
  | _ => none
def pySum : List PV → Option PV
  | [.lst xs] => (asInts xs).map fun bs => .int bs.sum
  | _ => none
/-- the datum of a value that has one -/
def enc (p : PV) : PyData := p.data.getD .none
def sortable (xs : List PV) : Bool := xs.length ≤ sizeLine && xs.all fun x => x.data.isSome && okD (enc x) && notNone (enc x) && xs.all fun y => PySem.W.alike (enc x) (enc y)
def pySort (xs : List PV) : List PV := xs.mergeSort (PySem.W.dataLe false enc)
def pySorted : List PV → Option (List PV)
  | [.lst xs] => if sortable xs then some (pySort xs) else none
  | _ => none

section
variable {R : RC} {W : WX} {X : Cx} {ms ms' : List Addr} {H H' : Hp} {G G' : Store} {ρ : Fr} {σ : L2.St}
theorem CallR.to {f : Value} {r r' : List V → Hp → VK → Prop} (h : CallR X f r) (i : ∀ xs H Q, r' xs H Q → r xs H Q) : CallR X f r' := fun pins s σ H xs us Q I rv q => h pins s σ H xs us Q I rv (i xs H Q q)
theorem RDs.one' {p : PV} {xs : List V} (h : RDs R ms H [p] xs) : ∃ x, xs = [x] ∧ RD R ms H p x := h.one
theorem ne_sqT {a : Addr} {xs : List V} {K : PySem.W.Frag} (h : TupAt K ms H a xs) : SqT K H a xs := h.sq
theorem sb_len (hK : X.K = R.K) : CallR X (.builtin "len") (rC R pyLen) := CallR.to call_len fun xs H Q ⟨ms, ps, r, rd, t, e, k⟩ => by
  unfold pyLen at e
  split at e
  · obtain ⟨x, rfl, h⟩ := rd.one
    cases rd_str h
    split at e
    · rename_i hz
      cases e
      exact ⟨_, _, rfl, ⟨hz, rfl⟩, k _ H (Ext.refl H) (by simp only [RepP])⟩
    · cases e
  · obtain ⟨x, rfl, h⟩ := rd.one
    cases e
    obtain ⟨a, ys, rfl, h1, h2⟩ := rd_tup h
    exact ⟨_, ys.length, rfl, .inr ⟨ys, by rw [hK]; exact h1.sq, rfl⟩, k _ H (Ext.refl H) (by simp only [RepP, h2.length])⟩
  · obtain ⟨x, rfl, h⟩ := rd.one
    cases e
    obtain ⟨a, ys, rfl, h1, h2⟩ := rd_lst h
    exact ⟨_, ys.length, rfl, .inl ⟨ys, SqL.of h1, rfl⟩, k _ H (Ext.refl H) (by simp only [RepP, h2.length])⟩
  · obtain ⟨x, rfl, h⟩ := rd.one
    cases e
    obtain ⟨a, ys, rfl, h1, h2⟩ := rd_scr h
    exact ⟨_, ys.length, rfl, .inl ⟨ys, by rw [hK]; exact h1.sq, rfl⟩, k _ H (Ext.refl H) (by simp only [RepP, h2.length])⟩
  · cases e
theorem sb_tuple (hK : X.K = R.K) : CallR X (.type "tuple") (rC R pyTuple) := CallR.to call_tuple_of fun xs H Q ⟨ms, ps, r, rd, t, e, k⟩ => by
  unfold pyTuple at e
  split at e
  · obtain ⟨x, rfl, h⟩ := rd.one
    cases e
    obtain ⟨a, ys, rfl, h1, h2⟩ := rd_tup h
    refine ⟨a, ys, rfl, .inr ⟨by rw [hK]; exact h1.sq, k _ H (Ext.refl H) ?_⟩⟩
    simp only [RepP]
    exact ⟨a, ys, rfl, h1, h2⟩
  · obtain ⟨x, rfl, h⟩ := rd.one
    cases e
    obtain ⟨a, ys, rfl, h1, h2⟩ := rd_lst h
    exact ⟨a, ys, rfl, .inl ⟨SqL.of h1, fun l hl => k _ _ (Ext.new hl) (rep_tup t hl h2)⟩⟩
  · obtain ⟨x, rfl, h⟩ := rd.one
    cases e
    obtain ⟨a, ys, rfl, h1, h2⟩ := rd_scr h
    exact ⟨a, ys, rfl, .inl ⟨by rw [hK]; exact h1.sq, fun l hl => k _ _ (Ext.new hl) (rep_tup t hl h2)⟩⟩
  · cases e
theorem sb_list (hK : X.K = R.K) : CallR X (.type "list") (rCF R pyList) := CallR.to call_list_of fun xs H Q ⟨ms, ps, r, rd, t, e, k⟩ => by
  unfold pyList at e
  split at e
  · obtain ⟨x, rfl, h⟩ := rd.one
    cases e
    obtain ⟨a, ys, rfl, h1, h2⟩ := rd_tup h
    exact ⟨a, ys, rfl, .inr (by rw [hK]; exact h1.sq), fun l hl => k l ys H _ (Ext.refl H) hl h2 (Ext.new hl) upd_same⟩
  · obtain ⟨x, rfl, h⟩ := rd.one
    cases e
    obtain ⟨a, ys, rfl, h1, h2⟩ := rd_lst h
    exact ⟨a, ys, rfl, .inl (SqL.of h1), fun l hl => k l ys H _ (Ext.refl H) hl h2 (Ext.new hl) upd_same⟩
  · obtain ⟨x, rfl, h⟩ := rd.one
    cases e
    obtain ⟨a, ys, rfl, h1, h2⟩ := rd_scr h
    exact ⟨a, ys, rfl, .inl (by rw [hK]; exact h1.sq), fun l hl => k l ys H _ (Ext.refl H) hl h2 (Ext.new hl) upd_same⟩
  · cases e
theorem sb_int : CallR X (.type "int") (rC R pyInt) := CallR.to call_int1 fun xs H Q ⟨ms, ps, r, rd, t, e, k⟩ => by
  unfold pyInt at e
  split at e
  · obtain ⟨x, rfl, h⟩ := rd.one
    cases rd_int h; cases e
    exact .inl ⟨_, rfl, k _ H (Ext.refl H) (by simp only [RepP])⟩
  · obtain ⟨x, rfl, h⟩ := rd.one
    cases rd_bl h; cases e
    exact .inr ⟨_, rfl, k _ H (Ext.refl H) (by simp only [RepP])⟩
  · cases e
theorem sb_abs : CallR X (.builtin "abs") (rC R pyAbs) := CallR.to call_abs fun xs H Q ⟨ms, ps, r, rd, t, e, k⟩ => by
  unfold pyAbs at e
  split at e
  · obtain ⟨x, rfl, h⟩ := rd.one
    cases rd_int h; cases e
    exact ⟨_, rfl, k _ H (Ext.refl H) (by simp only [RepP])⟩
  · cases e
theorem sb_max (hc : X.calm = true) : CallR X (.builtin "max") (rC R pyMax) := CallR.to (call_max2 hc) fun xs H Q ⟨ms, ps, r, rd, t, e, k⟩ => by
  unfold pyMax at e
  split at e
  · obtain ⟨x, y, rfl, h, h'⟩ := rd.two
    cases rd_int h; cases rd_int h'; cases e
    exact ⟨_, _, rfl, k _ H (Ext.refl H) (by simp only [RepP])⟩
  · cases e
theorem sb_min (hc : X.calm = true) : CallR X (.builtin "min") (rC R pyMin) := CallR.to (call_min2 hc) fun xs H Q ⟨ms, ps, r, rd, t, e, k⟩ => by
  unfold pyMin at e
  split at e
  · obtain ⟨x, y, rfl, h, h'⟩ := rd.two
    cases rd_int h; cases rd_int h'; cases e
    exact ⟨_, _, rfl, k _ H (Ext.refl H) (by simp only [RepP])⟩
  · cases e
theorem RepPs.bools : ∀ {ps : List PV} {bs : List Bool} {xs : List V}, asBools ps = some bs → RepPs R ms H ps xs → xs = bs.map V.bl
  | [], bs, xs, e, h => by
    simp only [asBools] at e; cases e
    simp only [RepPs] at h
    exact h
  | p :: ps, bs, xs, e, h => by
    simp only [RepPs] at h
    obtain ⟨x, r, rfl, h1, h2⟩ := h
    cases p <;> first | (simp [asBools] at e; done) | skip
    rename_i b
    simp only [asBools] at e
    obtain ⟨cs, e1, rfl⟩ := Option.map_eq_some_iff.mp e
    simp only [RepP] at h1
    rw [RepPs.bools e1 h2, h1]
    rfl
theorem RepPs.ints : ∀ {ps : List PV} {bs : List Int} {xs : List V}, asInts ps = some bs → RepPs R ms H ps xs → xs = bs.map V.int
  | [], bs, xs, e, h => by
    simp only [asInts] at e; cases e
    simp only [RepPs] at h
    exact h
  | p :: ps, bs, xs, e, h => by
    simp only [RepPs] at h
    obtain ⟨x, r, rfl, h1, h2⟩ := h
    cases p <;> first | (simp [asInts] at e; done) | skip
    rename_i b
    simp only [asInts] at e
    obtain ⟨cs, e1, rfl⟩ := Option.map_eq_some_iff.mp e
    simp only [RepP] at h1
    rw [RepPs.ints e1 h2, h1]
    rfl
theorem sb_all (hc : X.calm = true) : CallR X (.builtin "all") (rC R pyAll) := CallR.to (cr_all hc) fun xs H Q ⟨ms, ps, r, rd, t, e, k⟩ => by
  unfold pyAll at e
  split at e
  · obtain ⟨x, rfl, h⟩ := rd.one
    obtain ⟨bs, e1, rfl⟩ := Option.map_eq_some_iff.mp e
    obtain ⟨a, ys, rfl, h1, h2⟩ := rd_lst h
    cases h2.bools e1
    exact ⟨a, bs, rfl, SqL.of h1, k _ H (Ext.refl H) (by simp only [RepP])⟩
  · cases e
theorem sb_any (hc : X.calm = true) : CallR X (.builtin "any") (rC R pyAny) := CallR.to (cr_any hc) fun xs H Q ⟨ms, ps, r, rd, t, e, k⟩ => by
  unfold pyAny at e
  split at e
  · obtain ⟨x, rfl, h⟩ := rd.one
    obtain ⟨bs, e1, rfl⟩ := Option.map_eq_some_iff.mp e
    obtain ⟨a, ys, rfl, h1, h2⟩ := rd_lst h
    cases h2.bools e1
    exact ⟨a, bs, rfl, SqL.of h1, k _ H (Ext.refl H) (by simp only [RepP])⟩
  · cases e
theorem sb_sum (hc : X.calm = true) : CallR X (.builtin "sum") (rC R pySum) := CallR.to (cr_sum hc) fun xs H Q ⟨ms, ps, r, rd, t, e, k⟩ => by
  unfold pySum at e
  split at e
  · obtain ⟨x, rfl, h⟩ := rd.one
    obtain ⟨bs, e1, rfl⟩ := Option.map_eq_some_iff.mp e
    obtain ⟨a, ys, rfl, h1, h2⟩ := rd_lst h
    cases h2.ints e1
    exact ⟨a, bs, rfl, SqL.of h1, k _ H (Ext.refl H) (by simp only [RepP])⟩
  · cases e
/-! ### sorted -/
theorem data_enc {p : PV} (h : p.data.isSome = true) : p.data = some (enc p) := by
  unfold enc
  cases e : p.data with
  | none => rw [e] at h; cases h
  | some d => rfl
theorem each_enc {pins : List (Addr × Obj)} {s : Shared} (hK : X.K = R.K) (I : Inv X pins σ H s) : ∀ {ps : List PV} {xs : List V} {us : List Value}, (∀ p ∈ ps, p.data.isSome = true) → RepPs R ms H ps xs → Vals xs us →
    PySem.W.EachIs (fun u p => p ∈ ps ∧ ∃ x, RepP R ms H p x ∧ RelV x u) us ps ∧ PySem.W.EachIs (fun u p => ∃ as, Reads s.heap u (enc p) as) us ps
  | [], xs, us, _, r, v => by
    simp only [RepPs] at r; subst r
    cases v
    exact ⟨.nil, .nil⟩
  | p :: ps, xs, us, hd, r, v => by
    simp only [RepPs] at r
    obtain ⟨x, xs, rfl, r1, r2⟩ := r
    cases v with
    | cons v1 v2 =>
      obtain ⟨t1, t2⟩ := each_enc hK I (fun q hq => hd q (List.mem_cons_of_mem _ hq)) r2 v2
      refine ⟨.cons ⟨List.mem_cons_self .., x, r1, v1⟩ (t1.mono fun _ _ z => ⟨List.mem_cons_of_mem _ z.1, z.2⟩), .cons ?_ t2⟩
      have := RepP.dp hK p (enc p) x (data_enc (hd p (List.mem_cons_self ..))) r1
      exact this.reads I _ _ _ v1
theorem each_back : ∀ {ps : List PV} {us : List Value}, PySem.W.EachIs (fun u p => ∃ x, RepP R ms H p x ∧ RelV x u) us ps → ∃ xs, RepPs R ms H ps xs ∧ Vals xs us
  | [], us, h => by cases h; exact ⟨[], .nil, .nil⟩
  | p :: ps, us, h => by
    cases h with
    | cons h1 t =>
      obtain ⟨x, r, v⟩ := h1
      obtain ⟨xs, rs, vs⟩ := each_back t
      exact ⟨x :: xs, RepPs.cons r rs, .cons v vs⟩
theorem enc_depth {p : PV} (h : okD (enc p) = true) : (enc p).depth ≤ 64 := SeqAt.depth_of_shaped h
theorem sortable_ok {xs : List PV} (h : sortable xs = true) : xs.length ≤ sizeLine ∧ (∀ x ∈ xs, x.data.isSome = true ∧ okD (enc x) = true ∧ notNone (enc x) = true ∧ ∀ y ∈ xs, PySem.W.alike (enc x) (enc y) = true) := by
  unfold sortable at h
  rw [Bool.and_eq_true, List.all_eq_true] at h
  refine ⟨of_decide_eq_true h.1, fun x hx => ?_⟩
  have q := h.2 x hx
  simp only [Bool.and_eq_true, List.all_eq_true] at q
  exact ⟨q.1.1.1, q.1.1.2, q.1.2, q.2⟩
theorem sb_sorted (hK : X.K = R.K) (hu : X.A.units + 66 < cLine) : CallR X (.builtin "sorted") (rCF R pySorted) := by
  intro pins s σ H xs us Q I rv q
  obtain ⟨ms, ps, r, rd, t, e, k⟩ := q
  unfold pySorted at e
  split at e
  · rename_i zs
    split at e
    · rename_i hso
      cases e
      obtain ⟨h1, h2⟩ := sortable_ok hso
      obtain ⟨x, rfl, h⟩ := rd.one
      obtain ⟨a, ys, rfl, h3, h4⟩ := rd_lst h
      obtain ⟨its, rvs, hl, _⟩ := I.list (SqL.of h3)
      rw [Vals.ref1 rv]
      obtain ⟨e1, e2⟩ := each_enc hK I (fun p hp => (h2 p hp).1) h4 rvs
      refine sorted_alike (enc := enc) (bs := zs) (vs := its) hl.isList e1 e2 (fun d hd d' hd' => ?_) (fun b hb => ?_) h1 (fun b hb => ?_) fun out hlo ho => ?_
      · obtain ⟨p, hp, rfl⟩ := List.mem_map.mp hd
        obtain ⟨p', hp', rfl⟩ := List.mem_map.mp hd'
        exact (h2 p hp).2.2.2 p' hp'
      · have := (h2 b hb).2.2.1
        intro z
        rw [z] at this
        cases this
      · have := enc_depth (h2 b hb).2.1
        omega
      · obtain ⟨ep, he'⟩ := PyProof.Rows.sortedAll_at s.heap its out.toArray
        obtain ⟨zs', r1, r2⟩ := each_back (ms := ms) (R := R) (H := H) (ho.mono fun _ _ z => z.2)
        have hlz : zs'.length ≤ sizeLine := by rw [← r1.length]; unfold pySort at *; rw [List.length_mergeSort]; exact h1
        have hfr : H (s.heap.objs.size + 1) = none := I.hok.fresh (Nat.le_succ _)
        exact ⟨.ref _, upd H (s.heap.objs.size + 1) (.lst zs'), I.laid (t' := s.toks) (fun _ _ => PyProof.Rows.sortedAll_old) (Nat.le_succ _) ⟨hlz, out, ep, r2, he'⟩, rfl, k _ zs' H _ (Ext.refl H) hfr r1 (Ext.new hfr) upd_same⟩
    · cases e
  · cases e
end
end Ev

end
section
set_option maxRecDepth 100000
set_option maxHeartbeats 4000000
/-! Ev L: methods of lists, subscripts, slices, stores by index, isinstance -/
namespace Ev
open PySem PySem.Spec PyProof.Rows L2

/-! ### methods of lists: the content, the arguments; the result, the new content -/
def mApp (xs ps : List PV) : Option (PV × List PV) := match ps with
  | [p] => if xs.length < sizeLine then some (.non, xs ++ [p]) else none
  | _ => none
def mIns (xs ps : List PV) : Option (PV × List PV) := match ps with
  | [.int i, p] => if xs.length < sizeLine ∧ 0 ≤ i ∧ i < 2 ^ 63 then some (.non, xs.take i.toNat ++ [p] ++ xs.drop i.toNat) else none
  | _ => none
def mExt (xs ps : List PV) : Option (PV × List PV) := match ps with
  | [.lst ys] => if xs.length + ys.length ≤ sizeLine then some (.non, xs ++ ys) else none
  | _ => none
def mPop0 (xs ps : List PV) : Option (PV × List PV) := match ps with
  | [] => (xs[xs.length - 1]?).map fun y => (y, xs.dropLast)
  | _ => none
def mPop (xs ps : List PV) : Option (PV × List PV) := match ps with
  | [.int i] => if bound62 i then (seqIndex? i xs.length).bind fun k => (xs[k]?).map fun y => (y, xs.eraseIdx k) else none
  | _ => none
def mClear (xs ps : List PV) : Option (PV × List PV) := match ps with
  | [] => some (.non, [])
  | _ => none
/-- app: the arguments are kept in the list (so they must be pure) -/
def cMeth (app : Bool) (m : List PV → List PV → Option (PV × List PV)) (fo : FE) (fs : FA) : FE := fun ρ G => (fo ρ G).bind fun v G1 => match v with
  | .box j => (match G1[j]? with
    | some (.lst _) => (fs ρ G1).bind fun vs G2 => match G2[j]?, (if app then cTup.pures vs else derefs G2 vs) with
      | some (.lst xs), some ps => (match m xs ps with
        | some (r, ys) => .ok (.pv r) (G2.set j (.lst ys))
        | none => .stuck)
      | _, _ => .stuck
    | _ => .stuck)
  | _ => .stuck
def argOk (app : Bool) (R : RC) (ms : List Addr) (H : Hp) (qs : List PV) (vs : List V) : Prop := if app then RepPs R ms H qs vs else RDs R ms H qs vs
def rM (R : RC) (app : Bool) (m : List PV → List PV → Option (PV × List PV)) : V → List V → Hp → VK → Prop := fun x vs H Q => ∃ ms a xs' ps qs r ys, x = .ref a ∧ a ∈ ms ∧ H a = some (.lst xs') ∧ RepPs R ms H ps xs' ∧ argOk app R ms H qs vs ∧
  m ps qs = some (r, ys) ∧ ∀ z zs, RepPs R ms H ys zs → RepP R ms H r z → Q z (upd H a (.lst zs))
/-- no call of super -/
def noCall : Expr → Bool
  | .Call _ _ _ _ => false
  | _ => true
theorem base_of {o : Expr} {n : Str} {env : Env} {w : Sem Value} (h : noCall o = true) : attributeBase o n env w = w := by
  cases o <;> first | rfl | exact absurd h (by simp [noCall])

section
variable {R : RC} {W : WX} {X : Cx} {ms ms' : List Addr} {H H' : Hp} {G G' : Store} {ρ : Fr} {σ : L2.St} {o e : Expr} {es : List Expr} {fo : FE} {fs : FA} {name : Str} {apos cpos : Pos} {id : String}
theorem RepPs.one {p : PV} {xs : List V} (h : RepPs R ms H [p] xs) : ∃ x, xs = [x] ∧ RepP R ms H p x := by
  simp only [RepPs] at h
  obtain ⟨x, r, rfl, h1, rfl⟩ := h
  exact ⟨x, rfl, h1⟩
theorem RepPs.two {p q : PV} {xs : List V} (h : RepPs R ms H [p, q] xs) : ∃ x y, xs = [x, y] ∧ RepP R ms H p x ∧ RepP R ms H q y := by
  simp only [RepPs] at h
  obtain ⟨x, r, rfl, h1, y, r2, rfl, h2, rfl⟩ := h
  exact ⟨x, y, rfl, h1, h2⟩
theorem RepPs.nil' {xs : List V} (h : RepPs R ms H [] xs) : xs = [] := by simpa only [RepPs] using h
theorem RDs.nil' {xs : List V} (h : RDs R ms H [] xs) : xs = [] := by cases h; rfl
theorem MtR.to {id : String} {r r' : V → List V → Hp → VK → Prop} (h : MtR X id r) (i : ∀ x xs H Q, r' x xs H Q → r x xs H Q) : MtR X id r' := fun pins s σ H x xs v us Q I rx rs q => h pins s σ H x xs v us Q I rx rs (i x xs H Q q)
theorem sm_append : MtR X "list.append" (rM R true mApp) := MtR.to mt_append fun x vs H Q ⟨ms, a, xs', ps, qs, r, ys, h1, h2, h3, h4, h5, h6, k⟩ => by
  unfold mApp at h6
  split at h6
  · rename_i p
    split at h6
    · rename_i hz
      cases h6
      obtain ⟨y, rfl, hy⟩ := RepPs.one (show RepPs R ms H [p] vs from h5)
      subst h1
      exact ⟨a, xs', y, rfl, rfl, h3, by rw [← h4.length]; exact hz, k _ _ (h4.append (RepPs.cons hy RepPs.nil)) (by simp only [RepP])⟩
    · cases h6
  · cases h6
theorem sm_insert : MtR X "list.insert" (rM R true mIns) := MtR.to mt_insert fun x vs H Q ⟨ms, a, xs', ps, qs, r, ys, h1, h2, h3, h4, h5, h6, k⟩ => by
  unfold mIns at h6
  split at h6
  · rename_i i p
    split at h6
    · rename_i hz
      cases h6
      obtain ⟨u, y, rfl, hu, hy⟩ := RepPs.two (show RepPs R ms H [.int i, p] vs from h5)
      simp only [RepP] at hu
      subst hu
      subst h1
      exact ⟨a, xs', i, y, rfl, rfl, h3, by rw [← h4.length]; exact hz.1, hz.2.1, hz.2.2, k _ _ (((h4.take _).append (RepPs.cons hy RepPs.nil)).append (h4.drop _)) (by simp only [RepP])⟩
    · cases h6
  · cases h6
theorem sm_extend : MtR X "list.extend" (rM R false mExt) := MtR.to mt_extend fun x vs H Q ⟨ms, a, xs', ps, qs, r, ys, h1, h2, h3, h4, h5, h6, k⟩ => by
  unfold mExt at h6
  split at h6
  · rename_i zs
    split at h6
    · rename_i hz
      cases h6
      obtain ⟨y, rfl, hy⟩ := RDs.one (show RDs R ms H [.lst zs] vs from h5)
      obtain ⟨b, us, rfl, h7, h8⟩ := rd_lst hy
      subst h1
      exact ⟨a, b, xs', us, rfl, rfl, h3, h7, by rw [← h4.length, ← h8.length]; exact hz, k _ _ (h4.append h8) (by simp only [RepP])⟩
    · cases h6
  · cases h6
theorem RepPs.dropLast {ps : List PV} {xs : List V} (h : RepPs R ms H ps xs) : RepPs R ms H ps.dropLast xs.dropLast := by
  rw [List.dropLast_eq_take, List.dropLast_eq_take, h.length]
  exact h.take _
theorem RepPs.erase {ps : List PV} {xs : List V} (k : Nat) (h : RepPs R ms H ps xs) : RepPs R ms H (ps.eraseIdx k) (xs.eraseIdx k) := by
  rw [List.eraseIdx_eq_take_drop_succ, List.eraseIdx_eq_take_drop_succ]
  exact (h.take _).append (h.drop _)
theorem sm_pop0 : MtR X "list.pop" (rM R false mPop0) := MtR.to mt_pop fun x vs H Q ⟨ms, a, xs', ps, qs, r, ys, h1, h2, h3, h4, h5, h6, k⟩ => by
  unfold mPop0 at h6
  split at h6
  · obtain ⟨y, e1, e2⟩ := Option.map_eq_some_iff.mp h6
    cases e2
    cases RDs.nil' (show RDs R ms H [] vs from h5)
    obtain ⟨z, e3, rz⟩ := h4.get e1
    subst h1
    exact ⟨a, xs', z, rfl, rfl, h3, by rw [← h4.length]; exact e3, k _ _ h4.dropLast rz⟩
  · cases h6
theorem sm_pop : MtR X "list.pop" (rM R false mPop) := MtR.to mt_popAt fun x vs H Q ⟨ms, a, xs', ps, qs, r, ys, h1, h2, h3, h4, h5, h6, k⟩ => by
  unfold mPop at h6
  split at h6
  · rename_i i
    split at h6
    · rename_i hb
      obtain ⟨j, e0, h6⟩ := Option.bind_eq_some_iff.mp h6
      obtain ⟨y, e1, e2⟩ := Option.map_eq_some_iff.mp h6
      cases e2
      obtain ⟨u, rfl, hu⟩ := RDs.one (show RDs R ms H [.int i] vs from h5)
      cases rd_int hu
      obtain ⟨z, e3, rz⟩ := h4.get e1
      obtain ⟨b1, b2⟩ := bound62_ok hb
      subst h1
      exact ⟨a, xs', i, j, z, rfl, rfl, h3, by omega, by omega, by rw [← h4.length]; exact e0, e3, k _ _ (h4.erase _) rz⟩
    · cases h6
  · cases h6
theorem sm_clear : MtR X "list.clear" (rM R false mClear) := MtR.to mt_clear fun x vs H Q ⟨ms, a, xs', ps, qs, r, ys, h1, h2, h3, h4, h5, h6, k⟩ => by
  unfold mClear at h6
  split at h6
  · cases h6
    cases RDs.nil' (show RDs R ms H [] vs from h5)
    subst h1
    exact ⟨a, xs', rfl, rfl, h3, k _ _ .nil (by simp only [RepP])⟩
  · cases h6
theorem upd_step {a : Addr} {u : HO} (h : a ∈ ms) (hu : isBox u = true) : Step ms H ms (upd H a u) := ⟨⟨[], by simp, by simp⟩, fun b v e n _ => by rw [upd_ne (fun q => n (by rw [q]; exact h))]; exact e, fun b o e t => by
  by_cases q : b = a
  · subst q; exact ⟨u, upd_same, fun ps z => by rw [z] at hu; cases hu⟩
  · exact ⟨o, by rw [upd_ne q]; exact e, t⟩⟩
/-- the end of a method's call -/
theorem meth_end {app : Bool} {m : List PV → List PV → Option (PV × List PV)} {j : Nat} {a : Addr} {vs : List Val} {xs : List V} {Q : VK} (g : RepG R ms H G) (hj : ms[j]? = some a) (r : RepVs R ms H vs xs)
    (q : PostE R W σ ms H Q (match G[j]?, (if app then cTup.pures vs else Ev.derefs G vs) with
      | some (.lst xs), some ps => (match m xs ps with
        | some (r, ys) => .ok (.pv r) (G.set j (.lst ys))
        | none => .stuck)
      | _, _ => .stuck)) : rM R app m (.ref a) xs H Q := by
  split at q
  · rename_i zs ps e1 e2
    split at q
    · rename_i r0 ys e3
      obtain ⟨xs', h1, h2⟩ := g.ob j _ a e1 hj
      have ha := List.mem_of_getElem? hj
      refine ⟨ms, a, xs', zs, ps, r0, ys, rfl, ha, h1, h2, ?_, e3, fun z zs' h5 h6 => ?_⟩
      · unfold argOk
        cases app with
        | true => simp only [if_true] at e2 ⊢; exact r.pures e2
        | false => simp only [Bool.false_eq_true, if_false] at e2 ⊢; exact r.derefs g e2
      · have st := upd_step (H := H) (u := .lst zs') ha rfl
        have w := g.write (u := .lst zs') (o := .lst ys) hj rfl ⟨zs', upd_same, RepPs.step st g.own _ _ h5⟩
        exact q ms z _ w.2 w.1 (RepP.step st g.own _ _ h6)
    · exact q.elim
  · exact q.elim
theorem se_meth0 {app : Bool} {m : List PV → List PV → Option (PV × List PV)} (slot : Slot "list" name id) (hty : typeOf (.builtin id) = pure (.type "method_descriptor")) (hm : MtR X id (rM R app m)) (ho : PE X o (tE R W fo))
    (hb : noCall o = true) (hline : (apos.endLine == cpos.line) = true) : PE X (.Call (.Attribute o name apos) [] [] cpos) (tE R W (cMeth app m fo cNil)) :=
  PE.to (pe_bm0 F.plainAttrs_list slot hty hm ho (base_of hb) hline) fun σ H Q ⟨ms, ρ, G, g, s, q⟩ => by
    refine tE_then g s (PostE.r (show PostE R W σ ms H Q ((fo ρ G).bind fun v G1 => match v with
      | .box j => (match G1[j]? with
        | some (.lst _) => (cNil ρ G1).bind fun vs G2 => match G2[j]?, (if app then cTup.pures vs else Ev.derefs G2 vs) with
          | some (.lst xs), some ps => (match m xs ps with
            | some (r, ys) => .ok (.pv r) (G2.set j (.lst ys))
            | none => .stuck)
          | _, _ => .stuck
        | _ => .stuck)
      | _ => .stuck) from q)) fun v G1 e1 q1 ms1 x H1 st1 g1 s1 r1 => ?_
    cases v with
    | pv p => exact q1.elim
    | box j =>
      obtain ⟨a, hj, rfl⟩ := r1
      have q1 := PostE.of (show PostR R W σ ms H _ (match G1[j]? with
        | some (.lst _) => (cNil ρ G1).bind fun vs G2 => match G2[j]?, (if app then cTup.pures vs else Ev.derefs G2 vs) with
          | some (.lst xs), some ps => (match m xs ps with
            | some (r, ys) => .ok (.pv r) (G2.set j (.lst ys))
            | none => .stuck)
          | _, _ => .stuck
        | _ => .stuck) from q1)
      split at q1
      · rename_i zs e2
        obtain ⟨ys, h1, h2⟩ := g1.ob j _ a e2 hj
        exact ⟨.inl ⟨rfl, ys, SqL.of h1⟩, meth_end (vs := []) g1 hj .nil (q1.on st1)⟩
      · exact q1.elim
theorem se_meth {app : Bool} {m : List PV → List PV → Option (PV × List PV)} (slot : Slot "list" name id) (hty : typeOf (.builtin id) = pure (.type "method_descriptor")) (hm : MtR X id (rM R app m)) (ho : PE X o (tE R W fo)) (ha : PA X (e :: es) (tA R W fs))
    (hb : noCall o = true) (hs : (e :: es).all notStar = true) (hn : (e :: es).length < 30) (hline : (apos.endLine == cpos.line) = true) : PE X (.Call (.Attribute o name apos) (e :: es) [] cpos) (tE R W (cMeth app m fo fs)) := by
  have hs0 := hs
  simp only [List.all_cons, Bool.and_eq_true] at hs
  refine PE.to (pe_bm F.plainAttrs_list slot hty hm ho ha (base_of hb) ?_ hline (starEach_ns hs.1) (backTo_ns hs.2)) fun σ H Q ⟨ms, ρ, G, g, s, q⟩ => ?_
  · have h1 : (backTo cpos (starEach (e :: es) X.env)).all (fun x => !x.1) = true := by
      have := backTo_ns (pos := cpos) (env := X.env) hs0
      rw [List.any_eq_false] at this
      rw [List.all_eq_true]
      intro x hx
      have := this x hx
      simpa using this
    rw [h1]
    have : decide ((e :: es).length + ([] : List Keyword).length + (if ([] : List Keyword).isEmpty then 0 else 1) < 30) = true := decide_eq_true (by simpa using hn)
    rw [this]
    rfl
  · refine tE_then g s (PostE.r (show PostE R W σ ms H Q ((fo ρ G).bind fun v G1 => match v with
      | .box j => (match G1[j]? with
        | some (.lst _) => (fs ρ G1).bind fun vs G2 => match G2[j]?, (if app then cTup.pures vs else Ev.derefs G2 vs) with
          | some (.lst xs), some ps => (match m xs ps with
            | some (r, ys) => .ok (.pv r) (G2.set j (.lst ys))
            | none => .stuck)
          | _, _ => .stuck
        | _ => .stuck)
      | _ => .stuck) from q)) fun v G1 e1 q1 ms1 x H1 st1 g1 s1 r1 => ?_
    cases v with
    | pv p => exact q1.elim
    | box j =>
      obtain ⟨a, hj, rfl⟩ := r1
      have q1 := PostE.of (show PostR R W σ ms H _ (match G1[j]? with
        | some (.lst _) => (fs ρ G1).bind fun vs G2 => match G2[j]?, (if app then cTup.pures vs else Ev.derefs G2 vs) with
          | some (.lst xs), some ps => (match m xs ps with
            | some (r, ys) => .ok (.pv r) (G2.set j (.lst ys))
            | none => .stuck)
          | _, _ => .stuck
        | _ => .stuck) from q1)
      split at q1
      · rename_i zs e2
        obtain ⟨ys, h1, h2⟩ := g1.ob j _ a e2 hj
        refine ⟨.inl ⟨rfl, ys, SqL.of h1⟩, ?_⟩
        refine tA_then g1 s1 ((PostE.r q1).on st1) fun vs G2 e3 q2 ms2 xs H2 st2 g2 s2 r2 => ?_
        refine meth_end (W := W) (σ := σ) g2 (st2.get hj) r2 (PostE.of ?_)
        exact (q2.imp fun u G3 z ms' x H' s3 => z ms' x H' ((st1.trans st2).trans s3)).on st2
      · exact q1.elim
end
end Ev

end
section
set_option maxRecDepth 100000
set_option maxHeartbeats 4000000
/-! Ev M: isinstance, subscripts, slices, stores by index -/
namespace Ev
open PySem PySem.Spec PyProof.Rows L2

/-! ### isinstance against built-in types -/
def tyName : PV → Option String
  | .non => some "NoneType"
  | .bl _ => some "bool"
  | .int _ => some "int"
  | .str _ => some "str"
  | .tup _ => some "tuple"
  | .lst _ => some "list"
  | .scr _ => some "list"
  | _ => none
def tyNames : List String := ["NoneType", "bool", "int", "str", "tuple", "list"]
def tyAsk : List String := ["bool", "int", "str", "tuple", "list", "dict"]
def tySub (a b : String) : Bool := a == b || (a == "bool" && b == "int")
def pyIsi : List PV → Option PV
  | [p, .ty n] => (match tyName p with
    | some a => if tyAsk.contains n then some (.bl (tySub a n)) else none
    | none => none)
  | _ => none
theorem kit_table : (tyNames.all fun a => tyAsk.all fun b => kitB a b == some (tySub a b)) = true := by decide +kernel
theorem tyName_mem {p : PV} {a : String} (h : tyName p = some a) : a ∈ tyNames := by
  unfold tyName at h
  split at h <;> first | (cases h; decide) | cases h

/-! ### slices -/
def cutL {α : Type} (xs : List α) (lo hi : Option Int) : List α := (xs.drop (HT.sIx xs.length 0 lo)).take (HT.sIx xs.length xs.length hi - HT.sIx xs.length 0 lo)
def pySlice (p : PV) (lo hi : Option Int) : Option PV := match p with
  | .lst xs => some (.lst (cutL xs lo hi))
  | .tup xs => some (.tup (cutL xs lo hi))
  | .str z => if z.length ≤ sizeLine then some (.str (cutS z lo hi)) else none
  | _ => none
def pySliceL (p : PV) (lo hi : Option Int) : Option (List PV) := match p with
  | .lst xs => some (cutL xs lo hi)
  | .scr xs => some (cutL xs lo hi)
  | _ => none
abbrev FO := Fr → Store → Res (Option Int)
def oNo : FO := fun _ G => .ok none G
def oAt (f : FE) : FO := fun ρ G => (f ρ G).bind fun v G1 => match v with
  | .pv (.int i) => .ok (some i) G1
  | _ => .stuck
def cSl (fo : FE) (fl fh : FO) : FE := fun ρ G => (fo ρ G).bind fun v G1 => (fl ρ G1).bind fun l G2 => (fh ρ G2).bind fun h G3 => ofO ((deref G3 v).bind fun p => pySlice p l h) G3
def cSlF (fo : FE) (fl fh : FO) : FF := fun ρ G => (fo ρ G).bind fun v G1 => (fl ρ G1).bind fun l G2 => (fh ρ G2).bind fun h G3 => ofOL ((deref G3 v).bind fun p => pySliceL p l h) G3
/-- xs[i] = v -/
def sPut (fo fi fe : FE) : FS := fun ρ G => ofR ρ (fe ρ G) fun v G1 => ofR ρ (fo ρ G1) fun o G2 => ofR ρ (fi ρ G2) fun i G3 => match v, o, i with
  | .pv p, .box j, .pv (.int k) => (match G3[j]? with
    | some (.lst xs) => (match ixN xs.length k with
      | some n => .next ρ (G3.set j (.lst (xs.set n p)))
      | none => .stuck)
    | _ => .stuck)
  | _, _, _ => .stuck
/-- a subscript that is no slice -/
def notSlice : Expr → Bool
  | .Slice .. => false
  | _ => true
theorem plainIx_of {b : Expr} (h : notSlice b = true) : PlainIx b := fun o i => by
  cases b <;> first | rfl | exact absurd h (by simp [notSlice])

section
variable {R : RC} {W : WX} {X : Cx} {ms ms' : List Addr} {H H' : Hp} {G G' : Store} {ρ : Fr} {σ : L2.St} {a b e o i : Expr} {fa fb fo fi fe : FE} {pos p2 : Pos} {lo hi : Option Expr} {fl fh : FO}
theorem RD.ty {p : PV} {n : String} {x : V} (e : tyName p = some n) (h : RD R ms H p x) : TyX R.K H x (.type n) := by
  unfold tyName at e
  split at e <;> first | cases e | skip
  · cases rd_non h; exact .base .non
  · cases rd_bl h; exact .base (.bl _)
  · cases rd_int h; exact .base (.int _)
  · cases rd_str h; exact .base (.str _)
  · obtain ⟨a, xs, rfl, h1, h2⟩ := rd_tup h
    rcases h1 with ⟨h1 | ⟨ob, h1⟩, _⟩ | ⟨ob, its, n, h1, h2, _⟩
    · exact .base (.tup h1)
    · exact .fTuple h1
    · exact .kTuple h1 h2
  · obtain ⟨a, xs, rfl, h1, h2⟩ := rd_lst h
    exact .base (.lst h1)
  · obtain ⟨a, xs, rfl, h1, h2⟩ := rd_scr h
    rcases h1 with ⟨h1 | ⟨ob, h1⟩, _⟩ | ⟨ob, its, n, h1, h2, _⟩
    · exact .base (.lst h1)
    · exact .base (.frz h1)
    · exact .kList h1 h2
theorem sb_isi (hK : X.K = R.K) : CallR X (.builtin "isinstance") (rC R pyIsi) := CallR.to call_isi fun xs H Q ⟨ms, ps, r, rd, t, e, k⟩ => by
  unfold pyIsi at e
  split at e
  · rename_i p n
    obtain ⟨x, y, rfl, h1, h2⟩ := rd.two
    split at e
    · rename_i a ea
      split at e
      · rename_i hn
        cases e
        have hy : y = .ty n := h2
        subst hy
        refine ⟨x, .ty n, .type a, .type n, _, rfl, .ty n, by rw [hK]; exact RD.ty ea h1, ?_, k _ H (Ext.refl H) (by simp only [RepP]; rfl)⟩
        have q := kit_table
        rw [List.all_eq_true] at q
        have q1 := q a (tyName_mem ea)
        rw [List.all_eq_true] at q1
        exact kit_ty (eq_of_beq (q1 n (by simpa using hn)))
      · cases e
    · cases e
  · cases e

/-! ### a[b] -/
theorem atI_rep {ps : List PV} {xs : List V} {k : Int} {p : PV} (r : RepPs R ms H ps xs) (e : atI ps k = some p) : ∃ x, atI xs k = some x ∧ RepP R ms H p x := by
  unfold atI at e ⊢
  obtain ⟨j, e1, e2⟩ := Option.bind_eq_some_iff.mp e
  obtain ⟨x, e3, h⟩ := r.get e2
  exact ⟨x, by rw [← r.length, e1]; exact e3, h⟩
theorem ix_ok (hK : X.K = R.K) : IxR X (rB R pyItem) := by
  intro value slice pins s σ H x y v u Q I rx ry h hs
  refine ix_seq value slice pins s σ H x y v u Q I rx ry ?_ hs
  obtain ⟨ms, p, q, r, h1, h2, t, e, k⟩ := h
  unfold pyItem at e
  split at e
  · rename_i j
    cases rd_int h2
    split at e
    · obtain ⟨a, xs, rfl, h3, h4⟩ := rd_lst h1
      obtain ⟨z, e1, hz⟩ := atI_rep h4 e
      exact .inl ⟨a, xs, j, z, rfl, rfl, SqL.of h3, e1, k _ H (Ext.refl H) hz⟩
    · obtain ⟨a, xs, rfl, h3, h4⟩ := rd_tup h1
      obtain ⟨z, e1, hz⟩ := atI_rep h4 e
      exact .inr (.inl ⟨a, xs, j, z, rfl, rfl, by rw [hK]; exact h3.sq, e1, k _ H (Ext.refl H) hz⟩)
    · obtain ⟨a, xs, rfl, h3, h4⟩ := rd_scr h1
      obtain ⟨z, e1, hz⟩ := atI_rep h4 e
      exact .inl ⟨a, xs, j, z, rfl, rfl, by rw [hK]; exact h3.sq, e1, k _ H (Ext.refl H) hz⟩
    · cases rd_str h1
      split at e
      · rename_i hz
        obtain ⟨c, e1, rfl⟩ := Option.map_eq_some_iff.mp e
        exact .inr (.inr ⟨_, j, c, rfl, rfl, hz, e1, k _ H (Ext.refl H) (by simp only [RepP])⟩)
      · cases e
    · cases e
  · cases e
theorem se_ix (hK : X.K = R.K) (ha : PE X a (tE R W fa)) (hb : PE X b (tE R W fb)) (hs : notSlice b = true) : PE X (.Subscript a b pos) (tE R W (cBin pyItem fa fb)) :=
  PE.to (pe_ix (ix_ok hK) ha hb (plainIx_of hs)) fun σ H Q h => bin_then (k := fun x y G2 => ofO (opt2 pyItem (Ev.deref G2 x) (Ev.deref G2 y)) G2) h fun ms ρ G v u x y H g s r1 r2 q => by
    obtain ⟨p, e1, q⟩ := ofO_some q.r
    obtain ⟨p1, p2, e2, e3, e4⟩ := opt2_some e1
    exact ⟨ms, p1, p2, p, r1.deref g e2, r2.deref g e3, g.trk, e4, fun z H' ex rp => q ms z H' ex.step (g.ext ex) rp⟩

/-! ### a[lo:hi] -/
theorem cut_rep {ps : List PV} {xs : List V} {l h : Option Int} (r : RepPs R ms H ps xs) : RepPs R ms H (cutL ps l h) (cutV xs l h) := by
  unfold cutL cutV
  rw [r.length]
  exact (r.drop _).take _
theorem cut_whole {α : Type} {xs : List α} {l h : Option Int} (e : HT.sIx xs.length 0 l = 0 ∧ HT.sIx xs.length xs.length h = xs.length) : cutL xs l h = xs := by
  unfold cutL
  rw [e.1, e.2]
  simp
def rSl (R : RC) : V → Option Int → Option Int → Hp → VK → Prop := fun x l h H Q => ∃ ms p r, RD R ms H p x ∧ Trk ms H ∧ pySlice p l h = some r ∧ ∀ z H', Ext H H' → RepP R ms H' r z → Q z H'
def rSlF (R : RC) : V → Option Int → Option Int → Hp → VK → Prop := fun x l h H Q => ∃ ms p rs, RD R ms H p x ∧ Trk ms H ∧ pySliceL p l h = some rs ∧ NewL R ms H rs Q
theorem rep_lst_new {l : Addr} {ps : List PV} {xs : List V} (t : Trk ms H) (hl : H l = none) (r : RepPs R ms H ps xs) : RepP R ms (upd H l (.lst xs)) (.lst ps) (.ref l) := by
  simp only [RepP]
  exact ⟨l, xs, rfl, ⟨upd_same, fun hm => by obtain ⟨u, e, _⟩ := t l hm; rw [hl] at e; cases e⟩, RepPs.step (Ext.new hl).step t.own _ _ r⟩
theorem sl_ok (hK : X.K = R.K) : SlR X (rSl R) := by
  intro pins s σ H x v vl vu l h sl Q I rx hs pl pu ⟨ms, p, r, h1, t, e, k⟩
  unfold pySlice at e
  split at e
  · cases e
    obtain ⟨a, xs, rfl, h3, h4⟩ := rd_lst h1
    exact sl_list pins s σ H _ v vl vu l h sl Q I rx hs pl pu ⟨a, xs, rfl, SqL.of h3, fun q hq => k _ _ (Ext.new hq) (rep_lst_new t hq (cut_rep h4))⟩
  · cases e
    obtain ⟨a, xs, rfl, h3, h4⟩ := rd_tup h1
    refine sl_tupA pins s σ H _ v vl vu l h sl Q I rx hs pl pu ⟨a, xs, rfl, by rw [hK]; exact h3.sq, fun hw => k _ H (Ext.refl H) ?_, fun _ q hq => k _ _ (Ext.new hq) (rep_tup t hq (cut_rep h4))⟩
    rw [cut_whole (by rw [h4.length]; exact hw)]
    simp only [RepP]
    exact ⟨a, xs, rfl, h3, h4⟩
  · split at e
    · rename_i hz
      cases e
      cases rd_str h1
      exact sl_str pins s σ H _ v vl vu l h sl Q I rx hs pl pu ⟨_, rfl, hz, k _ H (Ext.refl H) (by simp only [RepP])⟩
    · cases e
  · cases e
theorem slF_ok (hK : X.K = R.K) : SlR X (rSlF R) := by
  intro pins s σ H x v vl vu l h sl Q I rx hs pl pu ⟨ms, p, r, h1, t, e, k⟩
  unfold pySliceL at e
  split at e
  · cases e
    obtain ⟨a, xs, rfl, h3, h4⟩ := rd_lst h1
    exact sl_list pins s σ H _ v vl vu l h sl Q I rx hs pl pu ⟨a, xs, rfl, SqL.of h3, fun q hq => k q _ H _ (Ext.refl H) hq (cut_rep h4) (Ext.new hq) upd_same⟩
  · cases e
    obtain ⟨a, xs, rfl, h3, h4⟩ := rd_scr h1
    exact sl_list pins s σ H _ v vl vu l h sl Q I rx hs pl pu ⟨a, xs, rfl, by rw [hK]; exact h3.sq, fun q hq => k q _ H _ (Ext.refl H) hq (cut_rep h4) (Ext.new hq) upd_same⟩
  · cases e
def PostO (R : RC) (W : WX) (σ : L2.St) (ms : List Addr) (H : Hp) (Q : Option Int → Hp → Prop) : Res (Option Int) → Prop := PostR R W σ ms H fun v G => ∀ ms' H', Step ms H ms' H' → RepG R ms' H' G → Q v H'
def tO (R : RC) (W : WX) (f : FO) : TO := fun σ H Q => ∃ ms ρ G, RepG R ms H G ∧ RepS R ms H ρ σ ∧ PostO R W σ ms H Q (f ρ G)
theorem PO.to {e : Option Expr} {t t' : TO} (h : PO X e t) (i : ∀ σ H Q, t' σ H Q → t σ H Q) : PO X e t' := ⟨fun pins s σ H Q I q => h.run pins s σ H Q I (i σ H Q q)⟩
theorem so_none : PO X none (tO R W oNo) := PO.to po_none fun σ H Q ⟨ms, ρ, G, g, s, q⟩ => q ms H (Step.refl ms H) g
theorem so_some (h : PE X e (tE R W fe)) : PO X (some e) (tO R W (oAt fe)) := PO.to (po_some h) fun σ H Q ⟨ms, ρ, G, g, s, q⟩ => by
  refine tE_then g s (show PostR R W σ ms H _ ((fe ρ G).bind fun v G1 => match v with
    | .pv (.int i) => .ok (some i) G1
    | _ => .stuck) from q) fun v G1 e1 q1 ms1 x H1 st1 g1 s1 r1 => ?_
  split at q1
  · exact ⟨_, r1, q1 ms1 H1 st1 g1⟩
  · exact q1.elim
theorem tO_then {α : Type} {fo : FO} {Q2 : Option Int → Hp → Prop} {k : Option Int → Store → Res α} {O : α → Store → Prop} (g : RepG R ms H G) (s : RepS R ms H ρ σ) (h : PostR R W σ ms H O ((fo ρ G).bind k))
    (go : ∀ v G1, fo ρ G = .ok v G1 → PostR R W σ ms H O (k v G1) → ∀ ms1 H1, Step ms H ms1 H1 → RepG R ms1 H1 G1 → RepS R ms1 H1 ρ σ → Q2 v H1) : tO R W fo σ H Q2 := by
  refine ⟨ms, ρ, G, g, s, ?_⟩
  unfold PostO
  cases e : fo ρ G with
  | ok v G1 =>
    rw [e] at h
    exact fun ms1 H1 st g1 => go v G1 e h ms1 H1 st g1 (s.step g st)
  | exc e G1 => rw [e] at h; exact h
  | stuck => rw [e] at h; exact h
theorem se_sl (hK : X.K = R.K) (ho : PE X o (tE R W fo)) (hl : PO X lo (tO R W fl)) (hh : PO X hi (tO R W fh)) : PE X (.Subscript o (.Slice lo hi none p2) pos) (tE R W (cSl fo fl fh)) :=
  PE.to (pe_slice (sl_ok hK) ho hl hh) fun σ H Q ⟨ms, ρ, G, g, s, q⟩ => by
    refine tE_then g s (PostE.r (show PostE R W σ ms H Q ((fo ρ G).bind fun v G1 => (fl ρ G1).bind fun l G2 => (fh ρ G2).bind fun h G3 => ofO ((Ev.deref G3 v).bind fun p => pySlice p l h) G3) from q)) fun v G1 e1 q1 ms1 x H1 st1 g1 s1 r1 => ?_
    refine tO_then g1 s1 (q1.on st1) fun l G2 e2 q2 ms2 H2 st2 g2 s2 => ?_
    refine tO_then g2 s2 (q2.on st2) fun h G3 e3 q3 ms3 H3 st3 g3 s3 => ?_
    obtain ⟨r, e4, q4⟩ := ofO_some q3
    obtain ⟨p, e5, e6⟩ := Option.bind_eq_some_iff.mp e4
    exact ⟨ms3, p, r, (r1.step g1 (st2.trans st3)).deref g3 e5, g3.trk, e6, fun z H' ex rp => q4 ms3 z H' (((st1.trans st2).trans st3).trans ex.step) (g3.ext ex) rp⟩
theorem sf_sl (hK : X.K = R.K) (ho : PE X o (tE R W fo)) (hl : PO X lo (tO R W fl)) (hh : PO X hi (tO R W fh)) : PE X (.Subscript o (.Slice lo hi none p2) pos) (tF R W (cSlF fo fl fh)) :=
  PE.to (pe_slice (slF_ok hK) ho hl hh) fun σ H Q ⟨ms, ρ, G, g, s, q⟩ => by
    refine tE_then g s (PostF.r (show PostF R W σ ms H Q ((fo ρ G).bind fun v G1 => (fl ρ G1).bind fun l G2 => (fh ρ G2).bind fun h G3 => ofOL ((Ev.deref G3 v).bind fun p => pySliceL p l h) G3) from q)) fun v G1 e1 q1 ms1 x H1 st1 g1 s1 r1 => ?_
    refine tO_then g1 s1 (q1.on st1) fun l G2 e2 q2 ms2 H2 st2 g2 s2 => ?_
    refine tO_then g2 s2 (q2.on st2) fun h G3 e3 q3 ms3 H3 st3 g3 s3 => ?_
    obtain ⟨r, e4, q4⟩ := ofOL_some q3
    obtain ⟨p, e5, e6⟩ := Option.bind_eq_some_iff.mp e4
    have stA := (st1.trans st2).trans st3
    exact ⟨ms3, p, r, (r1.step g1 (st2.trans st3)).deref g3 e5, g3.trk, e6, NewL.post g3 fun ms' p' H' st' g' l' => q4 ms' p' H' (stA.trans st') g' (Nat.le_trans stA.len l')⟩

/-! ### xs[i] = v -/
theorem assign_sub (h : notSlice i = true) : ∀ v, assign (.Subscript o i pos) X.env v = (do
      let ov ← holding [v] (eval o X.env)
      let iv ← holding [v, ov] (eval i X.env)
      standAt pos
      holding [v, ov, iv] (setItem ov iv v)
      release [v, ov, iv] []) := fun v => by
  cases i <;> first | rfl | exact absurd h (by simp [notSlice])
theorem ss_put (hn : notSlice i = true) (ho : PE X o (tE R W fo)) (hi : PE X i (tE R W fi)) (he : PE X e (tE R W fe)) (hs : swapsWithSole [.Subscript o i p2] e pos.line X.env = pure false) (hw : swappedStores [.Subscript o i p2] e X.env = pure none) :
    PS X (.Assign [.Subscript o i p2] e pos) (tS R W (sPut fo fi fe)) :=
  PS.to (ps_asg he (pg_sub ho hi set_list (assign_sub hn)) hs hw) fun D σ H ⟨ms, ρ, G, g, s, q⟩ => by
    refine tE_stmt g s (k := fun v G1 => ofR ρ (fo ρ G1) fun o G2 => ofR ρ (fi ρ G2) fun i G3 => match v, o, i with
      | .pv p, .box j, .pv (.int k) => (match G3[j]? with
        | some (.lst xs) => (match ixN xs.length k with
          | some n => .next ρ (G3.set j (.lst (xs.set n p)))
          | none => .stuck)
        | _ => .stuck)
      | _, _, _ => .stuck) q fun v G1 e1 q1 ms1 x H1 st1 g1 s1 r1 => ?_
    refine tE_stmt g1 s1 (q1.on st1) fun o G2 e2 q2 ms2 y H2 st2 g2 s2 r2 => ?_
    refine tE_stmt g2 s2 (q2.on st2) fun i G3 e3 q3 ms3 z H3 st3 g3 s3 r3 => ?_
    split at q3
    · rename_i p j k
      split at q3
      · rename_i xs eG
        split at q3
        · rename_i n en
          obtain ⟨a, hj, rfl⟩ := r2
          have hj3 := st3.get hj
          obtain ⟨ys, h1, h2⟩ := g3.ob j _ a eG hj3
          have hz : z = .int k := r3
          subst hz
          have rp : RepP R ms3 H3 p x := RepP.step (st2.trans st3) g1.own p x r1
          refine ⟨a, ys, k, n, rfl, rfl, h1, by rw [← h2.length]; exact en, ?_⟩
          have st := upd_step (H := H3) (u := .lst (ys.set n x)) (List.mem_of_getElem? hj3) rfl
          have w := g3.write (u := .lst (ys.set n x)) (o := .lst (xs.set n p)) hj3 rfl ⟨_, upd_same, RepPs.step st g3.own _ _ (RepPs.set rp n h2)⟩
          exact q3 ms3 σ _ (st3.trans w.2) w.1 (s3.step g3 w.2)
        · exact q3.elim
      · exact q3.elim
    · exact q3.elim
end
end Ev

end
section
set_option maxRecDepth 100000
set_option maxHeartbeats 4000000
/-! Ev N: chained comparisons, starred displays -/
namespace Ev
open PySem PySem.Spec PyProof.Rows L2

def cChain (f f' : PV → PV → Option Bool) (fa fb fc : FE) : FT := fun ρ G => (fa ρ G).bind fun x G1 => (fb ρ G1).bind fun y G2 => (ofOB (opt2B f (deref G2 x) (deref G2 y)) G2).bind fun c G3 =>
  if c = true then (fc ρ G3).bind fun z G4 => ofOB (opt2B f' (deref G4 y) (deref G4 z)) G4 else .ok false G3
def asV (t : FT) : FE := fun ρ G => (t ρ G).bind fun c G1 => .ok (.pv (.bl c)) G1
/-- *e, then the rest -/
def itemsOf (G : Store) (v : Val) : Option (List PV) := match deref G v with
  | some (.tup xs) => some xs
  | some (.lst xs) => some xs
  | some (.scr xs) => some xs
  | _ => none
def cSplice (fa : FE) (fs : FA) : FA := fun ρ G => (fa ρ G).bind fun v G1 => match itemsOf G1 v with
  | some xs => (fs ρ G1).bind fun vs G2 => .ok (xs.map .pv ++ vs) G2
  | none => .stuck
def few (fs : FA) : FA := fun ρ G => (fs ρ G).bind fun vs G1 => if vs.length ≤ sizeLine then .ok vs G1 else .stuck
section
variable {R : RC} {W : WX} {X : Cx} {ms ms' : List Addr} {H H' : Hp} {G G' : Store} {ρ : Fr} {σ : L2.St} {a b c e : Expr} {es : List Expr} {fa fb fc : FE} {fs : FA} {pos : Pos} {op op' : CmpOp} {f f' : PV → PV → Option Bool}
theorem opt2B_some {op : PV → PV → Option Bool} {a b : Option PV} {r : Bool} (h : opt2B op a b = some r) : ∃ x y, a = some x ∧ b = some y ∧ op x y = some r := by
  cases a with
  | none => cases h
  | some x =>
    cases b with
    | none => cases h
    | some y => exact ⟨x, y, rfl, rfl, h⟩
theorem chain_red {Q : Bool → Hp → Prop} {σ : L2.St} {H : Hp} (h : tT R W (cChain f f' fa fb fc) σ H Q) : tTest (tChain (rB R (bl f)) (rB R (bl f')) (tE R W fa) (tE R W fb) (tE R W fc)) σ H Q := by
  obtain ⟨ms, ρ, G, g, s, q⟩ := h
  refine tE_then g s (PostT.r (show PostT R W σ ms H Q ((fa ρ G).bind fun x G1 => (fb ρ G1).bind fun y G2 => (ofOB (opt2B f (Ev.deref G2 x) (Ev.deref G2 y)) G2).bind fun c G3 =>
    if c = true then (fc ρ G3).bind fun z G4 => ofOB (opt2B f' (Ev.deref G4 y) (Ev.deref G4 z)) G4 else .ok false G3) from q)) fun v G1 e1 q1 ms1 x H1 st1 g1 s1 r1 => ?_
  refine tE_then g1 s1 (q1.on st1) fun u G2 e2 q2 ms2 y H2 st2 g2 s2 r2 => ?_
  have q2 := q2.on st2
  cases eo : opt2B f (Ev.deref G2 v) (Ev.deref G2 u) with
  | none => rw [eo] at q2; exact q2.elim
  | some k =>
    rw [eo] at q2
    obtain ⟨p1, p2, e3, e4, e5⟩ := opt2B_some eo
    refine ⟨ms2, p1, p2, .bl k, (r1.step g1 st2).deref g2 e3, r2.deref g2 e4, g2.trk, by simp only [bl, e5, Option.map_some], fun z H3 ex rz => ?_⟩
    simp only [RepP] at rz
    refine ⟨k, rz, ?_⟩
    have st3 := ex.step (ms := ms2)
    have g3 := g2.ext ex
    cases k with
    | false => exact ⟨false, rfl, q2 ms2 H3 ((st1.trans st2).trans st3) g3⟩
    | true =>
      rw [if_pos rfl]
      refine tE_then g3 (s2.step g2 st3) (q2.on st3) fun w G4 e6 q4 ms4 t H4 st4 g4 s4 r4 => ?_
      obtain ⟨k2, e7, q5⟩ := ofOB_some q4
      obtain ⟨p3, p4, e8, e9, e10⟩ := opt2B_some e7
      refine ⟨ms4, p3, p4, .bl k2, ((r2.step g2 st3).step g3 st4).deref g4 e8, r4.deref g4 e9, g4.trk, by simp only [bl, e10, Option.map_some], fun z2 H5 ex2 rz2 => ?_⟩
      simp only [RepP] at rz2
      exact ⟨k2, rz2, q5 ms4 H5 ((((st1.trans st2).trans st3).trans st4).trans ex2.step) (g4.ext ex2)⟩
theorem st_chain (ho : OpR X (compareOp op) (rB R (bl f))) (ho' : OpR X (compareOp op') (rB R (bl f'))) (ha : PE X a (tE R W fa)) (hb : PE X b (tE R W fb)) (hc : PE X c (tE R W fc)) (hm : lastMarks [op, op'] [b, c] = false) :
    PT X (.Compare a [op, op'] [b, c] pos) (tT R W (cChain f f' fa fb fc)) := PT.to (pt_chain ho ho' ha hb hc hm) fun σ H Q h => chain_red h
theorem se_chain (ho : OpR X (compareOp op) (rB R (bl f))) (ho' : OpR X (compareOp op') (rB R (bl f'))) (ha : PE X a (tE R W fa)) (hb : PE X b (tE R W fb)) (hc : PE X c (tE R W fc)) (hm : lastMarks [op, op'] [b, c] = false) :
    PE X (.Compare a [op, op'] [b, c] pos) (tE R W (asV (cChain f f' fa fb fc))) := PE.to (pe_chain ho ho' ha hb hc hm) fun σ H Q ⟨ms, ρ, G, g, s, q⟩ => by
  have h : tT R W (cChain f f' fa fb fc) σ H (fun k H1 => Q (.bl k) H1) := ⟨ms, ρ, G, g, s, by
    unfold asV at q
    cases e1 : cChain f f' fa fb fc ρ G with
    | stuck => rw [e1] at q; exact q
    | exc e G1 => rw [e1] at q; exact q
    | ok k G1 =>
      rw [e1] at q
      exact fun ms1 H1 st g1 => q ms1 (.bl k) H1 st g1 (by show RepP R ms1 H1 (.bl k) (.bl k); simp only [RepP])⟩
  have z := chain_red h
  -- the same reading, its bools handed on
  have key : ∀ {t : TE} {σ H}, tTest t σ H (fun k H1 => Q (.bl k) H1) → t σ H (fun x H' => ∃ k, x = .bl k ∧ Q (.bl k) H') := fun h => h
  have mono : ∀ {x y : V} {H : Hp} {Q Q' : VK} {f}, (∀ v H, Q v H → Q' v H) → rB R (bl f) x y H Q → rB R (bl f) x y H Q' := fun i ⟨ms, p, q, r, h1, h2, t, e, k⟩ => ⟨ms, p, q, r, h1, h2, t, e, fun z H' ex rp => i _ _ (k z H' ex rp)⟩
  have monoE : ∀ {fx : FE} {σ H} {Q Q' : VK}, (∀ v H, Q v H → Q' v H) → tE R W fx σ H Q → tE R W fx σ H Q' := fun i ⟨ms, ρ, G, g, s, q⟩ => ⟨ms, ρ, G, g, s, q.imp i⟩
  have z' := key z
  unfold tChain at z' ⊢
  refine monoE (fun x H1 h1 => monoE (fun y H2 h2 => mono (fun v H3 ⟨k, ek, h3⟩ => ⟨k, ek, ?_⟩) h2) h1) z'
  cases k with
  | false =>
    obtain ⟨k2, e2, h4⟩ := (show ∃ k, (V.bl false) = .bl k ∧ Q (.bl k) H3 from h3)
    cases e2
    exact h4
  | true =>
    rw [if_pos rfl] at h3 ⊢
    exact monoE (fun w H4 h4 => mono (fun v H5 ⟨k, ek, h5⟩ => by rw [ek]; exact h5) h4) h3

/-! ### starred displays -/
theorem rep_pvs {ps : List PV} {xs : List V} (r : RepPs R ms H ps xs) : RepVs R ms H (ps.map .pv) xs := by
  induction ps generalizing xs with
  | nil => rw [RepPs.nil' r]; exact .nil
  | cons p ps ih =>
    simp only [RepPs] at r
    obtain ⟨x, t, rfl, h1, h2⟩ := r
    exact .cons h1 (ih h2)
theorem items_rep {v : Val} {x : V} {ps : List PV} (g : RepG R ms H G) (e : itemsOf G v = some ps) (r : RepV R ms H v x) : ∃ a xs, x = .ref a ∧ (SqT R.K H a xs ∨ SqL R.K H a xs) ∧ RepPs R ms H ps xs := by
  unfold itemsOf at e
  split at e <;> first | cases e | skip
  · rename_i e1
    obtain ⟨a, xs, rfl, h1, h2⟩ := rd_tup (r.deref g e1)
    exact ⟨a, xs, rfl, .inl h1.sq, h2⟩
  · rename_i e1
    obtain ⟨a, xs, rfl, h1, h2⟩ := rd_lst (r.deref g e1)
    exact ⟨a, xs, rfl, .inr (SqL.of h1), h2⟩
  · rename_i e1
    obtain ⟨a, xs, rfl, h1, h2⟩ := rd_scr (r.deref g e1)
    exact ⟨a, xs, rfl, .inr h1.sq, h2⟩
theorem sa_star {p : Pos} (hK : X.K = R.K) (h : PE X e (tE R W fa)) (t : PA X es (tA R W fs)) : PA X (.Starred e p :: es) (tA R W (cSplice fa fs)) :=
  PA.to (StX.pa_star h t) fun σ H Q ⟨ms, ρ, G, g, s, q⟩ => by
    refine tE_then g s (PostA.r (show PostA R W σ ms H Q ((fa ρ G).bind fun v G1 => match itemsOf G1 v with
      | some xs => (fs ρ G1).bind fun vs G2 => .ok (xs.map .pv ++ vs) G2
      | none => .stuck) from q)) fun v G1 e1 q1 ms1 x H1 st1 g1 s1 r1 => ?_
    split at q1
    · rename_i ps e2
      obtain ⟨a, xs, rfl, h1, h2⟩ := items_rep g1 e2 r1
      rw [hK]
      refine ⟨a, xs, rfl, h1, ?_⟩
      refine tA_then g1 s1 (q1.on st1) fun vs G2 e3 q2 ms2 ys H2 st2 g2 s2 r2 => ?_
      exact q2 ms2 (xs ++ ys) H2 (st1.trans st2) g2 ((rep_pvs (RepPs.step st2 g1.own _ _ h2)).append r2)
    · exact q1.elim
theorem few_len {ρ : Fr} {G G1 : Store} {vs : List Val} (h : few fs ρ G = .ok vs G1) : fs ρ G = .ok vs G1 ∧ vs.length ≤ sizeLine := by
  unfold few at h
  cases e : fs ρ G with
  | stuck => rw [e] at h; cases h
  | exc e1 G2 => rw [e] at h; cases h
  | ok us G2 =>
    rw [e] at h
    have h : (if us.length ≤ sizeLine then Res.ok us G2 else .stuck) = .ok vs G1 := h
    split at h
    · cases h; exact ⟨rfl, by assumption⟩
    · cases h
theorem sa_few (h : PA X es (tA R W fs)) : PA X es (tA R W (few fs)) := PA.to h fun σ H Q ⟨ms, ρ, G, g, s, q⟩ => ⟨ms, ρ, G, g, s, by
  unfold few at q
  cases e : fs ρ G with
  | stuck => rw [e] at q; exact q
  | exc e1 G2 => rw [e] at q; exact q
  | ok us G2 =>
    rw [e] at q
    have q : PostA R W σ ms H Q (if us.length ≤ sizeLine then Res.ok us G2 else .stuck) := q
    split at q
    · exact q
    · exact q.elim⟩
theorem se_tupS {k : Nat} (h : PA X es (tA R W fs)) : PE X (.Tuple es k pos) (tE R W (cTup (few fs))) :=
  PE.to (pe_tup (sa_few h)) fun σ H Q ⟨ms, ρ, G, g, s, q⟩ => by
    refine tA_then g s (PostE.r (show PostE R W σ ms H Q ((few fs ρ G).bind fun vs G1 => ofO ((cTup.pures vs).map .tup) G1) from q)) fun vs G1 e1 q1 ms1 xs H1 st1 g1 s1 r1 => ?_
    obtain ⟨p, e2, q2⟩ := ofO_some q1
    obtain ⟨ps, e3, e4⟩ := Option.map_eq_some_iff.mp e2
    subst e4
    have rp := r1.pures e3
    exact ⟨by rw [← r1.length]; exact (few_len e1).2, fun p hp => q2 ms1 (.ref p) _ (st1.trans (Ext.new hp).step) (g1.ext (Ext.new hp)) (rep_tup g1.trk hp rp)⟩
theorem sf_lstS (h : PA X es (tA R W fs)) : PE X (.List es pos) (tF R W (cLst (few fs))) :=
  PE.to (pe_lst (sa_few h)) fun σ H Q ⟨ms, ρ, G, g, s, q⟩ => by
    refine tA_then g s (PostF.r (show PostF R W σ ms H Q ((few fs ρ G).bind fun vs G1 => ofOL (cTup.pures vs) G1) from q)) fun vs G1 e1 q1 ms1 xs H1 st1 g1 s1 r1 => ?_
    obtain ⟨ps, e2, q2⟩ := ofOL_some q1
    have rp := r1.pures e2
    refine ⟨by rw [← r1.length]; exact (few_len e1).2, ?_⟩
    exact fun p hp => NewL.post g1 (fun ms' p' H' st' g' l' => q2 ms' p' H' (st1.trans st') g' (Nat.le_trans st1.len l')) p xs H1 _ (Ext.refl H1) hp rp (Ext.new hp) upd_same
end
end Ev

end
section
set_option maxRecDepth 100000
set_option maxHeartbeats 4000000
/-! Ev U: repr -/
namespace Ev
open PySem PySem.Spec PyProof.Rows L2
def showOk (d : PyData) : Bool := okD d && d.showable && !d.hasDict && decide (d.shown.length ≤ sizeLine)
def pyShow : List PV → Option PV
  | [.lst xs] => (match PV.datas xs with
    | some ds => if showOk (.list ds) then some (.str (PyData.list ds).shown) else none
    | none => none)
  | [.tup xs] => (match PV.datas xs with
    | some ds => if showOk (.tuple ds) then some (.str (PyData.tuple ds).shown) else none
    | none => none)
  | [.int i] => if i.natAbs.log2 < 1920 then some (.str (toString i)) else none
  | _ => none
section
variable {R : RC} {W : WX} {X : Cx} {ms ms' : List Addr} {H H' : Hp} {G G' : Store} {ρ : Fr} {σ : L2.St}
theorem sb_show (hK : X.K = R.K) (hg : X.A.guards = some []) (hu : X.A.units + 66 < cLine) : CallR X (.builtin "repr") (rC R pyShow) := by
  intro pins s σ H xs us Q I rv ⟨ms, ps, r, rd, t, e, k⟩
  have ref : ∀ {a : Addr} {d : PyData}, Dp X.K H (.ref a) d → showOk d = true → r = .str d.shown → us = [.ref a] → wpAny (model X.prog X.w) X.A (call (.builtin "repr") us) (EP X pins σ Q) X.xe s := fun {a d} hd ok er eu => by
    unfold showOk at ok
    simp only [Bool.and_eq_true] at ok
    obtain ⟨as, rr⟩ := hd.reads I _ _ (.ref a) rfl
    subst eu
    have hdep := SeqAt.depth_of_shaped ok.1.1.1
    refine repr_of_reads' rr ok.1.1.2 (fun z => by rw [z] at ok; simp at ok) hg (by omega) (fun _ _ z => z) (fun h' u tk hk => ?_) (of_decide_eq_true ok.2)
    exact ⟨.str d.shown, H, I.kept (t' := tk) hk, ⟨_, rfl⟩, k _ H (Ext.refl H) (by rw [er]; simp only [RepP])⟩
  unfold pyShow at e
  split at e
  · rename_i zs
    obtain ⟨x, rfl, h⟩ := rd.one
    split at e
    · rename_i ds e1
      split at e
      · rename_i ok
        cases e
        have hd := RD.dp hK (d := .list ds) (by simp only [PV.data, e1, Option.map_some]) h
        obtain ⟨a, ys, rfl, _, _⟩ := rd_lst h
        exact ref hd ok rfl (Vals.ref1 rv)
      · cases e
    · cases e
  · rename_i zs
    obtain ⟨x, rfl, h⟩ := rd.one
    split at e
    · rename_i ds e1
      split at e
      · rename_i ok
        cases e
        have hd := RD.dp hK (d := .tuple ds) (by simp only [PV.data, e1, Option.map_some]) h
        obtain ⟨a, ys, rfl, _, _⟩ := rd_tup h
        exact ref hd ok rfl (Vals.ref1 rv)
      · cases e
    · cases e
  · rename_i i
    obtain ⟨x, rfl, h⟩ := rd.one
    cases rd_int h
    split at e
    · rename_i hl
      cases e
      exact SkE.call_repr_int pins s σ H _ us Q I rv ⟨i, rfl, hl, k _ H (Ext.refl H) (by simp only [RepP])⟩
    · cases e
  · cases e
end
end Ev

end
section
set_option maxRecDepth 100000
set_option maxHeartbeats 4000000
/-! Ev V: dicts: keys, looking, storing -/
namespace Ev
open PySem PySem.Spec PyProof.Rows L2

/-! ### plain association lists, keys and values apart -/
section
variable {κ β : Type} [DecidableEq κ]
def gGet : List κ → List β → κ → Option β
  | k0 :: ks, v0 :: vs, k => if k0 = k then some v0 else gGet ks vs k
  | _, _, _ => none
def gPut : List κ → List β → κ → β → List κ × List β
  | k0 :: ks, v0 :: vs, k, v => if k0 = k then (k0 :: ks, v :: vs) else (k0 :: (gPut ks vs k v).1, v0 :: (gPut ks vs k v).2)
  | _, _, k, v => ([k], [v])
theorem gPut_len : ∀ {ks : List κ} {vs : List β} {k : κ} {v : β}, ks.length = vs.length → (gPut ks vs k v).1.length = (gPut ks vs k v).2.length
  | [], [], _, _, _ => rfl
  | [], _ :: _, _, _, h => by cases h
  | _ :: _, [], _, _, h => by cases h
  | k0 :: ks, v0 :: vs, k, v, h => by
    unfold gPut
    split
    · simpa using h
    · simp [gPut_len (ks := ks) (vs := vs) (k := k) (v := v) (by simpa using h)]
theorem gPut_old : ∀ {ks : List κ} {vs : List β} {k : κ} {v : β}, ks.length = vs.length → k ∈ ks → (gPut ks vs k v).1 = ks
  | [], _, _, _, _, h => by cases h
  | _ :: _, [], _, _, h, _ => by cases h
  | k0 :: ks, v0 :: vs, k, v, hl, h => by
    unfold gPut
    split
    · rfl
    · rename_i n
      rcases List.mem_cons.mp h with q | q
      · exact absurd q.symm n
      · show k0 :: (gPut ks vs k v).1 = _
        rw [gPut_old (by simpa using hl) q]
theorem gPut_new : ∀ {ks : List κ} {vs : List β} {k : κ} {v : β}, ks.length = vs.length → k ∉ ks → gPut ks vs k v = (ks ++ [k], vs ++ [v])
  | [], [], _, _, _, _ => rfl
  | [], _ :: _, _, _, h, _ => by cases h
  | _ :: _, [], _, _, h, _ => by cases h
  | k0 :: ks, v0 :: vs, k, v, hl, h => by
    simp only [List.mem_cons, not_or] at h
    unfold gPut
    rw [if_neg (fun e => h.1 e.symm), gPut_new (by simpa using hl) h.2]
    rfl
end
theorem flatK_inj {p q : PV} {k : Key} (h : flatK p = some k) (h' : flatK q = some k) : p = q := by
  unfold flatK at h h'
  split at h <;> first | (cases h; done) | skip
  all_goals
    cases h
    split at h' <;> first | (cases h'; done) | skip
    cases h'
    rfl
mutual
theorem nestK_inj : ∀ (p q : PV) (k : NestedKey), nestK p = some k → nestK q = some k → p = q
  | p, q, .none, h, h' => by
    cases p <;> simp [nestK] at h <;> cases q <;> simp [nestK] at h' <;> rfl
  | p, q, .num i, h, h' => by
    cases p <;> simp [nestK] at h <;> cases q <;> simp [nestK] at h' <;> rw [h, h']
  | p, q, .text i, h, h' => by
    cases p <;> simp [nestK] at h <;> cases q <;> simp [nestK] at h' <;> rw [h, h']
  | p, q, .tup ks, h, h' => by
    cases p <;> simp [nestK] at h
    cases q <;> simp [nestK] at h'
    rw [nestKs_inj _ _ ks h h']
theorem nestKs_inj : ∀ (ps qs : List PV) (ks : List NestedKey), nestKs ps = some ks → nestKs qs = some ks → ps = qs
  | [], qs, ks, h, h' => by
    simp only [nestKs] at h; cases h
    cases qs with
    | nil => rfl
    | cons q qs => simp only [nestKs] at h'; split at h' <;> cases h'
  | p :: ps, qs, ks, h, h' => by
    simp only [nestKs] at h
    split at h
    · rename_i k ks' e1 e2
      cases h
      cases qs with
      | nil => simp only [nestKs] at h'; cases h'
      | cons q qs =>
        simp only [nestKs] at h'
        split at h'
        · rename_i k2 ks2 e3 e4
          cases h'
          rw [nestK_inj p q k e1 e3, nestKs_inj ps qs ks' e2 e4]
        · cases h'
    · cases h
end
theorem tupK_nest {p : PV} {k : NestedKey} (h : tupK p = some k) : nestK p = some k ∧ k.depth ≤ 8 ∧ ∃ ps, p = .tup ps := by
  cases p <;> first | (cases h; done) | skip
  rename_i ps
  simp only [tupK] at h
  split at h
  · rename_i ks e
    split at h
    · rename_i hd
      cases h
      exact ⟨by simp only [nestK, e, Option.map_some], hd, _, rfl⟩
    · cases h
  · cases h
theorem tupK_inj {p q : PV} {k : NestedKey} (h : tupK p = some k) (h' : tupK q = some k) : p = q := nestK_inj p q k (tupK_nest h).1 (tupK_nest h').1
/-- keys by one map -/
structure KeyMap (κ : Type) where
  f : PV → Option κ
  fs : List PV → Option (List κ)
  nil : fs [] = some []
  cons : ∀ p ps, fs (p :: ps) = match f p, fs ps with
    | some k, some ks => some (k :: ks)
    | _, _ => none
  inj : ∀ {p q k}, f p = some k → f q = some k → p = q
def kmF : KeyMap Key := ⟨flatK, flatKs, rfl, fun p ps => by rw [flatKs]; cases flatK p <;> cases flatKs ps <;> rfl, flatK_inj⟩
def kmT : KeyMap NestedKey := ⟨tupK, tupKs, rfl, fun p ps => by rw [tupKs]; cases tupK p <;> cases tupKs ps <;> rfl, tupK_inj⟩
section
variable {κ : Type} [DecidableEq κ] {M : KeyMap κ} {β : Type}
theorem KeyMap.len : ∀ {ps : List PV} {ks : List κ}, M.fs ps = some ks → ps.length = ks.length
  | [], ks, h => by rw [M.nil] at h; cases h; rfl
  | p :: ps, ks, h => by
    rw [M.cons] at h
    split at h
    · rename_i e1 e2
      cases h
      simp [KeyMap.len e2]
    · cases h
theorem KeyMap.get : ∀ {ps : List PV} {ks : List κ} {vs : List β} {p : PV} {k : κ}, M.fs ps = some ks → M.f p = some k → gGet ps vs p = gGet ks vs k
  | [], ks, vs, p, k, h, _ => by rw [M.nil] at h; cases h; cases vs <;> rfl
  | q :: ps, ks, vs, p, k, h, hk => by
    rw [M.cons] at h
    split at h
    · rename_i k0 ks0 e1 e2
      cases h
      cases vs with
      | nil => rfl
      | cons v vs =>
        unfold gGet
        rw [KeyMap.get e2 hk]
        by_cases e : q = p
        · subst e
          rw [e1] at hk; cases hk
          rw [if_pos rfl, if_pos rfl]
        · rw [if_neg e, if_neg (fun z => e (M.inj e1 (by rw [hk, z])))]
    · cases h
theorem KeyMap.put : ∀ {ps : List PV} {ks : List κ} {vs : List β} {p : PV} {k : κ} {v : β}, ps.length = vs.length → M.fs ps = some ks → M.f p = some k → M.fs (gPut ps vs p v).1 = some (gPut ks vs k v).1 ∧ (gPut ps vs p v).2 = (gPut ks vs k v).2
  | [], ks, vs, p, k, v, hl, h, hk => by
    rw [M.nil] at h; cases h
    cases vs with
    | nil =>
      refine ⟨?_, rfl⟩
      show M.fs [p] = some [k]
      rw [M.cons, hk, M.nil]
    | cons _ _ => cases hl
  | q :: ps, ks, vs, p, k, v, hl, h, hk => by
    rw [M.cons] at h
    split at h
    · rename_i k0 ks0 e1 e2
      cases h
      cases vs with
      | nil => cases hl
      | cons v0 vs =>
        obtain ⟨i1, i2⟩ := KeyMap.put (v := v) (by simpa using hl) e2 hk
        by_cases e : q = p
        · subst e
          rw [e1] at hk; cases hk
          unfold gPut
          rw [if_pos rfl, if_pos rfl]
          refine ⟨?_, rfl⟩
          show M.fs (q :: ps) = some (_ :: ks0)
          rw [M.cons, e1, e2]
        · unfold gPut
          rw [if_neg e, if_neg (fun z => e (M.inj e1 (by rw [hk, z])))]
          refine ⟨?_, ?_⟩
          · show M.fs (q :: (gPut ps vs p v).1) = some (k0 :: (gPut ks0 vs k v).1)
            rw [M.cons, e1, i1]
          · show v0 :: (gPut ps vs p v).2 = v0 :: (gPut ks0 vs k v).2
            rw [i2]
    · cases h
theorem KeyMap.mem {ps : List PV} {ks : List κ} {p : PV} {k : κ} (h : M.fs ps = some ks) (hk : M.f p = some k) : p ∈ ps ↔ k ∈ ks := by
  induction ps generalizing ks with
  | nil => rw [M.nil] at h; cases h; simp
  | cons q ps ih =>
    rw [M.cons] at h
    split at h
    · rename_i k0 ks0 e1 e2
      cases h
      rw [List.mem_cons, List.mem_cons, ih e2]
      constructor
      · rintro (e | e)
        · subst e; rw [e1] at hk; cases hk; exact .inl rfl
        · exact .inr e
      · rintro (e | e)
        · exact .inl (M.inj hk (by rw [e, e1]))
        · exact .inr e
    · cases h
/-- the values' representation, stored -/
theorem put_rep {R : RC} {ms : List Addr} {H : Hp} {k : κ} {v : PV} {z : V} (rz : RepP R ms H v z) : ∀ {ks : List κ} {vs : List PV} {ys : List V}, ks.length = vs.length → RepPs R ms H vs ys → RepPs R ms H (gPut ks vs k v).2 (gPut ks ys k z).2 ∧ (gPut ks vs k v).1 = (gPut ks ys k z).1
  | [], [], ys, _, r => by
    simp only [RepPs] at r; subst r
    exact ⟨RepPs.cons rz RepPs.nil, rfl⟩
  | [], _ :: _, _, h, _ => by cases h
  | _ :: _, [], _, h, _ => by cases h
  | k0 :: ks, v0 :: vs, ys, hl, r => by
    simp only [RepPs] at r
    obtain ⟨y, yr, rfl, r1, r2⟩ := r
    obtain ⟨i1, i2⟩ := put_rep (k := k) rz (ks := ks) (by simpa using hl) r2
    unfold gPut
    split
    · exact ⟨RepPs.cons rz r2, rfl⟩
    · exact ⟨RepPs.cons r1 i1, congrArg (List.cons _) i2⟩
end
theorem gGet_rep {κ : Type} [DecidableEq κ] {R : RC} {ms : List Addr} {H : Hp} {k : κ} : ∀ {ks : List κ} {vs : List PV} {ys : List V} {v : PV}, RepPs R ms H vs ys → gGet ks vs k = some v → ∃ y, gGet ks ys k = some y ∧ RepP R ms H v y
  | [], vs, ys, v, r, h => by cases vs <;> cases h
  | k0 :: ks, [], ys, v, r, h => by cases h
  | k0 :: ks, v0 :: vs, ys, v, r, h => by
    simp only [RepPs] at r
    obtain ⟨y, yr, rfl, r1, r2⟩ := r
    unfold gGet at h ⊢
    split at h
    · cases h; rename_i e; rw [if_pos e]; exact ⟨y, rfl, r1⟩
    · rename_i e; rw [if_neg e]; exact gGet_rep r2 h
/-! ### flat: the layer's own lists of pairs -/
theorem valV_zip {κ : Type} [DecidableEq κ] {k : κ} : ∀ {kk : List κ} {ys : List V}, kk.length = ys.length → valV (kk.zip ys) k = gGet kk ys k
  | [], [], _ => rfl
  | [], _ :: _, h => by cases h
  | _ :: _, [], h => by cases h
  | k0 :: kk, y :: ys, h => by
    rw [List.zip_cons_cons]
    unfold gGet
    by_cases e : k0 = k
    · rw [valV_pos e, if_pos e]
    · rw [valV_neg e, if_neg e, valV_zip (by simpa using h)]
theorem any_zip {κ : Type} [DecidableEq κ] {k : κ} : ∀ {kk : List κ} {ys : List V}, kk.length = ys.length → ((kk.zip ys).any fun kv => decide (kv.1 = k)) = decide (k ∈ kk)
  | [], [], _ => rfl
  | [], _ :: _, h => by cases h
  | _ :: _, [], h => by cases h
  | k0 :: kk, y :: ys, h => by
    rw [List.zip_cons_cons, List.any_cons, any_zip (by simpa using h)]
    by_cases e : k0 = k
    · subst e; simp
    · simp [e, Ne.symm e]
theorem map_same {κ : Type} [DecidableEq κ] {k : κ} {z : V} : ∀ {kk : List κ} {ys : List V}, k ∉ kk → (kk.zip ys).map (fun kv => if kv.1 = k then (kv.1, z) else kv) = kk.zip ys
  | [], _, _ => rfl
  | _ :: _, [], _ => rfl
  | k0 :: kk, y :: ys, h => by
    simp only [List.mem_cons, not_or] at h
    rw [List.zip_cons_cons, List.map_cons, map_same h.2, if_neg (fun e => h.1 e.symm)]
theorem map_put {κ : Type} [DecidableEq κ] {k : κ} {z : V} : ∀ {kk : List κ} {ys : List V}, kk.length = ys.length → kk.Nodup → k ∈ kk → (kk.zip ys).map (fun kv => if kv.1 = k then (kv.1, z) else kv) = (gPut kk ys k z).1.zip (gPut kk ys k z).2
  | [], _, _, _, h => by cases h
  | _ :: _, [], h, _, _ => by cases h
  | k0 :: kk, y :: ys, hl, nd, h => by
    rw [List.zip_cons_cons, List.map_cons]
    have nd := List.nodup_cons.mp nd
    by_cases e : k0 = k
    · subst e
      unfold gPut
      rw [if_pos rfl, if_pos rfl, map_same nd.1]
      rfl
    · unfold gPut
      rw [if_neg e, if_neg e, map_put (by simpa using hl) nd.2 ((List.mem_cons.mp h).resolve_left fun q => e q.symm)]
      rfl
theorem putK_zip {κ : Type} [DecidableEq κ] {k : κ} {z : V} {kk : List κ} {ys : List V} (hl : kk.length = ys.length) (nd : kk.Nodup) : putK (kk.zip ys) k z = (gPut kk ys k z).1.zip (gPut kk ys k z).2 := by
  unfold putK
  rw [any_zip hl]
  by_cases hk : k ∈ kk
  · rw [if_pos (by simpa using hk), map_put hl nd hk]
  · rw [if_neg (by simpa using hk), gPut_new hl hk]
    simp [List.zip_append hl]
/-! ### nested: the library's lists of key, address, value -/
theorem atKey_zip {k : NestedKey} : ∀ {nk : List NestedKey} {bs : List Addr} {us : List Value}, nk.length = bs.length → nk.length = us.length → (atKey (nk.zip (bs.zip us)) k).map (·.2) = gGet nk us k
  | [], [], [], _, _ => rfl
  | [], _ :: _, _, h, _ => by cases h
  | [], [], _ :: _, _, h => by cases h
  | _ :: _, [], _, h, _ => by cases h
  | _ :: _, _ :: _, [], _, h => by cases h
  | k0 :: nk, b :: bs, u :: us, h1, h2 => by
    have ih := atKey_zip (k := k) (nk := nk) (bs := bs) (us := us) (by simpa using h1) (by simpa using h2)
    rw [List.zip_cons_cons, List.zip_cons_cons]
    unfold atKey at *
    unfold gGet
    by_cases e : k0 = k
    · simp [e]
    · simp only [List.find?_cons, e, decide_false, if_false]
      exact ih
theorem atKey_some {k : NestedKey} {nk : List NestedKey} {bs : List Addr} {us : List Value} (h1 : nk.length = bs.length) (h2 : nk.length = us.length) : (atKey (nk.zip (bs.zip us)) k).isSome = decide (k ∈ nk) := by
  induction nk generalizing bs us with
  | nil => rfl
  | cons k0 nk ih =>
    cases bs with
    | nil => cases h1
    | cons b bs =>
      cases us with
      | nil => cases h2
      | cons u us =>
        have ih := ih (bs := bs) (us := us) (by simpa using h1) (by simpa using h2)
        rw [List.zip_cons_cons, List.zip_cons_cons]
        unfold atKey at *
        by_cases e : k0 = k
        · simp [e]
        · simp only [List.find?_cons, e, decide_false]
          rw [ih]
          simp [List.mem_cons, Ne.symm e]
theorem mapPut_same {k : NestedKey} {u : Value} : ∀ {nk : List NestedKey} {bu : List (Addr × Value)}, k ∉ nk → (nk.zip bu).map (putAt k u) = nk.zip bu
  | [], _, _ => rfl
  | _ :: _, [], _ => rfl
  | k0 :: nk, b :: bs, h => by
    simp only [List.mem_cons, not_or] at h
    rw [List.zip_cons_cons, List.map_cons, mapPut_same h.2]
    congr 1
    unfold putAt
    rw [if_neg (fun e => h.1 e.symm)]
theorem mapPut_zip {k : NestedKey} {u : Value} : ∀ {nk : List NestedKey} {bs : List Addr} {us : List Value}, nk.length = bs.length → nk.length = us.length → nk.Nodup → k ∈ nk → (nk.zip (bs.zip us)).map (putAt k u) = (gPut nk us k u).1.zip (bs.zip (gPut nk us k u).2)
  | [], _, _, _, _, _, h => by cases h
  | _ :: _, [], _, h, _, _, _ => by cases h
  | _ :: _, _ :: _, [], _, h, _, _ => by cases h
  | k0 :: nk, b :: bs, u0 :: us, h1, h2, nd, h => by
    rw [List.zip_cons_cons, List.zip_cons_cons, List.map_cons]
    have nd := List.nodup_cons.mp nd
    by_cases e : k0 = k
    · subst e
      unfold gPut
      rw [if_pos rfl, mapPut_same nd.1]
      simp [putAt]
    · unfold gPut
      rw [if_neg e, mapPut_zip (by simpa using h1) (by simpa using h2) nd.2 ((List.mem_cons.mp h).resolve_left fun q => e q.symm)]
      simp [putAt, e]
end Ev

end
section
set_option maxRecDepth 100000
set_option maxHeartbeats 4000000
/-! Ev X: dicts in the heap: what stands there, storing, looking -/
namespace Ev
open PySem PySem.Spec PyProof.Rows L2

def keyOk (ks : List PV) (k : PV) : Bool := ((flatKs ks).isSome && (flatK k).isSome) || ((tupKs ks).isSome && (tupK k).isSome)
def pyInD (k : PV) (ks : List PV) : Option Bool := if keyOk ks k then some (decide (k ∈ ks)) else none
section
variable {R : RC} {W : WX} {X : Cx} {ms ms' : List Addr} {H H' : Hp} {G G' : Store} {ρ : Fr} {σ : L2.St} {pins : List (Addr × Obj)} {s : Shared}
mutual
theorem nested_is (hK : X.K = R.K) (I : Inv X pins σ H s) : ∀ (p : PV) (k : NestedKey) (x : V) (u : Value), nestK p = some k → RepP R ms H p x → RelV x u → NestedIs s.heap k u
  | .non, k, x, u, e, r, v => by
    simp only [nestK] at e; simp only [RepP] at r; cases e; subst r
    cases (show u = Value.none from v)
    exact .none
  | .int i, k, x, u, e, r, v => by
    simp only [nestK] at e; simp only [RepP] at r; cases e; subst r
    obtain ⟨t, rfl⟩ := v
    exact .int i t
  | .str z, k, x, u, e, r, v => by
    simp only [nestK] at e; simp only [RepP] at r; cases e; subst r
    obtain ⟨t, rfl⟩ := v
    exact .text z t
  | .tup ps, k, x, u, e, r, v => by
    simp only [nestK] at e; simp only [RepP] at r
    obtain ⟨ks, e1, rfl⟩ := Option.map_eq_some_iff.mp e
    obtain ⟨a, xs, rfl, h1, h2⟩ := r
    cases (show u = Value.ref a from v)
    obtain ⟨its, rv, ⟨o, ho, hc, n, hd⟩, _⟩ := I.tuple (by rw [hK]; exact h1.sq)
    exact .tup ho hc hd (by simpa using nested_all hK I ps ks xs its e1 h2 rv)
  | .bl _, _, _, _, e, _, _ => by simp [nestK] at e
  | .lst _, _, _, _, e, _, _ => by simp [nestK] at e
  | .scr _, _, _, _, e, _, _ => by simp [nestK] at e
  | .dct _ _, _, _, _, e, _, _ => by simp [nestK] at e
  | .st _, _, _, _, e, _, _ => by simp [nestK] at e
  | .ins _ _ _, _, _, _, e, _, _ => by simp [nestK] at e
  | .exc _ _ _, _, _, _, e, _, _ => by simp [nestK] at e
  | .ty _, _, _, _, e, _, _ => by simp [nestK] at e
  | .cls _, _, _, _, e, _, _ => by simp [nestK] at e
  | .fn _, _, _, _, e, _, _ => by simp [nestK] at e
theorem nested_all (hK : X.K = R.K) (I : Inv X pins σ H s) : ∀ (ps : List PV) (ks : List NestedKey) (xs : List V) (us : List Value), nestKs ps = some ks → RepPs R ms H ps xs → Vals xs us → NestedAll s.heap ks us
  | [], ks, xs, us, e, r, v => by
    simp only [nestKs] at e; simp only [RepPs] at r; cases e; subst r; cases v
    exact .nil
  | p :: ps, ks, xs, us, e, r, v => by
    simp only [nestKs] at e
    simp only [RepPs] at r
    obtain ⟨x, xr, rfl, r1, r2⟩ := r
    split at e
    · rename_i k ks' e1 e2
      cases e
      cases v with
      | cons v1 v2 => exact .cons (nested_is hK I p k x _ e1 r1 v1) (nested_all hK I ps ks' xr _ e2 r2 v2)
    · cases e
end
theorem tup_is (hK : X.K = R.K) (I : Inv X pins σ H s) {p : PV} {k : NestedKey} {x : V} {u : Value} (e : tupK p = some k) (r : RepP R ms H p x) (v : RelV x u) : ∃ b, x = .ref b ∧ u = .ref b ∧ (nestedKind X.prog X.w).is s.heap k b := by
  obtain ⟨e1, hd, ps, rfl⟩ := tupK_nest e
  have r0 := r
  simp only [RepP] at r
  obtain ⟨a, xs, rfl, _, _⟩ := r
  cases (show u = Value.ref a from v)
  exact ⟨a, rfl, rfl, nested_is hK I _ k _ _ e1 r0 rfl, hd⟩
theorem tups_are (hK : X.K = R.K) (I : Inv X pins σ H s) : ∀ {ks : List PV} {nk : List NestedKey} {bs : List Addr}, tupKs ks = some nk → RepPs R ms H ks (bs.map V.ref) → nk.length = bs.length ∧ ∀ p ∈ nk.zip bs, (nestedKind X.prog X.w).is s.heap p.1 p.2
  | [], nk, bs, e, r => by
    simp only [tupKs] at e; cases e
    have := RepPs.nil' r
    cases bs with
    | nil => exact ⟨rfl, fun p hp => by cases hp⟩
    | cons _ _ => cases this
  | p :: ks, nk, bs, e, r => by
    simp only [tupKs] at e
    split at e
    · rename_i k nk' e1 e2
      cases e
      simp only [RepPs] at r
      obtain ⟨x, xr, hx, r1, r2⟩ := r
      cases bs with
      | nil => cases hx
      | cons b bs =>
        rw [List.map_cons] at hx
        cases hx
        obtain ⟨h1, h2⟩ := tups_are hK I e2 r2
        obtain ⟨b', e3, _, h3⟩ := tup_is hK I e1 r1 (u := .ref b) rfl
        cases e3
        refine ⟨by simp [h1], fun q hq => ?_⟩
        rcases List.mem_cons.mp (show q ∈ (k, b) :: nk'.zip bs from hq) with z | z
        · rw [z]; exact h3
        · exact h2 q z
    · cases e
/-- a nested dict stands at a -/
theorem dict_nested (hK : X.K = R.K) (hw : X.w = R.w) (I : Inv X pins σ H s) {ks : List PV} {nk : List NestedKey} {bs : List Addr} {us : List Value} {a : Addr} (e : tupKs ks = some nk) (nd : nk.Nodup) (r : RepPs R ms H ks (bs.map V.ref)) (hl : nk.length = us.length) (hH : H a = some (dctO R.w a (nk.zip (bs.zip us)))) :
    (a == sysModules) = false ∧ s.heap.DictOfH (nestedKind X.prog X.w) a (nk.zip (bs.zip us)) := by
  obtain ⟨h1, h2⟩ := tups_are hK I e r
  obtain ⟨⟨hs, o, ep, ho, hx, hd⟩, _, _⟩ := (show ObjOk X.prog X.w H s.heap a (dctO R.w a (nk.zip (bs.zip us))) from I.hok a _ hH)
  refine ⟨hs, o, _, ep, ho, hx, hd, ?_, fun x hx => ?_, ?_⟩
  · rw [List.toList_toArray]
    refine List.map_congr_left fun x _ => ?_
    rw [← hw]
    rfl
  · have : (x.1, x.2.1) ∈ nk.zip bs := by
      obtain ⟨i, hi, e⟩ := List.getElem_of_mem hx
      refine List.mem_of_getElem? (i := i) ?_
      have e2 : (nk.zip (bs.zip us))[i]? = some x := by rw [List.getElem?_eq_getElem hi, e]
      rw [List.getElem?_zip_eq_some] at e2
      obtain ⟨e3, e4⟩ := e2
      rw [List.getElem?_zip_eq_some] at e4
      rw [List.getElem?_zip_eq_some]
      exact ⟨e3, e4.1⟩
    exact h2 _ this
  · rw [List.map_fst_zip (by rw [List.length_zip]; omega)]
    exact nd
theorem flat_keys (I : Inv X pins σ H s) {kk : List Key} {ys : List V} {a : Addr} (hl : kk.length = ys.length) (hH : H a = some (.dK (kk.zip ys))) : kk.Nodup ∧ kk.length ≤ sizeLine := by
  obtain ⟨hz, hs, vs, rk, o, es, ep, _, _, _, _, _, nd⟩ := (show ObjOk X.prog X.w H s.heap a (.dK (kk.zip ys)) from I.hok a _ hH)
  rw [← KV.keys rk, List.map_fst_zip (by omega)] at nd
  rw [List.length_zip] at hz
  exact ⟨nd, by omega⟩
/-- an empty one is of any kind -/
theorem dict_empty (I : Inv X pins σ H s) {a : Addr} (hH : H a = some (.dK [])) : (a == sysModules) = false ∧ s.heap.DictOfH (nestedKind X.prog X.w) a [] := by
  obtain ⟨hz, hs, vs, rk, o, es, ep, ho, hx, hd, _, hp, _⟩ := (show ObjOk X.prog X.w H s.heap a (.dK []) from I.hok a _ hH)
  cases rk
  have : es.toList = [] := by
    cases q : es.toList with
    | nil => rfl
    | cons _ _ => rw [q] at hp; cases hp
  exact ⟨hs, o, es, ep, ho, hx, hd, (by rw [this]; rfl), (fun x hx => by cases hx), List.nodup_nil⟩
theorem flat_v {k : PV} {kk : Key} {y : V} (e : flatK k = some kk) (r : RepP R ms H k y) : y = kV kk := by
  cases k <;> first | (cases e; done) | (cases e; simp only [RepP] at r; exact r)
/-- what a look needs: the entries, whatever the kind -/
theorem look_cases (hK : X.K = R.K) (hw : X.w = R.w) (I : Inv X pins σ H s) {ks : List PV} {kx ys : List V} {a : Addr} {k : PV} (ok : keyOk ks k = true) (hl : ks.length = ys.length) (d : DkO R H a ks kx ys) (rk : RepPs R ms H ks kx) :
    (∃ (kk : List Key) (k' : Key), flatKs ks = some kk ∧ flatK k = some k' ∧ kk.length = ys.length ∧ kk.Nodup ∧ H a = some (.dK (kk.zip ys))) ∨
    (∃ (nk : List NestedKey) (k' : NestedKey) (bs : List Addr) (us : List Value), tupKs ks = some nk ∧ tupK k = some k' ∧ nk.Nodup ∧ kx = bs.map V.ref ∧ nk.length = bs.length ∧ nk.length = us.length ∧ Vals ys us ∧ (a == sysModules) = false ∧ s.heap.DictOfH (nestedKind X.prog X.w) a (nk.zip (bs.zip us)) ∧ Mut (H a)) := by
  unfold keyOk at ok
  simp only [Bool.or_eq_true, Bool.and_eq_true] at ok
  rcases d with ⟨kk, e1, e2⟩ | ⟨nk, bs, us, e1, nd, e2, e3, e4⟩
  · have lk : kk.length = ys.length := by rw [← hl]; exact (kmF.len e1).symm
    rcases ok with ⟨o1, o2⟩ | ⟨o1, o2⟩
    · obtain ⟨k', e3⟩ := Option.isSome_iff_exists.mp o2
      exact .inl ⟨kk, k', e1, e3, lk, (flat_keys I lk e2).1, e2⟩
    · -- both kinds: nothing is there
      have hk0 : ks = [] := by
        cases ks with
        | nil => rfl
        | cons p ps =>
          simp only [flatKs] at e1
          simp only [tupKs] at o1
          cases p <;> simp [flatK, tupK] at e1 o1
      subst hk0
      simp only [flatKs] at e1
      cases e1
      cases ys with
      | cons _ _ => cases hl
      | nil =>
        obtain ⟨k', e3⟩ := Option.isSome_iff_exists.mp o2
        have hkx := RepPs.nil' rk
        subst hkx
        obtain ⟨h1, h2⟩ := dict_empty I e2
        exact .inr ⟨[], k', [], [], rfl, e3, List.nodup_nil, rfl, rfl, rfl, .nil, h1, h2, by rw [e2]; exact True.intro⟩
  · have lu : nk.length = us.length := by rw [← kmT.len e1, hl]; exact e3.length
    subst e2
    rcases ok with ⟨o1, o2⟩ | ⟨o1, o2⟩
    · have hk0 : ks = [] := by
        cases ks with
        | nil => rfl
        | cons p ps =>
          simp only [flatKs] at o1
          simp only [tupKs] at e1
          cases p <;> simp [flatK, tupK] at e1 o1
      exact absurd hk0 nd.2
    · obtain ⟨k', e5⟩ := Option.isSome_iff_exists.mp o2
      obtain ⟨h1, h2⟩ := dict_nested hK hw I e1 nd.1 rk lu e4
      exact .inr ⟨nk, k', bs, us, e1, e5, nd.1, rfl, by rw [← kmT.len e1]; simpa using rk.length, lu, e3, h1, h2, by rw [e4]; exact True.intro⟩
/-- k in d, k not in d -/
theorem gGet_mem {κ β : Type} [DecidableEq κ] {k : κ} : ∀ {ks : List κ} {vs : List β}, ks.length = vs.length → (gGet ks vs k).isSome = decide (k ∈ ks)
  | [], [], _ => rfl
  | [], _ :: _, h => by cases h
  | _ :: _, [], h => by cases h
  | k0 :: ks, v0 :: vs, h => by
    unfold gGet
    by_cases e : k0 = k
    · subst e; simp
    · rw [if_neg e, gGet_mem (by simpa using h)]
      simp [Ne.symm e]
theorem rd_dct {ks vs : List PV} {x : V} (h : RD R ms H (.dct ks vs) x) : ∃ a kx ys, x = .ref a ∧ ks.length = vs.length ∧ DkO R H a ks kx ys ∧ RepPs R ms H ks kx ∧ RepPs R ms H vs ys := h
/-- the test itself, over the heap: x in d -/
theorem in_dct (neg : Bool) (hK : X.K = R.K) (hw : X.w = R.w) (hu : X.A.units + 16 < cLine) (I : Inv X pins σ H s) {k : PV} {ks vs : List PV} {x y : V} {u v : Value} {b : Bool} (rk : RD R ms H k x) (rd : RD R ms H (.dct ks vs) y) (ru : RelV x u) (rv : RelV y v) (e : pyInD k ks = some b)
    {Q : Value → Shared → Prop} (q : ∀ s', Inv X pins σ H s' → Q (.bool (if neg then !b else b)) s') : wpAny (model X.prog X.w) X.A (compareOp (if neg then .NotIn else .In) u v) Q X.xe s := by
  obtain ⟨a, kx, ys, rfl, hl, d, r1, r2⟩ := rd_dct rd
  cases (show v = Value.ref a from rv)
  unfold pyInD at e
  split at e
  · rename_i ok
    cases e
    have hly : ks.length = ys.length := by rw [hl]; exact r2.length
    -- a key is looked at as it is
    have rk' : RepP R ms H k x := by
      cases k with
      | int i => cases rd_int rk; simp only [RepP]
      | str z => cases rd_str rk; simp only [RepP]
      | tup ps => exact rk
      | _ => simp [keyOk, flatK, tupK] at ok
    rcases look_cases hK hw I ok hly d r1 with ⟨kk, k', e1, e2, lk, nd, hH⟩ | ⟨nk, k', bs, us, e1, e2, nd, e3, lb, lu, rv, hs, dd, mu⟩
    · have hy := flat_v e2 rk'
      subst hy
      have hv : (valV (kk.zip ys) k').isSome = decide (k ∈ ks) := by
        rw [valV_zip lk, gGet_mem lk]
        exact decide_eq_decide.mpr (kmF.mem e1 e2).symm
      cases neg with
      | false => exact d_in (by omega) I (DGet.k hH) ru fun s' I' => by rw [hv]; exact q s' I'
      | true => exact d_notIn (by omega) I (DGet.k hH) ru fun s' I' => by rw [hv]; exact q s' I'
    · obtain ⟨b', e4, e5, kis⟩ := tup_is hK I e2 rk' ru
      subst e5
      have hm : (atKey (nk.zip (bs.zip us)) k').isSome = decide (k ∈ ks) := by
        rw [atKey_some lb lu]
        exact decide_eq_decide.mpr (kmT.mem e1 e2).symm
      cases neg with
      | false =>
        refine wpAny_in_heap (by show X.A.in1.units + 8 < cLine; have : X.A.in1.units = X.A.units + 1 := rfl; omega) kis hs dd ?_
        rw [hm]
        exact q _ (I.tok _)
      | true =>
        show wpAny _ _ (do return .bool (!(← contains (.ref a) (.ref b')))) Q X.xe s
        refine wpAny_bind (wpAny_contains_heap (by show X.A.in1.units + 8 < cLine; have : X.A.in1.units = X.A.units + 1 := rfl; omega) kis hs dd (wpAny_pure ?_))
        rw [hm]
        exact q _ (I.tok _)
  · cases e
def pyIn2 (x c : PV) : Option Bool := match c with
  | .dct ks _ => pyInD x ks
  | c => pyIn x c
def pyNotIn2 (x c : PV) : Option Bool := (pyIn2 x c).map (!·)
theorem so_in2 (hK : X.K = R.K) (hw : X.w = R.w) (hu : X.A.units + 65 < cLine) : OpR X (compareOp .In) (rB R (bl pyIn2)) := by
  intro pins s σ H x y v u Q I rx ry ⟨ms, p, c, r, h1, h2, t, e, k⟩
  cases c with
  | dct ks vs =>
    obtain ⟨b, e1, rfl⟩ := Option.map_eq_some_iff.mp (show (pyInD p ks).map PV.bl = some r from e)
    exact in_dct false hK hw (by omega) I h1 h2 rx ry e1 fun s' I' => ⟨.bl b, H, I', rfl, k _ H (Ext.refl H) (by simp only [RepP])⟩
  | _ => exact so_in hK hu pins s σ H x y v u Q I rx ry ⟨ms, p, _, r, h1, h2, t, e, k⟩
theorem so_notIn2 (hK : X.K = R.K) (hw : X.w = R.w) (hu : X.A.units + 65 < cLine) : OpR X (compareOp .NotIn) (rB R (bl pyNotIn2)) := by
  intro pins s σ H x y v u Q I rx ry ⟨ms, p, c, r, h1, h2, t, e, k⟩
  cases c with
  | dct ks vs =>
    obtain ⟨b0, e0, rfl⟩ := Option.map_eq_some_iff.mp (show ((pyInD p ks).map (!·)).map PV.bl = some r from e)
    obtain ⟨b, e1, rfl⟩ := Option.map_eq_some_iff.mp e0
    exact in_dct true hK hw (by omega) I h1 h2 rx ry e1 fun s' I' => ⟨.bl (!b), H, I', rfl, k _ H (Ext.refl H) (by simp only [RepP])⟩
  | _ => exact so_notIn hK hu pins s σ H x y v u Q I rx ry ⟨ms, p, _, r, h1, h2, t, e, k⟩

/-! ### storing -/
theorem dctO_new {P : Program} {w : World} {H' : Hp} {h' : Heap} {a : Addr} {xs : List (NestedKey × Addr × Value)} (hs : (a == sysModules) = false) (dd : h'.DictOfH (nestedKind P w) a xs) : ObjOk P w H' h' a (dctO w a xs) := by
  obtain ⟨o, es, ep, ho, hx, hd, he, _, _⟩ := dd
  refine ⟨⟨hs, o, ep, ho, hx, ?_⟩, ⟨o, ho⟩, fun h1 h2 ⟨k1, o1, ep1, k2, k3, k4⟩ hk => ⟨k1, o1, ep1, hk _ k2, k3, k4⟩⟩
  rw [hd]
  congr 1
  have e2 : es.toList = xs.map (dEntry w) := he
  rw [← e2, Array.toArray_toList]
theorem tupKs_snoc {k : PV} {k' : NestedKey} (e : tupK k = some k') : ∀ {ks : List PV} {nk : List NestedKey}, tupKs ks = some nk → tupKs (ks ++ [k]) = some (nk ++ [k'])
  | [], nk, h => by simp only [tupKs] at h; cases h; simp [tupKs, e]
  | p :: ks, nk, h => by
    simp only [tupKs] at h
    split at h
    · rename_i e1 e2
      cases h
      simp only [List.cons_append, tupKs, e1, tupKs_snoc e e2]
    · cases h
theorem put_dct (hK : X.K = R.K) (hw : X.w = R.w) (hu : X.A.units + 16 < cLine) (I : Inv X pins σ H s) (own : ∀ x a, H x = some (.own a) → x ∉ ms) {ks vs : List PV} {kx ys : List V} {D : Addr} {k v : PV} {y z : V} {u r : Value} (hD : D ∈ ms) (ok : keyOk ks k = true) (hz : ks.length < sizeLine) (hl : ks.length = vs.length)
    (d : DkO R H D ks kx ys) (r1 : RepPs R ms H ks kx) (r2 : RepPs R ms H vs ys) (ry : RepP R ms H k y) (rz : RepP R ms H v z) (vy : RelV y u) (vz : RelV z r) {Q : Unit → Shared → Prop} {E : Value → Shared → Prop}
    (q : ∀ s' o kx' ys', Inv X pins σ (upd H D o) s' → isBox o = true → DkO R (upd H D o) D (gPut ks vs k v).1 kx' ys' → RepPs R ms (upd H D o) (gPut ks vs k v).1 kx' → RepPs R ms (upd H D o) (gPut ks vs k v).2 ys' → Q () s') :
    wpAny (model X.prog X.w) X.A (dictSet D u r) Q E s := by
  have hly : ks.length = ys.length := by rw [hl]; exact r2.length
  -- the keys' values behind the store
  have keys : ∃ kx', RepPs R ms H (gPut ks vs k v).1 kx' ∧ ((k ∈ ks ∧ kx' = kx ∧ (gPut ks vs k v).1 = ks) ∨ (k ∉ ks ∧ kx' = kx ++ [y] ∧ (gPut ks vs k v).1 = ks ++ [k])) := by
    by_cases hk : k ∈ ks
    · exact ⟨kx, by rw [gPut_old hl hk]; exact r1, .inl ⟨hk, rfl, gPut_old hl hk⟩⟩
    · exact ⟨kx ++ [y], by rw [gPut_new hl hk]; exact r1.append (RepPs.cons ry RepPs.nil), .inr ⟨hk, rfl, by rw [gPut_new hl hk]⟩⟩
  obtain ⟨kx', rk', hcase⟩ := keys
  rcases look_cases hK hw I ok hly d r1 with ⟨kk, k', e1, e2, lk, nd, hH⟩ | ⟨nk, k', bs, us, e1, e2, nd, e3, lb, lu, rv, hs, dd, mu⟩
  · have hy := flat_v e2 ry
    subst hy
    obtain ⟨p1, p2⟩ := kmF.put (v := v) hl e1 e2
    have lkv : kk.length = vs.length := by rw [← hl]; exact (kmF.len e1).symm
    obtain ⟨q1, q2⟩ := put_rep (k := k') rz lkv r2
    refine d_dictSet I hH (by rw [List.length_zip]; have := kmF.len e1; omega) vy vz fun s' I' => ?_
    have st := upd_step (H := H) (u := .dK (putK (kk.zip ys) k' z)) hD rfl
    refine q s' _ kx' (gPut kk ys k' z).2 I' rfl (.inl ⟨(gPut kk vs k' v).1, p1, ?_⟩) (RepPs.step st own _ _ rk') ?_
    · rw [upd_same, putK_zip lk nd, q2]
    · rw [p2]
      exact RepPs.step st own _ _ q1
  · obtain ⟨b', e4, e5, kis⟩ := tup_is hK I e2 ry vy
    subst e4 e5 e3
    have mem := kmT.mem e1 e2
    refine wpAny_dictSet_heap (knd := nestedKind X.prog X.w) (show X.A.units + 8 < cLine by omega) kis dd (fun h' dd' sb => ?_) (by rw [List.length_zip, List.length_zip]; have := kmT.len e1; omega)
    obtain ⟨p1, p2⟩ := kmT.put (v := v) hl e1 e2
    have lkv : nk.length = vs.length := by rw [← hl]; exact (kmT.len e1).symm
    obtain ⟨q1, q2⟩ := put_rep (k := k') rz lkv r2
    -- the entries behind the store
    have ent : ∃ (bs' : List Addr) (us' : List Value), storedH (nk.zip (bs.zip us)) k' b' r = (gPut nk vs k' v).1.zip (bs'.zip us') ∧ kx' = bs'.map V.ref ∧ Vals (gPut nk ys k' z).2 us' := by
      have vals : ∀ {nk : List NestedKey} {ys : List V} {us : List Value}, Vals ys us → Vals (gPut nk ys k' z).2 (gPut nk us k' r).2 := fun {nk ys us} hv => by
        induction hv generalizing nk with
        | nil => cases nk <;> exact .cons vz .nil
        | cons h1 h2 ih =>
          cases nk with
          | nil => exact .cons vz .nil
          | cons k0 nk =>
            unfold gPut
            split
            · exact .cons vz h2
            · exact .cons h1 ih
      have fsame : (gPut nk us k' r).1 = (gPut nk vs k' v).1 := by
        by_cases hk : k' ∈ nk
        · rw [gPut_old lu hk, gPut_old lkv hk]
        · rw [gPut_new lu hk, gPut_new lkv hk]
      rcases hcase with ⟨hk, ek, _⟩ | ⟨hk, ek, _⟩
      · have hk' := mem.mp hk
        refine ⟨bs, (gPut nk us k' r).2, ?_, ek, vals rv⟩
        unfold storedH
        rw [if_pos (by rw [atKey_some lb lu]; simpa using hk'), mapPut_zip lb lu nd hk', fsame]
      · have hk' : k' ∉ nk := fun z => hk (mem.mpr z)
        refine ⟨bs ++ [b'], (gPut nk us k' r).2, ?_, by rw [ek]; simp, vals rv⟩
        unfold storedH
        rw [if_neg (by rw [atKey_some lb lu]; simpa using hk'), ← fsame, gPut_new lu hk']
        have l2 : nk.length = (bs.zip us).length := by rw [List.length_zip]; omega
        show _ = (nk ++ [k']).zip ((bs ++ [b']).zip (us ++ [r]))
        rw [List.zip_append (by omega : bs.length = us.length), List.zip_append l2]
        rfl
    obtain ⟨bs', us', e6, e7, e8⟩ := ent
    rw [e6] at dd'
    have he : ∃ o, h'.get? D = some o := let ⟨o, _, _, ho, _⟩ := dd'; ⟨o, ho⟩
    have I' := d_write (t' := s.toks + (nestedKind X.prog X.w).draws k') (ob := dctO X.w D ((gPut nk vs k' v).1.zip (bs'.zip us'))) I mu sb he (dctO_new hs dd')
    have st := upd_step (H := H) (u := dctO X.w D ((gPut nk vs k' v).1.zip (bs'.zip us'))) hD rfl
    refine q _ _ kx' (gPut nk ys k' z).2 I' rfl (.inr ⟨(gPut nk vs k' v).1, bs', us', p1, ⟨?_, ?_⟩, e7, e8, by rw [upd_same, hw]⟩) (RepPs.step st own _ _ rk') ?_
    · by_cases hk : k' ∈ nk
      · rw [gPut_old lkv hk]; exact nd
      · rw [gPut_new lkv hk]
        exact List.nodup_append.mpr ⟨nd, by simp, fun a ha b hb e => hk (by rw [List.mem_singleton.mp hb] at e; rw [← e]; exact ha)⟩
    · rcases hcase with ⟨hk, _, e9⟩ | ⟨_, _, e9⟩
      · rw [e9]; intro z; rw [z] at hk; cases hk
      · rw [e9]; simp
    · rw [p2]
      exact RepPs.step st own _ _ q1
end
end Ev

end
section
set_option maxRecDepth 100000
set_option maxHeartbeats 4000000
/-! Ev Y: dict comprehensions, the store left open -/
namespace Ev
open PySem PySem.Spec PyProof.Rows L2

/-- a store into the dict at D: what it asks, what it leaves -/
abbrev DStore := Addr → V → V → Hp → (Hp → Prop) → Prop
def DStoreOk (X : Cx) (St : DStore) : Prop :=
  ∀ (pins : List (Addr × Obj)) (s : Shared) (σ : L2.St) (H : Hp) (D : Addr) (y z : V) (u r : Value) (N : Hp → Prop), Inv X pins σ H s → RelV y u → RelV z r → St D y z H N → wpAny (model X.prog X.w) X.A (dictSet D u r) (fun _ s' => ∃ H', Inv X pins σ H' s' ∧ N H') (fun _ _ => False) s
def tDcG (wi : TI) (g : TG) (tt : TT) (tk tv : TE) (vs : List Nat) (St : DStore) : TE := fun σ H Q => wi σ H fun J H1 => ∀ D, H1 D = none → ∃ W : Nat → Nat → Hp → Prop, (∃ m, W 0 m (upd H1 D (.dK []))) ∧ ∀ i m H2, W i m H2 →
  (J.stop i H2 ∧ Q (.ref D) H2) ∨ (J.go i H2 ∧ ∃ N : Hp → Prop, (∀ H', N H' → ∃ m', m' < m ∧ W (i + 1) m' H') ∧ ∀ x H', J.yld i H2 x H' → g x (wipe σ vs) H' fun τ H3 => wipe τ vs = wipe σ vs ∧ tt τ H3 fun b H4 =>
    if b = true then tk τ H4 fun y H5 => tv τ H5 fun z H6 => St D y z H6 N else N H4)
section
variable {X : Cx} {kx vx tg iter : Expr} {ifs : List Expr} {scope : Scope} {own : List (Str × Nat)} {pos : Pos} {wi : TI} {g : TG} {tt : TT} {tk tv : TE} {St : DStore}
theorem dcG_core {pins : List (Addr × Obj)} {s : Shared} {σ : L2.St} {H : Hp} {Q : VK} {pos' : Pos} {use : Option (Value → Sem Unit)} {Qf : Value → Shared → Prop} (hc : X.calm = true) (hN : X.N.Nodup) (hi : PI X tg iter wi) (ok : BlkOk X.N X.env.scope scope own)
    (hg : ∀ (s : Shared) (H : Hp) (C : Addr) (cl : List (Str × Addr)) (fp : List Addr), PG (X.blk s H scope (compEnvC scope cl C X.env) fp) tg g)
    (ht : ∀ (s : Shared) (H : Hp) (C : Addr) (cl : List (Str × Addr)) (fp : List Addr), PTs (X.blk s H scope (compEnvC scope cl C X.env) fp) ifs tt)
    (hk : ∀ (s : Shared) (H : Hp) (C : Addr) (cl : List (Str × Addr)) (fp : List Addr), PE (X.blk s H scope (compEnvC scope cl C X.env) fp) kx tk)
    (he : ∀ (s : Shared) (H : Hp) (C : Addr) (cl : List (Str × Addr)) (fp : List Addr), PE (X.blk s H scope (compEnvC scope cl C X.env) fp) vx tv)
    (hst : ∀ (s : Shared) (H : Hp) (C : Addr) (cl : List (Str × Addr)) (fp : List Addr), DStoreOk (X.blk s H scope (compEnvC scope cl C X.env) fp) St)
    (hs : ∀ x, foldedSetIterable iter X.env x = pure x) (I : Inv X pins σ H s) (h : tDcG wi g tt tk tv (own.map (·.2)) St σ H Q)
    (fin : ∀ D C s' m H', Inv X pins σ H' s' → Q (.ref D) H' → s'.heap.Ns C m → FpOk X pins H' C → compPost (model X.prog X.w) X.A X.xe use Qf (.ref D) C (.ok .next) s') :
    wpAny (model X.prog X.w) X.A (comprehension (.DictComp kx vx [⟨tg, iter, ifs, 0⟩] scope pos) scope X.env pos' newDict false (eval iter X.env) use) Qf X.xe s := by
  have caps : ∀ y ∈ scope.names, y.2 = .free → ∃ c, X.env.cells.lookup y.1 = some c := fun y hy e => (ok.free y hy e).elim (fun k => I.ok.has _ (.inl k)) fun k => I.ok.has _ (.inr k)
  refine wpAny_comprehension_free (use := use) rfl hs (closure_ok caps) ok.kind (fun y hy e => by rw [ok.uniq y hy, e]) (thn (hi.run pins s σ H _ I h) fun xv sA hA => thn hA fun itv sB hB => ?_)
  obtain ⟨it, fp, turnAt, J, HB, rfl, IB, T, stB, fB, q⟩ := hB
  refine wpAny_newObj_type (newEnv_comp ?_)
  -- D: the new dict; C: where the block's names stand
  obtain ⟨D, hD⟩ : ∃ D, D = sB.heap.objs.size := ⟨_, rfl⟩
  obtain ⟨W, ⟨m0, w0⟩, turns⟩ := q D (IB.hok.fresh (Nat.le_of_eq hD.symm))
  obtain ⟨sC, hC⟩ : ∃ sC : Shared, sC = { sB with heap := sB.heap.push { cls := .type "dict", data := .dict #[] } } := ⟨_, rfl⟩
  have hpC : sC.heap = sB.heap.push { cls := .type "dict", data := .dict #[] } := by rw [hC]
  have IC : Inv X pins σ (upd HB D (.dK [])) sC := by
    rw [hC, hD]
    exact IB.laid (t' := sB.toks) (fun b o e => Heap.get?_push_of_some _ e) (Nat.le_refl _) (dk_empty sB.heap IB.big)
  have older : ∀ b ∈ fp, b < sB.heap.objs.size := fun b hb => let ⟨o, e, _⟩ := T.obj _ _ stB b hb; Heap.lt_size e
  have fC : ∀ b ∈ fp, FpOk X pins (upd HB D (.dK [])) b ∧ b < sC.heap.objs.size := fun b hb => by
    have hlt := older b hb
    refine ⟨⟨?_, (fB b hb).2⟩, by rw [hpC, Heap.size_push]; exact Nat.lt_succ_of_lt hlt⟩
    rw [upd_ne (by rw [hD]; exact Nat.ne_of_lt hlt)]
    exact (fB b hb).1
  have stC : turnAt 0 sC.heap := T.keep _ _ _ stB fun b _ o e => by rw [hpC]; exact Heap.get?_push_of_some _ e
  have ID := block_start IC ok hN fC
  obtain ⟨C, hCe⟩ : ∃ C, C = sC.heap.objs.size := ⟨_, rfl⟩
  obtain ⟨cl, hcl⟩ : ∃ cl, cl = cellsFrom (sC.heap.objs.size + 1) scope.names (cloFrom X.env.cells scope.names []) := ⟨_, rfl⟩
  have pg := hg sC (upd HB D (.dK [])) C cl fp
  have pt := ht sC (upd HB D (.dK [])) C cl fp
  have pk := hk sC (upd HB D (.dK [])) C cl fp
  have pv := he sC (upd HB D (.dK [])) C cl fp
  have ps := hst sC (upd HB D (.dK [])) C cl fp
  rw [← hD]
  rw [hCe, hcl] at pg pt pk pv ps
  generalize hce : compEnvC scope (cellsFrom (sC.heap.objs.size + 1) scope.names (cloFrom X.env.cells scope.names [])) sC.heap.objs.size X.env = ce at ID pg pt pk pv ps
  have cL : ce.locals = sC.heap.objs.size := by rw [← hce]; rfl
  show codeAny _ _ (.compStart (.DictComp kx vx [⟨tg, iter, ifs, 0⟩] scope pos) 0 (.ref it) (.ref D) (compEnvC scope (cellsFrom ((sB.heap.push { cls := .type "dict", data := .dict #[] }).objs.size + 1) scope.names (cloFrom X.env.cells scope.names [])) (sB.heap.push { cls := .type "dict", data := .dict #[] }).objs.size X.env)) _ _
  rw [← hpC, hce]
  generalize hHD : upd HB D (.dK []) = HD at IC ID pg pt pk pv ps w0 fC
  have none_fp : ∀ b ∈ fp, HD b = none := fun b hb => (fC b hb).1.1
  generalize hsD : ({ sC with heap := pushCells (sC.heap.push { cls := .type "dict", data := .dict #[] }) scope.names } : Shared) = sD at ID
  have stD : turnAt 0 sD.heap := T.keep _ _ _ stC fun b _ o e => by rw [← hsD]; exact pushCells_keeps _ _ _ _ (Heap.get?_push_of_some _ e)
  have fixed : ∀ {τ : L2.St} {H' : Hp} {s' : Shared}, Inv (X.blk sC HD scope ce fp) [] τ H' s' → (∀ b ∈ fp, H' b = none) → ∀ b ∈ fp, FpOk (X.blk sC HD scope ce fp) [] H' b := fun {τ H' s'} I' hn b hb =>
    ⟨hn b hb, (I'.ok.exf b hb).1, I'.ok.exfs b hb, .inl hb, fun x c e => (I'.ok.exf b hb).2 x c e, fun p hp => absurd (show p ∈ ([] : List (Addr × Obj)) ++ [] from hp) (by simp)⟩
  -- the loop: at turn i, what W says
  have loop : codeAny (model X.prog X.w) X.A (.compLoop (.DictComp kx vx [⟨tg, iter, ifs, 0⟩] scope pos) 0 (.ref it) (.ref D) ce) (compPost (model X.prog X.w) X.A X.xe use Qf (.ref D) sC.heap.objs.size) sD := by
    refine compLoop_anyD (fun n s' => ∃ i H', Inv (X.blk sC HD scope ce fp) [] (wipe σ (own.map (·.2))) H' s' ∧ turnAt i s'.heap ∧ (∀ b ∈ fp, H' b = none) ∧ W i n H') ?_ m0 ⟨0, HD, ID, stD, none_fp, w0⟩
    rintro n sE ⟨i, HE, IE, stE, nE, wE⟩
    rcases turns i n HE wE with ⟨stop, qend⟩ | ⟨go, N, hN', yld⟩
    · refine thnF (T.done (X.blk sC HD scope ce fp) rfl rfl rfl hc i [] sE _ HE (fun _ _ => False) IE (fixed IE nE) stE stop) fun r sF ⟨hr, IF⟩ => ?_
      subst hr
      have IG : Inv X pins σ HE sF := IC.call' (ch := fp) IF.os IF.base IF.hok IF.bare fun b hb => ⟨(fC b hb).1.2.2.2.1, (fC b hb).1.2.1, (fC b hb).1.2.2.2.2.1, (fC b hb).1.2.2.2.2.2⟩
      have nC : HE sC.heap.objs.size = none := by
        have z : HE ce.locals = none := IF.free
        rwa [cL] at z
      obtain ⟨m, hm, _⟩ := IF.loc
      have hm : sF.heap.Ns ce.locals m := hm
      rw [cL] at hm
      exact fin D sC.heap.objs.size sF m HE IG qend hm (IC.fpOk (Nat.le_refl _) nC)
    · refine thnF (T.item (X.blk sC HD scope ce fp) rfl rfl rfl hc i [] sE _ HE (fun _ _ => False) IE (fixed IE nE) stE go) fun r sF ⟨u, hr, hF⟩ => ?_
      subst hr
      refine thnF hF fun _ sG ⟨x, HG, IG, rG, yG, stG, nG⟩ => ?_
      refine thnF (pg.run _ sG _ HG x u _ (IG.pinned (fixed IG nG) (T.obj _ _ stG)) rG (yld x HG yG)) fun _ sH ⟨τ, HH, IH, hwp, qH⟩ => ?_
      refine thnF (pt.run _ sH τ HH _ IH qH) fun b sI ⟨HI, II, qI⟩ => ?_
      have again : ∀ {s' : Shared} {H' : Hp}, Inv (X.blk sC HD scope ce fp) ([] ++ pinsAt fp sG.heap) τ H' s' → N H' → ∃ m, m < n ∧ ∃ j K', Inv (X.blk sC HD scope ce fp) [] (wipe σ (own.map (·.2))) K' s' ∧ turnAt j s'.heap ∧ (∀ b ∈ fp, K' b = none) ∧ W j m K' := fun {s' H'} I' hn => by
        obtain ⟨m', hlt, w'⟩ := hN' H' hn
        have pinned : ∀ b ∈ fp, ∀ o, sG.heap.get? b = some o → s'.heap.get? b = some o ∧ H' b = none := fun b hb o e =>
          let z := I'.pin (b, o) (List.mem_append_right _ (List.mem_append_right _ (mem_pinsAt hb e)))
          ⟨z.1, z.2.1⟩
        have hlen : (wipe σ (own.map (·.2))).length = τ.length := by rw [← hwp, wipe_length]
        refine ⟨m', hlt, i + 1, H', (I'.unpinned (pins := [])).weak hlen (fun j v e => by rw [← hwp] at e; exact (wipe_some e).1), T.keep _ _ _ stG fun b hb o e => (pinned b hb o e).1, fun b hb => ?_, w'⟩
        obtain ⟨o, e, _⟩ := T.obj _ _ stG b hb
        exact (pinned b hb o e).2
      cases b with
      | false =>
        simp only [Bool.false_eq_true, if_false] at qI ⊢
        exact again II qI
      | true =>
        simp only [if_true] at qI ⊢
        refine thnF (pk.run _ sI τ HI _ II qI) fun kv sJ ⟨y, HJ, IJ, rJ, qJ⟩ => ?_
        refine thnF (pv.run _ sJ τ HJ _ IJ qJ) fun vv sK ⟨z, HK, IK, rK, qK⟩ => ?_
        exact thnF (ps _ sK τ HK D y z kv vv N IK rJ rK qK) fun _ sL ⟨HL, IL, nL⟩ => again IL nL
  have key := codeAny_compStart_dict loop (T.self X.A 0 _ _ _ stD loop)
  rw [← hsD] at key
  rw [hC] at key ⊢
  exact key
theorem pe_dcG (hc : X.calm = true) (hN : X.N.Nodup) (hi : PI X tg iter wi) (ok : BlkOk X.N X.env.scope scope own)
    (hg : ∀ (s : Shared) (H : Hp) (C : Addr) (cl : List (Str × Addr)) (fp : List Addr), PG (X.blk s H scope (compEnvC scope cl C X.env) fp) tg g)
    (ht : ∀ (s : Shared) (H : Hp) (C : Addr) (cl : List (Str × Addr)) (fp : List Addr), PTs (X.blk s H scope (compEnvC scope cl C X.env) fp) ifs tt)
    (hk : ∀ (s : Shared) (H : Hp) (C : Addr) (cl : List (Str × Addr)) (fp : List Addr), PE (X.blk s H scope (compEnvC scope cl C X.env) fp) kx tk)
    (he : ∀ (s : Shared) (H : Hp) (C : Addr) (cl : List (Str × Addr)) (fp : List Addr), PE (X.blk s H scope (compEnvC scope cl C X.env) fp) vx tv)
    (hst : ∀ (s : Shared) (H : Hp) (C : Addr) (cl : List (Str × Addr)) (fp : List Addr), DStoreOk (X.blk s H scope (compEnvC scope cl C X.env) fp) St)
    (hs : ∀ x, foldedSetIterable iter X.env x = pure x) : PE X (.DictComp kx vx [⟨tg, iter, ifs, 0⟩] scope pos) (tDcG wi g tt tk tv (own.map (·.2)) St) := by
  refine ⟨fun pins s σ H Q I h => ?_⟩
  rw [arm_eval_DictComp]
  refine dcG_core hc hN hi ok hg ht hk he hst hs I h fun D C s' m H' I' q hn f => ⟨m, hn, fun h' sb => ?_⟩
  obtain ⟨f0, f1, f2, f3, f4, f5⟩ := f
  exact ⟨.ref D, H', I'.turned (t' := s'.toks) (fun b o hb e => (sb.2 b hb).trans e) f0 f1 f3 f4 f5, rfl, q⟩
theorem ps_setDcG {i : Nat} {y : Str} {py spos : Pos} (hc : X.calm = true) (hN : X.N.Nodup) (hi : PI X tg iter wi) (ok : BlkOk X.N X.env.scope scope own)
    (hg : ∀ (s : Shared) (H : Hp) (C : Addr) (cl : List (Str × Addr)) (fp : List Addr), PG (X.blk s H scope (compEnvC scope cl C X.env) fp) tg g)
    (ht : ∀ (s : Shared) (H : Hp) (C : Addr) (cl : List (Str × Addr)) (fp : List Addr), PTs (X.blk s H scope (compEnvC scope cl C X.env) fp) ifs tt)
    (hk : ∀ (s : Shared) (H : Hp) (C : Addr) (cl : List (Str × Addr)) (fp : List Addr), PE (X.blk s H scope (compEnvC scope cl C X.env) fp) kx tk)
    (he : ∀ (s : Shared) (H : Hp) (C : Addr) (cl : List (Str × Addr)) (fp : List Addr), PE (X.blk s H scope (compEnvC scope cl C X.env) fp) vx tv)
    (hst : ∀ (s : Shared) (H : Hp) (C : Addr) (cl : List (Str × Addr)) (fp : List Addr), DStoreOk (X.blk s H scope (compEnvC scope cl C X.env) fp) St)
    (hs : ∀ x, foldedSetIterable iter X.env x = pure x) (hy : X.N[i]? = some y) (hyl : X.env.scope.names.lookup y = some .local)
    (hsw : swapsWith (.DictComp kx vx [⟨tg, iter, ifs, 0⟩] scope pos) (some (.Name y py)) spos.line X.env = pure true) :
    PS X (.Assign [.Name y py] (.DictComp kx vx [⟨tg, iter, ifs, 0⟩] scope pos) spos) (tAsg (tDcG wi g tt tk tv (own.map (·.2)) St) (gName i)) := by
  refine ⟨fun pins s σ H D I h => ?_⟩
  rw [exec_Assign_Name_used _ _ _ _ hsw]
  refine wpAny_bind (wpAny_standAt (wpAny_bind ?_))
  show wpAny _ X.A (do let _ ← comprehension (.DictComp kx vx [⟨tg, iter, ifs, 0⟩] scope pos) scope X.env (firstIterPos [⟨tg, iter, ifs, 0⟩] pos) newDict false (eval iter X.env) (some (assign (.Name y py) X.env))) _ _ s
  have h : tDcG wi g tt tk tv (own.map (·.2)) St σ H (fun x H1 => gName i x σ H1 D.nx) := h
  refine wpAny_bind (thn (dcG_core (Qf := fun _ s' => SP X pins D .next s') hc hN hi ok hg ht hk he hst hs I h fun L C s' m H' I' q hn f => ?_) fun _ s' hq => wpAny_pure (wpAny_pure hq))
  show wpAny _ _ (assign (.Name y py) X.env (.ref L)) _ _ _
  refine wpAny_assign_Name (store_ok2 (v := V.ref L) I' hN hy (.inl hyl) rfl (fun s2 I2 ⟨a, sb, ha⟩ => ?_) (.inr hyl))
  obtain ⟨f0, f1, f2, f3, f4, f5⟩ := f
  have haC : C ≠ a := ha.elim (fun z => by rw [z]; exact f1) fun z e => f4 y a z e.symm
  exact ⟨m, hn.sameBut sb haC, fun h3 sb3 => ⟨_, H', I2.turned (t' := s2.toks) (fun b o hb e => (sb3.2 b hb).trans e) f0 f1 f3 f4 f5, q⟩⟩
end
end Ev

end
section
set_option maxRecDepth 100000
set_option maxHeartbeats 4000000
/-! Ev Z: new objects; dict comprehensions as the evaluator has them -/
namespace Ev
open PySem PySem.Spec PyProof.Rows L2

/-- a new object, by its content -/
abbrev FN := Fr → Store → Res Ob
def nStuck : FN := fun _ _ => .stuck
def cFrzN (f : FN) : FE := fun ρ G => (f ρ G).bind fun o G1 => .ok (.pv (freeze o)) G1
def sSetBoxN (i : Nat) (f : FN) : FS := fun ρ G => ofR ρ (f ρ G) fun o G1 => .next (ρ.set i (some (.box G1.length))) (G1 ++ [o])
def sRetBoxN (f : FN) : FS := fun ρ G => ofR ρ (f ρ G) fun o G1 => .ret (.box G1.length) (G1 ++ [o])
def dcLoop (it : Items) (tgt : Tgt) (tt : FT) (tk te : FE) (n : Nat) (ρ : Fr) : List PV → Store → Res Unit
  | [], G => if guardOk it.guard it.xs G then .ok () G else .stuck
  | x :: xs, G => if guardOk it.guard it.xs G then
      match bindTgt tgt x ρ with
      | none => .stuck
      | some ρ' => (noX (tt ρ' G)).bind fun b G1 => if b = true then
          (noX (tk ρ' G1)).bind fun k G2 => (noX (te ρ' G2)).bind fun v G3 => match k, v, G3[n]? with
            | .pv k, .pv v, some (.dct ks vs) => if keyOk ks k && decide (ks.length < sizeLine) then dcLoop it tgt tt tk te n ρ xs (G3.set n (.dct (gPut ks vs k v).1 (gPut ks vs k v).2)) else .stuck
            | _, _, _ => .stuck
        else dcLoop it tgt tt tk te n ρ xs G1
    else .stuck
def cDc (fi : FI) (own : List Nat) (tgt : Tgt) (tt : FT) (tk te : FE) : FN := fun ρ G => (fi ρ G).bind fun it G1 =>
  (dcLoop it tgt tt tk te G1.length (wipeF ρ own) it.xs (G1 ++ [.dct [] []])).bind fun _ G2 => match G2[G1.length]? with
    | some o => if G2.length = G1.length + 1 then .ok o (G2.take G1.length) else .stuck
    | _ => .stuck
section
variable {R : RC} {W : WX} {X : Cx} {ms ms' : List Addr} {H H' : Hp} {G G' : Store} {ρ : Fr} {σ : L2.St} {e : Expr}
def PostN (R : RC) (W : WX) (σ : L2.St) (ms : List Addr) (H : Hp) (Q : VK) : Res Ob → Prop
  | .ok o G => ∀ ms' p H', Step ms H (ms' ++ [p]) H' → RepG R (ms' ++ [p]) H' (G ++ [o]) → ms.length ≤ ms'.length → Q (.ref p) H'
  | .exc e G => ∀ ms' cls d H', Step ms H ms' H' → RepG R ms' H' G → RepX R ms' H' e cls d → W cls d σ H'
  | .stuck => False
def tN (R : RC) (W : WX) (f : FN) : TE := fun σ H Q => ∃ ms ρ G, RepG R ms H G ∧ RepS R ms H ρ σ ∧ PostN R W σ ms H Q (f ρ G)
theorem PostN.stuck {σ : L2.St} {ms : List Addr} {H : Hp} {Q : VK} (h : PostN R W σ ms H Q .stuck) : False := h
/-- the last box as a pure value -/
theorem RepG.cutN {H : Hp} {G : Store} {p : Addr} {o : Ob} (g : RepG R (ms ++ [p]) H (G ++ [o])) : RepG R ms H G ∧ RepP R ms H (freeze o) (.ref p) ∧ p ∉ ms ∧ ms.length = G.length := by
  have hl : ms.length = G.length := by have := g.len; simpa using this
  have g1 := g.cut ms.length
  have e1 : (ms ++ [p]).take ms.length = ms := by rw [List.take_append_of_le_length (Nat.le_refl _), List.take_length]
  have e2 : (G ++ [o]).take ms.length = G := by rw [hl, List.take_append_of_le_length (Nat.le_refl _), List.take_length]
  rw [e1, e2] at g1
  have np : p ∉ ms := fun hm => by
    have nd := g.nd
    rw [List.nodup_append] at nd
    exact nd.2.2 p hm p (by simp) rfl
  have ro := g.ob G.length o p (by simp) (by rw [← hl]; simp)
  have sub : ∀ a ∈ ms, a ∈ ms ++ [p] := fun a ha => List.mem_append_left _ ha
  refine ⟨g1, ?_, np, hl⟩
  cases o with
  | lst ps =>
    obtain ⟨xs, h1, h2⟩ := ro
    show RepP R ms H (.lst ps) (.ref p)
    simp only [RepP]
    exact ⟨p, xs, rfl, ⟨h1, np⟩, RepPs.less sub _ _ h2⟩
  | dct ks vs =>
    obtain ⟨kx, ys, hl, d, h1, h2⟩ := ro
    show RepP R ms H (.dct ks vs) (.ref p)
    simp only [RepP]
    exact ⟨p, kx, ys, rfl, np, hl, d, RepPs.less sub _ _ h1, RepPs.less sub _ _ h2⟩
  | ins c ns ps =>
    obtain ⟨C, dx, fs, hc, h1, h2, h3, h4⟩ := ro
    show RepP R ms H (.ins c ns ps) (.ref p)
    simp only [RepP]
    exact ⟨p, C, dx, fs, rfl, hc, h1, np, h2, h3, RepPs.less sub _ _ h4⟩
theorem tN_frz {f : FN} {σ : L2.St} {H : Hp} {Q : VK} (h : tE R W (cFrzN f) σ H Q) : tN R W f σ H Q := by
  obtain ⟨ms, ρ, G, g, s, q⟩ := h
  refine ⟨ms, ρ, G, g, s, ?_⟩
  unfold cFrzN at q
  cases e1 : f ρ G with
  | exc e G1 => rw [e1] at q; exact q
  | stuck => rw [e1] at q; exact q
  | ok o G1 =>
    rw [e1] at q
    intro ms' p H' st g' hl
    obtain ⟨g2, r, np, _⟩ := g'.cutN
    exact q ms' (.ref p) H' (st.cut hl) g2 r
theorem se_frzN {f : FN} (h : PE X e (tN R W f)) : PE X e (tE R W (cFrzN f)) := PE.to h fun σ H Q q => tN_frz q
theorem tN_stmt {f : FN} {Q2 : VK} {k : Ob → Store → ResS} {D : Ends} (g : RepG R ms H G) (s : RepS R ms H ρ σ) (h : PostS R W ms H D (ofR ρ (f ρ G) k))
    (go : ∀ o G1, f ρ G = .ok o G1 → PostS R W ms H D (k o G1) → ∀ ms1 p H1, Step ms H (ms1 ++ [p]) H1 → RepG R (ms1 ++ [p]) H1 (G1 ++ [o]) → RepS R (ms1 ++ [p]) H1 ρ σ → ms.length ≤ ms1.length → Q2 (.ref p) H1) : tN R W f σ H Q2 := by
  refine ⟨ms, ρ, G, g, s, ?_⟩
  cases e : f ρ G with
  | ok v G1 => rw [e] at h; exact fun ms1 p H1 st g1 l => go v G1 e h ms1 p H1 st g1 (s.step g st) l
  | exc e G1 => rw [e] at h; exact fun ms1 c d H1 st1 g1 r => h ms1 c d σ H1 st1 g1 (s.step g st1) r
  | stuck => rw [e] at h; exact h
theorem rep_boxN {ms1 : List Addr} {H1 : Hp} {G1 : Store} {p : Addr} {o : Ob} (g : RepG R (ms1 ++ [p]) H1 (G1 ++ [o])) : RepV R (ms1 ++ [p]) H1 (.box G1.length) (.ref p) := by
  have hl : ms1.length = G1.length := by have := g.len; simpa using this
  exact ⟨p, by rw [← hl]; simp, rfl⟩
/-- what a store asks of the dict that is built -/
def StD (R : RC) : DStore := fun D y z H N => ∃ ms ks vs kx ys k v, D ∈ ms ∧ (∀ x a, H x = some (.own a) → x ∉ ms) ∧ keyOk ks k = true ∧ ks.length < sizeLine ∧ ks.length = vs.length ∧ DkO R H D ks kx ys ∧ RepPs R ms H ks kx ∧ RepPs R ms H vs ys ∧ RepP R ms H k y ∧ RepP R ms H v z ∧
  ∀ o kx' ys', isBox o = true → DkO R (upd H D o) D (gPut ks vs k v).1 kx' ys' → RepPs R ms (upd H D o) (gPut ks vs k v).1 kx' → RepPs R ms (upd H D o) (gPut ks vs k v).2 ys' → N (upd H D o)
theorem stD_ok (hK : X.K = R.K) (hw : X.w = R.w) (hu : X.A.units + 16 < cLine) : DStoreOk X (StD R) := by
  intro pins s σ H D y z u r N I vy vz ⟨ms, ks, vs, kx, ys, k, v, hD, own, ok, hz, hl, d, r1, r2, ry, rz, q⟩
  exact put_dct hK hw hu I own hD ok hz hl d r1 r2 ry rz vy vz fun s' o kx' ys' I' hb d' k1 k2 => ⟨_, I', q o kx' ys' hb d' k1 k2⟩
theorem gPut_eqlen {ks vs : List PV} {k v : PV} (h : ks.length = vs.length) : (gPut ks vs k v).1.length = (gPut ks vs k v).2.length := gPut_len h

theorem tDc_of {vs : List Nat} {tgt : Tgt} {fi : FI} {ft : FT} {fk fe : FE} {K : PySem.W.Frag} (hK : K = R.K) (hsl : ∀ k ∈ tgt.slots, k ∈ vs) {σ : L2.St} {H : Hp} {Q : VK} (h : tN R W (cDc fi vs tgt ft fk fe) σ H Q) :
    tDcG (tI R W fi) (gOf K tgt) (tT R W0 ft) (tE R W0 fk) (tE R W0 fe) vs (StD R) σ H Q := by
  obtain ⟨ms, ρ, G, g, s, q⟩ := h
  refine ⟨ms, ρ, G, g, s, ?_⟩
  unfold cDc at q
  cases e1 : fi ρ G with
  | stuck => rw [e1] at q; exact q
  | exc ex G1 => rw [e1] at q; exact q
  | ok it G1 =>
    rw [e1] at q
    have q : PostN R W σ ms H Q ((dcLoop it tgt ft fk fe G1.length (wipeF ρ vs) it.xs (G1 ++ [.dct [] []])).bind fun _ G2 => match G2[G1.length]? with
      | some o => if G2.length = G1.length + 1 then .ok o (G2.take G1.length) else .stuck
      | _ => .stuck) := q
    intro ms1 J H1 st1 g1 wk D hD
    have al := g1.alloc (o := .dct [] []) (H' := upd H1 D (.dK [])) hD (Ext.new hD) ⟨[], [], rfl, .inl ⟨[], rfl, upd_same⟩, .nil, .nil⟩
    have s1 := (s.step g st1).step g1 al.2
    have sw := s1.wipe vs
    have hl1 : ms1.length = G1.length := g1.len
    refine ⟨fun i m H' => m = it.xs.length - i ∧ i ≤ it.xs.length ∧ ∃ ms2 G2, Step (ms1 ++ [D]) (upd H1 D (.dK [])) ms2 H' ∧ RepG R ms2 H' G2 ∧
      PostN R W σ ms H Q ((dcLoop it tgt ft fk fe G1.length (wipeF ρ vs) (it.xs.drop i) G2).bind fun _ G2 => match G2[G1.length]? with
      | some o => if G2.length = G1.length + 1 then .ok o (G2.take G1.length) else .stuck
      | _ => .stuck), ⟨it.xs.length, by simp, Nat.zero_le _, ms1 ++ [D], G1 ++ [.dct [] []], Step.refl _ _, al.1, by rw [List.drop_zero]; exact q⟩, ?_⟩
    rintro i m H2 ⟨rfl, hi2, ms2, G2, st2, g2, q2⟩
    have wk2 := wk.on al.2
    by_cases hlt : i < it.xs.length
    · right
      rw [List.drop_eq_getElem_cons hlt] at q2
      simp only [dcLoop] at q2
      split at q2
      · rename_i hgd
        obtain ⟨go, yl⟩ := wk2.go ms2 H2 G2 i _ st2 g2 hgd (List.getElem?_eq_getElem hlt)
        refine ⟨go, fun H' => ∃ ms3 G3, Step (ms1 ++ [D]) (upd H1 D (.dK [])) ms3 H' ∧ RepG R ms3 H' G3 ∧ PostN R W σ ms H Q ((dcLoop it tgt ft fk fe G1.length (wipeF ρ vs) (it.xs.drop (i + 1)) G3).bind fun _ G2 => match G2[G1.length]? with
          | some o => if G2.length = G1.length + 1 then .ok o (G2.take G1.length) else .stuck
          | _ => .stuck), fun H' n => ⟨it.xs.length - (i + 1), by omega, rfl, hlt, n⟩, fun x H3 hy => ?_⟩
        obtain ⟨ex, rp⟩ := yl x H3 hy
        split at q2
        · exact q2.stuck.elim
        · rename_i ρ3 eb
          have st3 := ex.step (ms := ms2)
          have s2 : RepS R ms2 H2 (wipeF ρ vs) (wipe σ vs) := sw.step al.1 st2
          refine gOf_ok hK eb (s2.step g2 st3) rp fun σ3 s3 hk3 hl3 => ⟨wipe_twice hl3 fun k hk => hk3 k fun z => hk (hsl k z), ?_⟩
          refine ⟨ms2, ρ3, G2, g2.ext ex, s3, ?_⟩
          rcases noX_cases (ft ρ3 G2) with ⟨b, G4, e4, e5⟩ | e5
          · rw [e5] at q2
            rw [e4]
            intro ms4 H4 st4 g4
            cases b with
            | false => exact ⟨ms4, G4, st2.trans (st3.trans st4), g4, q2⟩
            | true =>
              rw [if_pos rfl]
              have s4 := s3.step (g2.ext ex) st4
              refine ⟨ms4, ρ3, G4, g4, s4, ?_⟩
              have q3 : PostN R W σ ms H Q (((noX (fk ρ3 G4)).bind fun k G2 => (noX (fe ρ3 G2)).bind fun v G3 => match k, v, G3[G1.length]? with
                | .pv k, .pv v, some (.dct ks vs') => if keyOk ks k && decide (ks.length < sizeLine) then dcLoop it tgt ft fk fe G1.length (wipeF ρ vs) (it.xs.drop (i + 1)) (G3.set G1.length (.dct (gPut ks vs' k v).1 (gPut ks vs' k v).2)) else .stuck
                | _, _, _ => .stuck).bind fun _ G2 => match G2[G1.length]? with
                | some o => if G2.length = G1.length + 1 then .ok o (G2.take G1.length) else .stuck
                | _ => .stuck) := q2
              rcases noX_cases (fk ρ3 G4) with ⟨k, G5, e6, e7⟩ | e7
              · rw [e7] at q3
                rw [e6]
                intro ms5 y H5 st5 g5 r5
                refine ⟨ms5, ρ3, G5, g5, s4.step g4 st5, ?_⟩
                have q4 : PostN R W σ ms H Q (((noX (fe ρ3 G5)).bind fun v G3 => match k, v, G3[G1.length]? with
                  | .pv k, .pv v, some (.dct ks vs') => if keyOk ks k && decide (ks.length < sizeLine) then dcLoop it tgt ft fk fe G1.length (wipeF ρ vs) (it.xs.drop (i + 1)) (G3.set G1.length (.dct (gPut ks vs' k v).1 (gPut ks vs' k v).2)) else .stuck
                  | _, _, _ => .stuck).bind fun _ G2 => match G2[G1.length]? with
                  | some o => if G2.length = G1.length + 1 then .ok o (G2.take G1.length) else .stuck
                  | _ => .stuck) := q3
                rcases noX_cases (fe ρ3 G5) with ⟨v, G6, e8, e9⟩ | e9
                · rw [e9] at q4
                  rw [e8]
                  intro ms6 z H6 st6 g6 r6
                  have q5 : PostN R W σ ms H Q ((match k, v, G6[G1.length]? with
                    | .pv k, .pv v, some (.dct ks vs') => if keyOk ks k && decide (ks.length < sizeLine) then dcLoop it tgt ft fk fe G1.length (wipeF ρ vs) (it.xs.drop (i + 1)) (G6.set G1.length (.dct (gPut ks vs' k v).1 (gPut ks vs' k v).2)) else .stuck
                    | _, _, _ => (.stuck : Res Unit)).bind fun _ G2 => match G2[G1.length]? with
                    | some o => if G2.length = G1.length + 1 then .ok o (G2.take G1.length) else .stuck
                    | _ => .stuck) := q4
                  have stA := st2.trans (st3.trans (st4.trans (st5.trans st6)))
                  have hD6 : ms6[G1.length]? = some D := stA.get (by rw [← hl1]; simp)
                  split at q5
                  · rename_i kk vv ks vs' eA
                    split at q5
                    · rename_i hok
                      rw [Bool.and_eq_true] at hok
                      obtain ⟨kx, ys, hlen, d, r1, r2⟩ := g6.ob G1.length _ D eA hD6
                      have rk : RepP R ms6 H6 kk y := RepP.step st6 g5.own kk y r5
                      refine ⟨ms6, ks, vs', kx, ys, kk, vv, List.mem_of_getElem? hD6, g6.own, hok.1, of_decide_eq_true hok.2, hlen, d, r1, r2, rk, r6, fun o kx' ys' hb d' k1 k2 => ?_⟩
                      have wr := g6.write (u := o) (o := .dct (gPut ks vs' kk vv).1 (gPut ks vs' kk vv).2) hD6 hb ⟨kx', ys', gPut_len hlen, d', k1, k2⟩
                      exact ⟨ms6, _, stA.trans wr.2, wr.1, q5⟩
                    · exact q5.stuck.elim
                  · exact q5.stuck.elim
                · rw [e9] at q4; exact q4.stuck.elim
              · rw [e7] at q3; exact q3.stuck.elim
          · rw [e5] at q2; exact q2.stuck.elim
      · exact q2.stuck.elim
    · left
      have e2 : i = it.xs.length := by omega
      subst e2
      rw [List.drop_length] at q2
      simp only [dcLoop] at q2
      split at q2
      · rename_i hgd
        refine ⟨wk2.stop ms2 H2 G2 st2 g2 hgd, ?_⟩
        have q3 : PostN R W σ ms H Q (match G2[G1.length]? with
          | some o => if G2.length = G1.length + 1 then .ok o (G2.take G1.length) else .stuck
          | _ => .stuck) := q2
        split at q3
        · rename_i o eA
          split at q3
          · rename_i hsz
            have hl2 : ms2 = ms1 ++ [D] := by
              obtain ⟨new, e, _⟩ := st2.grow
              have h1 := g2.len
              have : new = [] := by
                have := congrArg List.length e
                simp at this
                cases new with
                | nil => rfl
                | cons _ _ => simp at this; omega
              rw [e, this, List.append_nil]
            subst hl2
            have hG : G2.take G1.length ++ [o] = G2 := by
              apply List.ext_getElem?
              intro k
              by_cases hk : k < G1.length
              · rw [List.getElem?_append_left (by rw [List.length_take]; omega), List.getElem?_take_of_lt hk]
              · rw [List.getElem?_append_right (by rw [List.length_take]; omega), List.length_take]
                by_cases hk2 : k = G1.length
                · subst hk2
                  rw [eA]
                  have : G1.length - min G1.length G2.length = 0 := by omega
                  rw [this]; rfl
                · rw [List.getElem?_eq_none (l := G2) (by omega), List.getElem?_eq_none (by simp; omega)]
            refine q3 ms1 D H2 (st1.trans (al.2.trans st2)) (by rw [hG]; exact g2) st1.len
          · exact q3.stuck.elim
        · exact q3.stuck.elim
      · exact q2.stuck.elim
end
end Ev

end
section
set_option maxRecDepth 100000
set_option maxHeartbeats 4000000
/-! Ev Ld: a dict's keys as a list; its length; its values by key -/
namespace Ev
open PySem PySem.Spec PyProof.Rows L2
section
variable {R : RC} {W : WX} {X : Cx} {ms ms' : List Addr} {H H' : Hp} {G G' : Store} {ρ : Fr} {σ : L2.St} {pins : List (Addr × Obj)} {s : Shared}
theorem raw_keys (hw : X.w = R.w) (I : Inv X pins σ H s) {ks vs : List PV} {kx ys : List V} {a : Addr} (hl : ks.length = vs.length) (d : DkO R H a ks kx ys) (r1 : RepPs R ms H ks kx) (r2 : RepPs R ms H vs ys) :
    (a == sysModules) = false ∧ ks.length ≤ sizeLine + ks.length ∧ ∃ es ep, s.heap.DictRaw a es ep ∧ es.size = ks.length ∧ Vals kx (es.toList.map (·.key)) ∧ Vals ys (es.toList.map (·.val)) := by
  have lkx := r1.length
  have lys := r2.length
  rcases d with ⟨kk, e1, e2⟩ | ⟨nk, bs, us, e1, nd, e2, e3, e4⟩
  · have lk : kk.length = ys.length := by rw [← lys, ← hl]; exact (kmF.len e1).symm
    have lkk := kmF.len e1
    obtain ⟨hz, hs, kvs, rk, dd⟩ := (show ObjOk X.prog X.w H s.heap a (.dK (kk.zip ys)) from I.hok a _ e2)
    obtain ⟨ep, hat⟩ := dd.dictAt
    obtain ⟨es, hr, hsz, hget⟩ := hat.raw
    have lkv : kvs.length = ks.length := by
      have := Paired.length rk
      rw [List.length_zip] at this
      omega
    have flat : ∀ (i : Nat) (x : V), kx[i]? = some x → ∃ k, kk[i]? = some k ∧ x = kV k := fun i x h => by
      obtain ⟨p, h1, h2⟩ := r1.get' h
      have key : ∀ {ks : List PV} {kk : List Key} {i : Nat} {p : PV}, flatKs ks = some kk → ks[i]? = some p → ∃ k, kk[i]? = some k ∧ flatK p = some k := by
        intro ks
        induction ks with
        | nil => intro kk i p _ h; simp at h
        | cons q ks ih =>
          intro kk i p e h
          simp only [flatKs] at e
          split at e
          · rename_i k0 kk0 e5 e6
            cases e
            cases i with
            | zero => simp at h; subst h; exact ⟨k0, rfl, e5⟩
            | succ i => simp at h; obtain ⟨k, h3, h4⟩ := ih e6 h; exact ⟨k, by simpa using h3, h4⟩
          · cases e
      obtain ⟨k, h3, h4⟩ := key e1 h1
      exact ⟨k, h3, flat_v h4 h2⟩
    have at_ : ∀ (i : Nat) (k : Key) (y : V), kk[i]? = some k → ys[i]? = some y → ∃ v, kvs[i]? = some (k, v) ∧ RelV y v := fun i k y h1 h2 => by
      have hz : (kk.zip ys)[i]? = some (k, y) := by rw [List.getElem?_zip_eq_some]; exact ⟨h1, h2⟩
      have gen : ∀ {as : List (Key × V)} {bs : List (Key × Value)} {i : Nat} {k : Key} {y : V}, KV as bs → as[i]? = some (k, y) → ∃ v, bs[i]? = some (k, v) ∧ RelV y v := by
        intro as bs i k y r
        induction r generalizing i with
        | nil => intro h; simp at h
        | @cons p q as bs h t ih =>
          intro e
          cases i with
          | zero =>
            simp at e
            subst e
            obtain ⟨h3, h4⟩ := h
            exact ⟨q.2, by simp; exact Prod.ext h3.symm rfl, h4⟩
          | succ i => simp at e; obtain ⟨v, h5, h6⟩ := ih e; exact ⟨v, by simpa using h5, h6⟩
      exact gen rk hz
    refine ⟨hs, by omega, es, ep, hr, by rw [hsz, lkv], ?_, ?_⟩
    · refine vals_of_at (by simp; omega) fun j x w h1 h2 => ?_
      obtain ⟨k, h3, rfl⟩ := flat j x h1
      rw [List.getElem?_map] at h2
      obtain ⟨en, h4, rfl⟩ := Option.map_eq_some_iff.mp h2
      have hj : j < ys.length := by have := (List.getElem?_eq_some_iff.mp h3).1; omega
      obtain ⟨v, h5, h6⟩ := at_ j k ys[j] h3 (List.getElem?_eq_getElem hj)
      have hj2 : j < es.size := by omega
      obtain ⟨h7, h8⟩ := hget j hj2 k v h5
      have e9 : es[j] = en := by
        rw [Array.getElem?_toList, Array.getElem?_eq_getElem hj2] at h4
        exact Option.some.inj h4
      rw [← e9]
      exact keyIs_rel h7
    · refine vals_of_at (by simp; omega) fun j y w h1 h2 => ?_
      rw [List.getElem?_map] at h2
      obtain ⟨en, h4, rfl⟩ := Option.map_eq_some_iff.mp h2
      have hj : j < kk.length := by have := (List.getElem?_eq_some_iff.mp h1).1; omega
      obtain ⟨v, h5, h6⟩ := at_ j kk[j] y (List.getElem?_eq_getElem hj) h1
      have hj2 : j < es.size := by omega
      obtain ⟨h7, h8⟩ := hget j hj2 _ v h5
      have e9 : es[j] = en := by
        rw [Array.getElem?_toList, Array.getElem?_eq_getElem hj2] at h4
        exact Option.some.inj h4
      rw [← e9, h8]
      exact h6
  · subst e2
    have lnk := kmT.len e1
    have lb : nk.length = bs.length := by rw [← lnk, lkx]; simp
    have lu : nk.length = us.length := by rw [← lnk, hl, lys]; exact e3.length
    obtain ⟨⟨hs, o, ep, ho, hx, hd⟩, _, _⟩ := (show ObjOk X.prog X.w H s.heap a (dctO R.w a (nk.zip (bs.zip us))) from I.hok a _ e4)
    have lz : (nk.zip (bs.zip us)).length = ks.length := by rw [List.length_zip, List.length_zip]; omega
    refine ⟨hs, by omega, _, ep, ⟨o, ho, hx, hd⟩, by simpa using lz, ?_, ?_⟩
    · rw [List.toList_toArray, List.map_map]
      have : (nk.zip (bs.zip us)).map ((·.key) ∘ dEntry R.w) = bs.map Value.ref := by
        refine List.ext_getElem? fun j => ?_
        rw [List.getElem?_map, List.getElem?_map]
        by_cases hj : j < nk.length
        · have hb : j < bs.length := by omega
          have hu : j < us.length := by omega
          have : (nk.zip (bs.zip us))[j]? = some (nk[j], bs[j], us[j]) := by
            rw [List.getElem?_zip_eq_some]
            refine ⟨List.getElem?_eq_getElem hj, ?_⟩
            rw [List.getElem?_zip_eq_some]
            exact ⟨List.getElem?_eq_getElem hb, List.getElem?_eq_getElem hu⟩
          rw [this, List.getElem?_eq_getElem hb]
          rfl
        · rw [List.getElem?_eq_none (by omega), List.getElem?_eq_none (by omega)]
          rfl
      rw [this]
      have all : ∀ bs : List Addr, Vals (bs.map V.ref) (bs.map Value.ref) := fun bs => by
        induction bs with
        | nil => exact .nil
        | cons b bs ih => exact .cons rfl ih
      exact all bs
    · rw [List.toList_toArray, List.map_map]
      have : (nk.zip (bs.zip us)).map ((·.val) ∘ dEntry R.w) = us := by
        refine List.ext_getElem? fun j => ?_
        rw [List.getElem?_map]
        by_cases hj : j < nk.length
        · have hb : j < bs.length := by omega
          have hu : j < us.length := by omega
          have : (nk.zip (bs.zip us))[j]? = some (nk[j], bs[j], us[j]) := by
            rw [List.getElem?_zip_eq_some]
            refine ⟨List.getElem?_eq_getElem hj, ?_⟩
            rw [List.getElem?_zip_eq_some]
            exact ⟨List.getElem?_eq_getElem hb, List.getElem?_eq_getElem hu⟩
          rw [this, List.getElem?_eq_getElem hu]
          rfl
        · rw [List.getElem?_eq_none (by omega), List.getElem?_eq_none (by omega)]
          rfl
      rw [this]
      exact e3
/-- list(d) -/
def pyList2 (ps : List PV) : Option (List PV) := match ps with
  | [.dct ks _] => if ks.length ≤ sizeLine then some ks else none
  | ps => pyList ps
theorem sb_list2 (hK : X.K = R.K) (hw : X.w = R.w) (hc : X.calm = true) : CallR X (.type "list") (rCF R pyList2) := by
  intro pins s σ H xs us Q I rv ⟨ms, ps, r, rd, t, e, k⟩
  unfold pyList2 at e
  split at e
  · rename_i ks vs
    obtain ⟨x, rfl, h⟩ := rd.one
    obtain ⟨a, kx, ys, rfl, hl, d, r1, r2⟩ := rd_dct h
    split at e
    · rename_i hz
      cases e
      obtain ⟨hs, _, es, ep, hr, hsz, vk, vv⟩ := raw_keys hw I hl d r1 r2
      rw [Vals.ref1 rv]
      refine PySem.W.kdl_call (KdlSrc.rawDict (es := es) (ep := ep) hs) (I.ok.hd hc) hr (by omega) fun h' tk acc' c' hk hS hacc => ?_
      have hfr : H s.heap.objs.size = none := I.hok.fresh (Nat.le_refl _)
      have hacc1 := hacc.1
      have va : Vals kx acc'.toList := by
        refine vals_of_at (by simp; have := r1.length; omega) fun j x w h1 h2 => ?_
        obtain ⟨hj, e3⟩ := hacc.2 j w (by rw [← Array.getElem?_toList]; exact h2)
        obtain ⟨w', e4, rw'⟩ := vk.get h1
        rw [List.getElem?_map, Array.getElem?_toList, Array.getElem?_eq_getElem hj] at e4
        cases e4
        rw [e3]
        exact rw'
      refine ⟨.ref s.heap.objs.size, upd H s.heap.objs.size (.lst kx), I.laid hk (Nat.le_refl _) ⟨by rw [← r1.length]; exact hz, acc'.toList, c', va, by rw [Array.toArray_toList]; exact hS⟩, rfl, k _ kx H _ (Ext.refl H) hfr r1 (Ext.new hfr) upd_same⟩
    · cases e
  · exact sb_list hK pins s σ H xs us Q I rv ⟨ms, ps, r, rd, t, e, k⟩
end
end Ev

end
section
set_option maxRecDepth 100000
set_option maxHeartbeats 4000000
/-! Ev Lam: sorted(xs, key=lambda x: (len(x), x)): the key's call, raw -/
namespace Ev
open PySem PySem.Spec PySem.Calls PySem.W PyProof.Rows L2

mutual
/-- no list, no dict within -/
def flatD : PyData → Bool
  | .list _ => false
  | .dict _ => false
  | .tuple xs => flatDs xs
  | _ => true
def flatDs : List PyData → Bool
  | [] => true
  | x :: xs => flatD x && flatDs xs
end
mutual
theorem reads_flat {h : Heap} : ∀ (d : PyData) (v : Value) (as : List Addr), flatD d = true → Reads h v d as → as = []
  | .none, v, as, _, r => by cases r; rfl
  | .bool _, v, as, _, r => by cases r; rfl
  | .int _, v, as, _, r => by cases r; rfl
  | .str _, v, as, _, r => by cases r; rfl
  | .list _, v, as, e, _ => by simp [flatD] at e
  | .dict _, v, as, e, _ => by simp [flatD] at e
  | .tuple ds, v, as, e, r => by
    simp only [flatD] at e
    cases r with
    | tuple h1 h2 h3 h4 => exact reads_flats ds _ _ e h4
theorem reads_flats {h : Heap} : ∀ (ds : List PyData) (vs : List Value) (as : List Addr), flatDs ds = true → ReadsAll h vs ds as → as = []
  | [], vs, as, _, r => by cases r; rfl
  | d :: ds, vs, as, e, r => by
    simp only [flatDs, Bool.and_eq_true] at e
    cases r with
    | cons r1 r2 =>
      rw [reads_flat d _ _ e.1 r1, reads_flats ds _ _ e.2 r2]
      rfl
end
/-- (len(x), x) -/
def isKeyBody (x : Str) : Expr → Bool
  | .Tuple [.Call (.Name l _) [.Name y _] [] _, .Name z _] _ _ => l == "len" && y == x && z == x
  | _ => false
section
variable {prog : Program} {w : World} {A : Around} {s : Shared} {f c' : Addr} {q : Str} {params : Arguments} {body : Expr} {scope : Scope} {pm ctv : Value} {mg mb : Str → Option Value} {x : Str} {v : Value} {n : Nat} {d : PyData}
/-- the key's call: a new tuple of the length and the item; nothing else changes -/
theorem key_call (hroom : A.depth < recursionLimit) (hf : s.heap.get? f = some (kla_obj "<lambda>" q params body scope [] pm c' ctv)) (hcd : s.heap.CodeRec (.ref c') q)
    (hg : s.heap.Ns mainGlobals mg) (hm : mg "len" = none) (hb : s.heap.Ns builtinsNs mb) (hbl : mb "len" = some (.builtin "len")) (hlim : s.heap.NoLimit)
    (hk : scope.kind = .function) (hco : scope.isCoroutine = false) (hge : scope.isGenerator = false) (hcell : ∀ y ∈ scope.names, y.2 ≠ .cell) (hx : scope.names.lookup x = some .local) (hl : scope.names.lookup ("len" : Str) = some .globalImplicit)
    (hbind : bindArgs (kla_fn "<lambda>" q params body scope [] pm (.ref c') ctv) ⟨[v], []⟩ = pure [(x, v)]) (hbody : isKeyBody x body = true) (hdb : (x == ("__debug__" : Str)) = false)
    (hd : Reads s.heap v d []) (hlen : ∀ (A : Around) (h : Heap) (tk : Nat) (E : Value → Shared → Prop) (Q : Value → Shared → Prop), (∀ b o, s.heap.get? b = some o → h.get? b = some o) → (∀ t tk', Q (.int n t) { s with heap := h, toks := tk' }) → wpAny (model prog w) A (call (.builtin "len") [v]) Q E { s with heap := h, toks := tk }) :
    wpAny (model prog w) A (call (.ref f) [v]) (KeyPure (.tuple [.int n, d]) s) (fun _ _ => False) s := by
  unfold isKeyBody at hbody
  split at hbody <;> first | cases hbody | skip
  rename_i l p1 y p2 p3 z p4 k p5
  simp only [Bool.and_eq_true] at hbody
  obtain ⟨⟨e1, e2⟩, e3⟩ := hbody
  cases eq_of_beq e1; cases eq_of_beq e2; cases eq_of_beq e3
  refine wpAny_call (kla_callFunE hroom hf rfl hco hge rfl hcd ?_)
  rw [hbind]
  refine wpAny_pure (wpAny_newFunctionEnv hcell (fun y hy => by rw [List.mem_singleton.mp hy]; exact hx) (fun h₁ hns hsb => ⟨hlim.fresh _ hsb, ?_⟩) hk)
  generalize henv : newEnv scope s.heap.objs.size mainGlobals [] (q ++ ".<locals>.") (some f) (.ref c') none builtinsNs = env
  have kp : ∀ b o, s.heap.get? b = some o → h₁.get? b = some o := fun b o e => hsb.extBut b o (Nat.ne_of_lt (Heap.lt_size e)) (Heap.get?_push_of_some _ e)
  have eg : env.globals = mainGlobals := by rw [← henv]; rfl
  have eb : env.builtins = builtinsNs := by rw [← henv]; rfl
  have ek : env.scope.kind = .function := by rw [← henv]; exact hk
  have kx : env.kindOf x = some .local := by rw [← henv]; exact hx
  have kl : env.kindOf ("len" : Str) = some .globalImplicit := by rw [← henv]; exact hl
  have eL : env.locals = s.heap.objs.size := by rw [← henv]; rfl
  show codeAny _ _ (.expr _ env) _ _
  refine kla_codeExpr ?_
  -- the name x, at any later state that keeps the frame
  have name : ∀ {h : Heap} {tk : Nat} {p : Pos} {E : Value → Shared → Prop} {Q : Value → Shared → Prop}, (∀ b o, h₁.get? b = some o → h.get? b = some o) → Q v { s with heap := h, toks := tk } → wpAny (model prog w) (A.deeper env) (eval (.Name x p) env) Q E { s with heap := h, toks := tk } := fun {h tk p E Q} kh hq => by
    refine wpAny_Name (wpAny_loadName_local ek kx (m := fun y => ([(x, v)] : List (Str × Value)).reverse.lookup y) ?_ (by simp) hq) hdb
    rw [eL]
    exact hns.keeps kh
  refine Tuple_ (spliced_cons ?_)
  refine wpAny_Call_Name_kw (Calls.Name_function_global ek kl (Calls.loadGlobal_builtin (by rw [eg]; exact hg.keeps kp) hm (by rw [eb]; exact hb.keeps kp) hbl ?_) (by decide))
  refine PySem.callWith_builtin1 (name (fun _ _ e => e) ?_)
  refine hlen _ _ _ _ _ kp fun t tk' => ?_
  refine spliced_cons (name (fun _ _ e => e) (spliced_nil ?_))
  refine wpAny_newObj_type ?_ (by show 2 ≤ sizeLine; decide)
  refine ⟨_, _, rfl, fun b o e => Heap.get?_push_of_some _ (kp b o e), ?_⟩
  have rv : Reads (h₁.push { cls := .type "tuple", data := .seq [Value.int n t, v].toArray }) v d [] := PyProof.Rows.Reads.keeps (fun b o e => Heap.get?_push_of_some _ (kp b o e)) hd
  exact .tuple (Heap.get?_push_size _ rfl) rfl rfl (.cons (.int _ _) (.cons rv .nil))
end
end Ev

end
section
set_option maxRecDepth 100000
set_option maxHeartbeats 4000000
/-! Ev Ls: sorted(xs, key=lambda x: (len(x), x)) -/
namespace Ev
open PySem PySem.Spec PyProof.Rows L2

def lenP : PV → Option Nat
  | .tup xs => some xs.length
  | .str z => if z.length ≤ sizeLine then some z.length else none
  | _ => none
/-- the key -/
def keyD (p : PV) : PyData := .tuple [.int ((lenP p).getD 0), enc p]
def sortableK (xs : List PV) : Bool := decide (xs.length ≤ sizeLine) && xs.all fun x => x.data.isSome && okD (enc x) && flatD (enc x) && (lenP x).isSome && xs.all fun y => PySem.W.alike (enc x) (enc y)
def pySortK (xs : List PV) : List PV := xs.mergeSort (PySem.W.dataLe false keyD)
def pySortedK : List PV → Option (List PV)
  | [.lst xs] => if sortableK xs then some (pySortK xs) else none
  | _ => none
/-- one parameter, nothing else -/
def oneParam : Arguments → Option Str
  | ⟨[], [a], none, [], [], none, []⟩ => some a.arg
  | _ => none
/-- the key's text: lambda x: (len(x), x), no name captured -/
def isKeyLam (params : Arguments) (body : Expr) (scope : Scope) : Bool := match oneParam params with
  | some x => decide (x = "one") && isKeyBody x body && decide (scope.kind = .function) && !scope.isCoroutine && !scope.isGenerator && scope.names.all (fun y => !decide (y.2 = .cell) && !decide (y.2 = .free)) && decide (scope.names.lookup x = some .local) && decide (scope.names.lookup ("len" : Str) = some .globalImplicit) && !(x == ("__debug__" : Str))
  | none => false
theorem clo_none {cells : List (Str × Addr)} : ∀ {l : List (Str × NameKind)}, (∀ y ∈ l, y.2 ≠ .free) → cloFrom cells l [] = []
  | [], _ => rfl
  | (n, k) :: r, h => by
    unfold cloFrom
    have : (k == NameKind.free) = false := by
      have := h (n, k) (List.mem_cons_self ..)
      exact beq_eq_false_iff_ne.mpr this
    rw [this]
    simp only [Bool.false_eq_true, if_false]
    exact clo_none fun y hy => h y (List.mem_cons_of_mem _ hy)
section
variable {R : RC} {W : WX} {X : Cx} {ms ms' : List Addr} {H H' : Hp} {G G' : Store} {ρ : Fr} {σ : L2.St} {pins : List (Addr × Obj)} {s : Shared} {e : Expr} {fs : FA} {p pos kpos lpos : Pos} {params : Arguments} {body : Expr} {scope : Scope}
theorem sortableK_ok {xs : List PV} (h : sortableK xs = true) : xs.length ≤ sizeLine ∧ (∀ x ∈ xs, x.data.isSome = true ∧ okD (enc x) = true ∧ flatD (enc x) = true ∧ (lenP x).isSome = true ∧ ∀ y ∈ xs, PySem.W.alike (enc x) (enc y) = true) := by
  unfold sortableK at h
  rw [Bool.and_eq_true, List.all_eq_true] at h
  refine ⟨of_decide_eq_true h.1, fun x hx => ?_⟩
  have q := h.2 x hx
  simp only [Bool.and_eq_true, List.all_eq_true] at q
  exact ⟨q.1.1.1.1, q.1.1.1.2, q.1.1.2, q.1.2, q.2⟩
theorem each_both {α β : Type} {P Q : α → β → Prop} : ∀ {us : List α} {ps : List β} {M : β → Prop}, PySem.W.EachIs (fun u p => M p ∧ P u p) us ps → PySem.W.EachIs Q us ps → PySem.W.EachIs (fun u p => M p ∧ P u p ∧ Q u p) us ps
  | _, _, _, .nil, _ => .nil
  | _, _, _, .cons h t, .cons h' t' => .cons ⟨h.1, h.2, h'⟩ (each_both t t')
theorem key_depth {p : PV} : (keyD p).depth ≤ (enc p).depth + 2 := by
  unfold keyD
  simp [PyData.depth, PyData.depthAll]
/-- len of such an item, at any later heap -/
theorem len_item (hK : X.K = R.K) (I : Inv X pins σ H s) {q : PV} {x : V} {v : Value} {n : Nat} (hn : lenP q = some n) (r : RepP R ms H q x) (rv : RelV x v) (A : Around) (h : Heap) (tk : Nat) (E : Value → Shared → Prop) (Q : Value → Shared → Prop) (kp : ∀ b o, s.heap.get? b = some o → h.get? b = some o)
    (hq : ∀ t tk', Q (.int n t) { s with heap := h, toks := tk' }) : wpAny (model X.prog X.w) A (call (.builtin "len") [v]) Q E { s with heap := h, toks := tk } := by
  have hs : sizeLine = 16777216 := sizeLine_eq
  cases q <;> first | (cases hn; done) | skip
  · rename_i z
    simp only [RepP] at r
    subst r
    obtain ⟨t, rfl⟩ := rv
    simp only [lenP] at hn
    split at hn
    · rename_i hz
      cases hn
      exact len_str (by omega) (hq _ _)
    · cases hn
  · rename_i ps
    simp only [RepP] at r
    obtain ⟨a, xs, rfl, h1, h2⟩ := r
    cases (show v = Value.ref a from rv)
    simp only [lenP] at hn
    cases hn
    obtain ⟨its, rv2, ht, hz⟩ := I.tuple (by rw [hK]; exact h1.sq)
    have l1 := h2.length
    have l2 := rv2.length
    have e3 : (ps.length : Int) = (its.toArray.size : Int) := by simp only [List.size_toArray]; omega
    refine len_tuple (ht.keeps kp) (by simp only [List.size_toArray]; omega) ?_
    rw [← e3]
    exact hq _ _
theorem stepN (ms : List Addr) {H H' : Hp} (ex : LamX.ExtN H H') : Step ms H ms H' := ⟨⟨[], by simp, by simp⟩, fun a o h _ t => ex a o h t, fun a o h t => ⟨o, ex a o h t, t⟩⟩
theorem RepG.extN (g : RepG R ms H G) (ex : LamX.ExtN H H') (tb : LamX.Tabs R.T H') : RepG R ms H' G := ⟨tb, g.len, g.nd, fun i o a h1 h2 => by
  have st := stepN ms ex
  have r := g.ob i o a h1 h2
  cases o with
  | lst ps => obtain ⟨xs, q, r⟩ := r; exact ⟨xs, ex _ _ q (fun _ z => nomatch z), RepPs.step st g.own _ _ r⟩
  | dct ks vs =>
    obtain ⟨kx, ys, hl, d, r1, r2⟩ := r
    obtain ⟨u0, e0, b0⟩ := g.box (List.mem_of_getElem? h2)
    exact ⟨kx, ys, hl, d.at (fun u q => ex _ _ q (fun ps z => by rw [e0] at q; cases q; rw [z] at b0; cases b0)), RepPs.step st g.own _ _ r1, RepPs.step st g.own _ _ r2⟩
  | ins c ns ps => obtain ⟨C, dx, fs, hc, q, q2, q3, r⟩ := r; exact ⟨C, dx, fs, hc, ex _ _ q (fun _ z => nomatch z), ex _ _ q2 (fun _ z => nomatch z), q3, RepPs.step st g.own _ _ r⟩⟩
theorem sf_sortK {c P : Addr} (hK : X.K = R.K) (hc : X.calm = true) (hu : X.A.units + 80 < cLine) (hdp : X.A.depth < recursionLimit) (hg : Gl X "sorted") (hm : X.mg "sorted" = none) (hml : X.mg "len" = none) (ha : PA X [e] (tA R W fs)) (hs : notStar e = true)
    (hcode : X.env.code = .ref c) (TB : LamX.TabB X.base X.mg c P) (hT : (P, X.env.qual ++ "<lambda>") ∈ R.T) (hU : ∀ p ∈ R.T, p.1 = P → p.2 = X.env.qual ++ "<lambda>") (hl : isKeyLam params body scope = true) :
    PE X (.Call (.Name "sorted" p) [e] [⟨some "key", .Lambda params body scope lpos, kpos⟩] pos) (tF R W (cCallF pySortedK fs)) := by
  unfold isKeyLam at hl
  split at hl <;> first | cases hl | skip
  rename_i x hx
  simp only [Bool.and_eq_true, Bool.not_eq_true', decide_eq_true_eq, List.all_eq_true, decide_eq_false_iff_not] at hl
  obtain ⟨⟨⟨⟨⟨⟨⟨⟨hone, hbody⟩, hkind⟩, hco⟩, hge⟩, hnames⟩, hxl⟩, hll⟩, hdb⟩ := hl
  obtain ⟨a0, hp0, rfl⟩ : ∃ a : Arg, params = ⟨[], [a], none, [], [], none, []⟩ ∧ x = a.arg := by
    unfold oneParam at hx
    split at hx
    · rename_i a
      cases hx
      exact ⟨a, rfl, rfl⟩
    · cases hx
  subst hp0
  obtain ⟨an, ap, apos⟩ := a0
  dsimp only at hone
  subst hone
  have hclo : cloFrom X.env.cells scope.names [] = [] := clo_none fun y hy => (hnames y hy).2
  refine ⟨fun pins s σ H Q I h => ?_⟩
  have h' : tA R W fs σ H (fun xs H1 => ∃ ms1 G1 ps rs, RepG R ms1 H1 G1 ∧ RDs R ms1 H1 ps xs ∧ pySortedK ps = some rs ∧ NewL R ms1 H1 rs Q ∧ ∀ H2, LamX.ExtN H1 H2 → LamX.Tabs R.T H2 → NewL R ms1 H2 rs Q) := by
    obtain ⟨ms, ρ, G, g, sl, q⟩ := h
    refine tA_then g sl (PostF.r (show PostF R W σ ms H Q ((fs ρ G).bind fun vs G1 => ofOL ((Ev.derefs G1 vs).bind pySortedK) G1) from q)) fun vs G1 e1 q1 ms1 xs H1 st1 g1 s1 r1 => ?_
    obtain ⟨rs, e2, q2⟩ := ofOL_some q1
    obtain ⟨ps, e3, e4⟩ := Option.bind_eq_some_iff.mp e2
    have hl1 := st1.len
    refine ⟨ms1, G1, ps, rs, g1, r1.derefs g1 e3, e4, NewL.post g1 (fun ms' p' H' st' g' l' => q2 ms' p' H' (st1.trans st') g' (Nat.le_trans hl1 l')), fun H2 ex tb => ?_⟩
    have st := stepN ms1 ex
    exact NewL.post (g1.extN ex tb) fun ms' p' H' st' g' l' => q2 ms' p' H' (st1.trans (st.trans st')) g' (Nat.le_trans hl1 l')
  refine wpAny_Call_Name_kw (ld_blt I hg hm (by decide +kernel : bootBuiltins "sorted" = some (.builtin "sorted")) ?_)
  refine PyProof.Rows.callWith_kw (thn (ha.run pos pins s σ H _ I h') fun us s1 ⟨vs, H1, I1, r1, ms1, G1, ps, rs, g1, rd, es, nw, later⟩ => ?_) (by rw [starEach_ns hs]; rfl) (backTo_ns (by simp [hs])) rfl rfl
  show wpAny _ _ (evalAll ((do let v ← eval (.Lambda _ body scope lpos) X.env; standAt pos; pure v) :: [])) _ _ s1
  refine wpAny_evalAll_cons (wpAny_bind (LamX.lam_make2 (T := R.T) (c := c) (P := P) I1 TB hcode hT hU g1.tb rfl (fun y hy e => absurd e (hnames y hy).2) fun f c' pm ctv H2 s2 I2 ex tb hf hfn hfr hco2 => wpAny_bind (wpAny_standAt (wpAny_pure (wpAny_evalAll_nil ?_)))))
  unfold pySortedK at es
  split at es
  · rename_i zs
    split at es
    · rename_i hso
      cases es
      obtain ⟨h1, h2⟩ := sortableK_ok hso
      have st := stepN ms1 ex
      have nw2 := later H2 ex tb
      obtain ⟨y, rfl, hy⟩ := rd.one
      obtain ⟨a, ys, rfl, h3, h4⟩ := rd_lst hy
      obtain ⟨its, rvs, hl, _⟩ := I2.list (SqL.of (ex _ _ h3 fun _ z => nomatch z))
      have h4' := RepPs.step st g1.own _ _ h4
      rw [Vals.ref1 r1]
      obtain ⟨e1, e2⟩ := each_enc hK I2 (fun p hp => (h2 p hp).1) h4' rvs
      have hd : ∀ d ∈ zs.map keyD, ∃ p ∈ zs, d = .tuple [.int ((lenP p).getD 0), enc p] := fun d hd => by
        obtain ⟨p, hp, rfl⟩ := List.mem_map.mp hd
        exact ⟨p, hp, rfl⟩
      obtain ⟨mb, hb1, hb2⟩ := I2.mod.blt
      have hrec : s2.heap.CodeRec (.ref c') (X.env.qual ++ "<lambda>") := by
        obtain ⟨⟨oc, vs, t, k1, k2, k3⟩, _, _⟩ := I2.hok _ _ hco2
        exact ⟨c', oc, vs, t, rfl, k1, k2, k3⟩
      have e3 : PySem.W.EachIs (fun u p => p ∈ zs ∧ (∃ x, RepP R ms1 H2 p x ∧ L2.RelV x u) ∧ ∃ as, Reads s2.heap u (enc p) as) its zs := each_both e1 e2
      show wpAny _ _ (call (.builtin "sorted") [.ref a] [("key", .ref f)]) _ _ s2
      refine PySem.W.sorted_key_data (b := false) keyD hl.isList e3 (fun d1 k1 d2 k2 => ?_) (.inl fun d1 k1 => ?_) h1 (fun p hp => ?_) (ksk_s1 _ _) (fun _ => ksk_l1 _ _) (fun _ => ksk_t1 _ _) (fun v p hv hp h' tk kp => ?_) fun out cc h' tk kp hfr1 hout hlen heach => ?_
      · obtain ⟨p1, m1, rfl⟩ := hd d1 k1
        obtain ⟨p2, m2, rfl⟩ := hd d2 k2
        show PySem.W.alikeAll _ _ = true
        simp only [PySem.W.alikeAll, PySem.W.alike, (h2 p1 m1).2.2.2.2 p2 m2, Bool.and_self]
      · obtain ⟨p1, m1, rfl⟩ := hd d1 k1
        exact ⟨_, _, rfl⟩
      · have := enc_depth (h2 p hp).2.1
        have e : (keyD p).depth ≤ (enc p).depth + 2 := key_depth
        omega
      · obtain ⟨_, ⟨y, ry, rv⟩, as, rd'⟩ := hv
        obtain ⟨n, hn⟩ := Option.isSome_iff_exists.mp (h2 p hp).2.2.2.1
        cases reads_flat _ _ _ (h2 p hp).2.2.1 rd'
        have q := key_call (prog := X.prog) (w := X.w) (A := X.A.in1.in1) (s := { s2 with heap := h', toks := tk }) (n := n) (d := enc p) (v := v) (mb := mb) (x := ("one" : Str)) (mg := X.mg) (by show X.A.depth < _; omega) (by have := kp _ _ hf; rw [hclo] at this; exact this) (hrec.keeps kp) ((I2.mod.glob.keeps I2.bk).keeps kp) hml ((hb1.keeps I2.bk).keeps kp) ((hb2 _ (by decide)).trans (by decide +kernel)) (I2.nolimit.keeps kp) hkind hco hge (fun y hy => (hnames y hy).1) hxl hll rfl hbody hdb (PyProof.Rows.Reads.keeps kp rd') fun A h tk E Q kp2 hq => len_item hK I2 hn ry rv A h tk E Q (fun b o e => kp2 b o (kp b o e)) hq
        unfold keyD
        rw [hn]
        exact q
      · obtain ⟨zs', w1, w2⟩ := each_back (ms := ms1) (R := R) (H := H2) (heach.mono fun _ _ z => z.2.1)
        have hlz : zs'.length ≤ sizeLine := by rw [← w1.length]; unfold pySortK at *; rw [List.length_mergeSort]; exact h1
        have hfr2 : H2 (s2.heap.objs.size + 1) = none := I2.hok.fresh (Nat.le_succ _)
        exact ⟨.ref _, upd H2 (s2.heap.objs.size + 1) (.lst zs'), I2.laid (t' := tk) kp (Nat.le_succ _) ⟨hlz, out, cc, w2, hout⟩, rfl, nw2 _ zs' H2 _ (Ext.refl H2) hfr2 w1 (Ext.new hfr2) upd_same⟩
    · cases es
  · cases es
end
end Ev

end
section
set_option maxRecDepth 100000
set_option maxHeartbeats 4000000
/-! Ev Ts: sets of nested tuples: the search, the adding -/
namespace Ev
open PySem PySem.Spec PyProof.Rows L2

/-! ### the table alone -/
section
variable {t : SetTable} {hs : List Int} {h : Int} {K : Nat}
/-- the n-th step of a hash's way -/
abbrev stp (m : Nat) (h : Int) (n : Nat) : SetTable.Probe := nth m (runAt m (SetTable.bits h % (m + 1)) (SetTable.bits h)) n
theorem stp_add (m : Nat) (h : Int) (c q : Nat) : nth m (stp m h c) q = stp m h (c + q) := (nth_add m c _ q).symm
theorem stp_clean (m : Nat) (h : Int) (n : Nat) : (stp m h n).dummy = none := by
  have all : ∀ (n : Nat) (p : SetTable.Probe), p.dummy = none → (nth m p n).dummy = none := fun n => by
    induction n with
    | zero => exact fun _ e => e
    | succ n ih => exact fun p e => ih _ (by unfold adv; split <;> exact e)
  exact all n _ rfl
/-- from the c-th step on: the first entry of this hash, or the free place -/
theorem probe_on (T : TabOk t hs) (at_ : Nat → Int) (hat : ∀ (i : Nat) (z : Int), hs[i]? = some z → at_ i = z) (hK : way t.mask h K ∉ t.place.toList) (hb : ∀ c, c < K → way t.mask h c ∈ t.place.toList) (hf : K < 10 * SetTable.turns t.mask) {c : Nat} (hc : c ≤ K) :
    (∃ q i, c ≤ q ∧ q < K ∧ t.place.toList[i]? = some (way t.mask h q) ∧ (∀ q' i', c ≤ q' → q' < q → t.place.toList[i']? = some (way t.mask h q') → at_ i' ≠ h) ∧ t.probe at_ h (stp t.mask h c) = some (.candidate (way t.mask h q) i (stp t.mask h (q + 1)))) ∨
    ((∀ q' i', c ≤ q' → q' < K → t.place.toList[i']? = some (way t.mask h q') → at_ i' ≠ h) ∧ t.probe at_ h (stp t.mask h c) = some (.empty (way t.mask h K) none)) := by
  have j_ : ∀ q, (nth t.mask (stp t.mask h c) q).j = way t.mask h (c + q) := fun q => congrArg SetTable.Probe.j (stp_add _ _ _ _)
  have eK : c + (K - c) = K := by omega
  rcases go_spec t T.ris T.dm at_ h (10 * SetTable.turns t.mask) (K - c) (stp t.mask h c) (stp_clean _ _ _) (by omega) (fun q hq => by rw [j_]; exact hb _ (by omega)) (by rw [j_, eK]; exact hK) with ⟨q, i, h1, h2, _, h4, h5⟩ | ⟨h4, h5⟩
  · refine .inl ⟨c + q, i, by omega, by omega, by rw [← j_]; exact h2, fun q' i' a b e => h4 (q' - c) i' (by omega) (by rw [j_, show c + (q' - c) = q' by omega]; exact e), ?_⟩
    rw [← j_, Nat.add_assoc, ← stp_add]
    exact h5
  · refine .inr ⟨fun q' i' a b e => h4 (q' - c) i' (by omega) (by rw [j_, show c + (q' - c) = q' by omega]; exact e), ?_⟩
    rw [show way t.mask h K = (nth t.mask (stp t.mask h c) (K - c)).j by rw [j_, eK]]
    exact h5
end

/-! ### what is asked of a key -/
section
variable {P : Program} {w : World} {A : Around} {E : Value → Shared → Prop} {s : Shared}
abbrev NK (P : Program) (w : World) : HeapKind P w NestedKey := nestedKind P w
mutual
theorem noClass_key : ∀ (k : NestedKey) (v : Value) (n : Nat) (s : Shared), NestedIs s.heap k v → k.depth ≤ n → ∀ (A : Around) (E : Value → Shared → Prop) (Q : Bool → Shared → Prop), Q false s → wpAny (model P w) A (ofAClassStatement n v) Q E s
  | .none, _, n, s, x, _, A, E, Q, h => by cases x; cases n <;> exact wpAny_pure h
  | .num _, _, n, s, x, _, A, E, Q, h => by cases x <;> (cases n <;> exact wpAny_pure h)
  | .text _, _, n, s, x, _, A, E, Q, h => by cases x; cases n <;> exact wpAny_pure h
  | .tup ks, _, n, s, x, hn, A, E, Q, h => by
    cases x with
    | @tup a o vs m _ ho hc hd hk =>
      simp only [NestedKey.depth] at hn
      cases n with
      | zero => omega
      | succ n =>
        unfold ofAClassStatement
        refine wpAny_bind (wpAny_typeOf (T := "tuple") ⟨o, ho, hc⟩ ?_)
        dsimp only
        have e : (("tuple" : String) == "tuple") = true := by decide
        simp only [e, if_true, Bool.not_true, Bool.false_eq_true, if_false]
        show wpAny _ _ (seqItems? (.ref a) >>= _) _ _ s
        refine wpAny_bind (wpAny_seqItems ho hd ?_)
        dsimp only
        refine wpAny_bind ?_
        show wpAny _ _ (forIn vs _ _) _ _ s
        rw [← Array.forIn_toList]
        refine wpAny_forIn_list _ (fun rest r s' => r.1 = none ∧ s' = s ∧ ∀ v ∈ rest, ∀ (A : Around) (E : Value → Shared → Prop) (Q : Bool → Shared → Prop), Q false s → wpAny (model P w) A (ofAClassStatement n v) Q E s) _ ?_ ?_ _ _ ⟨rfl, rfl, noClass_keys ks _ n s hk (by omega)⟩
        · rintro v rest r s' ⟨hr, rfl, hall⟩
          refine wpAny_bind (hall v List.mem_cons_self _ _ _ ?_)
          simp only [Bool.false_eq_true, if_false]
          exact wpAny_pure ⟨rfl, rfl, fun u hu => hall u (List.mem_cons_of_mem _ hu)⟩
        · rintro ⟨r1, r2⟩ s' ⟨hr, rfl, _⟩
          cases (show r1 = none from hr)
          exact wpAny_pure h
theorem noClass_keys : ∀ (ks : List NestedKey) (vs : List Value) (n : Nat) (s : Shared), NestedAll s.heap ks vs → NestedKey.depthAll ks ≤ n → ∀ v ∈ vs, ∀ (A : Around) (E : Value → Shared → Prop) (Q : Bool → Shared → Prop), Q false s → wpAny (model P w) A (ofAClassStatement n v) Q E s
  | [], _, n, s, x, _, v, hv => by cases x; cases hv
  | k :: ks, _, n, s, x, hn, v, hv => by
    cases x with
    | cons x1 x2 =>
      simp only [NestedKey.depthAll] at hn
      rcases List.mem_cons.mp hv with e | hv
      · rw [e]; exact noClass_key k _ n s x1 (by omega)
      · exact noClass_keys ks _ n s x2 (by omega) v hv
end
mutual
/-- whether the hash is one by value: some answer -/
theorem byVal_key : ∀ (k : NestedKey) (v : Value) (n : Nat) (s : Shared), NestedIs s.heap k v → ∀ (A : Around) (E : Value → Shared → Prop) (Q : Bool → Shared → Prop), (∀ b, Q b s) → wpAny (model P w) A (hashByValue n v) Q E s
  | .none, _, n, s, x, A, E, Q, h => by cases x; cases n <;> exact wpAny_pure (h _)
  | .num _, _, n, s, x, A, E, Q, h => by cases x <;> (cases n <;> exact wpAny_pure (h _))
  | .text _, _, n, s, x, A, E, Q, h => by cases x; cases n <;> exact wpAny_pure (h _)
  | .tup ks, _, n, s, x, A, E, Q, h => by
    cases x with
    | @tup a o vs m _ ho hc hd hk =>
      cases n with
      | zero => exact wpAny_pure (h _)
      | succ n =>
        unfold hashByValue
        refine wpAny_bind (wpAny_specialOf (T := "tuple") ⟨o, ho, hc⟩ F.slot_tuple_hash.lookup ?_)
        show wpAny _ _ (seqItems? (.ref a) >>= _) _ _ s
        refine wpAny_bind (wpAny_seqItems ho hd ?_)
        refine wpAny_bind ?_
        show wpAny _ _ (forIn vs _ _) _ _ s
        rw [← Array.forIn_toList]
        refine wpAny_forIn_list _ (fun rest r s' => s' = s ∧ ∀ v ∈ rest, ∀ (A : Around) (E : Value → Shared → Prop) (Q : Bool → Shared → Prop), (∀ b, Q b s) → wpAny (model P w) A (hashByValue n v) Q E s) _ ?_ ?_ _ _ ⟨rfl, byVal_keys ks _ n s hk⟩
        · rintro v rest r s' ⟨rfl, hall⟩
          refine wpAny_bind (hall v List.mem_cons_self _ _ _ fun b => ?_)
          cases b with
          | true =>
            simp only [Bool.not_true, Bool.false_eq_true, if_false]
            exact wpAny_pure ⟨rfl, fun u hu => hall u (List.mem_cons_of_mem _ hu)⟩
          | false =>
            simp only [Bool.not_false, if_true]
            exact wpAny_pure (wpAny_pure (h _))
        · rintro ⟨r1, r2⟩ s' ⟨rfl, _⟩
          cases r1 <;> exact wpAny_pure (h _)
theorem byVal_keys : ∀ (ks : List NestedKey) (vs : List Value) (n : Nat) (s : Shared), NestedAll s.heap ks vs → ∀ v ∈ vs, ∀ (A : Around) (E : Value → Shared → Prop) (Q : Bool → Shared → Prop), (∀ b, Q b s) → wpAny (model P w) A (hashByValue n v) Q E s
  | [], _, n, s, x, v, hv => by cases x; cases hv
  | k :: ks, _, n, s, x, v, hv => by
    cases x with
    | cons x1 x2 =>
      rcases List.mem_cons.mp hv with e | hv
      · rw [e]; exact byVal_key k _ n s x1
      · exact byVal_keys ks _ n s x2 v hv
end
/-- a search among keys shows nothing -/
theorem unseen {k : NestedKey} {b : Addr} {Q : Bool → Shared → Prop} (hk : (NK P w).is s.heap k b) {ys : List Value} (hy : ∀ y ∈ ys, ∃ k' c, y = Value.ref c ∧ (NK P w).is s.heap k' c) (h : Q false s) : wpAny (model P w) A (searchCouldBeSeen (.ref b) ys) Q E s := by
  unfold searchCouldBeSeen
  refine wpAny_bind ?_
  refine wpAny_forIn_list _ (fun rest r s' => r.1 = none ∧ s' = s ∧ ∀ y ∈ rest, ∃ k' c, y = Value.ref c ∧ (NK P w).is s.heap k' c) _ ?_ ?_ _ _ ⟨rfl, rfl, hy⟩
  · rintro v rest r s' ⟨hr, rfl, hall⟩
    obtain ⟨k', c, rfl, hc⟩ := hall v List.mem_cons_self
    have more : ∀ y ∈ rest, ∃ k' c, y = Value.ref c ∧ (NK P w).is s'.heap k' c := fun u hu => hall u (List.mem_cons_of_mem _ hu)
    dsimp only
    by_cases hv : (b == c || (carriedByValue (.ref b) && carriedByValue (.ref c))) = true
    · exact wp_if_pos hv (wpAny_pure ⟨rfl, rfl, more⟩)
    · refine wp_if_neg hv ?_
      refine wpAny_bind ((NK P w).quiet hk ?_)
      simp only [Bool.not_true, Bool.false_eq_true, if_false]
      refine wpAny_bind ((NK P w).quiet hc ?_)
      simp only [Bool.not_true, Bool.false_eq_true, if_false]
      refine wpAny_bind (noClass_key k _ 8 _ hk.1 hk.2 _ _ _ ?_)
      simp only [Bool.false_eq_true, if_false]
      refine wpAny_bind (noClass_key k' _ 8 _ hc.1 hc.2 _ _ _ ?_)
      simp only [Bool.false_eq_true, if_false]
      exact wpAny_pure ⟨rfl, rfl, more⟩
  · rintro ⟨r1, r2⟩ s' ⟨hr, rfl, _⟩
    cases (show r1 = none from hr)
    exact wpAny_pure h

/-! ### the set -/
abbrev Rows : Type := List (Addr × NestedKey)
def rowsN (w : World) (L : Rows) : List (Int × Value) := L.map fun p => (p.2.hash w, Value.ref p.1)
/-- at a stands a set of the keys L, laid out so that all are found -/
structure SetN (P : Program) (w : World) (h : Heap) (a : Addr) (L : Rows) (es : Array (Int × Value)) (ep : Nat) (t : SetTable) : Prop where
  ob : ∃ o, h.get? a = some o ∧ o.ExactSet ∧ o.data = .set es ep t
  rows : es.toList = rowsN w L
  tab : TabOk t (L.map fun p => p.2.hash w)
  nd : (L.map (·.2)).Nodup
  el : ∀ p ∈ L, (NK P w).is h p.2 p.1
  led : w.params.followText "set-order" = true ∨ t.led = true
  room : L.length * 5 < t.mask * 3
  few : L.length < 64
theorem rowsN_len {L : Rows} {es : Array (Int × Value)} (h : es.toList = rowsN w L) : es.size = L.length := by
  have := congrArg List.length h
  simpa [rowsN] using this
theorem rowsN_at {L : Rows} {es : Array (Int × Value)} (h : es.toList = rowsN w L) {i : Nat} {p : Addr × NestedKey} (e : L[i]? = some p) : es[i]? = some (p.2.hash w, Value.ref p.1) := by
  rw [← Array.getElem?_toList, h, rowsN, List.getElem?_map, e]
  rfl
variable {a : Addr} {L : Rows} {es : Array (Int × Value)} {ep : Nat} {t : SetTable}
theorem SetN.fits (R : SetN P w s.heap a L es ep t) : t.fits es.size = true := by
  have h1 := R.tab.sz
  have h2 := rowsN_len R.rows
  have h3 := R.room
  simp only [List.length_map] at h1
  unfold SetTable.fits SetTable.fill
  rw [R.tab.dm, Bool.and_eq_true, beq_iff_eq, decide_eq_true_eq]
  exact ⟨by omega, by show t.place.size + 0 ≤ t.mask; omega⟩
theorem SetN.odd (R : SetN P w s.heap a L es ep t) : ¬ t.gaveWay = true := by
  unfold SetTable.gaveWay
  rw [mask_odd R.tab.mok]
  decide
/-- THE SEARCH, from a step of the way on -/
theorem srch (R : SetN P w s.heap a L es ep t) {x : Addr} {k : NestedKey} (hx : (NK P w).is s.heap k x) (hu : (NK P w).room A) {K : Nat} (hf : K < 10 * SetTable.turns t.mask)
    (hK : way t.mask (k.hash w) K ∉ t.place.toList) (hb : ∀ c, c < K → way t.mask (k.hash w) c ∈ t.place.toList) {Q : SetFound → Shared → Prop}
    (yes : k ∈ L.map (·.2) → Q (.there none) s) (no : k ∉ L.map (·.2) → Q (.free (way t.mask (k.hash w) K) false) s) :
    ∀ (f c : Nat) (stand : Option SetTable.Probe), stand.getD (t.probeStart (k.hash w)) = stp t.mask (k.hash w) c → c ≤ K → K - c < f →
      (∀ (i : Nat) (p : Addr × NestedKey), L[i]? = some p → p.2 = k → ∃ c', c ≤ c' ∧ c' < K ∧ t.place.toList[i]? = some (way t.mask (k.hash w) c')) →
      wpAny (model P w) A (setSearchFrom a (.ref x) (k.hash w) true f stand) Q E s
  | 0, c, _, _, _, hlt, _ => by omega
  | f + 1, c, stand, hst, hc, hlt, ahead => by
    obtain ⟨o, ho, hex, hd⟩ := R.ob
    have hat : ∀ (i : Nat) (z : Int), (L.map fun p => p.2.hash w)[i]? = some z → (fun i => (es[i]?.map (·.1)).getD 0) i = z := fun i z e => by
      rw [List.getElem?_map] at e
      obtain ⟨p, e1, e2⟩ := Option.map_eq_some_iff.mp e
      show (es[i]?.map (·.1)).getD 0 = z
      rw [rowsN_at R.rows e1, ← e2]
      rfl
    rw [setSearchFrom_succ]
    refine wpAny_bind (wpAny_setState_of ho hd R.fits ?_)
    dsimp only
    refine wp_if_neg R.odd ?_
    try refine wpAny_bind (wpAny_pure ?_)
    rw [hst]
    rcases probe_on R.tab _ hat hK hb hf hc with ⟨q, i, q1, q2, q3, q4, q5⟩ | ⟨q4, q5⟩
    · rw [q5]
      dsimp only
      have hil : i < L.length := by
        have h1 := (List.getElem?_eq_some_iff.mp q3).1
        have h2 := R.tab.sz
        simp only [List.length_map] at h2
        rw [Array.length_toList] at h1
        omega
      obtain ⟨p, hp⟩ : ∃ p, L[i]? = some p := ⟨L[i], List.getElem?_eq_getElem hil⟩
      have hm : p ∈ L := List.mem_of_getElem? hp
      have tail : wpAny (model P w) A (searchRest a (.ref x) (k.hash w) true f es t (way t.mask (k.hash w) q) i (stp t.mask (k.hash w) (q + 1))) Q E s := by
        unfold searchRest
        rw [rowsN_at R.rows hp]
        dsimp only
        refine wpAny_bind (wpAny_holding ((NK P w).eqBool hu (R.el p hm) hx ?_))
        refine wpAny_bind (wpAny_setState_of ho hd R.fits ?_)
        dsimp only
        by_cases hkk : p.2 = k
        · exact wp_if_pos (by simp [hkk]) (wpAny_pure (yes (List.mem_map.mpr ⟨p, hm, hkk⟩)))
        · refine wp_if_neg (by simp [hkk]) ?_
          try refine wpAny_bind (wpAny_pure ?_)
          rw [sameMem]
          dsimp only
          have live : t.slot (way t.mask (k.hash w) q) = .live i := slot_live R.tab.ris q3
          simp only [if_true, live, rowsN_at R.rows hp]
          refine wpAny_bind (wpAny_isSame_ref_self (wpAny_bind (wpAny_pure ?_)))
          simp only [if_true]
          refine wp_if_neg (by simp [hkk]) ?_
          refine srch R hx hu hf hK hb yes no f (q + 1) _ rfl (by omega) (by omega) fun i0 p0 h0 hk0 => ?_
          obtain ⟨c', a1, a2, a3⟩ := ahead i0 p0 h0 hk0
          refine ⟨c', ?_, a2, a3⟩
          have nlt : ¬ c' < q := fun z => q4 c' i0 a1 z a3 (hat i0 _ (by rw [List.getElem?_map, h0, ← hk0]; rfl))
          have nq : c' ≠ q := fun z => by
            rw [z] at a3
            have l2 := slot_live R.tab.ris a3
            rw [live] at l2
            injection l2 with l2
            rw [← l2, hp] at h0
            cases h0
            exact hkk hk0
          omega
      by_cases hl : t.led = true
      · refine wp_if_neg (by simp [hl]) ?_
        try refine wpAny_bind (wpAny_pure ?_)
        exact tail
      · refine wp_if_pos (by simp [hl]) ?_
        refine wpAny_bind (unseen hx (fun y hy => ?_) ?_)
        · obtain ⟨e, he, ee⟩ := List.mem_map.mp hy
          have he1 : e ∈ es ∧ e.1 = k.hash w := by simpa using he
          have he2 : e ∈ es.toList := by simpa using he1.1
          rw [R.rows] at he2
          obtain ⟨p2, hp2, e2⟩ := List.mem_map.mp he2
          exact ⟨p2.2, p2.1, by rw [← ee, ← e2], R.el p2 hp2⟩
        · refine wp_if_neg (by decide) ?_
          try refine wpAny_bind (wpAny_pure ?_)
          exact tail
    · rw [q5]
      dsimp only
      refine wpAny_pure (no fun hm => ?_)
      obtain ⟨p0, h0, hk0⟩ := List.mem_map.mp hm
      obtain ⟨i0, h00⟩ := List.getElem?_of_mem h0
      obtain ⟨c', a1, a2, a3⟩ := ahead i0 p0 h00 hk0
      exact q4 c' i0 a1 a2 a3 (hat i0 _ (by rw [List.getElem?_map, h00, ← hk0]; rfl))
/-- the search as adding asks for it -/
theorem srch0 (R : SetN P w s.heap a L es ep t) {x : Addr} {k : NestedKey} (hx : (NK P w).is s.heap k x) (hu : (NK P w).room A) {Q : SetFound → Shared → Prop} (yes : k ∈ L.map (·.2) → Q (.there none) s)
    (no : ∀ K, k ∉ L.map (·.2) → way t.mask (k.hash w) K ∉ t.place.toList → (∀ c, c < K → way t.mask (k.hash w) c ∈ t.place.toList) → Q (.free (way t.mask (k.hash w) K) false) s) :
    wpAny (model P w) A (setSearch a (.ref x) (k.hash w) true) Q E s := by
  have hr := R.room
  obtain ⟨K, hf, hK, hb⟩ := R.tab.first (by rw [List.length_map]; omega) (k.hash w)
  have hbig : K < 100000 := by
    unfold SetTable.turns at hf
    rcases R.tab.mok with e | e | e <;> omega
  unfold setSearch
  refine srch R hx hu hf hK hb yes (fun hn => no K hn hK hb) 100000 0 none rfl (Nat.zero_le _) (by omega) fun i p hp hk => ?_
  have hi : (L.map fun p => p.2.hash w)[i]? = some (k.hash w) := by rw [List.getElem?_map, hp, ← hk]; rfl
  obtain ⟨j, hj⟩ : ∃ j, t.place.toList[i]? = some j := by
    have h1 := (List.getElem?_eq_some_iff.mp hp).1
    have h2 := R.tab.sz
    simp only [List.length_map] at h2
    exact ⟨_, List.getElem?_eq_getElem (by rw [Array.length_toList]; omega)⟩
  obtain ⟨c, hc, e⟩ := R.tab.before hK hi hj
  exact ⟨c, Nat.zero_le _, hc, by rw [hj, e]⟩
end
end Ev

end
section
set_option maxRecDepth 100000
set_option maxHeartbeats 4000000
/-! Ev Tt: sets of nested tuples: adding -/
namespace Ev
open PySem PySem.Spec PyProof.Rows L2
section
variable {P : Program} {w : World} {A : Around} {E : Value → Shared → Prop} {s : Shared}
theorem el_same {h h' : Heap} {k : NestedKey} {a b : Addr} {o : Obj} {es : Array (Int × Value)} {ep : Nat} {t : SetTable} (hb : (NK P w).is h k b) (ho : h.get? a = some o) (hd : o.data = .set es ep t) (hs : Heap.SameBut a h h') : (NK P w).is h' k b :=
  nestedKind_stays.stays (fun c oc vs n e d => (hs.2 c (fun z => by
    rw [z, ho] at e
    cases e
    rw [hd] at d
    cases d)).trans e) hb
theorem el_keep {h h' : Heap} {k : NestedKey} {b : Addr} (hb : (NK P w).is h k b) (hk : ∀ c o, h.get? c = some o → h'.get? c = some o) : (NK P w).is h' k b :=
  nestedKind_stays.stays (fun c oc _ _ e _ => hk c oc e) hb
theorem filter_range {α : Type} (L : List α) : (List.range L.length).filterMap (fun i => L[i]?) = L := by
  have all : ∀ n, n ≤ L.length → (List.range n).filterMap (fun i => L[i]?) = L.take n := fun n => by
    induction n with
    | zero => exact fun _ => rfl
    | succ n ih =>
      intro hn
      have hlt : n < L.length := hn
      rw [List.range_succ, List.filterMap_append, ih (by omega), List.take_succ, List.getElem?_eq_getElem hlt, List.filterMap_cons_some (List.getElem?_eq_getElem hlt)]
      rfl
  rw [all _ (Nat.le_refl _), List.take_length]
theorem filterMap_of {α β : Type} {f : α → Option β} {g : α → β} : ∀ {l : List α}, (∀ a ∈ l, f a = some (g a)) → l.filterMap f = l.map g
  | [], _ => rfl
  | a :: l, h => by
    rw [List.filterMap_cons_some (h a (List.mem_cons_self ..)), filterMap_of fun b hb => h b (List.mem_cons_of_mem _ hb)]
    rfl
/-- the rows in a new order -/
theorem rows_order {L : Rows} {es : Array (Int × Value)} {order : Array Nat} (hr : es.toList = rowsN w L) (hp : order.toList.Perm (List.range L.length)) :
    ∃ L2, (order.filterMap (es[·]?)).toList = rowsN w L2 ∧ L2.Perm L ∧ (L2.map fun p => p.2.hash w) = order.toList.map fun i => (es.map (·.1)).getD i 0 := by
  have at_ : ∀ i : Nat, es[i]? = (L[i]?).map fun p => (p.2.hash w, Value.ref p.1) := fun i => by rw [← Array.getElem?_toList, hr, rowsN, List.getElem?_map]
  refine ⟨order.toList.filterMap (fun i => L[i]?), ?_, ?_, ?_⟩
  · rw [Array.toList_filterMap, rowsN, List.map_filterMap]
    exact congrArg (fun f => List.filterMap f order.toList) (funext at_)
  · have := hp.filterMap fun i => L[i]?
    rw [filter_range] at this
    exact this
  · rw [List.map_filterMap]
    refine filterMap_of fun i hi => ?_
    have hlt : i < L.length := List.mem_range.mp (hp.mem_iff.mp hi)
    have e : (es.map (·.1))[i]? = (L[i]?).map fun p => p.2.hash w := by rw [Array.getElem?_map, at_, Option.map_map]; rfl
    rw [Array.getD_eq_getD_getElem?, e, List.getElem?_eq_getElem hlt]
    rfl
variable {a : Addr} {L : Rows} {es : Array (Int × Value)} {ep : Nat} {t : SetTable}
/-- the table laid anew -/
theorem relayN {o : Obj} (ho : s.heap.get? a = some o) (hex : o.ExactSet) (hd : o.data = .set es ep t) (hrows : es.toList = rowsN w L) (T : TabOk t (L.map fun p => p.2.hash w)) (hfl : L.length ≤ t.mask)
    (nd : (L.map (·.2)).Nodup) (el : ∀ p ∈ L, (NK P w).is s.heap p.2 p.1) (ld : w.params.followText "set-order" = true ∨ t.led = true) (few : L.length < 64) {wanted M : Nat}
    (hw : SetTable.sizeAbove wanted - 1 = M) (hM : MaskOk M) (hw2 : SetTable.sizeAbove wanted ≤ 128) (hn : L.length * 5 < M * 3) {Q : Unit → Shared → Prop}
    (hQ : ∀ h' L' es' ep' t', Heap.SameBut a s.heap h' → SetN P w h' a L' es' ep' t' → L'.Perm L → Q () { s with heap := h' }) : wpAny (model P w) A (setRelay a wanted) Q E s := by
  have hsl := rowsN_len hrows
  have hsz : t.place.size = es.size := by
    have := T.sz
    rw [List.length_map] at this
    omega
  have hfits : t.fits es.size = true := by
    unfold SetTable.fits SetTable.fill
    rw [T.dm, Bool.and_eq_true, beq_iff_eq, decide_eq_true_eq]
    exact ⟨hsz, by show t.place.size + 0 ≤ t.mask; omega⟩
  obtain ⟨t', order, e, hp, T', em, el', _, _⟩ := relaid_ok t (hs := es.map (·.1)) (wanted := wanted) hw hM (by rw [Array.size_map, hsl]; omega)
  rw [Array.size_map, hsl] at hp
  obtain ⟨L2, r1, r2, r3⟩ := rows_order hrows hp
  rw [← r3] at T'
  have hs2 : (order.filterMap (es[·]?)).size = es.size := by rw [rowsN_len r1, r2.length_eq, hsl]
  rw [setRelay_eq]
  refine wpAny_bind (wpAny_setState_of ho hd hfits ?_)
  dsimp only
  refine wp_if_neg (by rw [sizeLine_eq]; omega) ?_
  try refine wpAny_bind (wpAny_pure ?_)
  rw [e]
  dsimp only
  refine wpAny_bind ?_
  refine wp_if_neg (by rw [hs2]; simp) ?_
  try refine wpAny_bind (wpAny_pure ?_)
  refine wpAny_pure ?_
  dsimp only
  refine wpAny_storeSet_of ho hd ?_ (by rw [hs2, hsl, sizeLine_eq]; omega)
  have sb : Heap.SameBut a s.heap (s.heap.update a (Obj.putSet (order.filterMap (es[·]?)) t')) := Heap.SameBut.update ..
  exact hQ _ L2 (order.filterMap (es[·]?)) (ep + 1) t' sb ⟨⟨_, store_at ho hd, ⟨hex.1, hex.2.1, hex.2.2⟩, rfl⟩, r1, T', (r2.map (·.2)).nodup_iff.mpr nd, fun p hpm => el_same (el p (r2.mem_iff.mp hpm)) ho hd sb, by rw [el']; exact ld, by rw [r2.length_eq, em]; exact hn, by rw [r2.length_eq]; exact few⟩ r2
/-- what adding gives -/
def Added (L : Rows) (x : Addr) (k : NestedKey) (L' : Rows) : Prop := (k ∈ L.map (·.2) ∧ L' = L) ∨ (k ∉ L.map (·.2) ∧ L'.Perm ((x, k) :: L))
theorem addN (R : SetN P w s.heap a L es ep t) {x : Addr} {k : NestedKey} (hx : (NK P w).is s.heap k x) (hu : (NK P w).room A) (hfew : L.length + 1 < 64) {Q : Bool → Shared → Prop}
    (hQ : ∀ b h' L' es' ep' t', Heap.SameBut a s.heap h' → SetN P w h' a L' es' ep' t' → Added L x k L' → Q b { s with heap := h' }) :
    wpAny (model P w) A (setAddHashed a (.ref x) (k.hash w)) Q E s := by
  obtain ⟨o, ho, hex, hd⟩ := R.ob
  have hsl := rowsN_len R.rows
  have hroom := R.room
  unfold setAddHashed
  refine wpAny_holding ?_
  rw [show (100000 : Nat) = 99999 + 1 from rfl, setAddHashedIn_succ]
  refine wpAny_bind (wpAny_setState_of ho hd R.fits ?_)
  dsimp only
  refine wp_if_neg (by simp [byScan, Value.scannable]) ?_
  try refine wpAny_bind (wpAny_pure ?_)
  refine wpAny_bind (srch0 R hx hu (fun hm => ?_) fun K hm hK hb => ?_)
  · dsimp only
    exact wpAny_pure (hQ false s.heap L es ep t (Heap.SameBut.refl a s.heap) R (.inl ⟨hm, rfl⟩))
  · dsimp only
    refine wpAny_bind (wpAny_setState_of ho hd R.fits ?_)
    dsimp only
    obtain ⟨q1, q2, q3, q4, q5, q6, q7, q8, q9⟩ := R.tab.put hK hb
    generalize t.put (way t.mask (k.hash w) K) = pt at q1 q3 q4 q5 q6 q7 q8 q9 ⊢
    obtain ⟨t1, p⟩ := pt
    dsimp only at q1 q3 q4 q5 q6 q7 q8 q9 ⊢
    subst q1
    have eR : (SetTable.insertAt es (SetTable.below t.place (way t.mask (k.hash w) K)) (k.hash w, Value.ref x)).toList = rowsN w (L.take (SetTable.below t.place (way t.mask (k.hash w) K)) ++ (x, k) :: L.drop (SetTable.below t.place (way t.mask (k.hash w) K))) := by
      rw [SetTable.toList_insertAt, R.rows]
      simp only [rowsN, List.map_append, List.map_cons, List.map_take, List.map_drop]
    generalize hpp : SetTable.below t.place (way t.mask (k.hash w) K) = p at q2 q3 eR ⊢
    have pm : (L.take p ++ (x, k) :: L.drop p).Perm ((x, k) :: L) := by
      have h := List.perm_middle (a := (x, k)) (l₁ := L.take p) (l₂ := L.drop p)
      rwa [List.take_append_drop] at h
    have hhs : (L.take p ++ (x, k) :: L.drop p).map (fun p => p.2.hash w) = (L.map fun p => p.2.hash w).take p ++ k.hash w :: (L.map fun p => p.2.hash w).drop p := by
      rw [List.map_append, List.map_cons, List.map_take, List.map_drop]
    rw [← hhs] at q3
    generalize SetTable.insertAt es p (k.hash w, Value.ref x) = es1 at eR ⊢
    generalize L.take p ++ (x, k) :: L.drop p = L1 at pm q3 eR hhs
    have hlen : L1.length = L.length + 1 := pm.length_eq
    have hes := rowsN_len eR
    have nd1 : (L1.map (·.2)).Nodup := (pm.map (·.2)).nodup_iff.mpr (List.nodup_cons.mpr ⟨hm, R.nd⟩)
    -- the rest, whatever the flag
    have rest : ∀ (tt : SetTable), TabOk tt (L1.map fun p => p.2.hash w) → tt.mask = t.mask → tt.led = t.led → tt.fill = L.length + 1 →
        wpAny (model P w) A (do
          storeSet a es1 tt
          if !false && tt.tooFull then setRelay a (SetTable.grown (es.size + 1))
          return true) Q E s := fun tt T em el ef => by
      refine wpAny_bind (wpAny_storeSet_of ho hd ?_ (by rw [hes, sizeLine_eq]; omega))
      have sb : Heap.SameBut a s.heap (s.heap.update a (Obj.putSet es1 tt)) := Heap.SameBut.update ..
      have ho1 := store_at (es' := es1) (t' := tt) ho hd
      generalize s.heap.update a (Obj.putSet es1 tt) = h1 at sb ho1 ⊢
      have el1 : ∀ p ∈ L1, (NK P w).is h1 p.2 p.1 := fun p hp => by
        rcases List.mem_cons.mp (pm.mem_iff.mp hp) with e | hp
        · rw [e]; exact el_same hx ho hd sb
        · exact el_same (R.el p hp) ho hd sb
      have ld1 : w.params.followText "set-order" = true ∨ tt.led = true := by rw [el]; exact R.led
      by_cases hf : tt.tooFull = true
      · first
          | (refine wpAny_bind ?_; refine wp_if_pos (by simp [hf]) ?_)
          | (refine wp_if_pos (by simp [hf]) ?_; refine wpAny_bind ?_)
        have hfull : (L.length + 1) * 5 ≥ tt.mask * 3 := by
          have h := hf
          unfold SetTable.tooFull at h
          rw [decide_eq_true_eq, ef] at h
          exact h
        rw [hsl]
        have go : ∀ M, SetTable.sizeAbove (SetTable.grown (L.length + 1)) - 1 = M → MaskOk M → SetTable.sizeAbove (SetTable.grown (L.length + 1)) ≤ 128 → (L.length + 1) * 5 < M * 3 → L.length + 1 ≤ tt.mask →
            wpAny (model P w) A (setRelay a (SetTable.grown (L.length + 1))) (fun _ s' => wpAny (model P w) A (pure true) Q E s') E { s with heap := h1 } := fun M g1 g2 g3 g4 g5 =>
          relayN (s := { s with heap := h1 }) ho1 ⟨hex.1, hex.2.1, hex.2.2⟩ rfl eR T (by rw [hlen]; exact g5) nd1 el1 ld1 (by rw [hlen]; exact hfew) g1 g2 g3 (by rw [hlen]; exact g4) fun h2 L2 es2 ep2 t2 sb2 R2 pm2 =>
            wpAny_pure (hQ true h2 L2 es2 ep2 t2 (sb.trans sb2) R2 (.inr ⟨hm, pm2.trans pm⟩))
        rcases R.tab.mok with e | e | e
        · have e2 : L.length = 4 := by rw [em, e] at hfull; rw [e] at hroom; omega
          refine go 31 (by rw [e2, size_20]) (.inr (.inl rfl)) (by rw [e2, size_20]; decide) (by omega) (by omega)
        · have e2 : L.length = 18 := by rw [em, e] at hfull; rw [e] at hroom; omega
          refine go 127 (by rw [e2, size_76]) (.inr (.inr rfl)) (by rw [e2, size_76]; decide) (by omega) (by omega)
        · exfalso; rw [em, e] at hfull; omega
      · first
          | refine wp_if_neg (by simp [hf]) ?_
          | (refine wpAny_bind ?_; refine wp_if_neg (by simp [hf]) ?_; refine wpAny_pure ?_)
        refine wpAny_pure (hQ true h1 L1 es1 (ep + 1) tt sb ⟨⟨_, ho1, ⟨hex.1, hex.2.1, hex.2.2⟩, rfl⟩, eR, T, nd1, el1, ld1, ?_, by rw [hlen]; exact hfew⟩ (.inr ⟨hm, pm⟩))
        have h := hf
        unfold SetTable.tooFull at h
        rw [decide_eq_true_eq, ef] at h
        rw [hlen]
        omega
    rw [List.length_map] at q9
    by_cases hpl : t1.plain = true
    · first
        | (refine wpAny_bind ?_; refine wp_if_pos hpl ?_; refine byVal_key k _ 8 _ hx.1 _ _ _ fun b => ?_)
        | refine wp_if_pos hpl (wpAny_bind (byVal_key k _ 8 _ hx.1 _ _ _ fun b => ?_))
      cases b with
      | true => exact rest t1 q3 q4 q5 q9
      | false => exact rest { t1 with plain := false } ⟨q3.ris, q3.dm, q3.sz, q3.mok, q3.bd, q3.reach⟩ q4 q5 q9
    · first
        | (refine wpAny_bind ?_; refine wp_if_neg hpl ?_; refine wpAny_pure ?_)
        | (refine wp_if_neg hpl ?_; refine wpAny_bind (wpAny_pure ?_))
      exact rest t1 q3 q4 q5 q9
end
end Ev

end
section
set_option maxRecDepth 100000
set_option maxHeartbeats 4000000
/-! Ev Tv: set(xs): the loop over any kind of members; nested tuples -/
namespace Ev
open PySem PySem.Spec PyProof.Rows L2
section
variable {P : Program} {w : World} {A : Around} {E : Value → Shared → Prop} {s : Shared}
/-- how members are added: Iv i says what the set at S has after i items; h0 stands throughout -/
structure Adds (P : Program) (w : World) (A : Around) (S : Addr) (h0 : Heap) (n : Nat) (Pv : Nat → Value → Prop) (Iv : Nat → Heap → Prop) : Prop where
  keep : ∀ i h h', Iv i h → (∀ o, h.get? S = some o → h'.get? S = some o) → (∀ b o, h0.get? b = some o → h'.get? b = some o) → Iv i h'
  add : ∀ (i : Nat) (v : Value) (s : Shared) (E : Value → Shared → Prop) (Q : Bool → Shared → Prop), i < n → Pv i v → Iv i s.heap → (∀ b o, h0.get? b = some o → s.heap.get? b = some o) →
    (∀ b h' tk, s.toks ≤ tk → Heap.SameBut S s.heap h' → Iv (i + 1) h' → Q b { s with heap := h', toks := tk }) → wpAny (model P w) A (setAdd S v) Q E s
/-- set.update's loop -/
theorem updLoop {I : Addr} {fp wr : List Addr} {G : Array GenState → Array GenState → Prop} {n : Nat} {Pv : Nat → Value → Prop} {St : Nat → Shared → Prop} {R : Result → Shared → Prop} {Iv : Nat → Heap → Prop} {h0 : Heap} {S : Addr}
    (W : WalksS P w A.in1 I fp wr G n Pv St) (hSf : S ∉ fp) (hS0 : h0.get? S = none) (hw0 : ∀ b ∈ wr, h0.get? b = none) (D : Adds P w A.in1 S h0 n Pv Iv) :
    ∀ (k i : Nat) (s : Shared), n - i = k → i ≤ n → St i s → (∀ b o, h0.get? b = some o → s.heap.get? b = some o) → Iv i s.heap →
      (∀ s', Moved (S :: wr) G s s' → Iv n s'.heap → (∀ b o, h0.get? b = some o → s'.heap.get? b = some o) → R (.ok (.ret .none)) s') →
      codeAny (model P w) A (.builtin "set.update.loop" ⟨[.ref S, .ref I], []⟩) R s := by
  have hSw : S ∉ wr := fun h => hSf (W.sub _ h)
  have hsub : ∀ b ∈ wr, b ∈ S :: wr := fun b hb => List.mem_cons_of_mem _ hb
  have stay : ∀ {s s' : Shared}, Moved wr G s s' → (∀ b o, h0.get? b = some o → s.heap.get? b = some o) → ∀ b o, h0.get? b = some o → s'.heap.get? b = some o := fun hm hk b o e =>
    hm.heap b o (fun hb => by rw [hw0 b hb] at e; cases e) (hk b o e)
  have here : ∀ {i : Nat} {s s' : Shared}, Moved wr G s s' → (∀ b o, h0.get? b = some o → s.heap.get? b = some o) → Iv i s.heap → Iv i s'.heap := fun hm hk iv =>
    D.keep _ _ _ iv (fun o e => hm.heap S o hSw e) (stay hm hk)
  intro k
  induction k with
  | zero =>
    intro i s hk hi hst hkp iv hR
    cases (show i = n by omega)
    refine codeAny_builtin F.entry_set_update_loop ?_
    rw [Around.under_plainId F.plain_set_update_loop _]
    show wpAny _ A.in1 (pyNext (.ref I) >>= _) _ _ s
    refine wpAny_bind (W.done s _ _ hst fun s' hm => ?_)
    show wpAny _ A.in1 (ret Value.none) _ _ s'
    exact wpAny_pure (hR s' (hm.mono hsub) (here hm hkp iv) (stay hm hkp))
  | succ k ih =>
    intro i s hk hi hst hkp iv hR
    have hlt : i < n := by omega
    refine codeAny_builtin F.entry_set_update_loop ?_
    rw [Around.under_plainId F.plain_set_update_loop _]
    show wpAny _ A.in1 (pyNext (.ref I) >>= _) _ _ s
    refine wpAny_bind (W.item i s _ _ hlt hst fun v s' hP hst' hm => ?_)
    show wpAny _ A.in1 (holding [v] (setAdd S v) >>= _) _ _ s'
    refine wpAny_bind (wpAny_holding (D.add i v s' _ _ hlt hP (here hm hkp iv) (stay hm hkp) fun b h' tk htk sb iv' => ?_))
    have hkp2 : ∀ b o, h0.get? b = some o → h'.get? b = some o := fun b o e => (sb.2 b (fun z => by rw [z, hS0] at e; cases e)).trans (stay hm hkp b o e)
    refine wpAny_pure ⟨plainId_quiet F.plain_set_update_loop _, ih (i + 1) _ (by omega) hlt (W.frame _ s' _ _ hst' htk fun b hb o e => ?_) hkp2 iv' fun s'' hm2 iv2 hk2 => hR s'' ?_ iv2 hk2⟩
    · rw [sb.2 b (fun z => hSf (by rw [← z]; exact hb))]
      exact e
    · exact Moved.trans W.gtrans ((hm.mono hsub).then_heap htk fun b o hb e => by
        rw [sb.2 b (fun z => hb (by rw [z]; exact List.mem_cons_self))]
        exact e) hm2
abbrev freshSet (w : World) : Obj := { cls := .type "set", dict := none, data := .set #[] 0 (.fresh 0 0 (!w.params.followText "set-order")) }
/-- set(xs), whatever is added -/
theorem call_setG {l : Addr} {items : Array Value} {Iv : Nat → Heap → Prop} {Q : Value → Shared → Prop} (hh : A.handled = none) (hl : s.heap.IsList l items)
    (D : ∀ A' : Around, A'.units ≤ A.units + 8 → Adds P w A' s.heap.objs.size s.heap items.size (fun i v => items[i]? = some v) Iv) (I0 : ∀ h : Heap, h.get? s.heap.objs.size = some (freshSet w) → Iv 0 h)
    (h : ∀ (h' : Heap) (tk : Nat), Iv items.size h' → (∀ b o, s.heap.get? b = some o → h'.get? b = some o) → Q (.ref s.heap.objs.size) { s with heap := h', toks := tk }) :
    wpAny (model P w) A (call (.type "set") [.ref l]) Q E s := by
  obtain ⟨c, tl, hmro⟩ := F.called_set.mro
  have hmade := F.called_set.made
  have hsub := F.called_set.sub
  refine wpAny_call (codeAny_of_tree ?_)
  show wpAny _ _ (callAny (.type "set") _) _ _ _
  refine wpAny_pure ⟨Code.quiet_builtin _ (by decide +kernel), codeAny_builtin F.entry_type_call ?_⟩
  rw [Around.under_plain (weight_type_call_type "set" [.ref l] []) rfl]
  have h1 := F.called_set.notType
  have h2 := F.called_set.canCreate
  have hct := F.typeCall_set_1 (.ref l)
  repeat (any_goals (first | assumption | wp_step))
  refine codeAny_mono (code_set_led1 (.ref l) (E := E) (Q₁ := fun obj s₁ => obj = .ref s.heap.objs.size ∧ s₁ = { s with heap := s.heap.push (freshSet w) }) ⟨rfl, rfl⟩) fun r s₁ hr => ?_
  match r, hr with
  | .error e, hr => exact hr
  | .ok .next, hr => exact hr.elim
  | .ok .brk, hr => exact hr.elim
  | .ok .cont, hr => exact hr.elim
  | .ok (.ret obj), hr =>
    obtain ⟨rfl, rfl⟩ := hr
    have hS : (s.heap.push (freshSet w)).get? s.heap.objs.size = some (freshSet w) := Heap.get?_push_size _ rfl
    have hT : Shared.TypeIs { s with heap := s.heap.push (freshSet w) } (.ref s.heap.objs.size) "set" := ⟨_, hS, rfl⟩
    have hli := F.called_set.init.lookup
    have hbi := F.called_set.init.bind (.ref s.heap.objs.size)
    repeat (any_goals (first | assumption | wp_step))
    refine codeAny_mono (codeAny_call_builtin (R := wants (fun r s₂ => r = .none ∧ ∃ h' tk, s₂ = { s with heap := h', toks := tk } ∧ Iv items.size h' ∧ (∀ b o, s.heap.get? b = some o → h'.get? b = some o)) E) F.called_set.init.plain F.entry_set_init (check_set_init_1 hT ?_)) fun r₂ s₂ hr₂ => ?_
    · obtain ⟨ol, hol, hcl, nl, hdl⟩ := hl
      obtain ⟨ocls, odict, odata, oslots⟩ := ol
      simp only at hcl hdl
      subst hcl; subst hdl
      have hol' : (s.heap.push (freshSet w)).get? l = some { cls := .type "list", dict := odict, data := .seq items nl, slots := oslots } := Heap.get?_push_of_some _ hol
      have hsls := F.sub_list_set
      have hslf := F.sub_list_frozenset
      have hne : (Value.type "list" == Value.type "dict") = false := by decide
      have hl1 : (s.heap.push (freshSet w)).IsList l items := ⟨_, hol', rfl, nl, rfl⟩
      unfold Builtin.«set.__init__» noKeywords Builtin.Frozenset.updateFrom
      generalize hPI : pyIter = PI
      wp_walk
      subst hPI
      refine wpAny_pyIter_list hl1 ?_
      refine wpAny_bind (wpAny_runValue ?_)
      have hlS : l < s.heap.objs.size := Heap.lt_size hol
      have hh3 : A.in1.in1.in1.handled = none := by simp [hh]
      have hsz : (s.heap.push (freshSet w)).objs.size = s.heap.objs.size + 1 := Heap.size_push ..
      have hneI : l ≠ (s.heap.push (freshSet w)).objs.size := by rw [hsz]; exact Nat.ne_of_lt (Nat.lt_succ_of_lt hlS)
      have hSf : s.heap.objs.size ∉ [(s.heap.push (freshSet w)).objs.size, l] := by
        rw [hsz]
        simp only [List.mem_cons, List.not_mem_nil, or_false, not_or]
        exact ⟨Nat.ne_of_lt (Nat.lt_succ_self _), Nat.ne_of_gt hlS⟩
      have none_of : ∀ b, s.heap.objs.size ≤ b → s.heap.get? b = none := fun b hb => Heap.get?_none_of_le hb
      refine updLoop ((Walks.list hh3 _ l hneI items).toS) hSf (none_of _ (Nat.le_refl _)) (fun b hb => none_of b (by
          rw [List.mem_singleton.mp hb, hsz]
          exact Nat.le_succ _)) (D _ ?u) (items.size - 0) 0 _ (by omega) (Nat.zero_le _)
        ⟨⟨_, Heap.get?_push_size _ rfl, rfl, rfl⟩, (hl1.push _)⟩ (fun b o e => Heap.get?_push_of_some _ (Heap.get?_push_of_some _ e)) (I0 _ (Heap.get?_push_of_some _ hS)) fun s' hm iv hk => ?_
      case u => exact (show A.units + 1 + 1 + 1 ≤ A.units + 8 by omega)
      obtain ⟨h', g2, d', tk', os'⟩ := s'
      cases (show g2 = s.gens from hm.gens)
      cases (show d' = s.drawn from hm.drawn)
      cases (show os' = s.os from hm.os)
      show wpAny _ _ _ _ _ _
      refine wpAny_pure ?_
      show wpAny _ _ (ret Value.none) _ _ _
      exact wpAny_pure ⟨rfl, h', tk', rfl, iv, hk⟩
    · match r₂, hr₂ with
      | .error e, hr₂ => exact hr₂
      | .ok .next, hr₂ => exact hr₂.elim
      | .ok .brk, hr₂ => exact hr₂.elim
      | .ok .cont, hr₂ => exact hr₂.elim
      | .ok (.ret r), hr₂ =>
        obtain ⟨rfl, h', tk, rfl, iv, hk'⟩ := hr₂
        repeat (any_goals (first | assumption | wp_step))
        exact h _ _ iv hk'
end
end Ev

end
section
set_option maxRecDepth 100000
set_option maxHeartbeats 4000000
/-! Ev Tw: sets of nested tuples: what set(xs) holds; sorted(set) -/
namespace Ev
open PySem PySem.Spec PyProof.Rows L2
section
variable {P : Program} {w : World} {A : Around} {E : Value → Shared → Prop} {s : Shared}
/-- what the set has of the first i rows -/
structure Has (ks : Rows) (i : Nat) (L : Rows) : Prop where
  sub : ∀ p ∈ L, p ∈ ks.take i
  all : ∀ p ∈ ks.take i, p.2 ∈ L.map (·.2)
  len : L.length ≤ i
theorem Has.next {ks L L' : Rows} {i : Nat} {p : Addr × NestedKey} (g : Has ks i L) (h : ks[i]? = some p) (d : Added L p.1 p.2 L') : Has ks (i + 1) L' := by
  have e : ks.take (i + 1) = ks.take i ++ [p] := by rw [List.take_succ, h]; rfl
  rcases d with ⟨hm, rfl⟩ | ⟨hm, pm⟩
  · refine ⟨fun q hq => ?_, fun q hq => ?_, Nat.le_succ_of_le g.len⟩
    · rw [e]; exact List.mem_append_left _ (g.sub q hq)
    · rw [e] at hq
      rcases List.mem_append.mp hq with z | z
      · exact g.all q z
      · rw [List.mem_singleton.mp z]; exact hm
  · refine ⟨fun q hq => ?_, fun q hq => ?_, by rw [pm.length_eq]; exact Nat.succ_le_succ g.len⟩
    · rw [e]
      rcases List.mem_cons.mp (pm.mem_iff.mp hq) with z | z
      · rw [z]; exact List.mem_append_right _ (List.mem_singleton.mpr rfl)
      · exact List.mem_append_left _ (g.sub q z)
    · rw [(pm.map (·.2)).mem_iff]
      rw [e] at hq
      rcases List.mem_append.mp hq with z | z
      · exact List.mem_cons_of_mem _ (g.all q z)
      · rw [List.mem_singleton.mp z]; exact List.mem_cons_self
theorem SetN.keep {h h' : Heap} {a : Addr} {L : Rows} {es : Array (Int × Value)} {ep : Nat} {t : SetTable} (R : SetN P w h a L es ep t) (ha : ∀ o, h.get? a = some o → h'.get? a = some o) (he : ∀ p ∈ L, (NK P w).is h' p.2 p.1) : SetN P w h' a L es ep t := by
  obtain ⟨o, ho, r⟩ := R.ob
  exact ⟨⟨o, ha o ho, r⟩, R.rows, R.tab, R.nd, he, R.led, R.room, R.few⟩
theorem SetN.fresh {h : Heap} {a : Addr} (ho : h.get? a = some (freshSet w)) : SetN P w h a [] #[] 0 (.fresh 0 0 (!w.params.followText "set-order")) where
  ob := ⟨_, ho, ⟨rfl, rfl, rfl⟩, rfl⟩
  rows := rfl
  tab := ⟨List.Pairwise.nil, rfl, rfl, .inl rfl, fun x hx => (by cases hx), fun i h j hi => (by simp at hi)⟩
  nd := List.nodup_nil
  el := fun p hp => (by cases hp)
  led := by
    show _ ∨ (!w.params.followText "set-order") = true
    cases w.params.followText "set-order" <;> simp
  room := (show 0 * 5 < 7 * 3 by decide)
  few := (show 0 < 64 by decide)
def HasN (P : Program) (w : World) (S : Addr) (ks : Rows) (i : Nat) (h : Heap) : Prop := ∃ L es ep t, SetN P w h S L es ep t ∧ Has ks i L
theorem addsN {S : Addr} {h0 : Heap} {items : Array Value} {ks : Rows} (hit : items.toList = ks.map fun p => Value.ref p.1) (hk : ∀ p ∈ ks, (NK P w).is h0 p.2 p.1) (hfew : ks.length < 64) (hu : (NK P w).room A) :
    Adds P w A S h0 items.size (fun i v => items[i]? = some v) (HasN P w S ks) where
  keep := fun i h h' ⟨L, es, ep, t, R, g⟩ hS hk0 => ⟨L, es, ep, t, R.keep hS fun p hp => el_keep (hk p (List.mem_of_mem_take (g.sub p hp))) hk0, g⟩
  add := fun i v s E Q hi hv ⟨L, es, ep, t, R, g⟩ hk0 hq => by
    have e : items.toList[i]? = some v := by rw [Array.getElem?_toList]; exact hv
    rw [hit, List.getElem?_map] at e
    obtain ⟨p, hp, rfl⟩ := Option.map_eq_some_iff.mp e
    have hlt := (List.getElem?_eq_some_iff.mp hp).1
    have hx := el_keep (hk p (List.mem_of_getElem? hp)) hk0
    unfold setAdd
    refine wpAny_holding ?_
    refine wpAny_bind ((NK P w).pyHash hu hx ?_)
    exact addN (s := { s with toks := s.toks + (NK P w).draws p.2 }) R hx hu (by have := g.len; omega) fun b h' L' es' ep' t' sb R' d => hq b h' _ (Nat.le_add_right _ _) sb ⟨L', es', ep', t', R', g.next hp d⟩
/-- set(xs) of nested tuples -/
theorem call_setN {l : Addr} {items : Array Value} {ks : Rows} {Q : Value → Shared → Prop} (hh : A.handled = none) (hl : s.heap.IsList l items) (hit : items.toList = ks.map fun p => Value.ref p.1) (hk : ∀ p ∈ ks, (NK P w).is s.heap p.2 p.1) (hfew : ks.length < 64) (hu : A.units + 20 < cLine)
    (h : ∀ (h' : Heap) (tk : Nat) L es ep t, SetN P w h' s.heap.objs.size L es ep t → Has ks ks.length L → (∀ b o, s.heap.get? b = some o → h'.get? b = some o) → Q (.ref s.heap.objs.size) { s with heap := h', toks := tk }) :
    wpAny (model P w) A (call (.type "set") [.ref l]) Q E s := by
  have hz : items.size = ks.length := by
    have := congrArg List.length hit
    simpa using this
  refine call_setG (Iv := HasN P w s.heap.objs.size ks) hh hl (fun A' hA => addsN hit hk hfew (show A'.units + 8 < cLine by omega)) (fun h ho => ⟨[], #[], 0, _, SetN.fresh ho, ⟨fun p hp => (by cases hp), fun p hp => (by simp at hp), Nat.le_refl _⟩⟩) fun h' tk iv kp => ?_
  rw [hz] at iv
  obtain ⟨L, es, ep, t, R, g⟩ := iv
  exact h h' tk L es ep t R g kp
/-- a permuted list reads as permuted data -/
theorem each_perm {α β : Type} {R : α → β → Prop} {us vs : List α} (pm : us.Perm vs) : ∀ {bs : List β}, PySem.W.EachIs R vs bs → ∃ bs', bs'.Perm bs ∧ PySem.W.EachIs R us bs' := by
  induction pm with
  | nil => exact fun e => ⟨_, List.Perm.refl _, e⟩
  | cons x _ ih =>
    intro bs e
    cases e with
    | cons h t =>
      obtain ⟨bs', p, e'⟩ := ih t
      exact ⟨_, p.cons _, .cons h e'⟩
  | swap x y l =>
    intro bs e
    cases e with
    | cons h t =>
      cases t with
      | cons h2 t2 => exact ⟨_, List.Perm.swap .., .cons h2 (.cons h t2)⟩
  | trans _ _ ih1 ih2 =>
    intro bs e
    obtain ⟨b2, p2, e2⟩ := ih2 e
    obtain ⟨b1, p1, e1⟩ := ih1 e2
    exact ⟨b1, p1.trans p2, e1⟩
/-- sorted(a set), its members alike data -/
theorem sorted_setG {a : Addr} {es : Array (Int × Value)} {ep : Nat} {t : SetTable} {β : Type} {R : Value → β → Prop} {enc : β → PyData} {bs : List β} {Q : Value → Shared → Prop} (hh : A.handled = none) (ha : SetAt s.heap a es ep t) (hf : t.fits es.size = true) (hsz : es.size < scanBound) (hr : Ris t.place.toList) (hl : w.params.followText "set-order" = true ∨ t.led = true)
    (e : PySem.W.EachIs (fun v b => R v b ∧ ∃ as, Reads s.heap v (enc b) as) (es.toList.map (·.2)) bs) (hal : PySem.W.AllAlike (bs.map enc)) (hn : ∀ b, b ∈ bs → enc b ≠ .none) (hL : bs.length ≤ sizeLine) (hu : ∀ b, b ∈ bs → A.units + 2 + (enc b).depth < cLine)
    (h : ∀ (h' : Heap) (tk p c : Nat) (out : List Value) (bs' : List β), (∀ b o, s.heap.get? b = some o → h'.get? b = some o) → s.heap.objs.size ≤ p → h'.get? p = some (seqObj "list" out.toArray c) → bs'.Perm bs → PySem.W.EachIs R out (bs'.mergeSort (PySem.W.dataLe false enc)) →
      ∀ s', s'.heap = h' → s'.gens = s.gens → s'.os = s.os → Q (.ref p) s') :
    wpAny (model P w) A (call (.builtin "sorted") [.ref a]) Q E s := by
  refine Calls.call_function_entry kind_sorted plain_sorted entry_sorted (args_sorted1 _) ?_
  unfold Builtin.«sorted»
  refine wpAny_bind (m := checkCount "sorted" 1 1 _) (wpAny_pure ?_)
  refine wpAny_bind (collect_set (A := A.in1) hh ha hf hsz hr hl fun s1 vs k1 hz g1 o1 pm => ?_)
  obtain ⟨bs', pb, e'⟩ := each_perm pm e
  have hvl : vs.length ≤ sizeLine := by rw [e'.length, pb.length_eq]; exact hL
  refine wpAny_bind (wpAny_newList ?_ hvl)
  have hoL : (s1.heap.push (seqObj "list" vs.toArray 0)).get? s1.heap.objs.size = some (seqObj "list" vs.toArray 0) := Heap.get?_push_size _ rfl
  have up : ∀ b o, s.heap.get? b = some o → (PySem.W.sortingHeap (s1.heap.push (seqObj "list" vs.toArray 0)) s1.heap.objs.size vs).get? b = some o := fun b o q =>
    PySem.W.sortingHeap_old (Nat.ne_of_lt (Heap.lt_size (k1 b o q))) (Heap.get?_push_of_some _ (k1 b o q))
  have er : PySem.W.EachIs (fun v b => ∃ as, Reads (PySem.W.sortingHeap (s1.heap.push (seqObj "list" vs.toArray 0)) s1.heap.objs.size vs) v (enc b) as) vs bs' := e'.mono fun v b q => by
    obtain ⟨_, as, q⟩ := q
    exact ⟨as, PyProof.Rows.Reads.keeps up q⟩
  have hal' : PySem.W.AllAlike (bs'.map enc) := fun d hd d' hd' => hal d ((pb.map enc).mem_iff.mp hd) d' ((pb.map enc).mem_iff.mp hd')
  refine wpAny_bind (wpAny_holding (wpAny_call_entry slot_list_sort ⟨_, hoL, rfl⟩ entry_list_sort ?_ (args_list_sort _)))
  refine PySem.W.list_sort_vals (s := { s1 with heap := s1.heap.push (seqObj "list" vs.toArray 0) }) hoL (sorts_alike (s := { s1 with heap := PySem.W.sortingHeap (s1.heap.push (seqObj "list" vs.toArray 0)) s1.heap.objs.size vs }) (PySem.W.each_map (R := fun v d => ∃ as, Reads _ v d as) enc er) hal' (fun d hd => ?_) (fun d hd => ?_)) hvl ?_
  · obtain ⟨b, hb, rfl⟩ := List.mem_map.mp hd
    exact hn b (pb.mem_iff.mp hb)
  · obtain ⟨b, hb, rfl⟩ := List.mem_map.mp hd
    exact hu b (pb.mem_iff.mp hb)
  · obtain ⟨c, hc⟩ := sortedHeap_at (vs := vs) (out := (PySem.W.sortVals (PySem.W.dataKind (PySem.W.sortingHeap (s1.heap.push (seqObj "list" vs.toArray 0)) s1.heap.objs.size vs) (bs'.map enc)) false vs vs).toArray) hoL
    refine ⟨_, rfl, wpAny_pure ⟨_, rfl, ?_⟩⟩
    refine h _ 0 s1.heap.objs.size c _ bs' (fun b o q => ?_) hz hc pb (PySem.W.sortVals_data false (e'.mono fun v b q => q.1) er hal') _ rfl g1 o1
    have hlt := Heap.lt_size (k1 b o q)
    rw [sortedHeap_old (Nat.ne_of_lt hlt) (by rw [size_push']; exact Nat.lt_succ_of_lt hlt)]
    exact Heap.get?_push_of_some _ (k1 b o q)
end
end Ev

end
section
set_option maxRecDepth 100000
set_option maxHeartbeats 4000000
/-! Ev Tx: the sorted list of alike data is one -/
namespace Ev
open PySem PySem.Spec PyProof.Rows L2
mutual
theorem alike_eqv : ∀ (x y : PyData), PySem.W.alike x y = true → PyData.eqv x y = true → x = y
  | .none, y, h, e => by cases y <;> first | rfl | (simp [PySem.W.alike] at h; done)
  | .bool a, y, h, e => by
    cases y <;> first | (simp [PySem.W.alike] at h; done) | skip
    simp only [PyData.eqv] at e
    rw [eq_of_beq e]
  | .int a, y, h, e => by
    cases y <;> first | (simp [PySem.W.alike] at h; done) | skip
    simp only [PyData.eqv] at e
    rw [eq_of_beq e]
  | .str a, y, h, e => by
    cases y <;> first | (simp [PySem.W.alike] at h; done) | skip
    simp only [PyData.eqv] at e
    rw [eq_of_beq e]
  | .list a, y, h, e => by
    cases y <;> first | (simp [PySem.W.alike] at h; done) | skip
    simp only [PyData.eqv] at e
    simp only [PySem.W.alike] at h
    rw [alikes_eqv a _ h e]
  | .tuple a, y, h, e => by
    cases y <;> first | (simp [PySem.W.alike] at h; done) | skip
    simp only [PyData.eqv] at e
    simp only [PySem.W.alike] at h
    rw [alikes_eqv a _ h e]
  | .dict _, y, h, e => by cases y <;> simp [PySem.W.alike] at h
theorem alikes_eqv : ∀ (xs ys : List PyData), PySem.W.alikeAll xs ys = true → PyData.eqvAll xs ys = true → xs = ys
  | [], ys, h, e => by
    cases ys with
    | nil => rfl
    | cons _ _ => simp [PyData.eqvAll] at e
  | x :: xs, ys, h, e => by
    cases ys with
    | nil => simp [PyData.eqvAll] at e
    | cons y ys =>
      simp only [PyData.eqvAll, Bool.and_eq_true] at e
      simp only [PySem.W.alikeAll, Bool.and_eq_true] at h
      rw [alike_eqv x y h.1 e.1, alikes_eqv xs ys h.2 e.2]
end
mutual
theorem data_inj : ∀ (p q : PV) (d : PyData), p.data = some d → q.data = some d → p = q
  | .non, q, d, h, h' => by simp only [PV.data] at h; cases h; cases q <;> simp [PV.data] at h' <;> rfl
  | .bl b, q, d, h, h' => by simp only [PV.data] at h; cases h; cases q <;> simp [PV.data] at h' <;> rw [h']
  | .int b, q, d, h, h' => by simp only [PV.data] at h; cases h; cases q <;> simp [PV.data] at h' <;> rw [h']
  | .str b, q, d, h, h' => by simp only [PV.data] at h; cases h; cases q <;> simp [PV.data] at h' <;> rw [h']
  | .tup ps, q, d, h, h' => by
    simp only [PV.data] at h
    obtain ⟨ds, e1, rfl⟩ := Option.map_eq_some_iff.mp h
    cases q <;> simp [PV.data] at h'
    rw [datas_inj ps _ ds e1 h']
  | .lst ps, q, d, h, h' => by
    simp only [PV.data] at h
    obtain ⟨ds, e1, rfl⟩ := Option.map_eq_some_iff.mp h
    cases q <;> simp [PV.data] at h'
    rw [datas_inj ps _ ds e1 h']
  | .scr _, q, d, h, h' => by simp [PV.data] at h
  | .dct _ _, q, d, h, h' => by simp [PV.data] at h
  | .st _, q, d, h, h' => by simp [PV.data] at h
  | .ins _ _ _, q, d, h, h' => by simp [PV.data] at h
  | .exc _ _ _, q, d, h, h' => by simp [PV.data] at h
  | .ty _, q, d, h, h' => by simp [PV.data] at h
  | .cls _, q, d, h, h' => by simp [PV.data] at h
  | .fn _, q, d, h, h' => by simp [PV.data] at h
theorem datas_inj : ∀ (ps qs : List PV) (ds : List PyData), PV.datas ps = some ds → PV.datas qs = some ds → ps = qs
  | [], qs, ds, h, h' => by
    simp only [PV.datas] at h; cases h
    cases qs with
    | nil => rfl
    | cons q qs => simp only [PV.datas] at h'; split at h' <;> cases h'
  | p :: ps, qs, ds, h, h' => by
    simp only [PV.datas] at h
    split at h
    · rename_i d ds' e1 e2
      cases h
      cases qs with
      | nil => simp only [PV.datas] at h'; cases h'
      | cons q qs =>
        simp only [PV.datas] at h'
        split at h'
        · rename_i d2 ds2 e3 e4
          cases h'
          rw [data_inj p q d e1 e3, datas_inj ps qs ds' e2 e4]
        · cases h'
    · cases h
end
/-- neither is less: one and the same -/
theorem lt_tri {x y : PyData} (h : PySem.W.alike x y = true) (h1 : PySem.W.dataLt x y = false) (h2 : PySem.W.dataLt y x = false) : x = y := by
  have e : PySem.W.keyToks x = PySem.W.keyToks y := lex_total _ _ h1 h2
  cases q : PyData.eqv x y with
  | true => exact alike_eqv x y h q
  | false =>
    have k := (PySem.W.toks_eqv x y h).2 q [] [.inl 0]
    have k0 := (PySem.W.toks_eqv x y h).2 q [] []
    rw [e, PySem.W.lex_pre, lex_irrefl] at k
    exact absurd k (by decide)
theorem enc_inj {p q : PV} (hp : p.data.isSome = true) (hq : q.data.isSome = true) (e : enc p = enc q) : p = q := by
  have h1 := data_enc hp
  have h2 := data_enc hq
  rw [← e] at h2
  exact data_inj p q _ h1 h2
theorem eq_of_sorted {α : Type} {le : α → α → Prop} : ∀ {l m : List α}, l.Perm m → l.Pairwise le → m.Pairwise le → (∀ a ∈ l, ∀ b ∈ l, le a b → le b a → a = b) → l = m
  | [], m, pm, _, _, _ => (List.nil_perm.mp pm).symm
  | a :: l, m, pm, h1, h2, h3 => by
    cases m with
    | nil => exact absurd (List.perm_nil.mp pm) (by simp)
    | cons b m =>
      have e : a = b := by
        by_cases hab : a = b
        · exact hab
        · have ha : a ∈ m := by
            rcases List.mem_cons.mp (pm.mem_iff.mp (List.mem_cons_self ..)) with z | z
            · exact absurd z hab
            · exact z
          have hb : b ∈ l := by
            rcases List.mem_cons.mp (pm.mem_iff.mpr (List.mem_cons_self ..)) with z | z
            · exact absurd z.symm hab
            · exact z
          exact h3 a (List.mem_cons_self ..) b (List.mem_cons_of_mem _ hb) ((List.pairwise_cons.mp h1).1 b hb) ((List.pairwise_cons.mp h2).1 a ha)
      subst e
      rw [eq_of_sorted (List.Perm.cons_inv pm) (List.pairwise_cons.mp h1).2 (List.pairwise_cons.mp h2).2 fun x hx y hy => h3 x (List.mem_cons_of_mem _ hx) y (List.mem_cons_of_mem _ hy)]
theorem le_trans_d (a b c : PV) (h1 : PySem.W.dataLe false enc a b = true) (h2 : PySem.W.dataLe false enc b c = true) : PySem.W.dataLe false enc a c = true := by
  rw [PySem.W.dataLe_eq] at *
  simp only [cond_false, Bool.not_eq_true'] at *
  cases q : PySem.W.dataLt (enc c) (enc a) with
  | false => rfl
  | true =>
    rcases lex_negTrans _ (PySem.W.keyToks (enc b)) _ q with z | z
    · rw [show PySem.W.dataLt (enc c) (enc b) = true from z] at h2; cases h2
    · rw [show PySem.W.dataLt (enc b) (enc a) = true from z] at h1; cases h1
theorem le_total_d (a b : PV) : (PySem.W.dataLe false enc a b || PySem.W.dataLe false enc b a) = true := by
  rw [PySem.W.dataLe_eq]
  simp only [cond_false, Bool.or_eq_true, Bool.not_eq_true']
  cases q : PySem.W.dataLt (enc b) (enc a) with
  | false => exact .inl rfl
  | true =>
    cases q2 : PySem.W.dataLt (enc a) (enc b) with
    | false => exact .inr rfl
    | true =>
      have := lex_trans _ _ _ q q2
      rw [lex_irrefl] at this
      cases this
theorem pySort_pairwise (xs : List PV) : (pySort xs).Pairwise (fun a b => PySem.W.dataLe false enc a b = true) := by
  unfold pySort
  exact List.pairwise_mergeSort le_trans_d le_total_d xs
theorem pySort_perm (xs : List PV) : (pySort xs).Perm xs := List.mergeSort_perm _ _
/-- the order of what is sorted does not matter -/
theorem pySort_of_perm {xs ys : List PV} (pm : xs.Perm ys) (h : ∀ x ∈ xs, x.data.isSome = true ∧ ∀ y ∈ xs, PySem.W.alike (enc x) (enc y) = true) : pySort xs = pySort ys := by
  refine eq_of_sorted ((pySort_perm xs).trans (pm.trans (pySort_perm ys).symm)) (pySort_pairwise xs) (pySort_pairwise ys) fun a ha b hb h1 h2 => ?_
  have ha := (pySort_perm xs).mem_iff.mp ha
  have hb := (pySort_perm xs).mem_iff.mp hb
  rw [PySem.W.dataLe_eq] at h1 h2
  simp only [cond_false, Bool.not_eq_true'] at h1 h2
  exact enc_inj (h a ha).1 (h b hb).1 (lt_tri ((h a ha).2 b hb) h2 h1)
/-- each once (the last of its kind) -/
def uniq : List PV → List PV
  | [] => []
  | x :: xs => if x ∈ xs then uniq xs else x :: uniq xs
theorem mem_uniq {x : PV} : ∀ {xs : List PV}, x ∈ uniq xs ↔ x ∈ xs
  | [] => Iff.rfl
  | y :: ys => by
    unfold uniq
    split
    · rename_i h
      rw [mem_uniq, List.mem_cons]
      exact ⟨.inr, fun q => q.elim (fun e => e ▸ h) id⟩
    · rw [List.mem_cons, List.mem_cons, mem_uniq]
theorem nodup_uniq : ∀ {xs : List PV}, (uniq xs).Nodup
  | [] => List.nodup_nil
  | y :: ys => by
    unfold uniq
    split
    · exact nodup_uniq
    · rename_i h
      exact List.nodup_cons.mpr ⟨fun q => h (mem_uniq.mp q), nodup_uniq⟩
end Ev

end
section
set_option maxRecDepth 100000
set_option maxHeartbeats 4000000
/-! Ev Ty: sorted(set(xs)), nested tuples -/
namespace Ev
open PySem PySem.Spec PyProof.Rows L2
def pySortSet : List PV → Option (List PV)
  | [.lst xs] => if sortable xs && (tupKs xs).isSome && decide (xs.length < 64) then some (pySort (uniq xs)) else none
  | _ => none
section
variable {R : RC} {W : WX} {X : Cx} {ms ms' : List Addr} {H H' : Hp} {G G' : Store} {ρ : Fr} {σ : L2.St} {pins : List (Addr × Obj)} {s : Shared} {e : Expr} {fs : FA} {p p2 pos pos2 : Pos}
/-- a row is this value -/
def RowIs (R : RC) (X : Cx) (ms : List Addr) (H : Hp) (h : Heap) (q : Addr × NestedKey) (z : PV) : Prop := tupK z = some q.2 ∧ (NK X.prog X.w).is h q.2 q.1 ∧ ∃ x, RepP R ms H z x ∧ RelV x (.ref q.1)
theorem rows_of (hK : X.K = R.K) (I : Inv X pins σ H s) : ∀ {zs : List PV} {nk : List NestedKey} {ys : List V} {its : List Value}, tupKs zs = some nk → RepPs R ms H zs ys → Vals ys its → ∃ ks : Rows, its = ks.map (fun q => Value.ref q.1) ∧ PySem.W.EachIs (RowIs R X ms H s.heap) ks zs
  | [], nk, ys, its, e, r, v => by
    simp only [RepPs] at r; subst r
    cases v
    exact ⟨[], rfl, .nil⟩
  | z :: zs, nk, ys, its, e, r, v => by
    simp only [tupKs] at e
    split at e
    · rename_i k nk' e1 e2
      simp only [RepPs] at r
      obtain ⟨x, xr, rfl, r1, r2⟩ := r
      cases v with
      | cons v1 v2 =>
        obtain ⟨ks, h1, h2⟩ := rows_of hK I e2 r2 v2
        obtain ⟨b, _, rfl, hb⟩ := tup_is hK I e1 r1 v1
        exact ⟨(b, k) :: ks, by rw [h1]; rfl, .cons ⟨e1, hb, x, r1, v1⟩ h2⟩
    · cases e
theorem each_right {α β : Type} {P : α → β → Prop} : ∀ {us : List α} {bs : List β}, PySem.W.EachIs P us bs → ∀ b ∈ bs, ∃ u ∈ us, P u b
  | _, _, .nil, b, hb => by cases hb
  | _, _, .cons h t, b, hb => by
    rcases List.mem_cons.mp hb with e | hb
    · rw [e]; exact ⟨_, List.mem_cons_self .., h⟩
    · obtain ⟨u, hu, h⟩ := each_right t b hb
      exact ⟨u, List.mem_cons_of_mem _ hu, h⟩
theorem each_pick {α β : Type} {P : α → β → Prop} : ∀ {us : List α}, (∀ u ∈ us, ∃ b, P u b) → ∃ bs, PySem.W.EachIs P us bs
  | [], _ => ⟨[], .nil⟩
  | u :: us, h => by
    obtain ⟨b, hb⟩ := h u (List.mem_cons_self ..)
    obtain ⟨bs, hbs⟩ := each_pick fun v hv => h v (List.mem_cons_of_mem _ hv)
    exact ⟨b :: bs, .cons hb hbs⟩
theorem each_mapl {α β γ : Type} {P : γ → β → Prop} {f : α → γ} : ∀ {us : List α} {bs : List β}, PySem.W.EachIs (fun u b => P (f u) b) us bs → PySem.W.EachIs P (us.map f) bs
  | _, _, .nil => .nil
  | _, _, .cons h t => .cons h (each_mapl t)
theorem keys_nodup {α : Type} {P : Addr × NestedKey → PV → Prop} (hP : ∀ q z, P q z → tupK z = some q.2) : ∀ {L : Rows} {bs : List PV}, PySem.W.EachIs P L bs → (L.map (·.2)).Nodup → bs.Nodup
  | _, _, .nil, _ => List.nodup_nil
  | _, _, .cons (a := q) (b := z) h t, n => by
    obtain ⟨n1, n2⟩ := List.nodup_cons.mp n
    refine List.nodup_cons.mpr ⟨fun hz => n1 ?_, keys_nodup (α := α) hP t n2⟩
    obtain ⟨q', hq', h'⟩ := each_right t _ hz
    have e1 := hP _ _ h
    have e2 := hP _ _ h'
    rw [e1] at e2
    exact List.mem_map.mpr ⟨q', hq', (Option.some.inj e2).symm⟩
theorem sf_sortSet (hK : X.K = R.K) (hc : X.calm = true) (hu : X.A.units + 100 < cLine) (g1 : Gl X "sorted") (m1 : X.mg "sorted" = none) (g2 : Gl X "set") (m2 : X.mg "set" = none) (ha : PA X [e] (tA R W fs)) (hs : notStar e = true) :
    PE X (.Call (.Name "sorted" p) [.Call (.Name "set" p2) [e] [] pos2] [] pos) (tF R W (cCallF pySortSet fs)) := by
  refine ⟨fun pins s σ H Q I h => ?_⟩
  have h' : tA R W fs σ H (fun xs H1 => ∃ ms1 ps rs, RDs R ms1 H1 ps xs ∧ pySortSet ps = some rs ∧ NewL R ms1 H1 rs Q) := by
    obtain ⟨ms, ρ, G, g, sl, q⟩ := h
    refine tA_then g sl (PostF.r (show PostF R W σ ms H Q ((fs ρ G).bind fun vs G1 => ofOL ((Ev.derefs G1 vs).bind pySortSet) G1) from q)) fun vs G1 e1 q1 ms1 xs H1 st1 g1 s1 r1 => ?_
    obtain ⟨rs, e2, q2⟩ := ofOL_some q1
    obtain ⟨ps, e3, e4⟩ := Option.bind_eq_some_iff.mp e2
    exact ⟨ms1, ps, rs, r1.derefs g1 e3, e4, NewL.post g1 fun ms' p' H' st' g' l' => q2 ms' p' H' (st1.trans st') g' (Nat.le_trans st1.len l')⟩
  refine wpAny_Call_Name_kw (ld_blt I g1 m1 (by decide +kernel : bootBuiltins "sorted" = some (.builtin "sorted")) ?_)
  refine PySem.callWith_builtin1 ?_
  refine wpAny_Call_Name_kw (ld_blt I g2 m2 (by decide +kernel : bootBuiltins "set" = some (.type "set")) ?_)
  refine PyProof.Rows.callWith_type1 (thn (ha.run pos2 pins s σ H _ I h') fun us s1 ⟨vs, H1, I1, r1, ms1, ps, rs, rd, es, nw⟩ => ?_) (starEach_ns hs) (backTo_ns (by simp))
  unfold pySortSet at es
  split at es
  · rename_i zs
    split at es
    · rename_i hso
      cases es
      simp only [Bool.and_eq_true, decide_eq_true_eq] at hso
      obtain ⟨⟨hso, hks⟩, h64⟩ := hso
      obtain ⟨h1, h2⟩ := sortable_ok hso
      obtain ⟨nk, hnk⟩ := Option.isSome_iff_exists.mp hks
      obtain ⟨y, rfl, hy⟩ := rd.one
      obtain ⟨a, ys, rfl, h3, h4⟩ := rd_lst hy
      obtain ⟨its, rvs, hl, _⟩ := I1.list (SqL.of h3)
      rw [Vals.ref1 r1]
      obtain ⟨ks, k1, k2⟩ := rows_of hK I1 hnk h4 rvs
      have hlen : ks.length = zs.length := k2.length
      refine call_setN (ks := ks) (I1.ok.hd hc) hl.isList (by simpa using k1) (fun q hq => ?_) (by omega) (by omega) fun h' tk L es ep t SN g kp => ?_
      · obtain ⟨z, _, hz⟩ := k2.left q hq
        exact hz.2.1
      · have I2 : Inv X pins σ H1 { s1 with heap := h', toks := tk } := I1.kept kp
        have sub : ∀ q ∈ L, q ∈ ks := fun q hq => List.mem_of_mem_take (g.sub q hq)
        obtain ⟨bs, eb⟩ := each_pick (P := fun q z => z ∈ zs ∧ RowIs R X ms1 H1 s1.heap q z) (us := L) fun q hq => by
          obtain ⟨z, hz, r⟩ := k2.left q (sub q hq)
          exact ⟨z, hz, r⟩
        have mem : ∀ b ∈ bs, b ∈ zs := fun b hb => by
          obtain ⟨q, _, r⟩ := each_right eb b hb
          exact r.1
        have pm : bs.Perm (uniq zs) := by
          refine (List.perm_ext_iff_of_nodup (keys_nodup (α := Unit) (fun q z r => r.2.1) eb SN.nd) nodup_uniq).mpr fun z => ⟨fun hz => mem_uniq.mpr (mem z hz), fun hz => ?_⟩
          obtain ⟨q, hq, r⟩ := each_right k2 z (mem_uniq.mp hz)
          obtain ⟨q', hq', e'⟩ := List.mem_map.mp (g.all q (by rw [List.take_length]; exact hq))
          obtain ⟨z', hz', r'⟩ := eb.left q' hq'
          have e1 : tupK z' = some q.2 := by rw [r'.2.1, e']
          rw [← tupK_inj e1 r.1]
          exact hz'
        obtain ⟨o, ho, hex, hd⟩ := SN.ob
        have er : PySem.W.EachIs (fun u b => (b ∈ zs ∧ ∃ x, RepP R ms1 H1 b x ∧ RelV x u) ∧ ∃ as, Reads h' u (enc b) as) (es.toList.map (·.2)) bs := by
          have e : es.toList.map (·.2) = L.map fun q => Value.ref q.1 := by rw [SN.rows, rowsN, List.map_map]; rfl
          rw [e]
          refine each_mapl (eb.mono fun q z r => ?_)
          obtain ⟨m, _, _, x, rx, rv⟩ := r
          exact ⟨⟨m, x, rx, rv⟩, (RepP.dp hK z (enc z) x (data_enc (h2 z m).1) rx).reads I2 _ _ _ rv⟩
        have few := SN.few
        have hbl : bs.length = L.length := eb.length.symm
        refine sorted_setG (s := { s1 with heap := h', toks := tk }) (I1.ok.hd hc) ⟨o, ho, hex.1, hd⟩ (SetN.fits (s := { s1 with heap := h', toks := tk }) SN) (by rw [rowsN_len SN.rows]; unfold scanBound; omega) SN.tab.ris SN.led er (fun d hd d' hd' => ?_) (fun b hb => ?_) (by rw [hbl, sizeLine_eq]; omega) (fun b hb => ?_) fun h'' _ pA c out bs' up hp hout pb heach s' e1 e2 e3 => ?_
        · obtain ⟨b, hb, rfl⟩ := List.mem_map.mp hd
          obtain ⟨b', hb', rfl⟩ := List.mem_map.mp hd'
          exact (h2 b (mem b hb)).2.2.2 b' (mem b' hb')
        · have := (h2 b (mem b hb)).2.2.1
          intro z
          rw [z] at this
          cases this
        · have := enc_depth (h2 b (mem b hb)).2.1
          omega
        · have es : bs'.mergeSort (PySem.W.dataLe false enc) = pySort (uniq zs) :=
            pySort_of_perm (pb.trans pm) fun x hx => ⟨(h2 x (mem x (pb.mem_iff.mp hx))).1, fun y hy => (h2 x (mem x (pb.mem_iff.mp hx))).2.2.2 y (mem y (pb.mem_iff.mp hy))⟩
          rw [es] at heach
          obtain ⟨zs', w1, w2⟩ := each_back (ms := ms1) (R := R) (H := H1) (heach.mono fun _ _ z => z.2)
          have hlz : zs'.length ≤ sizeLine := by
            rw [← w1.length, (pySort_perm _).length_eq, ← pm.length_eq, hbl, sizeLine_eq]
            omega
          have hfr : H1 pA = none := I2.hok.fresh hp
          subst e1
          have J : Inv X pins σ (upd H1 pA (.lst zs')) s' := I2.call' (ch := []) e3 (Un.laid up hp hfr) (I2.hok.laid up hp ⟨hlz, out, c, w2, hout⟩) (by rw [e2]; exact I2.bare) (fun _ z => nomatch z)
          exact ⟨.ref pA, _, J, rfl, nw _ zs' H1 _ (Ext.refl H1) hfr w1 (Ext.new hfr) upd_same⟩
    · cases es
  · cases es
end
end Ev

end
section
set_option maxRecDepth 100000
set_option maxHeartbeats 4000000
/-! Ev O: the evaluator over the program's text, one step; what it gives is sound -/
namespace Ev
open PySem PySem.Spec PyProof.Rows L2

/-- what is known of a def's surroundings -/
structure Ctx where
  N : List Str
  sc : Scope
  k : Nat
  free : List Str
  fns : List (Str × Nat × (List Val → Store → Res Val))
  consts : List (Str × PV)
  /-- names that hold changeable lists -/
  boxed : List Str
  keep : Bool
  /-- cells that are the block's own -/
  cel : Str → Bool
  /-- the code's own table is known: lambdas can be made here -/
  lam : Bool := false
structure Fits (Γ : Ctx) (X : Cx) (R : RC) (W : WX) : Prop where
  K : X.K = R.K
  w : X.w = R.w
  N : X.N = Γ.N
  nd : X.N.Nodup
  sc : X.env.scope = Γ.sc
  kind : X.env.scope.kind = .function
  fn : ∀ x, Γ.cel x = true → X.fn x = true
  calm : X.calm = true
  room : Room Γ.k X.A
  gd : X.A.guards = some []
  tk : Takes X W
  fns : ∀ e ∈ Γ.fns, FnS R X.prog X.w X.mg X.base Γ.k e.1 e.2.1 e.2.2
  consts : ∀ e ∈ Γ.consts, ∃ u v, X.mg e.1 = some u ∧ RelV v u ∧ ∀ ms H, RepP R ms H e.2 v
  free : ∀ x ∈ Γ.free, X.mg x = none
  lam : Γ.lam = true → ∃ c P, X.env.code = .ref c ∧ LamX.TabB X.base X.mg c P ∧ (P, X.env.qual ++ "<lambda>") ∈ R.T ∧ ∀ p ∈ R.T, p.1 = P → p.2 = X.env.qual ++ "<lambda>"

def slot : List Str → Str → Option Nat
  | [], _ => none
  | y :: r, x => if y == x then some 0 else (slot r x).map (· + 1)
def kindOfΓ (Γ : Ctx) (x : Str) : Option NameKind := Γ.sc.names.lookup x
def visK : Option NameKind → Bool
  | some .local | some .cell | some .free => true
  | _ => false
def locK : Option NameKind → Bool
  | some .local | some .cell => true
  | _ => false
def globK : Option NameKind → Bool
  | some .globalImplicit => true
  | _ => false
def okName (x : Str) : Bool := !(x == ("__debug__" : Str)) && !(x == ("__classdict__" : Str)) && !(x == ("__name__" : Str))
/-- the place of a name that can be read; stored -/
def seen (Γ : Ctx) (x : Str) : Option Nat := if visK (kindOfΓ Γ x) && okName x then slot Γ.N x else none
def put (Γ : Ctx) (x : Str) : Option Nat := if (decide (kindOfΓ Γ x = some .local) || decide (kindOfΓ Γ x = some .cell) && Γ.cel x) && okName x then slot Γ.N x else none
def glob (Γ : Ctx) (x : Str) : Bool := globK (kindOfΓ Γ x) && okName x
def isFree (Γ : Ctx) (x : Str) : Bool := glob Γ x && Γ.free.contains x

def opOf : Operator → Option (PV → PV → Option PV)
  | .Add => some pyAdd
  | .Sub => some pySub
  | .Mult => some pyMul
  | .Mod => some pyMod
  | .FloorDiv => some pyFDiv
  | .Pow => some pyPow
  | .LShift => some pyShl
  | .RShift => some pyShr
  | .BitAnd => some pyAnd
  | .BitOr => some pyOr
  | _ => none
def opLOf : Operator → Option (PV → PV → Option (List PV))
  | .Add => some pyAddL
  | .Mult => some pyMulL
  | _ => none
def cmpOf : CmpOp → Option (PV → PV → Option Bool)
  | .Eq => some pyEq
  | .NotEq => some pyNe
  | .Lt => some pyLtB
  | .LtE => some pyLeB
  | .Gt => some pyGtB
  | .GtE => some pyGeB
  | .In => some pyIn2
  | .NotIn => some pyNotIn2
  | .Is => some pyIs
  | _ => none
/-- built-in functions and types by values -/
def bltOf (x : Str) : Option (List PV → Option PV) :=
  if x == "len" then some pyLen else if x == "tuple" then some pyTuple else if x == "int" then some pyInt else if x == "abs" then some pyAbs else if x == "max" then some pyMax
  else if x == "min" then some pyMin else if x == "all" then some pyAll else if x == "any" then some pyAny else if x == "sum" then some pySum else if x == "isinstance" then some pyIsi else if x == "repr" then some pyShow else none
def bltFOf (x : Str) : Option (List PV → Option (List PV)) :=
  if x == "list" then some pyList2 else if x == "sorted" then some pySorted else none
/-- methods of lists: whether arguments are kept -/
def methOf (x : Str) (n : Nat) : Option (Bool × (List PV → List PV → Option (PV × List PV))) :=
  if x == "append" && n == 1 then some (true, mApp) else if x == "insert" && n == 2 then some (true, mIns) else if x == "extend" && n == 1 then some (false, mExt)
  else if x == "pop" && n == 1 then some (false, mPop) else if x == "pop" && n == 0 then some (false, mPop0) else if x == "clear" && n == 0 then some (false, mClear) else none
def constOf : Const → Option PV
  | .none => some .non
  | .bool b => some (.bl b)
  | .int i => some (.int i)
  | .str s => some (.str s)
  | _ => none
def tyOf : Str → Option String := fun x => match bootBuiltins x with
  | some (.type n) => some n
  | _ => none
def fStuck : FF := fun _ _ => .stuck
def tStuck : FT := fun _ _ => .stuck
def aStuck : FA := fun _ _ => .stuck
def iStuck : FI := fun _ _ => .stuck
def cCmp (f : PV → PV → Option Bool) (fa fb : FE) : FT := fun ρ G => (fa ρ G).bind fun x G1 => (fb ρ G1).bind fun y G2 => ofOB (opt2B f (deref G2 x) (deref G2 y)) G2

structure Evr where
  E : Ctx → Expr → FE
  F : Ctx → Expr → FF
  T : Ctx → Expr → FT
  A : Ctx → List Expr → FA
  I : Ctx → Expr → Expr → FI
  S : Ctx → Stmt → FS
  Ss : Ctx → List Stmt → FS

/-! ### comprehensions' blocks -/
def ownOf (N : List Str) : List (Str × NameKind) → List (Str × Nat)
  | [] => []
  | (y, k) :: r => if locK (some k) then (match slot N y with
    | some i => (y, i) :: ownOf N r
    | none => ownOf N r) else ownOf N r
def blkOk (N : List Str) (sc scope : Scope) : Bool :=
  (match scope.kind with
    | .function => true
    | _ => false) && scope.names.all fun y => (match scope.names.lookup y.1 with
      | some k => decide (k = y.2)
      | none => false) && (!(decide (y.2 = .free)) || locK (sc.names.lookup y.1) && !(decide (sc.names.lookup y.1 = some .local)) || decide (sc.names.lookup y.1 = some .free))
def Ctx.blk (Γ : Ctx) (scope : Scope) : Ctx := { Γ with sc := relS scope Γ.sc, cel := fun x => scope.names.lookup x == some .cell, lam := false }
def putAll (Γ : Ctx) : List Expr → Option (List Nat)
  | [] => some []
  | .Name x _ :: r => (match put Γ x, putAll Γ r with
    | some i, some is => some (i :: is)
    | _, _ => none)
  | _ :: _ => none
def tgtOf (Γ : Ctx) : Expr → Option Tgt
  | .Name x _ => (put Γ x).map .one
  | .Tuple es _ _ => (putAll Γ es).map .tup
  | _ => none
def notSet : Expr → Bool
  | .Set .. => false
  | _ => true
def notComp : Expr → Bool
  | .ListComp .. => false
  | .SetComp .. => false
  | .DictComp .. => false
  | _ => true
variable (ev : Evr)
def testsOf (Γ : Ctx) : List Expr → FT
  | [] => cYes
  | [c] => ev.T Γ c
  | _ => tStuck
/-- the pieces of a list comprehension -/
def lcOf (Γ : Ctx) (elt tg iter : Expr) (ifs : List Expr) (scope : Scope) : FF :=
  if blkOk Γ.N Γ.sc scope && notSet iter then (match tgtOf (Γ.blk scope) tg with
    | some tgt => if tgt.slots.all fun i => (ownOf Γ.N scope.names).any fun p => p.2 == i then
        cLc (ev.I Γ tg iter) ((ownOf Γ.N scope.names).map (·.2)) tgt (testsOf ev (Γ.blk scope) ifs) (ev.E (Γ.blk scope) elt) else fStuck
    | none => fStuck) else fStuck
/-- a dict comprehension -/
def dcOf (Γ : Ctx) (kx vx tg iter : Expr) (ifs : List Expr) (scope : Scope) : FN :=
  if blkOk Γ.N Γ.sc scope && notSet iter then (match tgtOf (Γ.blk scope) tg with
    | some tgt => if tgt.slots.all fun i => (ownOf Γ.N scope.names).any fun p => p.2 == i then
        cDc (ev.I Γ tg iter) ((ownOf Γ.N scope.names).map (·.2)) tgt (testsOf ev (Γ.blk scope) ifs) (ev.E (Γ.blk scope) kx) (ev.E (Γ.blk scope) vx) else nStuck
    | none => nStuck) else nStuck
def callOf (Γ : Ctx) (x : Str) (es : List Expr) : FE :=
  if glob Γ x && es.all notStar then (match Γ.fns.lookup x with
    | some (n, run) => if es.length == n then cOwn run (ev.A Γ es) else cStuck
    | none => if Γ.free.contains x && !es.isEmpty then (match bltOf x with
      | some f => cCall f (ev.A Γ es)
      | none => (match bltFOf x with
        | some f => cFrz (cCallF f (ev.A Γ es))
        | none => cStuck)) else cStuck) else cStuck
def callFOf (Γ : Ctx) (x : Str) (es : List Expr) : FF :=
  if glob Γ x && es.all notStar && Γ.free.contains x && !es.isEmpty then (match bltFOf x with
    | some f => cCallF f (ev.A Γ es)
    | none => fStuck) else fStuck
/-- sorted(xs, key=lambda ..) -/
def sortKOf (Γ : Ctx) (x : Str) (es : List Expr) (k : Option Str) (ps : Arguments) (b : Expr) (sc : Scope) : FF := match es with
  | [e] => if x == "sorted" && (k == some "key" && (Γ.lam && (isFree Γ "sorted" && (Γ.free.contains "len" && (notStar e && isKeyLam ps b sc))))) then cCallF pySortedK (ev.A Γ [e]) else fStuck
  | _ => fStuck
/-- sorted(set(xs)) -/
def sortSetOf (Γ : Ctx) (x y : Str) (e : Expr) : FF := if x == "sorted" && (y == "set" && (isFree Γ "sorted" && (isFree Γ "set" && notStar e))) then cCallF pySortSet (ev.A Γ [e]) else fStuck
def methE (Γ : Ctx) (o : Expr) (name : Str) (apos cpos : Pos) (es : List Expr) : FE :=
  if noCall o && es.all notStar && decide (es.length < 30) && (apos.endLine == cpos.line) then (match methOf name es.length with
    | some (app, m) => cMeth app m (ev.E Γ o) (ev.A Γ es)
    | none => cStuck) else cStuck
def partOf (Γ : Ctx) : Option Expr → FO
  | none => oNo
  | some e => oAt (ev.E Γ e)
def stepF (Γ : Ctx) : Expr → FF
  | .List es _ => if es.all notStar && decide (es.length ≤ sizeLine) then cLst (ev.A Γ es) else cLst (few (ev.A Γ es))
  | .ListComp elt gens scope _ => (match gens with
    | [⟨tg, iter, ifs, 0⟩] => lcOf ev Γ elt tg iter ifs scope
    | _ => fStuck)
  | .Call f es kws _ => (match f, kws with
    | .Name x _, [] => (match es with
      | [.Call (.Name y _) [e] [] _] => if y == "set" then sortSetOf ev Γ x y e else callFOf ev Γ x es
      | _ => callFOf ev Γ x es)
    | .Name x _, [⟨k, .Lambda ps b sc _, _⟩] => sortKOf ev Γ x es k ps b sc
    | _, _ => fStuck)
  | .BinOp a op b _ => (match opLOf op with
    | some f => cBinF f (ev.E Γ a) (ev.E Γ b)
    | none => fStuck)
  | .Subscript o i _ => (match i with
    | .Slice lo hi none _ => cSlF (ev.E Γ o) (partOf ev Γ lo) (partOf ev Γ hi)
    | _ => fStuck)
  | _ => fStuck
def stepE (Γ : Ctx) : Expr → FE
  | .Constant c _ _ => (match constOf c with
    | some p => cK p
    | none => cStuck)
  | .Name x _ => (match seen Γ x with
    | some i => cVar i
    | none => if glob Γ x then (match Γ.consts.lookup x with
      | some p => cK p
      | none => if Γ.free.contains x then (match tyOf x with
        | some n => cK (.ty n)
        | none => cStuck) else cStuck) else cStuck)
  | .BinOp a op b _ => (match opOf op with
    | some f => cBin f (ev.E Γ a) (ev.E Γ b)
    | none => cStuck)
  | .Compare a ops bs _ => (match ops, bs with
    | [op], [b] => (match cmpOf op with
      | some f => if behindInMarks op b then cStuck else cBin (bl f) (ev.E Γ a) (ev.E Γ b)
      | none => cStuck)
    | [op, op'], [b, c] => (match cmpOf op, cmpOf op' with
      | some f, some f' => if lastMarks [op, op'] [b, c] then cStuck else asV (cChain f f' (ev.E Γ a) (ev.E Γ b) (ev.E Γ c))
      | _, _ => cStuck)
    | _, _ => cStuck)
  | .UnaryOp op a _ => (match op with
    | .USub => cUn pyNeg (ev.E Γ a)
    | .Not => cNotV (ev.E Γ a)
    | _ => cStuck)
  | .BoolOp op es pos => (match op, es with
    | _, [a] => ev.E Γ a
    | .And, a :: b :: rest => cAndV (ev.E Γ a) (ev.E Γ (.BoolOp .And (b :: rest) pos))
    | .Or, a :: b :: rest => cOrV (ev.E Γ a) (ev.E Γ (.BoolOp .Or (b :: rest) pos))
    | _, _ => cStuck)
  | .IfExp c a b _ => cIf (ev.T Γ c) (ev.E Γ a) (ev.E Γ b)
  | .Tuple es _ _ => if es.all notStar && decide (es.length ≤ sizeLine) then cTup (ev.A Γ es) else cTup (few (ev.A Γ es))
  | .List es pos => cFrz (stepF ev Γ (.List es pos))
  | .ListComp elt gens scope pos => cFrz (stepF ev Γ (.ListComp elt gens scope pos))
  | .DictComp kx vx gens scope _ => (match gens with
    | [⟨tg, iter, ifs, 0⟩] => cFrzN (dcOf ev Γ kx vx tg iter ifs scope)
    | _ => cStuck)
  | .Call f es kws cpos => (match f, kws with
    | .Name x _, [] => (match es with
      | [.Call (.Name y _) [e] [] _] => if y == "set" then cFrz (sortSetOf ev Γ x y e) else callOf ev Γ x es
      | _ => callOf ev Γ x es)
    | .Name x _, [⟨k, .Lambda ps b sc _, _⟩] => cFrz (sortKOf ev Γ x es k ps b sc)
    | .Attribute o name apos, [] => methE ev Γ o name apos cpos es
    | _, _ => cStuck)
  | .Subscript o i _ => (match i with
    | .Slice lo hi none _ => cSl (ev.E Γ o) (partOf ev Γ lo) (partOf ev Γ hi)
    | i => if notSlice i then cBin pyItem (ev.E Γ o) (ev.E Γ i) else cStuck)
  | _ => cStuck
def andOf (t : Expr → FT) : List Expr → FT
  | [] => tStuck
  | [a] => t a
  | a :: b :: rest => cAndT (t a) (andOf t (b :: rest))
def orOf (t : Expr → FT) : List Expr → FT
  | [] => tStuck
  | [a] => t a
  | a :: b :: rest => cOrT (t a) (orOf t (b :: rest))
def stepT (Γ : Ctx) : Expr → FT
  | .UnaryOp .Not a _ => cNotT (ev.T Γ a)
  | .BoolOp op es _ => (match op with
    | .And => andOf (ev.T Γ) es
    | .Or => orOf (ev.T Γ) es)
  | .Compare a ops bs _ => (match ops, bs with
    | [op], [b] => (match cmpOf op with
      | some f => if behindInMarks op b then tStuck else cCmp f (ev.E Γ a) (ev.E Γ b)
      | none => tStuck)
    | [op, op'], [b, c] => (match cmpOf op, cmpOf op' with
      | some f, some f' => if lastMarks [op, op'] [b, c] then tStuck else cChain f f' (ev.E Γ a) (ev.E Γ b) (ev.E Γ c)
      | _, _ => tStuck)
    | _, _ => tStuck)
  | e => if plainTest e then cTru (ev.E Γ e) else tStuck
def stepA (Γ : Ctx) : List Expr → FA
  | [] => cNil
  | .Starred e _ :: es => cSplice (ev.E Γ e) (ev.A Γ es)
  | e :: es => cCons (ev.E Γ e) (ev.A Γ es)
def isTup : Expr → Bool
  | .Tuple .. => true
  | _ => false
def stepI (Γ : Ctx) (tg : Expr) : Expr → FI
  | .Call (.Name x p) es [] pos =>
    if x == "range" then (if isFree Γ x && es.all notStar && (es.length == 1 || es.length == 2) then iCall rangeItems (ev.A Γ es) else iStuck)
    else if x == "zip" then (if isFree Γ x && es.all notStar && es.length == 2 && isTup tg then iVals zipItems (ev.A Γ es) else iStuck)
    else if x == "enumerate" then (if isFree Γ x && es.all notStar && es.length == 1 && isTup tg then iVals enumItems (ev.A Γ es) else iStuck)
    else iSeq (ev.E Γ (.Call (.Name x p) es [] pos))
  | e => iSeq (ev.E Γ e)
/-- an expression that makes a list -/
def isFresh : Expr → Bool
  | .List .. => true
  | .ListComp .. => true
  | .Call (.Name x _) _ [] _ => x == "list" || x == "sorted"
  | .Call (.Name x _) _ [_] _ => x == "sorted"
  | .BinOp _ op _ _ => (opLOf op).isSome
  | .Subscript _ (.Slice ..) _ => true
  | _ => false
def isNewList : Expr → Bool
  | .List .. => true
  | .ListComp .. => true
  | _ => false
/-- the targets of an assignment of a whole tuple -/
def sSetTup (is : List Nat) (e : FE) : FS := fun ρ G => ofR ρ (e ρ G) fun v G1 => match v with
  | .pv (.tup ps) => (match setAll is ps ρ with
    | some ρ' => .next ρ' G1
    | none => .stuck)
  | _ => .stuck
/-- one after another -/
def seqSet : List Nat → List Val → Fr → Fr
  | i :: is, v :: vs, ρ => seqSet is vs (ρ.set i (some v))
  | _, _, ρ => ρ
/-- a, b, .. = x, y, ..: stored from the right -/
def sParN (is : List Nat) (fs : FA) : FS := fun ρ G => ofR ρ (fs ρ G) fun vs G1 => if vs.length = is.length then .next (seqSet is.reverse vs.reverse ρ) G1 else .stuck
def swapNames (Γ : Ctx) (ts vs : List Expr) : Option (List Str) :=
  if (ts.length == 2 || ts.length == 3) && vs.length == ts.length && vs.all notStar && !(vs.all (foldedForSure 8)) && !(vs.all (constantsAlone 8)) then
    (if (ts.filterMap fun
        | .Name id pos => if Γ.sc.names.lookup id == some .local && pos.line == (ts.head?.map (·.pos.line)).getD 0 then some id else none
        | _ => none).length == ts.length && (ts.filterMap fun
        | .Name id pos => if Γ.sc.names.lookup id == some .local && pos.line == (ts.head?.map (·.pos.line)).getD 0 then some id else none
        | _ => none).eraseDups.length == (ts.filterMap fun
        | .Name id pos => if Γ.sc.names.lookup id == some .local && pos.line == (ts.head?.map (·.pos.line)).getD 0 then some id else none
        | _ => none).length then some (ts.filterMap fun
        | .Name id pos => if Γ.sc.names.lookup id == some .local && pos.line == (ts.head?.map (·.pos.line)).getD 0 then some id else none
        | _ => none) else none) else none
def notTuple : Expr → Bool
  | .Tuple .. => false
  | _ => true
/-- nothing is swapped -/
def noSwap (ts : List Expr) : Expr → Bool
  | .Tuple vs _ _ => !(ts.length == 2 || ts.length == 3) || (vs.length == ts.length && vs.all notStar && vs.all (foldedForSure 8))
  | _ => true
/-- the slots of names -/
def slots (Γ : Ctx) : List Str → Option (List Nat)
  | [] => some []
  | x :: xs => (match slot Γ.N x, slots Γ xs with
    | some i, some is => some (i :: is)
    | _, _ => none)
/-- what the model asks of a comprehension on the right: swapped in or not -/
def swapsΓ (Γ : Ctx) (t : Str) (tpos : Pos) (scope : Scope) (vpos : Pos) : Bool :=
  decide (kindOfΓ Γ t = some .local) && tpos.line == vpos.line && !(scope.names.any fun (n, k) => n == t && (k == .local || k == .cell))
def swapsOf (Γ : Ctx) (ts : List Expr) : Expr → Option (List Expr × List Nat)
  | .Tuple vs _ _ => (match swapNames Γ ts vs with
    | some xs => (slots Γ xs).map fun is => (vs, is)
    | none => none)
  | _ => none
def stepS (Γ : Ctx) : Stmt → FS
  | .Expr e _ => (match e with
    | .Constant (.str _) _ _ => sSkip
    | e => if notComp e then sExpr (ev.E Γ e) else sStuck)
  | .Pass _ => sSkip
  | .Break _ => sBreak
  | .Continue _ => sCont
  | .Return r _ => (match r with
    | none => sRetN
    | some e => if Γ.keep && isNewList e then sRetBox (ev.F Γ e) else sRet (ev.E Γ e))
  | .If c a b _ => sIf (ev.T Γ c) (ev.Ss Γ a) (ev.Ss Γ b)
  | .For tg e body orelse _ => (match orelse, tgtOf Γ tg with
    | [], some tgt => if notSet e then sFor (ev.I Γ tg e) tgt (ev.Ss Γ body) else sStuck
    | _, _ => sStuck)
  | .Assign tgs e _ => (match tgs with
    | [.Name x _] => (match put Γ x with
      | some i => (match e with
        | .ListComp elt gens scope _ => (match gens with
          | [⟨tg, iter, ifs, 0⟩] => if Γ.boxed.contains x then sSetBox i (lcOf ev Γ elt tg iter ifs scope) else sSet i (cFrz (lcOf ev Γ elt tg iter ifs scope))
          | _ => sStuck)
        | .DictComp kx vx gens scope _ => (match gens with
          | [⟨tg, iter, ifs, 0⟩] => if Γ.boxed.contains x then sSetBoxN i (dcOf ev Γ kx vx tg iter ifs scope) else sSet i (cFrzN (dcOf ev Γ kx vx tg iter ifs scope))
          | _ => sStuck)
        | e => if notComp e then (if isFresh e && Γ.boxed.contains x then sSetBox i (ev.F Γ e) else sSet i (ev.E Γ e)) else sStuck)
      | none => sStuck)
    | [.Tuple ts _ _] => (match swapsOf Γ ts e with
      | some (vs, is) => sParN is (ev.A Γ vs)
      | none => if noSwap ts e then (match putAll Γ ts with
        | some is => sSetTup is (ev.E Γ e)
        | none => sStuck) else sStuck)
    | [.Subscript o i _] => if notSlice i && notComp e then sPut (ev.E Γ o) (ev.E Γ i) (ev.E Γ e) else sStuck
    | _ => sStuck)
  | _ => sStuck
def stepSs (Γ : Ctx) : List Stmt → FS
  | [] => sSkip
  | s :: rest => sSeq (ev.S Γ s) (ev.Ss Γ rest)
def Evr.none : Evr where
  E := fun _ _ => cStuck
  F := fun _ _ => fStuck
  T := fun _ _ => tStuck
  A := fun _ es => match es with
    | [] => cNil
    | _ => aStuck
  I := fun _ _ _ => iStuck
  S := fun _ _ => sStuck
  Ss := fun _ _ => sStuck
def Evr.step : Evr where
  E := stepE ev
  F := stepF ev
  T := stepT ev
  A := stepA ev
  I := stepI ev
  S := stepS ev
  Ss := stepSs ev
def evr : Nat → Evr
  | 0 => Evr.none
  | n + 1 => (evr n).step
end Ev

end
section
set_option maxRecDepth 100000
set_option maxHeartbeats 4000000
/-! Ev P: the evaluator is sound -/
namespace Ev
open PySem PySem.Spec PyProof.Rows L2

structure FitsS (Γ : Ctx) (X : Cx) (R : RC) (W : WX) : Prop extends Fits Γ X R W where
  po : PassesOwn (model X.prog X.w) X.A X.env X.xe
structure Sound (ev : Evr) : Prop where
  E : ∀ {Γ : Ctx} {X : Cx} {R : RC} {W : WX} (e : Expr), Fits Γ X R W → PE X e (tE R W (ev.E Γ e))
  F : ∀ {Γ : Ctx} {X : Cx} {R : RC} {W : WX} (e : Expr), Fits Γ X R W → PE X e (tF R W (ev.F Γ e))
  T : ∀ {Γ : Ctx} {X : Cx} {R : RC} {W : WX} (e : Expr), Fits Γ X R W → PT X e (tT R W (ev.T Γ e))
  A : ∀ {Γ : Ctx} {X : Cx} {R : RC} {W : WX} (es : List Expr), Fits Γ X R W → PA X es (tA R W (ev.A Γ es))
  A0 : ∀ {Γ : Ctx}, ev.A Γ [] = cNil
  Al : ∀ {Γ : Ctx} {es : List Expr} {ρ : Fr} {G : Store} {vs : List Val} {G1 : Store}, es.all notStar = true → ev.A Γ es ρ G = .ok vs G1 → vs.length = es.length
  I : ∀ {Γ : Ctx} {X : Cx} {R : RC} {W : WX} (tg e : Expr), Fits Γ X R W → PI X tg e (tI R W (ev.I Γ tg e))
  S : ∀ {Γ : Ctx} {X : Cx} {R : RC} {W : WX} (s : Stmt), FitsS Γ X R W → PS X s (tS R W (ev.S Γ s))
  Ss : ∀ {Γ : Ctx} {X : Cx} {R : RC} {W : WX} (ss : List Stmt), FitsS Γ X R W → PSs X ss (tS R W (ev.Ss Γ ss))

section
variable {Γ : Ctx} {X : Cx} {R : RC} {W : WX}
theorem stE {e : Expr} : PE X e (tE R W cStuck) := ⟨fun pins s σ H Q I ⟨_, _, _, _, _, q⟩ => q.elim⟩
theorem stF {e : Expr} : PE X e (tF R W fStuck) := ⟨fun pins s σ H Q I ⟨_, _, _, _, _, q⟩ => q.elim⟩
theorem stT {e : Expr} : PT X e (tT R W tStuck) := ⟨fun pins s σ H Q I ⟨_, _, _, _, _, q⟩ => q.elim⟩
theorem stTs {e : List Expr} : PTs X e (tT R W tStuck) := ⟨fun pins s σ H Q I ⟨_, _, _, _, _, q⟩ => q.elim⟩
theorem stA {e : List Expr} : PA X e (tA R W aStuck) := ⟨fun pos pins s σ H Q I ⟨_, _, _, _, _, q⟩ => q.elim⟩
theorem stI {tg e : Expr} : PI X tg e (tI R W iStuck) := ⟨fun pins s σ H Q I ⟨_, _, _, _, _, q⟩ => q.elim⟩
theorem stS {e : Stmt} : PS X e (tS R W sStuck) := ⟨fun pins s σ H Q I ⟨_, _, _, _, _, q⟩ => q.elim⟩
theorem stSs {e : List Stmt} : PSs X e (tS R W sStuck) := ⟨fun pins s σ H Q I ⟨_, _, _, _, _, q⟩ => q.elim⟩
theorem sound_none : Sound Evr.none where
  E _ _ := stE
  F _ _ := stF
  T _ _ := stT
  A es _ := by
    cases es with
    | nil => exact sa_nil
    | cons _ _ => exact stA
  A0 := rfl
  Al := fun {Γ es ρ G vs G1} h e => by
    cases es with
    | nil => cases e; rfl
    | cons _ _ => cases e
  I _ _ _ := stI
  S _ _ := stS
  Ss _ _ := stSs

/-! ### names -/
theorem slot_ok : ∀ {N : List Str} {x : Str} {i : Nat}, slot N x = some i → N[i]? = some x
  | [], _, _, h => by cases h
  | y :: r, x, i, h => by
    unfold slot at h
    split at h
    · rename_i e
      cases h
      rw [eq_of_beq e]
      rfl
    · obtain ⟨j, e1, rfl⟩ := Option.map_eq_some_iff.mp h
      simpa using slot_ok e1
theorem okName_ok {x : Str} (h : okName x = true) : (x == ("__debug__" : Str)) = false ∧ (x == ("__classdict__" : Str)) = false ∧ x ≠ "__name__" := by
  unfold okName at h
  simp only [Bool.and_eq_true, Bool.not_eq_true'] at h
  exact ⟨h.1.1, h.1.2, by simpa using h.2⟩
theorem seen_ok (f : Fits Γ X R W) {x : Str} {i : Nat} (h : seen Γ x = some i) : X.N[i]? = some x ∧ Vis X.env.scope x ∧ okName x = true := by
  unfold seen at h
  split at h
  · rename_i e
    rw [Bool.and_eq_true] at e
    refine ⟨by rw [f.N]; exact slot_ok h, ?_, e.2⟩
    have e := e.1
    unfold kindOfΓ at e
    unfold Vis
    rw [f.sc]
    generalize Γ.sc.names.lookup x = o at e ⊢
    unfold visK at e
    split at e <;> first | exact .inl rfl | exact .inr (.inl rfl) | exact .inr (.inr rfl) | cases e
  · cases h
theorem put_ok (f : Fits Γ X R W) {x : Str} {i : Nat} (h : put Γ x = some i) : X.N[i]? = some x ∧ L2.Loc X.env.scope x ∧ (X.fn x = true ∨ X.env.scope.names.lookup x = some .local) := by
  unfold put at h
  split at h
  · rename_i e
    rw [Bool.and_eq_true, Bool.or_eq_true, Bool.and_eq_true] at e
    refine ⟨by rw [f.N]; exact slot_ok h, ?_, ?_⟩
    · unfold L2.Loc
      rw [f.sc]
      rcases e.1 with q | q
      · exact .inl (of_decide_eq_true q)
      · exact .inr (of_decide_eq_true q.1)
    · rcases e.1 with q | q
      · rw [f.sc]; exact .inr (of_decide_eq_true q)
      · exact .inl (f.fn x q.2)
  · cases h
theorem glob_ok (f : Fits Γ X R W) {x : Str} (h : glob Γ x = true) : Gl X x ∧ okName x = true := by
  unfold glob at h
  rw [Bool.and_eq_true] at h
  refine ⟨?_, h.2⟩
  show X.env.scope.names.lookup x = some .globalImplicit
  have e := h.1
  unfold kindOfΓ at e
  rw [f.sc]
  generalize Γ.sc.names.lookup x = o at e ⊢
  unfold globK at e
  split at e <;> first | rfl | cases e
theorem free_ok (f : Fits Γ X R W) {x : Str} (h : Γ.free.contains x = true) : X.mg x = none := f.free x (by simpa using h)
theorem isFree_ok (f : Fits Γ X R W) {x : Str} (h : isFree Γ x = true) : Gl X x ∧ X.mg x = none := by
  unfold isFree at h
  rw [Bool.and_eq_true] at h
  exact ⟨(glob_ok f h.1).1, free_ok f h.2⟩
theorem lookup_mem {β : Type} {l : List (Str × β)} {x : Str} {b : β} (h : l.lookup x = some b) : (x, b) ∈ l := by
  induction l with
  | nil => cases h
  | cons y r ih =>
    rw [List.lookup_cons] at h
    split at h
    · rename_i e
      cases h
      have := eq_of_beq e
      subst this
      exact List.mem_cons_self ..
    · exact List.mem_cons_of_mem _ (ih h)
theorem units (f : Fits Γ X R W) : X.A.units + 66 < cLine := by have := f.room.un; omega

/-! ### tables -/
theorem op_ok (f : Fits Γ X R W) {op : Operator} {g : PV → PV → Option PV} (h : opOf op = some g) : OpR X (binaryOp op) (rB R g) := by
  cases op <;> cases h
  · exact so_add f.K
  · exact so_sub
  · exact so_mul
  · exact so_mod
  · exact so_pow
  · exact so_shl
  · exact so_shr
  · exact so_or
  · exact so_and
  · exact so_fdiv
theorem opL_ok (f : Fits Γ X R W) {op : Operator} {g : PV → PV → Option (List PV)} (h : opLOf op = some g) : OpR X (binaryOp op) (rBF R g) := by
  cases op <;> cases h
  · exact so_addF
  · exact so_mulF
theorem cmp_ok (f : Fits Γ X R W) {op : CmpOp} {g : PV → PV → Option Bool} (h : cmpOf op = some g) : OpR X (compareOp op) (rB R (bl g)) := by
  have u := units f
  cases op <;> cases h
  · exact so_eq f.K (by omega)
  · exact so_ne f.K (by omega)
  · exact so_lt f.K (by omega)
  · exact so_le
  · exact so_gt
  · exact so_ge
  · exact so_is
  · exact so_in2 f.K f.w (by omega)
  · exact so_notIn2 f.K f.w (by omega)
theorem beq_str {x : Str} {y : Str} (h : (x == y) = true) : x = y := eq_of_beq h
theorem bltOf_ok (f : Fits Γ X R W) {x : Str} {g : List PV → Option PV} {e : Expr} {es : List Expr} {fs : FA} {p pos : Pos} (h : bltOf x = some g) (hg : glob Γ x = true) (hf : Γ.free.contains x = true) (ha : PA X (e :: es) (tA R W fs)) (hs : (e :: es).all notStar = true) :
    PE X (.Call (.Name x p) (e :: es) [] pos) (tE R W (cCall g fs)) := by
  obtain ⟨h1, h2⟩ := glob_ok f hg
  have hm := free_ok f hf
  obtain ⟨d1, _, d3⟩ := okName_ok h2
  unfold bltOf at h
  split at h; · rename_i q; cases h; cases beq_str q; exact se_callB (id := "len") (sb_len f.K) h1 hm (by decide +kernel) ha hs d3 d1
  split at h; · rename_i q; cases h; cases beq_str q; exact se_callTy (sb_tuple f.K) h1 hm (by decide +kernel) ha hs d3 d1
  split at h; · rename_i q; cases h; cases beq_str q; exact se_callTy sb_int h1 hm (by decide +kernel) ha hs d3 d1
  split at h; · rename_i q; cases h; cases beq_str q; exact se_callB (id := "abs") sb_abs h1 hm (by decide +kernel) ha hs d3 d1
  split at h; · rename_i q; cases h; cases beq_str q; exact se_callB (id := "max") (sb_max f.calm) h1 hm (by decide +kernel) ha hs d3 d1
  split at h; · rename_i q; cases h; cases beq_str q; exact se_callB (id := "min") (sb_min f.calm) h1 hm (by decide +kernel) ha hs d3 d1
  split at h; · rename_i q; cases h; cases beq_str q; exact se_callB (id := "all") (sb_all f.calm) h1 hm (by decide +kernel) ha hs d3 d1
  split at h; · rename_i q; cases h; cases beq_str q; exact se_callB (id := "any") (sb_any f.calm) h1 hm (by decide +kernel) ha hs d3 d1
  split at h; · rename_i q; cases h; cases beq_str q; exact se_callB (id := "sum") (sb_sum f.calm) h1 hm (by decide +kernel) ha hs d3 d1
  split at h; · rename_i q; cases h; cases beq_str q; exact se_callB (id := "isinstance") (sb_isi f.K) h1 hm (by decide +kernel) ha hs d3 d1
  split at h; · rename_i q; cases h; cases beq_str q; exact se_callB (id := "repr") (sb_show f.K f.gd (units f)) h1 hm (by decide +kernel) ha hs d3 d1
  cases h
theorem bltFOf_ok (f : Fits Γ X R W) {x : Str} {g : List PV → Option (List PV)} {e : Expr} {es : List Expr} {fs : FA} {p pos : Pos} (h : bltFOf x = some g) (hg : glob Γ x = true) (hf : Γ.free.contains x = true) (ha : PA X (e :: es) (tA R W fs)) (hs : (e :: es).all notStar = true) :
    PE X (.Call (.Name x p) (e :: es) [] pos) (tF R W (cCallF g fs)) := by
  obtain ⟨h1, h2⟩ := glob_ok f hg
  have hm := free_ok f hf
  obtain ⟨d1, _, d3⟩ := okName_ok h2
  have u := units f
  unfold bltFOf at h
  split at h; · rename_i q; cases h; cases beq_str q; exact sf_callTy (sb_list2 f.K f.w f.calm) h1 hm (by decide +kernel) ha hs d3 d1
  split at h; · rename_i q; cases h; cases beq_str q; exact sf_callB (sb_sorted f.K (by omega)) h1 hm (by decide +kernel) ha hs d3 d1
  cases h
theorem meth_ok {x : Str} {o : Expr} {app : Bool} {m : List PV → List PV → Option (PV × List PV)} {es : List Expr} {fo : FE} {fs : FA} {apos cpos : Pos} (h : methOf x es.length = some (app, m)) (ho : PE X o (tE R W fo)) (ha : PA X es (tA R W fs)) (h0 : es = [] → fs = cNil)
    (hb : noCall o = true) (hs : es.all notStar = true) (hn : es.length < 30) (hline : (apos.endLine == cpos.line) = true) : PE X (.Call (.Attribute o x apos) es [] cpos) (tE R W (cMeth app m fo fs)) := by
  have one : ∀ {id : String} {k : Nat}, es.length = k + 1 → Slot "list" x id → typeOf (.builtin id) = pure (.type "method_descriptor") → MtR X id (rM R app m) → PE X (.Call (.Attribute o x apos) es [] cpos) (tE R W (cMeth app m fo fs)) := fun {id k} hk sl ty hm => by
    cases es with
    | nil => cases hk
    | cons e es => exact se_meth sl ty hm ho ha hb hs hn hline
  have zero : ∀ {id : String}, es.length = 0 → Slot "list" x id → typeOf (.builtin id) = pure (.type "method_descriptor") → MtR X id (rM R app m) → PE X (.Call (.Attribute o x apos) es [] cpos) (tE R W (cMeth app m fo fs)) := fun {id} hk sl ty hm => by
    cases es with
    | nil => rw [h0 rfl]; exact se_meth0 sl ty hm ho hb hline
    | cons e es => cases hk
  unfold methOf at h
  split at h; · rename_i q; rw [Bool.and_eq_true] at q; cases h; cases beq_str q.1; exact one (eq_of_beq q.2) F.slot_list_append F.type_list_append sm_append
  split at h; · rename_i q; rw [Bool.and_eq_true] at q; cases h; cases beq_str q.1; exact one (eq_of_beq q.2) F.slot_list_insert F.type_list_insert sm_insert
  split at h; · rename_i q; rw [Bool.and_eq_true] at q; cases h; cases beq_str q.1; exact one (eq_of_beq q.2) F.slot_list_extend F.type_list_extend sm_extend
  split at h; · rename_i q; rw [Bool.and_eq_true] at q; cases h; cases beq_str q.1; exact one (eq_of_beq q.2) F.slot_list_pop F.type_list_pop sm_pop
  split at h; · rename_i q; rw [Bool.and_eq_true] at q; cases h; cases beq_str q.1; exact zero (eq_of_beq q.2) F.slot_list_pop F.type_list_pop sm_pop0
  split at h; · rename_i q; rw [Bool.and_eq_true] at q; cases h; cases beq_str q.1; exact zero (eq_of_beq q.2) F.slot_list_clear F.type_list_clear sm_clear
  cases h

/-! ### targets -/
theorem each_name {x : Str} {p : Pos} {es : List Expr} {env : Env} : assignEach (.Name x p :: es) env = (false, assign (.Name x p) env) :: assignEach es env := rfl
theorem putAll_ok (f : Fits Γ X R W) : ∀ {es : List Expr} {is : List Nat}, putAll Γ es = some is → PGs X es (gNames is) ∧ (assignEach es X.env).length = is.length ∧ (assignEach es X.env).findIdx? (·.1) = none
  | [], is, h => by cases h; exact ⟨pgs_nil, rfl, rfl⟩
  | e :: es, is, h => by
    cases e <;> first | (simp [putAll] at h; done) | skip
    rename_i x p
    simp only [putAll] at h
    split at h
    · rename_i i js e1 e2
      cases h
      obtain ⟨h1, h2, h3⟩ := putAll_ok f e2
      obtain ⟨k1, k2, k3⟩ := put_ok f e1
      refine ⟨pgs_cons (pg_name f.nd k1 k2 k3) h1 (by rw [each_name] <;> rfl), by rw [each_name, List.length_cons, List.length_cons, h2], ?_⟩
      rw [each_name, List.findIdx?_cons, h3]
      rfl
    · cases h
theorem tgt_ok (f : Fits Γ X R W) {tg : Expr} {tgt : Tgt} (h : tgtOf Γ tg = some tgt) : PG X tg (gOf X.K tgt) := by
  cases tg <;> first | (cases h; done) | skip
  · rename_i x p
    simp only [tgtOf] at h
    obtain ⟨i, e1, rfl⟩ := Option.map_eq_some_iff.mp h
    obtain ⟨k1, k2, k3⟩ := put_ok f e1
    exact pg_name f.nd k1 k2 k3
  · rename_i es k p
    simp only [tgtOf] at h
    obtain ⟨is, e1, rfl⟩ := Option.map_eq_some_iff.mp h
    obtain ⟨h1, h2, h3⟩ := putAll_ok f e1
    exact pg_tup f.calm h1 h2 h3

/-! ### blocks -/
theorem ownOf_ix {N : List Str} : ∀ {l : List (Str × NameKind)}, ∀ p ∈ ownOf N l, N[p.2]? = some p.1
  | [], p, h => by cases h
  | (y, k) :: r, p, h => by
    unfold ownOf at h
    split at h
    · split at h
      · rename_i i e
        rcases List.mem_cons.mp h with q | q
        · rw [q]; exact slot_ok e
        · exact ownOf_ix p q
      · exact ownOf_ix p h
    · exact ownOf_ix p h
theorem slot_none : ∀ {N : List Str} {x : Str}, slot N x = none → x ∉ N
  | [], _, _ => by simp
  | y :: r, x, h => by
    unfold slot at h
    split at h
    · cases h
    · rename_i e
      have e2 : slot r x = none := by
        cases q : slot r x with
        | none => rfl
        | some i => rw [q] at h; cases h
      simp only [List.mem_cons, not_or]
      exact ⟨fun z => e (by rw [z]; exact beq_self_eq_true _), slot_none e2⟩
theorem ownOf_mem {N : List Str} : ∀ {l : List (Str × NameKind)} {y : Str × NameKind}, y ∈ l → locK (some y.2) = true → (slot N y.1).isSome = true → y.1 ∈ (ownOf N l).map (·.1)
  | (z, k) :: r, y, h, hk, hs => by
    unfold ownOf
    rcases List.mem_cons.mp h with q | q
    · subst q
      rw [if_pos hk]
      cases e : slot N z with
      | none => rw [e] at hs; cases hs
      | some i => simp
    · have ih := ownOf_mem q hk hs
      split
      · split
        · exact List.mem_cons_of_mem _ ih
        · exact ih
      · exact ih
theorem blk_ok {scope : Scope} (f : Fits Γ X R W) (h : blkOk Γ.N Γ.sc scope = true) : BlkOk X.N X.env.scope scope (ownOf Γ.N scope.names) := by
  unfold blkOk at h
  rw [Bool.and_eq_true, List.all_eq_true] at h
  obtain ⟨h1, h2⟩ := h
  have key : ∀ y ∈ scope.names, scope.names.lookup y.1 = some y.2 ∧ (y.2 = .free → Γ.sc.names.lookup y.1 = some .cell ∨ Γ.sc.names.lookup y.1 = some .free) := fun y hy => by
    have q := h2 y hy
    rw [Bool.and_eq_true] at q
    refine ⟨?_, fun e => ?_⟩
    · have q := q.1
      cases e : scope.names.lookup y.1 with
      | none => rw [e] at q; cases q
      | some k => rw [e] at q; rw [of_decide_eq_true q]
    · have q := q.2
      rw [e] at q
      simp only [Bool.or_eq_true, Bool.and_eq_true] at q
      rcases q with (q | q) | q
      · simp at q
      · have q1 := q.1
        have q2 := q.2
        generalize Γ.sc.names.lookup y.1 = o at q1 q2 ⊢
        unfold locK at q1
        split at q1 <;> first | exact .inl rfl | (simp at q2; done) | cases q1
      · exact .inr (of_decide_eq_true q)
  refine ⟨?_, fun y hy => (key y hy).1, fun p hp => by rw [f.N]; exact ownOf_ix p hp, fun y hy e => by rw [f.sc]; exact (key y hy).2 e, fun y hy e => ?_⟩
  · generalize scope.kind = k at h1 ⊢
    split at h1 <;> first | rfl | cases h1
  · have hl : locK (some y.2) = true := by rcases e with e | e <;> rw [e] <;> rfl
    cases q : slot Γ.N y.1 with
    | none => exact .inr (by rw [f.N]; exact slot_none q)
    | some i => exact .inl (ownOf_mem hy hl (by rw [q]; rfl))
theorem fits_blk (f : Fits Γ X R W) {scope : Scope} (hk : scope.kind = .function) (s : Shared) (H : Hp) (C : Addr) (cl : List (Str × Addr)) (fp : List Addr) : Fits (Γ.blk scope) (X.blk s H scope (compEnvC scope cl C X.env) fp) R W0 where
  K := f.K
  w := f.w
  N := f.N
  nd := f.nd
  sc := by
    show relS scope X.env.scope = relS scope Γ.sc
    rw [f.sc]
  kind := hk
  fn := fun x h => h
  calm := f.calm
  room := f.room
  gd := f.gd
  tk := fun u s' ⟨_, _, _, _, _, _, _, _, _, _, _, _, _, _, _, _, w⟩ => w.elim
  fns := f.fns
  consts := f.consts
  free := f.free
  lam := fun h => nomatch h
theorem notSet_ok {e : Expr} {env : Env} (h : notSet e = true) : ∀ x, foldedSetIterable e env x = pure x := fun x => by
  cases e <;> first | rfl | exact absurd h (by simp [notSet])
theorem notComp_swaps {e : Expr} {t : Option Expr} {l : Nat} {env : Env} (h : notComp e = true) : swapsWith e t l env = pure false := by
  cases e <;> first | rfl | exact absurd h (by simp [notComp])
end
end Ev

end
section
set_option maxRecDepth 100000
set_option maxHeartbeats 4000000
/-! Ev T: assignments of tuples -/
namespace Ev
open PySem PySem.Spec PyProof.Rows L2

section
variable {Γ : Ctx} {X : Cx} {R : RC} {W : WX} {ms ms' : List Addr} {H H' : Hp} {G G' : Store} {ρ : Fr} {σ : L2.St}
theorem block_fn (f : Fits Γ X R W) : X.env.blockKind = .function := by
  unfold Env.blockKind
  rw [f.kind]
  rfl
theorem any_star {vs : List Expr} (h : vs.all notStar = true) : (vs.any fun | .Starred .. => true | _ => false) = false := by
  rw [List.any_eq_false]
  rw [List.all_eq_true] at h
  intro e he
  have := h e he
  cases e <;> simp_all [notStar]
theorem swap_ok (f : Fits Γ X R W) {ts vs : List Expr} {xs : List Str} {k k2 : Nat} {p p2 : Pos} (h : swapNames Γ ts vs = some xs) : swappedStores [.Tuple ts k p] (.Tuple vs k2 p2) X.env = pure (some xs) := by
  unfold swapNames at h
  rw [← f.sc] at h
  split at h
  · rename_i h0
    split at h
    · rename_i h1
      cases h
      simp only [Bool.and_eq_true, Bool.not_eq_true'] at h0
      rw [Bool.and_eq_true] at h1
      have hb : (X.env.blockKind != ScopeKind.function) = false := by rw [block_fn f]; rfl
      unfold swappedStores
      have a1 : (!(ts.length == 2 || ts.length == 3)) = false := by rw [h0.1.1.1.1]; rfl
      have a2 : (vs.length != ts.length) = false := by
        have := eq_of_beq h0.1.1.1.2
        simp [this]
      have a3 := any_star h0.1.1.2
      have b1 := eq_of_beq h1.1
      have b2 := eq_of_beq h1.2
      have no : ∀ {b : Bool}, b = false → b = true → False := fun e q => Bool.noConfusion (q.symm.trans e)
      refine (if_neg (fun q => ?_)).trans ?_
      · rw [a1, a2, hb] at q
        cases q
      refine (if_neg (fun q => no a3 q)).trans ?_
      refine (if_neg (fun q => ?_)).trans ?_
      · rcases Bool.or_eq_true_iff.mp q with q | q
        · exact bne_iff_ne.mp q b1
        · exact bne_iff_ne.mp q b2
      refine (if_neg (fun q => no h0.1.2 q)).trans ?_
      exact (if_neg (fun q => no h0.2 q)).trans rfl
    · cases h
  · cases h
theorem noSwap_ok (f : Fits Γ X R W) {ts : List Expr} {e : Expr} {k : Nat} {p : Pos} (h : noSwap ts e = true) : swappedStores [.Tuple ts k p] e X.env = pure none := by
  cases e <;> first | rfl | skip
  rename_i vs k2 p2
  simp only [noSwap, Bool.or_eq_true, Bool.and_eq_true] at h
  unfold swappedStores
  by_cases h2 : (!(ts.length == 2 || ts.length == 3) || vs.length != ts.length || X.env.blockKind != .function) = true
  · exact if_pos h2
  refine (if_neg h2).trans ?_
  rcases h with h | ⟨⟨h3, h4⟩, h5⟩
  · rw [h, Bool.true_or, Bool.true_or] at h2
    exact absurd rfl h2
  · refine (if_neg (fun q => Bool.noConfusion (q.symm.trans (any_star h4)))).trans ?_
    rw [h5]
    exact ite_self _
theorem solo_tup {ts : List Expr} {e : Expr} {k l : Nat} {p : Pos} {env : Env} : swapsWithSole [.Tuple ts k p] e l env = pure false := by
  cases e <;> rfl
/-- the stores, one after another -/
theorem seq_ok (f : Fits Γ X R W) {Fl : Type} {Q : Unit → Shared → Prop} {E : Value → Shared → Prop} {pins : List (Addr × Obj)} : ∀ {xs : List Str} {is : List Nat} {vs : List V} {us : List Value} {ws : List Val} {σ : L2.St} {ρ : Fr} {H : Hp} {ms : List Addr} {s : Shared},
    (∀ x ∈ xs, X.env.scope.names.lookup x = some .local) → xs.length = is.length → (∀ p ∈ xs.zip is, X.N[p.2]? = some p.1) → Vals vs us → RepVs R ms H ws vs → ws.length = is.length → Inv X pins σ H s → RepS R ms H ρ σ →
    (∀ s' σ', Inv X pins σ' H s' → RepS R ms H (seqSet is ws ρ) σ' → Q () s') → wpAny (model X.prog X.w) X.A (assignInOrder (xs.map fun x => fun v => bindName X.env x v) us) Q E s
  | [], [], vs, us, ws, σ, ρ, H, ms, s, _, _, _, rv, rw', hl, I, sr, q => by
    cases rw' with
    | nil => cases rv; exact assignInOrder_nil (q s σ I sr)
    | cons _ _ => cases hl
  | [], _ :: _, _, _, _, _, _, _, _, _, _, e, _, _, _, _, _, _, _ => by cases e
  | _ :: _, [], _, _, _, _, _, _, _, _, _, e, _, _, _, _, _, _, _ => by cases e
  | x :: xs, i :: is, vs, us, ws, σ, ρ, H, ms, s, hk, e, hi, rv, rw', hl, I, sr, q => by
    cases rw' with
    | nil => cases hl
    | cons r1 r2 =>
      cases rv with
      | cons v1 v2 =>
        have kx := hk x (List.mem_cons_self ..)
        refine assignInOrder_cons (wpAny_bindName (store_ok I f.nd (hi (x, i) (List.mem_cons_self ..)) (.inl kx) v1 (fun s2 I2 => ?_) (.inr kx)))
        exact seq_ok f (Fl := Fl) (fun y hy => hk y (List.mem_cons_of_mem _ hy)) (by simpa using e) (fun p hp => hi p (List.mem_cons_of_mem _ hp)) v2 r2 (by simpa using hl) I2 (sr.set r1) q
theorem RepVs.reverse {vs : List Val} {xs : List V} (h : RepVs R ms H vs xs) : RepVs R ms H vs.reverse xs.reverse := by
  induction h with
  | nil => exact .nil
  | cons h t ih => rw [List.reverse_cons, List.reverse_cons]; exact ih.append (.cons h .nil)
theorem swap_names (f : Fits Γ X R W) {ts vs : List Expr} {xs : List Str} (h : swapNames Γ ts vs = some xs) : ∀ x ∈ xs, X.env.scope.names.lookup x = some .local := by
  unfold swapNames at h
  split at h
  · split at h
    · cases h
      intro x hx
      obtain ⟨e, he, e2⟩ := List.mem_filterMap.mp hx
      split at e2
      · split at e2
        · rename_i q
          cases e2
          rw [Bool.and_eq_true] at q
          rw [f.sc]
          exact eq_of_beq q.1
        · cases e2
      · cases e2
    · cases h
  · cases h
theorem slots_ok (f : Fits Γ X R W) : ∀ {xs : List Str} {is : List Nat}, slots Γ xs = some is → xs.length = is.length ∧ ∀ p ∈ xs.zip is, X.N[p.2]? = some p.1
  | [], is, h => by cases h; exact ⟨rfl, fun p hp => by cases hp⟩
  | x :: xs, is, h => by
    simp only [slots] at h
    split at h
    · rename_i i js e1 e2
      cases h
      obtain ⟨h1, h2⟩ := slots_ok f e2
      refine ⟨by simp [h1], fun p hp => ?_⟩
      rcases List.mem_cons.mp (show p ∈ (x, i) :: xs.zip js from hp) with q | q
      · rw [q, f.N]; exact slot_ok e1
      · exact h2 p q
    · cases h
theorem zip_rev {α β : Type} : ∀ {xs : List α} {ys : List β}, xs.length = ys.length → (xs.zip ys).reverse = xs.reverse.zip ys.reverse
  | [], [], _ => rfl
  | x :: xs, y :: ys, h => by
    simp only [List.length_cons, Nat.add_right_cancel_iff] at h
    rw [List.zip_cons_cons, List.reverse_cons, List.reverse_cons, List.reverse_cons, zip_rev h, List.zip_append (by simp [h])]
    rfl
  | [], _ :: _, h => by cases h
  | _ :: _, [], h => by cases h
theorem ss_par {fs : FA} {ts vs : List Expr} {xs : List Str} {is : List Nat} {k k2 : Nat} {p p2 pos : Pos} (f : Fits Γ X R W) (ha : PA X vs (tA R W fs)) (hw : swapNames Γ ts vs = some xs) (hi : slots Γ xs = some is) :
    PS X (.Assign [.Tuple ts k p] (.Tuple vs k2 p2) pos) (tS R W (sParN is fs)) := by
  refine ⟨fun pins s σ H D I ⟨ms, ρ, G, g, sl, q⟩ => ?_⟩
  obtain ⟨h1, h2⟩ := slots_ok f hi
  have hn := swap_names f hw
  rw [exec_Assign_arm]
  refine wpAny_bind (wpAny_standAt ?_)
  rw [solo_tup]
  refine wpAny_bind (wpAny_pure ?_)
  rw [if_neg (by decide)]
  unfold sParN at q
  have go : tA R W fs σ H (fun ys H1 => ∃ ms1 vs1 G1, RepG R ms1 H1 G1 ∧ RepS R ms1 H1 ρ σ ∧ RepVs R ms1 H1 vs1 ys ∧ vs1.length = is.length ∧ PostS R W ms1 H1 D (.next (seqSet is.reverse vs1.reverse ρ) G1) ∧ ys.length ≤ sizeLine) := by
    refine ⟨ms, ρ, G, g, sl, ?_⟩
    cases e : fs ρ G with
    | stuck => rw [e] at q; exact q
    | exc ex G1 => rw [e] at q; exact fun ms1 c d H1 st1 g1 r => q ms1 c d σ H1 st1 g1 (sl.step g st1) r
    | ok ws G1 =>
      rw [e] at q
      have q : PostS R W ms H D (if ws.length = is.length then .next (seqSet is.reverse ws.reverse ρ) G1 else .stuck) := q
      split at q
      · rename_i hl
        refine fun ms1 ys H1 st1 g1 r => ⟨ms1, ws, G1, g1, sl.step g st1, r, hl, PostS.on q st1, ?_⟩
        rw [← r.length, hl, ← h1]
        unfold swapNames at hw
        split at hw
        · split at hw
          · cases hw
            refine Nat.le_trans (List.length_filterMap_le _ _) ?_
            rename_i h0 _
            simp only [Bool.and_eq_true, Bool.or_eq_true, beq_iff_eq] at h0
            have := h0.1.1.1.1
            rw [sizeLine_eq]
            omega
          · cases hw
        · cases hw
      · exact q.elim
  refine wpAny_bind (Tuple_ (thn (ha.run _ pins s σ H _ I go) fun us s1 ⟨ys, H1, I1, r1, ms1, ws, G1, g1, sl1, rv1, hl, q1, hz⟩ => ?_))
  refine wpAny_newObj_type ?_ (by show us.length ≤ sizeLine; rw [← r1.length]; exact hz)
  have I2 : Inv X pins σ H1 { s1 with heap := s1.heap.push { cls := .type "tuple", data := .seq us.toArray } } := I1.kept (t' := s1.toks) fun b o e => Heap.get?_push_of_some _ e
  rw [swap_ok f hw]
  refine wpAny_bind (wpAny_pure ?_)
  have hus : us.toArray.size = xs.length := by
    rw [List.size_toArray, ← r1.length, ← rv1.length, hl, h1]
  show wpAny (model X.prog X.w) X.A (do rule "assign.swapped-stores"; let items ← unpackItems (.ref s1.heap.objs.size) xs.length none; assignInOrder (xs.reverse.map fun n => fun v => bindName X.env n v) items.reverse; pure Flow.next) _ _ _
  rw [← hus]
  refine wpAny_bind (wpAny_rule (wpAny_bind (unpackItems_tuple (items := us.toArray) (I.ok.hd f.calm) (IsTup.new s1.heap _) fun h' hx' => ?_)))
  have I3 := I2.kept (h' := h') (t' := s1.toks) fun b o e => hx' b o (Nat.ne_of_lt (Heap.lt_size e)) e
  refine wpAny_bind (seq_ok f (Fl := Unit) (is := is.reverse) (vs := ys.reverse) (ws := ws.reverse) (σ := σ) (ρ := ρ) (fun x hx => hn x (List.mem_reverse.mp hx)) (by simp [h1]) (fun p hp => ?_) ?_ rv1.reverse (by simp [hl]) I3 sl1 fun s' σ' I4 sl4 => ?_)
  · exact h2 p (List.mem_reverse.mp (by rw [zip_rev h1]; exact hp))
  · have := r1.reverse
    simpa using this
  · exact wpAny_pure ⟨σ', H1, I4, q1 ms1 σ' H1 (Step.refl _ _) g1 sl4⟩
/-- the whole tuple taken apart -/
theorem ss_setTup {is : List Nat} {fe : FE} {ts : List Expr} {e : Expr} {k : Nat} {p pos : Pos} (f : Fits Γ X R W) (he : PE X e (tE R W fe)) (ht : tgtOf Γ (.Tuple ts k p) = some (.tup is)) (hw : noSwap ts e = true) : PS X (.Assign [.Tuple ts k p] e pos) (tS R W (sSetTup is fe)) :=
  PS.to (ps_asg he (tgt_ok f ht) solo_tup (noSwap_ok f hw)) fun D σ H ⟨ms, ρ, G, g, s, q⟩ => tE_stmt g s (k := fun v G1 => match v with
    | .pv (.tup ps) => (match setAll is ps ρ with
      | some ρ' => .next ρ' G1
      | none => .stuck)
    | _ => .stuck) q fun v G1 e1 q1 ms1 x H1 st1 g1 s1 r1 => by
      split at q1
      · rename_i ps
        split at q1
        · rename_i ρ' e2
          exact gOf_ok (tgt := .tup is) (p := .tup ps) f.K (show bindTgt (.tup is) (.tup ps) ρ = some ρ' from e2) s1 r1 fun σ' s' _ _ => q1 ms1 σ' H1 st1 g1 s'
        · exact q1.elim
      · exact q1.elim
end
end Ev

end
section
set_option maxRecDepth 100000
set_option maxHeartbeats 4000000
/-! Ev Q: each step of the evaluator is sound -/
namespace Ev
open PySem PySem.Spec PyProof.Rows L2
section
variable {Γ : Ctx} {X : Cx} {R : RC} {W : WX} {ev : Evr}
theorem tests_ok (sd : Sound ev) (f : Fits Γ X R W) (es : List Expr) : PTs X es (tT R W (testsOf ev Γ es)) := by
  match es with
  | [] => exact ⟨fun pins s σ H Q I ⟨ms, ρ, G, g, sl, q⟩ => pts_nil.run pins s σ H Q I (q ms H (Step.refl ms H) g)⟩
  | [c] => exact pts_one (sd.T c f)
  | _ :: _ :: _ => exact stTs
/-- the pieces of a list comprehension stand -/
structure LcOk (X : Cx) (R : RC) (W : WX) (elt tg iter : Expr) (ifs : List Expr) (scope : Scope) (fi : FI) (own : List (Str × Nat)) (tgt : Tgt) (ft : FT) (fe : FE) : Prop where
  hi : PI X tg iter (tI R W fi)
  ok : BlkOk X.N X.env.scope scope own
  hsl : ∀ k ∈ tgt.slots, k ∈ own.map (·.2)
  hg : ∀ (s : Shared) (H : Hp) (C : Addr) (cl : List (Str × Addr)) (fp : List Addr), PG (X.blk s H scope (compEnvC scope cl C X.env) fp) tg (gOf X.K tgt)
  ht : ∀ (s : Shared) (H : Hp) (C : Addr) (cl : List (Str × Addr)) (fp : List Addr), PTs (X.blk s H scope (compEnvC scope cl C X.env) fp) ifs (tT R W0 ft)
  he : ∀ (s : Shared) (H : Hp) (C : Addr) (cl : List (Str × Addr)) (fp : List Addr), PE (X.blk s H scope (compEnvC scope cl C X.env) fp) elt (tE R W0 fe)
  hs : ∀ x, foldedSetIterable iter X.env x = pure x
theorem lcOf_cases (sd : Sound ev) (f : Fits Γ X R W) (elt tg iter : Expr) (ifs : List Expr) (scope : Scope) : lcOf ev Γ elt tg iter ifs scope = fStuck ∨
    ∃ own tgt ft fe, lcOf ev Γ elt tg iter ifs scope = cLc (ev.I Γ tg iter) (own.map (·.2)) tgt ft fe ∧ LcOk X R W elt tg iter ifs scope (ev.I Γ tg iter) own tgt ft fe := by
  unfold lcOf
  split
  · rename_i h
    rw [Bool.and_eq_true] at h
    have ok := blk_ok f h.1
    split
    · rename_i tgt et
      split
      · rename_i hsl
        refine .inr ⟨_, _, _, _, rfl, sd.I tg iter f, ok, fun k hk => ?_, fun s H C cl fp => tgt_ok (fits_blk f ok.kind s H C cl fp) et, fun s H C cl fp => tests_ok sd (fits_blk f ok.kind s H C cl fp) ifs,
          fun s H C cl fp => sd.E elt (fits_blk f ok.kind s H C cl fp), notSet_ok h.2⟩
        rw [List.all_eq_true] at hsl
        have q := hsl k hk
        rw [List.any_eq_true] at q
        obtain ⟨p, hp, e⟩ := q
        exact List.mem_map.mpr ⟨p, hp, eq_of_beq e⟩
      · exact .inl rfl
    · exact .inl rfl
  · exact .inl rfl
theorem lcOf_ok (sd : Sound ev) (f : Fits Γ X R W) {elt tg iter : Expr} {ifs : List Expr} {scope : Scope} {pos : Pos} : PE X (.ListComp elt [⟨tg, iter, ifs, 0⟩] scope pos) (tF R W (lcOf ev Γ elt tg iter ifs scope)) := by
  rcases lcOf_cases sd f elt tg iter ifs scope with e | ⟨own, tgt, ft, fe, e, l⟩
  · rw [e]; exact stF
  · rw [e]; exact sf_lc f.K f.calm f.nd l.hi l.ok l.hsl l.hg l.ht l.he l.hs
/-- the pieces of a dict comprehension stand -/
structure DcOk (X : Cx) (R : RC) (W : WX) (kx vx tg iter : Expr) (ifs : List Expr) (scope : Scope) (fi : FI) (own : List (Str × Nat)) (tgt : Tgt) (ft : FT) (fk fe : FE) : Prop where
  hi : PI X tg iter (tI R W fi)
  ok : BlkOk X.N X.env.scope scope own
  hsl : ∀ k ∈ tgt.slots, k ∈ own.map (·.2)
  hg : ∀ (s : Shared) (H : Hp) (C : Addr) (cl : List (Str × Addr)) (fp : List Addr), PG (X.blk s H scope (compEnvC scope cl C X.env) fp) tg (gOf X.K tgt)
  ht : ∀ (s : Shared) (H : Hp) (C : Addr) (cl : List (Str × Addr)) (fp : List Addr), PTs (X.blk s H scope (compEnvC scope cl C X.env) fp) ifs (tT R W0 ft)
  hk : ∀ (s : Shared) (H : Hp) (C : Addr) (cl : List (Str × Addr)) (fp : List Addr), PE (X.blk s H scope (compEnvC scope cl C X.env) fp) kx (tE R W0 fk)
  he : ∀ (s : Shared) (H : Hp) (C : Addr) (cl : List (Str × Addr)) (fp : List Addr), PE (X.blk s H scope (compEnvC scope cl C X.env) fp) vx (tE R W0 fe)
  hst : ∀ (s : Shared) (H : Hp) (C : Addr) (cl : List (Str × Addr)) (fp : List Addr), DStoreOk (X.blk s H scope (compEnvC scope cl C X.env) fp) (StD R)
  hs : ∀ x, foldedSetIterable iter X.env x = pure x
theorem dcOf_cases (sd : Sound ev) (f : Fits Γ X R W) (kx vx tg iter : Expr) (ifs : List Expr) (scope : Scope) : dcOf ev Γ kx vx tg iter ifs scope = nStuck ∨
    ∃ own tgt ft fk fe, dcOf ev Γ kx vx tg iter ifs scope = cDc (ev.I Γ tg iter) (own.map (·.2)) tgt ft fk fe ∧ DcOk X R W kx vx tg iter ifs scope (ev.I Γ tg iter) own tgt ft fk fe := by
  unfold dcOf
  split
  · rename_i h
    rw [Bool.and_eq_true] at h
    have ok := blk_ok f h.1
    have u := units f
    split
    · rename_i tgt et
      split
      · rename_i hsl
        refine .inr ⟨_, _, _, _, _, rfl, sd.I tg iter f, ok, fun k hk => ?_, fun s H C cl fp => tgt_ok (fits_blk f ok.kind s H C cl fp) et, fun s H C cl fp => tests_ok sd (fits_blk f ok.kind s H C cl fp) ifs,
          fun s H C cl fp => sd.E kx (fits_blk f ok.kind s H C cl fp), fun s H C cl fp => sd.E vx (fits_blk f ok.kind s H C cl fp),
          fun s H C cl fp => stD_ok (X := X.blk s H scope (compEnvC scope cl C X.env) fp) f.K f.w (show X.A.units + 16 < cLine by omega), notSet_ok h.2⟩
        rw [List.all_eq_true] at hsl
        have q := hsl k hk
        rw [List.any_eq_true] at q
        obtain ⟨p, hp, e⟩ := q
        exact List.mem_map.mpr ⟨p, hp, eq_of_beq e⟩
      · exact .inl rfl
    · exact .inl rfl
  · exact .inl rfl
theorem stN {e : Expr} : PE X e (tN R W nStuck) := ⟨fun pins s σ H Q I ⟨_, _, _, _, _, q⟩ => q.elim⟩
theorem dcOf_ok (sd : Sound ev) (f : Fits Γ X R W) {kx vx tg iter : Expr} {ifs : List Expr} {scope : Scope} {pos : Pos} : PE X (.DictComp kx vx [⟨tg, iter, ifs, 0⟩] scope pos) (tN R W (dcOf ev Γ kx vx tg iter ifs scope)) := by
  rcases dcOf_cases sd f kx vx tg iter ifs scope with e | ⟨own, tgt, ft, fk, fe, e, l⟩
  · rw [e]; exact stN
  · rw [e]; exact PE.to (pe_dcG f.calm f.nd l.hi l.ok l.hg l.ht l.hk l.he l.hst l.hs) fun σ H Q h => tDc_of f.K l.hsl h
theorem part_ok (sd : Sound ev) (f : Fits Γ X R W) (e : Option Expr) : PO X e (tO R W (partOf ev Γ e)) := by
  cases e with
  | none => exact so_none
  | some e => exact so_some (sd.E e f)
theorem call_ok (sd : Sound ev) (f : Fits Γ X R W) {x : Str} {p pos : Pos} {es : List Expr} : PE X (.Call (.Name x p) es [] pos) (tE R W (callOf ev Γ x es)) := by
  unfold callOf
  split
  · rename_i h
    rw [Bool.and_eq_true] at h
    obtain ⟨h1, h2⟩ := glob_ok f h.1
    obtain ⟨d1, _, d3⟩ := okName_ok h2
    split
    · rename_i n run e
      split
      · rename_i hn
        exact se_own f.K f.tk (f.fns _ (lookup_mem e)) f.room f.gd h1 (sd.A es f) h.2 (fun ρ G vs G1 ea => (sd.Al h.2 ea).trans (eq_of_beq hn)) d1 (fun z => by rw [z]; exact sd.A0)
      · exact stE
    · split
      · rename_i hf
        rw [Bool.and_eq_true] at hf
        cases es with
        | nil => simp at hf
        | cons a es =>
          split
          · rename_i g eg
            exact bltOf_ok f eg h.1 hf.1 (sd.A _ f) h.2
          · split
            · rename_i g eg
              exact se_frz (bltFOf_ok f eg h.1 hf.1 (sd.A _ f) h.2)
            · exact stE
      · exact stE
  · exact stE
theorem callF_ok (sd : Sound ev) (f : Fits Γ X R W) {x : Str} {p pos : Pos} {es : List Expr} : PE X (.Call (.Name x p) es [] pos) (tF R W (callFOf ev Γ x es)) := by
  unfold callFOf
  split
  · rename_i h
    simp only [Bool.and_eq_true] at h
    cases es with
    | nil => simp at h
    | cons a es =>
      split
      · rename_i g eg
        exact bltFOf_ok f eg h.1.1.1 h.1.2 (sd.A _ f) h.1.1.2
      · exact stF
  · exact stF
theorem sortK_ok (sd : Sound ev) (f : Fits Γ X R W) {x : Str} {p pos lpos kpos : Pos} {es : List Expr} {k : Option Str} {ps : Arguments} {b : Expr} {sc : Scope} : PE X (.Call (.Name x p) es [⟨k, .Lambda ps b sc lpos, kpos⟩] pos) (tF R W (sortKOf ev Γ x es k ps b sc)) := by
  unfold sortKOf
  split
  · rename_i e
    split
    · rename_i h
      simp only [Bool.and_eq_true] at h
      obtain ⟨h1, h2, h3, h4, h5, h6, h7⟩ := h
      cases beq_str h1
      cases (eq_of_beq h2 : k = some "key")
      unfold isFree at h4
      rw [Bool.and_eq_true] at h4
      obtain ⟨g1, _⟩ := glob_ok f h4.1
      obtain ⟨c, P, l1, l2, l3, l4⟩ := f.lam h3
      exact sf_sortK f.K f.calm (by have := f.room.un; omega) f.room.depth g1 (free_ok f h4.2) (free_ok f h5) (sd.A [e] f) h6 l1 l2 l3 l4 h7
    · exact stF
  · exact stF
theorem sortSet_ok (sd : Sound ev) (f : Fits Γ X R W) {x y : Str} {p p2 pos pos2 : Pos} {e : Expr} : PE X (.Call (.Name x p) [.Call (.Name y p2) [e] [] pos2] [] pos) (tF R W (sortSetOf ev Γ x y e)) := by
  unfold sortSetOf
  split
  · rename_i h
    simp only [Bool.and_eq_true] at h
    obtain ⟨h1, h2, h3, h4, h5⟩ := h
    cases beq_str h1
    cases beq_str h2
    unfold isFree at h3 h4
    rw [Bool.and_eq_true] at h3 h4
    exact sf_sortSet f.K f.calm (by have := f.room.un; omega) (glob_ok f h3.1).1 (free_ok f h3.2) (glob_ok f h4.1).1 (free_ok f h4.2) (sd.A [e] f) h5
  · exact stF
theorem methE_ok (sd : Sound ev) (f : Fits Γ X R W) {o : Expr} {name : Str} {apos cpos : Pos} {es : List Expr} : PE X (.Call (.Attribute o name apos) es [] cpos) (tE R W (methE ev Γ o name apos cpos es)) := by
  unfold methE
  split
  · rename_i h
    simp only [Bool.and_eq_true] at h
    split
    · rename_i app m e
      exact meth_ok e (sd.E o f) (sd.A es f) (fun z => by rw [z]; exact sd.A0) h.1.1.1 h.1.1.2 (of_decide_eq_true h.1.2) h.2
    · exact stE
  · exact stE
theorem stepF_ok (sd : Sound ev) (f : Fits Γ X R W) (e : Expr) : PE X e (tF R W (stepF ev Γ e)) := by
  cases e <;> first | exact stF | skip
  · -- BinOp
    rename_i a op b pos
    simp only [stepF]
    split
    · rename_i g eg
      exact sf_bin (opL_ok f eg) (sd.E a f) (sd.E b f)
    · exact stF
  · -- ListComp
    rename_i elt gens scope pos
    simp only [stepF]
    split
    · exact lcOf_ok sd f
    · exact stF
  · -- Call
    rename_i g es kws pos
    simp only [stepF]
    split
    · split
      · split
        · exact sortSet_ok sd f
        · exact callF_ok sd f
      · exact callF_ok sd f
    · exact sortK_ok sd f
    · exact stF
  · -- Subscript
    rename_i o i pos
    simp only [stepF]
    split
    · exact sf_sl f.K (sd.E o f) (part_ok sd f _) (part_ok sd f _)
    · exact stF
  · -- List
    rename_i es pos
    simp only [stepF]
    split
    · rename_i h
      rw [Bool.and_eq_true] at h
      exact sf_lst (sd.A es f) (of_decide_eq_true h.2) fun ρ G vs G1 ea => sd.Al h.1 ea
    · exact sf_lstS (sd.A es f)
theorem const_ok {c : Const} {p : PV} {k : Nat} {pos : Pos} (h : constOf c = some p) : PE X (.Constant c k pos) (tE R W (cK p)) := by
  cases c <;> cases h
  · exact se_k pe_non fun ms H => by simp only [RepP]
  · exact se_k pe_bl fun ms H => by simp only [RepP]
  · exact se_k pe_int fun ms H => by simp only [RepP]
  · exact se_k pe_str fun ms H => by simp only [RepP]
theorem name_ok (f : Fits Γ X R W) {x : Str} {pos : Pos} : PE X (.Name x pos) (tE R W (stepE ev Γ (.Name x pos))) := by
  simp only [stepE]
  split
  · rename_i i e
    obtain ⟨h1, h2, h3⟩ := seen_ok f e
    obtain ⟨d1, d2, d3⟩ := okName_ok h3
    exact se_var (pe_var h1 h2 d1 d2)
  · split
    · rename_i hg
      obtain ⟨h1, h2⟩ := glob_ok f hg
      obtain ⟨d1, d2, d3⟩ := okName_ok h2
      split
      · rename_i p e
        obtain ⟨u, v, m1, m2, m3⟩ := f.consts _ (lookup_mem e)
        exact se_k (pe_glob h1 m1 m2 d1) m3
      · split
        · rename_i hf
          split
          · rename_i n e
            unfold tyOf at e
            split at e
            · rename_i m eb
              cases e
              exact se_k (pe_bltn (v := .ty n) h1 (free_ok f hf) eb rfl d3 d1) fun ms H => by simp only [RepP]
            · cases e
          · exact stE
        · exact stE
    · exact stE
theorem stepE_ok (sd : Sound ev) (f : Fits Γ X R W) (e : Expr) : PE X e (tE R W (stepE ev Γ e)) := by
  cases e <;> first | exact stE | skip
  · -- BoolOp
    rename_i op es pos
    simp only [stepE]
    split
    · exact pe_one (sd.E _ f)
    · exact se_and (sd.E _ f) (sd.E _ f)
    · exact se_or (sd.E _ f) (sd.E _ f)
    · exact stE
  · rename_i a op b pos
    simp only [stepE]
    split
    · rename_i g eg
      exact se_bin (op_ok f eg) (sd.E a f) (sd.E b f)
    · exact stE
  · rename_i op a pos
    simp only [stepE]
    split
    · exact se_un su_neg (sd.E a f)
    · exact se_not (sd.E a f)
    · exact stE
  · rename_i c a b pos
    exact se_if (sd.T c f) (sd.E a f) (sd.E b f)
  · exact se_frz (stepF_ok sd f _)
  · rename_i kx vx gens scope pos
    simp only [stepE]
    split
    · exact se_frzN (dcOf_ok sd f)
    · exact stE
  · rename_i a ops bs pos
    simp only [stepE]
    split
    · split
      · rename_i g eg
        split
        · exact stE
        · rename_i hb
          exact se_cmp (cmp_ok f eg) (sd.E _ f) (sd.E _ f) (by simpa using hb)
      · exact stE
    · split
      · rename_i g g' eg eg'
        split
        · exact stE
        · rename_i hb
          exact se_chain (cmp_ok f eg) (cmp_ok f eg') (sd.E _ f) (sd.E _ f) (sd.E _ f) (by simpa using hb)
      · exact stE
    · exact stE
  · rename_i g es kws pos
    simp only [stepE]
    split
    · split
      · split
        · exact se_frz (sortSet_ok sd f)
        · exact call_ok sd f
      · exact call_ok sd f
    · exact se_frz (sortK_ok sd f)
    · exact methE_ok sd f
    · exact stE
  · rename_i c k pos
    simp only [stepE]
    split
    · rename_i p e
      exact const_ok e
    · exact stE
  · rename_i o i pos
    simp only [stepE]
    split
    · exact se_sl f.K (sd.E o f) (part_ok sd f _) (part_ok sd f _)
    · split
      · rename_i h
        exact se_ix f.K (sd.E o f) (sd.E _ f) h
      · exact stE
  · exact name_ok f
  · exact se_frz (stepF_ok sd f _)
  · rename_i es k pos
    simp only [stepE]
    split
    · rename_i h
      rw [Bool.and_eq_true] at h
      exact se_tup (sd.A es f) (of_decide_eq_true h.2) fun ρ G vs G1 ea => sd.Al h.1 ea
    · exact se_tupS (sd.A es f)
theorem stW {e : Expr} : PW X e (tT R W tStuck) := ⟨fun wh pins s σ H Q I ⟨_, _, _, _, _, q⟩ => q.elim⟩
theorem andOf_ok (sd : Sound ev) (f : Fits Γ X R W) {pos : Pos} : ∀ es : List Expr, PW X (.BoolOp .And es pos) (tT R W (andOf (ev.T Γ) es))
  | [] => stW
  | [a] => sw_and1 (sd.T a f)
  | a :: b :: rest => sw_and (sd.T a f) (andOf_ok sd f (b :: rest))
theorem orOf_ok (sd : Sound ev) (f : Fits Γ X R W) {pos : Pos} : ∀ es : List Expr, PW X (.BoolOp .Or es pos) (tT R W (orOf (ev.T Γ) es))
  | [] => stW
  | [a] => sw_or1 (sd.T a f)
  | a :: b :: rest => sw_or (sd.T a f) (orOf_ok sd f (b :: rest))
theorem stepT_ok (sd : Sound ev) (f : Fits Γ X R W) (e : Expr) : PT X e (tT R W (stepT ev Γ e)) := by
  have plain : ∀ e, stepT ev Γ e = (if plainTest e then cTru (ev.E Γ e) else tStuck) → PT X e (tT R W (stepT ev Γ e)) := fun e h => by
    rw [h]
    split
    · rename_i hp
      exact st_tru (sd.E e f) f.K hp
    · exact stT
  cases e <;> first | exact plain _ rfl | skip
  · rename_i op es pos
    cases op with
    | And => exact (andOf_ok sd f es).pt
    | Or => exact (orOf_ok sd f es).pt
  · rename_i op a pos
    cases op <;> first | exact plain _ rfl | exact st_not (sd.T a f)
  · rename_i a ops bs pos
    simp only [stepT]
    split
    · split
      · rename_i g eg
        split
        · exact stT
        · rename_i hb
          exact st_cmp (cmp_ok f eg) (sd.E _ f) (sd.E _ f) (by simpa using hb)
      · exact stT
    · split
      · rename_i g g' eg eg'
        split
        · exact stT
        · rename_i hb
          exact st_chain (cmp_ok f eg) (cmp_ok f eg') (sd.E _ f) (sd.E _ f) (sd.E _ f) (by simpa using hb)
      · exact stT
    · exact stT
theorem stepA_ok (sd : Sound ev) (f : Fits Γ X R W) (es : List Expr) : PA X es (tA R W (stepA ev Γ es)) := by
  cases es with
  | nil => exact sa_nil
  | cons e es =>
    cases e <;> first | exact sa_cons (sd.E _ f) (sd.A es f) rfl | exact sa_star f.K (sd.E _ f) (sd.A es f)
theorem cons_len {fa : FE} {fs : FA} {ρ : Fr} {G G1 : Store} {vs : List Val} {n : Nat} (h : cCons fa fs ρ G = .ok vs G1) (hl : ∀ G vs G1, fs ρ G = .ok vs G1 → vs.length = n) : vs.length = n + 1 := by
  unfold cCons at h
  cases e1 : fa ρ G with
  | stuck => rw [e1] at h; cases h
  | exc e G2 => rw [e1] at h; cases h
  | ok v G2 =>
    rw [e1] at h
    have h : (fs ρ G2).bind (fun vs G2 => .ok (v :: vs) G2) = .ok vs G1 := h
    cases e2 : fs ρ G2 with
    | stuck => rw [e2] at h; cases h
    | exc e G3 => rw [e2] at h; cases h
    | ok us G3 =>
      rw [e2] at h
      cases h
      rw [List.length_cons, hl _ _ _ e2]
theorem stepA_len (sd : Sound ev) {es : List Expr} {ρ : Fr} {G : Store} {vs : List Val} {G1 : Store} (hs : es.all notStar = true) (h : stepA ev Γ es ρ G = .ok vs G1) : vs.length = es.length := by
  cases es with
  | nil => cases h; rfl
  | cons e es =>
    simp only [List.all_cons, Bool.and_eq_true] at hs
    cases e <;> first | exact cons_len h fun _ _ _ ea => sd.Al hs.2 ea | exact absurd hs.1 (by simp [notStar])
theorem isTup_ok {tg : Expr} (h : isTup tg = true) : ∃ es k p, tg = .Tuple es k p := by
  cases tg <;> first | exact ⟨_, _, _, rfl⟩ | exact absurd h (by simp [isTup])
theorem stepI_ok (sd : Sound ev) (f : Fits Γ X R W) (tg e : Expr) : PI X tg e (tI R W (stepI ev Γ tg e)) := by
  have plain : ∀ e, stepI ev Γ tg e = iSeq (ev.E Γ e) → PI X tg e (tI R W (stepI ev Γ tg e)) := fun e h => by
    rw [h]
    exact si_seq f.K (sd.E e f)
  cases e <;> first | exact plain _ rfl | skip
  rename_i g es kws pos
  cases g <;> first | exact plain _ rfl | skip
  rename_i x p
  cases kws with
  | cons _ _ => exact plain _ rfl
  | nil =>
    simp only [stepI]
    split
    · rename_i q
      cases beq_str q
      split
      · rename_i h
        simp only [Bool.and_eq_true, Bool.or_eq_true] at h
        obtain ⟨h1, h2⟩ := isFree_ok f h.1.1
        exact si_range h1 h2 (sd.A es f) h.1.2 (h.2.imp eq_of_beq eq_of_beq) fun ρ G vs G1 ea => sd.Al h.1.2 ea
      · exact stI
    · split
      · rename_i q
        cases beq_str q
        split
        · rename_i h
          simp only [Bool.and_eq_true] at h
          obtain ⟨h1, h2⟩ := isFree_ok f h.1.1.1
          obtain ⟨ts, k, tp, rfl⟩ := isTup_ok h.2
          have hl := eq_of_beq h.1.2
          match es, hl with
          | [a, b], _ => exact si_zip f.K h1 h2 (sd.A _ f) h.1.1.2
        · exact stI
      · split
        · rename_i q
          cases beq_str q
          split
          · rename_i h
            simp only [Bool.and_eq_true] at h
            obtain ⟨h1, h2⟩ := isFree_ok f h.1.1.1
            obtain ⟨ts, k, tp, rfl⟩ := isTup_ok h.2
            have hl := eq_of_beq h.1.2
            match es, hl with
            | [a], _ => exact si_enum f.K h1 h2 (sd.A _ f) h.1.1.2
          · exact stI
        · exact si_seq f.K (sd.E _ f)
/-! ### statements -/
theorem put_local (f : Fits Γ X R W) {x : Str} (h : kindOfΓ Γ x = some .local) : X.env.scope.names.lookup x = some .local := by rw [f.sc]; exact h
theorem swaps_lc (f : Fits Γ X R W) {x : Str} {p pos : Pos} {elt : Expr} {gens : List Comprehension} {scope : Scope} {l : Nat} :
    swapsWith (.ListComp elt gens scope pos) (some (.Name x p)) l X.env = pure (swapsΓ Γ x p scope pos) := by
  unfold swapsΓ kindOfΓ
  show (pure (X.env.blockKind == .function && X.env.kindOf x == some .local && p.line == pos.line && !(scope.names.any fun (n, k) => n == x && (k == .local || k == .cell))) : Sem Bool) = _
  rw [block_fn f]
  have e : X.env.kindOf x = Γ.sc.names.lookup x := by rw [← f.sc]; rfl
  rw [e]
  have e2 : (Γ.sc.names.lookup x == some NameKind.local) = decide (Γ.sc.names.lookup x = some .local) := by
    by_cases q : Γ.sc.names.lookup x = some .local
    · rw [q]; rfl
    · rw [decide_eq_false q]
      exact beq_eq_false_iff_ne.mpr q
  rw [e2]
  rfl
theorem setLc_ok (sd : Sound ev) (f : FitsS Γ X R W) {x : Str} {i : Nat} (hp : put Γ x = some i) {p pos spos : Pos} {elt tg iter : Expr} {ifs : List Expr} {scope : Scope} (b : Bool) :
    PS X (.Assign [.Name x p] (.ListComp elt [⟨tg, iter, ifs, 0⟩] scope pos) spos) (tS R W (if b = true then sSetBox i (lcOf ev Γ elt tg iter ifs scope) else sSet i (cFrz (lcOf ev Γ elt tg iter ifs scope)))) := by
  obtain ⟨k1, k2, k3⟩ := put_ok f.toFits hp
  cases hs : swapsΓ Γ x p scope pos with
  | false =>
    have hsw : swapsWith (.ListComp elt [⟨tg, iter, ifs, 0⟩] scope pos) (some (.Name x p)) spos.line X.env = pure false := by rw [swaps_lc f.toFits, hs]
    cases b with
    | true => exact ss_setBox f.nd k1 k2 (lcOf_ok sd f.toFits) hsw k3
    | false => exact ss_set f.nd k1 k2 (se_frz (lcOf_ok sd f.toFits)) hsw k3
  | true =>
    have hsw : swapsWith (.ListComp elt [⟨tg, iter, ifs, 0⟩] scope pos) (some (.Name x p)) spos.line X.env = pure true := by rw [swaps_lc f.toFits, hs]
    have hl : kindOfΓ Γ x = some .local := by
      unfold swapsΓ at hs
      simp only [Bool.and_eq_true] at hs
      exact of_decide_eq_true hs.1.1
    rcases lcOf_cases sd f.toFits elt tg iter ifs scope with e | ⟨own, tgt, ft, fe, e, l⟩
    · rw [e]
      cases b with
      | true => exact ⟨fun pins s σ H D I ⟨_, _, _, _, _, q⟩ => q.elim⟩
      | false => exact ⟨fun pins s σ H D I ⟨_, _, _, _, _, q⟩ => q.elim⟩
    · rw [e]
      cases b with
      | true => exact ss_setLcBox f.K f.calm f.nd k1 (put_local f.toFits hl) hsw l.hi l.ok l.hsl l.hg l.ht l.he l.hs
      | false => exact ss_setLc f.K f.calm f.nd k1 (put_local f.toFits hl) hsw l.hi l.ok l.hsl l.hg l.ht l.he l.hs
theorem swaps_dc (f : Fits Γ X R W) {x : Str} {p pos : Pos} {kx vx : Expr} {gens : List Comprehension} {scope : Scope} {l : Nat} :
    swapsWith (.DictComp kx vx gens scope pos) (some (.Name x p)) l X.env = pure (swapsΓ Γ x p scope pos) :=
  (show swapsWith (.DictComp kx vx gens scope pos) (some (.Name x p)) l X.env = swapsWith (.ListComp kx gens scope pos) (some (.Name x p)) l X.env from rfl).trans (swaps_lc f)
theorem setDc_ok (sd : Sound ev) (f : FitsS Γ X R W) {x : Str} {i : Nat} (hp : put Γ x = some i) {p pos spos : Pos} {kx vx tg iter : Expr} {ifs : List Expr} {scope : Scope} (b : Bool) :
    PS X (.Assign [.Name x p] (.DictComp kx vx [⟨tg, iter, ifs, 0⟩] scope pos) spos) (tS R W (if b = true then sSetBoxN i (dcOf ev Γ kx vx tg iter ifs scope) else sSet i (cFrzN (dcOf ev Γ kx vx tg iter ifs scope)))) := by
  obtain ⟨k1, k2, k3⟩ := put_ok f.toFits hp
  -- from a new object to the name
  have box : ∀ {fn : FN} {D : Ends} {σ : L2.St} {H : Hp}, tS R W (if b = true then sSetBoxN i fn else sSet i (cFrzN fn)) D σ H → tN R W fn σ H (fun x H1 => gName i x σ H1 D.nx) := fun {fn D σ H} ⟨ms, ρ, G, g, s, q⟩ => by
    cases b with
    | true => exact tN_stmt g s (k := fun o G1 => .next (ρ.set i (some (.box G1.length))) (G1 ++ [o])) q fun o G1 e1 q1 ms1 p H1 st1 g1 s1 l => q1 (ms1 ++ [p]) _ H1 st1 g1 (s1.set (rep_boxN g1))
    | false => exact tN_frz (tE_stmt g s (k := fun v G1 => .next (ρ.set i (some v)) G1) q fun v G1 e1 q1 ms1 x H1 st1 g1 s1 r1 => q1 ms1 _ H1 st1 g1 (s1.set r1))
  cases hs : swapsΓ Γ x p scope pos with
  | false =>
    have hsw : swapsWith (.DictComp kx vx [⟨tg, iter, ifs, 0⟩] scope pos) (some (.Name x p)) spos.line X.env = pure false := by rw [swaps_dc f.toFits, hs]
    exact PS.to (ps_set f.nd k1 k2 (dcOf_ok sd f.toFits) hsw k3) fun D σ H h => box h
  | true =>
    have hsw : swapsWith (.DictComp kx vx [⟨tg, iter, ifs, 0⟩] scope pos) (some (.Name x p)) spos.line X.env = pure true := by rw [swaps_dc f.toFits, hs]
    have hl : kindOfΓ Γ x = some .local := by
      unfold swapsΓ at hs
      simp only [Bool.and_eq_true] at hs
      exact of_decide_eq_true hs.1.1
    rcases dcOf_cases sd f.toFits kx vx tg iter ifs scope with e | ⟨own, tgt, ft, fk, fe, e, l⟩
    · rw [e]
      cases b with
      | true => exact ⟨fun pins s σ H D I ⟨_, _, _, _, _, q⟩ => q.elim⟩
      | false => exact ⟨fun pins s σ H D I ⟨_, _, _, _, _, q⟩ => q.elim⟩
    · rw [e]
      exact PS.to (ps_setDcG f.calm f.nd l.hi l.ok l.hg l.ht l.hk l.he l.hst l.hs k1 (put_local f.toFits hl) hsw) fun D σ H h => tDc_of f.K l.hsl (box h)
theorem swaps_sub {o i e : Expr} {p : Pos} {l : Nat} {env : Env} : swapsWithSole [.Subscript o i p] e l env = pure false := by
  cases e <;> rfl
theorem stores_sub {o i e : Expr} {p : Pos} {env : Env} : swappedStores [.Subscript o i p] e env = pure none := by
  cases e <;> rfl
theorem stepS_ok (sd : Sound ev) (f : FitsS Γ X R W) (s : Stmt) : PS X s (tS R W (stepS ev Γ s)) := by
  cases s <;> first | exact stS | exact ss_pass | exact ss_break | exact ss_cont | skip
  · rename_i r pos
    simp only [stepS]
    split
    · exact ss_retN
    · split
      · exact ss_retBox (sd.F _ f.toFits)
      · exact ss_ret (sd.E _ f.toFits)
  · rename_i tgs e pos
    simp only [stepS]
    split
    · rename_i x p
      split
      · rename_i i hp
        obtain ⟨k1, k2, k3⟩ := put_ok f.toFits hp
        split
        · split
          · exact setLc_ok sd f hp _
          · exact stS
        · split
          · exact setDc_ok sd f hp _
          · exact stS
        · split
          · rename_i hc
            split
            · exact ss_setBox f.nd k1 k2 (sd.F _ f.toFits) (notComp_swaps hc) k3
            · exact ss_set f.nd k1 k2 (sd.E _ f.toFits) (notComp_swaps hc) k3
          · exact stS
      · exact stS
    · rename_i ts k p
      split
      · rename_i vs is e1
        unfold swapsOf at e1
        split at e1
        · split at e1
          · rename_i xs e2
            obtain ⟨js, e3, e4⟩ := Option.map_eq_some_iff.mp e1
            cases e4
            exact ss_par f.toFits (sd.A _ f.toFits) e2 e3
          · cases e1
        · cases e1
      · split
        · rename_i hn
          split
          · rename_i is e1
            exact ss_setTup f.toFits (sd.E _ f.toFits) (by simp only [tgtOf, e1, Option.map_some]) hn
          · exact stS
        · exact stS
    · rename_i o i p
      split
      · rename_i h
        rw [Bool.and_eq_true] at h
        exact ss_put h.1 (sd.E _ f.toFits) (sd.E _ f.toFits) (sd.E _ f.toFits) swaps_sub stores_sub
      · exact stS
    · exact stS
  · rename_i tg e body orelse pos
    simp only [stepS]
    split
    · rename_i tgt et
      split
      · rename_i h
        exact ss_for f.K f.po f.calm (sd.I tg e f.toFits) (tgt_ok f.toFits et) (sd.Ss body f) (notSet_ok h)
      · exact stS
    · exact stS
  · rename_i c a b pos
    exact ss_if (sd.T c f.toFits) (sd.Ss a f) (sd.Ss b f)
  · rename_i e pos
    simp only [stepS]
    split
    · exact ss_doc
    · split
      · rename_i h
        exact ss_expr (sd.E _ f.toFits) (notComp_swaps h)
      · exact stS
theorem stepSs_ok (sd : Sound ev) (f : FitsS Γ X R W) (ss : List Stmt) : PSs X ss (tS R W (stepSs ev Γ ss)) := by
  cases ss with
  | nil => exact ss_nil
  | cons s r => exact ss_cons (sd.S s f) (sd.Ss r f)
end
theorem sound_step {ev : Evr} (sd : Sound ev) : Sound ev.step where
  E e f := stepE_ok sd f e
  F e f := stepF_ok sd f e
  T e f := stepT_ok sd f e
  A es f := stepA_ok sd f es
  A0 := rfl
  Al h e := stepA_len sd h e
  I tg e f := stepI_ok sd f tg e
  S s f := stepS_ok sd f s
  Ss ss f := stepSs_ok sd f ss
theorem sound : ∀ n, Sound (evr n)
  | 0 => sound_none
  | n + 1 => sound_step (sound n)
end Ev

end
section
set_option maxRecDepth 100000
set_option maxHeartbeats 4000000
/-! Ev R: the head's facts for the evaluator; a def; the law -/
namespace Ev
open PySem PySem.Spec PyProof.Rows L2

/-! ### constants of the module -/
mutual
/-- the value u of the written part is p -/
def holdsP (K : PySem.W.Frag) : PV → Value → Bool
  | .non, u => (match u with
    | .none => true
    | _ => false)
  | .bl b, u => (match u with
    | .bool c => c == b
    | _ => false)
  | .int i, u => (match u with
    | .int j _ => decide (j = i)
    | _ => false)
  | .str s, u => (match u with
    | .str z _ => decide (z = s)
    | _ => false)
  | .tup ps, u => (match u with
    | .ref a => (match K.lookup a with
      | some ⟨.type n, _, .seq its _, _⟩ => decide (n = "tuple") && decide (its.size ≤ sizeLine) && holdsPs K ps its.toList
      | _ => false)
    | _ => false)
  | .ty n, u => (match u with
    | .type m => decide (m = n)
    | _ => false)
  | _, _ => false
def holdsPs (K : PySem.W.Frag) : List PV → List Value → Bool
  | [], us => us.isEmpty
  | p :: ps, us => (match us with
    | u :: r => holdsP K p u && holdsPs K ps r
    | [] => false)
end
mutual
theorem holdsP_ok {R : RC} : ∀ (p : PV) (u : Value), holdsP R.K p u = true → ∃ v, RelV v u ∧ ∀ ms H, RepP R ms H p v
  | .non, u, h => by
    cases u <;> first | (simp [holdsP] at h; done) | exact ⟨.non, rfl, fun ms H => by simp only [RepP]⟩
  | .bl b, u, h => by
    cases u <;> first | (simp [holdsP] at h; done) | skip
    simp only [holdsP] at h
    rw [eq_of_beq h]
    exact ⟨.bl b, rfl, fun ms H => by simp only [RepP]⟩
  | .int i, u, h => by
    cases u <;> first | (simp [holdsP] at h; done) | skip
    simp only [holdsP] at h
    rw [of_decide_eq_true h]
    exact ⟨.int i, ⟨_, rfl⟩, fun ms H => by simp only [RepP]⟩
  | .str s, u, h => by
    cases u <;> first | (simp [holdsP] at h; done) | skip
    simp only [holdsP] at h
    rw [of_decide_eq_true h]
    exact ⟨.str s, ⟨_, rfl⟩, fun ms H => by simp only [RepP]⟩
  | .tup ps, u, h => by
    cases u <;> first | (simp [holdsP] at h; done) | skip
    rename_i a
    simp only [holdsP] at h
    split at h
    · rename_i n dd its m sl e
      rw [Bool.and_eq_true, Bool.and_eq_true] at h
      obtain ⟨xs, h1, h2⟩ := holdsPs_ok ps its.toList h.2
      refine ⟨.ref a, rfl, fun ms H => ?_⟩
      simp only [RepP]
      refine ⟨a, xs, rfl, .inr ⟨_, its, m, e, ?_, rfl, of_decide_eq_true h.1.2, h1⟩, h2 ms H⟩
      rw [of_decide_eq_true h.1.1]
    · cases h
  | .ty n, u, h => by
    cases u <;> first | (simp [holdsP] at h; done) | skip
    simp only [holdsP] at h
    rw [of_decide_eq_true h]
    exact ⟨.ty n, rfl, fun ms H => by simp only [RepP]⟩
  | .lst _, u, h => by simp [holdsP] at h
  | .scr _, u, h => by simp [holdsP] at h
  | .dct _ _, u, h => by simp [holdsP] at h
  | .st _, u, h => by simp [holdsP] at h
  | .ins _ _ _, u, h => by simp [holdsP] at h
  | .exc _ _ _, u, h => by simp [holdsP] at h
  | .cls _, u, h => by simp [holdsP] at h
  | .fn _, u, h => by simp [holdsP] at h
theorem holdsPs_ok {R : RC} : ∀ (ps : List PV) (us : List Value), holdsPs R.K ps us = true → ∃ xs, Vals xs us ∧ ∀ ms H, RepPs R ms H ps xs
  | [], us, h => by
    cases us with
    | nil => exact ⟨[], .nil, fun ms H => .nil⟩
    | cons _ _ => simp [holdsPs] at h
  | p :: ps, us, h => by
    cases us with
    | nil => simp [holdsPs] at h
    | cons u r =>
      simp only [holdsPs, Bool.and_eq_true] at h
      obtain ⟨v, h1, h2⟩ := holdsP_ok p u h.1
      obtain ⟨xs, h3, h4⟩ := holdsPs_ok ps r h.2
      exact ⟨v :: xs, .cons h1 h3, fun ms H => RepPs.cons (h2 ms H) (h4 ms H)⟩
end
/-! ### the head's hook -/
def constB (K : PySem.W.Frag) (e : Str × PV) : Bool := match PySem.W.nsIn K mainGlobals e.1 with
  | some (some u) => holdsP K e.2 u
  | _ => false
/-- a def that makes a lambda: where it stands, the lambda's qualified name -/
abbrev LamD : Type := He.Defn × Str
/-- different defs have different tables -/
def tabsApart (lams : List LamD) (K : PySem.W.Frag) : Bool := lams.all fun l => lams.all fun m => (l.2 == m.2) || !((He.cT K l.1).2 == (He.cT K m.1).2)
def faE (fr : List Str) (fn : List He.DefD) : List He.Fa := fr.map He.Fa.free ++ fn.map fun d => He.Fa.glo d.at_.1
def exE (cs : List (Str × PV)) (lams : List LamD) (K : PySem.W.Frag) : Bool := cs.all (fun e => constB K e) && tabsApart lams K
/-- the head's hook: names that are not the module's, constants, defs, tables -/
def hookE (n : Nat) (fr : List Str) (cs : List (Str × PV)) (fn : List He.DefD) (lams : List LamD) : PySem.W.Hook := He.hookX n (faE fr fn) fn [] (lams.map (·.1)) (exE cs lams)
def obsEG (n : Nat) (fr : List Str) (cs : List (Str × PV)) (fn : List He.DefD) (lams : List LamD) (g : Addr → Option Obj) : He.AlX := He.obsX n (faE fr fn) fn [] (lams.map (·.1)) (exE cs lams) g
theorem obsEG_eq {n : Nat} {fr : List Str} {cs : List (Str × PV)} {fn : List He.DefD} {lams : List LamD} {g : Addr → Option Obj} {s : Shared} (h : ∀ a, g a = s.heap.get? a) : obsEG n fr cs fn lams g = (hookE n fr cs fn lams).obs s := He.obsX_eq h
def SaysE (fr : List Str) (cs : List (Str × PV)) (fn : List He.DefD) (lams : List LamD) (w : World) (h : Heap) (K : PySem.W.Frag) : Prop := He.SaysX (faE fr fn) fn [] (lams.map (·.1)) (exE cs lams) w h K
/-- the tables of code objects -/
def tabT (lams : List LamD) (K : PySem.W.Frag) : List (Addr × Str) := lams.map fun l => ((He.cT K l.1).2, l.2)
section
variable {fr : List Str} {cs : List (Str × PV)} {fn : List He.DefD} {lams : List LamD} {w : World} {K : PySem.W.Frag} {h : Heap} {mg : Str → Option Value}
theorem SaysE.free (c : SaysE fr cs fn lams w h K) (X : K.In h) (G : h.Ns mainGlobals mg) : ∀ x ∈ fr, mg x = none := fun x hx =>
  He.free_ok X G (c.t.d.facts (f := .free x) (List.mem_append.mpr (.inl (List.mem_map.mpr ⟨x, hx, rfl⟩))))
theorem SaysE.const {R : RC} (hK : R.K = K) (c : SaysE fr cs fn lams w h K) (X : K.In h) (G : h.Ns mainGlobals mg) : ∀ e ∈ cs, ∃ u v, mg e.1 = some u ∧ RelV v u ∧ ∀ ms H, RepP R ms H e.2 v := fun e he => by
  have q := c.more
  unfold exE at q
  rw [Bool.and_eq_true, List.all_eq_true] at q
  have q := q.1 e he
  unfold constB at q
  split at q
  · rename_i u e1
    obtain ⟨v, h1, h2⟩ := holdsP_ok (R := R) e.2 u (by rw [hK]; exact q)
    exact ⟨u, v, PySem.W.mg_of X G e1, h1, h2⟩
  · cases q
theorem SaysE.def_ (c : SaysE fr cs fn lams w h K) (X : K.In h) (G : h.Ns mainGlobals mg) {d : He.DefD} (hd : d ∈ fn) : (∃ fd, FunD K d.name d.qual d.params d.body d.scope (d.dvs K) (d.kws K) (He.fAd K d.at_) fd) ∧ mg d.at_.1 = some (.ref (He.ga K d.at_.1)) :=
  ⟨c.t.d.defs hd, He.glo_ok X G (c.t.d.facts (f := .glo d.at_.1) (List.mem_append.mpr (.inr (List.mem_map.mpr ⟨d, hd, rfl⟩))))⟩
theorem SaysE.apart (c : SaysE fr cs fn lams w h K) {l : LamD} (hl : l ∈ lams) : ((He.cT K l.1).2, l.2) ∈ tabT lams K ∧ ∀ p ∈ tabT lams K, p.1 = (He.cT K l.1).2 → p.2 = l.2 := by
  refine ⟨List.mem_map.mpr ⟨l, hl, rfl⟩, fun p hp e => ?_⟩
  obtain ⟨m, hm, rfl⟩ := List.mem_map.mp hp
  have q := c.more
  unfold exE tabsApart at q
  rw [Bool.and_eq_true, List.all_eq_true, List.all_eq_true] at q
  have q := q.2 m hm
  rw [List.all_eq_true] at q
  have q := q l hl
  rw [Bool.or_eq_true] at q
  rcases q with q | q
  · exact eq_of_beq q
  · rw [show (He.cT K m.1).2 = (He.cT K l.1).2 from e] at q
    simp at q
end
/-! ### a def -/
/-- what stands for all defs of the module -/
structure Surr (R : RC) (P : Program) (w : World) (mg : Str → Option Value) (base : Heap) (free : List Str) (consts : List (Str × PV)) : Prop where
  w : w = R.w
  consts : ∀ e ∈ consts, ∃ u v, mg e.1 = some u ∧ RelV v u ∧ ∀ ms H, RepP R ms H e.2 v
  free : ∀ x ∈ free, mg x = none
section
variable {R : RC} {P : Program} {w : World} {mg : Str → Option Value} {base : Heap} {x qual : Str} {params : Arguments} {body : List Stmt} {f : Addr} {at_ : He.Defn} {fd : FuncData} {ps : List Str} {Γ : Ctx} {fuel : Nat} {fb : FS}
/-- what a def that makes a lambda needs -/
def LamOk (R : RC) (mg : Str → Option Value) (base : Heap) (at_ : He.Defn) (q : Str) : Prop := LamX.TabB base mg (He.cT R.K at_).1 (He.cT R.K at_).2 ∧ ((He.cT R.K at_).2, q) ∈ R.T ∧ ∀ p ∈ R.T, p.1 = (He.cT R.K at_).2 → p.2 = q
theorem def_ok (V : Surr R P w mg base Γ.free Γ.consts) (F : FunD R.K x qual params body Γ.sc [] [] f fd) (S : FnScope Γ.N ps Γ.sc) (hf : ∀ e ∈ Γ.fns, FnS R P w mg base Γ.k e.1 e.2.1 e.2.2) (e : (evr fuel).Ss Γ body = fb) (L : Γ.lam = true → f = He.fAd R.K at_ ∧ LamOk R mg base at_ (qual ++ ".<locals>." ++ "<lambda>")) :
    FnG P w R.K mg base (L2.CX P w) (Γ.k + 1) f fd ps (spOf R ps.length (fnSem Γ.keep Γ.N fb)) := by
  refine fn_ok F S fun cdv A outer s H E hcd hr hgd => ?_
  have fits : FitsS Γ (cxOf (L2.CX P w) P w R.K mg base Γ.N qual Γ.sc f cdv A outer s H E) R (fun cls d _ H => E cls d H) := {
    K := rfl
    w := V.w
    N := rfl
    nd := S.nd
    sc := rfl
    kind := S.kind
    fn := fun _ _ => rfl
    calm := rfl
    room := hr
    gd := by
      show (A.deeper (envOfC qual Γ.sc s.heap.objs.size f cdv)).guards = some []
      exact hgd
    tk := L2.takes_of (X := cxOf (L2.CX P w) P w R.K mg base Γ.N qual Γ.sc f cdv A outer s H E) rfl rfl rfl rfl
    fns := hf
    consts := V.consts
    free := V.free
    lam := fun hl => by
      obtain ⟨e1, l1, l2, l3⟩ := L hl
      obtain ⟨c, oc, od, fd', osl, lk, e2, e3⟩ := hcd
      rw [e1] at lk
      have ec : (He.cT R.K at_).1 = c := He.codeOf_eq lk (e2.trans e3)
      exact ⟨(He.cT R.K at_).1, (He.cT R.K at_).2, by rw [ec]; exact e3, l1, l2, l3⟩
    po := L2.passes_of (X := cxOf (L2.CX P w) P w R.K mg base Γ.N qual Γ.sc f cdv A outer s H E) rfl }
  rw [← e]
  exact (sound fuel).Ss body fits
theorem def_fn (V : Surr R P w mg base Γ.free Γ.consts) (F : FunD R.K x qual params body Γ.sc [] [] f fd) (S : FnScope Γ.N ps Γ.sc) (hf : ∀ e ∈ Γ.fns, FnS R P w mg base Γ.k e.1 e.2.1 e.2.2) (e : (evr fuel).Ss Γ body = fb) (hm : mg x = some (.ref f)) (L : Γ.lam = true → f = He.fAd R.K at_ ∧ LamOk R mg base at_ (qual ++ ".<locals>." ++ "<lambda>"))
    (hb : ∀ (kV doc pm : Value) (an : Option Addr) (cdv ct : Value) (us : List Value), us.length = ps.length → bindArgs (PySem.W.fnOf x qual params body Γ.sc .none kV doc pm an cdv ct) ⟨us, []⟩ = pure (ps.zip us)) :
    FnS R P w mg base (Γ.k + 1) x ps.length (fnSem Γ.keep Γ.N fb) := ⟨f, fd, ps, def_ok V F S hf e L, hm, F.kp, FunD.bindsN F hb⟩
/-- the law's promise from what it computes -/
theorem law_sp {Q : VK}  {E : XK} {run : List Val → Store → Res Val} {H : Hp} {a : Addr} {ns : List Int} (hS : SqL R.K H a (ns.map V.int)) (h : ∃ G, run [.pv (.scr (ns.map .int))] [] = .ok (.pv (.bl true)) G) (hT : LamX.Tabs R.T H) (hQ : ∀ H', Q (.bl true) H') : spOf R 1 run [.ref a] H Q E := by
  obtain ⟨G, e⟩ := h
  refine ⟨rfl, [], [], [.pv (.scr (ns.map .int))], ⟨hT, rfl, List.nodup_nil, fun i o b h1 h2 => by simp at h2⟩, .cons ?_ .nil, ?_⟩
  · show RepP R [] H (.scr (ns.map .int)) (.ref a)
    simp only [RepP]
    refine ⟨a, ns.map V.int, rfl, hS.imp (fun z => ⟨z, by simp⟩) id, ?_⟩
    induction ns with
    | nil => exact .nil
    | cons n ns ih =>
      have key : ∀ l : List Int, RepPs R [] H (l.map PV.int) (l.map V.int) := fun l => by
        induction l with
        | nil => exact .nil
        | cons m l ih => exact RepPs.cons (by simp only [RepP]) ih
      exact key (n :: ns)
  · rw [e]
    intro ms' y H' st g' rv
    have : y = .bl true := rv
    rw [this]
    exact hQ H'
end
end Ev

end
section
set_option maxRecDepth 100000
set_option maxHeartbeats 4000000
/-! Ev Pl: laws of the evaluator's pieces for plain proofs -/
namespace Ev
open PySem PySem.Spec
theorem Res.ok_bind {α β : Type} {a : α} {G : Store} {k : α → Store → Res β} : (Res.ok a G).bind k = k a G := rfl
/-- a comprehension whose test and element are pure -/
theorem lcLoop_pure {it : Items} {tgt : Tgt} {tt : FT} {te : FE} {ρ : Fr} {G : Store} (f : PV → Bool) (g : PV → PV) (hg : ∀ G', guardOk it.guard it.xs (G ++ G') = true) :
    ∀ (xs acc : List PV), (∀ x ∈ xs, ∃ ρ', bindTgt tgt x ρ = some ρ' ∧ ∀ acc', tt ρ' (G ++ [.lst acc']) = .ok (f x) (G ++ [.lst acc']) ∧ (f x = true → te ρ' (G ++ [.lst acc']) = .ok (.pv (g x)) (G ++ [.lst acc']))) →
      acc.length + xs.length ≤ sizeLine → lcLoop it tgt tt te G.length ρ xs (G ++ [.lst acc]) = .ok () (G ++ [.lst (acc ++ (xs.filter f).map g)])
  | [], acc, _, _ => by
    unfold lcLoop
    rw [hg, if_pos rfl]
    simp
  | x :: xs, acc, h, hl => by
    obtain ⟨ρ', h1, h2⟩ := h x (List.mem_cons_self ..)
    obtain ⟨h3, h4⟩ := h2 acc
    simp only [List.length_cons] at hl
    unfold lcLoop
    rw [hg, if_pos rfl, h1]
    dsimp only
    rw [h3]
    cases q : f x with
    | false =>
      show lcLoop it tgt tt te G.length ρ xs (G ++ [.lst acc]) = _
      rw [lcLoop_pure f g hg xs acc (fun y hy => h y (List.mem_cons_of_mem _ hy)) (by omega)]
      simp [q]
    | true =>
      have h5 := h4 q
      have e : (G ++ [Ob.lst acc])[G.length]? = some (.lst acc) := by simp
      simp only [noX, Res.ok_bind, if_true, h5, e]
      rw [if_pos (by omega)]
      have e2 : (G ++ [Ob.lst acc]).set G.length (.lst (acc ++ [g x])) = G ++ [.lst (acc ++ [g x])] := by simp
      rw [e2, lcLoop_pure f g hg xs (acc ++ [g x]) (fun y hy => h y (List.mem_cons_of_mem _ hy)) (by simp; omega)]
      simp [q]
theorem cLc_pure {fi : FI} {own : List Nat} {tgt : Tgt} {tt : FT} {te : FE} {ρ : Fr} {G0 G : Store} {it : Items} (f : PV → Bool) (g : PV → PV) (hi : fi ρ G0 = .ok it G) (hg : ∀ G', guardOk it.guard it.xs (G ++ G') = true) (hl : it.xs.length ≤ sizeLine)
    (h : ∀ x ∈ it.xs, ∃ ρ', bindTgt tgt x (wipeF ρ own) = some ρ' ∧ ∀ acc', tt ρ' (G ++ [.lst acc']) = .ok (f x) (G ++ [.lst acc']) ∧ (f x = true → te ρ' (G ++ [.lst acc']) = .ok (.pv (g x)) (G ++ [.lst acc']))) :
    cLc fi own tgt tt te ρ G0 = .ok ((it.xs.filter f).map g) G := by
  unfold cLc
  rw [hi]
  show (lcLoop it tgt tt te G.length (wipeF ρ own) it.xs (G ++ [.lst []])).bind _ = _
  rw [lcLoop_pure f g hg it.xs [] h (by simpa using hl)]
  simp only [Res.ok_bind]
  simp
/-- a comprehension whose pieces may change boxes below the new list: Iv says what holds of the store below and of what was gathered, after some items -/
theorem lcLoop_inv {it : Items} {tgt : Tgt} {tt : FT} {te : FE} {ρ : Fr} {n : Nat} (hg : it.guard = none) (Iv : List PV → List PV → Store → Prop)
    (step : ∀ done x acc G, G.length = n → x ∈ it.xs → Iv done acc G → ∃ ρ' b G1, bindTgt tgt x ρ = some ρ' ∧ tt ρ' (G ++ [.lst acc]) = .ok b (G1 ++ [.lst acc]) ∧ G1.length = n ∧
      (b = false → Iv (done ++ [x]) acc G1) ∧ (b = true → ∃ p G2, te ρ' (G1 ++ [.lst acc]) = .ok (.pv p) (G2 ++ [.lst acc]) ∧ G2.length = n ∧ Iv (done ++ [x]) (acc ++ [p]) G2)) :
    ∀ (xs done acc : List PV) (G : Store), (∀ x ∈ xs, x ∈ it.xs) → G.length = n → Iv done acc G → acc.length + xs.length ≤ sizeLine →
      ∃ acc' G', lcLoop it tgt tt te n ρ xs (G ++ [.lst acc]) = .ok () (G' ++ [.lst acc']) ∧ G'.length = n ∧ Iv (done ++ xs) acc' G' ∧ acc'.length ≤ acc.length + xs.length
  | [], done, acc, G, _, hn, iv, _ => by
    refine ⟨acc, G, ?_, hn, by rw [List.append_nil]; exact iv, by simp⟩
    unfold lcLoop
    rw [hg]
    rfl
  | x :: xs, done, acc, G, hsub, hn, iv, hl => by
    simp only [List.length_cons] at hl
    obtain ⟨ρ', b, G1, h1, h2, h3, h4, h5⟩ := step done x acc G hn (hsub x (List.mem_cons_self ..)) iv
    have sub' : ∀ y ∈ xs, y ∈ it.xs := fun y hy => hsub y (List.mem_cons_of_mem _ hy)
    cases b with
    | false =>
      obtain ⟨acc', G', e, e1, e2, e3⟩ := lcLoop_inv hg Iv step xs (done ++ [x]) acc G1 sub' h3 (h4 rfl) (by omega)
      refine ⟨acc', G', ?_, e1, by simpa using e2, by simp only [List.length_cons]; omega⟩
      unfold lcLoop
      simp only [hg, guardOk, if_true, h1, h2, noX, Res.ok_bind, Bool.false_eq_true, if_false]
      exact e
    | true =>
      obtain ⟨p, G2, k1, k2, k3⟩ := h5 rfl
      obtain ⟨acc', G', e, e1, e2, e3⟩ := lcLoop_inv hg Iv step xs (done ++ [x]) (acc ++ [p]) G2 sub' k2 k3 (by simp; omega)
      refine ⟨acc', G', ?_, e1, by simpa using e2, by simp only [List.length_cons, List.length_append, List.length_nil] at e3 ⊢; omega⟩
      have g1 : (G2 ++ [Ob.lst acc])[n]? = some (.lst acc) := by rw [← k2]; simp
      have g2 : (G2 ++ [Ob.lst acc]).set n (.lst (acc ++ [p])) = G2 ++ [.lst (acc ++ [p])] := by rw [← k2]; simp
      unfold lcLoop
      simp only [hg, guardOk, if_true, h1, h2, noX, Res.ok_bind, k1, g1, g2]
      rw [if_pos (by omega)]
      exact e
theorem cLc_inv {fi : FI} {own : List Nat} {tgt : Tgt} {tt : FT} {te : FE} {ρ : Fr} {G0 G : Store} {it : Items} (hi : fi ρ G0 = .ok it G) (hg : it.guard = none) (hl : it.xs.length ≤ sizeLine) (Iv : List PV → List PV → Store → Prop) (i0 : Iv [] [] G)
    (step : ∀ done x acc G1, G1.length = G.length → x ∈ it.xs → Iv done acc G1 → ∃ ρ' b G2, bindTgt tgt x (wipeF ρ own) = some ρ' ∧ tt ρ' (G1 ++ [.lst acc]) = .ok b (G2 ++ [.lst acc]) ∧ G2.length = G.length ∧
      (b = false → Iv (done ++ [x]) acc G2) ∧ (b = true → ∃ p G3, te ρ' (G2 ++ [.lst acc]) = .ok (.pv p) (G3 ++ [.lst acc]) ∧ G3.length = G.length ∧ Iv (done ++ [x]) (acc ++ [p]) G3)) :
    ∃ acc G', cLc fi own tgt tt te ρ G0 = .ok acc G' ∧ G'.length = G.length ∧ Iv it.xs acc G' ∧ acc.length ≤ it.xs.length := by
  obtain ⟨acc, G', e, e1, e2, e3⟩ := lcLoop_inv hg Iv step it.xs [] [] G (fun _ h => h) rfl i0 (by simpa using hl)
  refine ⟨acc, G', ?_, e1, by simpa using e2, by simpa using e3⟩
  have g1 : (G' ++ [Ob.lst acc])[G.length]? = some (.lst acc) := by rw [← e1]; simp
  have g2 : (G' ++ [Ob.lst acc]).take G.length = G' := by rw [← e1]; simp
  unfold cLc
  simp only [hi, Res.ok_bind, e, g1, g2]
  rw [if_pos (by simp [e1])]
/-- a loop that goes on to its end -/
theorem forLoop_inv {it : Items} {tgt : Tgt} {body : FS} (hg : it.guard = none) (Iv : List PV → Fr → Store → Prop)
    (step : ∀ done x ρ G, x ∈ it.xs → Iv done ρ G → ∃ ρ' ρ1 G1, bindTgt tgt x ρ = some ρ' ∧ (body ρ' G = .next ρ1 G1 ∨ body ρ' G = .cont ρ1 G1) ∧ Iv (done ++ [x]) ρ1 G1) :
    ∀ (xs done : List PV) (ρ : Fr) (G : Store), (∀ x ∈ xs, x ∈ it.xs) → Iv done ρ G → ∃ ρ1 G1, forLoop it tgt body xs ρ G = .next ρ1 G1 ∧ Iv (done ++ xs) ρ1 G1
  | [], done, ρ, G, _, iv => ⟨ρ, G, by unfold forLoop; rw [hg]; rfl, by rw [List.append_nil]; exact iv⟩
  | x :: xs, done, ρ, G, hs, iv => by
    obtain ⟨ρ', ρ1, G1, h1, h2, h3⟩ := step done x ρ G (hs x (List.mem_cons_self ..)) iv
    obtain ⟨ρ2, G2, e, i2⟩ := forLoop_inv hg Iv step xs (done ++ [x]) ρ1 G1 (fun y hy => hs y (List.mem_cons_of_mem _ hy)) h3
    refine ⟨ρ2, G2, ?_, by simpa using i2⟩
    unfold forLoop
    rcases h2 with h2 | h2 <;> simp only [hg, guardOk, if_true, h1, h2] <;> exact e
/-- what is sorted already -/
theorem pySort_is {xs ys : List PV} (pm : xs.Perm ys) (hs : ys.Pairwise (fun a b => PySem.W.dataLe false enc a b = true)) (h : ∀ x ∈ xs, x.data.isSome = true ∧ ∀ y ∈ xs, PySem.W.alike (enc x) (enc y) = true) : pySort xs = ys := by
  refine eq_of_sorted ((pySort_perm xs).trans pm) (pySort_pairwise xs) hs fun a ha b hb h1 h2 => ?_
  have ha := (pySort_perm xs).mem_iff.mp ha
  have hb := (pySort_perm xs).mem_iff.mp hb
  rw [PySem.W.dataLe_eq] at h1 h2
  simp only [cond_false, Bool.not_eq_true'] at h1 h2
  exact enc_inj (h a ha).1 (h b hb).1 (lt_tri ((h a ha).2 b hb) h2 h1)
end Ev

end
section
set_option maxRecDepth 100000
set_option maxHeartbeats 4000000
/-! Ev Pp: the pure readings: the same pieces without a store; where such a reading ends, the piece does the same -/
namespace Ev
open PySem PySem.Spec

inductive PR (α : Type) where
  | ok (a : α) | exc (e : Exc) | stuck
  deriving Inhabited
@[inline] def PR.bind {α β : Type} (r : PR α) (k : α → PR β) : PR β := match r with
  | .ok a => k a
  | .exc e => .exc e
  | .stuck => .stuck
@[simp] theorem PR.ok_bind {α β : Type} {a : α} {k : α → PR β} : (PR.ok a).bind k = k a := rfl
@[simp] theorem PR.exc_bind {α β : Type} {e : Exc} {k : α → PR β} : (PR.exc e).bind k = .exc e := rfl
@[simp] theorem PR.stuck_bind {α β : Type} {k : α → PR β} : (PR.stuck : PR α).bind k = .stuck := rfl
abbrev PFr := List (Option PV)
abbrev QE := PFr → PR PV
abbrev QT := PFr → PR Bool
abbrev QA := PFr → PR (List PV)
abbrev QF := PFr → PR (List PV)
abbrev QO := PFr → PR (Option Int)
inductive PS where
  | next (π : PFr) | ret (v : PV) | brk (π : PFr) | cont (π : PFr) | exc (e : Exc) | stuck
  deriving Inhabited
abbrev QS := PFr → PS

/-- the frames agree: a slot of bs may hold a box made since b -/
structure RelF (bs : List Nat) (b : Nat) (G : Store) (ρ : Fr) (π : PFr) : Prop where
  len : ρ.length = π.length
  low : b ≤ G.length
  at_ : ∀ i p, π[i]? = some (some p) → (i ∉ bs ∧ ρ[i]? = some (some (.pv p))) ∨ ∃ j o, i ∈ bs ∧ ρ[i]? = some (some (.box j)) ∧ b ≤ j ∧ G[j]? = some o ∧ freeze o = p
  inj : ∀ i i' j, i ∈ bs → i' ∈ bs → ρ[i]? = some (some (.box j)) → ρ[i']? = some (some (.box j)) → i = i'
  bd : ∀ i j, i ∈ bs → ρ[i]? = some (some (.box j)) → j < G.length
theorem RelF.grow {bs : List Nat} {b : Nat} {G G' : Store} {ρ : Fr} {π : PFr} (r : RelF bs b G ρ π) : RelF bs b (G ++ G') ρ π :=
  ⟨r.len, by have := r.low; simp; omega, fun i p h => (r.at_ i p h).imp id fun ⟨j, o, h1, h2, h3, h4, h5⟩ => ⟨j, o, h1, h2, h3, by rw [List.getElem?_append_left (List.getElem?_eq_some_iff.mp h4).1]; exact h4, h5⟩, r.inj, fun i j h1 h2 => by have := r.bd i j h1 h2; simp; omega⟩
theorem RelF.setP {bs : List Nat} {b : Nat} {G : Store} {ρ : Fr} {π : PFr} (r : RelF bs b G ρ π) {i : Nat} (hi : i ∉ bs) (p : PV) : RelF bs b G (ρ.set i (some (.pv p))) (π.set i (some p)) := by
  refine ⟨by simp [r.len], r.low, fun k q h => ?_, fun k k' j hk hk' h h' => ?_, fun k j hk h => ?_⟩
  · by_cases e : i = k
    · subst e
      have hl : i < π.length := by
        have := (List.getElem?_eq_some_iff.mp h).1
        simpa using this
      rw [List.getElem?_set_self hl] at h
      cases h
      exact .inl ⟨hi, by rw [List.getElem?_set_self (by rw [r.len]; exact hl)]⟩
    · rw [List.getElem?_set_ne e] at h
      rw [List.getElem?_set_ne e]
      exact r.at_ k q h
  · have ne : ∀ {k : Nat}, (ρ.set i (some (Val.pv p)))[k]? = some (some (.box j)) → i ≠ k := fun {k} h e => by
      subst e
      have hl : i < ρ.length := by
        have := (List.getElem?_eq_some_iff.mp h).1
        simpa using this
      rw [List.getElem?_set_self hl] at h
      cases h
    have a1 := ne h
    have a2 := ne h'
    rw [List.getElem?_set_ne a1] at h
    rw [List.getElem?_set_ne a2] at h'
    exact r.inj k k' j hk hk' h h'
  · have a1 : i ≠ k := fun e => by
      subst e
      have hl : i < ρ.length := by
        have := (List.getElem?_eq_some_iff.mp h).1
        simpa using this
      rw [List.getElem?_set_self hl] at h
      cases h
    rw [List.getElem?_set_ne a1] at h
    exact r.bd k j hk h
theorem RelF.setN {bs : List Nat} {b : Nat} {G : Store} {ρ : Fr} {π : PFr} (r : RelF bs b G ρ π) (i : Nat) : RelF bs b G (ρ.set i none) (π.set i none) := by
  refine ⟨by simp [r.len], r.low, fun k q h => ?_, fun k k' j hk hk' h h' => ?_, fun k j hk h => ?_⟩
  · by_cases e : i = k
    · subst e
      have hl : i < π.length := by
        have := (List.getElem?_eq_some_iff.mp h).1
        simpa using this
      rw [List.getElem?_set_self hl] at h
      cases h
    · rw [List.getElem?_set_ne e] at h
      rw [List.getElem?_set_ne e]
      exact r.at_ k q h
  · have ne : ∀ {k : Nat}, (ρ.set i none)[k]? = some (some (.box j)) → i ≠ k := fun {k} h e => by
      subst e
      have hl : i < ρ.length := by
        have := (List.getElem?_eq_some_iff.mp h).1
        simpa using this
      rw [List.getElem?_set_self hl] at h
      cases h
    have a1 := ne h
    have a2 := ne h'
    rw [List.getElem?_set_ne a1] at h
    rw [List.getElem?_set_ne a2] at h'
    exact r.inj k k' j hk hk' h h'
  · have a1 : i ≠ k := fun e => by
      subst e
      have hl : i < ρ.length := by
        have := (List.getElem?_eq_some_iff.mp h).1
        simpa using this
      rw [List.getElem?_set_self hl] at h
      cases h
    rw [List.getElem?_set_ne a1] at h
    exact r.bd k j hk h
@[simp] def wipeP (π : PFr) : List Nat → PFr
  | [] => π
  | v :: vs => (wipeP π vs).set v none
theorem RelF.wipe {bs : List Nat} {b : Nat} {G : Store} {ρ : Fr} {π : PFr} (r : RelF bs b G ρ π) : ∀ own : List Nat, RelF bs b G (wipeF ρ own) (wipeP π own)
  | [] => r
  | v :: vs => (r.wipe vs).setN v
@[simp] def setAllP : List Nat → List PV → PFr → Option PFr
  | [], [], ρ => some ρ
  | i :: is, v :: vs, ρ => setAllP is vs (ρ.set i (some v))
  | _, _, _ => none
@[simp] def bindP : Tgt → PV → PFr → Option PFr
  | .one i, v, ρ => some (ρ.set i (some v))
  | .tup is, .tup vs, ρ => setAllP is vs ρ
  | _, _, _ => none
theorem RelF.setAll {bs : List Nat} {b : Nat} {G : Store} : ∀ {is : List Nat} {vs : List PV} {ρ : Fr} {π π' : PFr}, RelF bs b G ρ π → (∀ i ∈ is, i ∉ bs) → setAllP is vs π = some π' → ∃ ρ', Ev.setAll is vs ρ = some ρ' ∧ RelF bs b G ρ' π'
  | [], [], ρ, π, π', r, _, e => by cases e; exact ⟨ρ, rfl, r⟩
  | i :: is, v :: vs, ρ, π, π', r, hi, e => by
    have h := RelF.setAll (is := is) (vs := vs) (r.setP (hi i (List.mem_cons_self ..)) v) (fun k hk => hi k (List.mem_cons_of_mem _ hk)) e
    exact h
  | [], _ :: _, _, _, _, _, _, e => by cases e
  | _ :: _, [], _, _, _, _, _, e => by cases e
theorem RelF.bind {bs : List Nat} {b : Nat} {G : Store} {ρ : Fr} {π π' : PFr} {t : Tgt} {v : PV} (r : RelF bs b G ρ π) (ht : ∀ i ∈ t.slots, i ∉ bs) (e : bindP t v π = some π') : ∃ ρ', bindTgt t v ρ = some ρ' ∧ RelF bs b G ρ' π' := by
  cases t with
  | one i => cases e; exact ⟨_, rfl, r.setP (ht i (List.mem_singleton.mpr rfl)) v⟩
  | tup is =>
    cases v with
    | tup vs => exact r.setAll ht e
    | _ => cases e

/-! ### the judgements -/
/-- an expression that changes nothing: its value -/
def AgE (bs : List Nat) (e : FE) (q : QE) : Prop := ∀ b G ρ π, RelF bs b G ρ π → match q π with
  | .ok p => e ρ G = .ok (.pv p) G
  | .exc x => e ρ G = .exc x G
  | .stuck => True
/-- .. its value, looked at (a box it may be) -/
def AgD (bs : List Nat) (e : FE) (q : QE) : Prop := ∀ b G ρ π, RelF bs b G ρ π → match q π with
  | .ok p => ∃ v, e ρ G = .ok v G ∧ deref G v = some p ∧ (v = .pv p ∨ ∃ j, v = .box j ∧ b ≤ j)
  | .exc x => e ρ G = .exc x G
  | .stuck => True
def AgT (bs : List Nat) (e : FT) (q : QT) : Prop := ∀ b G ρ π, RelF bs b G ρ π → match q π with
  | .ok p => e ρ G = .ok p G
  | .exc x => e ρ G = .exc x G
  | .stuck => True
def AgA (bs : List Nat) (e : FA) (q : QA) : Prop := ∀ b G ρ π, RelF bs b G ρ π → match q π with
  | .ok ps => e ρ G = .ok (ps.map .pv) G
  | .exc x => e ρ G = .exc x G
  | .stuck => True
def AgAD (bs : List Nat) (e : FA) (q : QA) : Prop := ∀ b G ρ π, RelF bs b G ρ π → match q π with
  | .ok ps => ∃ vs, e ρ G = .ok vs G ∧ derefs G vs = some ps
  | .exc x => e ρ G = .exc x G
  | .stuck => True
def AgF (bs : List Nat) (e : FF) (q : QF) : Prop := ∀ b G ρ π, RelF bs b G ρ π → match q π with
  | .ok p => e ρ G = .ok p G
  | .exc x => e ρ G = .exc x G
  | .stuck => True
def AgO (bs : List Nat) (e : FO) (q : QO) : Prop := ∀ b G ρ π, RelF bs b G ρ π → match q π with
  | .ok p => e ρ G = .ok p G
  | .exc x => e ρ G = .exc x G
  | .stuck => True
def AgN (bs : List Nat) (e : FN) (q : QE) : Prop := ∀ b G ρ π, RelF bs b G ρ π → match q π with
  | .ok p => ∃ o, e ρ G = .ok o G ∧ freeze o = p
  | .exc x => e ρ G = .exc x G
  | .stuck => True
def AgI (bs : List Nat) (e : FI) (q : QF) : Prop := ∀ b G ρ π, RelF bs b G ρ π → match q π with
  | .ok xs => ∃ g, e ρ G = .ok ⟨xs, g⟩ G ∧ ∀ G', guardOk g xs (G ++ G') = true
  | .exc x => e ρ G = .exc x G
  | .stuck => True
/-- items of which nothing stands in the store -/
def AgJ (bs : List Nat) (e : FI) (q : QF) : Prop := ∀ b G ρ π, RelF bs b G ρ π → match q π with
  | .ok xs => e ρ G = .ok ⟨xs, none⟩ G
  | .exc x => e ρ G = .exc x G
  | .stuck => True
def AgS (bs : List Nat) (s : FS) (q : QS) : Prop := ∀ b G ρ π, RelF bs b G ρ π → match q π with
  | .next π' => ∃ ρ' G', s ρ G = .next ρ' G' ∧ RelF bs b G' ρ' π' ∧ G'.take b = G.take b
  | .brk π' => ∃ ρ' G', s ρ G = .brk ρ' G' ∧ RelF bs b G' ρ' π' ∧ G'.take b = G.take b
  | .cont π' => ∃ ρ' G', s ρ G = .cont ρ' G' ∧ RelF bs b G' ρ' π' ∧ G'.take b = G.take b
  | .ret p => ∃ v G', s ρ G = .ret v G' ∧ deref G' v = some p ∧ (v = .pv p ∨ ∃ j, v = .box j ∧ b ≤ j) ∧ G'.take b = G.take b
  | .exc x => ∃ ρ' G', s ρ G = .exc x ρ' G' ∧ G'.take b = G.take b
  | .stuck => True
def AgFn (r : List Val → Store → Res Val) (q : List PV → PR PV) : Prop := ∀ vs G, match q vs with
  | .ok p => r (vs.map .pv) G = .ok (.pv p) G
  | .exc x => r (vs.map .pv) G = .exc x G
  | .stuck => True

/-! ### the pieces -/
def oP {α : Type} : Option α → PR α
  | some p => .ok p
  | none => .stuck
@[simp] theorem oP_some {α : Type} {a : α} : oP (some a) = .ok a := rfl
@[simp] theorem oP_none {α : Type} : oP (none : Option α) = .stuck := rfl
@[simp] def qK (p : PV) (_ : PFr) : PR PV := .ok p
@[simp] def qStuck (_ : PFr) : PR PV := .stuck
@[simp] def qVar (i : Nat) (π : PFr) : PR PV := match π[i]? with
  | some (some v) => .ok v
  | _ => .stuck
@[simp] def qBin (op : PV → PV → Option PV) (a b : QE) (π : PFr) : PR PV := (a π).bind fun x => (b π).bind fun y => oP (op x y)
@[simp] def qBinF (op : PV → PV → Option (List PV)) (a b : QE) (π : PFr) : PR (List PV) := (a π).bind fun x => (b π).bind fun y => oP (op x y)
@[simp] def qUn (op : PV → Option PV) (a : QE) (π : PFr) : PR PV := (a π).bind fun x => oP (op x)
@[simp] def qFrz (f : QF) (π : PFr) : PR PV := (f π).bind fun ps => .ok (.lst ps)
@[simp] def qNil (_ : PFr) : PR (List PV) := .ok []
@[simp] def qCons (a : QE) (as : QA) (π : PFr) : PR (List PV) := (a π).bind fun v => (as π).bind fun vs => .ok (v :: vs)
@[simp] def qCall (f : List PV → Option PV) (as : QA) (π : PFr) : PR PV := (as π).bind fun vs => oP (f vs)
@[simp] def qCallF (f : List PV → Option (List PV)) (as : QA) (π : PFr) : PR (List PV) := (as π).bind fun vs => oP (f vs)
@[simp] def qOwn (p : List PV → PR PV) (as : QA) (π : PFr) : PR PV := (as π).bind p
@[simp] def qTup (as : QA) (π : PFr) : PR PV := (as π).bind fun vs => .ok (.tup vs)
@[simp] def qLst (as : QA) (π : PFr) : PR (List PV) := as π
@[simp] def qIf (t : QT) (a b : QE) (π : PFr) : PR PV := (t π).bind fun c => if c = true then a π else b π
@[simp] def asBP : PV → Option Bool
  | .bl b => some b
  | _ => none
@[simp] def qAndV (a b : QE) (π : PFr) : PR PV := (a π).bind fun v => match asBP v with
  | some true => b π
  | some false => .ok (.bl false)
  | none => .stuck
@[simp] def qOrV (a b : QE) (π : PFr) : PR PV := (a π).bind fun v => match asBP v with
  | some true => .ok (.bl true)
  | some false => b π
  | none => .stuck
@[simp] def qNotV (a : QE) (π : PFr) : PR PV := (a π).bind fun v => match asBP v with
  | some c => .ok (.bl (!c))
  | none => .stuck
@[simp] def qTru (a : QE) (π : PFr) : PR Bool := (a π).bind fun v => oP (pyTruth v)
@[simp] def qNotT (a : QT) (π : PFr) : PR Bool := (a π).bind fun c => .ok (!c)
@[simp] def qAndT (a b : QT) (π : PFr) : PR Bool := (a π).bind fun c => if c = true then b π else .ok false
@[simp] def qOrT (a b : QT) (π : PFr) : PR Bool := (a π).bind fun c => if c = true then .ok true else b π
@[simp] def qYes (_ : PFr) : PR Bool := .ok true
@[simp] def qCmp (f : PV → PV → Option Bool) (a b : QE) (π : PFr) : PR Bool := (a π).bind fun x => (b π).bind fun y => oP (f x y)
@[simp] def qChain (f f' : PV → PV → Option Bool) (a b c : QE) (π : PFr) : PR Bool := (a π).bind fun x => (b π).bind fun y => (oP (f x y)).bind fun t => if t = true then (c π).bind fun z => oP (f' y z) else .ok false
@[simp] def qAsV (t : QT) (π : PFr) : PR PV := (t π).bind fun c => .ok (.bl c)
@[simp] def seqItems : PV → Option (List PV)
  | .tup xs => some xs
  | .lst xs => some xs
  | .scr xs => some xs
  | _ => none
@[simp] def qSplice (a : QE) (as : QA) (π : PFr) : PR (List PV) := (a π).bind fun v => (oP (seqItems v)).bind fun xs => (as π).bind fun vs => .ok (xs ++ vs)
@[simp] def qFew (as : QA) (π : PFr) : PR (List PV) := (as π).bind fun vs => if vs.length ≤ sizeLine then .ok vs else .stuck
@[simp] def walkItems : PV → Option (List PV)
  | .tup xs => some xs
  | .lst xs => some xs
  | .scr xs => some xs
  | .str z => some (charsOf z)
  | _ => none
@[simp] def qSeq (a : QE) (π : PFr) : PR (List PV) := (a π).bind fun v => oP (walkItems v)
@[simp] def qICall (f : List PV → Option (List PV)) (as : QA) (π : PFr) : PR (List PV) := (as π).bind fun vs => oP (f vs)
@[simp] def qIVals (f : List Val → Option (List PV)) (as : QA) (π : PFr) : PR (List PV) := (as π).bind fun vs => oP (f (vs.map .pv))
def noXP {α : Type} : PR α → PR α
  | .exc _ => .stuck
  | r => r
@[simp] theorem noXP_ok {α : Type} {a : α} : noXP (.ok a) = .ok a := rfl
/-- the turns of a comprehension -/
def lcP (tgt : Tgt) (tt : QT) (te : QE) (π : PFr) : List PV → PR (List PV)
  | [] => .ok []
  | x :: xs => (oP (bindP tgt x π)).bind fun π' => (noXP (tt π')).bind fun b => if b = true then (noXP (te π')).bind fun p => (lcP tgt tt te π xs).bind fun r => .ok (p :: r) else lcP tgt tt te π xs
@[simp] def qLc (qi : QF) (own : List Nat) (tgt : Tgt) (tt : QT) (te : QE) (π : PFr) : PR (List PV) := (qi π).bind fun xs => if xs.length ≤ sizeLine then lcP tgt tt te (wipeP π own) xs else .stuck
def dcP (tgt : Tgt) (tt : QT) (tk te : QE) (π : PFr) : List PV → List PV → List PV → PR PV
  | [], ks, vs => .ok (.dct ks vs)
  | x :: xs, ks, vs => (oP (bindP tgt x π)).bind fun π' => (noXP (tt π')).bind fun b => if b = true then (noXP (tk π')).bind fun k => (noXP (te π')).bind fun v =>
      if keyOk ks k && decide (ks.length < sizeLine) then dcP tgt tt tk te π xs (gPut ks vs k v).1 (gPut ks vs k v).2 else .stuck
    else dcP tgt tt tk te π xs ks vs
@[simp] def qDc (qi : QF) (own : List Nat) (tgt : Tgt) (tt : QT) (tk te : QE) (π : PFr) : PR PV := (qi π).bind fun xs => dcP tgt tt tk te (wipeP π own) xs [] []
@[simp] def qFrzN (f : QE) (π : PFr) : PR PV := f π
@[simp] def qNo (_ : PFr) : PR (Option Int) := .ok none
@[simp] def qAt (f : QE) (π : PFr) : PR (Option Int) := (f π).bind fun v => match v with
  | .int i => .ok (some i)
  | _ => .stuck
@[simp] def qSl (fo : QE) (fl fh : QO) (π : PFr) : PR PV := (fo π).bind fun v => (fl π).bind fun l => (fh π).bind fun h => oP (pySlice v l h)
@[simp] def qSlF (fo : QE) (fl fh : QO) (π : PFr) : PR (List PV) := (fo π).bind fun v => (fl π).bind fun l => (fh π).bind fun h => oP (pySliceL v l h)
/-- the items of what a box may hold (a dict has none) -/
def PS.ofR {α : Type} (r : PR α) (k : α → PS) : PS := match r with
  | .ok a => k a
  | .exc e => .exc e
  | .stuck => .stuck
@[simp] theorem PS.ofR_ok {α : Type} {a : α} {k : α → PS} : PS.ofR (.ok a) k = k a := rfl
@[simp] theorem PS.ofR_exc {α : Type} {e : Exc} {k : α → PS} : PS.ofR (.exc e) k = .exc e := rfl
@[simp] def tSkip (π : PFr) : PS := .next π
@[simp] def tDead (_ : PFr) : PS := .stuck
@[simp] def tSeq (a b : QS) (π : PFr) : PS := match a π with
  | .next π1 => b π1
  | r => r
@[simp] def tExpr (e : QE) (π : PFr) : PS := PS.ofR (e π) fun _ => .next π
@[simp] def tRet (e : QE) (π : PFr) : PS := PS.ofR (e π) .ret
@[simp] def tRetN (_ : PFr) : PS := .ret .non
@[simp] def tIf (t : QT) (a b : QS) (π : PFr) : PS := PS.ofR (t π) fun c => if c = true then a π else b π
@[simp] def tSet (i : Nat) (e : QE) (π : PFr) : PS := PS.ofR (e π) fun v => .next (π.set i (some v))
@[simp] def tBreak (π : PFr) : PS := .brk π
@[simp] def tCont (π : PFr) : PS := .cont π
@[simp] def tSetTup (is : List Nat) (e : QE) (π : PFr) : PS := PS.ofR (e π) fun v => match v with
  | .tup ps => (match setAllP is ps π with
    | some π' => .next π'
    | none => .stuck)
  | _ => .stuck
@[simp] def seqSetP : List Nat → List PV → PFr → PFr
  | i :: is, v :: vs, ρ => seqSetP is vs (ρ.set i (some v))
  | _, _, ρ => ρ
@[simp] def tParN (is : List Nat) (as : QA) (π : PFr) : PS := PS.ofR (as π) fun vs => if vs.length = is.length then .next (seqSetP is.reverse vs.reverse π) else .stuck
/-- a method that changes the list in a slot of its own -/
@[simp] def tMeth (i : Nat) (m : List PV → List PV → Option (PV × List PV)) (as : QA) (π : PFr) : PS := match π[i]? with
  | some (some (.lst _)) => PS.ofR (as π) fun vs => (match π[i]? with
    | some (some (.lst xs)) => (match m xs vs with
      | some (_, ys) => .next (π.set i (some (.lst ys)))
      | none => .stuck)
    | _ => .stuck)
  | _ => .stuck
def forP (tgt : Tgt) (body : QS) : List PV → PFr → PS
  | [], π => .next π
  | x :: xs, π => match bindP tgt x π with
    | none => .stuck
    | some π' => (match body π' with
      | .next π1 => forP tgt body xs π1
      | .cont π1 => forP tgt body xs π1
      | .brk π1 => .next π1
      | r => r)
@[simp] def tFor (qi : QF) (tgt : Tgt) (body : QS) (π : PFr) : PS := PS.ofR (qi π) fun xs => forP tgt body xs π
def fnP (ps n : Nat) (body : QS) (vs : List PV) : PR PV := if vs.length = ps then (match body (vs.map some ++ List.replicate (n - vs.length) none) with
  | .ret v => .ok v
  | .next _ => .ok .non
  | .exc e => .exc e
  | _ => .stuck) else .stuck
end Ev

end
section
set_option maxRecDepth 100000
set_option maxHeartbeats 4000000
/-! Ev Pq: the pieces agree with their pure readings -/
namespace Ev
open PySem PySem.Spec
section
variable {bs : List Nat} {a b c : FE} {qa qb qc : QE} {as : FA} {qs : QA} {t u : FT} {qt qu : QT}
theorem Res.exc_bind {α β : Type} {e : Exc} {G : Store} {k : α → Store → Res β} : (Res.exc e G).bind k = .exc e G := rfl
theorem AgE.d (h : AgE bs a qa) : AgD bs a qa := fun b0 G ρ π r => by
  have h := h b0 G ρ π r
  cases e : qa π with
  | stuck => trivial
  | exc x => rw [e] at h; exact h
  | ok x => rw [e] at h; exact ⟨_, h, rfl, .inl rfl⟩
theorem ag_k {p : PV} : AgE bs (cK p) (qK p) := fun _ _ _ _ _ => rfl
theorem ag_var {i : Nat} (h : i ∉ bs) : AgE bs (cVar i) (qVar i) := fun b0 G ρ π r => by
  unfold qVar cVar
  cases e : π[i]? with
  | none => trivial
  | some o =>
    cases o with
    | none => trivial
    | some p =>
      rcases r.at_ i p e with ⟨_, k⟩ | ⟨j, o, h1, _⟩
      · show _ = _
        rw [k]
      · exact absurd h1 h
theorem ag_varD {i : Nat} : AgD bs (cVar i) (qVar i) := fun b0 G ρ π r => by
  unfold qVar cVar
  cases e : π[i]? with
  | none => trivial
  | some o =>
    cases o with
    | none => trivial
    | some p =>
      rcases r.at_ i p e with ⟨_, k⟩ | ⟨j, o, h1, h2, h3, h4, h5⟩
      · exact ⟨.pv p, by rw [k], rfl, .inl rfl⟩
      · refine ⟨.box j, by rw [h2], ?_, .inr ⟨j, rfl, h3⟩⟩
        unfold deref
        dsimp only
        rw [h4]
        cases o <;> exact congrArg some h5
theorem ag_bin {op : PV → PV → Option PV} (ha : AgD bs a qa) (hb : AgD bs b qb) : AgE bs (cBin op a b) (qBin op qa qb) := fun b0 G ρ π r => by
  have h1 := ha b0 G ρ π r
  have h2 := hb b0 G ρ π r
  unfold qBin cBin
  cases e1 : qa π with
  | stuck => trivial
  | exc x => rw [e1] at h1; simp only [h1, Res.exc_bind, PR.exc_bind]
  | ok x =>
    rw [e1] at h1; obtain ⟨v, k1, k2, _⟩ := h1
    cases e2 : qb π with
    | stuck => trivial
    | exc x => rw [e2] at h2; simp only [k1, h2, Res.ok_bind, Res.exc_bind, PR.exc_bind, PR.ok_bind]
    | ok y =>
      rw [e2] at h2; obtain ⟨w, m1, m2, _⟩ := h2
      simp only [k1, m1, Res.ok_bind, PR.ok_bind, k2, m2, opt2]
      cases op x y <;> first | trivial | rfl
theorem ag_binF {op : PV → PV → Option (List PV)} (ha : AgD bs a qa) (hb : AgD bs b qb) : AgF bs (cBinF op a b) (qBinF op qa qb) := fun b0 G ρ π r => by
  have h1 := ha b0 G ρ π r
  have h2 := hb b0 G ρ π r
  unfold qBinF cBinF
  cases e1 : qa π with
  | stuck => trivial
  | exc x => rw [e1] at h1; simp only [h1, Res.exc_bind, PR.exc_bind]
  | ok x =>
    rw [e1] at h1; obtain ⟨v, k1, k2, _⟩ := h1
    cases e2 : qb π with
    | stuck => trivial
    | exc x => rw [e2] at h2; simp only [k1, h2, Res.ok_bind, Res.exc_bind, PR.exc_bind, PR.ok_bind]
    | ok y =>
      rw [e2] at h2; obtain ⟨w, m1, m2, _⟩ := h2
      simp only [k1, m1, Res.ok_bind, PR.ok_bind, k2, m2, opt2L]
      cases op x y <;> first | trivial | rfl
theorem ag_cmp {f : PV → PV → Option Bool} (ha : AgD bs a qa) (hb : AgD bs b qb) : AgT bs (cCmp f a b) (qCmp f qa qb) := fun b0 G ρ π r => by
  have h1 := ha b0 G ρ π r
  have h2 := hb b0 G ρ π r
  unfold qCmp cCmp
  cases e1 : qa π with
  | stuck => trivial
  | exc x => rw [e1] at h1; simp only [h1, Res.exc_bind, PR.exc_bind]
  | ok x =>
    rw [e1] at h1; obtain ⟨v, k1, k2, _⟩ := h1
    cases e2 : qb π with
    | stuck => trivial
    | exc x => rw [e2] at h2; simp only [k1, h2, Res.ok_bind, Res.exc_bind, PR.exc_bind, PR.ok_bind]
    | ok y =>
      rw [e2] at h2; obtain ⟨w, m1, m2, _⟩ := h2
      simp only [k1, m1, Res.ok_bind, PR.ok_bind, k2, m2, opt2B]
      cases f x y <;> first | trivial | rfl
theorem ag_chain {f f' : PV → PV → Option Bool} (ha : AgD bs a qa) (hb : AgD bs b qb) (hc : AgD bs c qc) : AgT bs (cChain f f' a b c) (qChain f f' qa qb qc) := fun b0 G ρ π r => by
  have h1 := ha b0 G ρ π r
  have h2 := hb b0 G ρ π r
  have h3 := hc b0 G ρ π r
  unfold qChain cChain
  cases e1 : qa π with
  | stuck => trivial
  | exc x => rw [e1] at h1; simp only [h1, Res.exc_bind, PR.exc_bind]
  | ok x =>
    rw [e1] at h1; obtain ⟨v, k1, k2, _⟩ := h1
    cases e2 : qb π with
    | stuck => trivial
    | exc x => rw [e2] at h2; simp only [k1, h2, Res.ok_bind, Res.exc_bind, PR.exc_bind, PR.ok_bind]
    | ok y =>
      rw [e2] at h2; obtain ⟨w, m1, m2, _⟩ := h2
      simp only [k1, m1, Res.ok_bind, PR.ok_bind, k2, m2, opt2B]
      cases f x y with
      | none => trivial
      | some t =>
        cases t with
        | false => rfl
        | true =>
          simp only [oP_some, PR.ok_bind, ofOB, Res.ok_bind, if_true]
          cases e3 : qc π with
          | stuck => trivial
          | exc x => rw [e3] at h3; simp only [h3, Res.exc_bind, PR.exc_bind]
          | ok z =>
            rw [e3] at h3; obtain ⟨w', n1, n2, _⟩ := h3
            simp only [n1, Res.ok_bind, PR.ok_bind, m2, n2, opt2B]
            cases f' y z <;> first | trivial | rfl
theorem ag_asV (ht : AgT bs t qt) : AgE bs (asV t) (qAsV qt) := fun b0 G ρ π r => by
  have h1 := ht b0 G ρ π r
  unfold qAsV asV
  cases e1 : qt π with
  | stuck => trivial
  | exc x => rw [e1] at h1; simp only [h1, Res.exc_bind, PR.exc_bind]
  | ok x => rw [e1] at h1; simp only [h1, Res.ok_bind, PR.ok_bind]
theorem ag_un {op : PV → Option PV} (ha : AgD bs a qa) : AgE bs (cUn op a) (qUn op qa) := fun b0 G ρ π r => by
  have h1 := ha b0 G ρ π r
  unfold qUn cUn
  cases e1 : qa π with
  | stuck => trivial
  | exc x => rw [e1] at h1; simp only [h1, Res.exc_bind, PR.exc_bind]
  | ok x =>
    rw [e1] at h1; obtain ⟨v, k1, k2, _⟩ := h1
    simp only [k1, Res.ok_bind, PR.ok_bind, k2, Option.bind]
    cases op x <;> first | trivial | rfl
theorem ag_frz {f : FF} {q : QF} (h : AgF bs f q) : AgE bs (cFrz f) (qFrz q) := fun b0 G ρ π r => by
  have h1 := h b0 G ρ π r
  unfold qFrz cFrz
  cases e1 : q π with
  | stuck => trivial
  | exc x => rw [e1] at h1; simp only [h1, Res.exc_bind, PR.exc_bind]
  | ok x => rw [e1] at h1; simp only [h1, Res.ok_bind, PR.ok_bind]
theorem ag_frzN {f : FN} {q : QE} (h : AgN bs f q) : AgE bs (cFrzN f) (qFrzN q) := fun b0 G ρ π r => by
  have h1 := h b0 G ρ π r
  unfold qFrzN cFrzN
  cases e1 : q π with
  | stuck => trivial
  | exc x => rw [e1] at h1; simp only [h1, Res.exc_bind]
  | ok x => rw [e1] at h1; obtain ⟨o, k, rfl⟩ := h1; simp only [k, Res.ok_bind]
theorem ag_nil : AgA bs cNil qNil := fun _ _ _ _ _ => rfl
theorem ag_cons (ha : AgE bs a qa) (hs : AgA bs as qs) : AgA bs (cCons a as) (qCons qa qs) := fun b0 G ρ π r => by
  have h1 := ha b0 G ρ π r
  have h2 := hs b0 G ρ π r
  unfold qCons cCons
  cases e1 : qa π with
  | stuck => trivial
  | exc x => rw [e1] at h1; simp only [h1, Res.exc_bind, PR.exc_bind]
  | ok x =>
    rw [e1] at h1
    cases e2 : qs π with
    | stuck => trivial
    | exc x => rw [e2] at h2; simp only [h1, h2, Res.ok_bind, Res.exc_bind, PR.exc_bind, PR.ok_bind]
    | ok y => rw [e2] at h2; simp only [h1, h2, Res.ok_bind, PR.ok_bind, List.map_cons]
theorem ag_nilD : AgAD bs cNil qNil := fun _ _ _ _ _ => ⟨[], rfl, rfl⟩
theorem ag_consD (ha : AgD bs a qa) (hs : AgAD bs as qs) : AgAD bs (cCons a as) (qCons qa qs) := fun b0 G ρ π r => by
  have h1 := ha b0 G ρ π r
  have h2 := hs b0 G ρ π r
  unfold qCons cCons
  cases e1 : qa π with
  | stuck => trivial
  | exc x => rw [e1] at h1; simp only [h1, Res.exc_bind, PR.exc_bind]
  | ok x =>
    rw [e1] at h1; obtain ⟨v, k1, k2, _⟩ := h1
    cases e2 : qs π with
    | stuck => trivial
    | exc x => rw [e2] at h2; simp only [k1, h2, Res.ok_bind, Res.exc_bind, PR.exc_bind, PR.ok_bind]
    | ok y =>
      rw [e2] at h2; obtain ⟨vs, m1, m2⟩ := h2
      refine ⟨v :: vs, by simp only [k1, m1, Res.ok_bind], ?_⟩
      simp only [derefs, k2, m2]
theorem items_of {G : Store} {v : Val} {p : PV} {xs : List PV} (h : deref G v = some p) (e : seqItems p = some xs) : itemsOf G v = some xs := by
  unfold itemsOf
  rw [h]
  unfold seqItems at e
  split at e <;> cases e <;> rfl
theorem ag_splice (ha : AgD bs a qa) (hs : AgA bs as qs) : AgA bs (cSplice a as) (qSplice qa qs) := fun b0 G ρ π r => by
  have h1 := ha b0 G ρ π r
  have h2 := hs b0 G ρ π r
  unfold qSplice cSplice
  cases e1 : qa π with
  | stuck => trivial
  | exc x => rw [e1] at h1; simp only [h1, Res.exc_bind, PR.exc_bind]
  | ok x =>
    rw [e1] at h1; obtain ⟨v, k1, k2, _⟩ := h1
    cases e3 : seqItems x with
    | none => simp only [PR.ok_bind, e3, oP_none, PR.stuck_bind]
    | some xs =>
      cases e2 : qs π with
      | stuck => simp only [PR.ok_bind, e3, oP_some, PR.stuck_bind]
      | exc x => rw [e2] at h2; simp only [k1, h2, Res.ok_bind, Res.exc_bind, PR.exc_bind, PR.ok_bind, e3, oP_some, items_of k2 e3]
      | ok y => rw [e2] at h2; simp only [k1, h2, Res.ok_bind, PR.ok_bind, List.map_append, e3, oP_some, items_of k2 e3]
theorem ag_few (hs : AgA bs as qs) : AgA bs (few as) (qFew qs) := fun b0 G ρ π r => by
  have h2 := hs b0 G ρ π r
  unfold qFew few
  cases e2 : qs π with
  | stuck => trivial
  | exc x => rw [e2] at h2; simp only [h2, Res.exc_bind, PR.exc_bind]
  | ok y =>
    rw [e2] at h2
    simp only [h2, Res.ok_bind, PR.ok_bind, List.length_map]
    by_cases q : y.length ≤ sizeLine
    · simp only [if_pos q]
    · simp only [if_neg q]
theorem pures_map : ∀ ps : List PV, cTup.pures (ps.map .pv) = some ps
  | [] => rfl
  | p :: ps => by
    show (cTup.pures (ps.map .pv)).map (p :: ·) = _
    rw [pures_map ps]; rfl
theorem derefs_map {G : Store} : ∀ ps : List PV, derefs G (ps.map .pv) = some ps
  | [] => rfl
  | p :: ps => by
    show (match deref G (.pv p), derefs G (ps.map .pv) with
      | some p, some ps => some (p :: ps)
      | _, _ => none) = _
    rw [derefs_map ps]; rfl
theorem AgA.d (h : AgA bs as qs) : AgAD bs as qs := fun b0 G ρ π r => by
  have h := h b0 G ρ π r
  cases e : qs π with
  | stuck => trivial
  | exc x => rw [e] at h; exact h
  | ok x => rw [e] at h; exact ⟨_, h, derefs_map x⟩
theorem ag_tup (hs : AgA bs as qs) : AgE bs (cTup as) (qTup qs) := fun b0 G ρ π r => by
  have h2 := hs b0 G ρ π r
  unfold qTup cTup
  cases e2 : qs π with
  | stuck => trivial
  | exc x => rw [e2] at h2; simp only [h2, Res.exc_bind, PR.exc_bind]
  | ok y => rw [e2] at h2; simp only [h2, Res.ok_bind, PR.ok_bind, pures_map, Option.map_some, ofO]
theorem ag_lst (hs : AgA bs as qs) : AgF bs (cLst as) (qLst qs) := fun b0 G ρ π r => by
  have h2 := hs b0 G ρ π r
  unfold qLst cLst
  cases e2 : qs π with
  | stuck => trivial
  | exc x => rw [e2] at h2; simp only [h2, Res.exc_bind]
  | ok y => rw [e2] at h2; simp only [h2, Res.ok_bind, pures_map, ofOL]
theorem ag_call {f : List PV → Option PV} (hs : AgAD bs as qs) : AgE bs (cCall f as) (qCall f qs) := fun b0 G ρ π r => by
  have h2 := hs b0 G ρ π r
  unfold qCall cCall
  cases e2 : qs π with
  | stuck => trivial
  | exc x => rw [e2] at h2; simp only [h2, Res.exc_bind, PR.exc_bind]
  | ok y =>
    rw [e2] at h2; obtain ⟨vs, m1, m2⟩ := h2
    simp only [m1, Res.ok_bind, PR.ok_bind, m2, Option.bind]
    cases f y <;> first | trivial | rfl
theorem ag_callF {f : List PV → Option (List PV)} (hs : AgAD bs as qs) : AgF bs (cCallF f as) (qCallF f qs) := fun b0 G ρ π r => by
  have h2 := hs b0 G ρ π r
  unfold qCallF cCallF
  cases e2 : qs π with
  | stuck => trivial
  | exc x => rw [e2] at h2; simp only [h2, Res.exc_bind, PR.exc_bind]
  | ok y =>
    rw [e2] at h2; obtain ⟨vs, m1, m2⟩ := h2
    simp only [m1, Res.ok_bind, PR.ok_bind, m2, Option.bind]
    cases f y <;> first | trivial | rfl
theorem ag_own {run : List Val → Store → Res Val} {p : List PV → PR PV} (h : AgFn run p) (hs : AgA bs as qs) : AgE bs (cOwn run as) (qOwn p qs) := fun b0 G ρ π r => by
  have h2 := hs b0 G ρ π r
  unfold qOwn cOwn
  cases e2 : qs π with
  | stuck => trivial
  | exc x => rw [e2] at h2; simp only [h2, Res.exc_bind, PR.exc_bind]
  | ok y =>
    rw [e2] at h2
    simp only [h2, Res.ok_bind, PR.ok_bind]
    exact h y G
theorem ag_if (ht : AgT bs t qt) (ha : AgE bs a qa) (hb : AgE bs b qb) : AgE bs (cIf t a b) (qIf qt qa qb) := fun b0 G ρ π r => by
  have h1 := ht b0 G ρ π r
  unfold qIf cIf
  cases e1 : qt π with
  | stuck => trivial
  | exc x => rw [e1] at h1; simp only [h1, Res.exc_bind, PR.exc_bind]
  | ok x =>
    rw [e1] at h1
    simp only [h1, Res.ok_bind, PR.ok_bind]
    cases x with
    | true => simp only [if_true]; exact ha b0 G ρ π r
    | false => simp only [Bool.false_eq_true, if_false]; exact hb b0 G ρ π r
theorem ag_andV (ha : AgE bs a qa) (hb : AgE bs b qb) : AgE bs (cAndV a b) (qAndV qa qb) := fun b0 G ρ π r => by
  have h1 := ha b0 G ρ π r
  unfold qAndV cAndV
  cases e1 : qa π with
  | stuck => trivial
  | exc x => rw [e1] at h1; simp only [h1, Res.exc_bind, PR.exc_bind]
  | ok x =>
    rw [e1] at h1
    simp only [h1, Res.ok_bind, PR.ok_bind]
    cases x <;> try exact trivial
    rename_i v
    cases v
    · rfl
    · exact hb b0 G ρ π r
theorem ag_orV (ha : AgE bs a qa) (hb : AgE bs b qb) : AgE bs (cOrV a b) (qOrV qa qb) := fun b0 G ρ π r => by
  have h1 := ha b0 G ρ π r
  unfold qOrV cOrV
  cases e1 : qa π with
  | stuck => trivial
  | exc x => rw [e1] at h1; simp only [h1, Res.exc_bind, PR.exc_bind]
  | ok x =>
    rw [e1] at h1
    simp only [h1, Res.ok_bind, PR.ok_bind]
    cases x <;> try exact trivial
    rename_i v
    cases v
    · exact hb b0 G ρ π r
    · rfl
theorem ag_notV (ha : AgE bs a qa) : AgE bs (cNotV a) (qNotV qa) := fun b0 G ρ π r => by
  have h1 := ha b0 G ρ π r
  unfold qNotV cNotV
  cases e1 : qa π with
  | stuck => trivial
  | exc x => rw [e1] at h1; simp only [h1, Res.exc_bind, PR.exc_bind]
  | ok x =>
    rw [e1] at h1
    simp only [h1, Res.ok_bind, PR.ok_bind]
    cases x <;> first | trivial | rfl
theorem ag_tru (ha : AgD bs a qa) : AgT bs (cTru a) (qTru qa) := fun b0 G ρ π r => by
  have h1 := ha b0 G ρ π r
  unfold qTru cTru
  cases e1 : qa π with
  | stuck => trivial
  | exc x => rw [e1] at h1; simp only [h1, Res.exc_bind, PR.exc_bind]
  | ok x =>
    rw [e1] at h1; obtain ⟨v, k1, k2, _⟩ := h1
    simp only [k1, Res.ok_bind, PR.ok_bind, k2, Option.bind]
    cases pyTruth x <;> first | trivial | rfl
theorem ag_notT (ht : AgT bs t qt) : AgT bs (cNotT t) (qNotT qt) := fun b0 G ρ π r => by
  have h1 := ht b0 G ρ π r
  unfold qNotT cNotT
  cases e1 : qt π with
  | stuck => trivial
  | exc x => rw [e1] at h1; simp only [h1, Res.exc_bind, PR.exc_bind]
  | ok x => rw [e1] at h1; simp only [h1, Res.ok_bind, PR.ok_bind]
theorem ag_andT (ht : AgT bs t qt) (hu : AgT bs u qu) : AgT bs (cAndT t u) (qAndT qt qu) := fun b0 G ρ π r => by
  have h1 := ht b0 G ρ π r
  unfold qAndT cAndT
  cases e1 : qt π with
  | stuck => trivial
  | exc x => rw [e1] at h1; simp only [h1, Res.exc_bind, PR.exc_bind]
  | ok x =>
    rw [e1] at h1
    simp only [h1, Res.ok_bind, PR.ok_bind]
    cases x
    · rfl
    · simp only [if_true]; exact hu b0 G ρ π r
theorem ag_orT (ht : AgT bs t qt) (hu : AgT bs u qu) : AgT bs (cOrT t u) (qOrT qt qu) := fun b0 G ρ π r => by
  have h1 := ht b0 G ρ π r
  unfold qOrT cOrT
  cases e1 : qt π with
  | stuck => trivial
  | exc x => rw [e1] at h1; simp only [h1, Res.exc_bind, PR.exc_bind]
  | ok x =>
    rw [e1] at h1
    simp only [h1, Res.ok_bind, PR.ok_bind]
    cases x
    · simp only [Bool.false_eq_true, if_false]; exact hu b0 G ρ π r
    · rfl
theorem ag_yes : AgT bs cYes qYes := fun _ _ _ _ _ => rfl
theorem ag_no : AgO bs oNo qNo := fun _ _ _ _ _ => rfl
theorem ag_at (ha : AgE bs a qa) : AgO bs (oAt a) (qAt qa) := fun b0 G ρ π r => by
  have h1 := ha b0 G ρ π r
  unfold qAt oAt
  cases e1 : qa π with
  | stuck => trivial
  | exc x => rw [e1] at h1; simp only [h1, Res.exc_bind, PR.exc_bind]
  | ok x =>
    rw [e1] at h1
    simp only [h1, Res.ok_bind, PR.ok_bind]
    cases x <;> first | trivial | rfl
theorem ag_sl {fl fh : FO} {ql qh : QO} (ha : AgD bs a qa) (hl : AgO bs fl ql) (hh : AgO bs fh qh) : AgE bs (cSl a fl fh) (qSl qa ql qh) := fun b0 G ρ π r => by
  have h1 := ha b0 G ρ π r
  have h2 := hl b0 G ρ π r
  have h3 := hh b0 G ρ π r
  unfold qSl cSl
  cases e1 : qa π with
  | stuck => trivial
  | exc x => rw [e1] at h1; simp only [h1, Res.exc_bind, PR.exc_bind]
  | ok x =>
    rw [e1] at h1; obtain ⟨v, k1, k2, _⟩ := h1
    cases e2 : ql π with
    | stuck => trivial
    | exc x => rw [e2] at h2; simp only [k1, h2, Res.ok_bind, Res.exc_bind, PR.exc_bind, PR.ok_bind]
    | ok y =>
      rw [e2] at h2
      cases e3 : qh π with
      | stuck => trivial
      | exc x => rw [e3] at h3; simp only [k1, h2, h3, Res.ok_bind, Res.exc_bind, PR.exc_bind, PR.ok_bind]
      | ok z =>
        rw [e3] at h3
        simp only [k1, h2, h3, Res.ok_bind, PR.ok_bind, k2, Option.bind]
        cases pySlice x y z <;> first | trivial | rfl
theorem ag_slF {fl fh : FO} {ql qh : QO} (ha : AgD bs a qa) (hl : AgO bs fl ql) (hh : AgO bs fh qh) : AgF bs (cSlF a fl fh) (qSlF qa ql qh) := fun b0 G ρ π r => by
  have h1 := ha b0 G ρ π r
  have h2 := hl b0 G ρ π r
  have h3 := hh b0 G ρ π r
  unfold qSlF cSlF
  cases e1 : qa π with
  | stuck => trivial
  | exc x => rw [e1] at h1; simp only [h1, Res.exc_bind, PR.exc_bind]
  | ok x =>
    rw [e1] at h1; obtain ⟨v, k1, k2, _⟩ := h1
    cases e2 : ql π with
    | stuck => trivial
    | exc x => rw [e2] at h2; simp only [k1, h2, Res.ok_bind, Res.exc_bind, PR.exc_bind, PR.ok_bind]
    | ok y =>
      rw [e2] at h2
      cases e3 : qh π with
      | stuck => trivial
      | exc x => rw [e3] at h3; simp only [k1, h2, h3, Res.ok_bind, Res.exc_bind, PR.exc_bind, PR.ok_bind]
      | ok z =>
        rw [e3] at h3
        simp only [k1, h2, h3, Res.ok_bind, PR.ok_bind, k2, Option.bind]
        cases pySliceL x y z <;> first | trivial | rfl

/-! ### items -/
theorem ag_seq (ha : AgD bs a qa) : AgI bs (iSeq a) (qSeq qa) := fun b0 G ρ π r => by
  have h1 := ha b0 G ρ π r
  unfold qSeq iSeq
  cases e1 : qa π with
  | stuck => trivial
  | exc x => rw [e1] at h1; simp only [h1, Res.exc_bind, PR.exc_bind]
  | ok x =>
    rw [e1] at h1; obtain ⟨v, k1, k2, k3⟩ := h1
    simp only [k1, Res.ok_bind, PR.ok_bind]
    rcases k3 with rfl | ⟨j, rfl, _⟩
    · cases x <;> first | trivial | exact ⟨none, rfl, fun _ => rfl⟩
    · unfold deref at k2
      dsimp only at k2
      cases e : G[j]? with
      | none => rw [e] at k2; cases k2
      | some o =>
        rw [e] at k2
        cases o with
        | lst xs =>
          cases k2
          refine ⟨some j, by simp only [e], fun G' => ?_⟩
          unfold guardOk
          dsimp only
          rw [List.getElem?_append_left (List.getElem?_eq_some_iff.mp e).1, e]
          simp
        | dct ks vs => cases k2; trivial
        | ins c ns vs => cases k2; trivial
theorem ag_seqJ (ha : AgE bs a qa) : AgJ bs (iSeq a) (qSeq qa) := fun b0 G ρ π r => by
  have h1 := ha b0 G ρ π r
  unfold qSeq iSeq
  cases e1 : qa π with
  | stuck => trivial
  | exc x => rw [e1] at h1; simp only [h1, Res.exc_bind, PR.exc_bind]
  | ok x =>
    rw [e1] at h1
    simp only [h1, Res.ok_bind, PR.ok_bind]
    cases x <;> first | trivial | rfl
theorem ag_icallJ {f : List PV → Option (List PV)} (hs : AgAD bs as qs) : AgJ bs (iCall f as) (qICall f qs) := fun b0 G ρ π r => by
  have h2 := hs b0 G ρ π r
  unfold qICall iCall
  cases e2 : qs π with
  | stuck => trivial
  | exc x => rw [e2] at h2; simp only [h2, Res.exc_bind, PR.exc_bind]
  | ok y =>
    rw [e2] at h2; obtain ⟨vs, m1, m2⟩ := h2
    simp only [m1, Res.ok_bind, PR.ok_bind, m2, Option.bind]
    cases f y <;> first | trivial | rfl
theorem ag_ivalsJ {f : List Val → Option (List PV)} (hs : AgA bs as qs) : AgJ bs (iVals f as) (qIVals f qs) := fun b0 G ρ π r => by
  have h2 := hs b0 G ρ π r
  unfold qIVals iVals
  cases e2 : qs π with
  | stuck => trivial
  | exc x => rw [e2] at h2; simp only [h2, Res.exc_bind, PR.exc_bind]
  | ok y =>
    rw [e2] at h2
    simp only [h2, Res.ok_bind, PR.ok_bind]
    cases f (y.map .pv) <;> first | trivial | rfl
theorem AgJ.i {f : FI} {q : QF} (h : AgJ bs f q) : AgI bs f q := fun b0 G ρ π r => by
  have h := h b0 G ρ π r
  cases e : q π with
  | stuck => trivial
  | exc x => rw [e] at h; exact h
  | ok x => rw [e] at h; exact ⟨none, h, fun _ => rfl⟩

/-! ### comprehensions -/
theorem lc_go {tgt : Tgt} {te : FE} {qe : QE} (hs : ∀ i ∈ tgt.slots, i ∉ bs) (ht : AgT bs t qt) (he : AgE bs te qe) {b0 : Nat} {G : Store} {ρ : Fr} {π : PFr} (r : RelF bs b0 G ρ π) {it : Items} (hg : ∀ G', guardOk it.guard it.xs (G ++ G') = true) :
    ∀ (xs acc : List PV) (ps : List PV), lcP tgt qt qe π xs = .ok ps → acc.length + xs.length ≤ sizeLine → lcLoop it tgt t te G.length ρ xs (G ++ [.lst acc]) = .ok () (G ++ [.lst (acc ++ ps)])
  | [], acc, ps, e, _ => by
    cases e
    unfold lcLoop
    rw [hg, if_pos rfl]
    simp
  | x :: xs, acc, ps, e, hl => by
    unfold lcP at e
    simp only [List.length_cons] at hl
    cases e1 : bindP tgt x π with
    | none => rw [e1] at e; cases e
    | some π' =>
      rw [e1] at e
      obtain ⟨ρ', k1, r'⟩ := r.bind hs e1
      have r2 := r'.grow (G' := [.lst acc])
      have h1 := ht b0 _ ρ' π' r2
      simp only [oP_some, PR.ok_bind] at e
      unfold lcLoop
      rw [hg, if_pos rfl, k1]
      dsimp only
      cases e2 : qt π' with
      | stuck => rw [e2] at e; cases e
      | exc y => rw [e2] at e; cases e
      | ok c =>
        rw [e2] at h1 e
        simp only [noXP_ok, PR.ok_bind] at e
        rw [h1]
        simp only [noX, Res.ok_bind]
        cases c with
        | false =>
          simp only [Bool.false_eq_true, if_false] at e ⊢
          exact lc_go hs ht he r hg xs acc ps e (by omega)
        | true =>
          simp only [if_true] at e ⊢
          have h2 := he b0 _ ρ' π' r2
          cases e3 : qe π' with
          | stuck => rw [e3] at e; cases e
          | exc y => rw [e3] at e; cases e
          | ok p =>
            rw [e3] at h2 e
            simp only [noXP_ok, PR.ok_bind] at e
            cases e4 : lcP tgt qt qe π xs with
            | stuck => rw [e4] at e; cases e
            | exc y => rw [e4] at e; cases e
            | ok qs =>
              rw [e4] at e
              cases e
              rw [h2]
              simp only [Res.ok_bind]
              have g1 : (G ++ [Ob.lst acc])[G.length]? = some (.lst acc) := by simp
              have g2 : (G ++ [Ob.lst acc]).set G.length (.lst (acc ++ [p])) = G ++ [.lst (acc ++ [p])] := by simp
              rw [g1]
              dsimp only
              rw [if_pos (by omega), g2, lc_go hs ht he r hg xs (acc ++ [p]) qs e4 (by simp; omega)]
              simp
theorem noexc_lc {tgt : Tgt} {qe : QE} {π : PFr} : ∀ (xs : List PV) (e : Exc), lcP tgt qt qe π xs ≠ .exc e
  | [], e, h => by cases h
  | x :: xs, e, h => by
    unfold lcP at h
    cases e1 : bindP tgt x π with
    | none => rw [e1] at h; cases h
    | some π' =>
      rw [e1] at h
      simp only [oP_some, PR.ok_bind] at h
      cases e2 : qt π' with
      | stuck => rw [e2] at h; cases h
      | exc y => rw [e2] at h; cases h
      | ok c =>
        rw [e2] at h
        cases c with
        | false => exact noexc_lc xs e h
        | true =>
          simp only [noXP_ok, PR.ok_bind, if_true] at h
          cases e3 : qe π' with
          | stuck => rw [e3] at h; cases h
          | exc y => rw [e3] at h; cases h
          | ok p =>
            rw [e3] at h
            simp only [noXP_ok, PR.ok_bind] at h
            cases e4 : lcP tgt qt qe π xs with
            | stuck => rw [e4] at h; cases h
            | exc y => exact noexc_lc xs y e4
            | ok qs => rw [e4] at h; cases h
theorem ag_lc {fi : FI} {qi : QF} {own : List Nat} {tgt : Tgt} {te : FE} {qe : QE} (hs : ∀ i ∈ tgt.slots, i ∉ bs) (hi : AgI bs fi qi) (ht : AgT bs t qt) (he : AgE bs te qe) : AgF bs (cLc fi own tgt t te) (qLc qi own tgt qt qe) := fun b0 G ρ π r => by
  have h1 := hi b0 G ρ π r
  unfold qLc cLc
  cases e1 : qi π with
  | stuck => trivial
  | exc x => rw [e1] at h1; simp only [h1, Res.exc_bind, PR.exc_bind]
  | ok xs =>
    rw [e1] at h1; obtain ⟨g, k1, k2⟩ := h1
    simp only [k1, Res.ok_bind, PR.ok_bind]
    by_cases q : xs.length ≤ sizeLine
    · simp only [if_pos q]
      cases e2 : lcP tgt qt qe (wipeP π own) xs with
      | stuck => trivial
      | exc x => exact absurd e2 (noexc_lc xs x)
      | ok ps =>
        dsimp only
        rw [lc_go (it := ⟨xs, g⟩) hs ht he (r.wipe own) k2 xs [] ps e2 (by simpa using q)]
        simp only [Res.ok_bind]
        simp
    · simp only [if_neg q]
theorem dc_go {tgt : Tgt} {tk te : FE} {qk qe : QE} (hs : ∀ i ∈ tgt.slots, i ∉ bs) (ht : AgT bs t qt) (hk : AgE bs tk qk) (he : AgE bs te qe) {b0 : Nat} {G : Store} {ρ : Fr} {π : PFr} (r : RelF bs b0 G ρ π) {it : Items} (hg : ∀ G', guardOk it.guard it.xs (G ++ G') = true) :
    ∀ (xs ks vs : List PV) (p : PV), dcP tgt qt qk qe π xs ks vs = .ok p → ∃ ks' vs', dcLoop it tgt t tk te G.length ρ xs (G ++ [.dct ks vs]) = .ok () (G ++ [.dct ks' vs']) ∧ p = .dct ks' vs'
  | [], ks, vs, p, e => by
    cases e
    refine ⟨ks, vs, ?_, rfl⟩
    unfold dcLoop
    rw [hg, if_pos rfl]
  | x :: xs, ks, vs, p, e => by
    unfold dcP at e
    cases e1 : bindP tgt x π with
    | none => rw [e1] at e; cases e
    | some π' =>
      rw [e1] at e
      obtain ⟨ρ', k1, r'⟩ := r.bind hs e1
      have r2 := r'.grow (G' := [.dct ks vs])
      have h1 := ht b0 _ ρ' π' r2
      simp only [oP_some, PR.ok_bind] at e
      unfold dcLoop
      simp only [hg, if_true, k1]
      cases e2 : qt π' with
      | stuck => rw [e2] at e; cases e
      | exc y => rw [e2] at e; cases e
      | ok c =>
        rw [e2] at h1 e
        simp only [noXP_ok, PR.ok_bind] at e
        simp only [h1, noX, Res.ok_bind]
        cases c with
        | false =>
          simp only [Bool.false_eq_true, if_false] at e ⊢
          exact dc_go hs ht hk he r hg xs ks vs p e
        | true =>
          simp only [if_true] at e ⊢
          have h2 := hk b0 _ ρ' π' r2
          have h3 := he b0 _ ρ' π' r2
          cases e3 : qk π' with
          | stuck => rw [e3] at e; cases e
          | exc y => rw [e3] at e; cases e
          | ok k =>
            rw [e3] at h2 e
            simp only [noXP_ok, PR.ok_bind] at e
            simp only [h2, Res.ok_bind]
            cases e4 : qe π' with
            | stuck => rw [e4] at e; cases e
            | exc y => rw [e4] at e; cases e
            | ok v =>
              rw [e4] at h3 e
              simp only [noXP_ok, PR.ok_bind] at e
              have g1 : (G ++ [Ob.dct ks vs])[G.length]? = some (.dct ks vs) := by simp
              simp only [h3, Res.ok_bind, g1]
              by_cases c : (keyOk ks k && decide (ks.length < sizeLine)) = true
              · rw [if_pos c] at e ⊢
                have g2 : (G ++ [Ob.dct ks vs]).set G.length (.dct (gPut ks vs k v).1 (gPut ks vs k v).2) = G ++ [.dct (gPut ks vs k v).1 (gPut ks vs k v).2] := by simp
                rw [g2]
                exact dc_go hs ht hk he r hg xs _ _ p e
              · rw [if_neg c] at e; cases e
theorem noexc_dc {tgt : Tgt} {qk qe : QE} {π : PFr} : ∀ (xs ks vs : List PV) (e : Exc), dcP tgt qt qk qe π xs ks vs ≠ .exc e
  | [], ks, vs, e, h => by cases h
  | x :: xs, ks, vs, e, h => by
    unfold dcP at h
    cases e1 : bindP tgt x π with
    | none => rw [e1] at h; cases h
    | some π' =>
      rw [e1] at h
      simp only [oP_some, PR.ok_bind] at h
      cases e2 : qt π' with
      | stuck => rw [e2] at h; cases h
      | exc y => rw [e2] at h; cases h
      | ok c =>
        rw [e2] at h
        cases c with
        | false => exact noexc_dc xs ks vs e h
        | true =>
          simp only [noXP_ok, PR.ok_bind, if_true] at h
          cases e3 : qk π' with
          | stuck => rw [e3] at h; cases h
          | exc y => rw [e3] at h; cases h
          | ok k =>
            rw [e3] at h
            simp only [noXP_ok, PR.ok_bind] at h
            cases e4 : qe π' with
            | stuck => rw [e4] at h; cases h
            | exc y => rw [e4] at h; cases h
            | ok v =>
              rw [e4] at h
              simp only [noXP_ok, PR.ok_bind] at h
              split at h
              · exact noexc_dc xs _ _ e h
              · cases h
theorem ag_dc {fi : FI} {qi : QF} {own : List Nat} {tgt : Tgt} {tk te : FE} {qk qe : QE} (hs : ∀ i ∈ tgt.slots, i ∉ bs) (hi : AgI bs fi qi) (ht : AgT bs t qt) (hk : AgE bs tk qk) (he : AgE bs te qe) : AgN bs (cDc fi own tgt t tk te) (qDc qi own tgt qt qk qe) := fun b0 G ρ π r => by
  have h1 := hi b0 G ρ π r
  unfold qDc cDc
  cases e1 : qi π with
  | stuck => trivial
  | exc x => rw [e1] at h1; simp only [h1, Res.exc_bind, PR.exc_bind]
  | ok xs =>
    rw [e1] at h1; obtain ⟨g, k1, k2⟩ := h1
    simp only [k1, Res.ok_bind, PR.ok_bind]
    cases e2 : dcP tgt qt qk qe (wipeP π own) xs [] [] with
    | stuck => trivial
    | exc x => exact absurd e2 (noexc_dc xs _ _ x)
    | ok p =>
      obtain ⟨ks', vs', k3, rfl⟩ := dc_go (it := ⟨xs, g⟩) hs ht hk he (r.wipe own) k2 xs [] [] p e2
      refine ⟨.dct ks' vs', ?_, rfl⟩
      rw [k3]
      simp only [Res.ok_bind]
      simp
end
end Ev

end
section
set_option maxRecDepth 100000
set_option maxHeartbeats 4000000
/-! Ev Pr: statements agree with their pure readings; defs -/
namespace Ev
open PySem PySem.Spec
section
variable {bs : List Nat} {a b c : FE} {qa qb qc : QE} {as : FA} {qs : QA} {t u : FT} {qt qu : QT} {s s' : FS} {w w' : QS}
theorem ags_skip : AgS bs sSkip tSkip := fun b0 G ρ π r => ⟨ρ, G, rfl, r, rfl⟩
theorem ags_break : AgS bs sBreak tBreak := fun b0 G ρ π r => ⟨ρ, G, rfl, r, rfl⟩
theorem ags_cont : AgS bs sCont tCont := fun b0 G ρ π r => ⟨ρ, G, rfl, r, rfl⟩
theorem ags_seq (h : AgS bs s w) (h' : AgS bs s' w') : AgS bs (sSeq s s') (tSeq w w') := fun b0 G ρ π r => by
  have h1 := h b0 G ρ π r
  unfold tSeq sSeq
  cases e : w π with
  | next π1 =>
    rw [e] at h1
    obtain ⟨ρ1, G1, k1, k2, k3⟩ := h1
    have h2 := h' b0 G1 ρ1 π1 k2
    simp only [k1]
    cases e2 : w' π1 with
    | next π2 => rw [e2] at h2; obtain ⟨ρ2, G2, m1, m2, m3⟩ := h2; exact ⟨ρ2, G2, m1, m2, m3.trans k3⟩
    | brk π2 => rw [e2] at h2; obtain ⟨ρ2, G2, m1, m2, m3⟩ := h2; exact ⟨ρ2, G2, m1, m2, m3.trans k3⟩
    | cont π2 => rw [e2] at h2; obtain ⟨ρ2, G2, m1, m2, m3⟩ := h2; exact ⟨ρ2, G2, m1, m2, m3.trans k3⟩
    | ret p => rw [e2] at h2; obtain ⟨v, G2, m1, m2, m3, m4⟩ := h2; exact ⟨v, G2, m1, m2, m3, m4.trans k3⟩
    | exc x => rw [e2] at h2; obtain ⟨ρ2, G2, m1, m2⟩ := h2; exact ⟨ρ2, G2, m1, m2.trans k3⟩
    | stuck => trivial
  | brk π1 => rw [e] at h1; obtain ⟨ρ1, G1, k1, k2, k3⟩ := h1; exact ⟨ρ1, G1, by simp only [k1], k2, k3⟩
  | cont π1 => rw [e] at h1; obtain ⟨ρ1, G1, k1, k2, k3⟩ := h1; exact ⟨ρ1, G1, by simp only [k1], k2, k3⟩
  | ret p => rw [e] at h1; obtain ⟨v, G1, k1, k2, k3, k4⟩ := h1; exact ⟨v, G1, by simp only [k1], k2, k3, k4⟩
  | exc x => rw [e] at h1; obtain ⟨ρ1, G1, k1, k2⟩ := h1; exact ⟨ρ1, G1, by simp only [k1], k2⟩
  | stuck => trivial
theorem ags_expr (ha : AgD bs a qa) : AgS bs (sExpr a) (tExpr qa) := fun b0 G ρ π r => by
  have h1 := ha b0 G ρ π r
  unfold tExpr sExpr
  cases e1 : qa π with
  | stuck => trivial
  | exc x => rw [e1] at h1; exact ⟨ρ, G, by simp only [h1, ofR], rfl⟩
  | ok x => rw [e1] at h1; obtain ⟨v, k1, _⟩ := h1; exact ⟨ρ, G, by simp only [k1, ofR], r, rfl⟩
theorem ags_ret (ha : AgD bs a qa) : AgS bs (sRet a) (tRet qa) := fun b0 G ρ π r => by
  have h1 := ha b0 G ρ π r
  unfold tRet sRet
  cases e1 : qa π with
  | stuck => trivial
  | exc x => rw [e1] at h1; exact ⟨ρ, G, by simp only [h1, ofR], rfl⟩
  | ok x => rw [e1] at h1; obtain ⟨v, k1, k2, k3⟩ := h1; exact ⟨v, G, by simp only [k1, ofR], k2, k3, rfl⟩
theorem ags_retN : AgS bs sRetN tRetN := fun b0 G ρ π r => ⟨.pv .non, G, rfl, rfl, .inl rfl, rfl⟩
theorem ags_if (ht : AgT bs t qt) (h : AgS bs s w) (h' : AgS bs s' w') : AgS bs (sIf t s s') (tIf qt w w') := fun b0 G ρ π r => by
  have h1 := ht b0 G ρ π r
  unfold tIf sIf
  cases e1 : qt π with
  | stuck => trivial
  | exc x => rw [e1] at h1; exact ⟨ρ, G, by simp only [h1, ofR], rfl⟩
  | ok x =>
    rw [e1] at h1
    simp only [h1, ofR, PS.ofR_ok]
    cases x with
    | true => simp only [if_true]; exact h b0 G ρ π r
    | false => simp only [Bool.false_eq_true, if_false]; exact h' b0 G ρ π r
theorem ags_set {i : Nat} (hi : i ∉ bs) (ha : AgE bs a qa) : AgS bs (sSet i a) (tSet i qa) := fun b0 G ρ π r => by
  have h1 := ha b0 G ρ π r
  unfold tSet sSet
  cases e1 : qa π with
  | stuck => trivial
  | exc x => rw [e1] at h1; exact ⟨ρ, G, by simp only [h1, ofR], rfl⟩
  | ok x => rw [e1] at h1; exact ⟨_, G, by simp only [h1, ofR], r.setP hi x, rfl⟩
theorem RelF.newBox {b0 : Nat} {G : Store} {ρ : Fr} {π : PFr} (r : RelF bs b0 G ρ π) {i : Nat} (hi : i ∈ bs) (o : Ob) : RelF bs b0 (G ++ [o]) (ρ.set i (some (.box G.length))) (π.set i (some (freeze o))) := by
  have r2 := r.grow (G' := [o])
  have self : ∀ {j : Nat}, (ρ.set i (some (Val.box G.length)))[i]? = some (some (.box j)) → j = G.length := fun {j} h => by
    have hl : i < ρ.length := by
      have := (List.getElem?_eq_some_iff.mp h).1
      simpa using this
    rw [List.getElem?_set_self hl] at h
    cases h; rfl
  refine ⟨by simp [r.len], r2.low, fun k q h => ?_, fun k k' j hk hk' h h' => ?_, fun k j hk h => ?_⟩
  · by_cases e : i = k
    · subst e
      have hl : i < π.length := by
        have := (List.getElem?_eq_some_iff.mp h).1
        simpa using this
      rw [List.getElem?_set_self hl] at h
      cases h
      exact .inr ⟨G.length, o, hi, by rw [List.getElem?_set_self (by rw [r.len]; exact hl)], r.low, by simp, rfl⟩
    · rw [List.getElem?_set_ne e] at h
      rw [List.getElem?_set_ne e]
      exact r2.at_ k q h
  · by_cases e : i = k
    · subst e
      by_cases e' : i = k'
      · exact e'
      · rw [List.getElem?_set_ne e'] at h'
        have := r.bd k' j hk' h'
        have := self h
        omega
    · rw [List.getElem?_set_ne e] at h
      by_cases e' : i = k'
      · subst e'
        have := r.bd k j hk h
        have := self h'
        omega
      · rw [List.getElem?_set_ne e'] at h'
        exact r.inj k k' j hk hk' h h'
  · by_cases e : i = k
    · subst e
      have := self h
      simp; omega
    · rw [List.getElem?_set_ne e] at h
      exact r2.bd k j hk h
theorem ags_setBox {i : Nat} {f : FF} {q : QF} (hi : i ∈ bs) (hf : AgF bs f q) : AgS bs (sSetBox i f) (tSet i (qFrz q)) := fun b0 G ρ π r => by
  have h1 := hf b0 G ρ π r
  unfold tSet sSetBox qFrz
  cases e1 : q π with
  | stuck => trivial
  | exc x => rw [e1] at h1; exact ⟨ρ, G, by simp only [h1, ofR], rfl⟩
  | ok xs => rw [e1] at h1; exact ⟨_, G ++ [.lst xs], by simp only [h1, ofR], r.newBox hi (.lst xs), by rw [List.take_append_of_le_length r.low]⟩
theorem ags_setBoxN {i : Nat} {f : FN} {q : QE} (hi : i ∈ bs) (hf : AgN bs f q) : AgS bs (sSetBoxN i f) (tSet i (qFrzN q)) := fun b0 G ρ π r => by
  have h1 := hf b0 G ρ π r
  unfold tSet sSetBoxN qFrzN
  cases e1 : q π with
  | stuck => trivial
  | exc x => rw [e1] at h1; exact ⟨ρ, G, by simp only [h1, ofR], rfl⟩
  | ok p =>
    rw [e1] at h1
    obtain ⟨o, k, rfl⟩ := h1
    exact ⟨_, G ++ [o], by simp only [k, ofR], r.newBox hi o, by rw [List.take_append_of_le_length r.low]⟩
theorem ags_setTup {is : List Nat} (hi : ∀ i ∈ is, i ∉ bs) (ha : AgE bs a qa) : AgS bs (sSetTup is a) (tSetTup is qa) := fun b0 G ρ π r => by
  have h1 := ha b0 G ρ π r
  unfold tSetTup sSetTup
  cases e1 : qa π with
  | stuck => trivial
  | exc x => rw [e1] at h1; exact ⟨ρ, G, by simp only [h1, ofR], rfl⟩
  | ok x =>
    rw [e1] at h1
    simp only [h1, ofR, PS.ofR_ok]
    cases x <;> try exact trivial
    rename_i ps
    dsimp only
    cases e2 : setAllP is ps π with
    | none => trivial
    | some π' =>
      obtain ⟨ρ', k1, k2⟩ := r.setAll hi e2
      exact ⟨ρ', G, by simp only [k1], k2, rfl⟩
theorem RelF.seqSet {b0 : Nat} {G : Store} : ∀ {is : List Nat} {vs : List PV} {ρ : Fr} {π : PFr}, (∀ i ∈ is, i ∉ bs) → RelF bs b0 G ρ π → RelF bs b0 G (Ev.seqSet is (vs.map .pv) ρ) (seqSetP is vs π)
  | [], vs, ρ, π, _, r => by cases vs <;> exact r
  | _ :: _, [], ρ, π, _, r => r
  | i :: is, v :: vs, ρ, π, hi, r => RelF.seqSet (is := is) (vs := vs) (fun k hk => hi k (List.mem_cons_of_mem _ hk)) (r.setP (hi i (List.mem_cons_self ..)) v)
theorem ags_parN {is : List Nat} (hi : ∀ i ∈ is, i ∉ bs) (ha : AgA bs as qs) : AgS bs (sParN is as) (tParN is qs) := fun b0 G ρ π r => by
  have h1 := ha b0 G ρ π r
  unfold tParN sParN
  cases e1 : qs π with
  | stuck => trivial
  | exc x => rw [e1] at h1; exact ⟨ρ, G, by simp only [h1, ofR], rfl⟩
  | ok vs =>
    rw [e1] at h1
    simp only [h1, ofR, PS.ofR_ok, List.length_map]
    by_cases q : vs.length = is.length
    · simp only [if_pos q]
      refine ⟨_, G, rfl, ?_, rfl⟩
      rw [← List.map_reverse]
      exact r.seqSet (fun k hk => hi k (List.mem_reverse.mp hk))
    · simp only [if_neg q]
/-- a box is written -/
theorem RelF.write {b0 : Nat} {G : Store} {ρ : Fr} {π : PFr} (r : RelF bs b0 G ρ π) {i j : Nat} (hi : i ∈ bs) (hj : ρ[i]? = some (some (.box j))) (hb : b0 ≤ j) (o : Ob) : RelF bs b0 (G.set j o) ρ (π.set i (some (freeze o))) := by
  have hjl := r.bd i j hi hj
  refine ⟨by simp [r.len], by simpa using r.low, fun k q h => ?_, r.inj, fun k j' hk h => by simpa using r.bd k j' hk h⟩
  by_cases e : i = k
  · subst e
    have hl : i < π.length := by
      have := (List.getElem?_eq_some_iff.mp h).1
      simpa using this
    rw [List.getElem?_set_self hl] at h
    cases h
    exact .inr ⟨j, o, hi, hj, hb, by rw [List.getElem?_set_self hjl], rfl⟩
  · rw [List.getElem?_set_ne e] at h
    rcases r.at_ k q h with z | ⟨j', o', h1, h2, h3, h4, h5⟩
    · exact .inl z
    · refine .inr ⟨j', o', h1, h2, h3, ?_, h5⟩
      rw [List.getElem?_set_ne (fun z => e (r.inj i k j hi h1 hj (by rw [z]; exact h2)))]
      exact h4
theorem ag_meth {i : Nat} {app : Bool} {m : List PV → List PV → Option (PV × List PV)} (hi : i ∈ bs) (ha : if app then AgA bs as qs else AgAD bs as qs) : AgS bs (sExpr (cMeth app m (cVar i) as)) (tMeth i m qs) := fun b0 G ρ π r => by
  unfold tMeth sExpr cMeth
  cases e : π[i]? with
  | none => trivial
  | some o1 =>
    cases o1 with
    | none => trivial
    | some p =>
      cases p <;> try exact trivial
      rename_i xs
      dsimp only
      rcases r.at_ i _ e with ⟨z, _⟩ | ⟨j, o, _, h2, h3, h4, h5⟩
      · exact absurd hi z
      · have ho : o = .lst xs := by cases o <;> simp [freeze] at h5; rw [h5]
        subst ho
        have hv : cVar i ρ G = .ok (.box j) G := by unfold cVar; rw [h2]
        have key : match qs π with
          | .ok ps => ∃ vs, as ρ G = .ok vs G ∧ (if app then cTup.pures vs else derefs G vs) = some ps
          | .exc x => as ρ G = .exc x G
          | .stuck => True := by
          cases app with
          | true =>
            have h1 := (show AgA bs as qs from ha) b0 G ρ π r
            cases e1 : qs π with
            | stuck => trivial
            | exc x => rw [e1] at h1; exact h1
            | ok ps => rw [e1] at h1; exact ⟨_, h1, pures_map ps⟩
          | false =>
            have h1 := (show AgAD bs as qs from ha) b0 G ρ π r
            cases e1 : qs π with
            | stuck => trivial
            | exc x => rw [e1] at h1; exact h1
            | ok ps => rw [e1] at h1; exact h1
        cases e1 : qs π with
        | stuck => trivial
        | exc x =>
          rw [e1] at key
          refine ⟨ρ, G, ?_, rfl⟩
          simp only [hv, Res.ok_bind, h4, key, Res.exc_bind, ofR]
        | ok ps =>
          rw [e1] at key
          obtain ⟨vs, k1, k2⟩ := key
          simp only [PS.ofR_ok]
          cases e2 : m xs ps with
          | none => trivial
          | some y =>
            refine ⟨ρ, G.set j (.lst y.2), ?_, r.write hi h2 h3 (.lst y.2), ?_⟩
            · simp only [hv, Res.ok_bind, h4, k1, k2, e2, ofR]
            · rw [List.take_set_of_le h3]
theorem for_go {tgt : Tgt} {fb : FS} {qb : QS} (hs : ∀ i ∈ tgt.slots, i ∉ bs) (h : AgS bs fb qb) {it : Items} (hg : it.guard = none) {b0 : Nat} : ∀ (xs : List PV) (G : Store) (ρ : Fr) (π : PFr), RelF bs b0 G ρ π → (match forP tgt qb xs π with
  | .next π' => ∃ ρ' G', forLoop it tgt fb xs ρ G = .next ρ' G' ∧ RelF bs b0 G' ρ' π' ∧ G'.take b0 = G.take b0
  | .brk π' => False
  | .cont π' => False
  | .ret p => ∃ v G', forLoop it tgt fb xs ρ G = .ret v G' ∧ deref G' v = some p ∧ (v = .pv p ∨ ∃ j, v = .box j ∧ b0 ≤ j) ∧ G'.take b0 = G.take b0
  | .exc x => ∃ ρ' G', forLoop it tgt fb xs ρ G = .exc x ρ' G' ∧ G'.take b0 = G.take b0
  | .stuck => True)
  | [], G, ρ, π, r => by
    unfold forP forLoop
    exact ⟨ρ, G, by rw [hg]; rfl, r, rfl⟩
  | x :: xs, G, ρ, π, r => by
    unfold forP forLoop
    cases e1 : bindP tgt x π with
    | none => trivial
    | some π' =>
      obtain ⟨ρ', k1, r'⟩ := r.bind hs e1
      have h1 := h b0 G ρ' π' r'
      simp only [hg, guardOk, if_true, k1]
      have go : ∀ G1 ρ1 π1, RelF bs b0 G1 ρ1 π1 → G1.take b0 = G.take b0 → match forP tgt qb xs π1 with
        | .next π' => ∃ ρ' G', forLoop it tgt fb xs ρ1 G1 = .next ρ' G' ∧ RelF bs b0 G' ρ' π' ∧ G'.take b0 = G.take b0
        | .brk π' => False
        | .cont π' => False
        | .ret p => ∃ v G', forLoop it tgt fb xs ρ1 G1 = .ret v G' ∧ deref G' v = some p ∧ (v = .pv p ∨ ∃ j, v = .box j ∧ b0 ≤ j) ∧ G'.take b0 = G.take b0
        | .exc x => ∃ ρ' G', forLoop it tgt fb xs ρ1 G1 = .exc x ρ' G' ∧ G'.take b0 = G.take b0
        | .stuck => True := fun G1 ρ1 π1 r1 t1 => by
        have := for_go hs h hg xs G1 ρ1 π1 r1
        rw [t1] at this
        exact this
      cases e2 : qb π' with
      | next π1 =>
        rw [e2] at h1
        obtain ⟨ρ1, G1, m1, m2, m3⟩ := h1
        simp only [m1]
        exact go G1 ρ1 π1 m2 m3
      | cont π1 =>
        rw [e2] at h1
        obtain ⟨ρ1, G1, m1, m2, m3⟩ := h1
        simp only [m1]
        exact go G1 ρ1 π1 m2 m3
      | brk π1 =>
        rw [e2] at h1
        obtain ⟨ρ1, G1, m1, m2, m3⟩ := h1
        exact ⟨ρ1, G1, by simp only [m1], m2, m3⟩
      | ret p =>
        rw [e2] at h1
        obtain ⟨v, G1, m1, m2, m3, m4⟩ := h1
        exact ⟨v, G1, by simp only [m1], m2, m3, m4⟩
      | exc y =>
        rw [e2] at h1
        obtain ⟨ρ1, G1, m1, m2⟩ := h1
        exact ⟨ρ1, G1, by simp only [m1], m2⟩
      | stuck => trivial
theorem ags_for {fi : FI} {qi : QF} {tgt : Tgt} (hs : ∀ i ∈ tgt.slots, i ∉ bs) (hi : AgJ bs fi qi) (h : AgS bs s w) : AgS bs (sFor fi tgt s) (tFor qi tgt w) := fun b0 G ρ π r => by
  have h1 := hi b0 G ρ π r
  unfold tFor sFor
  cases e1 : qi π with
  | stuck => trivial
  | exc x => rw [e1] at h1; exact ⟨ρ, G, by simp only [h1, ofR], rfl⟩
  | ok xs =>
    rw [e1] at h1
    simp only [h1, ofR, PS.ofR_ok]
    have h2 := for_go hs h (it := ⟨xs, none⟩) rfl xs G ρ π r
    cases e2 : forP tgt w xs π with
    | next π' => rw [e2] at h2; exact h2
    | brk π' => rw [e2] at h2; exact h2.elim
    | cont π' => rw [e2] at h2; exact h2.elim
    | ret p => rw [e2] at h2; exact h2
    | exc y => rw [e2] at h2; exact h2
    | stuck => trivial
/-- a def -/
theorem ag_fn {N : List Str} {ps n : Nat} (hn : N.length = n) (hp : ∀ i ∈ bs, ps ≤ i) (h : AgS bs s w) : AgFn (fnSem false N s) (fnP ps n w) := fun vs G => by
  unfold fnP fnSem
  by_cases hl : vs.length = ps
  · rw [if_pos hl]
    have r : RelF bs G.length G (startF N (vs.map .pv)) (vs.map some ++ List.replicate (n - vs.length) none) := by
      have pv : ∀ {i : Nat} {o : Option Val}, (startF N (vs.map .pv))[i]? = some o → o = none ∨ ∃ p, o = some (.pv p) := fun {i o} e => by
        unfold startF at e
        rcases List.mem_append.mp (List.mem_of_getElem? e) with q | q
        · obtain ⟨v, hv, rfl⟩ := List.mem_map.mp q
          obtain ⟨p, _, rfl⟩ := List.mem_map.mp hv
          exact .inr ⟨p, rfl⟩
        · exact .inl (List.eq_of_mem_replicate q)
      refine ⟨by simp [startF, hn], Nat.le_refl _, fun i p e => ?_, fun i i' j _ _ e _ => ?_, fun i j _ e => ?_⟩
      · have hi : i < vs.length := by
          by_cases q : i < vs.length
          · exact q
          · rw [List.getElem?_append_right (by simpa using q)] at e
            have := List.eq_of_mem_replicate (List.mem_of_getElem? e)
            cases this
        refine .inl ⟨fun hb => by have := hp i hb; omega, ?_⟩
        rw [List.getElem?_append_left (by simpa using hi)] at e
        unfold startF
        rw [List.getElem?_append_left (by simpa using hi)]
        have e1 : vs[i]? = some p := by simpa using e
        simp [e1]
      · rcases pv e with q | ⟨p, q⟩ <;> cases q
      · rcases pv e with q | ⟨p, q⟩ <;> cases q
    have h1 := h G.length G _ _ r
    cases e : w (vs.map some ++ List.replicate (n - vs.length) none) with
    | next π' =>
      rw [e] at h1
      obtain ⟨ρ', G', k1, _, k3⟩ := h1
      simp only [k1, k3, List.take_length]
    | ret p =>
      rw [e] at h1
      obtain ⟨v, G', k1, k2, k3, k4⟩ := h1
      simp only [k1]
      unfold leave
      rcases k3 with rfl | ⟨j, rfl, hj⟩
      · cases k2
        simp only [k4, List.take_length]
      · simp only [if_neg (show ¬ j < G.length by omega)]
        unfold deref at k2
        dsimp only at k2
        cases q : G'[j]? with
        | none => rw [q] at k2; cases k2
        | some o =>
          rw [q] at k2
          simp only [Bool.false_eq_true, if_false, k4, List.take_length]
          cases o <;> · cases k2; rfl
    | exc x =>
      rw [e] at h1
      obtain ⟨ρ', G', k1, k2⟩ := h1
      simp only [k1, k2, List.take_length]
    | brk π' => trivial
    | cont π' => trivial
    | stuck => trivial
  · rw [if_neg hl]
    trivial
/-- a dead branch -/
theorem ags_dead : AgS bs s tDead := fun _ _ _ _ _ => trivial
theorem ag_deadE : AgE bs a qStuck := fun _ _ _ _ _ => trivial
end
end Ev

end
section
set_option maxRecDepth 100000
set_option maxHeartbeats 4000000
/-! Ev Ps: nested tuples of texts (sh k: k deep), what operators give on them -/
namespace Ev
open PySem PySem.Spec PyProof.Rows
/-- a text (k = 0); a tuple of such, k deep -/
def sh : Nat → PV → Bool
  | 0, .str z => PyData.strOk z
  | k + 1, .tup xs => xs.all (sh k)
  | _, _ => false
theorem sh_tup {k : Nat} {p : PV} (h : sh (k + 1) p = true) : ∃ xs, p = .tup xs ∧ ∀ x ∈ xs, sh k x = true := by
  cases p <;> try (simp [sh] at h; done)
  rename_i xs
  exact ⟨xs, rfl, by simpa [sh] using h⟩
theorem sh_str {p : PV} (h : sh 0 p = true) : ∃ z, p = .str z ∧ PyData.strOk z = true := by
  cases p <;> first | (simp [sh] at h; done) | exact ⟨_, rfl, h⟩
theorem sh_of {k : Nat} {xs : List PV} (h : ∀ x ∈ xs, sh k x = true) : sh (k + 1) (.tup xs) = true := by simpa [sh] using h
theorem sh_mem {k : Nat} {xs : List PV} (h : sh (k + 1) (.tup xs) = true) : ∀ x ∈ xs, sh k x = true := by simpa [sh] using h
theorem datas_of : ∀ {xs : List PV}, (∀ x ∈ xs, x.data = some (enc x)) → PV.datas xs = some (xs.map enc)
  | [], _ => rfl
  | x :: xs, h => by
    simp only [PV.datas, h x (List.mem_cons_self ..), datas_of fun y hy => h y (List.mem_cons_of_mem _ hy), List.map_cons]
theorem lays_of : ∀ {xs : List PyData}, (∀ x ∈ xs, x.canLay0 = true) → PyData.canLayAll0 xs = true
  | [], _ => by simp [PyData.canLayAll0]
  | x :: xs, h => by
    simp only [PyData.canLayAll0, h x (List.mem_cons_self ..), Bool.true_and]
    exact lays_of fun y hy => h y (List.mem_cons_of_mem _ hy)
theorem deps_of {k : Nat} : ∀ {xs : List PyData}, (∀ x ∈ xs, x.depth ≤ k) → PyData.depthAll xs ≤ k
  | [], _ => by simp [PyData.depthAll]
  | x :: xs, h => by
    simp only [PyData.depthAll]
    exact Nat.max_le.mpr ⟨h x (List.mem_cons_self ..), deps_of fun y hy => h y (List.mem_cons_of_mem _ hy)⟩
theorem enc_tup {xs : List PV} (h : ∀ x ∈ xs, x.data = some (enc x)) : (PV.tup xs).data = some (.tuple (xs.map enc)) ∧ enc (.tup xs) = .tuple (xs.map enc) := by
  have e : (PV.tup xs).data = some (.tuple (xs.map enc)) := by simp only [PV.data, datas_of h, Option.map_some]
  exact ⟨e, by unfold enc; rw [e]; rfl⟩
theorem enc_lst {xs : List PV} (h : ∀ x ∈ xs, x.data = some (enc x)) : (PV.lst xs).data = some (.list (xs.map enc)) ∧ enc (.lst xs) = .list (xs.map enc) := by
  have e : (PV.lst xs).data = some (.list (xs.map enc)) := by simp only [PV.data, datas_of h, Option.map_some]
  exact ⟨e, by unfold enc; rw [e]; rfl⟩
theorem sh_data : ∀ {k : Nat} {p : PV}, sh k p = true → p.data = some (enc p) ∧ (enc p).canLay0 = true ∧ (enc p).depth ≤ k
  | 0, p, h => by
    obtain ⟨z, rfl, hz⟩ := sh_str h
    refine ⟨rfl, ?_, ?_⟩
    · show (PyData.str z).canLay0 = true
      simpa [PyData.canLay0] using hz
    · show (PyData.str z).depth ≤ 0
      simp [PyData.depth]
  | k + 1, p, h => by
    obtain ⟨xs, rfl, hx⟩ := sh_tup h
    have d := fun x hx' => (sh_data (hx x hx'))
    obtain ⟨e1, e2⟩ := enc_tup fun x hx => (d x hx).1
    rw [e2]
    refine ⟨e1, ?_, ?_⟩
    · simp only [PyData.canLay0]
      exact lays_of fun y hy => by obtain ⟨x, hx, rfl⟩ := List.mem_map.mp hy; exact (d x hx).2.1
    · simp only [PyData.depth]
      have := deps_of (k := k) (xs := xs.map enc) fun y hy => by obtain ⟨x, hx, rfl⟩ := List.mem_map.mp hy; exact (d x hx).2.2
      omega
theorem sh_ok {k : Nat} {p : PV} (h : sh k p = true) (hk : k ≤ 64) : okD (enc p) = true := by
  obtain ⟨_, h2, h3⟩ := sh_data h
  unfold okD SeqAt.shaped
  rw [h2, Bool.true_and]
  exact decide_eq_true (by omega)
theorem alikes_of : ∀ {xs ys : List PV}, (∀ x ∈ xs, ∀ y ∈ ys, PySem.W.alike (enc x) (enc y) = true) → PySem.W.alikeAll (xs.map enc) (ys.map enc) = true
  | [], ys, _ => by simp [PySem.W.alikeAll]
  | x :: xs, [], _ => by simp [PySem.W.alikeAll]
  | x :: xs, y :: ys, h => by
    simp only [List.map_cons, PySem.W.alikeAll, h x (List.mem_cons_self ..) y (List.mem_cons_self ..), Bool.true_and]
    exact alikes_of fun a ha b hb => h a (List.mem_cons_of_mem _ ha) b (List.mem_cons_of_mem _ hb)
theorem sh_alike : ∀ {k : Nat} {p q : PV}, sh k p = true → sh k q = true → PySem.W.alike (enc p) (enc q) = true
  | 0, p, q, h, h' => by
    obtain ⟨z, rfl, _⟩ := sh_str h
    obtain ⟨z', rfl, _⟩ := sh_str h'
    show PySem.W.alike (.str z) (.str z') = true
    simp [PySem.W.alike]
  | k + 1, p, q, h, h' => by
    obtain ⟨xs, rfl, hx⟩ := sh_tup h
    obtain ⟨ys, rfl, hy⟩ := sh_tup h'
    rw [(enc_tup fun x hx' => (sh_data (hx x hx')).1).2, (enc_tup fun x hx' => (sh_data (hy x hx')).1).2]
    simp only [PySem.W.alike]
    exact alikes_of fun x hx' y hy' => sh_alike (hx x hx') (hy y hy')
theorem eqv_self {p : PV} (h : (enc p).canLay0 = true) : PyData.eqv (enc p) (enc p) = true := SeqAt.eqv_refl _ h
theorem sh_eqv {k : Nat} {p q : PV} (h : sh k p = true) (h' : sh k q = true) : PyData.eqv (enc p) (enc q) = decide (p = q) := by
  by_cases e : p = q
  · subst e
    rw [eqv_self (sh_data h).2.1]; simp
  · rw [decide_eq_false e]
    cases z : PyData.eqv (enc p) (enc q) with
    | false => rfl
    | true =>
      have := alike_eqv _ _ (sh_alike h h') z
      exact absurd (enc_inj (by rw [(sh_data h).1]; rfl) (by rw [(sh_data h').1]; rfl) this) e
theorem sh_eq {k : Nat} {p q : PV} (h : sh k p = true) (h' : sh k q = true) (hk : k ≤ 64) : pyEq p q = some (decide (p = q)) := by
  unfold pyEq
  rw [(sh_data h).1, (sh_data h').1]
  simp only [sh_ok h hk, sh_ok h' hk, Bool.and_self, if_true, sh_eqv h h']
theorem sh_ne {k : Nat} {p q : PV} (h : sh k p = true) (h' : sh k q = true) (hk : k ≤ 64) : pyNe p q = some (decide (p ≠ q)) := by
  unfold pyNe
  rw [sh_eq h h' hk]
  simp
theorem any_eqv {k : Nat} {x : PV} (h : sh k x = true) : ∀ {ys : List PV}, (∀ y ∈ ys, sh k y = true) → (ys.map enc).any (fun z => PyData.eqv z (enc x)) = decide (x ∈ ys)
  | [], _ => by simp
  | y :: ys, h' => by
    simp only [List.map_cons, List.any_cons, any_eqv h fun z hz => h' z (List.mem_cons_of_mem _ hz), sh_eqv (h' y (List.mem_cons_self ..)) h, List.mem_cons]
    by_cases e : y = x
    · subst e; simp
    · have e' : ¬ x = y := fun z => e z.symm
      simp [e, e']
theorem sh_inT {k : Nat} {x : PV} {ys : List PV} (h : sh k x = true) (h' : ∀ y ∈ ys, sh k y = true) (hk : k < 64) : pyIn2 x (.tup ys) = some (decide (x ∈ ys)) := by
  have ht := sh_of h'
  have e := enc_tup fun y hy => (sh_data (h' y hy)).1
  have o := sh_ok ht (by omega)
  unfold pyIn2 pyIn
  simp only [(sh_data h).1, datas_of fun y hy => (sh_data (h' y hy)).1]
  rw [e.2] at o
  simp only [sh_ok h (by omega), o, Bool.and_self, if_true, any_eqv h h']
theorem lst_ok {k : Nat} {ys : List PV} (h' : ∀ y ∈ ys, sh k y = true) (hk : k < 64) : (PV.lst ys).data = some (.list (ys.map enc)) ∧ okD (.list (ys.map enc)) = true := by
  have e := enc_lst fun y hy => (sh_data (h' y hy)).1
  have e2 := enc_tup fun y hy => (sh_data (h' y hy)).1
  refine ⟨e.1, ?_⟩
  obtain ⟨_, h2, h3⟩ := sh_data (sh_of h')
  rw [e2.2] at h2 h3
  unfold okD SeqAt.shaped
  simp only [PyData.canLay0] at h2 ⊢
  simp only [PyData.depth] at h3 ⊢
  rw [h2, Bool.true_and]
  exact decide_eq_true (by omega)
theorem sh_inL {k : Nat} {x : PV} {ys : List PV} (h : sh k x = true) (h' : ∀ y ∈ ys, sh k y = true) (hk : k < 64) : pyIn2 x (.lst ys) = some (decide (x ∈ ys)) := by
  have o := (lst_ok h' hk).2
  unfold pyIn2 pyIn
  simp only [(sh_data h).1, datas_of fun y hy => (sh_data (h' y hy)).1]
  simp only [sh_ok h (by omega), o, Bool.and_self, if_true, any_eqv h h']
theorem sh_ninT {k : Nat} {x : PV} {ys : List PV} (h : sh k x = true) (h' : ∀ y ∈ ys, sh k y = true) (hk : k < 64) : pyNotIn2 x (.tup ys) = some (decide (x ∉ ys)) := by
  unfold pyNotIn2; rw [sh_inT h h' hk]; simp
theorem sh_ninL {k : Nat} {x : PV} {ys : List PV} (h : sh k x = true) (h' : ∀ y ∈ ys, sh k y = true) (hk : k < 64) : pyNotIn2 x (.lst ys) = some (decide (x ∉ ys)) := by
  unfold pyNotIn2; rw [sh_inL h h' hk]; simp
theorem eqvs_sh {k : Nat} : ∀ {xs ys : List PV}, (∀ x ∈ xs, sh k x = true) → (∀ y ∈ ys, sh k y = true) → PyData.eqvAll (xs.map enc) (ys.map enc) = decide (xs = ys)
  | [], [], _, _ => by simp [PyData.eqvAll]
  | [], _ :: _, _, _ => by simp [PyData.eqvAll]
  | _ :: _, [], _, _ => by simp [PyData.eqvAll]
  | x :: xs, y :: ys, h, h' => by
    simp only [List.map_cons, PyData.eqvAll, sh_eqv (h x (List.mem_cons_self ..)) (h' y (List.mem_cons_self ..)), eqvs_sh (fun z hz => h z (List.mem_cons_of_mem _ hz)) (fun z hz => h' z (List.mem_cons_of_mem _ hz)), List.cons.injEq, Bool.decide_and]
theorem sh_eqL {k : Nat} {xs ys : List PV} (h : ∀ x ∈ xs, sh k x = true) (h' : ∀ y ∈ ys, sh k y = true) (hk : k < 64) : pyEq (.lst xs) (.lst ys) = some (decide (xs = ys)) := by
  have a := lst_ok h hk
  have b := lst_ok h' hk
  unfold pyEq
  rw [a.1, b.1]
  simp only [a.2, b.2, Bool.and_self, if_true, PyData.eqv, eqvs_sh h h']
theorem sh_neL {k : Nat} {xs ys : List PV} (h : ∀ x ∈ xs, sh k x = true) (h' : ∀ y ∈ ys, sh k y = true) (hk : k < 64) : pyNe (.lst xs) (.lst ys) = some (decide (xs ≠ ys)) := by
  unfold pyNe; rw [sh_eqL h h' hk]; simp
theorem ones_ok (n : Nat) : PV.datas (List.replicate n (.int 1)) = some (List.replicate n (.int 1)) ∧ PyData.canLayAll0 (List.replicate n (.int 1)) = true ∧ PyData.depthAll (List.replicate n (.int 1)) = 0 := by
  induction n with
  | zero => exact ⟨rfl, by simp [PyData.canLayAll0], by simp [PyData.depthAll]⟩
  | succ n ih =>
    refine ⟨?_, ?_, ?_⟩
    · rw [List.replicate_succ]; simp only [PV.datas, PV.data, ih.1]; rfl
    · rw [List.replicate_succ]; simp only [PyData.canLayAll0, PyData.canLay0, ih.2.1]; rfl
    · rw [List.replicate_succ]; simp only [PyData.depthAll, PyData.depth, ih.2.2]; rfl
/-- [1 for ..] == [] -/
theorem eq_ones {α : Type} (l : List α) : pyEq (.lst (l.map fun _ => .int 1)) (.lst []) = some l.isEmpty := by
  rw [List.map_const']
  obtain ⟨a1, a2, a3⟩ := ones_ok l.length
  have ok1 : okD (.list (List.replicate l.length (.int 1))) = true := by
    unfold okD SeqAt.shaped
    simp only [PyData.canLay0, a2, PyData.depth, a3]
    rfl
  have ok0 : okD (.list []) = true := by unfold okD SeqAt.shaped; simp [PyData.canLay0, PyData.canLayAll0, PyData.depth, PyData.depthAll]
  unfold pyEq
  simp only [PV.data, a1, Option.map_some, ok1, PV.datas, ok0, Bool.and_self, if_true, PyData.eqv]
  cases l with
  | nil => simp [PyData.eqvAll]
  | cons x l => simp [List.replicate_succ, PyData.eqvAll]
/-! ### keys of dicts -/
theorem sh_nest : ∀ {k : Nat} {p : PV}, sh k p = true → ∃ n, nestK p = some n ∧ n.depth ≤ k
  | 0, p, h => by
    obtain ⟨z, rfl, _⟩ := sh_str h
    exact ⟨.text z, by simp [nestK], by simp [NestedKey.depth]⟩
  | k + 1, p, h => by
    obtain ⟨xs, rfl, hx⟩ := sh_tup h
    have key : ∀ l : List PV, (∀ x ∈ l, sh k x = true) → ∃ ns, nestKs l = some ns ∧ NestedKey.depthAll ns ≤ k := fun l => by
      induction l with
      | nil => intro _; exact ⟨[], by simp [nestKs], by simp [NestedKey.depthAll]⟩
      | cons x l ih =>
        intro hl
        obtain ⟨n, e1, d1⟩ := sh_nest (hl x (List.mem_cons_self ..))
        obtain ⟨ns, e2, d2⟩ := ih fun y hy => hl y (List.mem_cons_of_mem _ hy)
        exact ⟨n :: ns, by simp [nestKs, e1, e2], by simp only [NestedKey.depthAll]; exact Nat.max_le.mpr ⟨d1, d2⟩⟩
    obtain ⟨ns, e, d⟩ := key xs hx
    exact ⟨.tup ns, by simp [nestK, e], by simp only [NestedKey.depth]; omega⟩
theorem sh_tupK {k : Nat} {p : PV} (h : sh (k + 1) p = true) (hk : k < 8) : (tupK p).isSome = true := by
  obtain ⟨n, e, d⟩ := sh_nest h
  obtain ⟨xs, rfl, hx⟩ := sh_tup h
  unfold nestK at e
  cases q : nestKs xs with
  | none => rw [q] at e; cases e
  | some ns =>
    rw [q] at e
    cases e
    unfold tupK
    simp only [q]
    rw [if_pos (by omega)]
    rfl
theorem sh_tupKs {k : Nat} (hk : k < 8) : ∀ {ps : List PV}, (∀ p ∈ ps, sh (k + 1) p = true) → (tupKs ps).isSome = true
  | [], _ => rfl
  | p :: ps, h => by
    have h1 := sh_tupK (h p (List.mem_cons_self ..)) hk
    have h2 := sh_tupKs hk fun y hy => h y (List.mem_cons_of_mem _ hy)
    unfold tupKs
    obtain ⟨a, ha⟩ := Option.isSome_iff_exists.mp h1
    obtain ⟨b, hb⟩ := Option.isSome_iff_exists.mp h2
    rw [ha, hb]; rfl
theorem sh_keyOk {k : Nat} {ks : List PV} {p : PV} (h : ∀ p ∈ ks, sh (k + 1) p = true) (h' : sh (k + 1) p = true) (hk : k < 8) : keyOk ks p = true := by
  unfold keyOk
  rw [sh_tupKs hk h, sh_tupK h' hk]
  simp
theorem sh_flatKs : ∀ {ps : List PV}, (∀ p ∈ ps, sh 0 p = true) → (flatKs ps).isSome = true
  | [], _ => rfl
  | p :: ps, h => by
    obtain ⟨z, rfl, _⟩ := sh_str (h p (List.mem_cons_self ..))
    have h2 := sh_flatKs fun y hy => h y (List.mem_cons_of_mem _ hy)
    obtain ⟨b, hb⟩ := Option.isSome_iff_exists.mp h2
    unfold flatKs
    rw [hb]; rfl
theorem sh_keyOk0 {ks : List PV} {p : PV} (h : ∀ p ∈ ks, sh 0 p = true) (h' : sh 0 p = true) : keyOk ks p = true := by
  obtain ⟨z, rfl, _⟩ := sh_str h'
  unfold keyOk
  rw [sh_flatKs h]
  rfl
theorem sh_inD {k : Nat} {x : PV} {ks vs : List PV} (h : sh (k + 1) x = true) (h' : ∀ y ∈ ks, sh (k + 1) y = true) (hk : k < 8) : pyIn2 x (.dct ks vs) = some (decide (x ∈ ks)) := by
  unfold pyIn2 pyInD
  simp only [sh_keyOk h' h hk, if_true]
theorem sh_inD0 {x : PV} {ks vs : List PV} (h : sh 0 x = true) (h' : ∀ y ∈ ks, sh 0 y = true) : pyIn2 x (.dct ks vs) = some (decide (x ∈ ks)) := by
  unfold pyIn2 pyInD
  simp only [sh_keyOk0 h' h, if_true]
/-! ### order -/
def plt (a b : PV) : Bool := PySem.W.dataLt (enc a) (enc b)
def ple (a b : PV) : Bool := !plt b a
theorem ple_eq : PySem.W.dataLe false enc = ple := PySem.W.dataLe_eq false enc
theorem plt_str (a b : Str) : plt (.str a) (.str b) = strLt a b := by
  have h := congrFun (congrFun (PySem.W.dataLe_str (β := Str) id) b) a
  rw [PySem.W.dataLe_eq] at h
  simp only [cond_false, id] at h
  unfold plt strLt
  show PySem.W.dataLt (.str a) (.str b) = _
  have h2 : PySem.W.dataLt (.str a) (.str b) = !decide (b.cps.toList ≤ a.cps.toList) := by rw [← h]; simp
  rw [h2]
  by_cases e : a.cps.toList < b.cps.toList
  · have : ¬ b.cps.toList ≤ a.cps.toList := fun z => z e
    simp [e, this]
  · have : b.cps.toList ≤ a.cps.toList := e
    simp [e, this]
theorem notNone_tup {xs : List PV} (h : ∀ x ∈ xs, x.data = some (enc x)) : notNone (enc (.tup xs)) = true := by
  rw [(enc_tup h).2]; rfl
theorem sh_notNone {k : Nat} {p : PV} (h : sh k p = true) : notNone (enc p) = true := by
  cases k with
  | zero => obtain ⟨z, rfl, _⟩ := sh_str h; rfl
  | succ k =>
    obtain ⟨xs, rfl, hx⟩ := sh_tup h
    exact notNone_tup fun x hx' => (sh_data (hx x hx')).1
theorem sh_lt {k : Nat} {p q : PV} (h : sh k p = true) (h' : sh k q = true) (hk : k ≤ 64) : pyLtB p q = some (plt p q) := by
  cases k with
  | zero =>
    obtain ⟨z, rfl, _⟩ := sh_str h
    obtain ⟨z', rfl, _⟩ := sh_str h'
    rw [plt_str]; rfl
  | succ k =>
    obtain ⟨xs, rfl, hx⟩ := sh_tup h
    obtain ⟨ys, rfl, hy⟩ := sh_tup h'
    show pyLt _ _ = _
    unfold pyLt
    rw [(sh_data h).1, (sh_data h').1]
    simp only [sh_ok h hk, sh_ok h' hk, sh_alike h h', sh_notNone h, Bool.and_self, if_true]
    rfl
theorem sh_sortable {k : Nat} {xs : List PV} (h : ∀ x ∈ xs, sh k x = true) (hk : k ≤ 64) (hl : xs.length ≤ sizeLine) : sortable xs = true := by
  unfold sortable
  rw [decide_eq_true hl, Bool.true_and, List.all_eq_true]
  intro x hx
  simp only [(sh_data (h x hx)).1, sh_ok (h x hx) hk, sh_notNone (h x hx), Option.isSome_some, Bool.and_self, Bool.true_and, List.all_eq_true]
  exact fun y hy => sh_alike (h x hx) (h y hy)
theorem plt_irrefl (a : PV) : plt a a = false := lex_irrefl _
theorem plt_trans {a b c : PV} (h1 : plt a b = true) (h2 : plt b c = true) : plt a c = true := lex_trans _ _ _ h1 h2
theorem sh_tri {k : Nat} {p q : PV} (h : sh k p = true) (h' : sh k q = true) (h1 : plt p q = false) (h2 : plt q p = false) : p = q :=
  enc_inj (by rw [(sh_data h).1]; rfl) (by rw [(sh_data h').1]; rfl) (lt_tri (sh_alike h h') h1 h2)
theorem sh_sort {k : Nat} {xs : List PV} (h : ∀ x ∈ xs, sh k x = true) (hk : k ≤ 64) (hl : xs.length ≤ sizeLine) : pySorted [.lst xs] = some (pySort xs) := by
  unfold pySorted
  simp only [sh_sortable h hk hl, if_true]
theorem mem_pySort {x : PV} {xs : List PV} : x ∈ pySort xs ↔ x ∈ xs := (pySort_perm xs).mem_iff
theorem len_pySort {xs : List PV} : (pySort xs).length = xs.length := (pySort_perm xs).length_eq
/-- ascending -/
def asc (xs : List PV) : Bool := match xs with
  | [] => true
  | [_] => true
  | a :: b :: r => plt a b && asc (b :: r)
theorem asc_of_pw : ∀ {xs : List PV}, xs.Pairwise (fun a b => plt a b = true) → asc xs = true
  | [], _ => rfl
  | [_], _ => rfl
  | a :: b :: r, h => by
    obtain ⟨h1, h2⟩ := List.pairwise_cons.mp h
    simp only [asc, h1 b (List.mem_cons_self ..), asc_of_pw h2, Bool.and_self]
theorem pw_of_asc : ∀ {xs : List PV}, asc xs = true → xs.Pairwise (fun a b => plt a b = true)
  | [], _ => .nil
  | [_], _ => List.pairwise_singleton ..
  | a :: b :: r, h => by
    simp only [asc, Bool.and_eq_true] at h
    have ih := pw_of_asc h.2
    refine List.pairwise_cons.mpr ⟨fun c hc => ?_, ih⟩
    rcases List.mem_cons.mp hc with rfl | hc
    · exact h.1
    · exact plt_trans h.1 ((List.pairwise_cons.mp ih).1 c hc)
theorem asc_nodup {xs : List PV} (h : asc xs = true) : xs.Nodup := (pw_of_asc h).imp fun {a b} q e => by
  subst e
  rw [plt_irrefl] at q; cases q
theorem asc_sub {xs ys : List PV} (h : asc xs = true) (s : ys.Sublist xs) : asc ys = true := asc_of_pw ((pw_of_asc h).sublist s)
theorem asc_filter {xs : List PV} {f : PV → Bool} (h : asc xs = true) : asc (xs.filter f) = true := asc_sub h (List.filter_sublist ..)
/-- sorting lists without a double gives ascending ones -/
theorem asc_pySort {k : Nat} {xs : List PV} (h : ∀ x ∈ xs, sh k x = true) (nd : xs.Nodup) : asc (pySort xs) = true := by
  have p := pySort_pairwise xs
  rw [ple_eq] at p
  have nd' : (pySort xs).Nodup := (pySort_perm xs).nodup_iff.mpr nd
  refine asc_of_pw ?_
  have both := p.and nd'
  refine both.imp_of_mem fun {a b} ha hb q => ?_
  cases z : plt a b with
  | true => rfl
  | false =>
    have q1 : plt b a = false := by simpa [ple] using q.1
    exact absurd (sh_tri (h a (mem_pySort.mp ha)) (h b (mem_pySort.mp hb)) z q1) q.2
/-- what is ascending with the same members is the same -/
theorem asc_ext {xs ys : List PV} (h : asc xs = true) (h' : asc ys = true) (e : ∀ x, x ∈ xs ↔ x ∈ ys) : xs = ys := by
  refine eq_of_sorted ((List.perm_ext_iff_of_nodup (asc_nodup h) (asc_nodup h')).mpr e) (pw_of_asc h) (pw_of_asc h') fun a _ b _ h1 h2 => ?_
  have := plt_trans h1 h2
  rw [plt_irrefl] at this
  cases this
theorem pySort_asc {k : Nat} {xs : List PV} (h : ∀ x ∈ xs, sh k x = true) (a : asc xs = true) : pySort xs = xs :=
  asc_ext (asc_pySort h (asc_nodup a)) a fun _ => mem_pySort
/-! ### comprehensions -/
theorem lcP_map {tgt : Tgt} {qt : QT} {qe : QE} {π : PFr} (f : PV → Bool) (g : PV → PV) : ∀ (xs : List PV), (∀ x ∈ xs, ∃ π', bindP tgt x π = some π' ∧ qt π' = .ok (f x) ∧ (f x = true → qe π' = .ok (g x))) → lcP tgt qt qe π xs = .ok ((xs.filter f).map g)
  | [], _ => rfl
  | x :: xs, h => by
    obtain ⟨π', h1, h2, h3⟩ := h x (List.mem_cons_self ..)
    unfold lcP
    rw [h1]
    simp only [oP_some, PR.ok_bind, h2, noXP_ok]
    have ih := lcP_map f g xs fun y hy => h y (List.mem_cons_of_mem _ hy)
    cases q : f x with
    | false => simp [q, ih]
    | true => simp [q, ih, h3 q]
theorem lcP_all {tgt : Tgt} {qe : QE} {π : PFr} (g : PV → PV) (xs : List PV) (h : ∀ x ∈ xs, ∃ π', bindP tgt x π = some π' ∧ qe π' = .ok (g x)) : lcP tgt qYes qe π xs = .ok (xs.map g) := by
  rw [lcP_map (qt := qYes) (fun _ => true) g xs fun x hx => let ⟨π', h1, h2⟩ := h x hx; ⟨π', h1, rfl, fun _ => h2⟩]
  rw [List.filter_eq_self.mpr fun _ _ => rfl]
/-- the keys of a dict made one by one -/
def ddk : List PV → List PV → List PV
  | ks, [] => ks
  | ks, x :: xs => ddk (if x ∈ ks then ks else ks ++ [x]) xs
theorem mem_ddk {x : PV} : ∀ {xs ks : List PV}, x ∈ ddk ks xs ↔ x ∈ ks ∨ x ∈ xs
  | [], ks => by simp [ddk]
  | y :: xs, ks => by
    unfold ddk
    rw [mem_ddk]
    by_cases h : y ∈ ks
    · rw [if_pos h, List.mem_cons]
      exact ⟨fun q => q.elim .inl fun z => .inr (.inr z), fun q => q.elim .inl fun z => z.elim (fun e => .inl (e ▸ h)) .inr⟩
    · rw [if_neg h, List.mem_append, List.mem_singleton, List.mem_cons, or_assoc]
theorem nodup_ddk : ∀ {xs ks : List PV}, ks.Nodup → (ddk ks xs).Nodup
  | [], ks, h => h
  | y :: xs, ks, h => by
    unfold ddk
    by_cases q : y ∈ ks
    · rw [if_pos q]; exact nodup_ddk h
    · rw [if_neg q]
      exact nodup_ddk (List.nodup_append.mpr ⟨h, by simp, fun a ha b hb => by rw [List.mem_singleton.mp hb]; exact fun e => q (e ▸ ha)⟩)
theorem len_ddk : ∀ {xs ks : List PV}, (ddk ks xs).length ≤ ks.length + xs.length
  | [], ks => by simp [ddk]
  | y :: xs, ks => by
    unfold ddk
    have := len_ddk (xs := xs) (ks := if y ∈ ks then ks else ks ++ [y])
    split at this <;> simp at this ⊢ <;> split <;> simp_all <;> omega
theorem gPut_ks {β : Type} : ∀ {ks : List PV} {vs : List β} {k : PV} {v : β}, ks.length = vs.length → (gPut ks vs k v).1 = if k ∈ ks then ks else ks ++ [k]
  | [], [], _, _, _ => rfl
  | [], _ :: _, _, _, h => by cases h
  | _ :: _, [], _, _, h => by cases h
  | k0 :: ks, v0 :: vs, k, v, h => by
    unfold gPut
    by_cases e : k0 = k
    · subst e; simp
    · have e' : ¬ k = k0 := fun z => e z.symm
      rw [if_neg e, gPut_ks (by simpa using h)]
      simp only [List.mem_cons, e', false_or]
      split <;> simp
/-- a dict comprehension whose key is the item: its keys -/
theorem dcP_keys {tgt : Tgt} {qt : QT} {qk qe : QE} {π : PFr} (f : PV → Bool) (g : PV → PV) : ∀ (xs ks vs : List PV), ks.length = vs.length → ks.length + xs.length ≤ sizeLine → (∀ x ∈ xs, ∃ π', bindP tgt x π = some π' ∧ qt π' = .ok (f x) ∧ (f x = true → qk π' = .ok x ∧ qe π' = .ok (g x))) →
    (∀ l, (∀ x ∈ l, x ∈ ks ∨ x ∈ xs) → ∀ x ∈ xs, keyOk l x = true) → ∃ vs', dcP tgt qt qk qe π xs ks vs = .ok (.dct (ddk ks (xs.filter f)) vs') ∧ (ddk ks (xs.filter f)).length = vs'.length
  | [], ks, vs, hl, _, _, _ => ⟨vs, rfl, hl⟩
  | x :: xs, ks, vs, hl, hs, h, hk => by
    obtain ⟨π', h1, h2, h3⟩ := h x (List.mem_cons_self ..)
    simp only [List.length_cons] at hs
    unfold dcP
    simp only [h1, oP_some, PR.ok_bind, h2, noXP_ok]
    cases q : f x with
    | false =>
      obtain ⟨vs', e, e2⟩ := dcP_keys f g xs ks vs hl (by omega) (fun y hy => h y (List.mem_cons_of_mem _ hy)) fun l hl' y hy => hk l (fun z hz => (hl' z hz).imp id (List.mem_cons_of_mem _)) y (List.mem_cons_of_mem _ hy)
      simp only [Bool.false_eq_true, if_false, List.filter_cons, q]
      exact ⟨vs', e, e2⟩
    | true =>
      obtain ⟨h4, h5⟩ := h3 q
      have kx := hk ks (fun z hz => .inl hz) x (List.mem_cons_self ..)
      have e1 := gPut_ks (k := x) (v := g x) hl
      have l1 := gPut_len (k := x) (v := g x) hl
      have ls : (gPut ks vs x (g x)).1.length + xs.length ≤ sizeLine := by
        rw [e1]
        split
        · omega
        · rw [List.length_append, List.length_singleton]; omega
      obtain ⟨vs', e, e2⟩ := dcP_keys f g xs (gPut ks vs x (g x)).1 (gPut ks vs x (g x)).2 l1 ls (fun y hy => h y (List.mem_cons_of_mem _ hy)) fun l hl' y hy => hk l (fun z hz => by
        rcases hl' z hz with w | w
        · rw [e1] at w
          split at w
          · exact .inl w
          · rcases List.mem_append.mp w with w | w
            · exact .inl w
            · exact .inr (List.mem_cons.mpr (.inl (List.mem_singleton.mp w)))
        · exact .inr (List.mem_cons_of_mem _ w)) y (List.mem_cons_of_mem _ hy)
      simp only [if_true, h4, h5, noXP_ok, PR.ok_bind, kx, Bool.true_and, List.filter_cons, q, decide_eq_true (show ks.length < sizeLine by omega)]
      rw [e1] at e e2
      refine ⟨vs', ?_, ?_⟩
      · rw [e1, e]; rfl
      · exact e2
/-! ### sorting by (len(one), one) -/
theorem flat_all : ∀ {xs : List PyData}, (∀ x ∈ xs, flatD x = true) → flatDs xs = true
  | [], _ => by simp [flatDs]
  | x :: xs, h => by
    simp only [flatDs, h x (List.mem_cons_self ..), Bool.true_and]
    exact flat_all fun y hy => h y (List.mem_cons_of_mem _ hy)
theorem sh_flat : ∀ {k : Nat} {p : PV}, sh k p = true → flatD (enc p) = true
  | 0, p, h => by obtain ⟨z, rfl, _⟩ := sh_str h; rfl
  | k + 1, p, h => by
    obtain ⟨xs, rfl, hx⟩ := sh_tup h
    rw [(enc_tup fun x hx' => (sh_data (hx x hx')).1).2]
    simp only [flatD]
    exact flat_all fun y hy => by obtain ⟨x, hx', rfl⟩ := List.mem_map.mp hy; exact sh_flat (hx x hx')
def plen (p : PV) : Nat := (lenP p).getD 0
@[simp] theorem plen_tup {xs : List PV} : plen (.tup xs) = xs.length := rfl
theorem le_trans_k {β : Type} (key : β → PyData) (a b c : β) (h1 : PySem.W.dataLe false key a b = true) (h2 : PySem.W.dataLe false key b c = true) : PySem.W.dataLe false key a c = true := by
  rw [PySem.W.dataLe_eq] at *
  simp only [cond_false, Bool.not_eq_true'] at *
  cases q : PySem.W.dataLt (key c) (key a) with
  | false => rfl
  | true =>
    rcases lex_negTrans _ (PySem.W.keyToks (key b)) _ q with z | z
    · rw [show PySem.W.dataLt (key c) (key b) = true from z] at h2; cases h2
    · rw [show PySem.W.dataLt (key b) (key a) = true from z] at h1; cases h1
theorem le_total_k {β : Type} (key : β → PyData) (a b : β) : (PySem.W.dataLe false key a b || PySem.W.dataLe false key b a) = true := by
  rw [PySem.W.dataLe_eq]
  simp only [cond_false, Bool.or_eq_true, Bool.not_eq_true']
  cases q : PySem.W.dataLt (key b) (key a) with
  | false => exact .inl rfl
  | true =>
    cases q2 : PySem.W.dataLt (key a) (key b) with
    | false => exact .inr rfl
    | true =>
      have := lex_trans _ _ _ q q2
      rw [lex_irrefl] at this
      cases this
theorem pySortK_perm (xs : List PV) : (pySortK xs).Perm xs := List.mergeSort_perm _ _
theorem mem_pySortK {x : PV} {xs : List PV} : x ∈ pySortK xs ↔ x ∈ xs := (pySortK_perm xs).mem_iff
theorem pySortK_pw (xs : List PV) : (pySortK xs).Pairwise (fun a b => PySem.W.dataLe false keyD a b = true) := List.pairwise_mergeSort (le_trans_k keyD) (le_total_k keyD) xs
theorem pySortK_len {k : Nat} {xs : List PV} (h : ∀ x ∈ xs, sh k x = true) : (pySortK xs).Pairwise (fun a b => plen a ≤ plen b) := by
  refine (pySortK_pw xs).imp_of_mem fun {a b} ha hb q => ?_
  have ha := h a (mem_pySortK.mp ha)
  have hb := h b (mem_pySortK.mp hb)
  rw [PySem.W.dataLe_eq] at q
  simp only [cond_false, Bool.not_eq_true'] at q
  by_cases e : plen b < plen a
  · have : PySem.W.dataLt (keyD b) (keyD a) = true := by
      unfold keyD
      rw [PySem.W.dataLt_pair (by simp [PySem.W.alike]) (sh_alike hb ha)]
      have ne : ¬ PyData.eqv (.int ((lenP b).getD 0)) (.int ((lenP a).getD 0)) = true := by
        unfold plen at e
        simp only [PyData.eqv, beq_iff_eq]
        omega
      rw [if_neg ne, PySem.W.dataLt_int]
      unfold plen at e
      exact decide_eq_true (by omega)
    rw [this] at q; cases q
  · omega
theorem sh_sortK {k : Nat} {xs : List PV} (h : ∀ x ∈ xs, sh (k + 1) x = true) (hk : k < 64) (hl : xs.length ≤ sizeLine) : pySortedK [.lst xs] = some (pySortK xs) := by
  have : sortableK xs = true := by
    unfold sortableK
    rw [decide_eq_true hl, Bool.true_and, List.all_eq_true]
    intro x hx
    obtain ⟨ys, rfl, _⟩ := sh_tup (h x hx)
    simp only [(sh_data (h _ hx)).1, sh_ok (h _ hx) (by omega), sh_flat (h _ hx), Option.isSome_some, lenP, Bool.and_self, Bool.true_and, List.all_eq_true]
    exact fun y hy => sh_alike (h _ hx) (h y hy)
  unfold pySortedK
  simp only [this, if_true]
theorem sh_sortSet {k : Nat} {xs : List PV} (h : ∀ x ∈ xs, sh (k + 1) x = true) (hk : k < 8) (hl : xs.length < 64) : pySortSet [.lst xs] = some (pySort (uniq xs)) := by
  unfold pySortSet
  have big : (64 : Nat) ≤ sizeLine := by decide
  simp only [sh_sortable h (by omega) (by omega), sh_tupKs hk h, decide_eq_true hl, Bool.and_self, if_true]
/-! ### lists without a double -/
theorem nodup_len : ∀ {a b : List PV}, a.Nodup → (∀ x ∈ a, x ∈ b) → a.length ≤ b.length
  | [], b, _, _ => by simp
  | x :: a, b, nd, h => by
    obtain ⟨n1, n2⟩ := List.nodup_cons.mp nd
    have hx := h x (List.mem_cons_self ..)
    have := nodup_len (a := a) (b := b.erase x) n2 fun y hy => (List.mem_erase_of_ne (fun (e : y = x) => n1 (e ▸ hy))).mpr (h y (List.mem_cons_of_mem _ hy))
    rw [List.length_erase_of_mem hx] at this
    have pos := List.length_pos_of_mem hx
    simp only [List.length_cons]
    omega
theorem asc_same {a b : List PV} (ha : asc a = true) (hb : asc b = true) (h : ∀ x ∈ a, x ∈ b) (hl : b.length ≤ a.length) : a = b := by
  refine asc_ext ha hb fun x => ⟨h x, fun hx => ?_⟩
  by_cases q : x ∈ a
  · exact q
  · have := nodup_len (a := x :: a) (b := b) (List.nodup_cons.mpr ⟨q, asc_nodup ha⟩) fun y hy => by
      rcases List.mem_cons.mp hy with rfl | hy
      · exact hx
      · exact h y hy
    simp only [List.length_cons] at this
    omega
/-! ### built-ins on values whose form is known -/
section
variable {xs ks vs : List PV} {b : Bool} {i j : Int} {z : Str}
@[simp] theorem len_tup : Ev.pyLen [.tup xs] = some (.int xs.length) := rfl
@[simp] theorem len_lst : Ev.pyLen [.lst xs] = some (.int xs.length) := rfl
@[simp] theorem len_scr : Ev.pyLen [.scr xs] = some (.int xs.length) := rfl
@[simp] theorem tuple_tup : Ev.pyTuple [.tup xs] = some (.tup xs) := rfl
@[simp] theorem tuple_lst : Ev.pyTuple [.lst xs] = some (.tup xs) := rfl
@[simp] theorem truth_bl : Ev.pyTruth (.bl b) = some b := rfl
@[simp] theorem truth_tup : Ev.pyTruth (.tup xs) = some (!xs.isEmpty) := rfl
@[simp] theorem truth_lst : Ev.pyTruth (.lst xs) = some (!xs.isEmpty) := rfl
@[simp] theorem lt_int : Ev.pyLtB (.int i) (.int j) = some (decide (i < j)) := rfl
@[simp] theorem le_int : Ev.pyLeB (.int i) (.int j) = some (decide (i ≤ j)) := rfl
@[simp] theorem gt_int : Ev.pyGtB (.int i) (.int j) = some (decide (j < i)) := rfl
@[simp] theorem ge_int : Ev.pyGeB (.int i) (.int j) = some (decide (j ≤ i)) := rfl
theorem int_ok (i : Int) : okD (.int i) = true := by unfold okD SeqAt.shaped; simp [PyData.canLay0, PyData.depth]
@[simp] theorem eq_int : pyEq (.int i) (.int j) = some (decide (i = j)) := by
  unfold pyEq
  simp only [PV.data, int_ok, Bool.and_self, if_true, PyData.eqv]
  by_cases e : i = j <;> simp [e]
@[simp] theorem ne_int : pyNe (.int i) (.int j) = some (decide (i ≠ j)) := by unfold pyNe; rw [eq_int]; simp
@[simp] theorem isi_tupT : pyIsi [.tup xs, .ty "tuple"] = some (.bl true) := rfl
theorem list_dct (h : ks.length ≤ sizeLine) : pyList2 [.dct ks vs] = some ks := by
  show (if ks.length ≤ sizeLine then some ks else none) = _
  rw [if_pos h]
end
/-! ### lists of truths -/
@[simp] theorem all_tt {α : Type} (xs : List α) : (xs.all fun _ => true) = true := by simp [List.all_eq_true]
@[simp] theorem any_ff {α : Type} (xs : List α) : (xs.any fun _ => false) = false := by simp
theorem asBools_map {α : Type} (f : α → Bool) : ∀ xs : List α, asBools (xs.map fun x => .bl (f x)) = some (xs.map f)
  | [] => rfl
  | x :: xs => by simp [asBools, asBools_map f xs]
theorem pyAll_map {α : Type} (f : α → Bool) (xs : List α) : pyAll [.lst (xs.map fun x => .bl (f x))] = some (.bl (xs.all f)) := by
  unfold pyAll
  simp only [asBools_map, Option.map_some, List.all_map]
  rfl
theorem pyAny_map {α : Type} (f : α → Bool) (xs : List α) : pyAny [.lst (xs.map fun x => .bl (f x))] = some (.bl (xs.any f)) := by
  unfold pyAny
  simp only [asBools_map, Option.map_some, List.any_map]
  rfl
end Ev

end
section
set_option maxRecDepth 100000
set_option maxHeartbeats 4000000
/-! Ev Nd: readings with dice: a throw may give any number below its bound; m counts the throws -/
namespace Ev
open PySem PySem.Spec
abbrev ND (α : Type) := Nat → (PR α → Nat → Prop) → Prop
@[simp] def nP {α : Type} (r : PR α) : ND α := fun m Q => match r with
  | .stuck => False
  | r => Q r m
@[simp] def nBind {α β : Type} (x : ND α) (k : α → ND β) : ND β := fun m Q => x m fun r m' => match r with
  | .ok a => k a m' Q
  | .exc e => Q (.exc e) m'
  | .stuck => False
/-- what is pure -/
@[simp] def nQ {α : Type} (q : PFr → PR α) (π : PFr) : ND α := nP (q π)
/-- the dice at d: at most m throws were counted -/
def Dice (G : Store) (d m : Nat) : Prop := ∃ a b c : Int, G[d]? = some (.lst [.int a, .int b, .int c]) ∧ 0 ≤ a ∧ a < 2 ^ 4000 ∧ 0 ≤ b ∧ b < 2 ^ 64 ∧ 0 ≤ c ∧ c ≤ m
theorem Dice.lt {G : Store} {d m : Nat} (h : Dice G d m) : d < G.length := by
  obtain ⟨a, b, c, h, _⟩ := h
  exact (List.getElem?_eq_some_iff.mp h).1
theorem Dice.mono {G : Store} {d m m' : Nat} (h : Dice G d m) (l : m ≤ m') : Dice G d m' := by
  obtain ⟨a, b, c, h1, h2, h3, h4, h5, h6, h7⟩ := h
  exact ⟨a, b, c, h1, h2, h3, h4, h5, h6, by omega⟩
theorem Dice.self {G : Store} {d m : Nat} (h : Dice G d m) : ∃ o, G.set d o = G := by
  obtain ⟨a, b, c, h, _⟩ := h
  have e : G.set d (.lst [.int a, .int b, .int c]) = G := List.ext_getElem? fun i => by
    by_cases e : d = i
    · subst e
      rw [List.getElem?_set_self (List.getElem?_eq_some_iff.mp h).1, h]
    · rw [List.getElem?_set_ne e]
  exact ⟨_, e⟩
structure RelD (bs : List Nat) (d b : Nat) (G : Store) (ρ : Fr) (π : PFr) : Prop where
  f : RelF bs b G ρ π
  dice : ρ[0]? = some (some (.box d))
  lt : d < b
  nb : 0 ∉ bs
theorem RelF.dset {bs : List Nat} {d b : Nat} {G : Store} {ρ : Fr} {π : PFr} (r : RelF bs b G ρ π) (h : d < b) (o : Ob) : RelF bs b (G.set d o) ρ π :=
  ⟨r.len, by simpa using r.low, fun i p e => (r.at_ i p e).imp id fun ⟨j, o', h1, h2, h3, h4, h5⟩ => ⟨j, o', h1, h2, h3, by rw [List.getElem?_set_ne (by omega)]; exact h4, h5⟩, r.inj, fun i j h1 h2 => by simpa using r.bd i j h1 h2⟩
theorem RelD.dset {bs : List Nat} {d b : Nat} {G : Store} {ρ : Fr} {π : PFr} (r : RelD bs d b G ρ π) (o : Ob) : RelD bs d b (G.set d o) ρ π := ⟨r.f.dset r.lt o, r.dice, r.lt, r.nb⟩
theorem RelD.grow {bs : List Nat} {d b : Nat} {G G' : Store} {ρ : Fr} {π : PFr} (r : RelD bs d b G ρ π) : RelD bs d b (G ++ G') ρ π := ⟨r.f.grow, r.dice, r.lt, r.nb⟩
theorem Dice.grow {G G' : Store} {d m : Nat} (h : Dice G d m) : Dice (G ++ G') d m := by
  have := h.lt
  obtain ⟨a, b, c, h, r⟩ := h
  exact ⟨a, b, c, by rw [List.getElem?_append_left this]; exact h, r⟩
theorem Dice.less {G G' : Store} {d m : Nat} (h : Dice (G ++ G') d m) (l : d < G.length) : Dice G d m := by
  obtain ⟨a, b, c, h, r⟩ := h
  exact ⟨a, b, c, by rw [List.getElem?_append_left l] at h; exact h, r⟩
/-- how a value stands for what is read -/
abbrev VR (α β : Type) := Nat → Store → α → β → Prop
def rS : VR PV Val := fun _ _ p v => v = .pv p
def rD : VR PV Val := fun b G p v => deref G v = some p ∧ (v = .pv p ∨ ∃ j, v = .box j ∧ b ≤ j)
def rI {α : Type} : VR α α := fun _ _ a v => v = a
def rA : VR (List PV) (List Val) := fun _ _ ps vs => vs = ps.map .pv
def rAD : VR (List PV) (List Val) := fun _ G ps vs => derefs G vs = some ps
def rG : VR (List PV) Items := fun _ _ ps it => it = ⟨ps, none⟩
def OutN {α β : Type} (R : VR α β) (d b : Nat) (G : Store) (m : Nat) (n : ND α) (x : Res β) : Prop := ∀ Q, n m Q → ∃ r o m', Q r m' ∧ Dice (G.set d o) d m' ∧ match r with
  | .ok a => ∃ v, x = .ok v (G.set d o) ∧ R b (G.set d o) a v
  | .exc e => x = .exc e (G.set d o)
  | .stuck => False
def An {α β : Type} (R : VR α β) (bs : List Nat) (e : Fr → Store → Res β) (n : PFr → ND α) : Prop := ∀ d b G ρ π m, RelD bs d b G ρ π → Dice G d m → OutN R d b G m (n π) (e ρ G)
section
variable {α β γ δ : Type} {R : VR α β} {R' : VR γ δ} {bs : List Nat} {d b : Nat} {G : Store} {m : Nat}
theorem out_bind {n : ND α} {x : Res β} {n' : α → ND γ} {k : β → Store → Res δ} (h : OutN R d b G m n x)
    (h' : ∀ a v o m', Dice (G.set d o) d m' → R b (G.set d o) a v → OutN R' d b (G.set d o) m' (n' a) (k v (G.set d o))) : OutN R' d b G m (nBind n n') (x.bind k) := fun Q hn => by
  obtain ⟨r1, o1, m1, q1, d1, k1⟩ := h _ hn
  cases r1 with
  | stuck => exact q1.elim
  | exc e => exact ⟨.exc e, o1, m1, q1, d1, by simp only [k1, Res.exc_bind]⟩
  | ok a =>
    obtain ⟨v, k1, k2⟩ := k1
    obtain ⟨r2, o2, m2, q2, d2, k3⟩ := h' a v o1 m1 d1 k2 Q q1
    rw [List.set_set] at d2 k3
    refine ⟨r2, o2, m2, q2, d2, ?_⟩
    cases r2 with
    | stuck => exact k3
    | exc x => simp only [k1, Res.ok_bind, k3]
    | ok c => obtain ⟨w, k3, k4⟩ := k3; exact ⟨w, by simp only [k1, Res.ok_bind, k3], k4⟩
theorem out_pure {r : PR α} {x : Res β} (dc : Dice G d m) (h : match r with
    | .ok a => ∃ v, x = .ok v G ∧ R b G a v
    | .exc e => x = .exc e G
    | .stuck => True) : OutN R d b G m (nP r) x := fun Q hq => by
  obtain ⟨o, ho⟩ := dc.self
  cases r with
  | ok a => exact ⟨.ok a, o, m, hq, by rw [ho]; exact dc, by rw [ho]; exact h⟩
  | exc e => exact ⟨.exc e, o, m, hq, by rw [ho]; exact dc, by rw [ho]; exact h⟩
  | stuck => exact hq.elim
/-- an operator's end -/
theorem out_o {r : Option α} {x : Res β} (dc : Dice G d m) (h : ∀ a, r = some a → ∃ v, x = .ok v G ∧ R b G a v) : OutN R d b G m (nP (oP r)) x := out_pure dc (by
  cases r with
  | none => trivial
  | some a => exact h a rfl)
theorem an_pure {e : Fr → Store → Res β} {q : PFr → PR α} (h : ∀ b G ρ π, RelF bs b G ρ π → match q π with
    | .ok a => ∃ v, e ρ G = .ok v G ∧ R b G a v
    | .exc x => e ρ G = .exc x G
    | .stuck => True) : An R bs e (nQ q) := fun d b G ρ π m r dc => out_pure dc (h b G ρ π r.f)
end
section
variable {bs : List Nat} {a b c : FE} {as : FA} {t u : FT} {na nb nc : PFr → ND PV} {ns : PFr → ND (List PV)} {nt nu : PFr → ND Bool}
theorem anE {q : QE} (h : AgE bs a q) : An rS bs a (nQ q) := an_pure fun b G ρ π r => by
  have h := h b G ρ π r
  cases e : q π with
  | ok p => rw [e] at h; exact ⟨_, h, rfl⟩
  | exc x => rw [e] at h; exact h
  | stuck => trivial
theorem anD {q : QE} (h : AgD bs a q) : An rD bs a (nQ q) := an_pure fun b G ρ π r => by
  have h := h b G ρ π r
  cases e : q π with
  | ok p => rw [e] at h; obtain ⟨v, h1, h2, h3⟩ := h; exact ⟨_, h1, h2, h3⟩
  | exc x => rw [e] at h; exact h
  | stuck => trivial
theorem anT {q : QT} (h : AgT bs t q) : An rI bs t (nQ q) := an_pure fun b G ρ π r => by
  have h := h b G ρ π r
  cases e : q π with
  | ok p => rw [e] at h; exact ⟨_, h, rfl⟩
  | exc x => rw [e] at h; exact h
  | stuck => trivial
theorem anF {f : FF} {q : QF} (h : AgF bs f q) : An rI bs f (nQ q) := an_pure fun b G ρ π r => by
  have h := h b G ρ π r
  cases e : q π with
  | ok p => rw [e] at h; exact ⟨_, h, rfl⟩
  | exc x => rw [e] at h; exact h
  | stuck => trivial
theorem anO {f : FO} {q : QO} (h : AgO bs f q) : An rI bs f (nQ q) := an_pure fun b G ρ π r => by
  have h := h b G ρ π r
  cases e : q π with
  | ok p => rw [e] at h; exact ⟨_, h, rfl⟩
  | exc x => rw [e] at h; exact h
  | stuck => trivial
theorem anA {q : QA} (h : AgA bs as q) : An rA bs as (nQ q) := an_pure fun b G ρ π r => by
  have h := h b G ρ π r
  cases e : q π with
  | ok p => rw [e] at h; exact ⟨_, h, rfl⟩
  | exc x => rw [e] at h; exact h
  | stuck => trivial
theorem anAD {q : QA} (h : AgAD bs as q) : An rAD bs as (nQ q) := an_pure fun b G ρ π r => by
  have h := h b G ρ π r
  cases e : q π with
  | ok p => rw [e] at h; exact h
  | exc x => rw [e] at h; exact h
  | stuck => trivial
theorem anJ {f : FI} {q : QF} (h : AgJ bs f q) : An rG bs f (nQ q) := an_pure fun b G ρ π r => by
  have h := h b G ρ π r
  cases e : q π with
  | ok p => rw [e] at h; exact ⟨_, h, rfl⟩
  | exc x => rw [e] at h; exact h
  | stuck => trivial
theorem An.d (h : An rS bs a na) : An rD bs a na := fun d b G ρ π m r dc Q hn => by
  obtain ⟨r1, o1, m1, q1, d1, k1⟩ := h d b G ρ π m r dc Q hn
  refine ⟨r1, o1, m1, q1, d1, ?_⟩
  cases r1 with
  | ok p => obtain ⟨v, h1, h2⟩ := k1; cases h2; exact ⟨_, h1, rfl, .inl rfl⟩
  | exc x => exact k1
  | stuck => exact k1
theorem An.ad (h : An rA bs as ns) : An rAD bs as ns := fun d b G ρ π m r dc Q hn => by
  obtain ⟨r1, o1, m1, q1, d1, k1⟩ := h d b G ρ π m r dc Q hn
  refine ⟨r1, o1, m1, q1, d1, ?_⟩
  cases r1 with
  | ok p => obtain ⟨v, h1, h2⟩ := k1; cases h2; exact ⟨_, h1, derefs_map p⟩
  | exc x => exact k1
  | stuck => exact k1
theorem rD.dset {d b0 : Nat} {G : Store} {p : PV} {v : Val} (h : rD b0 G p v) (hd : d < b0) (o : Ob) : rD b0 (G.set d o) p v := by
  obtain ⟨h1, h2⟩ := h
  refine ⟨?_, h2⟩
  rcases h2 with rfl | ⟨j, rfl, hj⟩
  · exact h1
  · unfold deref at h1 ⊢
    dsimp only at h1 ⊢
    rw [List.getElem?_set_ne (by omega)]
    exact h1
@[simp] def nBin (op : PV → PV → Option PV) (a b : PFr → ND PV) (π : PFr) : ND PV := nBind (a π) fun x => nBind (b π) fun y => nP (oP (op x y))
@[simp] def nBinF (op : PV → PV → Option (List PV)) (a b : PFr → ND PV) (π : PFr) : ND (List PV) := nBind (a π) fun x => nBind (b π) fun y => nP (oP (op x y))
@[simp] def nCmp (f : PV → PV → Option Bool) (a b : PFr → ND PV) (π : PFr) : ND Bool := nBind (a π) fun x => nBind (b π) fun y => nP (oP (f x y))
@[simp] def nUn (op : PV → Option PV) (a : PFr → ND PV) (π : PFr) : ND PV := nBind (a π) fun x => nP (oP (op x))
@[simp] def nTru (a : PFr → ND PV) (π : PFr) : ND Bool := nBind (a π) fun x => nP (oP (pyTruth x))
@[simp] def nNotT (a : PFr → ND Bool) (π : PFr) : ND Bool := nBind (a π) fun x => nP (.ok (!x))
@[simp] def nAndT (a b : PFr → ND Bool) (π : PFr) : ND Bool := nBind (a π) fun x => if x = true then b π else nP (.ok false)
@[simp] def nOrT (a b : PFr → ND Bool) (π : PFr) : ND Bool := nBind (a π) fun x => if x = true then nP (.ok true) else b π
@[simp] def nIf (t : PFr → ND Bool) (a b : PFr → ND PV) (π : PFr) : ND PV := nBind (t π) fun x => if x = true then a π else b π
@[simp] def nAsV (t : PFr → ND Bool) (π : PFr) : ND PV := nBind (t π) fun x => nP (.ok (.bl x))
@[simp] def nNotV (a : PFr → ND PV) (π : PFr) : ND PV := nBind (a π) fun v => match asBP v with
  | some c => nP (.ok (.bl (!c)))
  | none => nP .stuck
@[simp] def nAndV (a b : PFr → ND PV) (π : PFr) : ND PV := nBind (a π) fun v => match asBP v with
  | some true => b π
  | some false => nP (.ok (.bl false))
  | none => nP .stuck
@[simp] def nOrV (a b : PFr → ND PV) (π : PFr) : ND PV := nBind (a π) fun v => match asBP v with
  | some true => nP (.ok (.bl true))
  | some false => b π
  | none => nP .stuck
@[simp] def nFrz (f : PFr → ND (List PV)) (π : PFr) : ND PV := nBind (f π) fun ps => nP (.ok (.lst ps))
@[simp] def nCons (a : PFr → ND PV) (as : PFr → ND (List PV)) (π : PFr) : ND (List PV) := nBind (a π) fun v => nBind (as π) fun vs => nP (.ok (v :: vs))
@[simp] def nTup (as : PFr → ND (List PV)) (π : PFr) : ND PV := nBind (as π) fun vs => nP (.ok (.tup vs))
@[simp] def nLst (as : PFr → ND (List PV)) (π : PFr) : ND (List PV) := as π
@[simp] def nFew (as : PFr → ND (List PV)) (π : PFr) : ND (List PV) := nBind (as π) fun vs => nP (if vs.length ≤ sizeLine then .ok vs else .stuck)
@[simp] def nSplice (a : PFr → ND PV) (as : PFr → ND (List PV)) (π : PFr) : ND (List PV) := nBind (a π) fun v => nBind (nP (oP (seqItems v))) fun xs => nBind (as π) fun vs => nP (.ok (xs ++ vs))
@[simp] def nCall (f : List PV → Option PV) (as : PFr → ND (List PV)) (π : PFr) : ND PV := nBind (as π) fun vs => nP (oP (f vs))
@[simp] def nCallF (f : List PV → Option (List PV)) (as : PFr → ND (List PV)) (π : PFr) : ND (List PV) := nBind (as π) fun vs => nP (oP (f vs))
@[simp] def nICall (f : List PV → Option (List PV)) (as : PFr → ND (List PV)) (π : PFr) : ND (List PV) := nBind (as π) fun vs => nP (oP (f vs))
@[simp] def nSeqI (a : PFr → ND PV) (π : PFr) : ND (List PV) := nBind (a π) fun v => nP (oP (walkItems v))
@[simp] def nOwnP (p : List PV → PR PV) (as : PFr → ND (List PV)) (π : PFr) : ND PV := nBind (as π) fun vs => nP (p vs)
@[simp] def nOwn (f : List PV → ND PV) (as : PFr → ND (List PV)) (π : PFr) : ND PV := nBind (as π) f
@[simp] def nAt (f : PFr → ND PV) (π : PFr) : ND (Option Int) := nBind (f π) fun v => match v with
  | .int i => nP (.ok (some i))
  | _ => nP .stuck
@[simp] def nSl (fo : PFr → ND PV) (fl fh : PFr → ND (Option Int)) (π : PFr) : ND PV := nBind (fo π) fun v => nBind (fl π) fun l => nBind (fh π) fun h => nP (oP (pySlice v l h))
@[simp] def nSlF (fo : PFr → ND PV) (fl fh : PFr → ND (Option Int)) (π : PFr) : ND (List PV) := nBind (fo π) fun v => nBind (fl π) fun l => nBind (fh π) fun h => nP (oP (pySliceL v l h))

theorem an_bin {op : PV → PV → Option PV} (ha : An rD bs a na) (hb : An rD bs b nb) : An rS bs (cBin op a b) (nBin op na nb) := fun d b0 G ρ π m r dc =>
  out_bind (ha d b0 G ρ π m r dc) fun x v o m' dc' rv => out_bind (hb d b0 _ ρ π m' (r.dset o) dc') fun y w o' m'' dc'' rw => out_o dc'' fun z e => by
    have rv := (rv.dset r.lt o').1
    rw [rv, rw.1]
    exact ⟨.pv z, by simp only [opt2, e, ofO], rfl⟩
theorem an_binF {op : PV → PV → Option (List PV)} (ha : An rD bs a na) (hb : An rD bs b nb) : An rI bs (cBinF op a b) (nBinF op na nb) := fun d b0 G ρ π m r dc =>
  out_bind (ha d b0 G ρ π m r dc) fun x v o m' dc' rv => out_bind (hb d b0 _ ρ π m' (r.dset o) dc') fun y w o' m'' dc'' rw => out_o dc'' fun z e => by
    have rv := (rv.dset r.lt o').1
    rw [rv, rw.1]
    exact ⟨z, by simp only [opt2L, e, ofOL], rfl⟩
theorem an_cmp {f : PV → PV → Option Bool} (ha : An rD bs a na) (hb : An rD bs b nb) : An rI bs (cCmp f a b) (nCmp f na nb) := fun d b0 G ρ π m r dc =>
  out_bind (ha d b0 G ρ π m r dc) fun x v o m' dc' rv => out_bind (hb d b0 _ ρ π m' (r.dset o) dc') fun y w o' m'' dc'' rw => out_o dc'' fun z e => by
    have rv := (rv.dset r.lt o').1
    rw [rv, rw.1]
    exact ⟨z, by simp only [opt2B, e, ofOB], rfl⟩
theorem an_un {op : PV → Option PV} (ha : An rD bs a na) : An rS bs (cUn op a) (nUn op na) := fun d b0 G ρ π m r dc =>
  out_bind (ha d b0 G ρ π m r dc) fun x v o m' dc' rv => out_o dc' fun z e => by
    rw [rv.1]
    exact ⟨.pv z, by simp only [Option.bind, e, ofO], rfl⟩
theorem an_tru (ha : An rD bs a na) : An rI bs (cTru a) (nTru na) := fun d b0 G ρ π m r dc =>
  out_bind (ha d b0 G ρ π m r dc) fun x v o m' dc' rv => out_o dc' fun z e => by
    rw [rv.1]
    exact ⟨z, by simp only [Option.bind, e, ofOB], rfl⟩
theorem an_notT (ht : An rI bs t nt) : An rI bs (cNotT t) (nNotT nt) := fun d b0 G ρ π m r dc =>
  out_bind (ht d b0 G ρ π m r dc) fun x v o m' dc' rv => out_pure dc' (by cases rv; exact ⟨_, rfl, rfl⟩)
theorem an_asV (ht : An rI bs t nt) : An rS bs (asV t) (nAsV nt) := fun d b0 G ρ π m r dc =>
  out_bind (ht d b0 G ρ π m r dc) fun x v o m' dc' rv => out_pure dc' (by cases rv; exact ⟨_, rfl, rfl⟩)
theorem an_andT (ht : An rI bs t nt) (hu : An rI bs u nu) : An rI bs (cAndT t u) (nAndT nt nu) := fun d b0 G ρ π m r dc =>
  out_bind (ht d b0 G ρ π m r dc) fun x v o m' dc' rv => by
    cases rv
    cases x with
    | true => simp only [if_true]; exact hu d b0 _ ρ π m' (r.dset o) dc'
    | false => exact out_pure (r := .ok false) dc' ⟨_, rfl, rfl⟩
theorem an_orT (ht : An rI bs t nt) (hu : An rI bs u nu) : An rI bs (cOrT t u) (nOrT nt nu) := fun d b0 G ρ π m r dc =>
  out_bind (ht d b0 G ρ π m r dc) fun x v o m' dc' rv => by
    cases rv
    cases x with
    | false => simp only [Bool.false_eq_true, if_false]; exact hu d b0 _ ρ π m' (r.dset o) dc'
    | true => exact out_pure (r := .ok true) dc' ⟨_, rfl, rfl⟩
theorem an_if (ht : An rI bs t nt) (ha : An rS bs a na) (hb : An rS bs b nb) : An rS bs (cIf t a b) (nIf nt na nb) := fun d b0 G ρ π m r dc =>
  out_bind (ht d b0 G ρ π m r dc) fun x v o m' dc' rv => by
    cases rv
    cases x with
    | true => simp only [if_true]; exact ha d b0 _ ρ π m' (r.dset o) dc'
    | false => simp only [Bool.false_eq_true, if_false]; exact hb d b0 _ ρ π m' (r.dset o) dc'
theorem an_andV (ha : An rS bs a na) (hb : An rS bs b nb) : An rS bs (cAndV a b) (nAndV na nb) := fun d b0 G ρ π m r dc =>
  out_bind (ha d b0 G ρ π m r dc) fun x v o m' dc' rv => by
    cases rv
    cases x <;> try exact fun _ h => h.elim
    rename_i c
    cases c with
    | true => exact hb d b0 _ ρ π m' (r.dset o) dc'
    | false => exact out_pure (r := .ok (PV.bl false)) dc' ⟨_, rfl, rfl⟩
theorem an_orV (ha : An rS bs a na) (hb : An rS bs b nb) : An rS bs (cOrV a b) (nOrV na nb) := fun d b0 G ρ π m r dc =>
  out_bind (ha d b0 G ρ π m r dc) fun x v o m' dc' rv => by
    cases rv
    cases x <;> try exact fun _ h => h.elim
    rename_i c
    cases c with
    | false => exact hb d b0 _ ρ π m' (r.dset o) dc'
    | true => exact out_pure (r := .ok (PV.bl true)) dc' ⟨_, rfl, rfl⟩
theorem an_notV (ha : An rS bs a na) : An rS bs (cNotV a) (nNotV na) := fun d b0 G ρ π m r dc =>
  out_bind (ha d b0 G ρ π m r dc) fun x v o m' dc' rv => by
    cases rv
    cases x <;> try exact fun _ h => h.elim
    exact out_pure dc' ⟨_, rfl, rfl⟩
theorem an_frz {f : FF} {nf : PFr → ND (List PV)} (h : An rI bs f nf) : An rS bs (cFrz f) (nFrz nf) := fun d b0 G ρ π m r dc =>
  out_bind (h d b0 G ρ π m r dc) fun x v o m' dc' rv => out_pure dc' (by cases rv; exact ⟨_, rfl, rfl⟩)
theorem an_cons (ha : An rS bs a na) (hs : An rA bs as ns) : An rA bs (cCons a as) (nCons na ns) := fun d b0 G ρ π m r dc =>
  out_bind (ha d b0 G ρ π m r dc) fun x v o m' dc' rv => out_bind (hs d b0 _ ρ π m' (r.dset o) dc') fun y w o' m'' dc'' rw => out_pure dc'' (by
    cases rv; cases rw; exact ⟨_, rfl, rfl⟩)
theorem an_consD (ha : An rD bs a na) (hs : An rAD bs as ns) : An rAD bs (cCons a as) (nCons na ns) := fun d b0 G ρ π m r dc =>
  out_bind (ha d b0 G ρ π m r dc) fun x v o m' dc' rv => out_bind (hs d b0 _ ρ π m' (r.dset o) dc') fun y w o' m'' dc'' rw => out_pure dc'' (by
    refine ⟨_, rfl, ?_⟩
    have rv := (rv.dset r.lt o').1
    have rw : derefs _ w = some y := rw
    show derefs _ (v :: w) = some (x :: y)
    simp only [derefs, rv, rw])
theorem an_tup (hs : An rA bs as ns) : An rS bs (cTup as) (nTup ns) := fun d b0 G ρ π m r dc =>
  out_bind (hs d b0 G ρ π m r dc) fun x v o m' dc' rv => out_pure dc' (by cases rv; exact ⟨_, by rw [pures_map]; rfl, rfl⟩)
theorem an_lst (hs : An rA bs as ns) : An rI bs (cLst as) (nLst ns) := fun d b0 G ρ π m r dc Q hn => by
  obtain ⟨r1, o1, m1, q1, d1, k1⟩ := hs d b0 G ρ π m r dc Q hn
  refine ⟨r1, o1, m1, q1, d1, ?_⟩
  unfold cLst
  cases r1 with
  | ok p => obtain ⟨v, h1, h2⟩ := k1; cases h2; exact ⟨p, by rw [h1]; simp only [Res.ok_bind, pures_map, ofOL], rfl⟩
  | exc x => rw [k1]; rfl
  | stuck => exact k1
theorem an_few (hs : An rA bs as ns) : An rA bs (few as) (nFew ns) := fun d b0 G ρ π m r dc =>
  out_bind (hs d b0 G ρ π m r dc) fun x v o m' dc' rv => out_pure dc' (by
    cases rv
    by_cases q : x.length ≤ sizeLine
    · rw [if_pos q, if_pos (by simpa using q)]; exact ⟨_, rfl, rfl⟩
    · rw [if_neg q]; trivial)
theorem an_splice (ha : An rD bs a na) (hs : An rA bs as ns) : An rA bs (cSplice a as) (nSplice na ns) := fun d b0 G ρ π m r dc =>
  out_bind (ha d b0 G ρ π m r dc) fun x v o m' dc' rv => by
    cases e : seqItems x with
    | none => exact fun Q h => h.elim
    | some xs =>
      rw [items_of rv.1 e]
      intro Q hn
      exact out_bind (R' := rA) (hs d b0 _ ρ π m' (r.dset o) dc') (fun y w o' m'' dc'' rw => out_pure (r := .ok (xs ++ y)) dc'' (by
        cases rw; exact ⟨_, rfl, by simp [rA]⟩)) Q hn
theorem an_call {f : List PV → Option PV} (hs : An rAD bs as ns) : An rS bs (cCall f as) (nCall f ns) := fun d b0 G ρ π m r dc =>
  out_bind (hs d b0 G ρ π m r dc) fun x v o m' dc' rv => out_o dc' fun z e => by
    rw [show derefs _ v = some x from rv]
    exact ⟨.pv z, by simp only [Option.bind, e, ofO], rfl⟩
theorem an_callF {f : List PV → Option (List PV)} (hs : An rAD bs as ns) : An rI bs (cCallF f as) (nCallF f ns) := fun d b0 G ρ π m r dc =>
  out_bind (hs d b0 G ρ π m r dc) fun x v o m' dc' rv => out_o dc' fun z e => by
    rw [show derefs _ v = some x from rv]
    exact ⟨z, by simp only [Option.bind, e, ofOL], rfl⟩
theorem an_icall {f : List PV → Option (List PV)} (hs : An rAD bs as ns) : An rG bs (iCall f as) (nICall f ns) := fun d b0 G ρ π m r dc =>
  out_bind (hs d b0 G ρ π m r dc) fun x v o m' dc' rv => out_o dc' fun z e => by
    rw [show derefs _ v = some x from rv]
    exact ⟨⟨z, none⟩, by simp only [Option.bind, e], rfl⟩
theorem an_seq (ha : An rS bs a na) : An rG bs (iSeq a) (nSeqI na) := fun d b0 G ρ π m r dc =>
  out_bind (ha d b0 G ρ π m r dc) fun x v o m' dc' rv => out_o dc' fun z e => by
    cases rv
    cases x <;> first | (cases e; exact ⟨_, rfl, rfl⟩) | cases e
theorem an_ownP {run : List Val → Store → Res Val} {p : List PV → PR PV} (h : AgFn run p) (hs : An rA bs as ns) : An rS bs (cOwn run as) (nOwnP p ns) := fun d b0 G ρ π m r dc =>
  out_bind (hs d b0 G ρ π m r dc) fun x v o m' dc' rv => out_pure dc' (by
    cases rv
    have h := h x (G.set d o)
    cases e : p x with
    | ok y => rw [e] at h; exact ⟨_, h, rfl⟩
    | exc y => rw [e] at h; exact h
    | stuck => trivial)
theorem an_at (ha : An rS bs a na) : An rI bs (oAt a) (nAt na) := fun d b0 G ρ π m r dc =>
  out_bind (ha d b0 G ρ π m r dc) fun x v o m' dc' rv => by
    cases rv
    cases x <;> try exact fun _ h => h.elim
    exact out_pure dc' ⟨_, rfl, rfl⟩
theorem an_sl {fl fh : FO} {nl nh : PFr → ND (Option Int)} (ha : An rD bs a na) (hl : An rI bs fl nl) (hh : An rI bs fh nh) : An rS bs (cSl a fl fh) (nSl na nl nh) := fun d b0 G ρ π m r dc =>
  out_bind (ha d b0 G ρ π m r dc) fun x v o m' dc' rv => out_bind (hl d b0 _ ρ π m' (r.dset o) dc') fun y w o' m'' dc'' rw => out_bind (hh d b0 _ ρ π m'' ((r.dset o).dset o') dc'') fun z u o3 m3 dc3 ru => out_o dc3 fun q e => by
    cases rw; cases ru
    rw [((rv.dset r.lt o').dset r.lt o3).1]
    exact ⟨.pv q, by simp only [Option.bind, e, ofO], rfl⟩
theorem an_slF {fl fh : FO} {nl nh : PFr → ND (Option Int)} (ha : An rD bs a na) (hl : An rI bs fl nl) (hh : An rI bs fh nh) : An rI bs (cSlF a fl fh) (nSlF na nl nh) := fun d b0 G ρ π m r dc =>
  out_bind (ha d b0 G ρ π m r dc) fun x v o m' dc' rv => out_bind (hl d b0 _ ρ π m' (r.dset o) dc') fun y w o' m'' dc'' rw => out_bind (hh d b0 _ ρ π m'' ((r.dset o).dset o') dc'') fun z u o3 m3 dc3 ru => out_o dc3 fun q e => by
    cases rw; cases ru
    rw [((rv.dset r.lt o').dset r.lt o3).1]
    exact ⟨q, by simp only [Option.bind, e, ofOL], rfl⟩
/-- a def with dice -/
def AnFn (run : List Val → Store → Res Val) (nf : List PV → ND PV) : Prop := ∀ d G m vs, d < G.length → Dice G d m → OutN rS d 0 G m (nf vs) (run (.box d :: vs.map .pv) G)
theorem an_own {run : List Val → Store → Res Val} {nf : List PV → ND PV} (h : AnFn run nf) (hs : An rA bs as ns) : An rS bs (cOwn run (cCons (cVar 0) as)) (nOwn nf ns) := fun d b0 G ρ π m r dc => by
  have e : cOwn run (cCons (cVar 0) as) ρ G = (as ρ G).bind fun vs G2 => run (.box d :: vs) G2 := by
    unfold cOwn cCons
    have : cVar 0 ρ G = .ok (.box d) G := by unfold cVar; rw [r.dice]
    simp only [this, Res.ok_bind]
    cases as ρ G <;> rfl
  rw [e]
  exact out_bind (hs d b0 G ρ π m r dc) fun x v o m' dc' rv => by
    cases rv
    exact h d _ m' x dc'.lt dc'
end
end Ev

end
section
set_option maxRecDepth 100000
set_option maxHeartbeats 4000000
/-! Ev Ne: comprehensions, statements and defs with dice -/
namespace Ev
open PySem PySem.Spec
/-! ### comprehensions -/
@[simp] def noXN {α : Type} (n : ND α) : ND α := fun m Q => n m fun r m' => match r with
  | .ok a => Q (.ok a) m'
  | _ => False
def lcN (tgt : Tgt) (tt : PFr → ND Bool) (te : PFr → ND PV) (π : PFr) : List PV → ND (List PV)
  | [] => nP (.ok [])
  | x :: xs => nBind (nP (oP (bindP tgt x π))) fun π' => nBind (noXN (tt π')) fun b => if b = true then nBind (noXN (te π')) fun p => nBind (lcN tgt tt te π xs) fun r => nP (.ok (p :: r)) else lcN tgt tt te π xs
@[simp] def nLc (ni : PFr → ND (List PV)) (own : List Nat) (tgt : Tgt) (tt : PFr → ND Bool) (te : PFr → ND PV) (π : PFr) : ND (List PV) := nBind (ni π) fun xs => if xs.length ≤ sizeLine then lcN tgt tt te (wipeP π own) xs else nP .stuck
section
variable {bs : List Nat}
theorem RelD.wipe {d b : Nat} {G : Store} {ρ : Fr} {π : PFr} (r : RelD bs d b G ρ π) {own : List Nat} (h : 0 ∉ own) : RelD bs d b G (wipeF ρ own) (wipeP π own) := by
  refine ⟨r.f.wipe own, ?_, r.lt, r.nb⟩
  have : ∀ own : List Nat, 0 ∉ own → (wipeF ρ own)[0]? = ρ[0]? := fun own => by
    induction own with
    | nil => intro _; rfl
    | cons v vs ih =>
      intro h
      unfold wipeF
      rw [List.getElem?_set_ne (fun e => h (by simp [e])), ih fun z => h (List.mem_cons_of_mem _ z)]
  rw [this own h]; exact r.dice
theorem RelD.bind {d b : Nat} {G : Store} {ρ : Fr} {π π' : PFr} {t : Tgt} {v : PV} (r : RelD bs d b G ρ π) (ht : ∀ i ∈ t.slots, i ∉ bs) (h0 : 0 ∉ t.slots) (e : bindP t v π = some π') : ∃ ρ', bindTgt t v ρ = some ρ' ∧ RelD bs d b G ρ' π' := by
  obtain ⟨ρ', k1, k2⟩ := r.f.bind ht e
  refine ⟨ρ', k1, k2, ?_, r.lt, r.nb⟩
  have all : ∀ (is : List Nat) (vs : List PV) (ρ ρ' : Fr), 0 ∉ is → setAll is vs ρ = some ρ' → ρ'[0]? = ρ[0]? := fun is => by
    induction is with
    | nil => intro vs ρ ρ' _ e; cases vs <;> cases e; rfl
    | cons i is ih =>
      intro vs ρ ρ' h e
      cases vs with
      | nil => cases e
      | cons w vs =>
        rw [ih vs _ _ (fun z => h (List.mem_cons_of_mem _ z)) e, List.getElem?_set_ne (fun e => h (by simp [e]))]
  cases t with
  | one i =>
    cases k1
    rw [List.getElem?_set_ne (fun e => h0 (by simp [Tgt.slots, e]))]
    exact r.dice
  | tup is =>
    cases v with
    | tup vs => rw [all is vs ρ ρ' h0 k1]; exact r.dice
    | _ => cases k1
theorem lcn_go {tgt : Tgt} {tt : FT} {te : FE} {nt : PFr → ND Bool} {ne : PFr → ND PV} (hs : ∀ i ∈ tgt.slots, i ∉ bs) (h0 : 0 ∉ tgt.slots) (ht : An rI bs tt nt) (he : An rS bs te ne) {d b0 : Nat} {ρ : Fr} {π : PFr} {it : Items} (hg : it.guard = none) :
    ∀ (xs acc : List PV) (G : Store) (m : Nat) (Q : PR (List PV) → Nat → Prop), RelD bs d b0 G ρ π → Dice G d m → lcN tgt nt ne π xs m Q → acc.length + xs.length ≤ sizeLine →
      ∃ ps o m', Q (.ok ps) m' ∧ Dice (G.set d o) d m' ∧ lcLoop it tgt tt te G.length ρ xs (G ++ [.lst acc]) = .ok () (G.set d o ++ [.lst (acc ++ ps)])
  | [], acc, G, m, Q, r, dc, hn, _ => by
    obtain ⟨o, ho⟩ := dc.self
    refine ⟨[], o, m, hn, by rw [ho]; exact dc, ?_⟩
    unfold lcLoop
    rw [hg, ho]
    simp [guardOk]
  | x :: xs, acc, G, m, Q, r, dc, hn, hl => by
    simp only [List.length_cons] at hl
    unfold lcN at hn
    cases e1 : bindP tgt x π with
    | none => rw [e1] at hn; exact hn.elim
    | some π' =>
      rw [e1] at hn
      obtain ⟨ρ', k1, r'⟩ := r.bind hs h0 e1
      have r2 := r'.grow (G' := [.lst acc])
      have hlt := dc.lt
      have setg : ∀ (G : Store) (o : Ob) (ob : Ob), d < G.length → (G ++ [ob]).set d o = G.set d o ++ [ob] := fun G o ob hd => by rw [List.set_append_left _ _ hd]
      simp only [nBind, oP_some, nP, noXN] at hn
      obtain ⟨c, o1, m1, q1, d1, s1⟩ := ht d b0 _ ρ' π' m r2 dc.grow _ hn
      unfold lcLoop
      simp only [hg, guardOk, if_true, k1]
      cases c with
      | stuck => exact s1.elim
      | exc y => exact q1.elim
      | ok c =>
        obtain ⟨v1, s1, ev⟩ := s1
        have ev : v1 = c := ev
        rw [ev] at s1
        rw [setg _ _ _ hlt] at s1 d1
        have d1' := d1.less (by simpa using hlt)
        have rr := r.dset o1
        simp only [s1, noX, Res.ok_bind]
        cases c with
        | false =>
          simp only [Bool.false_eq_true, if_false] at q1 ⊢
          obtain ⟨ps, o2, m2, q2, d2, s2⟩ := lcn_go hs h0 ht he hg xs acc (G.set d o1) m1 Q rr d1' q1 (by omega)
          rw [List.length_set] at s2
          rw [List.set_set] at s2 d2
          exact ⟨ps, o2, m2, q2, d2, s2⟩
        | true =>
          simp only [if_true] at q1 ⊢
          have r3 := (r'.dset o1).grow (G' := [.lst acc])
          obtain ⟨p, o2, m2, q2, d2, s2⟩ := he d b0 _ ρ' π' m1 r3 d1 _ q1
          cases p with
          | stuck => exact s2.elim
          | exc y => exact q2.elim
          | ok p =>
            obtain ⟨v2, s2, ev2⟩ := s2
            have ev2 : v2 = .pv p := ev2
            rw [ev2] at s2
            rw [setg _ _ _ (by simpa using hlt), List.set_set] at s2 d2
            have d2' := d2.less (by simpa using hlt)
            simp only [s2, Res.ok_bind]
            have g1 : (G.set d o2 ++ [Ob.lst acc])[G.length]? = some (.lst acc) := by
              have := List.getElem?_concat_length (l := G.set d o2) (a := Ob.lst acc)
              simpa using this
            have g2 : (G.set d o2 ++ [Ob.lst acc]).set G.length (.lst (acc ++ [p])) = G.set d o2 ++ [.lst (acc ++ [p])] := by
              rw [List.set_append_right _ _ (by simp)]
              simp
            simp only [g1]
            rw [if_pos (by omega), g2]
            obtain ⟨ps, o3, m3, q3, d3, s3⟩ := lcn_go hs h0 ht he hg xs (acc ++ [p]) (G.set d o2) m2 _ (r.dset o2) d2' q2 (by simp; omega)
            rw [List.length_set] at s3
            rw [List.set_set] at s3 d3
            refine ⟨p :: ps, o3, m3, q3, d3, ?_⟩
            rw [s3]
            simp
theorem an_lc {fi : FI} {ni : PFr → ND (List PV)} {own : List Nat} {tgt : Tgt} {tt : FT} {te : FE} {nt : PFr → ND Bool} {ne : PFr → ND PV} (hs : ∀ i ∈ tgt.slots, i ∉ bs) (h0 : 0 ∉ tgt.slots) (ho : 0 ∉ own) (hi : An rG bs fi ni) (ht : An rI bs tt nt) (he : An rS bs te ne) :
    An rI bs (cLc fi own tgt tt te) (nLc ni own tgt nt ne) := fun d b0 G ρ π m r dc =>
  out_bind (hi d b0 G ρ π m r dc) fun xs v o m' dc' rv => by
    cases rv
    by_cases q : xs.length ≤ sizeLine
    · rw [if_pos q]
      intro Q hn
      obtain ⟨ps, o2, m2, q2, d2, s2⟩ := lcn_go (it := ⟨xs, none⟩) hs h0 ht he rfl xs [] (G.set d o) m' Q ((r.dset o).wipe ho) dc' hn (by simpa using q)
      refine ⟨.ok ps, o2, m2, q2, d2, ps, ?_, rfl⟩
      rw [s2]
      simp only [Res.ok_bind]
      simp
    · rw [if_neg q]; exact fun _ h => h.elim
end
/-! ### statements -/
abbrev NS := Nat → (PS → Nat → Prop) → Prop
def KeepD (d b : Nat) (G G' : Store) : Prop := b ≤ G'.length ∧ ∃ o, G'.take b = (G.take b).set d o
theorem KeepD.refl {d b m : Nat} {G : Store} (dc : Dice G d m) (h : b ≤ G.length) : KeepD d b G G := by
  obtain ⟨o, ho⟩ := dc.self
  refine ⟨h, o, ?_⟩
  rw [← List.take_set, ho]
theorem KeepD.set {d b : Nat} {G : Store} (o : Ob) (h : b ≤ G.length) : KeepD d b G (G.set d o) := ⟨by simpa using h, o, List.take_set ..⟩
theorem KeepD.trans {d b : Nat} {G G1 G2 : Store} (h : KeepD d b G G1) (h' : KeepD d b G1 G2) : KeepD d b G G2 := by
  obtain ⟨l, o, e⟩ := h
  obtain ⟨l', o', e'⟩ := h'
  exact ⟨l', o', by rw [e', e, List.set_set]⟩
def OutS (bs : List Nat) (d b : Nat) (G : Store) (m : Nat) (n : NS) (s : ResS) : Prop := ∀ Q, n m Q → ∃ r m' G', Q r m' ∧ Dice G' d m' ∧ KeepD d b G G' ∧ match r with
  | .next π' => ∃ ρ', s = .next ρ' G' ∧ RelD bs d b G' ρ' π'
  | .brk π' => ∃ ρ', s = .brk ρ' G' ∧ RelD bs d b G' ρ' π'
  | .cont π' => ∃ ρ', s = .cont ρ' G' ∧ RelD bs d b G' ρ' π'
  | .ret p => ∃ v, s = .ret v G' ∧ rD b G' p v
  | .exc x => ∃ ρ', s = .exc x ρ' G'
  | .stuck => False
def AnS (bs : List Nat) (s : FS) (n : PFr → NS) : Prop := ∀ d b G ρ π m, RelD bs d b G ρ π → Dice G d m → OutS bs d b G m (n π) (s ρ G)
@[simp] def nR (r : PS) : NS := fun m Q => match r with
  | .stuck => False
  | r => Q r m
@[simp] def nOfR {α : Type} (x : ND α) (k : α → NS) : NS := fun m Q => x m fun r m' => match r with
  | .ok a => k a m' Q
  | .exc e => Q (.exc e) m'
  | .stuck => False
@[simp] def uSeq (a b : PFr → NS) (π : PFr) : NS := fun m Q => a π m fun r m' => match r with
  | .next π1 => b π1 m' Q
  | .stuck => False
  | r => Q r m'
@[simp] def uPure (q : QS) (π : PFr) : NS := nR (q π)
@[simp] def uSkip (π : PFr) : NS := nR (.next π)
@[simp] def uBreak (π : PFr) : NS := nR (.brk π)
@[simp] def uCont (π : PFr) : NS := nR (.cont π)
@[simp] def uDead (_ : PFr) : NS := nR .stuck
@[simp] def uExpr (e : PFr → ND PV) (π : PFr) : NS := nOfR (e π) fun _ => nR (.next π)
@[simp] def uRet (e : PFr → ND PV) (π : PFr) : NS := nOfR (e π) fun v => nR (.ret v)
@[simp] def uIf (t : PFr → ND Bool) (a b : PFr → NS) (π : PFr) : NS := nOfR (t π) fun c => if c = true then a π else b π
@[simp] def uSet (i : Nat) (e : PFr → ND PV) (π : PFr) : NS := nOfR (e π) fun v => nR (.next (π.set i (some v)))
@[simp] def uSetTup (is : List Nat) (e : PFr → ND PV) (π : PFr) : NS := nOfR (e π) fun v => match v with
  | .tup ps => (match setAllP is ps π with
    | some π' => nR (.next π')
    | none => nR .stuck)
  | _ => nR .stuck
@[simp] def uParN (is : List Nat) (as : PFr → ND (List PV)) (π : PFr) : NS := nOfR (as π) fun vs => if vs.length = is.length then nR (.next (seqSetP is.reverse vs.reverse π)) else nR .stuck
def forN (tgt : Tgt) (body : PFr → NS) : List PV → PFr → NS
  | [], π => nR (.next π)
  | x :: xs, π => match bindP tgt x π with
    | none => nR .stuck
    | some π' => fun m Q => body π' m fun r m' => match r with
      | .next π1 => forN tgt body xs π1 m' Q
      | .cont π1 => forN tgt body xs π1 m' Q
      | .brk π1 => Q (.next π1) m'
      | .stuck => False
      | r => Q r m'
@[simp] def uFor (ni : PFr → ND (List PV)) (tgt : Tgt) (body : PFr → NS) (π : PFr) : NS := nOfR (ni π) fun xs => forN tgt body xs π
section
variable {bs : List Nat} {a b c : FE} {as : FA} {t u : FT} {s s' : FS} {w w' : PFr → NS} {na nb nc : PFr → ND PV} {ns : PFr → ND (List PV)} {nt nu : PFr → ND Bool}
theorem RelD.keep {d b : Nat} {G : Store} {ρ : Fr} {π : PFr} (r : RelD bs d b G ρ π) : b ≤ G.length := r.f.low
theorem outs_ofR {α β : Type} {R : VR α β} {d b : Nat} {G : Store} {m : Nat} {n : ND α} {x : Res β} {n' : α → NS} {k : β → Store → ResS} {ρ : Fr} (hb : b ≤ G.length) (h : OutN R d b G m n x)
    (h' : ∀ a v o m', Dice (G.set d o) d m' → R b (G.set d o) a v → OutS bs d b (G.set d o) m' (n' a) (k v (G.set d o))) : OutS bs d b G m (nOfR n n') (ofR ρ x k) := fun Q hn => by
  obtain ⟨r1, o1, m1, q1, d1, k1⟩ := h _ hn
  cases r1 with
  | stuck => exact q1.elim
  | exc e => exact ⟨.exc e, m1, G.set d o1, q1, d1, .set o1 hb, ρ, by simp only [k1, ofR]⟩
  | ok a =>
    obtain ⟨v, k1, k2⟩ := k1
    obtain ⟨r2, m2, G2, q2, d2, kd, k3⟩ := h' a v o1 m1 d1 k2 Q q1
    refine ⟨r2, m2, G2, q2, d2, (KeepD.set o1 hb).trans kd, ?_⟩
    simp only [k1, ofR]
    exact k3
theorem outs_nr {d b : Nat} {G : Store} {m : Nat} {p : PS} {x : ResS} (dc : Dice G d m) (hb : b ≤ G.length) (h : match p with
  | .next π' => ∃ ρ', x = .next ρ' G ∧ RelD bs d b G ρ' π'
  | .brk π' => ∃ ρ', x = .brk ρ' G ∧ RelD bs d b G ρ' π'
  | .cont π' => ∃ ρ', x = .cont ρ' G ∧ RelD bs d b G ρ' π'
  | .ret p => ∃ v, x = .ret v G ∧ rD b G p v
  | .exc e => ∃ ρ', x = .exc e ρ' G
  | .stuck => True) : OutS bs d b G m (nR p) x := fun Q hq => by
  cases p with
  | stuck => exact hq.elim
  | next π' => exact ⟨_, m, G, hq, dc, .refl dc hb, h⟩
  | brk π' => exact ⟨_, m, G, hq, dc, .refl dc hb, h⟩
  | cont π' => exact ⟨_, m, G, hq, dc, .refl dc hb, h⟩
  | ret p => exact ⟨_, m, G, hq, dc, .refl dc hb, h⟩
  | exc e => exact ⟨_, m, G, hq, dc, .refl dc hb, h⟩
theorem anS_skip : AnS bs sSkip uSkip := fun d b0 G ρ π m r dc => outs_nr dc r.keep ⟨ρ, rfl, r⟩
theorem anS_break : AnS bs sBreak uBreak := fun d b0 G ρ π m r dc => outs_nr dc r.keep ⟨ρ, rfl, r⟩
theorem anS_cont : AnS bs sCont uCont := fun d b0 G ρ π m r dc => outs_nr dc r.keep ⟨ρ, rfl, r⟩
theorem anS_dead : AnS bs s uDead := fun d b0 G ρ π m r dc Q h => h.elim
theorem anS_seq (h : AnS bs s w) (h' : AnS bs s' w') : AnS bs (sSeq s s') (uSeq w w') := fun d b0 G ρ π m r dc Q hn => by
  obtain ⟨r1, m1, G1, q1, d1, kd, k1⟩ := h d b0 G ρ π m r dc _ hn
  unfold sSeq
  cases r1 with
  | next π1 =>
    obtain ⟨ρ1, k1, k2⟩ := k1
    obtain ⟨r2, m2, G2, q2, d2, kd2, k3⟩ := h' d b0 G1 ρ1 π1 m1 k2 d1 Q q1
    exact ⟨r2, m2, G2, q2, d2, kd.trans kd2, by simp only [k1]; exact k3⟩
  | brk π1 => obtain ⟨ρ1, k1, k2⟩ := k1; exact ⟨_, m1, G1, q1, d1, kd, ρ1, by simp only [k1], k2⟩
  | cont π1 => obtain ⟨ρ1, k1, k2⟩ := k1; exact ⟨_, m1, G1, q1, d1, kd, ρ1, by simp only [k1], k2⟩
  | ret p => obtain ⟨v, k1, k2⟩ := k1; exact ⟨_, m1, G1, q1, d1, kd, v, by simp only [k1], k2⟩
  | exc e => obtain ⟨ρ1, k1⟩ := k1; exact ⟨_, m1, G1, q1, d1, kd, ρ1, by simp only [k1]⟩
  | stuck => exact k1.elim
theorem anS_expr (ha : An rD bs a na) : AnS bs (sExpr a) (uExpr na) := fun d b0 G ρ π m r dc =>
  outs_ofR r.keep (ha d b0 G ρ π m r dc) fun x v o m' dc' rv => outs_nr dc' (r.dset o).keep ⟨ρ, rfl, r.dset o⟩
theorem anS_ret (ha : An rD bs a na) : AnS bs (sRet a) (uRet na) := fun d b0 G ρ π m r dc =>
  outs_ofR r.keep (ha d b0 G ρ π m r dc) fun x v o m' dc' rv => outs_nr dc' (r.dset o).keep ⟨v, rfl, rv⟩
theorem anS_if (ht : An rI bs t nt) (h : AnS bs s w) (h' : AnS bs s' w') : AnS bs (sIf t s s') (uIf nt w w') := fun d b0 G ρ π m r dc =>
  outs_ofR r.keep (ht d b0 G ρ π m r dc) fun x v o m' dc' rv => by
    cases rv
    cases x with
    | true => simp only [if_true]; exact h d b0 _ ρ π m' (r.dset o) dc'
    | false => simp only [Bool.false_eq_true, if_false]; exact h' d b0 _ ρ π m' (r.dset o) dc'
theorem RelD.setP {d b0 : Nat} {G : Store} {ρ : Fr} {π : PFr} (r : RelD bs d b0 G ρ π) {i : Nat} (hi : i ∉ bs) (h0 : i ≠ 0) (p : PV) : RelD bs d b0 G (ρ.set i (some (.pv p))) (π.set i (some p)) :=
  ⟨r.f.setP hi p, by rw [List.getElem?_set_ne h0]; exact r.dice, r.lt, r.nb⟩
theorem anS_set {i : Nat} (hi : i ∉ bs) (h0 : i ≠ 0) (ha : An rS bs a na) : AnS bs (sSet i a) (uSet i na) := fun d b0 G ρ π m r dc =>
  outs_ofR r.keep (ha d b0 G ρ π m r dc) fun x v o m' dc' rv => by
    cases rv
    exact outs_nr dc' (r.dset o).keep ⟨_, rfl, (r.dset o).setP hi h0 x⟩
theorem anS_setTup {is : List Nat} (hi : ∀ i ∈ is, i ∉ bs) (h0 : 0 ∉ is) (ha : An rS bs a na) : AnS bs (sSetTup is a) (uSetTup is na) := fun d b0 G ρ π m r dc =>
  outs_ofR r.keep (ha d b0 G ρ π m r dc) fun x v o m' dc' rv => by
    cases rv
    cases x <;> try exact fun _ h => h.elim
    rename_i ps
    dsimp only
    cases e : setAllP is ps π with
    | none => exact fun _ h => h.elim
    | some π' =>
      obtain ⟨ρ', k1, k2⟩ := (r.dset o).bind (t := .tup is) (v := .tup ps) hi h0 e
      have k1 : setAll is ps ρ = some ρ' := k1
      rw [k1]
      exact outs_nr dc' (r.dset o).keep ⟨ρ', rfl, k2⟩
theorem seqSet_zero : ∀ {is : List Nat} {vs : List Val} {ρ : Fr}, 0 ∉ is → (Ev.seqSet is vs ρ)[0]? = ρ[0]?
  | [], vs, ρ, _ => by cases vs <;> rfl
  | _ :: _, [], ρ, _ => rfl
  | i :: is, v :: vs, ρ, h => by
    have := seqSet_zero (is := is) (vs := vs) (ρ := ρ.set i (some v)) fun z => h (List.mem_cons_of_mem _ z)
    show (Ev.seqSet is vs (ρ.set i (some v)))[0]? = _
    rw [this, List.getElem?_set_ne (fun e => h (by simp [e]))]
theorem anS_parN {is : List Nat} (hi : ∀ i ∈ is, i ∉ bs) (h0 : 0 ∉ is) (ha : An rA bs as ns) : AnS bs (sParN is as) (uParN is ns) := fun d b0 G ρ π m r dc =>
  outs_ofR r.keep (ha d b0 G ρ π m r dc) fun x v o m' dc' rv => by
    cases rv
    simp only [List.length_map]
    by_cases q : x.length = is.length
    · simp only [if_pos q]
      refine outs_nr dc' (r.dset o).keep ⟨_, rfl, ?_, ?_, r.lt, r.nb⟩
      · rw [← List.map_reverse]
        exact (r.dset o).f.seqSet (fun k hk => hi k (List.mem_reverse.mp hk))
      · rw [seqSet_zero (fun z => h0 (List.mem_reverse.mp z))]; exact r.dice
    · simp only [if_neg q]; exact fun _ h => h.elim
theorem forn_go {tgt : Tgt} {fb : FS} {nb : PFr → NS} (hs : ∀ i ∈ tgt.slots, i ∉ bs) (h0 : 0 ∉ tgt.slots) (h : AnS bs fb nb) {it : Items} (hg : it.guard = none) {d b0 : Nat} : ∀ (xs : List PV) (G : Store) (ρ : Fr) (π : PFr) (m : Nat), RelD bs d b0 G ρ π → Dice G d m → OutS bs d b0 G m (forN tgt nb xs π) (forLoop it tgt fb xs ρ G)
  | [], G, ρ, π, m, r, dc => by
    unfold forN forLoop
    rw [hg]
    exact outs_nr dc r.keep ⟨ρ, rfl, r⟩
  | x :: xs, G, ρ, π, m, r, dc => by
    unfold forN forLoop
    cases e1 : bindP tgt x π with
    | none => exact fun _ h => h.elim
    | some π' =>
      obtain ⟨ρ', k1, r'⟩ := r.bind hs h0 e1
      simp only [hg, guardOk, if_true, k1]
      intro Q hn
      obtain ⟨r1, m1, G1, q1, d1, kd, k2⟩ := h d b0 G ρ' π' m r' dc _ hn
      have go : ∀ ρ1 π1, RelD bs d b0 G1 ρ1 π1 → forN tgt nb xs π1 m1 Q → ∃ r m' G', Q r m' ∧ Dice G' d m' ∧ KeepD d b0 G G' ∧ match r with
          | .next π' => ∃ ρ', forLoop it tgt fb xs ρ1 G1 = .next ρ' G' ∧ RelD bs d b0 G' ρ' π'
          | .brk π' => ∃ ρ', forLoop it tgt fb xs ρ1 G1 = .brk ρ' G' ∧ RelD bs d b0 G' ρ' π'
          | .cont π' => ∃ ρ', forLoop it tgt fb xs ρ1 G1 = .cont ρ' G' ∧ RelD bs d b0 G' ρ' π'
          | .ret p => ∃ v, forLoop it tgt fb xs ρ1 G1 = .ret v G' ∧ rD b0 G' p v
          | .exc x => ∃ ρ', forLoop it tgt fb xs ρ1 G1 = .exc x ρ' G'
          | .stuck => False := fun ρ1 π1 r1 q => by
        obtain ⟨r2, m2, G2, q2, d2, kd2, k3⟩ := forn_go hs h0 h hg xs G1 ρ1 π1 m1 r1 d1 Q q
        exact ⟨r2, m2, G2, q2, d2, kd.trans kd2, k3⟩
      cases r1 with
      | next π1 => obtain ⟨ρ1, k2, k3⟩ := k2; simp only [k2]; exact go ρ1 π1 k3 q1
      | cont π1 => obtain ⟨ρ1, k2, k3⟩ := k2; simp only [k2]; exact go ρ1 π1 k3 q1
      | brk π1 => obtain ⟨ρ1, k2, k3⟩ := k2; exact ⟨_, m1, G1, q1, d1, kd, ρ1, by simp only [k2], k3⟩
      | ret p => obtain ⟨v, k2, k3⟩ := k2; exact ⟨_, m1, G1, q1, d1, kd, v, by simp only [k2], k3⟩
      | exc e => obtain ⟨ρ1, k2⟩ := k2; exact ⟨_, m1, G1, q1, d1, kd, ρ1, by simp only [k2]⟩
      | stuck => exact k2.elim
theorem anS_for {fi : FI} {ni : PFr → ND (List PV)} {tgt : Tgt} (hs : ∀ i ∈ tgt.slots, i ∉ bs) (h0 : 0 ∉ tgt.slots) (hi : An rG bs fi ni) (h : AnS bs s w) : AnS bs (sFor fi tgt s) (uFor ni tgt w) := fun d b0 G ρ π m r dc =>
  outs_ofR r.keep (hi d b0 G ρ π m r dc) fun xs v o m' dc' rv => by
    cases rv
    exact forn_go hs h0 h (it := ⟨xs, none⟩) rfl xs _ ρ π m' (r.dset o) dc'
/-- a new list in a slot of its own -/
theorem RelD.newBox {d b0 : Nat} {G : Store} {ρ : Fr} {π : PFr} (r : RelD bs d b0 G ρ π) {i : Nat} (hi : i ∈ bs) (o : Ob) : RelD bs d b0 (G ++ [o]) (ρ.set i (some (.box G.length))) (π.set i (some (freeze o))) :=
  ⟨r.f.newBox hi o, by rw [List.getElem?_set_ne (fun (e : i = 0) => r.nb (e ▸ hi))]; exact r.dice, r.lt, r.nb⟩
theorem KeepD.app {d b m : Nat} {G : Store} (dc : Dice G d m) (h : b ≤ G.length) (o : Ob) : KeepD d b G (G ++ [o]) := by
  obtain ⟨o', ho⟩ := dc.self
  exact ⟨by simp; omega, o', by rw [List.take_append_of_le_length h, ← List.take_set, ho]⟩
@[simp] def uSetBox (i : Nat) (f : PFr → ND (List PV)) (π : PFr) : NS := nOfR (f π) fun ps => nR (.next (π.set i (some (.lst ps))))
theorem anS_setBox {i : Nat} {f : FF} {nf : PFr → ND (List PV)} (hi : i ∈ bs) (hf : An rI bs f nf) : AnS bs (sSetBox i f) (uSetBox i nf) := fun d b0 G ρ π m r dc =>
  outs_ofR r.keep (hf d b0 G ρ π m r dc) fun x v o m' dc' rv => by
    cases rv
    intro Q hq
    exact ⟨_, m', _, hq, dc'.grow, .app dc' (r.dset o).keep _, _, rfl, (r.dset o).newBox hi (.lst x)⟩
/-- a block, statement by statement -/
theorem uSeq_in {a b : PFr → NS} {π : PFr} {m : Nat} {Q : PS → Nat → Prop} (h : ∀ Q' : PS → Nat → Prop, (∀ π1 m1, b π1 m1 Q → Q' (.next π1) m1) → (∀ v m1, Q (.ret v) m1 → Q' (.ret v) m1) → a π m Q') : uSeq a b π m Q :=
  h _ (fun _ _ h => h) (fun _ _ h => h)
theorem nBind_in {α β : Type} {x : ND α} {k : α → ND β} {m : Nat} {Q : PR β → Nat → Prop} (h : ∀ Q' : PR α → Nat → Prop, (∀ a m1, k a m1 Q → Q' (.ok a) m1) → x m Q') : nBind x k m Q := h _ (fun _ _ h => h)
/-- a def -/
@[simp] def nFn (ps n : Nat) (body : PFr → NS) (vs : List PV) : ND PV := if vs.length = ps then (fun m Q => body (none :: vs.map some ++ List.replicate (n - (vs.length + 1)) none) m fun r m' => match r with
  | .ret v => Q (.ok v) m'
  | .next _ => Q (.ok .non) m'
  | .exc e => Q (.exc e) m'
  | _ => False) else nP .stuck
theorem an_fn {N : List Str} {ps n : Nat} (hn : N.length = n) (hp : ∀ i ∈ bs, ps < i) (h : AnS bs s w) : AnFn (fnSem false N s) (nFn ps n w) := fun d G m vs hd dc => by
  unfold nFn
  by_cases hl : vs.length = ps
  · rw [if_pos hl]
    intro Q hq
    have r : RelD bs d G.length G (startF N (.box d :: vs.map .pv)) (none :: vs.map some ++ List.replicate (n - (vs.length + 1)) none) := by
      have pv : ∀ {i : Nat} {o : Option Val}, i ≠ 0 → (startF N (.box d :: vs.map .pv))[i]? = some o → o = none ∨ ∃ p, o = some (.pv p) := fun {i o} h0 e => by
        cases i with
        | zero => exact absurd rfl h0
        | succ i =>
          unfold startF at e
          rw [List.map_cons, List.cons_append, List.getElem?_cons_succ] at e
          rcases List.mem_append.mp (List.mem_of_getElem? e) with q | q
          · obtain ⟨v, hv, rfl⟩ := List.mem_map.mp q
            obtain ⟨p, _, rfl⟩ := List.mem_map.mp hv
            exact .inr ⟨p, rfl⟩
          · exact .inl (List.eq_of_mem_replicate q)
      have nz : ∀ i ∈ bs, i ≠ 0 := fun i hi e => by have := hp i hi; omega
      refine ⟨⟨by simp [startF, hn], Nat.le_refl _, fun i p e => ?_, fun i i' j hi _ e _ => ?_, fun i j hi e => ?_⟩, rfl, hd, fun z => nz 0 z rfl⟩
      · cases i with
        | zero => simp at e
        | succ i =>
          rw [List.cons_append, List.getElem?_cons_succ] at e
          have hi : i < vs.length := by
            by_cases q : i < vs.length
            · exact q
            · rw [List.getElem?_append_right (by simpa using q)] at e
              have := List.eq_of_mem_replicate (List.mem_of_getElem? e)
              cases this
          refine .inl ⟨fun hb => by have := hp _ hb; omega, ?_⟩
          rw [List.getElem?_append_left (by simpa using hi)] at e
          unfold startF
          rw [List.map_cons, List.cons_append, List.getElem?_cons_succ, List.getElem?_append_left (by simpa using hi)]
          have e1 : vs[i]? = some p := by simpa using e
          simp [e1]
      · rcases pv (nz i hi) e with q | ⟨p, q⟩ <;> cases q
      · rcases pv (nz i hi) e with q | ⟨p, q⟩ <;> cases q
    obtain ⟨r1, m1, G1, q1, d1, ⟨kl, o, kd⟩, k1⟩ := h d G.length G _ _ m r dc _ hq
    rw [List.take_length] at kd
    have d1' : Dice (G.set d o) d m1 := by
      rw [← kd]
      obtain ⟨a, b, c, e, rest⟩ := d1
      exact ⟨a, b, c, by rw [List.getElem?_take_of_lt hd]; exact e, rest⟩
    unfold fnSem
    cases r1 with
    | next π' => obtain ⟨ρ', k1, _⟩ := k1; exact ⟨.ok .non, o, m1, q1, d1', .pv .non, by simp only [k1, kd], rfl⟩
    | exc x => obtain ⟨ρ', k1⟩ := k1; exact ⟨.exc x, o, m1, q1, d1', by simp only [k1, kd]⟩
    | ret p =>
      obtain ⟨v, k1, k2, k3⟩ := k1
      refine ⟨.ok p, o, m1, q1, d1', .pv p, ?_, rfl⟩
      simp only [k1]
      unfold leave
      rcases k3 with rfl | ⟨j, rfl, hj⟩
      · cases k2
        simp only [kd]
      · simp only [if_neg (show ¬ j < G.length by omega)]
        unfold deref at k2
        dsimp only at k2
        cases q : G1[j]? with
        | none => rw [q] at k2; cases k2
        | some o' =>
          rw [q] at k2
          simp only [Bool.false_eq_true, if_false, kd]
          cases o' <;> · cases k2; rfl
    | brk π' => exact q1.elim
    | cont π' => exact q1.elim
    | stuck => exact k1.elim
  · rw [if_neg hl]
    exact fun _ h => h.elim
end
end Ev

end
section
set_option maxRecDepth 100000
set_option maxHeartbeats 4000000
/-! Ev Nf: the throw, the mixing -/
namespace Ev
open PySem PySem.Spec PyProof.Rows L2
def nRoll (vs : List PV) : ND PV := fun m Q => match vs with
  | [.int n] => 0 < n ∧ n < 2 ^ 64 ∧ m < 2 ^ 60 ∧ ∀ k : Int, 0 ≤ k → k < n → Q (.ok (.int k)) (m + 1)
  | _ => False
def bRoll : FS := (sSeq (sIf (cCmp pyGtB (cBin pyItem (cVar 0) (cK (.int 0))) (cK (.int 0))) (sSeq (sSet 2 (cBin pyMod (cCall pyInt (cCons (cBin pyItem (cVar 0) (cK (.int 0))) cNil)) (cVar 1))) (sSeq (sPut (cVar 0) (cK (.int 0)) (cBin pyFDiv (cBin pyItem (cVar 0) (cK (.int 0))) (cVar 1))) (sSeq (sRet (cVar 2)) sSkip))) sSkip) (sSeq (sPut (cVar 0) (cK (.int 2)) (cBin pyAdd (cBin pyItem (cVar 0) (cK (.int 2))) (cK (.int 1)))) (sSeq (sSet 3 (cBin pyMod (cCall pyInt (cCons (cBin pyAdd (cBin pyItem (cVar 0) (cK (.int 1))) (cBin pyMul (cK (.int 1000303)) (cBin pyItem (cVar 0) (cK (.int 2))))) cNil)) (cK (.int 2305843009213693951)))) (sSeq (sSet 4 (cBin pyAdd (cBin pyMul (cBin pyMod (cCall pyInt (cCons (cBin pyMul (cVar 3) (cVar 3)) cNil)) (cK (.int 2305843009213693921))) (cVar 3)) (cBin pyMul (cK (.int 9323)) (cBin pyItem (cVar 0) (cK (.int 2)))))) (sSeq (sSet 4 (cBin pyMod (cCall pyInt (cCons (cVar 4) cNil)) (cK (.int 2305843009213693907)))) (sSeq (sRet (cBin pyMod (cCall pyInt (cCons (cBin pyFDiv (cVar 4) (cK (.int 4096))) cNil)) (cVar 1))) sSkip))))))
theorem log_lt {n : Int} {k : Nat} (h0 : 0 ≤ n) (h : n < 2 ^ k) (hk : 0 < k) : n.natAbs.log2 < k := by
  by_cases z : n.natAbs = 0
  · rw [z]; simpa using hk
  · rw [Nat.log2_lt z]
    have e : (n.natAbs : Int) = n := Int.natAbs_of_nonneg h0
    have : (n.natAbs : Int) < ((2 ^ k : Nat) : Int) := by rw [e, Int.natCast_pow]; exact h
    exact Int.ofNat_lt.mp this
theorem at0 {a b c : Int} : atI [PV.int a, .int b, .int c] 0 = some (.int a) := rfl
theorem at1 {a b c : Int} : atI [PV.int a, .int b, .int c] 1 = some (.int b) := rfl
theorem at2 {a b c : Int} : atI [PV.int a, .int b, .int c] 2 = some (.int c) := rfl
theorem roll_ok {run : List Val → Store → Res Val} (hr : run = fnSem false ["_law_dice_here", "_law_total", "_law_found", "_law_one", "_law_two"] bRoll) : AnFn run nRoll := fun d G m vs hd dc Q hq => by
  unfold nRoll at hq
  split at hq
  · rename_i n
    obtain ⟨n0, n1, hm, hq⟩ := hq
    obtain ⟨a, b, c, hG, a0, a1, b0, b1, c0, c1⟩ := dc
    have nl : n.natAbs.log2 < 9000 := Nat.lt_trans (log_lt (k := 64) (by omega) n1 (by decide)) (by decide)
    by_cases ha : 0 < a
    · have k0 := Int.emod_nonneg a (show n ≠ 0 by omega)
      have k1 := Int.emod_lt_of_pos a n0
      have d0 : 0 ≤ a / n := Int.ediv_nonneg a0 (by omega)
      have d1 : a / n ≤ a := Int.ediv_le_self _ a0
      refine ⟨.ok (.int (a % n)), .lst [.int (a / n), .int b, .int c], m + 1, hq _ k0 k1, ⟨a / n, b, c, by rw [List.getElem?_set_self hd], d0, by omega, b0, b1, c0, by omega⟩, .pv (.int (a % n)), ?_, rfl⟩
      rw [hr]
      simp [fnSem, startF, bRoll, sSeq, sIf, cCmp, cBin, cVar, cK, ofR, Res.bind, opt2, opt2B, deref, hG, pyItem, at0, ofO, ofOB, pyGtB, ha, sSet, cCall, cCons, cNil, derefs, pyInt, Option.bind, pyMod, n0, sPut, pyFDiv, nl, ixN, sRet, sSkip, leave]
      exact List.take_of_length_le (by simp)
    · have mul : ∀ i j : Int, 0 ≤ i → i < 2 ^ 64 → 0 ≤ j → j < 2 ^ 64 → Ev.pyMul (.int i) (.int j) = some (.int (i * j)) := fun i j h1 h2 h3 h4 => by
        have l1 := log_lt (k := 64) h1 h2 (by decide)
        have l2 := log_lt (k := 64) h3 h4 (by decide)
        exact if_pos (show i.natAbs.log2 + j.natAbs.log2 < 1000000 by omega)
      have c2 : c + 1 < 2 ^ 64 := by
        have : (m : Int) < 2 ^ 60 := by exact_mod_cast hm
        have e : (2 : Int) ^ 60 = 1152921504606846976 := by decide
        have e2 : (2 : Int) ^ 64 = 18446744073709551616 := by decide
        omega
      obtain ⟨one, h1⟩ : ∃ x, x = (b + 1000303 * (c + 1)) % 2305843009213693951 := ⟨_, rfl⟩
      have o0 : 0 ≤ one := by rw [h1]; exact Int.emod_nonneg _ (by decide)
      have o1 : one < 2 ^ 64 := by
        have : one < 2305843009213693951 := by rw [h1]; exact Int.emod_lt_of_pos _ (by decide)
        have e2 : (2 : Int) ^ 64 = 18446744073709551616 := by decide
        omega
      obtain ⟨two, h2⟩ : ∃ x, x = (one * one) % 2305843009213693921 := ⟨_, rfl⟩
      have t0 : 0 ≤ two := by rw [h2]; exact Int.emod_nonneg _ (by decide)
      have t1 : two < 2 ^ 64 := by
        have : two < 2305843009213693921 := by rw [h2]; exact Int.emod_lt_of_pos _ (by decide)
        have e2 : (2 : Int) ^ 64 = 18446744073709551616 := by decide
        omega
      have p1 := mul 1000303 (c + 1) (by decide) (by decide) (by omega) c2
      have p2 := mul 9323 (c + 1) (by decide) (by decide) (by omega) c2
      have p3 := mul one one o0 o1 o0 o1
      have p4 := mul two one t0 t1 o0 o1
      obtain ⟨res, h3⟩ : ∃ x, x = (two * one + 9323 * (c + 1)) % 2305843009213693907 / 4096 % n := ⟨_, rfl⟩
      have k0 : 0 ≤ res := by rw [h3]; exact Int.emod_nonneg _ (by omega)
      have k1 : res < n := by rw [h3]; exact Int.emod_lt_of_pos _ n0
      refine ⟨.ok (.int res), .lst [.int a, .int b, .int (c + 1)], m + 1, hq _ k0 k1, ⟨a, b, c + 1, by rw [List.getElem?_set_self hd], a0, a1, b0, b1, by omega, by omega⟩, .pv (.int res), ?_, rfl⟩
      rw [hr]
      have fd : ∀ i : Int, Ev.pyFDiv (.int i) (.int 4096) = some (.int (i / 4096)) := fun i => by
        show (if (0 : Int) < 4096 ∧ (4096 : Int).natAbs.log2 < 9000 then some (PV.int (i / 4096)) else none) = _
        rw [if_pos ⟨by decide, by decide⟩]
      have m1 : ∀ i : Int, Ev.pyMod (.int i) (.int 2305843009213693951) = some (.int (i % 2305843009213693951)) := fun i => rfl
      have m2 : ∀ i : Int, Ev.pyMod (.int i) (.int 2305843009213693921) = some (.int (i % 2305843009213693921)) := fun i => rfl
      have m3 : ∀ i : Int, Ev.pyMod (.int i) (.int 2305843009213693907) = some (.int (i % 2305843009213693907)) := fun i => rfl
      have m4 : ∀ i : Int, Ev.pyMod (.int i) (.int n) = some (.int (i % n)) := fun i => by
        show (if 0 < n then some (PV.int (i % n)) else none) = _
        rw [if_pos n0]
      have hS : (G.set d (.lst [PV.int a, .int b, .int (c + 1)]))[d]? = some (.lst [PV.int a, .int b, .int (c + 1)]) := by rw [List.getElem?_set_self hd]
      simp [fnSem, startF, bRoll, sSeq, sIf, cCmp, cBin, cVar, cK, ofR, Res.bind, opt2, opt2B, deref, hG, hS, pyItem, at0, at1, at2, ofO, ofOB, pyGtB, ha, sSet, cCall, cCons, cNil, derefs, pyInt, Option.bind, sPut, ixN, sRet, sSkip, leave, Ev.pyAdd, p1, p2, p3, p4, fd, m1, m2, m3, m4, ← h1, ← h2, ← h3]
      exact List.take_of_length_le (by simp)
  · exact hq.elim
/-! ### the mixing -/
def nMixed (vs : List PV) : ND PV := fun m Q => match vs with
  | [.lst items] => m + items.length ≤ 2 ^ 60 ∧ items.length ≤ 1000000 ∧ ∀ out, out.Perm items → Q (.ok (.lst out)) (m + items.length)
  | [.tup items] => m + items.length ≤ 2 ^ 60 ∧ items.length ≤ 1000000 ∧ ∀ out, out.Perm items → Q (.ok (.lst out)) (m + items.length)
  | _ => False
def bMixed (roll : List Val → Store → Res Val) : FS := (sSeq (sSetBox 2 (cCallF pyList2 (cCons (cVar 1) cNil))) (sSeq (sRet (cFrz (cLc (iCall rangeItems (cCons (cCall pyLen (cCons (cVar 1) cNil)) cNil)) [3] (.one 3) cYes (cMeth false mPop (cVar 2) (cCons (cOwn roll (cCons (cVar 0) (cCons (cCall pyLen (cCons (cVar 2) cNil)) cNil))) cNil))))) sSkip))
theorem roll_gives {roll : List Val → Store → Res Val} (h : AnFn roll nRoll) {d m : Nat} {G : Store} {n : Int} (dc : Dice G d m) (n0 : 0 < n) (n1 : n < 2 ^ 64) (hm : m < 2 ^ 60) : ∃ (k : Int) (o : Ob), 0 ≤ k ∧ k < n ∧ Dice (G.set d o) d (m + 1) ∧ roll [.box d, .pv (.int n)] G = .ok (.pv (.int k)) (G.set d o) := by
  obtain ⟨r, o, m', ⟨k, rfl, k0, k1, rfl⟩, dc', v, e, rfl⟩ := h d G m [.int n] dc.lt dc (fun r m' => ∃ k, r = .ok (.int k) ∧ 0 ≤ k ∧ k < n ∧ m' = m + 1) ⟨n0, n1, hm, fun k k0 k1 => ⟨k, rfl, k0, k1, rfl⟩⟩
  exact ⟨k, o, k0, k1, dc', e⟩
theorem perm_erase {L : List PV} {i : Nat} {y : PV} (h : L[i]? = some y) : (y :: L.eraseIdx i).Perm L := by
  induction L generalizing i with
  | nil => simp at h
  | cons x L ih =>
    cases i with
    | zero => simp at h; subst h; simp
    | succ i =>
      simp at h
      have := ih h
      simp only [List.eraseIdx_cons_succ]
      exact (List.Perm.swap x y _).trans (this.cons x)
theorem mix_loop {roll : List Val → Store → Res Val} (h : AnFn roll nRoll) {d : Nat} {ρ : Fr} (hr : ρ[0]? = some (some (.box d))) (h4 : ρ.length = 4) : ∀ (turns L acc : List PV) (G : Store) (m : Nat), turns.length = L.length → ρ[2]? = some (some (.box G.length)) → Dice G d m → m + L.length ≤ 2 ^ 60 → L.length ≤ 1000000 → acc.length + L.length ≤ 1000000 →
    ∃ (out : List PV) (o : Ob), out.Perm L ∧ Dice (G.set d o) d (m + L.length) ∧ lcLoop ⟨is, none⟩ (.one 3) cYes (cMeth false mPop (cVar 2) (cCons (cOwn roll (cCons (cVar 0) (cCons (cCall pyLen (cCons (cVar 2) cNil)) cNil))) cNil)) (G.length + 1) ρ turns (G ++ [.lst L, .lst acc]) = .ok () (G.set d o ++ [.lst [], .lst (acc ++ out)])
  | [], [], acc, G, m, _, _, dc, _, _, _ => by
    obtain ⟨o, ho⟩ := dc.self
    refine ⟨[], o, List.Perm.nil, by rw [ho]; exact dc, ?_⟩
    unfold lcLoop
    rw [ho]
    simp [guardOk]
  | [], _ :: _, _, _, _, e, _, _, _, _, _ => by cases e
  | _ :: _, [], _, _, _, e, _, _, _, _, _ => by cases e
  | t :: ts, x :: L, acc, G, m, e, r2, dc, hm, hl, ha => by
    have big : (1000000 : Nat) < sizeLine := by decide
    have hd := dc.lt
    have hlen : (x :: L).length = L.length + 1 := rfl
    obtain ⟨G2, hG2⟩ : ∃ G2, G2 = G ++ [Ob.lst (x :: L), .lst acc] := ⟨_, rfl⟩
    have dc2 : Dice G2 d m := by rw [hG2]; exact dc.grow
    obtain ⟨k, o, k0, k1, dc3, er⟩ := roll_gives h dc2 (n := ((x :: L).length : Int)) (by rw [hlen]; omega) (by
      have e2 : (2 : Int) ^ 64 = 18446744073709551616 := by decide
      omega) (by rw [hlen] at hm; omega)
    have set2 : G2.set d o = G.set d o ++ [Ob.lst (x :: L), .lst acc] := by rw [hG2, List.set_append_left _ _ hd]
    have dc3' : Dice (G.set d o) d (m + 1) := by rw [set2] at dc3; exact dc3.less (by simpa using hd)
    have b62 : bound62 k = true := by
      unfold bound62
      have e2 : (2 : Int) ^ 62 = 4611686018427387904 := by decide
      exact decide_eq_true (by omega)
    have sq : seqIndex? k (x :: L).length = some k.toNat := by
      unfold seqIndex?
      simp [show ¬ k < 0 by omega, k0]
      omega
    have kl : k.toNat < (x :: L).length := by omega
    have hy : (x :: L)[k.toNat]? = some (x :: L)[k.toNat] := List.getElem?_eq_getElem kl
    obtain ⟨y, hy'⟩ : ∃ y, (x :: L)[k.toNat]? = some y := ⟨_, hy⟩
    have pe := perm_erase hy'
    have le : ((x :: L).eraseIdx k.toNat).length = L.length := by
      have := pe.length_eq
      simp only [List.length_cons] at this
      omega
    obtain ⟨out, o2, pm, dc4, el⟩ := mix_loop (is := is) h hr h4 ts ((x :: L).eraseIdx k.toNat) (acc ++ [y]) (G.set d o) (m + 1) (by rw [le]; simpa using e) (by simpa using r2) dc3' (by rw [le]; rw [hlen] at hm; omega) (by rw [le]; rw [hlen] at hl; omega) (by rw [le, List.length_append, List.length_singleton]; rw [hlen] at ha; omega)
    rw [List.set_set] at dc4 el
    refine ⟨y :: out, o2, (pm.cons y).trans pe, by rw [le] at dc4; rw [hlen, show m + (L.length + 1) = m + 1 + L.length by omega]; exact dc4, ?_⟩
    have rr0 : (ρ.set 3 (some (.pv t)))[0]? = some (some (.box d)) := by simp [hr]
    have rr2 : (ρ.set 3 (some (.pv t)))[2]? = some (some (.box G.length)) := by simp [r2]
    have g0 : G2[G.length]? = some (.lst (x :: L)) := by rw [hG2]; simp
    have g1 : (G2.set d o)[G.length]? = some (.lst (x :: L)) := by rw [set2]; simp
    unfold lcLoop
    simp only [guardOk, if_true, bindTgt, cYes, noX, Res.ok_bind]
    rw [← hG2]
    simp only [cMeth, cVar, rr2, Res.ok_bind, g0, cCons, cOwn, rr0, cCall, cNil, derefs, deref, Ev.pyLen, Option.bind, ofO, er]
    have mp : mPop (x :: L) [.int k] = some (y, (x :: L).eraseIdx k.toNat) := by
      simp only [mPop, b62, if_true, sq, Option.bind, hy', Option.map_some]
    have s1 : (G2.set d o).set G.length (.lst ((x :: L).eraseIdx k.toNat)) = G.set d o ++ [.lst ((x :: L).eraseIdx k.toNat), .lst acc] := by
      rw [set2, List.set_append_right _ _ (by simp)]
      simp
    have s2 : (G.set d o ++ [Ob.lst ((x :: L).eraseIdx k.toNat), .lst acc])[G.length + 1]? = some (.lst acc) := by
      rw [List.getElem?_append_right (by simp)]
      simp
    have s3 : (G.set d o ++ [Ob.lst ((x :: L).eraseIdx k.toNat), .lst acc]).set (G.length + 1) (.lst (acc ++ [y])) = G.set d o ++ [Ob.lst ((x :: L).eraseIdx k.toNat), .lst (acc ++ [y])] := by
      rw [List.set_append_right _ _ (by simp)]
      simp
    simp only [g1, Bool.false_eq_true, if_false, mp, s1, Res.ok_bind, s2]
    rw [if_pos (by rw [hlen] at ha; omega), s3]
    rw [List.length_set] at el
    rw [el]
    simp
theorem intsUp_len : ∀ (n : Nat) (lo : Int), (intsUp lo n).length = n
  | 0, _ => rfl
  | n + 1, lo => by simp [intsUp, intsUp_len n]
theorem icall_len {f : List PV → Option (List PV)} {ρ : Fr} {G : Store} {p : PV} {n : Int} {is : List PV} (v1 : ρ[1]? = some (some (.pv p))) (ln : Ev.pyLen [p] = some (.int n)) (ri : f [.int n] = some is) : iCall f (cCons (cCall Ev.pyLen (cCons (cVar 1) cNil)) cNil) ρ G = .ok ⟨is, none⟩ G := by
  have h0 : cVar 1 ρ G = .ok (.pv p) G := by unfold cVar; rw [v1]
  have h1 : cCons (cVar 1) cNil ρ G = .ok [.pv p] G := by unfold cCons; rw [h0]; rfl
  have h2 : cCall Ev.pyLen (cCons (cVar 1) cNil) ρ G = .ok (.pv (.int n)) G := by
    unfold cCall
    rw [h1]
    show ofO ((derefs G [.pv p]).bind Ev.pyLen) G = _
    show ofO (Ev.pyLen [p]) G = _
    rw [ln]; rfl
  have h3 : cCons (cCall Ev.pyLen (cCons (cVar 1) cNil)) cNil ρ G = .ok [.pv (.int n)] G := by unfold cCons; rw [show cCall Ev.pyLen (fun ρ G => (cVar 1 ρ G).bind fun v G1 => (cNil ρ G1).bind fun vs G2 => .ok (v :: vs) G2) ρ G = _ from h2]; rfl
  unfold iCall
  rw [h3]
  show (match f [.int n] with
    | some xs => Res.ok (Items.mk xs none) G
    | none => .stuck) = _
  rw [ri]
theorem mixed_key {run roll : List Val → Store → Res Val} (hr : run = fnSem false ["_law_dice_here", "_law_items", "_law_left", "_law_turn"] (bMixed roll)) (h : AnFn roll nRoll) {d m : Nat} {G : Store} (dc : Dice G d m) (p : PV) (items : List PV) (hp : p = .lst items ∨ p = .tup items) (hm : m + items.length ≤ 2 ^ 60) (hl : items.length ≤ 1000000) : ∃ (out : List PV) (o : Ob), out.Perm items ∧ Dice (G.set d o) d (m + items.length) ∧ run [.box d, .pv p] G = .ok (.pv (.lst out)) (G.set d o) := by
  have big : (1000000 : Nat) < sizeLine := by decide
  have l2 : pyList2 [p] = some items := by rcases hp with rfl | rfl <;> rfl
  have ln : Ev.pyLen [p] = some (.int items.length) := by rcases hp with rfl | rfl <;> rfl
  have ri : rangeItems [.int items.length] = some (intsUp 0 items.length) := by
    have b : bound62 (items.length : Int) = true := by
      unfold bound62
      have e2 : (2 : Int) ^ 62 = 4611686018427387904 := by decide
      exact decide_eq_true (by omega)
    simp [rangeItems, b]
  obtain ⟨out, o, pm, dc2, el⟩ := mix_loop (is := intsUp 0 items.length) h (ρ := [some (.box d), some (.pv p), some (.box G.length), none]) rfl rfl (intsUp 0 items.length) items [] G m (intsUp_len ..) rfl dc hm hl (by simpa using hl)
  refine ⟨out, o, pm, dc2, ?_⟩
  rw [List.nil_append] at el
  have g1 : (G.set d o ++ [Ob.lst [], Ob.lst out])[G.length + 1]? = some (.lst out) := by
    rw [List.getElem?_append_right (by simp)]
    simp
  have ap : G ++ [Ob.lst items] ++ [Ob.lst []] = G ++ [Ob.lst items, .lst []] := by simp
  have gl : (G ++ [Ob.lst items]).length = G.length + 1 := by simp
  have tk : (G.set d o ++ [Ob.lst [], Ob.lst out]).take (G.length + 1) = G.set d o ++ [Ob.lst []] := by
    rw [List.take_append]
    simp
    exact List.take_of_length_le (by simp)
  have tk2 : (G.set d o ++ [Ob.lst []]).take G.length = G.set d o := by
    rw [List.take_append]
    simp
    exact List.take_of_length_le (by simp)
  have ll : (G.set d o ++ [Ob.lst [], Ob.lst out]).length = G.length + 1 + 1 := by simp
  obtain ⟨ρ0, e0⟩ : ∃ ρ0 : Fr, ρ0 = [some (.box d), some (.pv p), none, none] := ⟨_, rfl⟩
  obtain ⟨ρ1, e1⟩ : ∃ ρ1 : Fr, ρ1 = [some (.box d), some (.pv p), some (.box G.length), none] := ⟨_, rfl⟩
  have v0 : ρ0[1]? = some (some (.pv p)) := by rw [e0]; rfl
  have v1 : ρ1[1]? = some (some (.pv p)) := by rw [e1]; rfl
  have s01 : ρ0.set 2 (some (.box G.length)) = ρ1 := by rw [e0, e1]; rfl
  have w1 : wipeF ρ1 [3] = ρ1 := by rw [e1]; rfl
  have f1 : cCallF pyList2 (cCons (cVar 1) cNil) ρ0 G = .ok items G := by
    simp only [cCallF, cCons, cVar, v0, cNil, Res.ok_bind, derefs, deref, Option.bind, l2, ofOL]
  have f2 : iCall rangeItems (cCons (cCall pyLen (cCons (cVar 1) cNil)) cNil) ρ1 (G ++ [Ob.lst items]) = .ok ⟨intsUp 0 items.length, none⟩ (G ++ [Ob.lst items]) := by
    exact icall_len v1 ln ri
  rw [← e1] at el
  obtain ⟨te, et⟩ : ∃ te, te = (cMeth false mPop (cVar 2) (cCons (cOwn roll (cCons (cVar 0) (cCons (cCall pyLen (cCons (cVar 2) cNil)) cNil))) cNil)) := ⟨_, rfl⟩
  have et' : (cMeth false mPop (cVar 2) (cCons (cOwn roll (cCons (cVar 0) (cCons (cCall Ev.pyLen (cCons (cVar 2) cNil)) cNil))) cNil)) = te := et.symm
  rw [et'] at el
  have f3 : cLc (iCall rangeItems (cCons (cCall pyLen (cCons (cVar 1) cNil)) cNil)) [3] (.one 3) cYes te ρ1 (G ++ [Ob.lst items]) = .ok out (G.set d o ++ [Ob.lst []]) := by
    unfold cLc
    rw [f2]
    simp only [Res.ok_bind, w1, gl, ap]
    rw [el]
    simp only [Res.ok_bind, g1, if_pos ll, tk]
  have st : startF ["_law_dice_here", "_law_items", "_law_left", "_law_turn"] [.box d, .pv p] = ρ0 := by rw [e0]; rfl
  have f4 : bMixed roll ρ0 G = .ret (.pv (.lst out)) (G.set d o ++ [Ob.lst []]) := by
    unfold bMixed
    rw [et']
    have a1 : sSetBox 2 (cCallF pyList2 (cCons (cVar 1) cNil)) ρ0 G = .next ρ1 (G ++ [.lst items]) := by
      unfold sSetBox
      rw [f1]
      simp only [ofR, s01]
    have a2 : sRet (cFrz (cLc (iCall rangeItems (cCons (cCall pyLen (cCons (cVar 1) cNil)) cNil)) [3] (.one 3) cYes te)) ρ1 (G ++ [.lst items]) = .ret (.pv (.lst out)) (G.set d o ++ [Ob.lst []]) := by
      unfold sRet cFrz
      rw [f3]
      simp only [Res.ok_bind, ofR]
    unfold sSeq
    rw [a1]
    simp only [a2]
  rw [hr]
  unfold fnSem
  rw [st, f4]
  simp only [leave, tk2]
theorem mixed_ok {run roll : List Val → Store → Res Val} (hr : run = fnSem false ["_law_dice_here", "_law_items", "_law_left", "_law_turn"] (bMixed roll)) (h : AnFn roll nRoll) : AnFn run nMixed := fun d G m vs hd dc Q hq => by
  unfold nMixed at hq
  split at hq
  · rename_i items
    obtain ⟨hm, hl, hq⟩ := hq
    obtain ⟨out, o, pm, dc2, e⟩ := mixed_key hr h dc _ items (.inl rfl) hm hl
    exact ⟨_, o, _, hq out pm, dc2, _, e, rfl⟩
  · rename_i items
    obtain ⟨hm, hl, hq⟩ := hq
    obtain ⟨out, o, pm, dc2, e⟩ := mixed_key hr h dc _ items (.inr rfl) hm hl
    exact ⟨_, o, _, hq out pm, dc2, _, e, rfl⟩
  · exact hq.elim
end Ev

end
section
set_option maxRecDepth 100000
set_option maxHeartbeats 4000000
/-! Ev Ng: the dice made; the law's own shape: a loop over cells, then an end without dice -/
namespace Ev
open PySem PySem.Spec PyProof.Rows L2
def bDice : FS := (sSeq (sSet 2 (cBin pyAdd (cBin pyMul (cK (.int 43)) (cVar 1)) (cK (.int 11)))) (sSeq (sIf (cCmp pyLtB (cVar 1) (cCall pyLen (cCons (cVar 0) cNil))) (sSeq (sSet 2 (cBin pyItem (cVar 0) (cVar 1))) sSkip) sSkip) (sSeq (sSet 3 (cBin pyMod (cCall pyInt (cCons (cCall pyAbs (cCons (cVar 2) cNil)) cNil)) (cBin pyPow (cBin pyPow (cK (.int 10)) (cK (.int 60))) (cK (.int 10))))) (sSeq (sSet 4 (cBin pyAdd (cBin pyAdd (cBin pyAdd (cBin pyMul (cBin pyMod (cCall pyInt (cCons (cVar 3) cNil)) (cK (.int 2147483489))) (cK (.int 60029))) (cBin pyMul (cK (.int 4003)) (cVar 1))) (cBin pyMul (cK (.int 31)) (cCall pyInt (cCons (cBin (bl pyLtB) (cVar 2) (cK (.int 0))) cNil)))) (cK (.int 67)))) (sSeq (sRetBox (cLst (cCons (cCall pyMax (cCons (cK (.int 0)) (cCons (cBin pySub (cVar 3) (cBin pyPow (cK (.int 10)) (cK (.int 18)))) cNil))) (cCons (cBin pyMod (cCall pyInt (cCons (cVar 4) cNil)) (cK (.int 2147483423))) (cCons (cK (.int 0)) cNil))))) sSkip)))))
theorem pow10 : Ev.pyPow (.int 10) (.int 60) = some (.int (10 ^ 60)) := by
  show (if (0 : Int) ≤ 60 ∧ (Builtin.Int.intBits 10 : Int) * 60 ≤ 2 ^ 27 then some (PV.int (10 ^ 60)) else none) = _
  rw [if_pos (by decide +kernel)]
theorem pow600 : Ev.pyPow (.int (10 ^ 60)) (.int 10) = some (.int (10 ^ 600)) := by
  show (if (0 : Int) ≤ 10 ∧ (Builtin.Int.intBits (10 ^ 60) : Int) * 10 ≤ 2 ^ 27 then some (PV.int ((10 ^ 60) ^ 10)) else none) = _
  rw [if_pos (by decide +kernel), ← Int.pow_mul]
theorem pow18 : Ev.pyPow (.int 10) (.int 18) = some (.int (10 ^ 18)) := by
  show (if (0 : Int) ≤ 18 ∧ (Builtin.Int.intBits 10 : Int) * 18 ≤ 2 ^ 27 then some (PV.int (10 ^ 18)) else none) = _
  rw [if_pos (by decide +kernel)]
theorem mul_ok {i j : Int} (h1 : 0 ≤ i) (h2 : i < 2 ^ 64) (h3 : 0 ≤ j) (h4 : j < 2 ^ 64) : Ev.pyMul (.int i) (.int j) = some (.int (i * j)) := by
  have l1 := log_lt (k := 64) h1 h2 (by decide)
  have l2 := log_lt (k := 64) h3 h4 (by decide)
  exact if_pos (show i.natAbs.log2 + j.natAbs.log2 < 1000000 by omega)
theorem seq_next {a b : FS} {ρ ρ1 : Fr} {G G1 : Store} (h : a ρ G = .next ρ1 G1) : sSeq a b ρ G = b ρ1 G1 := by unfold sSeq; rw [h]
theorem seq_ret {a b : FS} {ρ : Fr} {G G1 : Store} {v : Val} (h : a ρ G = .ret v G1) : sSeq a b ρ G = .ret v G1 := by unfold sSeq; rw [h]
theorem seq_both {a b c : FS} {ρ ρ1 : Fr} {G G1 : Store} (h : sSeq a b ρ G = .next ρ1 G1) : sSeq a (sSeq b c) ρ G = c ρ1 G1 := by
  unfold sSeq at h ⊢
  cases e : a ρ G <;> rw [e] at h <;> try (cases h; done)
  dsimp only at h ⊢
  rw [h]
theorem dice_ok {run : List Val → Store → Res Val} (hr : run = fnSem true ["_law_script", "_law_at", "_law_cell", "_law_great", "_law_mixed_here"] bDice) {ns : List Int} {at_ : Nat} (ha : at_ < 1000) (G : Store) :
    ∃ a b : Int, run [.pv (.scr (ns.map .int)), .pv (.int at_)] G = .ok (.box G.length) (G ++ [.lst [.int a, .int b, .int 0]]) ∧ Dice (G ++ [.lst [.int a, .int b, .int 0]]) G.length 0 := by
  have e64 : (2 : Int) ^ 64 = 18446744073709551616 := by decide
  -- the cell
  obtain ⟨cell, hc⟩ : ∃ cell : Int, (sSeq (sSet 2 (cBin Ev.pyAdd (cBin Ev.pyMul (cK (.int 43)) (cVar 1)) (cK (.int 11)))) (sIf (cCmp pyLtB (cVar 1) (cCall Ev.pyLen (cCons (cVar 0) cNil))) (sSeq (sSet 2 (cBin pyItem (cVar 0) (cVar 1))) sSkip) sSkip)) [some (.pv (.scr (ns.map .int))), some (.pv (.int at_)), none, none, none] G = .next [some (.pv (.scr (ns.map .int))), some (.pv (.int at_)), some (.pv (.int cell)), none, none] G := by
    have p1 := mul_ok (i := 43) (j := at_) (by decide) (by decide) (by omega) (by omega)
    by_cases h : at_ < ns.length
    · refine ⟨ns[at_], ?_⟩
      have ai : atI (ns.map PV.int) (at_ : Int) = some (.int ns[at_]) := by
        exact atI_nat (by simp [h])
      simp [sSeq, sSet, cBin, cK, cVar, ofR, Res.bind, opt2, deref, p1, ofO, Ev.pyAdd, sIf, cCmp, cCall, cCons, cNil, derefs, Option.bind, opt2B, ofOB, h, pyItem, ai, sSkip]
    · refine ⟨43 * at_ + 11, ?_⟩
      simp [sSeq, sSet, cBin, cK, cVar, ofR, Res.bind, opt2, deref, p1, ofO, Ev.pyAdd, sIf, cCmp, cCall, cCons, cNil, derefs, Option.bind, opt2B, ofOB, h, sSkip]
  obtain ⟨P, hP⟩ : ∃ P : Int, P = 10 ^ 600 := ⟨_, rfl⟩
  have P0 : 0 < P := by rw [hP]; exact Int.pow_pos (by decide)
  have P1 : P < 2 ^ 4000 := by
    have h : (10 ^ 600 : Nat) < 2 ^ 4000 := by decide +kernel
    have h2 : ((10 ^ 600 : Nat) : Int) < ((2 ^ 4000 : Nat) : Int) := Int.ofNat_lt.mpr h
    rw [Int.natCast_pow, Int.natCast_pow] at h2
    rw [hP]; exact h2
  have q600 := pow600
  rw [← hP] at q600
  obtain ⟨P6, hP6⟩ : ∃ P6 : Int, P6 = 10 ^ 60 := ⟨_, rfl⟩
  have q60 := pow10
  rw [← hP6] at q60 q600
  obtain ⟨A, hA⟩ : ∃ A : Int, A = if cell < 0 then -cell else cell := ⟨_, rfl⟩
  obtain ⟨g, hg⟩ : ∃ g : Int, g = A % P := ⟨_, rfl⟩
  have g0 : 0 ≤ g := by rw [hg]; exact Int.emod_nonneg _ (by omega)
  have g1 : g < P := by rw [hg]; exact Int.emod_lt_of_pos _ P0
  have mP : Ev.pyMod (.int A) (.int P) = some (.int g) := by
    show (if 0 < P then some (PV.int (A % P)) else none) = _
    rw [if_pos P0, hg]
  have ab : Ev.pyAbs [.int cell] = some (.int A) := by rw [hA]; rfl
  obtain ⟨h1, hh1⟩ : ∃ h : Int, h = g % 2147483489 := ⟨_, rfl⟩
  have h10 : 0 ≤ h1 := by rw [hh1]; exact Int.emod_nonneg _ (by decide)
  have h11 : h1 < 2147483489 := by rw [hh1]; exact Int.emod_lt_of_pos _ (by decide)
  have m1 : Ev.pyMod (.int g) (.int 2147483489) = some (.int h1) := by rw [hh1]; rfl
  have p1 := mul_ok (i := h1) (j := 60029) h10 (by omega) (by decide) (by decide)
  have p2 := mul_ok (i := 4003) (j := at_) (by decide) (by decide) (by omega) (by omega)
  obtain ⟨neg, hneg⟩ : ∃ neg : Int, neg = if cell < 0 then 1 else 0 := ⟨_, rfl⟩
  have n01 : 0 ≤ neg ∧ neg < 2 := by rw [hneg]; split <;> decide
  have p3 := mul_ok (i := 31) (j := neg) (by decide) (by decide) (by omega) (by omega)
  have ng : Ev.pyInt [.bl (decide (cell < 0))] = some (.int neg) := by
    rw [hneg]
    show some (PV.int (if decide (cell < 0) = true then 1 else 0)) = _
    simp
  obtain ⟨M, hM⟩ : ∃ M : Int, M = h1 * 60029 + 4003 * at_ + 31 * neg + 67 := ⟨_, rfl⟩
  obtain ⟨b, hb⟩ : ∃ b : Int, b = M % 2147483423 := ⟨_, rfl⟩
  have b0 : 0 ≤ b := by rw [hb]; exact Int.emod_nonneg _ (by decide)
  have b1 : b < 2147483423 := by rw [hb]; exact Int.emod_lt_of_pos _ (by decide)
  have m2 : Ev.pyMod (.int M) (.int 2147483423) = some (.int b) := by rw [hb]; rfl
  obtain ⟨a, ha'⟩ : ∃ a : Int, a = if g - 10 ^ 18 > 0 then g - 10 ^ 18 else 0 := ⟨_, rfl⟩
  have a0 : 0 ≤ a := by rw [ha']; split <;> omega
  have a1 : a < 2 ^ 4000 := by
    have e18 : (10 : Int) ^ 18 = 1000000000000000000 := by decide
    have : a ≤ g := by rw [ha', e18]; split <;> omega
    omega
  have mx : Ev.pyMax [.int 0, .int (g - 10 ^ 18)] = some (.int a) := by rw [ha']; rfl
  refine ⟨a, b, ?_, a, b, 0, by simp, a0, a1, b0, by omega, by omega, by omega⟩
  have id : ∀ i : Int, Ev.pyInt [.int i] = some (.int i) := fun _ => rfl
  have s3 : sSet 3 (cBin Ev.pyMod (cCall Ev.pyInt (cCons (cCall Ev.pyAbs (cCons (cVar 2) cNil)) cNil)) (cBin Ev.pyPow (cBin Ev.pyPow (cK (.int 10)) (cK (.int 60))) (cK (.int 10)))) [some (.pv (.scr (ns.map .int))), some (.pv (.int at_)), some (.pv (.int cell)), none, none] G = .next [some (.pv (.scr (ns.map .int))), some (.pv (.int at_)), some (.pv (.int cell)), some (.pv (.int g)), none] G := by
    simp [sSet, cBin, cK, cVar, ofR, Res.bind, opt2, deref, cCall, cCons, cNil, derefs, Option.bind, ab, id, q60, q600, ofO, mP]
  have s4 : sSet 4 (cBin Ev.pyAdd (cBin Ev.pyAdd (cBin Ev.pyAdd (cBin Ev.pyMul (cBin Ev.pyMod (cCall Ev.pyInt (cCons (cVar 3) cNil)) (cK (.int 2147483489))) (cK (.int 60029))) (cBin Ev.pyMul (cK (.int 4003)) (cVar 1))) (cBin Ev.pyMul (cK (.int 31)) (cCall Ev.pyInt (cCons (cBin (bl pyLtB) (cVar 2) (cK (.int 0))) cNil)))) (cK (.int 67))) [some (.pv (.scr (ns.map .int))), some (.pv (.int at_)), some (.pv (.int cell)), some (.pv (.int g)), none] G = .next [some (.pv (.scr (ns.map .int))), some (.pv (.int at_)), some (.pv (.int cell)), some (.pv (.int g)), some (.pv (.int M))] G := by
    simp [sSet, cBin, cK, cVar, ofR, Res.bind, opt2, deref, cCall, cCons, cNil, derefs, Option.bind, id, m1, ofO, p1, p2, Ev.pyAdd, bl, ng, p3, hM]
  have s5 : sRetBox (cLst (cCons (cCall Ev.pyMax (cCons (cK (.int 0)) (cCons (cBin Ev.pySub (cVar 3) (cBin Ev.pyPow (cK (.int 10)) (cK (.int 18)))) cNil))) (cCons (cBin Ev.pyMod (cCall Ev.pyInt (cCons (cVar 4) cNil)) (cK (.int 2147483423))) (cCons (cK (.int 0)) cNil)))) [some (.pv (.scr (ns.map .int))), some (.pv (.int at_)), some (.pv (.int cell)), some (.pv (.int g)), some (.pv (.int M))] G = .ret (.box G.length) (G ++ [.lst [.int a, .int b, .int 0]]) := by
    have sb : Ev.pySub (.int g) (.int (10 ^ 18)) = some (.int (g - 10 ^ 18)) := rfl
    simp only [sRetBox, cLst, cBin, cK, cVar, ofR, Res.bind, opt2, deref, cCall, cCons, cNil, derefs, Option.bind, id, pow18, sb, mx, ofO, m2, cTup.pures, Option.map_some, ofOL, List.getElem?_cons_succ, List.getElem?_cons_zero]
  rw [hr]
  have st : startF ["_law_script", "_law_at", "_law_cell", "_law_great", "_law_mixed_here"] [.pv (.scr (ns.map .int)), .pv (.int at_)] = [some (.pv (.scr (ns.map .int))), some (.pv (.int at_)), none, none, none] := rfl
  unfold fnSem
  rw [st]
  have body : bDice [some (.pv (.scr (ns.map .int))), some (.pv (.int at_)), none, none, none] G = .ret (.box G.length) (G ++ [.lst [.int a, .int b, .int 0]]) := by
    unfold bDice
    rw [seq_both hc, seq_next s3, seq_next s4, seq_ret s5]
  rw [body]
  have g1' : (G ++ [Ob.lst [.int a, .int b, .int 0]])[G.length]? = some (.lst [.int a, .int b, .int 0]) := by simp
  simp only [leave, Nat.lt_irrefl, if_false, g1', if_true]
  simp
/-! ### the law's shape -/
/-- a def with dice that finds all right -/
def Fine (run : List Val → Store → Res Val) (cost : Nat) : Prop := ∀ d G m, Dice G d m → m + cost < 2 ^ 60 → ∃ o m', Dice (G.set d o) d m' ∧ m' ≤ m + cost ∧ run [.box d] G = .ok (.pv (.bl true)) (G.set d o)
theorem fine_of {run : List Val → Store → Res Val} {nf : List PV → ND PV} {cost : Nat} (h : AnFn run nf) (hn : ∀ m Q, m + cost < 2 ^ 60 → (∀ m', m' ≤ m + cost → Q (.ok (.bl true)) m') → nf [] m Q) : Fine run cost := fun d G m dc hm => by
  obtain ⟨r, o, m', ⟨rfl, hq⟩, dc', v, e, rfl⟩ := h d G m [] dc.lt dc (fun r m' => r = .ok (.bl true) ∧ m' ≤ m + cost) (hn m _ hm fun m' h => ⟨rfl, h⟩)
  exact ⟨o, m', dc', hq, e⟩
/-- if not right(dice): return False -/
def sAsk (s : Nat) (run : List Val → Store → Res Val) : FS := sIf (cNotT (cTru (cOwn run (cCons (cVar s) cNil)))) (sSeq (sRet (cK (.bl false))) sSkip) sSkip
theorem ask_ok {run : List Val → Store → Res Val} {cost : Nat} (h : Fine run cost) {s d m : Nat} {ρ : Fr} {G : Store} (hs : ρ[s]? = some (some (.box d))) (dc : Dice G d m) (hm : m + cost < 2 ^ 60) : ∃ G' m', Dice G' d m' ∧ m' ≤ m + cost ∧ sAsk s run ρ G = .next ρ G' := by
  obtain ⟨o, m', dc', h1, e⟩ := h d G m dc hm
  refine ⟨G.set d o, m', dc', h1, ?_⟩
  have v : cVar s ρ G = .ok (.box d) G := by unfold cVar; rw [hs]
  have a1 : cCons (cVar s) cNil ρ G = .ok [.box d] G := by unfold cCons; rw [v]; rfl
  have a2 : cOwn run (cCons (cVar s) cNil) ρ G = .ok (.pv (.bl true)) (G.set d o) := by unfold cOwn; rw [a1]; exact e
  have a3 : cTru (cOwn run (cCons (cVar s) cNil)) ρ G = .ok true (G.set d o) := by unfold cTru; rw [a2]; rfl
  have a4 : cNotT (cTru (cOwn run (cCons (cVar s) cNil))) ρ G = .ok false (G.set d o) := by unfold cNotT; rw [a3]; rfl
  unfold sAsk sIf
  rw [a4]
  rfl
/-- .. some times -/
theorem asks_ok {run : List Val → Store → Res Val} {cost : Nat} (h : Fine run cost) {s t d : Nat} (hst : t ≠ s) (is : List PV) : ∀ (xs : List PV) (m : Nat) (ρ : Fr) (G : Store), ρ[s]? = some (some (.box d)) → Dice G d m → m + cost * xs.length < 2 ^ 60 → ∃ ρ' G' m', Dice G' d m' ∧ m' ≤ m + cost * xs.length ∧ forLoop ⟨is, none⟩ (.one t) (sSeq (sAsk s run) sSkip) xs ρ G = .next ρ' G' ∧ ρ'.length = ρ.length ∧ ∀ i, i ≠ t → ρ'[i]? = ρ[i]?
  | [], m, ρ, G, hs, dc, hm => ⟨ρ, G, m, dc, by simp, rfl, rfl, fun _ _ => rfl⟩
  | x :: xs, m, ρ, G, hs, dc, hm => by
    simp only [List.length_cons, Nat.mul_succ] at hm ⊢
    have hs' : (ρ.set t (some (.pv x)))[s]? = some (some (.box d)) := by rw [List.getElem?_set_ne hst]; exact hs
    obtain ⟨G1, m1, dc1, h1, e1⟩ := ask_ok h hs' dc (by omega)
    obtain ⟨ρ', G', m', dc', h2, e2, h3, h4⟩ := asks_ok h hst is xs m1 _ G1 hs' dc1 (by omega)
    refine ⟨ρ', G', m', dc', by omega, ?_, by simpa using h3, fun i hi => by rw [h4 i hi, List.getElem?_set_ne (fun z => hi z.symm)]⟩
    unfold forLoop
    have e3 : sSeq (sAsk s run) sSkip (ρ.set t (some (.pv x))) G = .next (ρ.set t (some (.pv x))) G1 := by rw [seq_next e1]; rfl
    simp only [guardOk, if_true, bindTgt, e3]
    exact e2
/-- what is done for a cell: the dice stand in slot s -/
def Cell (s n : Nat) (inner : FS) (free : List Nat) : Prop := ∀ ρ G d, ρ.length = n → ρ[s]? = some (some (.box d)) → Dice G d 0 → ∃ ρ' G', inner ρ G = .next ρ' G' ∧ ρ'.length = n ∧ ∀ i, i ∉ free → ρ'[i]? = ρ[i]?
theorem cells_go {dice : List Val → Store → Res Val} {inner : FS} {free : List Nat} {n : Nat} {ns : List Int} (hd : ∀ (k : Nat) (G : Store), k < 1000 → ∃ a b : Int, dice [.pv (.scr (ns.map .int)), .pv (.int k)] G = .ok (.box G.length) (G ++ [.lst [.int a, .int b, .int 0]]) ∧ Dice (G ++ [.lst [.int a, .int b, .int 0]]) G.length 0)
    (hc : Cell 2 n inner free) (f0 : 0 ∉ free) (is : List PV) : ∀ (c k : Nat) (ρ : Fr) (G : Store), k + c < 1000 → ρ.length = n → 3 ≤ n → ρ[0]? = some (some (.pv (.scr (ns.map .int)))) → ∃ ρ' G', forLoop ⟨is, none⟩ (.one 1) (sSeq (sSet 2 (cOwn dice (cCons (cVar 0) (cCons (cVar 1) cNil)))) (sSeq inner sSkip)) (intsUp k c) ρ G = .next ρ' G' ∧ ρ'.length = n ∧ ∀ i, i ∉ free → i ≠ 1 → i ≠ 2 → ρ'[i]? = ρ[i]?
  | 0, k, ρ, G, _, hl, _, _ => ⟨ρ, G, rfl, hl, fun _ _ _ _ => rfl⟩
  | c + 1, k, ρ, G, hk, hl, h3, h0 => by
    obtain ⟨a, b, e1, dc⟩ := hd k G (by omega)
    have v0 : cVar 0 (ρ.set 1 (some (.pv (.int k)))) G = .ok (.pv (.scr (ns.map .int))) G := by unfold cVar; rw [List.getElem?_set_ne (by decide), h0]
    have v1 : cVar 1 (ρ.set 1 (some (.pv (.int k)))) G = .ok (.pv (.int k)) G := by unfold cVar; rw [List.getElem?_set_self (by omega)]
    have e2 : cCons (cVar 0) (cCons (cVar 1) cNil) (ρ.set 1 (some (.pv (.int k)))) G = .ok [.pv (.scr (ns.map .int)), .pv (.int k)] G := by
      unfold cCons
      rw [v0, Res.ok_bind, v1]
      rfl
    have e3 : sSet 2 (cOwn dice (cCons (cVar 0) (cCons (cVar 1) cNil))) (ρ.set 1 (some (.pv (.int k)))) G = .next ((ρ.set 1 (some (.pv (.int k)))).set 2 (some (.box G.length))) (G ++ [.lst [.int a, .int b, .int 0]]) := by
      unfold sSet cOwn
      rw [e2, Res.ok_bind, e1]
      rfl
    obtain ⟨ρ1, G1, e4, l1, k1⟩ := hc ((ρ.set 1 (some (.pv (.int k)))).set 2 (some (.box G.length))) _ G.length (by simpa using hl) (by rw [List.getElem?_set_self (by simp; omega)]) dc
    have keep : ∀ i, i ∉ free → i ≠ 1 → i ≠ 2 → ρ1[i]? = ρ[i]? := fun i h1 h2 h3 => by rw [k1 i h1, List.getElem?_set_ne (fun z => h3 z.symm), List.getElem?_set_ne (fun z => h2 z.symm)]
    have e5 : sSeq (sSet 2 (cOwn dice (cCons (cVar 0) (cCons (cVar 1) cNil)))) (sSeq inner sSkip) (ρ.set 1 (some (.pv (.int k)))) G = .next ρ1 G1 := by
      rw [seq_next e3, seq_next e4]; rfl
    obtain ⟨ρ', G', e6, l2, k2⟩ := cells_go hd hc f0 is c (k + 1) ρ1 G1 (by omega) l1 h3 (by rw [keep 0 f0 (by decide) (by decide)]; exact h0)
    refine ⟨ρ', G', ?_, l2, fun i h1 h2 h3 => by rw [k2 i h1 h2 h3, keep i h1 h2 h3]⟩
    unfold forLoop intsUp
    simp only [guardOk, if_true, bindTgt, e5]
    exact e6
theorem cell_once {run : List Val → Store → Res Val} {cost n : Nat} (h : Fine run cost) (hc : cost < 2 ^ 60) : Cell 2 n (sAsk 2 run) [] := fun ρ G d hl hs dc => by
  obtain ⟨G', m', _, _, e⟩ := ask_ok h hs dc (by omega)
  exact ⟨ρ, G', e, hl, fun _ _ => rfl⟩
theorem cell_turns {run : List Val → Store → Res Val} {cost n : Nat} {k : Int} (h : Fine run cost) (k0 : 0 ≤ k) (k1 : k < 1000) (hc : cost * 1000 < 2 ^ 60) : Cell 2 n (sFor (iCall rangeItems (cCons (cK (.int k)) cNil)) (.one 3) (sSeq (sAsk 2 run) sSkip)) [3] := fun ρ G d hl hs dc => by
  have ri : rangeItems [.int k] = some (intsUp 0 k.toNat) := by
    have b : bound62 k = true := by
      unfold bound62
      have e2 : (2 : Int) ^ 62 = 4611686018427387904 := by decide
      exact decide_eq_true (by omega)
    show (if bound62 k then some (intsUp 0 k.toNat) else none) = _
    rw [b]; rfl
  have lk : cost * (intsUp 0 k.toNat).length ≤ cost * 1000 := Nat.mul_le_mul_left _ (by rw [intsUp_len]; omega)
  obtain ⟨ρ', G', m', _, _, e, l, kp⟩ := asks_ok h (s := 2) (t := 3) (by decide) (intsUp 0 k.toNat) (intsUp 0 k.toNat) 0 ρ G hs dc (by omega)
  refine ⟨ρ', G', ?_, by rw [l, hl], fun i hi => kp i (fun z => hi (by simp [z]))⟩
  have e1 : iCall rangeItems (cCons (cK (.int k)) cNil) ρ G = .ok ⟨intsUp 0 k.toNat, none⟩ G := by
    show (match rangeItems [.int k] with
      | some xs => Res.ok (Items.mk xs none) G
      | none => .stuck) = _
    rw [ri]
  unfold sFor
  rw [e1]
  exact e
/-- the cells of a script -/
def iCells (n : Int) : FI := iCall rangeItems (cCons (cCall Ev.pyMax (cCons (cK (.int 1)) (cCons (cCall Ev.pyMin (cCons (cK (.int n)) (cCons (cCall Ev.pyLen (cCons (cVar 0) cNil)) cNil))) cNil))) cNil)
theorem iCells_ok {n : Int} (h0 : 0 ≤ n) (h1 : n < 900) {ns : List Int} {ρ : Fr} {G : Store} (h : ρ[0]? = some (some (.pv (.scr (ns.map .int))))) : ∃ c : Nat, c < 901 ∧ iCells n ρ G = .ok ⟨intsUp 0 c, none⟩ G := by
  have v0 : cVar 0 ρ G = .ok (.pv (.scr (ns.map .int))) G := by unfold cVar; rw [h]
  have a1 : cCall Ev.pyLen (cCons (cVar 0) cNil) ρ G = .ok (.pv (.int ns.length)) G := by
    unfold cCall cCons
    rw [v0]
    show ofO (Ev.pyLen [.scr (ns.map .int)]) G = _
    rw [len_scr]
    simp [ofO]
  obtain ⟨mn, hmn⟩ : ∃ x : Int, x = if (ns.length : Int) < n then (ns.length : Int) else n := ⟨_, rfl⟩
  have a2 : cCall Ev.pyMin (cCons (cK (.int n)) (cCons (cCall Ev.pyLen (cCons (cVar 0) cNil)) cNil)) ρ G = .ok (.pv (.int mn)) G := by
    generalize hx : cCall Ev.pyLen (cCons (cVar 0) cNil) = x at a1
    unfold cCall cCons
    rw [show cK (.int n) ρ G = .ok (.pv (.int n)) G from rfl, Res.ok_bind, a1]
    rw [hmn]; rfl
  obtain ⟨mx, hmx⟩ : ∃ x : Int, x = if mn > 1 then mn else 1 := ⟨_, rfl⟩
  have a3 : cCall Ev.pyMax (cCons (cK (.int 1)) (cCons (cCall Ev.pyMin (cCons (cK (.int n)) (cCons (cCall Ev.pyLen (cCons (cVar 0) cNil)) cNil))) cNil)) ρ G = .ok (.pv (.int mx)) G := by
    generalize hx : cCall Ev.pyMin (cCons (cK (.int n)) (cCons (cCall Ev.pyLen (cCons (cVar 0) cNil)) cNil)) = x at a2
    unfold cCall cCons
    rw [show cK (.int 1) ρ G = .ok (.pv (.int 1)) G from rfl, Res.ok_bind, a2]
    rw [hmx]; rfl
  have b0 : 0 ≤ mx ∧ mx < 901 := by
    rw [hmx, hmn]
    constructor <;> split <;> split <;> omega
  refine ⟨mx.toNat, by omega, ?_⟩
  have ri : rangeItems [.int mx] = some (intsUp 0 mx.toNat) := by
    have b : bound62 mx = true := by
      unfold bound62
      have e2 : (2 : Int) ^ 62 = 4611686018427387904 := by decide
      exact decide_eq_true (by omega)
    show (if bound62 mx then some (intsUp 0 mx.toNat) else none) = _
    rw [b]; rfl
  unfold iCells
  generalize hx : cCall Ev.pyMax (cCons (cK (.int 1)) (cCons (cCall Ev.pyMin (cCons (cK (.int n)) (cCons (cCall Ev.pyLen (cCons (cVar 0) cNil)) cNil))) cNil)) = x at a3
  unfold iCall cCons
  rw [a3]
  show (match rangeItems [.int mx] with
    | some xs => Res.ok (Items.mk xs none) G
    | none => .stuck) = _
  rw [ri]
/-- the law -/
theorem law_ok {N : List Str} {dice : List Val → Store → Res Val} {inner tail : FS} {free : List Nat} {n : Int} {bs : List Nat} {w : QS} {ns : List Int} (hd : ∀ (k : Nat) (G : Store), k < 1000 → ∃ a b : Int, dice [.pv (.scr (ns.map .int)), .pv (.int k)] G = .ok (.box G.length) (G ++ [.lst [.int a, .int b, .int 0]]) ∧ Dice (G ++ [.lst [.int a, .int b, .int 0]]) G.length 0)
    (h0 : 0 ≤ n) (h1 : n < 900) (hc : Cell 2 N.length inner free) (f0 : 0 ∉ free) (h3 : 3 ≤ N.length) (hb : ∀ i ∈ bs, i ∉ free ∧ 3 ≤ i) (ht : AgS bs tail w) (hw : w (List.replicate N.length none) = .ret (.bl true)) :
    ∃ G, fnSem false N (sSeq (sFor (iCells n) (.one 1) (sSeq (sSet 2 (cOwn dice (cCons (cVar 0) (cCons (cVar 1) cNil)))) (sSeq inner sSkip))) tail) [.pv (.scr (ns.map .int))] [] = .ok (.pv (.bl true)) G := by
  have st : startF N [.pv (.scr (ns.map .int))] = some (.pv (.scr (ns.map .int))) :: List.replicate (N.length - 1) none := rfl
  obtain ⟨c, c1, e1⟩ := iCells_ok (ns := ns) h0 h1 (ρ := some (.pv (.scr (ns.map .int))) :: List.replicate (N.length - 1) none) (G := []) rfl
  obtain ⟨ρ', G', e2, l2, k2⟩ := cells_go hd hc f0 (intsUp 0 c) c 0 (some (.pv (.scr (ns.map .int))) :: List.replicate (N.length - 1) none) [] (by omega) (by simp; omega) h3 rfl
  have e3 : sFor (iCells n) (.one 1) (sSeq (sSet 2 (cOwn dice (cCons (cVar 0) (cCons (cVar 1) cNil)))) (sSeq inner sSkip)) (some (.pv (.scr (ns.map .int))) :: List.replicate (N.length - 1) none) [] = .next ρ' G' := by
    unfold sFor
    rw [e1]
    exact e2
  have none_ : ∀ i ∈ bs, ρ'[i]? = some none ∨ ρ'[i]? = none := fun i hi => by
    obtain ⟨q1, q2⟩ := hb i hi
    rw [k2 i q1 (by omega) (by omega)]
    cases i with
    | zero => omega
    | succ i =>
      rw [List.getElem?_cons_succ]
      by_cases hi' : i < N.length - 1
      · exact .inl (by simp [List.getElem?_replicate, hi'])
      · exact .inr (by simp [List.getElem?_replicate, hi'])
  have nb : ∀ i j, i ∈ bs → ρ'[i]? ≠ some (some (.box j)) := fun i j hi e => by rcases none_ i hi with q | q <;> rw [q] at e <;> cases e
  have r : RelF bs G'.length G' ρ' (List.replicate N.length none) := ⟨by simp [l2], Nat.le_refl _, fun i p e => (by
    have := List.eq_of_mem_replicate (List.mem_of_getElem? e)
    cases this), fun i i' j hi _ e _ => absurd e (nb i j hi), fun i j hi e => absurd e (nb i j hi)⟩
  have h := ht G'.length G' ρ' _ r
  rw [hw] at h
  obtain ⟨v, G2, e4, d4, _, _⟩ := h
  have hv : v = .pv (.bl true) := by
    cases v with
    | pv p => cases d4; rfl
    | box j =>
      unfold deref at d4
      dsimp only at d4
      split at d4 <;> cases d4
  refine ⟨G2.take 0, ?_⟩
  unfold fnSem
  rw [st, seq_next e3, e4, hv]
  rfl
end Ev

end
section
set_option maxRecDepth 100000
set_option maxHeartbeats 0
namespace K24
open PySem PySem.Spec PyProof.Rows L2 Ev
def top (i : Nat) : Stmt := PySem.Challenge.pw_rulefaces_k24_sets_seen_by_lots.main.body.getD i (.Pass ⟨0, 0, 0, 0⟩)
def free : List Str := ["range", "len", "all", "zip", "isinstance", "str", "tuple", "sorted", "any", "list", "max", "int", "abs", "set", "repr", "min"]
def c_WORDS : PV := .tup [.str "given", .str "if", .str "never", .str "or", .str "unless"]
def c_LETTERS : PV := .str "abcdefghijklmnopqrstuvwxyz"
def c_MAX_NAME : PV := .int 8
def c_MAX_SUBSETS : PV := .int 7
def c_MAX_NAMES : PV := .int 7
def consts : List (Str × PV) := [("WORDS", c_WORDS), ("LETTERS", c_LETTERS), ("MAX_NAME", c_MAX_NAME), ("MAX_SUBSETS", c_MAX_SUBSETS), ("MAX_NAMES", c_MAX_NAMES)]
def b_is_ascending : FS := (sSeq (sRet (cCall pyAll (cCons (cFrz (cLc (iVals zipItems (cCons (cVar 0) (cCons (cSl (cVar 0) (oAt (cK (.int 1))) oNo) cNil))) [1, 2] (.tup [1, 2]) cYes (cBin (bl pyLtB) (cVar 1) (cVar 2)))) cNil))) sSkip)
def N_is_ascending : List Str := ["items", "one", "other"]
def r_is_ascending : List Val → Store → Res Val := fnSem false N_is_ascending b_is_ascending
def Γ_is_ascending : Ev.Ctx := { N := N_is_ascending, sc := defScope (top 8), k := 0, free := free, fns := [], consts := consts, boxed := [], keep := false, cel := fun _ => true }
theorem e_is_ascending : (evr 40).Ss Γ_is_ascending (defBody (top 8)) = b_is_ascending := by kernel_rfl
theorem s_is_ascending : FnScope N_is_ascending ["items"] (defScope (top 8)) := ⟨rfl, rfl, rfl, by decide +kernel, rfl, by decide +kernel, by decide +kernel⟩
def b_is_name : FS := (sSeq (sIf (cOrT (cNotT (cTru (cCall pyIsi (cCons (cVar 0) (cCons (cK (.ty "str")) cNil))))) (cOrT (cNotT (cChain pyLeB pyLeB (cK (.int 1)) (cCall pyLen (cCons (cVar 0) cNil)) (cK c_MAX_NAME))) (cCmp pyIn2 (cVar 0) (cK c_WORDS)))) (sSeq (sRet (cK (.bl false))) sSkip) sSkip) (sSeq (sRet (cCall pyAll (cCons (cFrz (cLc (iSeq (cVar 0)) [1] (.one 1) cYes (cBin (bl pyIn2) (cVar 1) (cK c_LETTERS)))) cNil))) sSkip))
def N_is_name : List Str := ["value", "letter"]
def r_is_name : List Val → Store → Res Val := fnSem false N_is_name b_is_name
def Γ_is_name : Ev.Ctx := { N := N_is_name, sc := defScope (top 9), k := 0, free := free, fns := [], consts := consts, boxed := [], keep := false, cel := fun _ => true }
theorem e_is_name : (evr 40).Ss Γ_is_name (defBody (top 9)) = b_is_name := by kernel_rfl
theorem s_is_name : FnScope N_is_name ["value"] (defScope (top 9)) := ⟨rfl, rfl, rfl, by decide +kernel, rfl, by decide +kernel, by decide +kernel⟩
def b_is_set : FS := (sSeq (sRet (cAndV (cCall pyIsi (cCons (cVar 0) (cCons (cK (.ty "tuple")) cNil))) (cAndV (cCall pyAll (cCons (cFrz (cLc (iSeq (cVar 0)) [1] (.one 1) cYes (cOwn r_is_name (cCons (cVar 1) cNil)))) cNil)) (cOwn r_is_ascending (cCons (cVar 0) cNil))))) sSkip)
def N_is_set : List Str := ["value", "name"]
def r_is_set : List Val → Store → Res Val := fnSem false N_is_set b_is_set
def Γ_is_set : Ev.Ctx := { N := N_is_set, sc := defScope (top 10), k := 1, free := free, fns := [("is_ascending", 1, r_is_ascending), ("is_name", 1, r_is_name)], consts := consts, boxed := [], keep := false, cel := fun _ => true }
theorem e_is_set : (evr 40).Ss Γ_is_set (defBody (top 10)) = b_is_set := by kernel_rfl
theorem s_is_set : FnScope N_is_set ["value"] (defScope (top 10)) := ⟨rfl, rfl, rfl, by decide +kernel, rfl, by decide +kernel, by decide +kernel⟩
def b_require_set : FS := (sSeq (sIf (cNotT (cTru (cOwn r_is_set (cCons (cVar 0) cNil)))) (sSeq sStuck sSkip) sSkip) sSkip)
def N_require_set : List Str := ["value"]
def r_require_set : List Val → Store → Res Val := fnSem false N_require_set b_require_set
def Γ_require_set : Ev.Ctx := { N := N_require_set, sc := defScope (top 11), k := 2, free := free, fns := [("is_set", 1, r_is_set)], consts := consts, boxed := [], keep := false, cel := fun _ => true }
theorem e_require_set : (evr 40).Ss Γ_require_set (defBody (top 11)) = b_require_set := by kernel_rfl
theorem s_require_set : FnScope N_require_set ["value"] (defScope (top 11)) := ⟨rfl, rfl, rfl, by decide +kernel, rfl, by decide +kernel, by decide +kernel⟩
def b_is_within : FS := (sSeq (sRet (cCall pyAll (cCons (cFrz (cLc (iSeq (cVar 0)) [2] (.one 2) cYes (cBin (bl pyIn2) (cVar 2) (cVar 1)))) cNil))) sSkip)
def N_is_within : List Str := ["one", "other", "name"]
def r_is_within : List Val → Store → Res Val := fnSem false N_is_within b_is_within
def Γ_is_within : Ev.Ctx := { N := N_is_within, sc := defScope (top 12), k := 0, free := free, fns := [], consts := consts, boxed := [], keep := false, cel := fun _ => true }
theorem e_is_within : (evr 40).Ss Γ_is_within (defBody (top 12)) = b_is_within := by kernel_rfl
theorem s_is_within : FnScope N_is_within ["one", "other"] (defScope (top 12)) := ⟨rfl, rfl, rfl, by decide +kernel, rfl, by decide +kernel, by decide +kernel⟩
def b_subsets : FS := (sSeq (sIf (cOrT (cNotT (cTru (cOwn r_is_set (cCons (cVar 0) cNil)))) (cCmp pyGtB (cCall pyLen (cCons (cVar 0) cNil)) (cK c_MAX_SUBSETS))) (sSeq sStuck sSkip) sSkip) (sSeq (sSetBox 1 (cLst (cCons (cTup cNil) cNil))) (sSeq (sFor (iSeq (cVar 0)) (.one 2) (sSeq (sExpr (cMeth false mExt (cVar 1) (cCons (cFrz (cLc (iSeq (cVar 1)) [3] (.one 3) cYes (cTup (few (cSplice (cVar 3) (cCons (cVar 2) cNil)))))) cNil))) sSkip)) (sSeq (sRet (cCall pyTuple (cCons (cFrz (cCallF pySorted (cCons (cVar 1) cNil))) cNil))) sSkip))))
def N_subsets : List Str := ["names", "found", "name", "one"]
def r_subsets : List Val → Store → Res Val := fnSem false N_subsets b_subsets
def Γ_subsets : Ev.Ctx := { N := N_subsets, sc := defScope (top 13), k := 2, free := free, fns := [("is_set", 1, r_is_set)], consts := consts, boxed := ["found"], keep := false, cel := fun _ => true }
theorem e_subsets : (evr 40).Ss Γ_subsets (defBody (top 13)) = b_subsets := by kernel_rfl
theorem s_subsets : FnScope N_subsets ["names"] (defScope (top 13)) := ⟨rfl, rfl, rfl, by decide +kernel, rfl, by decide +kernel, by decide +kernel⟩
def b_lies_in : FS := (sSeq (sSet 2 (cFrzN (cDc (iSeq (cVar 1)) [3] (.one 3) cYes (cVar 3) (cK (.bl true))))) (sSeq (sRet (cCall pyAll (cCons (cFrz (cLc (iSeq (cVar 0)) [3] (.one 3) cYes (cBin (bl pyIn2) (cVar 3) (cVar 2)))) cNil))) sSkip))
def N_lies_in : List Str := ["one", "other", "known", "member"]
def r_lies_in : List Val → Store → Res Val := fnSem false N_lies_in b_lies_in
def Γ_lies_in : Ev.Ctx := { N := N_lies_in, sc := defScope (top 16), k := 0, free := free, fns := [], consts := consts, boxed := [], keep := false, cel := fun _ => true }
theorem e_lies_in : (evr 40).Ss Γ_lies_in (defBody (top 16)) = b_lies_in := by kernel_rfl
theorem s_lies_in : FnScope N_lies_in ["one", "other"] (defScope (top 16)) := ⟨rfl, rfl, rfl, by decide +kernel, rfl, by decide +kernel, by decide +kernel⟩
def b_smallest_in : FS := (sSeq (sSet 1 (cFrz (cCallF pySortedK (cCons (cFrz (cCallF pyList2 (cCons (cFrzN (cDc (iSeq (cVar 0)) [4] (.one 4) cYes (cVar 4) (cK (.bl true)))) cNil))) cNil)))) (sSeq (sSetBox 2 (cLst cNil)) (sSeq (sFor (iSeq (cVar 1)) (.one 3) (sSeq (sIf (cNotT (cTru (cCall pyAny (cCons (cFrz (cLc (iSeq (cVar 2)) [4] (.one 4) cYes (cOwn r_lies_in (cCons (cVar 4) (cCons (cVar 3) cNil))))) cNil)))) (sSeq (sExpr (cMeth true mApp (cVar 2) (cCons (cVar 3) cNil))) sSkip) sSkip) sSkip)) (sSeq (sRet (cCall pyTuple (cCons (cFrz (cCallF pySorted (cCons (cVar 2) cNil))) cNil))) sSkip))))
def N_smallest_in : List Str := ["tuples", "rest", "found", "each", "one"]
def r_smallest_in : List Val → Store → Res Val := fnSem false N_smallest_in b_smallest_in
def Γ_smallest_in : Ev.Ctx := { N := N_smallest_in, sc := defScope (top 17), k := 1, free := free, fns := [("lies_in", 2, r_lies_in)], consts := consts, boxed := ["found"], keep := false, cel := fun _ => true, lam := true }
theorem e_smallest_in : (evr 40).Ss Γ_smallest_in (defBody (top 17)) = b_smallest_in := by kernel_rfl
theorem s_smallest_in : FnScope N_smallest_in ["tuples"] (defScope (top 17)) := ⟨rfl, rfl, rfl, by decide +kernel, rfl, by decide +kernel, by decide +kernel⟩
def b_is_lots_value : FS := (sSeq (sRet (cAndV (cCall pyIsi (cCons (cVar 0) (cCons (cK (.ty "tuple")) cNil))) (cCall pyAll (cCons (cFrz (cLc (iSeq (cVar 0)) [1] (.one 1) cYes (cOwn r_is_set (cCons (cVar 1) cNil)))) cNil)))) sSkip)
def N_is_lots_value : List Str := ["value", "one"]
def r_is_lots_value : List Val → Store → Res Val := fnSem false N_is_lots_value b_is_lots_value
def Γ_is_lots_value : Ev.Ctx := { N := N_is_lots_value, sc := defScope (top 18), k := 2, free := free, fns := [("is_set", 1, r_is_set)], consts := consts, boxed := [], keep := false, cel := fun _ => true }
theorem e_is_lots_value : (evr 40).Ss Γ_is_lots_value (defBody (top 18)) = b_is_lots_value := by kernel_rfl
theorem s_is_lots_value : FnScope N_is_lots_value ["value"] (defScope (top 18)) := ⟨rfl, rfl, rfl, by decide +kernel, rfl, by decide +kernel, by decide +kernel⟩
def b_smallest : FS := (sSeq (sIf (cOrT (cNotT (cTru (cCall pyIsi (cCons (cVar 0) (cCons (cK (.ty "tuple")) cNil))))) (cNotT (cTru (cCall pyAll (cCons (cFrz (cLc (iSeq (cVar 0)) [1] (.one 1) cYes (cAndV (cOwn r_is_lots_value (cCons (cVar 1) cNil)) (cOwn r_is_ascending (cCons (cVar 1) cNil))))) cNil))))) (sSeq sStuck sSkip) sSkip) (sSeq (sRet (cOwn r_smallest_in (cCons (cVar 0) cNil))) sSkip))
def N_smallest : List Str := ["lots", "one"]
def r_smallest : List Val → Store → Res Val := fnSem false N_smallest b_smallest
def Γ_smallest : Ev.Ctx := { N := N_smallest, sc := defScope (top 19), k := 3, free := free, fns := [("smallest_in", 1, r_smallest_in), ("is_ascending", 1, r_is_ascending), ("is_lots_value", 1, r_is_lots_value)], consts := consts, boxed := [], keep := false, cel := fun _ => true }
theorem e_smallest : (evr 40).Ss Γ_smallest (defBody (top 19)) = b_smallest := by kernel_rfl
theorem s_smallest : FnScope N_smallest ["lots"] (defScope (top 19)) := ⟨rfl, rfl, rfl, by decide +kernel, rfl, by decide +kernel, by decide +kernel⟩
def b_is_lot_at : FS := (sSeq (sIf (cOrT (cNotT (cTru (cOwn r_is_lots_value (cCons (cVar 0) cNil)))) (cNotT (cTru (cOwn r_is_ascending (cCons (cVar 0) cNil))))) (sSeq (sRet (cK (.bl false))) sSkip) sSkip) (sSeq (sRet (cAndV (cBin (bl pyIn2) (cVar 1) (cVar 0)) (cCall pyAll (cCons (cFrz (cLc (iSeq (cVar 0)) [2] (.one 2) cYes (cOwn r_is_within (cCons (cVar 2) (cCons (cVar 1) cNil))))) cNil)))) sSkip))
def N_is_lot_at : List Str := ["value", "names", "one"]
def r_is_lot_at : List Val → Store → Res Val := fnSem false N_is_lot_at b_is_lot_at
def Γ_is_lot_at : Ev.Ctx := { N := N_is_lot_at, sc := defScope (top 20), k := 3, free := free, fns := [("is_within", 2, r_is_within), ("is_ascending", 1, r_is_ascending), ("is_lots_value", 1, r_is_lots_value)], consts := consts, boxed := [], keep := false, cel := fun _ => true }
theorem e_is_lot_at : (evr 40).Ss Γ_is_lot_at (defBody (top 20)) = b_is_lot_at := by kernel_rfl
theorem s_is_lot_at : FnScope N_is_lot_at ["value", "names"] (defScope (top 20)) := ⟨rfl, rfl, rfl, by decide +kernel, rfl, by decide +kernel, by decide +kernel⟩
def b_shows : FS := (sSeq (sSet 3 (cFrzN (cDc (iSeq (cVar 2)) [4] (.one 4) (cCmp pyNe (cVar 4) (cVar 1)) (cVar 4) (cK (.bl true))))) (sSeq (sRet (cCall pyAny (cCons (cFrz (cLc (iSeq (cVar 0)) [4] (.one 4) cYes (cNotV (cCall pyAny (cCons (cFrz (cLc (iSeq (cVar 4)) [5] (.one 5) cYes (cBin (bl pyIn2) (cVar 5) (cVar 3)))) cNil))))) cNil))) sSkip))
def N_shows : List Str := ["lots", "names", "sets", "known", "one", "member"]
def r_shows : List Val → Store → Res Val := fnSem false N_shows b_shows
def Γ_shows : Ev.Ctx := { N := N_shows, sc := defScope (top 21), k := 0, free := free, fns := [], consts := consts, boxed := [], keep := false, cel := fun _ => true }
theorem e_shows : (evr 40).Ss Γ_shows (defBody (top 21)) = b_shows := by kernel_rfl
theorem s_shows : FnScope N_shows ["lots", "names", "sets"] (defScope (top 21)) := ⟨rfl, rfl, rfl, by decide +kernel, rfl, by decide +kernel, by decide +kernel⟩
def b_is_seen_in : FS := (sSeq (sExpr (cOwn r_require_set (cCons (cVar 0) cNil))) (sSeq (sIf (cCmp pyGtB (cCall pyLen (cCons (cVar 0) cNil)) (cK c_MAX_NAMES)) (sSeq sStuck sSkip) sSkip) (sSeq (sIf (cOrT (cNotT (cTru (cCall pyIsi (cCons (cVar 1) (cCons (cK (.ty "tuple")) cNil))))) (cNotT (cTru (cCall pyAll (cCons (cFrz (cLc (iSeq (cVar 1)) [3] (.one 3) cYes (cOwn r_is_lot_at (cCons (cVar 3) (cCons (cVar 0) cNil))))) cNil))))) (sSeq sStuck sSkip) sSkip) (sSeq (sIf (cNotT (cTru (cOwn r_is_lot_at (cCons (cVar 2) (cCons (cVar 0) cNil))))) (sSeq sStuck sSkip) sSkip) (sSeq (sRet (cOwn r_shows (cCons (cVar 1) (cCons (cVar 0) (cCons (cVar 2) cNil))))) sSkip)))))
def N_is_seen_in : List Str := ["names", "lots", "sets", "one"]
def r_is_seen_in : List Val → Store → Res Val := fnSem false N_is_seen_in b_is_seen_in
def Γ_is_seen_in : Ev.Ctx := { N := N_is_seen_in, sc := defScope (top 22), k := 4, free := free, fns := [("shows", 3, r_shows), ("is_lot_at", 2, r_is_lot_at), ("require_set", 1, r_require_set)], consts := consts, boxed := [], keep := false, cel := fun _ => true }
theorem e_is_seen_in : (evr 40).Ss Γ_is_seen_in (defBody (top 22)) = b_is_seen_in := by kernel_rfl
theorem s_is_seen_in : FnScope N_is_seen_in ["names", "lots", "sets"] (defScope (top 22)) := ⟨rfl, rfl, rfl, by decide +kernel, rfl, by decide +kernel, by decide +kernel⟩
def b__law_dice : FS := (sSeq (sSet 2 (cBin pyAdd (cBin pyMul (cK (.int 43)) (cVar 1)) (cK (.int 11)))) (sSeq (sIf (cCmp pyLtB (cVar 1) (cCall pyLen (cCons (cVar 0) cNil))) (sSeq (sSet 2 (cBin pyItem (cVar 0) (cVar 1))) sSkip) sSkip) (sSeq (sSet 3 (cBin pyMod (cCall pyInt (cCons (cCall pyAbs (cCons (cVar 2) cNil)) cNil)) (cBin pyPow (cBin pyPow (cK (.int 10)) (cK (.int 60))) (cK (.int 10))))) (sSeq (sSet 4 (cBin pyAdd (cBin pyAdd (cBin pyAdd (cBin pyMul (cBin pyMod (cCall pyInt (cCons (cVar 3) cNil)) (cK (.int 2147483489))) (cK (.int 60029))) (cBin pyMul (cK (.int 4003)) (cVar 1))) (cBin pyMul (cK (.int 31)) (cCall pyInt (cCons (cBin (bl pyLtB) (cVar 2) (cK (.int 0))) cNil)))) (cK (.int 67)))) (sSeq (sRetBox (cLst (cCons (cCall pyMax (cCons (cK (.int 0)) (cCons (cBin pySub (cVar 3) (cBin pyPow (cK (.int 10)) (cK (.int 18)))) cNil))) (cCons (cBin pyMod (cCall pyInt (cCons (cVar 4) cNil)) (cK (.int 2147483423))) (cCons (cK (.int 0)) cNil))))) sSkip)))))
def N__law_dice : List Str := ["_law_script", "_law_at", "_law_cell", "_law_great", "_law_mixed_here"]
def r__law_dice : List Val → Store → Res Val := fnSem true N__law_dice b__law_dice
def Γ__law_dice : Ev.Ctx := { N := N__law_dice, sc := defScope (top 24), k := 0, free := free, fns := [], consts := consts, boxed := [], keep := true, cel := fun _ => true }
theorem e__law_dice : (evr 40).Ss Γ__law_dice (defBody (top 24)) = b__law_dice := by kernel_rfl
theorem s__law_dice : FnScope N__law_dice ["_law_script", "_law_at"] (defScope (top 24)) := ⟨rfl, rfl, rfl, by decide +kernel, rfl, by decide +kernel, by decide +kernel⟩
def b__law_roll : FS := (sSeq (sIf (cCmp pyGtB (cBin pyItem (cVar 0) (cK (.int 0))) (cK (.int 0))) (sSeq (sSet 2 (cBin pyMod (cCall pyInt (cCons (cBin pyItem (cVar 0) (cK (.int 0))) cNil)) (cVar 1))) (sSeq (sPut (cVar 0) (cK (.int 0)) (cBin pyFDiv (cBin pyItem (cVar 0) (cK (.int 0))) (cVar 1))) (sSeq (sRet (cVar 2)) sSkip))) sSkip) (sSeq (sPut (cVar 0) (cK (.int 2)) (cBin pyAdd (cBin pyItem (cVar 0) (cK (.int 2))) (cK (.int 1)))) (sSeq (sSet 3 (cBin pyMod (cCall pyInt (cCons (cBin pyAdd (cBin pyItem (cVar 0) (cK (.int 1))) (cBin pyMul (cK (.int 1000303)) (cBin pyItem (cVar 0) (cK (.int 2))))) cNil)) (cK (.int 2305843009213693951)))) (sSeq (sSet 4 (cBin pyAdd (cBin pyMul (cBin pyMod (cCall pyInt (cCons (cBin pyMul (cVar 3) (cVar 3)) cNil)) (cK (.int 2305843009213693921))) (cVar 3)) (cBin pyMul (cK (.int 9323)) (cBin pyItem (cVar 0) (cK (.int 2)))))) (sSeq (sSet 4 (cBin pyMod (cCall pyInt (cCons (cVar 4) cNil)) (cK (.int 2305843009213693907)))) (sSeq (sRet (cBin pyMod (cCall pyInt (cCons (cBin pyFDiv (cVar 4) (cK (.int 4096))) cNil)) (cVar 1))) sSkip))))))
def N__law_roll : List Str := ["_law_dice_here", "_law_total", "_law_found", "_law_one", "_law_two"]
def r__law_roll : List Val → Store → Res Val := fnSem false N__law_roll b__law_roll
def Γ__law_roll : Ev.Ctx := { N := N__law_roll, sc := defScope (top 25), k := 0, free := free, fns := [], consts := consts, boxed := ["_law_dice_here"], keep := false, cel := fun _ => true }
theorem e__law_roll : (evr 40).Ss Γ__law_roll (defBody (top 25)) = b__law_roll := by kernel_rfl
theorem s__law_roll : FnScope N__law_roll ["_law_dice_here", "_law_total"] (defScope (top 25)) := ⟨rfl, rfl, rfl, by decide +kernel, rfl, by decide +kernel, by decide +kernel⟩
def b__law_mixed : FS := (sSeq (sSetBox 2 (cCallF pyList2 (cCons (cVar 1) cNil))) (sSeq (sRet (cFrz (cLc (iCall rangeItems (cCons (cCall pyLen (cCons (cVar 1) cNil)) cNil)) [3] (.one 3) cYes (cMeth false mPop (cVar 2) (cCons (cOwn r__law_roll (cCons (cVar 0) (cCons (cCall pyLen (cCons (cVar 2) cNil)) cNil))) cNil))))) sSkip))
def N__law_mixed : List Str := ["_law_dice_here", "_law_items", "_law_left", "_law_turn"]
def r__law_mixed : List Val → Store → Res Val := fnSem false N__law_mixed b__law_mixed
def Γ__law_mixed : Ev.Ctx := { N := N__law_mixed, sc := defScope (top 26), k := 1, free := free, fns := [("_law_roll", 2, r__law_roll)], consts := consts, boxed := ["_law_left"], keep := false, cel := fun _ => true }
theorem e__law_mixed : (evr 40).Ss Γ__law_mixed (defBody (top 26)) = b__law_mixed := by kernel_rfl
theorem s__law_mixed : FnScope N__law_mixed ["_law_dice_here", "_law_items"] (defScope (top 26)) := ⟨rfl, rfl, rfl, by decide +kernel, rfl, by decide +kernel, by decide +kernel⟩
def b__law_lies : FS := (sSeq (sRet (cBin (bl pyEq) (cFrz (cLc (iSeq (cVar 0)) [2] (.one 2) (cCmp pyNotIn2 (cVar 2) (cVar 1)) (cVar 2))) (cFrz (cLst cNil)))) sSkip)
def N__law_lies : List Str := ["_law_one", "_law_other", "_law_member"]
def r__law_lies : List Val → Store → Res Val := fnSem false N__law_lies b__law_lies
def Γ__law_lies : Ev.Ctx := { N := N__law_lies, sc := defScope (top 27), k := 0, free := free, fns := [], consts := consts, boxed := [], keep := false, cel := fun _ => true }
theorem e__law_lies : (evr 40).Ss Γ__law_lies (defBody (top 27)) = b__law_lies := by kernel_rfl
theorem s__law_lies : FnScope N__law_lies ["_law_one", "_law_other"] (defScope (top 27)) := ⟨rfl, rfl, rfl, by decide +kernel, rfl, by decide +kernel, by decide +kernel⟩
def b__law_smallest : FS := (sSeq (sSet 1 (cFrz (cCallF pySortSet (cCons (cVar 0) cNil)))) (sSeq (sRet (cFrz (cLc (iSeq (cVar 1)) [2] (.one 2) (cCmp pyEq (cFrz (cLc (iSeq (cVar 1)) [3] (.one 3) (cAndT (cCmp pyNe (cVar 3) (cVar 2)) (cTru (cOwn r__law_lies (cCons (cVar 3) (cCons (cVar 2) cNil))))) (cK (.int 1)))) (cFrz (cLst cNil))) (cVar 2)))) sSkip))
def N__law_smallest : List Str := ["_law_lots", "_law_rest", "_law_one", "_law_other"]
def r__law_smallest : List Val → Store → Res Val := fnSem false N__law_smallest b__law_smallest
def Γ__law_smallest : Ev.Ctx := { N := N__law_smallest, sc := defScope (top 28), k := 1, free := free, fns := [("_law_lies", 2, r__law_lies)], consts := consts, boxed := [], keep := false, cel := fun _ => true }
theorem e__law_smallest : (evr 40).Ss Γ__law_smallest (defBody (top 28)) = b__law_smallest := by kernel_rfl
theorem s__law_smallest : FnScope N__law_smallest ["_law_lots"] (defScope (top 28)) := ⟨rfl, rfl, rfl, by decide +kernel, rfl, by decide +kernel, by decide +kernel⟩
def b__law_lot : FS := (sSeq (sRet (cCall pyTuple (cCons (cFrz (cCallF pySorted (cCons (cFrz (cLc (iSeq (cVar 1)) [3] (.one 3) (cOrT (cCmp pyEq (cVar 3) (cVar 2)) (cCmp pyEq (cOwn r__law_roll (cCons (cVar 0) (cCons (cK (.int 3)) cNil))) (cK (.int 0)))) (cVar 3))) cNil))) cNil))) sSkip)
def N__law_lot : List Str := ["_law_dice_here", "_law_sets", "_law_top", "_law_one"]
def r__law_lot : List Val → Store → Res Val := fnSem false N__law_lot b__law_lot
def Γ__law_lot : Ev.Ctx := { N := N__law_lot, sc := defScope (top 29), k := 1, free := free, fns := [("_law_roll", 2, r__law_roll)], consts := consts, boxed := [], keep := false, cel := fun _ => true }
theorem e__law_lot : (evr 40).Ss Γ__law_lot (defBody (top 29)) = b__law_lot := by kernel_rfl
theorem s__law_lot : FnScope N__law_lot ["_law_dice_here", "_law_sets", "_law_top"] (defScope (top 29)) := ⟨rfl, rfl, rfl, by decide +kernel, rfl, by decide +kernel, by decide +kernel⟩
def b__law_is_seen : FS := (sSeq (sFor (iSeq (cVar 0)) (.one 3) (sSeq (sIf (cCmp pyEq (cFrz (cLc (iSeq (cVar 3)) [4] (.one 4) (cCmp pyIn2 (cVar 4) (cVar 2)) (cVar 4))) (cFrz (cLst (cCons (cVar 1) cNil)))) (sSeq (sRet (cK (.bl true))) sSkip) sSkip) sSkip)) (sSeq (sRet (cK (.bl false))) sSkip))
def N__law_is_seen : List Str := ["_law_lots", "_law_top", "_law_some", "_law_part", "_law_one"]
def r__law_is_seen : List Val → Store → Res Val := fnSem false N__law_is_seen b__law_is_seen
def Γ__law_is_seen : Ev.Ctx := { N := N__law_is_seen, sc := defScope (top 30), k := 0, free := free, fns := [], consts := consts, boxed := [], keep := false, cel := fun _ => true }
theorem e__law_is_seen : (evr 40).Ss Γ__law_is_seen (defBody (top 30)) = b__law_is_seen := by kernel_rfl
theorem s__law_is_seen : FnScope N__law_is_seen ["_law_lots", "_law_top", "_law_some"] (defScope (top 30)) := ⟨rfl, rfl, rfl, by decide +kernel, rfl, by decide +kernel, by decide +kernel⟩
def b__law_right : FS := (sSeq (sSet 1 (cCall pyTuple (cCons (cFrz (cCallF pySorted (cCons (cSl (cOwn r__law_mixed (cCons (cVar 0) (cCons (cFrz (cLst (cCons (cK (.str "a")) (cCons (cK (.str "b")) (cCons (cK (.str "ab")) (cCons (cK (.str "zz")) cNil)))))) cNil))) oNo (oAt (cOwn r__law_roll (cCons (cVar 0) (cCons (cK (.int 4)) cNil))))) cNil))) cNil))) (sSeq (sSet 2 (cOwn r_subsets (cCons (cVar 1) cNil))) (sSeq (sSet 3 (cFrz (cLc (iCall rangeItems (cCons (cOwn r__law_roll (cCons (cVar 0) (cCons (cK (.int 5)) cNil))) cNil)) [5] (.one 5) cYes (cOwn r__law_lot (cCons (cVar 0) (cCons (cVar 2) (cCons (cVar 1) cNil))))))) (sSeq (sSet 3 (cOwn r__law_mixed (cCons (cVar 0) (cCons (cBin pyAdd (cVar 3) (cSl (cVar 3) oNo (oAt (cOwn r__law_roll (cCons (cVar 0) (cCons (cK (.int 2)) cNil)))))) cNil)))) (sSeq (sSet 4 (cOwn r_smallest (cCons (cCall pyTuple (cCons (cVar 3) cNil)) cNil))) (sSeq (sIf (cOrT (cCmp pyNe (cVar 4) (cCall pyTuple (cCons (cOwn r__law_smallest (cCons (cVar 3) cNil)) cNil))) (cCmp pyNe (cFrz (cLc (iSeq (cVar 4)) [8] (.one 8) (cCmp pyNotIn2 (cVar 8) (cVar 3)) (cVar 8))) (cFrz (cLst cNil)))) (sSeq (sRet (cK (.bl false))) sSkip) sSkip) (sSeq (sIf (cCmp pyNe (cFrz (cLc (iSeq (cVar 3)) [8] (.one 8) (cCmp pyEq (cFrz (cLc (iSeq (cVar 4)) [9] (.one 9) (cTru (cOwn r__law_lies (cCons (cVar 9) (cCons (cVar 8) cNil)))) (cVar 9))) (cFrz (cLst cNil))) (cVar 8))) (cFrz (cLst cNil))) (sSeq (sRet (cK (.bl false))) sSkip) sSkip) (sSeq (sFor (iCall rangeItems (cCons (cK (.int 6)) cNil)) (.one 5) (sSeq (sSet 6 (cOwn r__law_lot (cCons (cVar 0) (cCons (cVar 2) (cCons (cVar 1) cNil))))) (sSeq (sSet 7 (cOwn r__law_is_seen (cCons (cVar 3) (cCons (cVar 1) (cCons (cVar 6) cNil))))) (sSeq (sIf (cCmp pyNe (cCall pyShow (cCons (cFrz (cLst (cCons (cOwn r_is_seen_in (cCons (cVar 1) (cCons (cCall pyTuple (cCons (cVar 3) cNil)) (cCons (cVar 6) cNil)))) (cCons (cOwn r_is_seen_in (cCons (cVar 1) (cCons (cVar 4) (cCons (cVar 6) cNil)))) cNil)))) cNil)) (cCall pyShow (cCons (cFrz (cLst (cCons (cVar 7) (cCons (cVar 7) cNil)))) cNil))) (sSeq (sRet (cK (.bl false))) sSkip) sSkip) sSkip)))) (sSeq (sRet (cAndV (cBin (bl pyIs) (cOwn r_is_seen_in (cCons (cVar 1) (cCons (cTup cNil) (cCons (cTup (cCons (cVar 1) cNil)) cNil)))) (cK (.bl false))) (cBin (bl pyIs) (cOwn r_is_seen_in (cCons (cVar 1) (cCons (cTup (cCons (cTup (cCons (cVar 1) cNil)) cNil)) (cCons (cVar 2) cNil)))) (cK (.bl true))))) sSkip)))))))))
def N__law_right : List Str := ["_law_dice_here", "_law_top", "_law_sets", "_law_lots", "_law_least", "_law_turn", "_law_some", "_law_due", "_law_one", "_law_other"]
def r__law_right : List Val → Store → Res Val := fnSem false N__law_right b__law_right
def Γ__law_right : Ev.Ctx := { N := N__law_right, sc := defScope (top 31), k := 5, free := free, fns := [("is_seen_in", 3, r_is_seen_in), ("_law_is_seen", 3, r__law_is_seen), ("_law_lot", 3, r__law_lot), ("_law_lies", 2, r__law_lies), ("_law_smallest", 1, r__law_smallest), ("smallest", 1, r_smallest), ("_law_mixed", 2, r__law_mixed), ("_law_roll", 2, r__law_roll), ("subsets", 1, r_subsets)], consts := consts, boxed := [], keep := false, cel := fun _ => true }
theorem e__law_right : (evr 40).Ss Γ__law_right (defBody (top 31)) = b__law_right := by kernel_rfl
theorem s__law_right : FnScope N__law_right ["_law_dice_here"] (defScope (top 31)) := ⟨rfl, rfl, rfl, by decide +kernel, rfl, by decide +kernel, by decide +kernel⟩
def b_law : FS := (sSeq (sFor (iCall rangeItems (cCons (cCall pyMax (cCons (cK (.int 1)) (cCons (cCall pyMin (cCons (cK (.int 8)) (cCons (cCall pyLen (cCons (cVar 0) cNil)) cNil))) cNil))) cNil)) (.one 1) (sSeq (sSet 2 (cOwn r__law_dice (cCons (cVar 0) (cCons (cVar 1) cNil)))) (sSeq (sFor (iCall rangeItems (cCons (cK (.int 3)) cNil)) (.one 3) (sSeq (sIf (cNotT (cTru (cOwn r__law_right (cCons (cVar 2) cNil)))) (sSeq (sRet (cK (.bl false))) sSkip) sSkip) sSkip)) sSkip))) (sSeq (sSetTup [4, 5, 6] (cTup (cCons (cTup (cCons (cTup (cCons (cK (.str "a")) cNil)) (cCons (cTup (cCons (cK (.str "a")) (cCons (cK (.str "b")) cNil))) cNil))) (cCons (cTup (cCons (cTup (cCons (cK (.str "a")) (cCons (cK (.str "b")) cNil))) (cCons (cTup (cCons (cK (.str "b")) cNil)) cNil))) (cCons (cTup (cCons (cK (.str "a")) (cCons (cK (.str "b")) cNil))) cNil))))) (sSeq (sSetBox 7 (cLst (cCons (cOwn r_is_seen_in (cCons (cVar 6) (cCons (cTup (cCons (cVar 4) (cCons (cVar 5) cNil))) (cCons (cVar 4) cNil)))) (cCons (cOwn r_is_seen_in (cCons (cVar 6) (cCons (cTup (cCons (cVar 5) (cCons (cVar 4) cNil))) (cCons (cOwn r_subsets (cCons (cVar 6) cNil)) cNil)))) cNil)))) (sSeq (sExpr (cMeth true mApp (cVar 7) (cCons (cOwn r_is_seen_in (cCons (cVar 6) (cCons (cTup (cCons (cVar 4) (cCons (cVar 5) cNil))) (cCons (cTup (cCons (cTup cNil) (cCons (cVar 6) cNil))) cNil)))) cNil))) (sSeq (sSet 8 (cTup (cCons (cK (.str "a")) (cCons (cK (.str "b")) (cCons (cK (.str "c")) (cCons (cK (.str "d")) (cCons (cK (.str "e")) (cCons (cK (.str "f")) (cCons (cK (.str "g")) cNil))))))))) (sSeq (sExpr (cMeth true mApp (cVar 7) (cCons (cOwn r_is_seen_in (cCons (cVar 8) (cCons (cTup (cCons (cTup (cCons (cVar 8) cNil)) cNil)) (cCons (cTup (cCons (cVar 8) (cCons (cTup (cCons (cK (.str "g")) cNil)) cNil))) cNil)))) cNil))) (sSeq (sRet (cAndV (cBin (bl pyEq) (cVar 7) (cFrz (cLst (cCons (cK (.bl true)) (cCons (cK (.bl false)) (cCons (cK (.bl true)) (cCons (cK (.bl true)) cNil))))))) (cBin (bl pyIs) (cOwn r_is_seen_in (cCons (cTup cNil) (cCons (cTup (cCons (cTup (cCons (cTup cNil) cNil)) cNil)) (cCons (cTup (cCons (cTup cNil) cNil)) cNil)))) (cK (.bl true))))) sSkip)))))))
def N_law : List Str := ["_law_script", "_law_at", "_law_dice_here", "_law_turn", "_law_first", "_law_second", "_law_top", "_law_told", "_law_seven"]
def r_law : List Val → Store → Res Val := fnSem false N_law b_law
def Γ_law : Ev.Ctx := { N := N_law, sc := defScope (top 32), k := 6, free := free, fns := [("is_seen_in", 3, r_is_seen_in), ("subsets", 1, r_subsets), ("_law_right", 1, r__law_right), ("_law_dice", 2, r__law_dice)], consts := consts, boxed := ["_law_told"], keep := false, cel := fun _ => true }
theorem e_law : (evr 40).Ss Γ_law (defBody (top 32)) = b_law := by kernel_rfl
theorem s_law : FnScope N_law ["_law_script"] (defScope (top 32)) := ⟨rfl, rfl, rfl, by decide +kernel, rfl, by decide +kernel, by decide +kernel⟩
def w_is_ascending : QS := (tSeq (tRet (qCall pyAll (qCons (qFrz (qLc (qIVals zipItems (qCons (qVar 0) (qCons (qSl (qVar 0) (qAt (qK (.int 1))) qNo) qNil))) [1, 2] (.tup [1, 2]) qYes (qBin (bl pyLtB) (qVar 1) (qVar 2)))) qNil))) tSkip)
def p_is_ascending : List PV → PR PV := fnP 1 3 w_is_ascending
theorem a_is_ascending : AgFn r_is_ascending p_is_ascending := ag_fn (bs := []) rfl (by decide) (ags_seq (ags_ret (ag_call (ag_consD (ag_frz (ag_lc (by decide) (ag_ivalsJ (ag_cons (ag_var (by decide)) (ag_cons (ag_sl ag_varD (ag_at ag_k) ag_no) ag_nil))).i ag_yes (ag_bin ag_varD ag_varD))).d ag_nilD)).d) ags_skip)
def w_is_name : QS := (tSeq (tIf (qOrT (qNotT (qTru (qCall pyIsi (qCons (qVar 0) (qCons (qK (.ty "str")) qNil))))) (qOrT (qNotT (qChain pyLeB pyLeB (qK (.int 1)) (qCall pyLen (qCons (qVar 0) qNil)) (qK c_MAX_NAME))) (qCmp pyIn2 (qVar 0) (qK c_WORDS)))) (tSeq (tRet (qK (.bl false))) tSkip) tSkip) (tSeq (tRet (qCall pyAll (qCons (qFrz (qLc (qSeq (qVar 0)) [1] (.one 1) qYes (qBin (bl pyIn2) (qVar 1) (qK c_LETTERS)))) qNil))) tSkip))
def p_is_name : List PV → PR PV := fnP 1 2 w_is_name
theorem a_is_name : AgFn r_is_name p_is_name := ag_fn (bs := []) rfl (by decide) (ags_seq (ags_if (ag_orT (ag_notT (ag_tru (ag_call (ag_consD ag_varD (ag_consD (AgE.d ag_k) ag_nilD))).d)) (ag_orT (ag_notT (ag_chain (AgE.d ag_k) (ag_call (ag_consD ag_varD ag_nilD)).d (AgE.d ag_k))) (ag_cmp ag_varD (AgE.d ag_k)))) (ags_seq (ags_ret (AgE.d ag_k)) ags_skip) ags_skip) (ags_seq (ags_ret (ag_call (ag_consD (ag_frz (ag_lc (by decide) (ag_seq ag_varD) ag_yes (ag_bin ag_varD (AgE.d ag_k)))).d ag_nilD)).d) ags_skip))
def w_is_set : QS := (tSeq (tRet (qAndV (qCall pyIsi (qCons (qVar 0) (qCons (qK (.ty "tuple")) qNil))) (qAndV (qCall pyAll (qCons (qFrz (qLc (qSeq (qVar 0)) [1] (.one 1) qYes (qOwn p_is_name (qCons (qVar 1) qNil)))) qNil)) (qOwn p_is_ascending (qCons (qVar 0) qNil))))) tSkip)
def p_is_set : List PV → PR PV := fnP 1 2 w_is_set
theorem a_is_set : AgFn r_is_set p_is_set := ag_fn (bs := []) rfl (by decide) (ags_seq (ags_ret (ag_andV (ag_call (ag_consD ag_varD (ag_consD (AgE.d ag_k) ag_nilD))) (ag_andV (ag_call (ag_consD (ag_frz (ag_lc (by decide) (ag_seq ag_varD) ag_yes (ag_own a_is_name (ag_cons (ag_var (by decide)) ag_nil)))).d ag_nilD)) (ag_own a_is_ascending (ag_cons (ag_var (by decide)) ag_nil)))).d) ags_skip)
def w_require_set : QS := (tSeq (tIf (qNotT (qTru (qOwn p_is_set (qCons (qVar 0) qNil)))) (tSeq tDead tSkip) tSkip) tSkip)
def p_require_set : List PV → PR PV := fnP 1 1 w_require_set
theorem a_require_set : AgFn r_require_set p_require_set := ag_fn (bs := []) rfl (by decide) (ags_seq (ags_if (ag_notT (ag_tru (ag_own a_is_set (ag_cons (ag_var (by decide)) ag_nil)).d)) (ags_seq ags_dead ags_skip) ags_skip) ags_skip)
def w_is_within : QS := (tSeq (tRet (qCall pyAll (qCons (qFrz (qLc (qSeq (qVar 0)) [2] (.one 2) qYes (qBin (bl pyIn2) (qVar 2) (qVar 1)))) qNil))) tSkip)
def p_is_within : List PV → PR PV := fnP 2 3 w_is_within
theorem a_is_within : AgFn r_is_within p_is_within := ag_fn (bs := []) rfl (by decide) (ags_seq (ags_ret (ag_call (ag_consD (ag_frz (ag_lc (by decide) (ag_seq ag_varD) ag_yes (ag_bin ag_varD ag_varD))).d ag_nilD)).d) ags_skip)
def w_subsets : QS := (tSeq (tIf (qOrT (qNotT (qTru (qOwn p_is_set (qCons (qVar 0) qNil)))) (qCmp pyGtB (qCall pyLen (qCons (qVar 0) qNil)) (qK c_MAX_SUBSETS))) (tSeq tDead tSkip) tSkip) (tSeq (tSet 1 (qFrz (qLst (qCons (qTup qNil) qNil)))) (tSeq (tFor (qSeq (qVar 0)) (.one 2) (tSeq (tMeth 1 mExt (qCons (qFrz (qLc (qSeq (qVar 1)) [3] (.one 3) qYes (qTup (qFew (qSplice (qVar 3) (qCons (qVar 2) qNil)))))) qNil)) tSkip)) (tSeq (tRet (qCall pyTuple (qCons (qFrz (qCallF pySorted (qCons (qVar 1) qNil))) qNil))) tSkip))))
def p_subsets : List PV → PR PV := fnP 1 4 w_subsets
theorem a_subsets : AgFn r_subsets p_subsets := ag_fn (bs := [1]) rfl (by decide) (ags_seq (ags_if (ag_orT (ag_notT (ag_tru (ag_own a_is_set (ag_cons (ag_var (by decide)) ag_nil)).d)) (ag_cmp (ag_call (ag_consD ag_varD ag_nilD)).d (AgE.d ag_k))) (ags_seq ags_dead ags_skip) ags_skip) (ags_seq (ags_setBox (by decide) (ag_lst (ag_cons (ag_tup ag_nil) ag_nil))) (ags_seq (ags_for (by decide) (ag_seqJ (ag_var (by decide))) (ags_seq (ag_meth (app := false) (by decide) (ag_consD (ag_frz (ag_lc (by decide) (ag_seq ag_varD) ag_yes (ag_tup (ag_few (ag_splice ag_varD (ag_cons (ag_var (by decide)) ag_nil)))))).d ag_nilD)) ags_skip)) (ags_seq (ags_ret (ag_call (ag_consD (ag_frz (ag_callF (ag_consD ag_varD ag_nilD))).d ag_nilD)).d) ags_skip))))
def w_lies_in : QS := (tSeq (tSet 2 (qFrzN (qDc (qSeq (qVar 1)) [3] (.one 3) qYes (qVar 3) (qK (.bl true))))) (tSeq (tRet (qCall pyAll (qCons (qFrz (qLc (qSeq (qVar 0)) [3] (.one 3) qYes (qBin (bl pyIn2) (qVar 3) (qVar 2)))) qNil))) tSkip))
def p_lies_in : List PV → PR PV := fnP 2 4 w_lies_in
theorem a_lies_in : AgFn r_lies_in p_lies_in := ag_fn (bs := []) rfl (by decide) (ags_seq (ags_set (by decide) (ag_frzN (ag_dc (by decide) (ag_seq ag_varD) ag_yes (ag_var (by decide)) ag_k))) (ags_seq (ags_ret (ag_call (ag_consD (ag_frz (ag_lc (by decide) (ag_seq ag_varD) ag_yes (ag_bin ag_varD ag_varD))).d ag_nilD)).d) ags_skip))
def w_smallest_in : QS := (tSeq (tSet 1 (qFrz (qCallF pySortedK (qCons (qFrz (qCallF pyList2 (qCons (qFrzN (qDc (qSeq (qVar 0)) [4] (.one 4) qYes (qVar 4) (qK (.bl true)))) qNil))) qNil)))) (tSeq (tSet 2 (qFrz (qLst qNil))) (tSeq (tFor (qSeq (qVar 1)) (.one 3) (tSeq (tIf (qNotT (qTru (qCall pyAny (qCons (qFrz (qLc (qSeq (qVar 2)) [4] (.one 4) qYes (qOwn p_lies_in (qCons (qVar 4) (qCons (qVar 3) qNil))))) qNil)))) (tSeq (tMeth 2 mApp (qCons (qVar 3) qNil)) tSkip) tSkip) tSkip)) (tSeq (tRet (qCall pyTuple (qCons (qFrz (qCallF pySorted (qCons (qVar 2) qNil))) qNil))) tSkip))))
def p_smallest_in : List PV → PR PV := fnP 1 5 w_smallest_in
theorem a_smallest_in : AgFn r_smallest_in p_smallest_in := ag_fn (bs := [2]) rfl (by decide) (ags_seq (ags_set (by decide) (ag_frz (ag_callF (ag_consD (ag_frz (ag_callF (ag_consD (ag_frzN (ag_dc (by decide) (ag_seq ag_varD) ag_yes (ag_var (by decide)) ag_k)).d ag_nilD))).d ag_nilD)))) (ags_seq (ags_setBox (by decide) (ag_lst ag_nil)) (ags_seq (ags_for (by decide) (ag_seqJ (ag_var (by decide))) (ags_seq (ags_if (ag_notT (ag_tru (ag_call (ag_consD (ag_frz (ag_lc (by decide) (ag_seq ag_varD) ag_yes (ag_own a_lies_in (ag_cons (ag_var (by decide)) (ag_cons (ag_var (by decide)) ag_nil))))).d ag_nilD)).d)) (ags_seq (ag_meth (app := true) (by decide) (ag_cons (ag_var (by decide)) ag_nil)) ags_skip) ags_skip) ags_skip)) (ags_seq (ags_ret (ag_call (ag_consD (ag_frz (ag_callF (ag_consD ag_varD ag_nilD))).d ag_nilD)).d) ags_skip))))
def w_is_lots_value : QS := (tSeq (tRet (qAndV (qCall pyIsi (qCons (qVar 0) (qCons (qK (.ty "tuple")) qNil))) (qCall pyAll (qCons (qFrz (qLc (qSeq (qVar 0)) [1] (.one 1) qYes (qOwn p_is_set (qCons (qVar 1) qNil)))) qNil)))) tSkip)
def p_is_lots_value : List PV → PR PV := fnP 1 2 w_is_lots_value
theorem a_is_lots_value : AgFn r_is_lots_value p_is_lots_value := ag_fn (bs := []) rfl (by decide) (ags_seq (ags_ret (ag_andV (ag_call (ag_consD ag_varD (ag_consD (AgE.d ag_k) ag_nilD))) (ag_call (ag_consD (ag_frz (ag_lc (by decide) (ag_seq ag_varD) ag_yes (ag_own a_is_set (ag_cons (ag_var (by decide)) ag_nil)))).d ag_nilD))).d) ags_skip)
def w_smallest : QS := (tSeq (tIf (qOrT (qNotT (qTru (qCall pyIsi (qCons (qVar 0) (qCons (qK (.ty "tuple")) qNil))))) (qNotT (qTru (qCall pyAll (qCons (qFrz (qLc (qSeq (qVar 0)) [1] (.one 1) qYes (qAndV (qOwn p_is_lots_value (qCons (qVar 1) qNil)) (qOwn p_is_ascending (qCons (qVar 1) qNil))))) qNil))))) (tSeq tDead tSkip) tSkip) (tSeq (tRet (qOwn p_smallest_in (qCons (qVar 0) qNil))) tSkip))
def p_smallest : List PV → PR PV := fnP 1 2 w_smallest
theorem a_smallest : AgFn r_smallest p_smallest := ag_fn (bs := []) rfl (by decide) (ags_seq (ags_if (ag_orT (ag_notT (ag_tru (ag_call (ag_consD ag_varD (ag_consD (AgE.d ag_k) ag_nilD))).d)) (ag_notT (ag_tru (ag_call (ag_consD (ag_frz (ag_lc (by decide) (ag_seq ag_varD) ag_yes (ag_andV (ag_own a_is_lots_value (ag_cons (ag_var (by decide)) ag_nil)) (ag_own a_is_ascending (ag_cons (ag_var (by decide)) ag_nil))))).d ag_nilD)).d))) (ags_seq ags_dead ags_skip) ags_skip) (ags_seq (ags_ret (ag_own a_smallest_in (ag_cons (ag_var (by decide)) ag_nil)).d) ags_skip))
def w_is_lot_at : QS := (tSeq (tIf (qOrT (qNotT (qTru (qOwn p_is_lots_value (qCons (qVar 0) qNil)))) (qNotT (qTru (qOwn p_is_ascending (qCons (qVar 0) qNil))))) (tSeq (tRet (qK (.bl false))) tSkip) tSkip) (tSeq (tRet (qAndV (qBin (bl pyIn2) (qVar 1) (qVar 0)) (qCall pyAll (qCons (qFrz (qLc (qSeq (qVar 0)) [2] (.one 2) qYes (qOwn p_is_within (qCons (qVar 2) (qCons (qVar 1) qNil))))) qNil)))) tSkip))
def p_is_lot_at : List PV → PR PV := fnP 2 3 w_is_lot_at
theorem a_is_lot_at : AgFn r_is_lot_at p_is_lot_at := ag_fn (bs := []) rfl (by decide) (ags_seq (ags_if (ag_orT (ag_notT (ag_tru (ag_own a_is_lots_value (ag_cons (ag_var (by decide)) ag_nil)).d)) (ag_notT (ag_tru (ag_own a_is_ascending (ag_cons (ag_var (by decide)) ag_nil)).d))) (ags_seq (ags_ret (AgE.d ag_k)) ags_skip) ags_skip) (ags_seq (ags_ret (ag_andV (ag_bin ag_varD ag_varD) (ag_call (ag_consD (ag_frz (ag_lc (by decide) (ag_seq ag_varD) ag_yes (ag_own a_is_within (ag_cons (ag_var (by decide)) (ag_cons (ag_var (by decide)) ag_nil))))).d ag_nilD))).d) ags_skip))
def w_shows : QS := (tSeq (tSet 3 (qFrzN (qDc (qSeq (qVar 2)) [4] (.one 4) (qCmp pyNe (qVar 4) (qVar 1)) (qVar 4) (qK (.bl true))))) (tSeq (tRet (qCall pyAny (qCons (qFrz (qLc (qSeq (qVar 0)) [4] (.one 4) qYes (qNotV (qCall pyAny (qCons (qFrz (qLc (qSeq (qVar 4)) [5] (.one 5) qYes (qBin (bl pyIn2) (qVar 5) (qVar 3)))) qNil))))) qNil))) tSkip))
def p_shows : List PV → PR PV := fnP 3 6 w_shows
theorem a_shows : AgFn r_shows p_shows := ag_fn (bs := []) rfl (by decide) (ags_seq (ags_set (by decide) (ag_frzN (ag_dc (by decide) (ag_seq ag_varD) (ag_cmp ag_varD ag_varD) (ag_var (by decide)) ag_k))) (ags_seq (ags_ret (ag_call (ag_consD (ag_frz (ag_lc (by decide) (ag_seq ag_varD) ag_yes (ag_notV (ag_call (ag_consD (ag_frz (ag_lc (by decide) (ag_seq ag_varD) ag_yes (ag_bin ag_varD ag_varD))).d ag_nilD))))).d ag_nilD)).d) ags_skip))
def w_is_seen_in : QS := (tSeq (tExpr (qOwn p_require_set (qCons (qVar 0) qNil))) (tSeq (tIf (qCmp pyGtB (qCall pyLen (qCons (qVar 0) qNil)) (qK c_MAX_NAMES)) (tSeq tDead tSkip) tSkip) (tSeq (tIf (qOrT (qNotT (qTru (qCall pyIsi (qCons (qVar 1) (qCons (qK (.ty "tuple")) qNil))))) (qNotT (qTru (qCall pyAll (qCons (qFrz (qLc (qSeq (qVar 1)) [3] (.one 3) qYes (qOwn p_is_lot_at (qCons (qVar 3) (qCons (qVar 0) qNil))))) qNil))))) (tSeq tDead tSkip) tSkip) (tSeq (tIf (qNotT (qTru (qOwn p_is_lot_at (qCons (qVar 2) (qCons (qVar 0) qNil))))) (tSeq tDead tSkip) tSkip) (tSeq (tRet (qOwn p_shows (qCons (qVar 1) (qCons (qVar 0) (qCons (qVar 2) qNil))))) tSkip)))))
def p_is_seen_in : List PV → PR PV := fnP 3 4 w_is_seen_in
theorem a_is_seen_in : AgFn r_is_seen_in p_is_seen_in := ag_fn (bs := []) rfl (by decide) (ags_seq (ags_expr (ag_own a_require_set (ag_cons (ag_var (by decide)) ag_nil)).d) (ags_seq (ags_if (ag_cmp (ag_call (ag_consD ag_varD ag_nilD)).d (AgE.d ag_k)) (ags_seq ags_dead ags_skip) ags_skip) (ags_seq (ags_if (ag_orT (ag_notT (ag_tru (ag_call (ag_consD ag_varD (ag_consD (AgE.d ag_k) ag_nilD))).d)) (ag_notT (ag_tru (ag_call (ag_consD (ag_frz (ag_lc (by decide) (ag_seq ag_varD) ag_yes (ag_own a_is_lot_at (ag_cons (ag_var (by decide)) (ag_cons (ag_var (by decide)) ag_nil))))).d ag_nilD)).d))) (ags_seq ags_dead ags_skip) ags_skip) (ags_seq (ags_if (ag_notT (ag_tru (ag_own a_is_lot_at (ag_cons (ag_var (by decide)) (ag_cons (ag_var (by decide)) ag_nil))).d)) (ags_seq ags_dead ags_skip) ags_skip) (ags_seq (ags_ret (ag_own a_shows (ag_cons (ag_var (by decide)) (ag_cons (ag_var (by decide)) (ag_cons (ag_var (by decide)) ag_nil)))).d) ags_skip)))))
def w__law_lies : QS := (tSeq (tRet (qBin (bl pyEq) (qFrz (qLc (qSeq (qVar 0)) [2] (.one 2) (qCmp pyNotIn2 (qVar 2) (qVar 1)) (qVar 2))) (qFrz (qLst qNil)))) tSkip)
def p__law_lies : List PV → PR PV := fnP 2 3 w__law_lies
theorem a__law_lies : AgFn r__law_lies p__law_lies := ag_fn (bs := []) rfl (by decide) (ags_seq (ags_ret (ag_bin (ag_frz (ag_lc (by decide) (ag_seq ag_varD) (ag_cmp ag_varD ag_varD) (ag_var (by decide)))).d (ag_frz (ag_lst ag_nil)).d).d) ags_skip)
def w__law_smallest : QS := (tSeq (tSet 1 (qFrz (qCallF pySortSet (qCons (qVar 0) qNil)))) (tSeq (tRet (qFrz (qLc (qSeq (qVar 1)) [2] (.one 2) (qCmp pyEq (qFrz (qLc (qSeq (qVar 1)) [3] (.one 3) (qAndT (qCmp pyNe (qVar 3) (qVar 2)) (qTru (qOwn p__law_lies (qCons (qVar 3) (qCons (qVar 2) qNil))))) (qK (.int 1)))) (qFrz (qLst qNil))) (qVar 2)))) tSkip))
def p__law_smallest : List PV → PR PV := fnP 1 4 w__law_smallest
theorem a__law_smallest : AgFn r__law_smallest p__law_smallest := ag_fn (bs := []) rfl (by decide) (ags_seq (ags_set (by decide) (ag_frz (ag_callF (ag_consD ag_varD ag_nilD)))) (ags_seq (ags_ret (ag_frz (ag_lc (by decide) (ag_seq ag_varD) (ag_cmp (ag_frz (ag_lc (by decide) (ag_seq ag_varD) (ag_andT (ag_cmp ag_varD ag_varD) (ag_tru (ag_own a__law_lies (ag_cons (ag_var (by decide)) (ag_cons (ag_var (by decide)) ag_nil))).d)) ag_k)).d (ag_frz (ag_lst ag_nil)).d) (ag_var (by decide)))).d) ags_skip))
def w__law_is_seen : QS := (tSeq (tFor (qSeq (qVar 0)) (.one 3) (tSeq (tIf (qCmp pyEq (qFrz (qLc (qSeq (qVar 3)) [4] (.one 4) (qCmp pyIn2 (qVar 4) (qVar 2)) (qVar 4))) (qFrz (qLst (qCons (qVar 1) qNil)))) (tSeq (tRet (qK (.bl true))) tSkip) tSkip) tSkip)) (tSeq (tRet (qK (.bl false))) tSkip))
def p__law_is_seen : List PV → PR PV := fnP 3 5 w__law_is_seen
theorem a__law_is_seen : AgFn r__law_is_seen p__law_is_seen := ag_fn (bs := []) rfl (by decide) (ags_seq (ags_for (by decide) (ag_seqJ (ag_var (by decide))) (ags_seq (ags_if (ag_cmp (ag_frz (ag_lc (by decide) (ag_seq ag_varD) (ag_cmp ag_varD ag_varD) (ag_var (by decide)))).d (ag_frz (ag_lst (ag_cons (ag_var (by decide)) ag_nil))).d) (ags_seq (ags_ret (AgE.d ag_k)) ags_skip) ags_skip) ags_skip)) (ags_seq (ags_ret (AgE.d ag_k)) ags_skip))
abbrev n__law_roll := nRoll
theorem an__law_roll : AnFn r__law_roll n__law_roll := roll_ok rfl
abbrev n__law_mixed := nMixed
theorem an__law_mixed : AnFn r__law_mixed n__law_mixed := mixed_ok rfl an__law_roll
def v__law_lot : PFr → NS := (uSeq (uRet (nCall pyTuple (nCons (nFrz (nCallF pySorted (nCons (nFrz (nLc (nQ (qSeq (qVar 1))) [3] (.one 3) (nOrT (nQ (qCmp pyEq (qVar 3) (qVar 2))) (nCmp pyEq (nOwn n__law_roll (nQ (qCons (qK (.int 3)) qNil))) (nQ (qK (.int 0))))) (nQ (qVar 3)))) (nQ qNil)))) (nQ qNil)))) uSkip)
def n__law_lot : List PV → ND PV := nFn 2 4 v__law_lot
theorem an__law_lot : AnFn r__law_lot n__law_lot := an_fn (bs := []) rfl (by decide) (anS_seq (anS_ret (An.d (an_call (an_consD (An.d (an_frz (an_callF (an_consD (An.d (an_frz (an_lc (by decide) (by decide) (by decide) (anJ (ag_seqJ (ag_var (by decide)))) (an_orT (anT (ag_cmp ag_varD ag_varD)) (an_cmp (An.d (an_own an__law_roll (anA (ag_cons ag_k ag_nil)))) (anD (AgE.d ag_k)))) (anE (ag_var (by decide)))))) (anAD ag_nilD))))) (anAD ag_nilD))))) anS_skip)
def v__law_right : PFr → NS := (uSeq (uSet 1 (nCall pyTuple (nCons (nFrz (nCallF pySorted (nCons (nSl (nOwn n__law_mixed (nQ (qCons (qFrz (qLst (qCons (qK (.str "a")) (qCons (qK (.str "b")) (qCons (qK (.str "ab")) (qCons (qK (.str "zz")) qNil)))))) qNil))) (nQ qNo) (nAt (nOwn n__law_roll (nQ (qCons (qK (.int 4)) qNil))))) (nQ qNil)))) (nQ qNil)))) (uSeq (uSet 2 (nQ (qOwn p_subsets (qCons (qVar 1) qNil)))) (uSeq (uSet 3 (nFrz (nLc (nICall rangeItems (nCons (nOwn n__law_roll (nQ (qCons (qK (.int 5)) qNil))) (nQ qNil))) [5] (.one 5) (nQ qYes) (nOwn n__law_lot (nQ (qCons (qVar 2) (qCons (qVar 1) qNil))))))) (uSeq (uSet 3 (nOwn n__law_mixed (nCons (nBin pyAdd (nQ (qVar 3)) (nSl (nQ (qVar 3)) (nQ qNo) (nAt (nOwn n__law_roll (nQ (qCons (qK (.int 2)) qNil)))))) (nQ qNil)))) (uSeq (uSet 4 (nQ (qOwn p_smallest (qCons (qCall pyTuple (qCons (qVar 3) qNil)) qNil)))) (uSeq (uIf (nQ (qOrT (qCmp pyNe (qVar 4) (qCall pyTuple (qCons (qOwn p__law_smallest (qCons (qVar 3) qNil)) qNil))) (qCmp pyNe (qFrz (qLc (qSeq (qVar 4)) [8] (.one 8) (qCmp pyNotIn2 (qVar 8) (qVar 3)) (qVar 8))) (qFrz (qLst qNil))))) (uSeq (uRet (nQ (qK (.bl false)))) uSkip) uSkip) (uSeq (uIf (nQ (qCmp pyNe (qFrz (qLc (qSeq (qVar 3)) [8] (.one 8) (qCmp pyEq (qFrz (qLc (qSeq (qVar 4)) [9] (.one 9) (qTru (qOwn p__law_lies (qCons (qVar 9) (qCons (qVar 8) qNil)))) (qVar 9))) (qFrz (qLst qNil))) (qVar 8))) (qFrz (qLst qNil)))) (uSeq (uRet (nQ (qK (.bl false)))) uSkip) uSkip) (uSeq (uFor (nQ (qICall rangeItems (qCons (qK (.int 6)) qNil))) (.one 5) (uSeq (uSet 6 (nOwn n__law_lot (nQ (qCons (qVar 2) (qCons (qVar 1) qNil))))) (uSeq (uSet 7 (nQ (qOwn p__law_is_seen (qCons (qVar 3) (qCons (qVar 1) (qCons (qVar 6) qNil)))))) (uSeq (uIf (nQ (qCmp pyNe (qCall pyShow (qCons (qFrz (qLst (qCons (qOwn p_is_seen_in (qCons (qVar 1) (qCons (qCall pyTuple (qCons (qVar 3) qNil)) (qCons (qVar 6) qNil)))) (qCons (qOwn p_is_seen_in (qCons (qVar 1) (qCons (qVar 4) (qCons (qVar 6) qNil)))) qNil)))) qNil)) (qCall pyShow (qCons (qFrz (qLst (qCons (qVar 7) (qCons (qVar 7) qNil)))) qNil)))) (uSeq (uRet (nQ (qK (.bl false)))) uSkip) uSkip) uSkip)))) (uSeq (uRet (nQ (qAndV (qBin (bl pyIs) (qOwn p_is_seen_in (qCons (qVar 1) (qCons (qTup qNil) (qCons (qTup (qCons (qVar 1) qNil)) qNil)))) (qK (.bl false))) (qBin (bl pyIs) (qOwn p_is_seen_in (qCons (qVar 1) (qCons (qTup (qCons (qTup (qCons (qVar 1) qNil)) qNil)) (qCons (qVar 2) qNil)))) (qK (.bl true)))))) uSkip)))))))))
def n__law_right : List PV → ND PV := nFn 0 10 v__law_right
theorem an__law_right : AnFn r__law_right n__law_right := an_fn (bs := []) rfl (by decide) (anS_seq (anS_set (by decide) (by decide) (an_call (an_consD (An.d (an_frz (an_callF (an_consD (An.d (an_sl (An.d (an_own an__law_mixed (anA (ag_cons (ag_frz (ag_lst (ag_cons ag_k (ag_cons ag_k (ag_cons ag_k (ag_cons ag_k ag_nil)))))) ag_nil)))) (anO ag_no) (an_at (an_own an__law_roll (anA (ag_cons ag_k ag_nil)))))) (anAD ag_nilD))))) (anAD ag_nilD)))) (anS_seq (anS_set (by decide) (by decide) (anE (ag_own a_subsets (ag_cons (ag_var (by decide)) ag_nil)))) (anS_seq (anS_set (by decide) (by decide) (an_frz (an_lc (by decide) (by decide) (by decide) (an_icall (an_consD (An.d (an_own an__law_roll (anA (ag_cons ag_k ag_nil)))) (anAD ag_nilD))) (anT ag_yes) (an_own an__law_lot (anA (ag_cons (ag_var (by decide)) (ag_cons (ag_var (by decide)) ag_nil))))))) (anS_seq (anS_set (by decide) (by decide) (an_own an__law_mixed (an_cons (an_bin (anD ag_varD) (An.d (an_sl (anD ag_varD) (anO ag_no) (an_at (an_own an__law_roll (anA (ag_cons ag_k ag_nil))))))) (anA ag_nil)))) (anS_seq (anS_set (by decide) (by decide) (anE (ag_own a_smallest (ag_cons (ag_call (ag_consD ag_varD ag_nilD)) ag_nil)))) (anS_seq (anS_if (anT (ag_orT (ag_cmp ag_varD (ag_call (ag_consD (ag_own a__law_smallest (ag_cons (ag_var (by decide)) ag_nil)).d ag_nilD)).d) (ag_cmp (ag_frz (ag_lc (by decide) (ag_seq ag_varD) (ag_cmp ag_varD ag_varD) (ag_var (by decide)))).d (ag_frz (ag_lst ag_nil)).d))) (anS_seq (anS_ret (anD (AgE.d ag_k))) anS_skip) anS_skip) (anS_seq (anS_if (anT (ag_cmp (ag_frz (ag_lc (by decide) (ag_seq ag_varD) (ag_cmp (ag_frz (ag_lc (by decide) (ag_seq ag_varD) (ag_tru (ag_own a__law_lies (ag_cons (ag_var (by decide)) (ag_cons (ag_var (by decide)) ag_nil))).d) (ag_var (by decide)))).d (ag_frz (ag_lst ag_nil)).d) (ag_var (by decide)))).d (ag_frz (ag_lst ag_nil)).d)) (anS_seq (anS_ret (anD (AgE.d ag_k))) anS_skip) anS_skip) (anS_seq (anS_for (by decide) (by decide) (anJ (ag_icallJ (ag_consD (AgE.d ag_k) ag_nilD))) (anS_seq (anS_set (by decide) (by decide) (an_own an__law_lot (anA (ag_cons (ag_var (by decide)) (ag_cons (ag_var (by decide)) ag_nil))))) (anS_seq (anS_set (by decide) (by decide) (anE (ag_own a__law_is_seen (ag_cons (ag_var (by decide)) (ag_cons (ag_var (by decide)) (ag_cons (ag_var (by decide)) ag_nil)))))) (anS_seq (anS_if (anT (ag_cmp (ag_call (ag_consD (ag_frz (ag_lst (ag_cons (ag_own a_is_seen_in (ag_cons (ag_var (by decide)) (ag_cons (ag_call (ag_consD ag_varD ag_nilD)) (ag_cons (ag_var (by decide)) ag_nil)))) (ag_cons (ag_own a_is_seen_in (ag_cons (ag_var (by decide)) (ag_cons (ag_var (by decide)) (ag_cons (ag_var (by decide)) ag_nil)))) ag_nil)))).d ag_nilD)).d (ag_call (ag_consD (ag_frz (ag_lst (ag_cons (ag_var (by decide)) (ag_cons (ag_var (by decide)) ag_nil)))).d ag_nilD)).d)) (anS_seq (anS_ret (anD (AgE.d ag_k))) anS_skip) anS_skip) anS_skip)))) (anS_seq (anS_ret (anD (ag_andV (ag_bin (ag_own a_is_seen_in (ag_cons (ag_var (by decide)) (ag_cons (ag_tup ag_nil) (ag_cons (ag_tup (ag_cons (ag_var (by decide)) ag_nil)) ag_nil)))).d (AgE.d ag_k)) (ag_bin (ag_own a_is_seen_in (ag_cons (ag_var (by decide)) (ag_cons (ag_tup (ag_cons (ag_tup (ag_cons (ag_var (by decide)) ag_nil)) ag_nil)) (ag_cons (ag_var (by decide)) ag_nil)))).d (AgE.d ag_k))).d)) anS_skip)))))))))
def bt_law : FS := (sSeq (sSetTup [4, 5, 6] (cTup (cCons (cTup (cCons (cTup (cCons (cK (.str "a")) cNil)) (cCons (cTup (cCons (cK (.str "a")) (cCons (cK (.str "b")) cNil))) cNil))) (cCons (cTup (cCons (cTup (cCons (cK (.str "a")) (cCons (cK (.str "b")) cNil))) (cCons (cTup (cCons (cK (.str "b")) cNil)) cNil))) (cCons (cTup (cCons (cK (.str "a")) (cCons (cK (.str "b")) cNil))) cNil))))) (sSeq (sSetBox 7 (cLst (cCons (cOwn r_is_seen_in (cCons (cVar 6) (cCons (cTup (cCons (cVar 4) (cCons (cVar 5) cNil))) (cCons (cVar 4) cNil)))) (cCons (cOwn r_is_seen_in (cCons (cVar 6) (cCons (cTup (cCons (cVar 5) (cCons (cVar 4) cNil))) (cCons (cOwn r_subsets (cCons (cVar 6) cNil)) cNil)))) cNil)))) (sSeq (sExpr (cMeth true mApp (cVar 7) (cCons (cOwn r_is_seen_in (cCons (cVar 6) (cCons (cTup (cCons (cVar 4) (cCons (cVar 5) cNil))) (cCons (cTup (cCons (cTup cNil) (cCons (cVar 6) cNil))) cNil)))) cNil))) (sSeq (sSet 8 (cTup (cCons (cK (.str "a")) (cCons (cK (.str "b")) (cCons (cK (.str "c")) (cCons (cK (.str "d")) (cCons (cK (.str "e")) (cCons (cK (.str "f")) (cCons (cK (.str "g")) cNil))))))))) (sSeq (sExpr (cMeth true mApp (cVar 7) (cCons (cOwn r_is_seen_in (cCons (cVar 8) (cCons (cTup (cCons (cTup (cCons (cVar 8) cNil)) cNil)) (cCons (cTup (cCons (cVar 8) (cCons (cTup (cCons (cK (.str "g")) cNil)) cNil))) cNil)))) cNil))) (sSeq (sRet (cAndV (cBin (bl pyEq) (cVar 7) (cFrz (cLst (cCons (cK (.bl true)) (cCons (cK (.bl false)) (cCons (cK (.bl true)) (cCons (cK (.bl true)) cNil))))))) (cBin (bl pyIs) (cOwn r_is_seen_in (cCons (cTup cNil) (cCons (cTup (cCons (cTup (cCons (cTup cNil) cNil)) cNil)) (cCons (cTup (cCons (cTup cNil) cNil)) cNil)))) (cK (.bl true))))) sSkip))))))
def wt_law : QS := (tSeq (tSetTup [4, 5, 6] (qTup (qCons (qTup (qCons (qTup (qCons (qK (.str "a")) qNil)) (qCons (qTup (qCons (qK (.str "a")) (qCons (qK (.str "b")) qNil))) qNil))) (qCons (qTup (qCons (qTup (qCons (qK (.str "a")) (qCons (qK (.str "b")) qNil))) (qCons (qTup (qCons (qK (.str "b")) qNil)) qNil))) (qCons (qTup (qCons (qK (.str "a")) (qCons (qK (.str "b")) qNil))) qNil))))) (tSeq (tSet 7 (qFrz (qLst (qCons (qOwn p_is_seen_in (qCons (qVar 6) (qCons (qTup (qCons (qVar 4) (qCons (qVar 5) qNil))) (qCons (qVar 4) qNil)))) (qCons (qOwn p_is_seen_in (qCons (qVar 6) (qCons (qTup (qCons (qVar 5) (qCons (qVar 4) qNil))) (qCons (qOwn p_subsets (qCons (qVar 6) qNil)) qNil)))) qNil))))) (tSeq (tMeth 7 mApp (qCons (qOwn p_is_seen_in (qCons (qVar 6) (qCons (qTup (qCons (qVar 4) (qCons (qVar 5) qNil))) (qCons (qTup (qCons (qTup qNil) (qCons (qVar 6) qNil))) qNil)))) qNil)) (tSeq (tSet 8 (qTup (qCons (qK (.str "a")) (qCons (qK (.str "b")) (qCons (qK (.str "c")) (qCons (qK (.str "d")) (qCons (qK (.str "e")) (qCons (qK (.str "f")) (qCons (qK (.str "g")) qNil))))))))) (tSeq (tMeth 7 mApp (qCons (qOwn p_is_seen_in (qCons (qVar 8) (qCons (qTup (qCons (qTup (qCons (qVar 8) qNil)) qNil)) (qCons (qTup (qCons (qVar 8) (qCons (qTup (qCons (qK (.str "g")) qNil)) qNil))) qNil)))) qNil)) (tSeq (tRet (qAndV (qBin (bl pyEq) (qVar 7) (qFrz (qLst (qCons (qK (.bl true)) (qCons (qK (.bl false)) (qCons (qK (.bl true)) (qCons (qK (.bl true)) qNil))))))) (qBin (bl pyIs) (qOwn p_is_seen_in (qCons (qTup qNil) (qCons (qTup (qCons (qTup (qCons (qTup qNil) qNil)) qNil)) (qCons (qTup (qCons (qTup qNil) qNil)) qNil)))) (qK (.bl true))))) tSkip))))))
theorem at_law : AgS [7] bt_law wt_law := (ags_seq (ags_setTup (by decide) (ag_tup (ag_cons (ag_tup (ag_cons (ag_tup (ag_cons ag_k ag_nil)) (ag_cons (ag_tup (ag_cons ag_k (ag_cons ag_k ag_nil))) ag_nil))) (ag_cons (ag_tup (ag_cons (ag_tup (ag_cons ag_k (ag_cons ag_k ag_nil))) (ag_cons (ag_tup (ag_cons ag_k ag_nil)) ag_nil))) (ag_cons (ag_tup (ag_cons ag_k (ag_cons ag_k ag_nil))) ag_nil))))) (ags_seq (ags_setBox (by decide) (ag_lst (ag_cons (ag_own a_is_seen_in (ag_cons (ag_var (by decide)) (ag_cons (ag_tup (ag_cons (ag_var (by decide)) (ag_cons (ag_var (by decide)) ag_nil))) (ag_cons (ag_var (by decide)) ag_nil)))) (ag_cons (ag_own a_is_seen_in (ag_cons (ag_var (by decide)) (ag_cons (ag_tup (ag_cons (ag_var (by decide)) (ag_cons (ag_var (by decide)) ag_nil))) (ag_cons (ag_own a_subsets (ag_cons (ag_var (by decide)) ag_nil)) ag_nil)))) ag_nil)))) (ags_seq (ag_meth (app := true) (by decide) (ag_cons (ag_own a_is_seen_in (ag_cons (ag_var (by decide)) (ag_cons (ag_tup (ag_cons (ag_var (by decide)) (ag_cons (ag_var (by decide)) ag_nil))) (ag_cons (ag_tup (ag_cons (ag_tup ag_nil) (ag_cons (ag_var (by decide)) ag_nil))) ag_nil)))) ag_nil)) (ags_seq (ags_set (by decide) (ag_tup (ag_cons ag_k (ag_cons ag_k (ag_cons ag_k (ag_cons ag_k (ag_cons ag_k (ag_cons ag_k (ag_cons ag_k ag_nil))))))))) (ags_seq (ag_meth (app := true) (by decide) (ag_cons (ag_own a_is_seen_in (ag_cons (ag_var (by decide)) (ag_cons (ag_tup (ag_cons (ag_tup (ag_cons (ag_var (by decide)) ag_nil)) ag_nil)) (ag_cons (ag_tup (ag_cons (ag_var (by decide)) (ag_cons (ag_tup (ag_cons ag_k ag_nil)) ag_nil))) ag_nil)))) ag_nil)) (ags_seq (ags_ret (ag_andV (ag_bin ag_varD (ag_frz (ag_lst (ag_cons ag_k (ag_cons ag_k (ag_cons ag_k (ag_cons ag_k ag_nil)))))).d) (ag_bin (ag_own a_is_seen_in (ag_cons (ag_tup ag_nil) (ag_cons (ag_tup (ag_cons (ag_tup (ag_cons (ag_tup ag_nil) ag_nil)) ag_nil)) (ag_cons (ag_tup (ag_cons (ag_tup ag_nil) ag_nil)) ag_nil)))).d (AgE.d ag_k))).d) ags_skip))))))
end K24

end
section
set_option maxRecDepth 100000
set_option maxHeartbeats 4000000
namespace K24
open PySem PySem.Spec PyProof.Rows L2 Ev
/-! ### names.py: what its functions give on tuples of names (U: the names in play) -/
/-- a name -/
def nmd (x : PV) : Prop := sh 0 x = true ∧ p_is_name [x] = .ok (.bl true)
theorem zip_tail : ∀ xs : List PV, (zipPV xs xs.tail).all (fun p => match p with
    | .tup [a, b] => plt a b
    | _ => false) = asc xs
  | [] => rfl
  | [_] => rfl
  | a :: b :: r => by
    have ih := zip_tail (b :: r)
    simp only [List.tail_cons, zipPV, List.all_cons, asc] at ih ⊢
    rw [ih]
theorem zip_mem : ∀ {xs ys : List PV} {p : PV}, p ∈ zipPV xs ys → ∃ a b, p = .tup [a, b] ∧ a ∈ xs ∧ b ∈ ys
  | [], _, p, h => by simp [zipPV] at h
  | _ :: _, [], p, h => by simp [zipPV] at h
  | x :: xs, y :: ys, p, h => by
    simp only [zipPV, List.mem_cons] at h
    rcases h with rfl | h
    · exact ⟨x, y, rfl, by simp, by simp⟩
    · obtain ⟨a, b, e, h1, h2⟩ := zip_mem h
      exact ⟨a, b, e, List.mem_cons_of_mem _ h1, List.mem_cons_of_mem _ h2⟩
theorem zip_len : ∀ {xs ys : List PV}, (zipPV xs ys).length ≤ xs.length
  | [], _ => by simp [zipPV]
  | _ :: _, [] => by simp [zipPV]
  | x :: xs, y :: ys => by simp only [zipPV, List.length_cons]; have := @zip_len xs ys; omega
theorem cut1 (xs : List PV) : cutL xs (some 1) none = xs.tail := by
  unfold cutL
  cases xs with
  | nil => simp
  | cons x xs =>
    have h1 : HT.sIx (x :: xs).length 0 (some 1) = 1 := by simp [HT.sIx]
    have h2 : HT.sIx (x :: xs).length (x :: xs).length none = (x :: xs).length := by simp [HT.sIx]
    rw [h1, h2]
    simp
theorem asc_p {k : Nat} {xs : List PV} (h : ∀ x ∈ xs, sh k x = true) (hk : k ≤ 64) (hl : xs.length ≤ sizeLine) : p_is_ascending [.tup xs] = .ok (.bl (asc xs)) := by
  have hz := zip_len (xs := xs) (ys := xs.tail)
  simp only [p_is_ascending, fnP, w_is_ascending]
  simp [zipItems, pySlice, cut1]
  rw [if_pos (by omega), lcP_all (fun p => .bl (match p with
    | .tup [a, b] => plt a b
    | _ => false)) _ fun p hp => ?_]
  · simp [pyAll_map, zip_tail]
  · obtain ⟨a, b, rfl, ha, hb⟩ := zip_mem hp
    refine ⟨_, rfl, ?_⟩
    simp [bl, sh_lt (h a ha) (h b (List.mem_of_mem_tail hb)) hk]
theorem wit_p {k : Nat} {xs ys : List PV} (h : ∀ x ∈ xs, sh k x = true) (h' : ∀ x ∈ ys, sh k x = true) (hk : k < 64) (hl : xs.length ≤ sizeLine) : p_is_within [.tup xs, .tup ys] = .ok (.bl (xs.all fun x => decide (x ∈ ys))) := by
  simp only [p_is_within, fnP, w_is_within]
  simp
  rw [if_pos hl, lcP_all (fun x => .bl (decide (x ∈ ys))) _ fun x hx => ⟨_, rfl, ?_⟩]
  · simp [pyAll_map]
  · simp [bl, sh_inT (h x hx) h' hk]
theorem set_p {xs : List PV} (h : ∀ x ∈ xs, nmd x) (hl : xs.length ≤ sizeLine) : p_is_set [.tup xs] = .ok (.bl (asc xs)) := by
  have ha := asc_p (fun x hx => (h x hx).1) (by decide) hl
  simp only [p_is_set, fnP, w_is_set]
  simp
  rw [if_pos hl, lcP_all (fun _ => .bl true) _ fun x hx => ⟨_, rfl, by simp [(h x hx).2]⟩]
  simp [pyAll_map, ha]
theorem req_p {xs : List PV} (h : ∀ x ∈ xs, nmd x) (hl : xs.length ≤ sizeLine) (a : asc xs = true) : p_require_set [.tup xs] = .ok .non := by
  simp only [p_require_set, fnP, w_require_set]
  simp [set_p h hl, a]
/-! ### subsets -/
def snoc (n : PV) : PV → PV
  | .tup t => .tup (t ++ [n])
  | p => p
def sgo : List PV → List PV → List PV
  | found, [] => found
  | found, n :: ns => sgo (found ++ found.map (snoc n)) ns
theorem sub_one {t : List PV} {n : PV} (h : t.Sublist [n]) : t = [] ∨ t = [n] := by
  cases h with
  | cons _ h => exact .inl (List.sublist_nil.mp h)
  | cons_cons _ h => rw [List.sublist_nil.mp h]; exact .inr rfl
theorem sub_snoc {t pre : List PV} {n : PV} : t.Sublist (pre ++ [n]) ↔ t.Sublist pre ∨ ∃ s, t = s ++ [n] ∧ s.Sublist pre := by
  rw [List.sublist_append_iff]
  constructor
  · rintro ⟨a, b, rfl, h1, h2⟩
    rcases sub_one h2 with rfl | rfl
    · rw [List.append_nil]; exact .inl h1
    · exact .inr ⟨a, rfl, h1⟩
  · rintro (h | ⟨s, rfl, h⟩)
    · exact ⟨t, [], by simp, h, by simp⟩
    · exact ⟨s, [n], rfl, h, by simp⟩
theorem mem_sgo : ∀ {ns pre found : List PV}, (∀ m, m ∈ found ↔ ∃ t, m = .tup t ∧ t.Sublist pre) → ∀ m, m ∈ sgo found ns ↔ ∃ t, m = .tup t ∧ t.Sublist (pre ++ ns)
  | [], pre, found, h, m => by rw [List.append_nil]; exact h m
  | n :: ns, pre, found, h, m => by
    unfold sgo
    rw [mem_sgo (pre := pre ++ [n]) (fun m => ?_) m, List.append_assoc]
    · rfl
    · rw [List.mem_append, List.mem_map]
      constructor
      · rintro (q | ⟨a, ha, rfl⟩)
        · obtain ⟨t, rfl, ht⟩ := (h m).mp q
          exact ⟨t, rfl, sub_snoc.mpr (.inl ht)⟩
        · obtain ⟨t, rfl, ht⟩ := (h a).mp ha
          exact ⟨t ++ [n], rfl, sub_snoc.mpr (.inr ⟨t, rfl, ht⟩)⟩
      · rintro ⟨t, rfl, ht⟩
        rcases sub_snoc.mp ht with q | ⟨s, rfl, hs⟩
        · exact .inl ((h _).mpr ⟨t, rfl, q⟩)
        · exact .inr ⟨.tup s, (h _).mpr ⟨s, rfl, hs⟩, rfl⟩
theorem nodup_sgo : ∀ {ns pre found : List PV}, (∀ m, m ∈ found ↔ ∃ t, m = .tup t ∧ t.Sublist pre) → (pre ++ ns).Nodup → found.Nodup → (sgo found ns).Nodup
  | [], _, _, _, _, nd => nd
  | n :: ns, pre, found, h, nn, nd => by
    have hn : n ∉ pre := fun z => (List.nodup_append.mp nn).2.2 n z n (List.mem_cons_self ..) rfl
    have fm : ∀ m, m ∈ found ++ found.map (snoc n) ↔ ∃ t, m = .tup t ∧ t.Sublist (pre ++ [n]) := mem_sgo (ns := [n]) h
    unfold sgo
    refine nodup_sgo (pre := pre ++ [n]) fm (by rw [List.append_assoc]; exact nn) (List.nodup_append.mpr ⟨nd, ?_, ?_⟩)
    · refine (List.pairwise_map.mpr (nd.imp_of_mem fun {a b} ha hb q => ?_))
      obtain ⟨t, rfl, _⟩ := (h a).mp ha
      obtain ⟨t', rfl, _⟩ := (h b).mp hb
      intro z
      simp only [snoc, PV.tup.injEq] at z
      exact q (by rw [List.append_cancel_right z])
    · intro a ha b hb e
      subst e
      obtain ⟨c, hc, e⟩ := List.mem_map.mp hb
      obtain ⟨t, rfl, _⟩ := (h c).mp hc
      obtain ⟨t', rfl, ht'⟩ := (h a).mp ha
      simp only [snoc, PV.tup.injEq] at e
      exact hn (ht'.subset (by rw [← e]; simp))
theorem len_sgo : ∀ {ns found : List PV}, (sgo found ns).length = found.length * 2 ^ ns.length
  | [], found => by simp [sgo]
  | n :: ns, found => by
    unfold sgo
    rw [len_sgo]
    simp only [List.length_append, List.length_map, List.length_cons, Nat.pow_succ]
    rw [← Nat.two_mul, Nat.mul_comm 2, Nat.mul_assoc, Nat.mul_comm 2]
def subs (xs : List PV) : List PV := pySort (sgo [.tup []] xs)
theorem nil_mem (m : PV) : m ∈ [PV.tup []] ↔ ∃ t, m = .tup t ∧ t.Sublist [] := by
  simp [List.sublist_nil]
theorem mem_subs {xs : List PV} {m : PV} : m ∈ subs xs ↔ ∃ t, m = .tup t ∧ t.Sublist xs := by
  unfold subs
  rw [mem_pySort, mem_sgo nil_mem]
  rfl
theorem sh_subs {xs : List PV} (h : ∀ x ∈ xs, sh 0 x = true) : ∀ m ∈ sgo [.tup []] xs, sh 1 m = true := fun m hm => by
  obtain ⟨t, rfl, ht⟩ := (mem_sgo nil_mem m).mp hm
  exact sh_of fun x hx => h x (ht.subset hx)
theorem asc_subs {xs : List PV} (h : ∀ x ∈ xs, sh 0 x = true) (nd : xs.Nodup) : asc (subs xs) = true := asc_pySort (sh_subs h) (nodup_sgo nil_mem nd (by simp))
theorem sub_loop {A : Option PV} : ∀ (ns pre found : List PV) (b c : Option PV), (∀ m ∈ found, ∃ t, m = .tup t ∧ t.length ≤ pre.length) → found.length * 2 ^ ns.length ≤ sizeLine → pre.length + ns.length ≤ sizeLine →
    ∃ b' c', forP (.one 2) (tSeq (tMeth 1 mExt (qCons (qFrz (qLc (qSeq (qVar 1)) [3] (.one 3) qYes (qTup (qFew (qSplice (qVar 3) (qCons (qVar 2) qNil)))))) qNil)) tSkip) ns [A, some (.lst found), b, c] = .next [A, some (.lst (sgo found ns)), b', c']
  | [], pre, found, b, c, _, _, _ => ⟨b, c, rfl⟩
  | n :: ns, pre, found, b, c, h, hl, hp => by
    simp only [List.length_cons, Nat.pow_succ] at hl hp
    have pos : 1 ≤ 2 ^ ns.length := Nat.one_le_two_pow
    have h2 : found.length * 2 ≤ found.length * (2 ^ ns.length * 2) := Nat.mul_le_mul_left _ (by omega)
    obtain ⟨b', c', e⟩ := sub_loop ns (pre ++ [n]) (found ++ found.map (snoc n)) (some n) c (fun m hm => by
      rcases List.mem_append.mp hm with q | q
      · obtain ⟨t, rfl, ht⟩ := h m q
        exact ⟨t, rfl, by simp; omega⟩
      · obtain ⟨a, ha, rfl⟩ := List.mem_map.mp q
        obtain ⟨t, rfl, ht⟩ := h a ha
        exact ⟨t ++ [n], rfl, by simpa using ht⟩) (by
      simp only [List.length_append, List.length_map]
      rw [← Nat.two_mul, Nat.mul_comm 2, Nat.mul_assoc, Nat.mul_comm 2]
      exact hl) (by simp only [List.length_append, List.length_singleton]; omega)
    refine ⟨b', c', ?_⟩
    unfold forP
    simp
    rw [if_pos (by omega), lcP_all (snoc n) _ fun x hx => ?_]
    · simp [mExt]
      rw [if_pos (by omega)]
      simpa [sgo] using e
    · obtain ⟨t, rfl, ht⟩ := h x hx
      refine ⟨_, rfl, ?_⟩
      simp
      rw [if_pos (by omega)]
      rfl
theorem subs_p {xs : List PV} (h : ∀ x ∈ xs, nmd x) (a : asc xs = true) (hl : xs.length ≤ 7) : p_subsets [.tup xs] = .ok (.tup (subs xs)) := by
  have big : (128 : Nat) ≤ sizeLine := by decide
  have l7 : ¬ (7 : Int) < (xs.length : Int) := by omega
  have pw : 2 ^ xs.length ≤ 128 := by
    have := Nat.pow_le_pow_right (n := 2) (by decide) hl
    exact this
  obtain ⟨b', c', e⟩ := sub_loop (A := some (.tup xs)) xs [] [.tup []] none none (by simp) (by simp; omega) (by simp; omega)
  have ss : pySorted [.lst (sgo [.tup []] xs)] = some (pySort (sgo [.tup []] xs)) := sh_sort (sh_subs fun x hx => (h x hx).1) (by decide) (by rw [len_sgo]; simp; omega)
  simp only [p_subsets, fnP, w_subsets]
  simp [set_p h (by omega), a, c_MAX_SUBSETS, l7]
  rw [e]
  simp [ss, subs]
/-! ### lots.py: tuples of sets within others, the smallest ones, what is seen -/
/-- all members of one tuple are in the other one -/
def inn (a b : List PV) : Bool := a.all fun x => decide (x ∈ b)
theorem inn_iff {a b : List PV} : inn a b = true ↔ ∀ x ∈ a, x ∈ b := by simp [inn]
theorem sh_mono_keys {k : Nat} {xs l : List PV} (h : ∀ x ∈ xs, sh (k + 1) x = true) (hk : k < 8) (hl : ∀ x ∈ l, x ∈ ([] : List PV) ∨ x ∈ xs) : ∀ x ∈ xs, keyOk l x = true := fun x hx =>
  sh_keyOk (fun p hp => by rcases hl p hp with q | q; cases q; exact h p q) (h x hx) hk
theorem lies_p {k : Nat} {a b : List PV} (ha : ∀ x ∈ a, sh (k + 1) x = true) (hb : ∀ x ∈ b, sh (k + 1) x = true) (hk : k < 8) (la : a.length ≤ sizeLine) (lb : b.length ≤ sizeLine) : p_lies_in [.tup a, .tup b] = .ok (.bl (inn a b)) := by
  obtain ⟨vs', e, _⟩ := dcP_keys (tgt := .one 3) (qt := qYes) (qk := qVar 3) (qe := qK (.bl true)) (π := [some (.tup a), some (.tup b), none, none]) (fun _ => true) (fun _ => .bl true) b [] [] rfl (by simpa using lb)
    (fun x hx => ⟨_, rfl, rfl, fun _ => ⟨rfl, rfl⟩⟩) (fun l hl => sh_mono_keys hb hk hl)
  rw [List.filter_eq_self.mpr fun _ _ => rfl] at e
  have mk : ∀ x, x ∈ ddk [] b ↔ x ∈ b := fun x => by rw [mem_ddk]; simp
  simp only [p_lies_in, fnP, w_lies_in]
  simp
  rw [e]
  simp
  rw [if_pos la, lcP_all (fun x => .bl (decide (x ∈ b))) _ fun x hx => ⟨_, rfl, ?_⟩]
  · simp [pyAll_map, inn]
  · simp [bl]
    rw [sh_inD (ha x hx) (fun y hy => hb y ((mk y).mp hy)) hk]
    simp [mk]
theorem lawlies_p {k : Nat} {a b : List PV} (ha : ∀ x ∈ a, sh k x = true) (hb : ∀ x ∈ b, sh k x = true) (hk : k < 63) (la : a.length ≤ sizeLine) : p__law_lies [.tup a, .tup b] = .ok (.bl (inn a b)) := by
  simp only [p__law_lies, fnP, w__law_lies]
  simp
  rw [if_pos la, lcP_map (fun x => decide (x ∉ b)) id _ fun x hx => ⟨_, rfl, ?_, fun _ => rfl⟩]
  · simp [bl]
    rw [sh_eqL (k := k) (fun x hx => ha x (List.mem_filter.mp hx).1) (by simp) (by omega)]
    simp
    rw [Bool.eq_iff_iff, inn_iff]
    simp
  · simp [sh_ninT (ha x hx) hb (by omega)]
/-- a lot: an ascending tuple of sets -/
def lotI (U : List PV) (p : PV) : Prop := ∃ t, p = .tup t ∧ asc t = true ∧ (∀ m ∈ t, sh 1 m = true) ∧ t.length ≤ 1000
def mem2 : PV → List PV
  | .tup t => t
  | _ => []
/-- no other one of ls lies in p -/
def isMin (ls : List PV) (p : PV) : Bool := ls.all fun q => decide (q = p) || !inn (mem2 q) (mem2 p)
theorem inn_refl (a : List PV) : inn a a = true := inn_iff.mpr fun _ h => h
theorem inn_trans {a b c : List PV} (h1 : inn a b = true) (h2 : inn b c = true) : inn a c = true := inn_iff.mpr fun x hx => inn_iff.mp h2 x (inn_iff.mp h1 x hx)
/-- a lot: an ascending tuple of tuples k deep -/
def lotD (k : Nat) (p : PV) : Prop := ∃ t, p = .tup t ∧ asc t = true ∧ (∀ m ∈ t, sh (k + 1) m = true) ∧ t.length ≤ 1000000
theorem lotD.sh {k : Nat} {p : PV} (h : lotD k p) : sh (k + 2) p = true := by
  obtain ⟨t, rfl, _, h, _⟩ := h
  exact sh_of h
theorem isMin_iff {ls : List PV} {p : PV} : isMin ls p = true ↔ ∀ q ∈ ls, inn (mem2 q) (mem2 p) = true → q = p := by
  unfold isMin
  rw [List.all_eq_true]
  constructor
  · intro h q hq i
    have := h q hq
    rw [i] at this
    simpa using this
  · intro h q hq
    cases i : inn (mem2 q) (mem2 p) with
    | false => simp
    | true => simp [h q hq i]
theorem less_of {k : Nat} {q p : PV} (hq : lotD k q) (hp : lotD k p) (i : inn (mem2 q) (mem2 p) = true) (ne : q ≠ p) : plen q < plen p := by
  obtain ⟨a, rfl, aa, _, _⟩ := hq
  obtain ⟨b, rfl, ab, _, _⟩ := hp
  show a.length < b.length
  by_cases l : b.length ≤ a.length
  · exact absurd (congrArg PV.tup (asc_same aa ab (inn_iff.mp i) l)) ne
  · omega
theorem exMin {k : Nat} {ls : List PV} (h : ∀ p ∈ ls, lotD k p) : ∀ (n : Nat) (q : PV), q ∈ ls → plen q ≤ n → ∃ m ∈ ls, isMin ls m = true ∧ inn (mem2 m) (mem2 q) = true := fun n => by
  induction n with
  | zero =>
    intro q hq hn
    refine ⟨q, hq, isMin_iff.mpr fun r hr i => ?_, inn_refl _⟩
    by_cases e : r = q
    · exact e
    · have := less_of (h r hr) (h q hq) i e
      omega
  | succ n ih =>
    intro q hq hn
    cases e : isMin ls q with
    | true => exact ⟨q, hq, e, inn_refl _⟩
    | false =>
      have : ¬ ∀ r ∈ ls, inn (mem2 r) (mem2 q) = true → r = q := fun z => by rw [isMin_iff.mpr z] at e; cases e
      obtain ⟨r, hr⟩ := Classical.not_forall.mp this
      obtain ⟨hr, hr2⟩ := Classical.not_imp.mp hr
      obtain ⟨i, ne⟩ := Classical.not_imp.mp hr2
      have := less_of (h r hr) (h q hq) i ne
      obtain ⟨m, h1, h2, h3⟩ := ih r hr (by omega)
      exact ⟨m, h1, h2, inn_trans h3 i⟩
theorem exMin' {k : Nat} {ls : List PV} (h : ∀ p ∈ ls, lotD k p) {q : PV} (hq : q ∈ ls) : ∃ m ∈ ls, isMin ls m = true ∧ inn (mem2 m) (mem2 q) = true := exMin h _ q hq (Nat.le_refl _)
def kgo : List PV → List PV → List PV
  | kept, [] => kept
  | kept, e :: r => kgo (if kept.any (fun o => inn (mem2 o) (mem2 e)) then kept else kept ++ [e]) r
theorem kgo_min {k : Nat} {rest : List PV} (h : ∀ p ∈ rest, lotD k p) (nd : rest.Nodup) (pw : rest.Pairwise (fun a b => plen a ≤ plen b)) : ∀ (suf pre : List PV), rest = pre ++ suf → kgo (pre.filter (isMin rest)) suf = rest.filter (isMin rest)
  | [], pre, e => by rw [e]; simp [kgo]
  | x :: suf, pre, e => by
    have hx : x ∈ rest := by rw [e]; simp
    have nx : x ∉ pre := fun z => by
      rw [e] at nd
      exact (List.nodup_append.mp nd).2.2 x z x (List.mem_cons_self ..) rfl
    have key : (pre.filter (isMin rest)).any (fun o => inn (mem2 o) (mem2 x)) = !isMin rest x := by
      cases q : isMin rest x with
      | true =>
        rw [Bool.not_true, List.any_eq_false]
        intro o ho i
        have hp := (List.mem_filter.mp ho).1
        have := isMin_iff.mp q o (by rw [e]; simp [hp]) i
        exact nx (this ▸ hp)
      | false =>
        rw [Bool.not_false, List.any_eq_true]
        obtain ⟨m, m1, m2, m3⟩ := exMin' h hx
        have ne : m ≠ x := fun z => by rw [z, q] at m2; cases m2
        have lt := less_of (h m m1) (h x hx) m3 ne
        refine ⟨m, List.mem_filter.mpr ⟨?_, m2⟩, m3⟩
        have m1' := m1
        rw [e, List.mem_append] at m1'
        rcases m1' with z | z
        · exact z
        · rw [e] at pw
          have p2 := (List.pairwise_append.mp pw).2.1
          rcases List.mem_cons.mp z with z | z
          · exact absurd z ne
          · have := (List.pairwise_cons.mp p2).1 m z
            omega
    unfold kgo
    rw [key]
    have ih := kgo_min h nd pw suf (pre ++ [x]) (by rw [e]; simp)
    rw [List.filter_append] at ih
    cases q : isMin rest x with
    | true => simpa [q] using ih
    | false => simpa [q] using ih
theorem small_loop {k : Nat} (hk : k < 8) {A B : Option PV} : ∀ (suf kept : List PV) (b c : Option PV), (∀ p ∈ suf, lotD k p) → (∀ p ∈ kept, lotD k p) → kept.length + suf.length ≤ 1000000 →
    ∃ b' c', forP (.one 3) (tSeq (tIf (qNotT (qTru (qCall pyAny (qCons (qFrz (qLc (qSeq (qVar 2)) [4] (.one 4) qYes (qOwn p_lies_in (qCons (qVar 4) (qCons (qVar 3) qNil))))) qNil)))) (tSeq (tMeth 2 mApp (qCons (qVar 3) qNil)) tSkip) tSkip) tSkip) suf [A, B, some (.lst kept), b, c] = .next [A, B, some (.lst (kgo kept suf)), b', c']
  | [], kept, b, c, _, _, _ => ⟨b, c, rfl⟩
  | e :: suf, kept, b, c, hs, hkk, hl => by
    have big : (1000000 : Nat) ≤ sizeLine := by decide
    simp only [List.length_cons] at hl
    obtain ⟨t, rfl, at_, ht, lt⟩ := hs e (List.mem_cons_self ..)
    have lc : ∀ π : PFr, π[3]? = some (some (.tup t)) → π.length = 5 → lcP (.one 4) qYes (qOwn p_lies_in (qCons (qVar 4) (qCons (qVar 3) qNil))) π kept = .ok (kept.map fun o => .bl (inn (mem2 o) t)) := fun π h3 h5 => by
      refine lcP_all _ _ fun o ho => ⟨_, rfl, ?_⟩
      obtain ⟨s, rfl, _, hss, ls⟩ := hkk o ho
      have e4 : (π.set 4 (some (PV.tup s)))[4]? = some (some (.tup s)) := by simp [h5]
      have e3 : (π.set 4 (some (PV.tup s)))[3]? = some (some (.tup t)) := by simp [h3]
      simp only [qOwn, qCons, qVar, qNil, e4, e3, PR.ok_bind]
      exact lies_p hss ht hk (by omega) (by omega)
    have step : ∃ b' c', forP (.one 3) (tSeq (tIf (qNotT (qTru (qCall pyAny (qCons (qFrz (qLc (qSeq (qVar 2)) [4] (.one 4) qYes (qOwn p_lies_in (qCons (qVar 4) (qCons (qVar 3) qNil))))) qNil)))) (tSeq (tMeth 2 mApp (qCons (qVar 3) qNil)) tSkip) tSkip) tSkip) suf [A, B, some (.lst (if kept.any (fun o => inn (mem2 o) t) then kept else kept ++ [.tup t])), some (.tup t), c] = .next [A, B, some (.lst (kgo kept (.tup t :: suf))), b', c'] := by
      refine small_loop hk suf _ _ _ (fun p hp => hs p (List.mem_cons_of_mem _ hp)) (fun p hp => ?_) ?_
      · split at hp
        · exact hkk p hp
        · rcases List.mem_append.mp hp with q | q
          · exact hkk p q
          · rw [List.mem_singleton.mp q]; exact hs _ (List.mem_cons_self ..)
      · split
        · omega
        · simp only [List.length_append, List.length_singleton]; omega
    obtain ⟨b', c', st⟩ := step
    refine ⟨b', c', ?_⟩
    have pa := pyAny_map (fun o => inn (mem2 o) t) kept
    unfold forP
    simp
    rw [if_pos (by omega), lc _ (by simp) (by simp)]
    cases q : kept.any (fun o => inn (mem2 o) t) with
    | true =>
      rw [q] at pa st
      simp only [if_true] at st
      simp [pa]
      exact st
    | false =>
      rw [q] at pa st
      simp only [Bool.false_eq_true, if_false] at st
      simp [pa, mApp, show kept.length < sizeLine by omega]
      exact st
def small (lots : List PV) : List PV := pySort ((pySortK (ddk [] lots)).filter (isMin (pySortK (ddk [] lots))))
theorem mem_dk {x : PV} {xs : List PV} : x ∈ ddk [] xs ↔ x ∈ xs := by rw [mem_ddk]; simp
theorem isMin_ext {a b : List PV} (h : ∀ x, x ∈ a ↔ x ∈ b) (p : PV) : isMin a p = isMin b p := by
  have : isMin a p = true ↔ isMin b p = true := by
    rw [isMin_iff, isMin_iff]
    exact ⟨fun z q hq => z q ((h q).mpr hq), fun z q hq => z q ((h q).mp hq)⟩
  exact Bool.eq_iff_iff.mpr this
theorem mem_small {lots : List PV} {m : PV} : m ∈ small lots ↔ m ∈ lots ∧ isMin lots m = true := by
  unfold small
  rw [mem_pySort, List.mem_filter, mem_pySortK, mem_dk, isMin_ext (b := lots) fun x => by rw [mem_pySortK, mem_dk]]
theorem asc_small {k : Nat} {lots : List PV} (h : ∀ p ∈ lots, lotD k p) : asc (small lots) = true :=
  asc_pySort (fun x hx => (h x (mem_dk.mp (mem_pySortK.mp (List.mem_filter.mp hx).1))).sh) (((pySortK_perm _).nodup_iff.mpr (nodup_ddk (by simp))).filter _)
theorem smallin_p {k : Nat} (hk : k < 7) {xs : List PV} {lots : List PV} (h : ∀ p ∈ lots, lotD k p) (hl : lots.length ≤ 1000000) (hx : xs = lots) : p_smallest_in [.tup lots] = .ok (.tup (small lots)) := by
  have big : (1000000 : Nat) ≤ sizeLine := by decide
  have hs : ∀ p ∈ lots, sh (k + 1 + 1) p = true := fun p hp => (h p hp).sh
  obtain ⟨vs', e, _⟩ := dcP_keys (tgt := .one 4) (qt := qYes) (qk := qVar 4) (qe := qK (.bl true)) (π := [some (.tup lots), none, none, none, none]) (fun _ => true) (fun _ => .bl true) lots [] [] rfl (by simp; omega)
    (fun x hx => ⟨_, rfl, rfl, fun _ => ⟨rfl, rfl⟩⟩) (fun l hl => sh_mono_keys hs (by omega) hl)
  rw [List.filter_eq_self.mpr fun _ _ => rfl] at e
  have dl : (ddk [] lots).length ≤ 1000000 := by have := len_ddk (xs := lots) (ks := []); simp at this; omega
  have sk : pySortedK [.lst (ddk [] lots)] = some (pySortK (ddk [] lots)) := sh_sortK (fun x hx => hs x (mem_dk.mp hx)) (by omega) (by omega)
  have hr : ∀ p ∈ pySortK (ddk [] lots), lotD k p := fun p hp => h p (mem_dk.mp (mem_pySortK.mp hp))
  have rl : (pySortK (ddk [] lots)).length ≤ 1000000 := by rw [(pySortK_perm _).length_eq]; exact dl
  have km := kgo_min hr ((pySortK_perm _).nodup_iff.mpr (nodup_ddk (by simp))) (pySortK_len fun x hx => (hr x (mem_pySortK.mpr hx)).sh) _ [] rfl
  obtain ⟨b', c', lp⟩ := small_loop (k := k) (by omega) (A := some (.tup lots)) (B := some (.lst (pySortK (ddk [] lots)))) (pySortK (ddk [] lots)) [] none none hr (by simp) (by simpa using rl)
  have ss : pySorted [.lst (kgo [] (pySortK (ddk [] lots)))] = some (small lots) := by
    have km' : kgo [] (pySortK (ddk [] lots)) = _ := km
    rw [km']
    refine sh_sort (k := k + 1 + 1) (fun x hx => (hr x (List.mem_filter.mp hx).1).sh) (by omega) ?_
    have := List.length_filter_le (isMin (pySortK (ddk [] lots))) (pySortK (ddk [] lots))
    omega
  simp only [p_smallest_in, fnP, w_smallest_in]
  simp
  rw [e]
  simp [list_dct (ks := ddk [] lots) (vs := vs') (by omega), sk]
  rw [lp]
  simp [ss]
/-- a set of names -/
def setN (p : PV) : Prop := ∃ t, p = .tup t ∧ asc t = true ∧ (∀ x ∈ t, nmd x) ∧ t.length ≤ 1000000
theorem setN.sh {p : PV} (h : setN p) : sh 1 p = true := by
  obtain ⟨t, rfl, _, h, _⟩ := h
  exact sh_of fun x hx => (h x hx).1
theorem setN_p {p : PV} (h : setN p) : p_is_set [p] = .ok (.bl true) := by
  have big : (1000000 : Nat) ≤ sizeLine := by decide
  obtain ⟨t, rfl, a, h, l⟩ := h
  rw [set_p h (by omega), a]
theorem lotsval_p {xs : List PV} (h : ∀ x ∈ xs, setN x) (hl : xs.length ≤ sizeLine) : p_is_lots_value [.tup xs] = .ok (.bl true) := by
  simp only [p_is_lots_value, fnP, w_is_lots_value]
  simp
  rw [if_pos hl, lcP_all (fun _ => .bl true) _ fun x hx => ⟨_, rfl, by simp [setN_p (h x hx)]⟩]
  simp [pyAll_map]
/-- a lot of sets of names -/
def lotN (p : PV) : Prop := ∃ t, p = .tup t ∧ asc t = true ∧ (∀ m ∈ t, setN m) ∧ t.length ≤ 1000000
theorem lotN.d {p : PV} (h : lotN p) : lotD 0 p := by
  obtain ⟨t, rfl, a, h, l⟩ := h
  exact ⟨t, rfl, a, fun m hm => (h m hm).sh, l⟩
theorem smallest_p {lots : List PV} (h : ∀ p ∈ lots, lotN p) (hl : lots.length ≤ 1000000) : p_smallest [.tup lots] = .ok (.tup (small lots)) := by
  have big : (1000000 : Nat) ≤ sizeLine := by decide
  simp only [p_smallest, fnP, w_smallest]
  simp
  rw [if_pos (by omega), lcP_all (fun _ => .bl true) _ fun x hx => ⟨_, rfl, ?_⟩]
  · simp [pyAll_map, smallin_p (by decide) (fun p hp => (h p hp).d) hl rfl]
  · obtain ⟨t, rfl, a, hm, l⟩ := h x hx
    simp [lotsval_p hm (by omega), asc_p (fun m hm' => (hm m hm').sh) (by decide) (show t.length ≤ sizeLine by omega), a]
/-- a lot at a set -/
def lotA (top : List PV) (p : PV) : Prop := lotN p ∧ (PV.tup top ∈ mem2 p) ∧ ∀ m ∈ mem2 p, inn (mem2 m) top = true
theorem lotat_p {top : List PV} {p : PV} (ht : ∀ x ∈ top, sh 0 x = true) (h : lotA top p) : p_is_lot_at [p, .tup top] = .ok (.bl true) := by
  have big : (1000000 : Nat) ≤ sizeLine := by decide
  obtain ⟨⟨t, rfl, a, hm, l⟩, h2, h3⟩ := h
  have h2 : PV.tup top ∈ t := h2
  have sht : sh 1 (.tup top) = true := sh_of ht
  simp only [p_is_lot_at, fnP, w_is_lot_at]
  simp [lotsval_p hm (by omega), asc_p (fun m hm' => (hm m hm').sh) (by decide) (show t.length ≤ sizeLine by omega), a, bl, sh_inT sht (fun m hm' => (hm m hm').sh) (by decide), h2]
  rw [if_pos (by omega), lcP_all (fun _ => .bl true) _ fun x hx => ⟨_, rfl, ?_⟩]
  · simp [pyAll_map]
  · obtain ⟨s, rfl, _, hs, ls⟩ := hm x hx
    have i : inn s top = true := h3 _ hx
    have i' : (s.all fun x => decide (x ∈ top)) = true := i
    simp [wit_p (fun x hx => (hs x hx).1) ht (by decide) (show s.length ≤ sizeLine by omega)]
    exact inn_iff.mp i
/-- whether a lot has only the top in common with some sets -/
def seenBy (top : PV) (sets lot : List PV) : Bool := lot.all fun m => !decide (m ∈ sets) || decide (m = top)
theorem shows_p {k : Nat} (hk : k < 8) {lots top sets : List PV} (hl : ∀ p ∈ lots, ∃ t, p = .tup t ∧ (∀ m ∈ t, sh (k + 1) m = true) ∧ t.length ≤ sizeLine) (ht : sh (k + 1) (.tup top) = true) (hs : ∀ m ∈ sets, sh (k + 1) m = true) (l1 : lots.length ≤ sizeLine) (l2 : sets.length ≤ sizeLine) :
    p_shows [.tup lots, .tup top, .tup sets] = .ok (.bl (lots.any fun p => seenBy (.tup top) sets (mem2 p))) := by
  obtain ⟨vs', e, _⟩ := dcP_keys (tgt := .one 4) (qt := qCmp pyNe (qVar 4) (qVar 1)) (qk := qVar 4) (qe := qK (.bl true)) (π := [some (.tup lots), some (.tup top), some (.tup sets), none, none, none]) (fun x => decide (x ≠ .tup top)) (fun _ => .bl true) sets [] [] rfl (by simpa using l2)
    (fun x hx => ⟨_, rfl, by simp [sh_ne (hs x hx) ht (by omega)], fun _ => ⟨rfl, rfl⟩⟩) (fun l hl => sh_mono_keys hs hk hl)
  have mk : ∀ x, x ∈ ddk [] (sets.filter fun x => decide (x ≠ .tup top)) ↔ x ∈ sets ∧ x ≠ .tup top := fun x => by rw [mem_dk, List.mem_filter]; simp
  simp only [p_shows, fnP, w_shows]
  simp at e ⊢
  rw [e]
  simp
  rw [if_pos l1, lcP_all (fun p => .bl (seenBy (.tup top) sets (mem2 p))) _ fun p hp => ⟨_, rfl, ?_⟩]
  · simp [pyAny_map]
  · obtain ⟨t, rfl, hm, lt⟩ := hl p hp
    have mk' := mk
    simp at mk'
    simp
    rw [if_pos lt, lcP_all (fun m => .bl (decide (m ∈ sets ∧ m ≠ .tup top))) _ fun m hm' => ⟨_, rfl, ?_⟩]
    · have pa := pyAny_map (fun m => decide (m ∈ sets ∧ m ≠ .tup top)) t
      have e2 : (!t.any fun m => decide (m ∈ sets ∧ m ≠ .tup top)) = seenBy (.tup top) sets (mem2 (.tup t)) := by
        show _ = seenBy (.tup top) sets t
        unfold seenBy
        rw [Bool.eq_iff_iff]
        simp
        constructor
        · intro h x hx
          by_cases q : x ∈ sets
          · exact .inr (by have := h x hx q; simpa using this)
          · exact .inl q
        · intro h x hx q
          rcases h x hx with z | z
          · exact absurd q z
          · exact z
      simp at pa
      simp [pa]
      simpa using e2
    · simp [bl]
      rw [sh_inD (hm m hm') (fun y hy => hs y ((mk' y).mp (by simpa using hy)).1) hk]
      simp [mk']
theorem lotA.shs {top : List PV} {p : PV} (h : lotA top p) : ∃ t, p = .tup t ∧ (∀ m ∈ t, sh (0 + 1) m = true) ∧ t.length ≤ sizeLine := by
  have big : (1000000 : Nat) ≤ sizeLine := by decide
  obtain ⟨⟨t, rfl, a, hm, l⟩, _⟩ := h
  exact ⟨t, rfl, fun m hm' => (hm m hm').sh, by omega⟩
theorem seenin_p {top lots sets : List PV} (ht : ∀ x ∈ top, nmd x) (at_ : asc top = true) (l7 : top.length ≤ 7) (hl : ∀ p ∈ lots, lotA top p) (ll : lots.length ≤ 1000000) (hs : lotA top (.tup sets)) :
    p_is_seen_in [.tup top, .tup lots, .tup sets] = .ok (.bl (lots.any fun p => seenBy (.tup top) sets (mem2 p))) := by
  have big : (1000000 : Nat) ≤ sizeLine := by decide
  have ht0 := fun x hx => (ht x hx).1
  obtain ⟨t, e, hm, lt⟩ := hs.shs
  cases e
  have sp := shows_p (k := 0) (by decide) (fun p hp => (hl p hp).shs) (sh_of ht0) hm (show lots.length ≤ sizeLine by omega) lt
  simp only [p_is_seen_in, fnP, w_is_seen_in]
  simp [req_p ht (by omega) at_, c_MAX_NAMES, show ¬ (7 : Int) < top.length by omega]
  rw [if_pos (by omega), lcP_all (fun _ => .bl true) _ fun x hx => ⟨_, rfl, by simp [lotat_p ht0 (hl x hx)]⟩]
  simp [pyAll_map, lotat_p ht0 hs, sp]
theorem lawsmall_p {k : Nat} (hk : k < 7) {lots : List PV} (h : ∀ p ∈ lots, lotD k p) (hl : lots.length < 64) : p__law_smallest [.lst lots] = .ok (.lst ((pySort (uniq lots)).filter (isMin (pySort (uniq lots))))) := by
  have big : (1000000 : Nat) ≤ sizeLine := by decide
  have hs : ∀ p ∈ pySort (uniq lots), lotD k p := fun p hp => h p (mem_uniq.mp (mem_pySort.mp hp))
  have un : ∀ xs : List PV, (uniq xs).length ≤ xs.length := fun xs => by
    induction xs with
    | nil => simp [uniq]
    | cons x xs ih => unfold uniq; split <;> simp <;> omega
  have ls : (pySort (uniq lots)).length ≤ sizeLine := by rw [len_pySort]; have := un lots; omega
  simp only [p__law_smallest, fnP, w__law_smallest]
  simp [sh_sortSet (k := k + 1) (fun p hp => (h p hp).sh) (by omega) hl]
  rw [if_pos ls, lcP_map (isMin (pySort (uniq lots))) id _ fun p hp => ⟨_, rfl, ?_, fun _ => rfl⟩]
  · simp
  · obtain ⟨t, rfl, a, hm, lt⟩ := hs p hp
    simp
    rw [if_pos ls, lcP_map (fun q => decide (q ≠ .tup t) && inn (mem2 q) t) (fun _ => .int 1) _ fun q hq => ⟨_, rfl, ?_, fun _ => rfl⟩]
    · have e := eq_ones ((pySort (uniq lots)).filter fun q => decide (q ≠ .tup t) && inn (mem2 q) t)
      have e2 : ((pySort (uniq lots)).filter fun q => decide (q ≠ .tup t) && inn (mem2 q) t).isEmpty = isMin (pySort (uniq lots)) (.tup t) := by
        rw [Bool.eq_iff_iff, isMin_iff, List.isEmpty_iff, List.filter_eq_nil_iff]
        simp
        exact ⟨fun h q hq i => by
          by_cases e : q = .tup t
          · exact e
          · exact absurd (show inn (mem2 q) t = true from i) (by rw [h q hq e]; simp), fun h q hq ne => by
          cases i : inn (mem2 q) t with
          | false => rfl
          | true => exact absurd (h q hq i) ne⟩
      rw [e2] at e
      simp at e
      simp [e]
    · have hq' := hs q hq
      obtain ⟨s, rfl, as, hms, ls'⟩ := hq'
      by_cases e : PV.tup s = .tup t
      · have ne := sh_ne (hs _ hq).sh (hs _ hp).sh (show k + 2 ≤ 64 by omega)
        simp [e] at ne
        simp [e, ne]
      · have lp := lawlies_p (k := k + 1) hms hm (by omega) (show s.length ≤ sizeLine by omega)
        simp at e
        simp [sh_ne (hs _ hq).sh (hs _ hp).sh (by omega), e, lp]
        rfl
theorem same_small {k : Nat} {lots : List PV} (h : ∀ p ∈ lots, lotD k p) : (pySort (uniq lots)).filter (isMin (pySort (uniq lots))) = small lots := by
  have mu : ∀ x, x ∈ pySort (uniq lots) ↔ x ∈ lots := fun x => by rw [mem_pySort, mem_uniq]
  refine asc_ext (asc_filter (asc_pySort (fun p hp => (h p (mem_uniq.mp hp)).sh) nodup_uniq)) (asc_small h) fun x => ?_
  rw [mem_small, List.mem_filter, mu, isMin_ext mu]
theorem one_of {lot some : List PV} {top : PV} (a : lot.Nodup) (h1 : top ∈ lot) (h2 : top ∈ some) : decide (lot.filter (fun m => decide (m ∈ some)) = [top]) = seenBy top some lot := by
  rw [Bool.eq_iff_iff, decide_eq_true_iff]
  unfold seenBy
  rw [List.all_eq_true]
  constructor
  · intro e m hm
    by_cases q : m ∈ some
    · have : m ∈ lot.filter (fun m => decide (m ∈ some)) := List.mem_filter.mpr ⟨hm, by simpa using q⟩
      rw [e, List.mem_singleton] at this
      simp [this]
    · simp [q]
  · intro h
    have nd : (lot.filter (fun m => decide (m ∈ some))).Nodup := a.filter _
    have mem : ∀ x, x ∈ lot.filter (fun m => decide (m ∈ some)) ↔ x = top := fun x => by
      rw [List.mem_filter]
      constructor
      · rintro ⟨h3, h4⟩
        have := h x h3
        simp at h4
        simpa [h4] using this
      · rintro rfl
        exact ⟨h1, by simpa using h2⟩
    cases q : lot.filter (fun m => decide (m ∈ some)) with
    | nil => have := (mem top).mpr rfl; rw [q] at this; cases this
    | cons x xs =>
      rw [q] at mem nd
      have ex : x = top := (mem x).mp (List.mem_cons_self ..)
      cases xs with
      | nil => rw [ex]
      | cons y ys =>
        have ey : y = top := (mem y).mp (by simp)
        subst ex
        simp [ey] at nd
theorem lawseen_loop {top : List PV} {sets : List PV} (ht : sh 1 (.tup top) = true) (hs : ∀ m ∈ sets, sh 1 m = true) (hts : .tup top ∈ sets) {A : Option PV} : ∀ (lots : List PV) (c d : Option PV), (∀ p ∈ lots, lotA top p) →
    match lots.any fun p => seenBy (.tup top) sets (mem2 p) with
    | true => forP (.one 3) (tSeq (tIf (qCmp pyEq (qFrz (qLc (qSeq (qVar 3)) [4] (.one 4) (qCmp pyIn2 (qVar 4) (qVar 2)) (qVar 4))) (qFrz (qLst (qCons (qVar 1) qNil)))) (tSeq (tRet (qK (.bl true))) tSkip) tSkip) tSkip) lots [A, some (.tup top), some (.tup sets), c, d] = .ret (.bl true)
    | false => ∃ c' d', forP (.one 3) (tSeq (tIf (qCmp pyEq (qFrz (qLc (qSeq (qVar 3)) [4] (.one 4) (qCmp pyIn2 (qVar 4) (qVar 2)) (qVar 4))) (qFrz (qLst (qCons (qVar 1) qNil)))) (tSeq (tRet (qK (.bl true))) tSkip) tSkip) tSkip) lots [A, some (.tup top), some (.tup sets), c, d] = .next [A, some (.tup top), some (.tup sets), c', d']
  | [], c, d, _ => ⟨c, d, rfl⟩
  | p :: lots, c, d, h => by
    have hp := h p (List.mem_cons_self ..)
    obtain ⟨⟨t, rfl, a, hm, l⟩, h2, h3⟩ := hp
    obtain ⟨t', e, hm', lt⟩ := (h _ (List.mem_cons_self ..)).shs
    cases e
    have ih := lawseen_loop ht hs hts (A := A) lots (some (.tup t)) d fun q hq => h q (List.mem_cons_of_mem _ hq)
    have lc : ∀ π : PFr, π[2]? = some (some (.tup sets)) → π.length = 5 → lcP (.one 4) (qCmp pyIn2 (qVar 4) (qVar 2)) (qVar 4) π t = .ok (t.filter fun m => decide (m ∈ sets)) := fun π h2 h5 => by
      rw [lcP_map (fun m => decide (m ∈ sets)) id _ fun m hm => ⟨_, rfl, ?_, fun _ => ?_⟩]
      · simp
      · have e4 : (π.set 4 (some m))[4]? = some (some m) := by simp [h5]
        have e2 : (π.set 4 (some m))[2]? = some (some (.tup sets)) := by simp [h2]
        simp only [qCmp, qVar, e4, e2, PR.ok_bind]
        rw [sh_inT (hm' m hm) hs (by decide)]
        rfl
      · have e4 : (π.set 4 (some m))[4]? = some (some m) := by simp [h5]
        simp only [qVar, e4]
        rfl
    have eq := sh_eqL (k := 1) (xs := t.filter fun m => decide (m ∈ sets)) (ys := [.tup top]) (fun m hm => hm' m (List.mem_filter.mp hm).1) (by simpa using ht) (by decide)
    rw [one_of (asc_nodup a) h2 hts] at eq
    rw [List.any_cons]
    unfold forP
    cases q : seenBy (.tup top) sets (mem2 (.tup t)) with
    | true =>
      have q' : seenBy (.tup top) sets t = true := q
      rw [q'] at eq
      simp
      rw [if_pos lt, lc _ (by simp) (by simp)]
      simp [eq]
    | false =>
      have q' : seenBy (.tup top) sets t = false := q
      rw [q'] at eq
      rw [Bool.false_or]
      simp only [bindP, List.set_cons_succ, List.set_cons_zero]
      have body : (tSeq (tIf (qCmp pyEq (qFrz (qLc (qSeq (qVar 3)) [4] (.one 4) (qCmp pyIn2 (qVar 4) (qVar 2)) (qVar 4))) (qFrz (qLst (qCons (qVar 1) qNil)))) (tSeq (tRet (qK (.bl true))) tSkip) tSkip) tSkip) [A, some (.tup top), some (.tup sets), some (.tup t), d] = .next [A, some (.tup top), some (.tup sets), some (.tup t), d] := by
        simp
        rw [if_pos lt, lc _ (by simp) (by simp)]
        simp [eq]
      rw [body]
      exact ih
theorem lawseen_p {top lots sets : List PV} (ht : sh 1 (.tup top) = true) (hs : ∀ m ∈ sets, sh 1 m = true) (hts : .tup top ∈ sets) (hl : ∀ p ∈ lots, lotA top p) : p__law_is_seen [.lst lots, .tup top, .tup sets] = .ok (.bl (lots.any fun p => seenBy (.tup top) sets (mem2 p))) := by
  have lp := lawseen_loop ht hs hts (A := some (.lst lots)) lots none none hl
  simp only [p__law_is_seen, fnP, w__law_is_seen]
  cases q : lots.any fun p => seenBy (.tup top) sets (mem2 p) with
  | true =>
    rw [q] at lp
    simp
    rw [lp]
  | false =>
    rw [q] at lp
    obtain ⟨c', d', lp⟩ := lp
    simp
    rw [lp]
/-- what is seen by all lots is seen by the smallest ones -/
theorem seen_small {top sets lots : List PV} (h : ∀ p ∈ lots, lotA top p) : ((small lots).any fun p => seenBy (.tup top) sets (mem2 p)) = lots.any fun p => seenBy (.tup top) sets (mem2 p) := by
  rw [Bool.eq_iff_iff, List.any_eq_true, List.any_eq_true]
  constructor
  · rintro ⟨p, hp, s⟩
    exact ⟨p, (mem_small.mp hp).1, s⟩
  · rintro ⟨p, hp, s⟩
    obtain ⟨m, m1, m2, m3⟩ := exMin' (fun q hq => (h q hq).1.d) hp
    refine ⟨m, mem_small.mpr ⟨m1, m2⟩, ?_⟩
    unfold seenBy at s ⊢
    rw [List.all_eq_true] at s ⊢
    exact fun x hx => s x (inn_iff.mp m3 x hx)
/-! ### drawn lots -/
theorem lot_go {k : Nat} (hk : k ≤ 64) {S top : PV} (ht : sh k top = true) : ∀ (xs : List PV) (m : Nat) (Q : PR (List PV) → Nat → Prop) (c : Option PV), (∀ x ∈ xs, sh k x = true) → m + xs.length < 2 ^ 60 →
    (∀ l m', l.Sublist xs → (top ∈ xs → top ∈ l) → m' ≤ m + xs.length → Q (.ok l) m') →
    lcN (.one 3) (nOrT (nQ (qCmp pyEq (qVar 3) (qVar 2))) (nCmp pyEq (nOwn n__law_roll (nQ (qCons (qK (.int 3)) qNil))) (nQ (qK (.int 0))))) (nQ (qVar 3)) [none, some S, some top, c] xs m Q
  | [], m, Q, c, _, _, hQ => hQ [] m (List.Sublist.slnil) (fun h => h) (by simp)
  | x :: xs, m, Q, c, hs, hm, hQ => by
    simp only [List.length_cons] at hm hQ
    unfold lcN
    by_cases e : x = top
    · subst e
      simp [sh_eq ht ht hk]
      refine lot_go hk ht xs m _ c (fun y hy => hs y (List.mem_cons_of_mem _ hy)) (by omega) fun l m' h2 h3 h4 => ?_
      exact hQ (x :: l) m' (h2.cons_cons x) (fun _ => List.mem_cons_self ..) (by omega)
    · simp [sh_eq (hs x (List.mem_cons_self ..)) ht hk, e, nRoll]
      refine ⟨by omega, fun k k0 k1 => ?_⟩
      by_cases z : k = 0
      · simp [z]
        refine lot_go hk ht xs (m + 1) _ c (fun y hy => hs y (List.mem_cons_of_mem _ hy)) (by omega) fun l m' h2 h3 h4 => ?_
        exact hQ (x :: l) m' (h2.cons_cons x) (fun h => by
          rcases List.mem_cons.mp h with h | h
          · exact absurd h.symm e
          · exact List.mem_cons_of_mem _ (h3 h)) (by omega)
      · simp [z]
        exact lot_go hk ht xs (m + 1) Q c (fun y hy => hs y (List.mem_cons_of_mem _ hy)) (by omega) fun l m' h2 h3 h4 => hQ l m' (h2.cons x) (fun h => by
          rcases List.mem_cons.mp h with h | h
          · exact absurd h.symm e
          · exact h3 h) (by omega)
theorem lot_n {k : Nat} (hk : k < 64) {sets : List PV} {top : PV} (hs : ∀ x ∈ sets, sh k x = true) (ha : asc sets = true) (ht : sh k top = true) (hm : top ∈ sets) (hl : sets.length ≤ 1000000) {m : Nat} {Q : PR PV → Nat → Prop} (hb : m + sets.length < 2 ^ 60)
    (hQ : ∀ l m', l.Sublist sets → top ∈ l → m' ≤ m + sets.length → Q (.ok (.tup l)) m') : n__law_lot [.tup sets, top] m Q := by
  have big : (1000000 : Nat) ≤ sizeLine := by decide
  simp [n__law_lot, v__law_lot]
  rw [if_pos (by omega)]
  refine lot_go (by omega) ht sets m _ none hs hb fun l m' h1 h2 h3 => ?_
  have ss := sh_sort (k := k) (xs := l) (fun x hx => hs x (h1.subset hx)) (by omega) (by have := h1.length_le; omega)
  rw [pySort_asc (fun x hx => hs x (h1.subset hx)) (asc_sub ha h1)] at ss
  simp [ss]
  exact hQ l m' h1 (h2 hm) h3
theorem cut_to (xs : List PV) {k : Int} (h0 : 0 ≤ k) : cutL xs none (some k) = xs.take k.toNat := by
  unfold cutL
  have h1 : HT.sIx xs.length 0 none = 0 := by simp [HT.sIx]
  have h2 : HT.sIx xs.length xs.length (some k) = min k.toNat xs.length := by
    simp [HT.sIx]
    omega
  rw [h1, h2]
  simp
def four : List PV := [.str "a", .str "b", .str "ab", .str "zz"]
theorem nmd_of {x : PV} (h0 : sh 0 x = true) (h : (match p_is_name [x] with
  | .ok (.bl true) => true
  | _ => false) = true) : nmd x := by
  refine ⟨h0, ?_⟩
  cases e : p_is_name [x] with
  | ok v =>
    rw [e] at h
    cases v <;> try (cases h; done)
    rename_i b
    cases b
    · cases h
    · rfl
  | exc e' => rw [e] at h; cases h
  | stuck => rw [e] at h; cases h
theorem seven_ok : (["a", "b", "ab", "zz", "c", "d", "e", "f", "g"] : List Str).all (fun z => sh 0 (.str z) && (match p_is_name [.str z] with
  | .ok (.bl true) => true
  | _ => false)) = true := by kernel_rfl
theorem nmd_u {z : Str} (h : z ∈ (["a", "b", "ab", "zz", "c", "d", "e", "f", "g"] : List Str)) : nmd (.str z) := by
  have := List.all_eq_true.mp seven_ok z h
  rw [Bool.and_eq_true] at this
  exact nmd_of this.1 this.2
theorem nmd4 : ∀ x ∈ four, nmd x := fun x hx => by
  obtain ⟨z, hz, rfl⟩ : ∃ z ∈ (["a", "b", "ab", "zz"] : List Str), PV.str z = x := List.mem_map.mp hx
  exact nmd_u (by
    rcases List.mem_cons.mp hz with rfl | hz
    · simp
    · rcases List.mem_cons.mp hz with rfl | hz
      · simp
      · rcases List.mem_cons.mp hz with rfl | hz
        · simp
        · rw [List.mem_singleton.mp hz]; simp)
theorem four_nd : four.Nodup := by decide
/-- the drawn top -/
structure Top (top : List PV) : Prop where
  nm : ∀ x ∈ top, nmd x
  asc : asc top = true
  len : top.length ≤ 4
theorem top_of {out : List PV} (po : out.Perm four) (k : Nat) : Top (pySort (out.take k)) := by
  have nm : ∀ x ∈ out.take k, nmd x := fun x hx => nmd4 x (po.mem_iff.mp (List.mem_of_mem_take hx))
  refine ⟨fun x hx => nm x (mem_pySort.mp hx), asc_pySort (fun x hx => (nm x hx).1) ((po.nodup_iff.mpr four_nd).sublist (List.take_sublist ..)), ?_⟩
  rw [len_pySort, List.length_take]
  have := po.length_eq
  have : four.length = 4 := rfl
  omega
section
variable {top : List PV}
theorem Top.sh0 (h : Top top) : ∀ x ∈ top, sh 0 x = true := fun x hx => (h.nm x hx).1
theorem Top.sub {t : List PV} (h : Top top) (s : t.Sublist top) : setN (.tup t) := ⟨t, rfl, asc_sub h.asc s, fun x hx => h.nm x (s.subset hx), by have := s.length_le; have := h.len; omega⟩
theorem Top.subs_len (h : Top top) : (subs top).length ≤ 16 := by
  unfold subs
  rw [len_pySort, len_sgo]
  have : 2 ^ top.length ≤ 2 ^ 4 := Nat.pow_le_pow_right (by decide) h.len
  simpa using this
end
/-- a drawn lot at the top -/
def Drawn (top : List PV) (p : PV) : Prop := ∃ l, p = .tup l ∧ l.Sublist (subs top) ∧ .tup top ∈ l
theorem Drawn.lotA {top : List PV} (T : Top top) {p : PV} (h : Drawn top p) : lotA top p := by
  obtain ⟨l, rfl, s, ht⟩ := h
  have mem : ∀ m ∈ l, ∃ t, m = .tup t ∧ t.Sublist top := fun m hm => mem_subs.mp (s.subset hm)
  refine ⟨⟨l, rfl, asc_sub (asc_subs T.sh0 (asc_nodup T.asc)) s, fun m hm => ?_, ?_⟩, ht, fun m hm => ?_⟩
  · obtain ⟨t, rfl, st⟩ := mem m hm
    exact T.sub st
  · have := s.length_le
    have := T.subs_len
    omega
  · obtain ⟨t, rfl, st⟩ := mem m hm
    exact inn_iff.mpr fun x hx => st.subset hx
theorem drawn_n {top : List PV} (T : Top top) {m : Nat} {Q : PR PV → Nat → Prop} (hb : m + 16 < 2 ^ 60) (hQ : ∀ p m', Drawn top p → m' ≤ m + 16 → Q (.ok p) m') : n__law_lot [.tup (subs top), .tup top] m Q := by
  have l16 := T.subs_len
  refine lot_n (k := 1) (by decide) (fun x hx => ?_) (asc_subs T.sh0 (asc_nodup T.asc)) (sh_of T.sh0) (mem_subs.mpr ⟨top, rfl, List.Sublist.refl _⟩) (by omega) (by omega) fun l m' h1 h2 h3 => hQ _ m' ⟨l, rfl, h1, h2⟩ (by omega)
  obtain ⟨t, rfl, st⟩ := mem_subs.mp hx
  exact sh_of fun y hy => T.sh0 y (st.subset hy)
theorem lots_go {top : List PV} (T : Top top) : ∀ (xs : List PV) (π : PFr) (m : Nat) (Q : PR (List PV) → Nat → Prop), π.length = 10 → π[2]? = some (some (.tup (subs top))) → π[1]? = some (some (.tup top)) → m + 16 * xs.length < 2 ^ 60 →
    (∀ l m', (∀ p ∈ l, Drawn top p) → l.length = xs.length → m' ≤ m + 16 * xs.length → Q (.ok l) m') → lcN (.one 5) (nQ qYes) (nOwn n__law_lot (nQ (qCons (qVar 2) (qCons (qVar 1) qNil)))) π xs m Q
  | [], π, m, Q, _, _, _, _, hQ => hQ [] m (by simp) rfl (by simp)
  | x :: xs, π, m, Q, h10, h2, h1, hm, hQ => by
    simp only [List.length_cons] at hm hQ
    unfold lcN
    have e2 : (π.set 5 (some x))[2]? = some (some (.tup (subs top))) := by simp [h2]
    have e1 : (π.set 5 (some x))[1]? = some (some (.tup top)) := by simp [h1]
    simp [e2, e1, h1, h2]
    refine drawn_n T (by omega) fun p m1 hp h3 => ?_
    refine lots_go T xs π m1 _ h10 h2 h1 (by omega) fun l m' h4 h5 h6 => ?_
    exact hQ (p :: l) m' (fun q hq => by
      rcases List.mem_cons.mp hq with rfl | hq
      · exact hp
      · exact h4 q hq) (by simp [h5]) (by omega)
theorem show_two (d : Bool) : ∃ s, pyShow [.lst [.bl d, .bl d]] = some (.str s) ∧ pyNe (.str s) (.str s) = some false := by
  cases d
  · exact ⟨"[False, False]", by kernel_rfl, by kernel_rfl⟩
  · exact ⟨"[True, True]", by kernel_rfl, by kernel_rfl⟩
theorem right_loop {top lots : List PV} (T : Top top) (hA : ∀ p ∈ lots, lotA top p) (ll : lots.length ≤ 1000000) : ∀ (xs : List PV) (m : Nat) (a b c : Option PV) (rest : PFr) (Q : PS → Nat → Prop), m + 16 * xs.length < 2 ^ 60 →
    (∀ a b c m', m' ≤ m + 16 * xs.length → Q (.next ([none, some (.tup top), some (.tup (subs top)), some (.lst lots), some (.tup (small lots)), a, b, c] ++ rest)) m') →
    forN (.one 5) (uSeq (uSet 6 (nOwn n__law_lot (nQ (qCons (qVar 2) (qCons (qVar 1) qNil))))) (uSeq (uSet 7 (nQ (qOwn p__law_is_seen (qCons (qVar 3) (qCons (qVar 1) (qCons (qVar 6) qNil)))))) (uSeq (uIf (nQ (qCmp pyNe (qCall pyShow (qCons (qFrz (qLst (qCons (qOwn p_is_seen_in (qCons (qVar 1) (qCons (qCall Ev.pyTuple (qCons (qVar 3) qNil)) (qCons (qVar 6) qNil)))) (qCons (qOwn p_is_seen_in (qCons (qVar 1) (qCons (qVar 4) (qCons (qVar 6) qNil)))) qNil)))) qNil)) (qCall pyShow (qCons (qFrz (qLst (qCons (qVar 7) (qCons (qVar 7) qNil)))) qNil)))) (uSeq (uRet (nQ (qK (.bl false)))) uSkip) uSkip) uSkip))) xs ([none, some (.tup top), some (.tup (subs top)), some (.lst lots), some (.tup (small lots)), a, b, c] ++ rest) m Q
  | [], m, a, b, c, rest, Q, _, hQ => hQ a b c m (by simp)
  | x :: xs, m, a, b, c, rest, Q, hm, hQ => by
    simp only [List.length_cons] at hm hQ
    unfold forN
    simp only [bindP, List.cons_append, List.nil_append, List.set_cons_succ, List.set_cons_zero]
    refine uSeq_in fun Q1 k1 r1 => ?_
    simp
    refine drawn_n T (by omega) fun p m1 hp h3 => ?_
    simp
    refine k1 _ _ ?_
    have hpA := hp.lotA T
    obtain ⟨l, rfl, sl, tl⟩ := hp
    have d1 := lawseen_p (sh_of T.sh0) (fun y hy => by
      obtain ⟨t, e, hm, _⟩ := hpA.shs
      cases e
      exact hm y hy) tl hA
    obtain ⟨due, hdue⟩ : ∃ due, due = lots.any fun p => seenBy (.tup top) l (mem2 p) := ⟨_, rfl⟩
    rw [← hdue] at d1
    have t7 : top.length ≤ 7 := by have := T.len; omega
    have d2 := seenin_p T.nm T.asc t7 hA ll hpA
    rw [← hdue] at d2
    have hAs : ∀ p ∈ small lots, lotA top p := fun p hp => hA p (mem_small.mp hp).1
    have lsm : (small lots).length ≤ 1000000 := by
      have := nodup_len (asc_nodup (asc_small fun p hp => (hA p hp).1.d)) (fun p hp => (mem_small.mp hp).1)
      omega
    have d3 := seenin_p T.nm T.asc t7 hAs lsm hpA
    rw [seen_small hA, ← hdue] at d3
    obtain ⟨s, e1, e2⟩ := show_two due
    refine uSeq_in fun Q2 k2 r2 => ?_
    simp [d1]
    refine k2 _ _ ?_
    refine uSeq_in fun Q3 k3 r3 => ?_
    simp [d2, d3, e1, e2]
    refine k3 _ _ ?_
    simp
    exact right_loop T hA ll xs m1 _ _ _ rest Q (by omega) fun a b c m' h => hQ a b c m' (by omega)
theorem right_n {m : Nat} {Q : PR PV → Nat → Prop} (hb : m + 1000 < 2 ^ 60) (hQ : ∀ m', m' ≤ m + 1000 → Q (.ok (.bl true)) m') : n__law_right [] m Q := by
  have big : (1000000 : Nat) ≤ sizeLine := by decide
  unfold n__law_right nFn
  rw [if_pos (show ([] : List PV).length = 0 from rfl)]
  show v__law_right [none, none, none, none, none, none, none, none, none, none] m _
  unfold v__law_right
  -- the top
  refine uSeq_in fun Q1 k1 r1 => ?_
  simp [nMixed, nRoll, c_LETTERS]
  refine ⟨by omega, fun out po => ⟨by omega, fun k k0 k4 => ?_⟩⟩
  have po : out.Perm four := po
  have T := top_of po k.toNat
  have nm : ∀ x ∈ out.take k.toNat, sh 0 x = true := fun x hx => (nmd4 x (po.mem_iff.mp (List.mem_of_mem_take hx))).1
  have ss : pySorted [.lst (out.take k.toNat)] = some (pySort (out.take k.toNat)) := sh_sort nm (by decide) (by
    have := List.length_take_le k.toNat out
    have h4 := po.length_eq
    have : four.length = 4 := rfl
    rw [List.length_take]
    omega)
  generalize ht : pySort (out.take k.toNat) = top at T ss
  simp [pySlice, cut_to _ k0, ss]
  refine k1 _ _ ?_
  clear ht ss nm po
  -- its sets
  refine uSeq_in fun Q2 k2 r2 => ?_
  simp [subs_p T.nm T.asc (by have := T.len; omega)]
  refine k2 _ _ ?_
  -- the lots
  refine uSeq_in fun Q3 k3 r3 => ?_
  simp [nRoll]
  refine ⟨by omega, fun j j0 j5 => ?_⟩
  have ri : rangeItems [.int j] = some (intsUp 0 j.toNat) := by
    have b : bound62 j = true := by
      unfold bound62
      have e2 : (2 : Int) ^ 62 = 4611686018427387904 := by decide
      exact decide_eq_true (by omega)
    show (if bound62 j then some (intsUp 0 j.toNat) else none) = _
    rw [b]; rfl
  have li := intsUp_len j.toNat 0
  simp [ri]
  rw [if_pos (by rw [li]; omega)]
  refine lots_go T _ _ _ _ rfl rfl rfl (by rw [li]; omega) fun l1 m1 d1 e1 b1 => ?_
  rw [li] at e1 b1
  simp
  refine k3 _ _ ?_
  -- mixed with some of them twice
  refine uSeq_in fun Q4 k4 r4 => ?_
  simp [nMixed, nRoll, pySlice, Ev.pyAdd]
  refine ⟨by omega, fun t t0 t2 => ?_⟩
  rw [cut_to _ t0]
  have lt : (l1 ++ l1.take t.toNat).length ≤ 8 := by
    have := List.length_take_le t.toNat l1
    rw [List.length_append]; omega
  rw [if_pos (by rw [List.length_append] at lt; omega)]
  simp
  refine ⟨by omega, by omega, fun lots pl => ?_⟩
  have hD : ∀ p ∈ lots, Drawn top p := fun p hp => by
    rcases List.mem_append.mp (pl.mem_iff.mp hp) with q | q
    · exact d1 p q
    · exact d1 p (List.mem_of_mem_take q)
  have ll : lots.length ≤ 8 := by rw [pl.length_eq]; exact lt
  refine k4 _ _ ?_
  clear k1 k2 k3 r4
  obtain ⟨m4, hm4, b4⟩ : ∃ m4, m4 = m1 + 1 + (l1 ++ l1.take t.toNat).length ∧ m4 ≤ m + 100 := ⟨_, rfl, by omega⟩
  rw [← hm4]
  have hA : ∀ p ∈ lots, lotA top p := fun p hp => (hD p hp).lotA T
  have hd0 : ∀ p ∈ lots, lotD 0 p := fun p hp => (hA p hp).1.d
  have sh2 : ∀ p ∈ lots, sh 2 p = true := fun p hp => (hd0 p hp).sh
  -- the smallest ones
  refine uSeq_in fun Q5 k5 r5 => ?_
  simp [smallest_p (fun p hp => (hA p hp).1) (by omega)]
  refine k5 _ _ ?_
  have hs0 : ∀ p ∈ small lots, p ∈ lots := fun p hp => (mem_small.mp hp).1
  have lsm : (small lots).length ≤ 1000000 := by
    have := nodup_len (asc_nodup (asc_small hd0)) hs0
    omega
  have shs : ∀ p ∈ small lots, sh 2 p = true := fun p hp => sh2 p (hs0 p hp)
  -- they are what the law finds
  refine uSeq_in fun Q6 k6 r6 => ?_
  have ne1 := sh_ne (sh_of shs) (sh_of shs) (show 3 ≤ 64 by decide)
  have nl : (small lots).filter (fun x => decide (x ∉ lots)) = [] := by
    rw [List.filter_eq_nil_iff]
    intro x hx
    simp [hs0 x hx]
  have lc1 : ∀ π : PFr, π[3]? = some (some (.lst lots)) → π.length = 10 → lcP (.one 8) (qCmp pyNotIn2 (qVar 8) (qVar 3)) (qVar 8) π (small lots) = .ok [] := fun π h3 h10 => by
    rw [lcP_map (fun x => decide (x ∉ lots)) id _ fun x hx => ⟨_, rfl, ?_, fun _ => ?_⟩]
    · rw [nl]; rfl
    · have e8 : (π.set 8 (some x))[8]? = some (some x) := by simp [h10]
      have e3 : (π.set 8 (some x))[3]? = some (some (.lst lots)) := by simp [h3]
      simp only [qCmp, qVar, e8, e3, PR.ok_bind, sh_ninL (shs x hx) sh2 (show 2 < 64 by decide), oP_some]
    · have e8 : (π.set 8 (some x))[8]? = some (some x) := by simp [h10]
      simp only [qVar, e8]; rfl
  have nn : pyNe (.lst []) (.lst []) = some false := by rw [sh_neL (k := 0) (by simp) (by simp) (by decide)]; simp
  have lw := lawsmall_p (by decide : 0 < 7) hd0 (by omega)
  rw [same_small hd0] at lw
  simp at ne1
  simp [lw, ne1]
  rw [if_pos (by omega), lc1 _ (by simp) (by simp)]
  simp [nn]
  refine k6 _ _ ?_
  -- each has a smallest one within it
  refine uSeq_in fun Q7 k7 r7 => ?_
  have lc2 : ∀ π : PFr, π[3]? = some (some (.lst lots)) → π[4]? = some (some (.tup (small lots))) → π.length = 10 → lcP (.one 8) (qCmp pyEq (qFrz (qLc (qSeq (qVar 4)) [9] (.one 9) (qTru (qOwn p__law_lies (qCons (qVar 9) (qCons (qVar 8) qNil)))) (qVar 9))) (qFrz (qLst qNil))) (qVar 8) π lots = .ok [] := fun π h3 h4 h10 => by
    rw [lcP_map (fun _ => false) id _ fun x hx => ⟨_, rfl, ?_, fun h => by cases h⟩]
    · simp
    · have e4 : (π.set 8 (some x))[4]? = some (some (.tup (small lots))) := by simp [h4]
      obtain ⟨b, rfl, ab, hb', lb⟩ := hd0 x hx
      have inner : lcP (.one 9) (qTru (qOwn p__law_lies (qCons (qVar 9) (qCons (qVar 8) qNil)))) (qVar 9) (wipeP (π.set 8 (some (.tup b))) [9]) (small lots) = .ok ((small lots).filter fun o => inn (mem2 o) b) := by
        rw [lcP_map (fun o => inn (mem2 o) b) id _ fun o ho => ⟨_, rfl, ?_, fun _ => ?_⟩]
        · simp
        · obtain ⟨a, rfl, aa, ha', la⟩ := hd0 o (hs0 o ho)
          have e9 : ((wipeP (π.set 8 (some (.tup b))) [9]).set 9 (some (.tup a)))[9]? = some (some (.tup a)) := by simp [wipeP, h10]
          have e8 : ((wipeP (π.set 8 (some (.tup b))) [9]).set 9 (some (.tup a)))[8]? = some (some (.tup b)) := by simp [wipeP, h10]
          have lp := lawlies_p ha' hb' (by decide) (show a.length ≤ sizeLine by omega)
          simp only [qTru, qOwn, qCons, qVar, qNil, e9, e8, PR.ok_bind, lp, truth_bl, oP_some]
          rfl
        · have e9 : ((wipeP (π.set 8 (some (.tup b))) [9]).set 9 (some o))[9]? = some (some o) := by simp [wipeP, h10]
          simp only [qVar, e9]; rfl
      have ne : (small lots).filter (fun o => inn (mem2 o) b) ≠ [] := fun z => by
        obtain ⟨q, q1, q2, q3⟩ := exMin' hd0 hx
        have : q ∈ (small lots).filter (fun o => inn (mem2 o) b) := List.mem_filter.mpr ⟨mem_small.mpr ⟨q1, q2⟩, q3⟩
        rw [z] at this; cases this
      have eq := sh_eqL (k := 2) (xs := (small lots).filter fun o => inn (mem2 o) b) (ys := []) (fun o ho => shs o (List.mem_filter.mp ho).1) (by simp) (by decide)
      rw [decide_eq_false ne] at eq
      simp only [qCmp, qFrz, qLc, qSeq, qVar, e4, PR.ok_bind, walkItems, oP_some, qLst, qNil]
      rw [if_pos (by omega), inner]
      simp only [PR.ok_bind, eq, oP_some]
  simp
  rw [if_pos (by omega), lc2 _ (by simp) (by simp) (by simp)]
  simp [nn]
  refine k7 _ _ ?_
  clear lc1 lc2 k4 k5 k6 k7 r1 r2 r3 r5 r6 r7
  -- six drawn tuples of sets
  refine uSeq_in fun Q8 k8 r8 => ?_
  have r6' : rangeItems [.int 6] = some (intsUp 0 6) := by rfl
  simp [r6']
  have lp := right_loop T hA (by omega) (intsUp 0 6) m4 none none none [none, none] Q8 (by rw [intsUp_len]; omega) fun a b c m5 h5 => k8 _ _ ?_
  · exact lp
  rw [intsUp_len] at h5
  -- no lots; all sets
  have lt1 : lotA top (.tup [.tup top]) := (Drawn.lotA T ⟨_, rfl, by
    have : PV.tup top ∈ subs top := mem_subs.mpr ⟨top, rfl, List.Sublist.refl _⟩
    exact List.singleton_sublist.mpr this, by simp⟩)
  have lt2 : lotA top (.tup (subs top)) := (Drawn.lotA T ⟨_, rfl, List.Sublist.refl _, mem_subs.mpr ⟨top, rfl, List.Sublist.refl _⟩⟩)
  have t7 : top.length ≤ 7 := by have := T.len; omega
  have s1 := seenin_p T.nm T.asc t7 (lots := []) (by simp) (by simp) lt1
  have s2 := seenin_p T.nm T.asc t7 (lots := [.tup [.tup top]]) (by simpa using lt1) (by simp) lt2
  have s3 : ([PV.tup [.tup top]].any fun p => seenBy (.tup top) (subs top) (mem2 p)) = true := by simp [seenBy, mem2]
  rw [s3] at s2
  simp at s1
  simp [s1, s2, bl, pyIs]
  exact hQ m5 (by omega)
theorem right_fine : Fine r__law_right 1000 := fine_of an__law_right fun m Q hm hQ => right_n hm hQ
theorem inner_cell : Cell 2 N_law.length (sFor (iCall rangeItems (cCons (cK (.int 3)) cNil)) (.one 3) (sSeq (sAsk 2 r__law_right) sSkip)) [3] := cell_turns right_fine (by decide) (by decide) (by decide)
theorem subs_ab : p_subsets [.tup [.str "a", .str "b"]] = .ok (.tup [.tup [], .tup [.str "a"], .tup [.str "a", .str "b"], .tup [.str "b"]]) := by
  have nm : ∀ x ∈ [PV.str "a", .str "b"], nmd x := fun x hx => by
    rcases List.mem_cons.mp hx with rfl | hx
    · exact nmd_u (by simp)
    · rw [List.mem_singleton.mp hx]; exact nmd_u (by simp)
  have a : asc [PV.str "a", .str "b"] = true := by kernel_rfl
  rw [subs_p nm a (by decide)]
  congr 2
  refine asc_ext (asc_subs (fun x hx => (nm x hx).1) (asc_nodup a)) (by kernel_rfl) fun m => ?_
  unfold subs
  rw [mem_pySort]
  simp [sgo, snoc]
  constructor
  · rintro (h | h | h | h) <;> simp [h]
  · rintro (h | h | h | h) <;> simp [h]
theorem tail_ok : wt_law (List.replicate N_law.length none) = .ret (.bl true) := by
  have e1 : p_is_seen_in [.tup [.str "a", .str "b"], .tup [.tup [.tup [.str "a"], .tup [.str "a", .str "b"]], .tup [.tup [.str "a", .str "b"], .tup [.str "b"]]], .tup [.tup [.str "a"], .tup [.str "a", .str "b"]]] = .ok (.bl true) := by kernel_rfl
  have e2 : p_is_seen_in [.tup [.str "a", .str "b"], .tup [.tup [.tup [.str "a", .str "b"], .tup [.str "b"]], .tup [.tup [.str "a"], .tup [.str "a", .str "b"]]], .tup [.tup [], .tup [.str "a"], .tup [.str "a", .str "b"], .tup [.str "b"]]] = .ok (.bl false) := by kernel_rfl
  have e3 : p_is_seen_in [.tup [.str "a", .str "b"], .tup [.tup [.tup [.str "a"], .tup [.str "a", .str "b"]], .tup [.tup [.str "a", .str "b"], .tup [.str "b"]]], .tup [.tup [], .tup [.str "a", .str "b"]]] = .ok (.bl true) := by kernel_rfl
  have e4 : p_is_seen_in [.tup [.str "a", .str "b", .str "c", .str "d", .str "e", .str "f", .str "g"], .tup [.tup [.tup [.str "a", .str "b", .str "c", .str "d", .str "e", .str "f", .str "g"]]], .tup [.tup [.str "a", .str "b", .str "c", .str "d", .str "e", .str "f", .str "g"], .tup [.str "g"]]] = .ok (.bl true) := by kernel_rfl
  have e5 : p_is_seen_in [.tup [], .tup [.tup [.tup []]], .tup [.tup []]] = .ok (.bl true) := by kernel_rfl
  have e6 : pyEq (.lst [.bl true, .bl false, .bl true, .bl true]) (.lst [.bl true, .bl false, .bl true, .bl true]) = some true := by kernel_rfl
  have ln : N_law.length = 9 := rfl
  rw [ln]
  simp [wt_law, e1, e2, e3, e4, e5, e6, subs_ab, mApp, bl, pyIs, List.replicate, show (2 : Nat) < sizeLine by decide, show (3 : Nat) < sizeLine by decide]
end K24

end
section
set_option maxRecDepth 100000
set_option maxHeartbeats 0
namespace K24
open PySem PySem.Spec PyProof.Rows L2 Ev
def d_is_ascending : He.DefD := ⟨("is_ascending", none), "is_ascending", "is_ascending", defArgs (top 8), defBody (top 8), defScope (top 8), [], []⟩
def d_is_name : He.DefD := ⟨("is_name", none), "is_name", "is_name", defArgs (top 9), defBody (top 9), defScope (top 9), [], []⟩
def d_is_set : He.DefD := ⟨("is_set", none), "is_set", "is_set", defArgs (top 10), defBody (top 10), defScope (top 10), [], []⟩
def d_require_set : He.DefD := ⟨("require_set", none), "require_set", "require_set", defArgs (top 11), defBody (top 11), defScope (top 11), [], []⟩
def d_is_within : He.DefD := ⟨("is_within", none), "is_within", "is_within", defArgs (top 12), defBody (top 12), defScope (top 12), [], []⟩
def d_subsets : He.DefD := ⟨("subsets", none), "subsets", "subsets", defArgs (top 13), defBody (top 13), defScope (top 13), [], []⟩
def d_lies_in : He.DefD := ⟨("lies_in", none), "lies_in", "lies_in", defArgs (top 16), defBody (top 16), defScope (top 16), [], []⟩
def d_smallest_in : He.DefD := ⟨("smallest_in", none), "smallest_in", "smallest_in", defArgs (top 17), defBody (top 17), defScope (top 17), [], []⟩
def d_is_lots_value : He.DefD := ⟨("is_lots_value", none), "is_lots_value", "is_lots_value", defArgs (top 18), defBody (top 18), defScope (top 18), [], []⟩
def d_smallest : He.DefD := ⟨("smallest", none), "smallest", "smallest", defArgs (top 19), defBody (top 19), defScope (top 19), [], []⟩
def d_is_lot_at : He.DefD := ⟨("is_lot_at", none), "is_lot_at", "is_lot_at", defArgs (top 20), defBody (top 20), defScope (top 20), [], []⟩
def d_shows : He.DefD := ⟨("shows", none), "shows", "shows", defArgs (top 21), defBody (top 21), defScope (top 21), [], []⟩
def d_is_seen_in : He.DefD := ⟨("is_seen_in", none), "is_seen_in", "is_seen_in", defArgs (top 22), defBody (top 22), defScope (top 22), [], []⟩
def d__law_dice : He.DefD := ⟨("_law_dice", none), "_law_dice", "_law_dice", defArgs (top 24), defBody (top 24), defScope (top 24), [], []⟩
def d__law_roll : He.DefD := ⟨("_law_roll", none), "_law_roll", "_law_roll", defArgs (top 25), defBody (top 25), defScope (top 25), [], []⟩
def d__law_mixed : He.DefD := ⟨("_law_mixed", none), "_law_mixed", "_law_mixed", defArgs (top 26), defBody (top 26), defScope (top 26), [], []⟩
def d__law_lies : He.DefD := ⟨("_law_lies", none), "_law_lies", "_law_lies", defArgs (top 27), defBody (top 27), defScope (top 27), [], []⟩
def d__law_smallest : He.DefD := ⟨("_law_smallest", none), "_law_smallest", "_law_smallest", defArgs (top 28), defBody (top 28), defScope (top 28), [], []⟩
def d__law_lot : He.DefD := ⟨("_law_lot", none), "_law_lot", "_law_lot", defArgs (top 29), defBody (top 29), defScope (top 29), [], []⟩
def d__law_is_seen : He.DefD := ⟨("_law_is_seen", none), "_law_is_seen", "_law_is_seen", defArgs (top 30), defBody (top 30), defScope (top 30), [], []⟩
def d__law_right : He.DefD := ⟨("_law_right", none), "_law_right", "_law_right", defArgs (top 31), defBody (top 31), defScope (top 31), [], []⟩
def d_law : He.DefD := ⟨("law", none), "law", "law", defArgs (top 32), defBody (top 32), defScope (top 32), [], []⟩
def fnD : List He.DefD := [d_is_ascending, d_is_name, d_is_set, d_require_set, d_is_within, d_subsets, d_lies_in, d_smallest_in, d_is_lots_value, d_smallest, d_is_lot_at, d_shows, d_is_seen_in, d__law_dice, d__law_roll, d__law_mixed, d__law_lies, d__law_smallest, d__law_lot, d__law_is_seen, d__law_right, d_law]
def lams : List LamD := [(("smallest_in", none), ("smallest_in" : Str) ++ ".<locals>." ++ "<lambda>")]
def l_smallest_in : LamD := (("smallest_in", none), ("smallest_in" : Str) ++ ".<locals>." ++ "<lambda>")
theorem hl_smallest_in : l_smallest_in ∈ lams := by simp [lams, l_smallest_in]
abbrev Rw : PySem.W.OpenRow := PySem.W.OpenLaw.row PySem.Challenge.rw_rulefaces_k24_sets_seen_by_lots
abbrev hk : PySem.W.Hook := hookE 4 free consts fnD lams
def ob (s : PySem.W.SharedT) : He.AlX := obsEG 4 free consts fnD lams (HandSHeadRun.getT s)
theorem ob_eq (s : PySem.W.SharedT) : ob s = hk.obs s.abs := obsEG_eq (HandSHeadRun.getT_eq s)
def loose : List Str := ["RuleError", "InvalidOperation", "WORDS", "LETTERS", "MAX_NAME", "MAX_SUBSETS", "is_ascending", "is_name", "is_set", "require_set", "is_within", "subsets", "MAX_NAMES", "lies_in", "smallest_in", "is_lots_value", "smallest", "is_lot_at", "shows", "is_seen_in", "_law_dice", "_law_roll", "_law_mixed", "_law_lies", "_law_smallest", "_law_lot", "_law_is_seen", "_law_right"]
theorem run (w : World) : HandSHeadRun.RunEq Rw (PySem.W.view Rw.prog [32]) hk ob 4000 loose w := by
  intro os
  kernel_rfl
abbrev RR (K : PySem.W.Frag) (w : World) : RC := { K := K, w := w, cl := fun _ => none, T := tabT lams K }
section
variable {P : Program} {w : World} {K : PySem.W.Frag} {h base : Heap} {mg : Str → Option Value}
theorem surr (c : SaysE free consts fnD lams w h K) (X : K.In h) (G : h.Ns mainGlobals mg) : Surr (RR K w) P w mg base free consts := ⟨rfl, c.const rfl X G, c.free X G⟩
abbrev TBs (K : PySem.W.Frag) (base : Heap) (mg : Str → Option Value) : Prop := ∀ p ∈ lams.map fun l => He.cT K l.1, LamX.TabB base mg p.1 p.2
theorem fn_is_ascending (c : SaysE free consts fnD lams w h K) (X : K.In h) (G : h.Ns mainGlobals mg) (TB : TBs K base mg) : FnS (RR K w) P w mg base 1 "is_ascending" 1 r_is_ascending := by
  obtain ⟨⟨fd, F⟩, hm⟩ := c.def_ X G (d := d_is_ascending) (by simp [fnD])
  exact def_fn (at_ := ("is_ascending", none)) (Γ := Γ_is_ascending) (fuel := 40) (surr c X G) F s_is_ascending (fun e he => by cases he) e_is_ascending hm (fun h => nomatch h) fun _ _ _ _ _ _ us hl => match us, hl with | [_], _ => rfl
theorem fn_is_name (c : SaysE free consts fnD lams w h K) (X : K.In h) (G : h.Ns mainGlobals mg) (TB : TBs K base mg) : FnS (RR K w) P w mg base 1 "is_name" 1 r_is_name := by
  obtain ⟨⟨fd, F⟩, hm⟩ := c.def_ X G (d := d_is_name) (by simp [fnD])
  exact def_fn (at_ := ("is_name", none)) (Γ := Γ_is_name) (fuel := 40) (surr c X G) F s_is_name (fun e he => by cases he) e_is_name hm (fun h => nomatch h) fun _ _ _ _ _ _ us hl => match us, hl with | [_], _ => rfl
theorem fn_is_set (c : SaysE free consts fnD lams w h K) (X : K.In h) (G : h.Ns mainGlobals mg) (TB : TBs K base mg) : FnS (RR K w) P w mg base 2 "is_set" 1 r_is_set := by
  obtain ⟨⟨fd, F⟩, hm⟩ := c.def_ X G (d := d_is_set) (by simp [fnD])
  exact def_fn (at_ := ("is_set", none)) (Γ := Γ_is_set) (fuel := 40) (surr c X G) F s_is_set (List.forall_mem_cons.mpr ⟨(fn_is_ascending c X G TB).mono (by decide), List.forall_mem_cons.mpr ⟨(fn_is_name c X G TB).mono (by decide), fun e he => by cases he⟩⟩) e_is_set hm (fun h => nomatch h) fun _ _ _ _ _ _ us hl => match us, hl with | [_], _ => rfl
theorem fn_require_set (c : SaysE free consts fnD lams w h K) (X : K.In h) (G : h.Ns mainGlobals mg) (TB : TBs K base mg) : FnS (RR K w) P w mg base 3 "require_set" 1 r_require_set := by
  obtain ⟨⟨fd, F⟩, hm⟩ := c.def_ X G (d := d_require_set) (by simp [fnD])
  exact def_fn (at_ := ("require_set", none)) (Γ := Γ_require_set) (fuel := 40) (surr c X G) F s_require_set (List.forall_mem_cons.mpr ⟨(fn_is_set c X G TB).mono (by decide), fun e he => by cases he⟩) e_require_set hm (fun h => nomatch h) fun _ _ _ _ _ _ us hl => match us, hl with | [_], _ => rfl
theorem fn_is_within (c : SaysE free consts fnD lams w h K) (X : K.In h) (G : h.Ns mainGlobals mg) (TB : TBs K base mg) : FnS (RR K w) P w mg base 1 "is_within" 2 r_is_within := by
  obtain ⟨⟨fd, F⟩, hm⟩ := c.def_ X G (d := d_is_within) (by simp [fnD])
  exact def_fn (at_ := ("is_within", none)) (Γ := Γ_is_within) (fuel := 40) (surr c X G) F s_is_within (fun e he => by cases he) e_is_within hm (fun h => nomatch h) fun _ _ _ _ _ _ us hl => match us, hl with | [_, _], _ => rfl
theorem fn_subsets (c : SaysE free consts fnD lams w h K) (X : K.In h) (G : h.Ns mainGlobals mg) (TB : TBs K base mg) : FnS (RR K w) P w mg base 3 "subsets" 1 r_subsets := by
  obtain ⟨⟨fd, F⟩, hm⟩ := c.def_ X G (d := d_subsets) (by simp [fnD])
  exact def_fn (at_ := ("subsets", none)) (Γ := Γ_subsets) (fuel := 40) (surr c X G) F s_subsets (List.forall_mem_cons.mpr ⟨(fn_is_set c X G TB).mono (by decide), fun e he => by cases he⟩) e_subsets hm (fun h => nomatch h) fun _ _ _ _ _ _ us hl => match us, hl with | [_], _ => rfl
theorem fn_lies_in (c : SaysE free consts fnD lams w h K) (X : K.In h) (G : h.Ns mainGlobals mg) (TB : TBs K base mg) : FnS (RR K w) P w mg base 1 "lies_in" 2 r_lies_in := by
  obtain ⟨⟨fd, F⟩, hm⟩ := c.def_ X G (d := d_lies_in) (by simp [fnD])
  exact def_fn (at_ := ("lies_in", none)) (Γ := Γ_lies_in) (fuel := 40) (surr c X G) F s_lies_in (fun e he => by cases he) e_lies_in hm (fun h => nomatch h) fun _ _ _ _ _ _ us hl => match us, hl with | [_, _], _ => rfl
theorem fn_smallest_in (c : SaysE free consts fnD lams w h K) (X : K.In h) (G : h.Ns mainGlobals mg) (TB : TBs K base mg) : FnS (RR K w) P w mg base 2 "smallest_in" 1 r_smallest_in := by
  obtain ⟨⟨fd, F⟩, hm⟩ := c.def_ X G (d := d_smallest_in) (by simp [fnD])
  exact def_fn (at_ := ("smallest_in", none)) (Γ := Γ_smallest_in) (fuel := 40) (surr c X G) F s_smallest_in (List.forall_mem_cons.mpr ⟨(fn_lies_in c X G TB).mono (by decide), fun e he => by cases he⟩) e_smallest_in hm (fun _ => ⟨rfl, TB _ (List.mem_map.mpr ⟨l_smallest_in, hl_smallest_in, rfl⟩), (c.apart hl_smallest_in).1, (c.apart hl_smallest_in).2⟩) fun _ _ _ _ _ _ us hl => match us, hl with | [_], _ => rfl
theorem fn_is_lots_value (c : SaysE free consts fnD lams w h K) (X : K.In h) (G : h.Ns mainGlobals mg) (TB : TBs K base mg) : FnS (RR K w) P w mg base 3 "is_lots_value" 1 r_is_lots_value := by
  obtain ⟨⟨fd, F⟩, hm⟩ := c.def_ X G (d := d_is_lots_value) (by simp [fnD])
  exact def_fn (at_ := ("is_lots_value", none)) (Γ := Γ_is_lots_value) (fuel := 40) (surr c X G) F s_is_lots_value (List.forall_mem_cons.mpr ⟨(fn_is_set c X G TB).mono (by decide), fun e he => by cases he⟩) e_is_lots_value hm (fun h => nomatch h) fun _ _ _ _ _ _ us hl => match us, hl with | [_], _ => rfl
theorem fn_smallest (c : SaysE free consts fnD lams w h K) (X : K.In h) (G : h.Ns mainGlobals mg) (TB : TBs K base mg) : FnS (RR K w) P w mg base 4 "smallest" 1 r_smallest := by
  obtain ⟨⟨fd, F⟩, hm⟩ := c.def_ X G (d := d_smallest) (by simp [fnD])
  exact def_fn (at_ := ("smallest", none)) (Γ := Γ_smallest) (fuel := 40) (surr c X G) F s_smallest (List.forall_mem_cons.mpr ⟨(fn_smallest_in c X G TB).mono (by decide), List.forall_mem_cons.mpr ⟨(fn_is_ascending c X G TB).mono (by decide), List.forall_mem_cons.mpr ⟨(fn_is_lots_value c X G TB).mono (by decide), fun e he => by cases he⟩⟩⟩) e_smallest hm (fun h => nomatch h) fun _ _ _ _ _ _ us hl => match us, hl with | [_], _ => rfl
theorem fn_is_lot_at (c : SaysE free consts fnD lams w h K) (X : K.In h) (G : h.Ns mainGlobals mg) (TB : TBs K base mg) : FnS (RR K w) P w mg base 4 "is_lot_at" 2 r_is_lot_at := by
  obtain ⟨⟨fd, F⟩, hm⟩ := c.def_ X G (d := d_is_lot_at) (by simp [fnD])
  exact def_fn (at_ := ("is_lot_at", none)) (Γ := Γ_is_lot_at) (fuel := 40) (surr c X G) F s_is_lot_at (List.forall_mem_cons.mpr ⟨(fn_is_within c X G TB).mono (by decide), List.forall_mem_cons.mpr ⟨(fn_is_ascending c X G TB).mono (by decide), List.forall_mem_cons.mpr ⟨(fn_is_lots_value c X G TB).mono (by decide), fun e he => by cases he⟩⟩⟩) e_is_lot_at hm (fun h => nomatch h) fun _ _ _ _ _ _ us hl => match us, hl with | [_, _], _ => rfl
theorem fn_shows (c : SaysE free consts fnD lams w h K) (X : K.In h) (G : h.Ns mainGlobals mg) (TB : TBs K base mg) : FnS (RR K w) P w mg base 1 "shows" 3 r_shows := by
  obtain ⟨⟨fd, F⟩, hm⟩ := c.def_ X G (d := d_shows) (by simp [fnD])
  exact def_fn (at_ := ("shows", none)) (Γ := Γ_shows) (fuel := 40) (surr c X G) F s_shows (fun e he => by cases he) e_shows hm (fun h => nomatch h) fun _ _ _ _ _ _ us hl => match us, hl with | [_, _, _], _ => rfl
theorem fn_is_seen_in (c : SaysE free consts fnD lams w h K) (X : K.In h) (G : h.Ns mainGlobals mg) (TB : TBs K base mg) : FnS (RR K w) P w mg base 5 "is_seen_in" 3 r_is_seen_in := by
  obtain ⟨⟨fd, F⟩, hm⟩ := c.def_ X G (d := d_is_seen_in) (by simp [fnD])
  exact def_fn (at_ := ("is_seen_in", none)) (Γ := Γ_is_seen_in) (fuel := 40) (surr c X G) F s_is_seen_in (List.forall_mem_cons.mpr ⟨(fn_shows c X G TB).mono (by decide), List.forall_mem_cons.mpr ⟨(fn_is_lot_at c X G TB).mono (by decide), List.forall_mem_cons.mpr ⟨(fn_require_set c X G TB).mono (by decide), fun e he => by cases he⟩⟩⟩) e_is_seen_in hm (fun h => nomatch h) fun _ _ _ _ _ _ us hl => match us, hl with | [_, _, _], _ => rfl
theorem fn__law_dice (c : SaysE free consts fnD lams w h K) (X : K.In h) (G : h.Ns mainGlobals mg) (TB : TBs K base mg) : FnS (RR K w) P w mg base 1 "_law_dice" 2 r__law_dice := by
  obtain ⟨⟨fd, F⟩, hm⟩ := c.def_ X G (d := d__law_dice) (by simp [fnD])
  exact def_fn (at_ := ("_law_dice", none)) (Γ := Γ__law_dice) (fuel := 40) (surr c X G) F s__law_dice (fun e he => by cases he) e__law_dice hm (fun h => nomatch h) fun _ _ _ _ _ _ us hl => match us, hl with | [_, _], _ => rfl
theorem fn__law_roll (c : SaysE free consts fnD lams w h K) (X : K.In h) (G : h.Ns mainGlobals mg) (TB : TBs K base mg) : FnS (RR K w) P w mg base 1 "_law_roll" 2 r__law_roll := by
  obtain ⟨⟨fd, F⟩, hm⟩ := c.def_ X G (d := d__law_roll) (by simp [fnD])
  exact def_fn (at_ := ("_law_roll", none)) (Γ := Γ__law_roll) (fuel := 40) (surr c X G) F s__law_roll (fun e he => by cases he) e__law_roll hm (fun h => nomatch h) fun _ _ _ _ _ _ us hl => match us, hl with | [_, _], _ => rfl
theorem fn__law_mixed (c : SaysE free consts fnD lams w h K) (X : K.In h) (G : h.Ns mainGlobals mg) (TB : TBs K base mg) : FnS (RR K w) P w mg base 2 "_law_mixed" 2 r__law_mixed := by
  obtain ⟨⟨fd, F⟩, hm⟩ := c.def_ X G (d := d__law_mixed) (by simp [fnD])
  exact def_fn (at_ := ("_law_mixed", none)) (Γ := Γ__law_mixed) (fuel := 40) (surr c X G) F s__law_mixed (List.forall_mem_cons.mpr ⟨(fn__law_roll c X G TB).mono (by decide), fun e he => by cases he⟩) e__law_mixed hm (fun h => nomatch h) fun _ _ _ _ _ _ us hl => match us, hl with | [_, _], _ => rfl
theorem fn__law_lies (c : SaysE free consts fnD lams w h K) (X : K.In h) (G : h.Ns mainGlobals mg) (TB : TBs K base mg) : FnS (RR K w) P w mg base 1 "_law_lies" 2 r__law_lies := by
  obtain ⟨⟨fd, F⟩, hm⟩ := c.def_ X G (d := d__law_lies) (by simp [fnD])
  exact def_fn (at_ := ("_law_lies", none)) (Γ := Γ__law_lies) (fuel := 40) (surr c X G) F s__law_lies (fun e he => by cases he) e__law_lies hm (fun h => nomatch h) fun _ _ _ _ _ _ us hl => match us, hl with | [_, _], _ => rfl
theorem fn__law_smallest (c : SaysE free consts fnD lams w h K) (X : K.In h) (G : h.Ns mainGlobals mg) (TB : TBs K base mg) : FnS (RR K w) P w mg base 2 "_law_smallest" 1 r__law_smallest := by
  obtain ⟨⟨fd, F⟩, hm⟩ := c.def_ X G (d := d__law_smallest) (by simp [fnD])
  exact def_fn (at_ := ("_law_smallest", none)) (Γ := Γ__law_smallest) (fuel := 40) (surr c X G) F s__law_smallest (List.forall_mem_cons.mpr ⟨(fn__law_lies c X G TB).mono (by decide), fun e he => by cases he⟩) e__law_smallest hm (fun h => nomatch h) fun _ _ _ _ _ _ us hl => match us, hl with | [_], _ => rfl
theorem fn__law_lot (c : SaysE free consts fnD lams w h K) (X : K.In h) (G : h.Ns mainGlobals mg) (TB : TBs K base mg) : FnS (RR K w) P w mg base 2 "_law_lot" 3 r__law_lot := by
  obtain ⟨⟨fd, F⟩, hm⟩ := c.def_ X G (d := d__law_lot) (by simp [fnD])
  exact def_fn (at_ := ("_law_lot", none)) (Γ := Γ__law_lot) (fuel := 40) (surr c X G) F s__law_lot (List.forall_mem_cons.mpr ⟨(fn__law_roll c X G TB).mono (by decide), fun e he => by cases he⟩) e__law_lot hm (fun h => nomatch h) fun _ _ _ _ _ _ us hl => match us, hl with | [_, _, _], _ => rfl
theorem fn__law_is_seen (c : SaysE free consts fnD lams w h K) (X : K.In h) (G : h.Ns mainGlobals mg) (TB : TBs K base mg) : FnS (RR K w) P w mg base 1 "_law_is_seen" 3 r__law_is_seen := by
  obtain ⟨⟨fd, F⟩, hm⟩ := c.def_ X G (d := d__law_is_seen) (by simp [fnD])
  exact def_fn (at_ := ("_law_is_seen", none)) (Γ := Γ__law_is_seen) (fuel := 40) (surr c X G) F s__law_is_seen (fun e he => by cases he) e__law_is_seen hm (fun h => nomatch h) fun _ _ _ _ _ _ us hl => match us, hl with | [_, _, _], _ => rfl
theorem fn__law_right (c : SaysE free consts fnD lams w h K) (X : K.In h) (G : h.Ns mainGlobals mg) (TB : TBs K base mg) : FnS (RR K w) P w mg base 6 "_law_right" 1 r__law_right := by
  obtain ⟨⟨fd, F⟩, hm⟩ := c.def_ X G (d := d__law_right) (by simp [fnD])
  exact def_fn (at_ := ("_law_right", none)) (Γ := Γ__law_right) (fuel := 40) (surr c X G) F s__law_right (List.forall_mem_cons.mpr ⟨(fn_is_seen_in c X G TB).mono (by decide), List.forall_mem_cons.mpr ⟨(fn__law_is_seen c X G TB).mono (by decide), List.forall_mem_cons.mpr ⟨(fn__law_lot c X G TB).mono (by decide), List.forall_mem_cons.mpr ⟨(fn__law_lies c X G TB).mono (by decide), List.forall_mem_cons.mpr ⟨(fn__law_smallest c X G TB).mono (by decide), List.forall_mem_cons.mpr ⟨(fn_smallest c X G TB).mono (by decide), List.forall_mem_cons.mpr ⟨(fn__law_mixed c X G TB).mono (by decide), List.forall_mem_cons.mpr ⟨(fn__law_roll c X G TB).mono (by decide), List.forall_mem_cons.mpr ⟨(fn_subsets c X G TB).mono (by decide), fun e he => by cases he⟩⟩⟩⟩⟩⟩⟩⟩⟩) e__law_right hm (fun h => nomatch h) fun _ _ _ _ _ _ us hl => match us, hl with | [_], _ => rfl
theorem fn_law (c : SaysE free consts fnD lams w h K) (X : K.In h) (G : h.Ns mainGlobals mg) (TB : TBs K base mg) : FnS (RR K w) P w mg base 7 "law" 1 r_law := by
  obtain ⟨⟨fd, F⟩, hm⟩ := c.def_ X G (d := d_law) (by simp [fnD])
  exact def_fn (at_ := ("law", none)) (Γ := Γ_law) (fuel := 40) (surr c X G) F s_law (List.forall_mem_cons.mpr ⟨(fn_is_seen_in c X G TB).mono (by decide), List.forall_mem_cons.mpr ⟨(fn_subsets c X G TB).mono (by decide), List.forall_mem_cons.mpr ⟨(fn__law_right c X G TB).mono (by decide), List.forall_mem_cons.mpr ⟨(fn__law_dice c X G TB).mono (by decide), fun e he => by cases he⟩⟩⟩⟩) e_law hm (fun h => nomatch h) fun _ _ _ _ _ _ us hl => match us, hl with | [_], _ => rfl
end
/-- what the law's run gives -/
def Good : Prop := ∀ ns : List Int, ns.length ≤ 63 → (∀ z ∈ ns, Builtin.Int.intBits z ≤ 1048576) → ∃ G, r_law [.pv (.scr (ns.map .int))] [] = .ok (.pv (.bl true)) G
theorem facts {P : Program} {w : World} {K : PySem.W.Frag} {h : Heap} {mg : Str → Option Value} {f : Addr} (X : K.In h) (G : h.Ns mainGlobals mg) (hfa : mg ("law" : Str) = some (.ref f)) (c : SaysE free consts fnD lams w h K) :
    ∃ fd : FuncData, (∀ (s : Shared) (v : Value), BindsTo s fd ⟨[v], []⟩ [("_law_script", v)]) ∧ ∀ base : Heap, K.In base → base.Ns mainGlobals mg → TBs K base mg → FnG P w K mg base (L2.CX P w) 7 f fd ["_law_script"] (spOf (RR K w) 1 r_law) := by
  obtain ⟨⟨fd, F⟩, hm⟩ := c.def_ X G (d := d_law) (by simp [fnD])
  have e := hfa.symm.trans hm
  cases e
  have b := FunD.bindsA (ps := ["_law_script"]) F fun _ _ _ _ _ _ us hl => match us, hl with | [_], _ => rfl
  refine ⟨fd, fun s v => b s [v] rfl, fun base X2 G2 TB => ?_⟩
  exact def_ok (at_ := ("law", none)) (Γ := Γ_law) (fuel := 40) (surr c X G) F s_law (List.forall_mem_cons.mpr ⟨(fn_is_seen_in c X G TB).mono (by decide), List.forall_mem_cons.mpr ⟨(fn_subsets c X G TB).mono (by decide), List.forall_mem_cons.mpr ⟨(fn__law_right c X G TB).mono (by decide), List.forall_mem_cons.mpr ⟨(fn__law_dice c X G TB).mono (by decide), fun e he => by cases he⟩⟩⟩⟩) e_law fun h => nomatch h
theorem good : Good := fun ns hl hb => law_ok (N := N_law) (dice := r__law_dice) (n := 8) (free := [3]) (bs := [7]) (w := wt_law) (tail := bt_law) (fun k G hk => dice_ok rfl hk G) (by decide) (by decide) inner_cell (by decide) (by decide) (by decide) at_law tail_ok
end K24
open PySem PySem.W PySem.Calls PyProof.Rows
theorem PySem.Challenge.cw_rulefaces_k24_sets_seen_by_lots_holds : PySem.Challenge.rw_rulefaces_k24_sets_seen_by_lots.Holds := by
  w_on; o_law
  refine HandSHeadRun.head_any (r := OpenLaw.row PySem.Challenge.rw_rulefaces_k24_sets_seen_by_lots) (q := view (OpenLaw.row PySem.Challenge.rw_rulefaces_k24_sets_seen_by_lots).prog [32]) (H := K24.hk) (ob := K24.ob) (M := 4000) (loose := K24.loose) (d := HandSHeadRun.topDef (OpenLaw.row PySem.Challenge.rw_rulefaces_k24_sets_seen_by_lots).prog 32) (kwd := []) K24.ob_eq
    (by kernel_rfl) (fun s => by kernel_rfl) K24.run (by kernel_rfl) (by kernel_rfl) (by kernel_rfl) (by rfl) (by first | assumption | decide +kernel) (by decide +kernel) ⟨rfl, rfl, rfl, rfl, rfl, by decide +kernel⟩ ?hw ?hc
  case hw => w_witness2
  case hc =>
    refine Ev.walk_ofE (l := PySem.Challenge.rw_rulefaces_k24_sets_seen_by_lots) (n := 63) (k := 7) (x := "_law_script") rfl (by decide) (by kernel_rfl) ⟨rfl, by decide, by decide⟩ ?F ?X
    case X =>
      intro w H s e s' z
      obtain ⟨_, _, _, _, _, _, _, _, _, _, _, _, z⟩ := z
      exact z
    intro w mg fa h Y G hmg0
    obtain ⟨K, KX, c⟩ := Y
    have hmg : mg ("law" : PySem.Str) = some (.ref fa) := by
      have e : (HandSHeadRun.topDef (OpenLaw.row PySem.Challenge.rw_rulefaces_k24_sets_seen_by_lots).prog 32).name = ("law" : PySem.Str) := by kernel_rfl
      rw [← e]
      exact hmg0
    obtain ⟨fd, hb, hF⟩ := K24.facts (P := (PySem.Challenge.rw_rulefaces_k24_sets_seen_by_lots).prog) (w := w) KX G hmg c
    refine ⟨K, fd, K24.lams.map fun l => He.cT K l.1, _, KX, fun p hp => ?_, fun p hp => ?_, fun p hp => ?_, hb, fun H a ns hl hbits hH hS => ?_, hF⟩
    · obtain ⟨l, hl, rfl⟩ := List.mem_map.mp hp
      exact c.empty l.1 (List.mem_map.mpr ⟨l, hl, rfl⟩)
    · obtain ⟨l, hl, rfl⟩ := List.mem_map.mp hp
      exact c.out l.1 (List.mem_map.mpr ⟨l, hl, rfl⟩)
    · obtain ⟨l, hl, rfl⟩ := List.mem_map.mp hp
      exact PySem.W.codeHd_of_K KX (c.hd l.1 (List.mem_map.mpr ⟨l, hl, rfl⟩))
    · refine Ev.law_sp (R := K24.RR K w) hS (K24.good ns hl hbits) (fun p hp => ?_) fun _ => rfl
      obtain ⟨l, hl, rfl⟩ := List.mem_map.mp hp
      exact LamX.TabS.nil (hH _ (List.mem_map.mpr ⟨l, hl, rfl⟩))

end
