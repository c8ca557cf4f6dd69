import PyProof.Rows.All
import Wide.All
import OpenK.AllK
import Wide.FinOn
import HandS.ForMost
import HandS.ForExc
import HandS.IsInst
import HandS.Walk
import HandS.Wide
import KE.KDictKeyed
import HandS.Style
import HandS.Strs
import HandS.StrMore
import KE.GoesEnum
import HandS.Defaults
import HandS.ExcIs
import HandS.HeadHook1
import HandS.HeadHook2
import HandS.Head0
import HandS.Head1
import HandS.Head2
import HandS.HeadEnd
import PyProof.StrLawsIn
import HandS.Dict
import KE.KDictWalk
import KE.KDictDisplayH
import PyProof.SumAny
import KE.DataMinMax
import KE.DatumOrd
import KE.SortData
import HandS.SetFor
import HandS.Replace
import HandS.Lambda
import HandS.Nested
import HandS.HotCalls
import HandS.HeadHook4
import PySem.Challenge.RW_restrules_k64_formats
import HandS.Text
import HandS.Codes
import HandS.HeadWalk
set_option Elab.async false
set_option linter.all false
set_option maxRecDepth 100000
set_option maxHeartbeats 4000000
/-! Gd: a layer of plain data over HandS: what an expression is worth as data (PyData), what a block does to an environment of data; no addresses, no heaps. -/
namespace Gd
open PySem PySem.Spec L2

/-! ### heaps: G is the part that stays, H the whole -/
theorem same_new {H : Hp} {p : Addr} {o : HO} (h : H p = none) : Same H (upd H p o) := fun b x e => by
  rw [upd_ne (ne_of_none e h)]
  exact e
structure Ext (G H G' H' : Hp) : Prop where
  g : Same G G'
  h : Same H H'
  gh : Same G' H'
  old : forall a, H a ≠ none -> G' a = G a
theorem Ext.refl {G H : Hp} (s : Same G H) : Ext G H G H := ⟨Same.refl G, Same.refl H, s, fun _ _ => rfl⟩
theorem Ext.trans {G H G1 H1 G2 H2 : Hp} (a : Ext G H G1 H1) (b : Ext G1 H1 G2 H2) : Ext G H G2 H2 :=
  ⟨a.g.trans b.g, a.h.trans b.h, b.gh, fun x hx => by
    have h1 : H1 x ≠ none := fun z => by
      cases e : H x with
      | none => exact hx e
      | some o =>
        rw [a.h x o e] at z
        cases z
    rw [b.old x h1, a.old x hx]⟩
theorem Ext.new {G H : Hp} {p : Addr} {o : HO} (s : Same G H) (hp : H p = none) : Ext G H (upd G p o) (upd H p o) := by
  have gp : G p = none := s.free hp
  refine ⟨same_new gp, same_new hp, fun b x e => ?_, fun a ha => ?_⟩
  · by_cases hb : b = p
    · subst hb
      rw [upd_same] at e ⊢
      exact e
    · rw [upd_ne hb] at e ⊢
      exact s b x e
  · rw [upd_ne (fun z => ha (by rw [z]; exact hp))]

/-! ### data -/
theorem sqL_mono {K : PySem.W.Frag} {G G' : Hp} {a : Addr} {xs : List V} (s : Same G G') (h : SqL K G a xs) : SqL K G' a xs := s.seq h
theorem sqT_mono {K : PySem.W.Frag} {G G' : Hp} {a : Addr} {xs : List V} (s : Same G G') (h : SqT K G a xs) : SqT K G' a xs := by
  rcases h with (h | ⟨o, h⟩) | h
  · exact .inl (.inl (s _ _ h))
  · exact .inl (.inr ⟨o, s _ _ h⟩)
  · exact .inr h
/-- a reference as data: the very object -/
def adrD (f : Addr) : PyData := .dict [(.none, .int (f : Nat))]
/-- the script as data -/
def scrD (ns : List Int) : PyData := .dict (ns.map fun n => (.int n, .none))
mutual
/-- the value v, in the part G that stays, is the data d -/
inductive Dq (K : PySem.W.Frag) (G : Hp) : V -> PyData -> Prop
  | non : Dq K G .non .none
  | bl (b : Bool) : Dq K G (.bl b) (.bool b)
  | int (i : Int) : Dq K G (.int i) (.int i)
  | str (x : Str) : Dq K G (.str x) (.str x)
  | lst {a : Addr} {xs : List V} {ds : List PyData} : G a = some (.lst xs) -> DqAll K G xs ds -> Dq K G (.ref a) (.list ds)
  | tup {a : Addr} {xs : List V} {ds : List PyData} : SqT K G a xs -> DqAll K G xs ds -> Dq K G (.ref a) (.tuple ds)
  | scr {a : Addr} {ns : List Int} {kvs : List (PyData × PyData)} : SqL K G a (ns.map V.int) -> kvs = ns.map (fun n => (PyData.int n, PyData.none)) -> Dq K G (.ref a) (.dict kvs)
  | adr {f : Addr} {kvs : List (PyData × PyData)} : kvs = [(PyData.none, PyData.int (f : Nat))] -> Dq K G (.ref f) (.dict kvs)
inductive DqAll (K : PySem.W.Frag) (G : Hp) : List V -> List PyData -> Prop
  | nil : DqAll K G [] []
  | cons {v : V} {vs : List V} {d : PyData} {ds : List PyData} : Dq K G v d -> DqAll K G vs ds -> DqAll K G (v :: vs) (d :: ds)
end
mutual
def noDict : PyData -> Bool
  | .none => true
  | .bool _ => true
  | .int _ => true
  | .str _ => true
  | .list ds => noDictAll ds
  | .tuple ds => noDictAll ds
  | .dict _ => false
def noDictAll : List PyData -> Bool
  | [] => true
  | d :: ds => noDict d && noDictAll ds
end
mutual
theorem Dq.dp {K : PySem.W.Frag} {G : Hp} : forall {v : V} {d : PyData}, Dq K G v d -> noDict d = true -> Dp K G v d
  | _, _, .non, _ => .non
  | _, _, .bl b, _ => .bl b
  | _, _, .int i, _ => .int i
  | _, _, .str x, _ => .str x
  | _, _, .lst h a, n => .lst (.inl (.inl h)) (DqAll.dp a (by simpa [noDict] using n))
  | _, _, .tup h a, n => .tup h (DqAll.dp a (by simpa [noDict] using n))
  | _, _, .scr _ _, n => by simp [noDict] at n
  | _, _, .adr _, n => by simp [noDict] at n
theorem DqAll.dp {K : PySem.W.Frag} {G : Hp} : forall {vs : List V} {ds : List PyData}, DqAll K G vs ds -> noDictAll ds = true -> DpAll K G vs ds
  | _, _, .nil, _ => .nil
  | _, _, .cons h t, n => by
    rw [noDictAll, Bool.and_eq_true] at n
    exact .cons (Dq.dp h n.1) (DqAll.dp t n.2)
end
mutual
theorem Dq.mono {K : PySem.W.Frag} {G G' : Hp} (s : Same G G') : forall {v : V} {d : PyData}, Dq K G v d -> Dq K G' v d
  | _, _, .non => .non
  | _, _, .bl b => .bl b
  | _, _, .int i => .int i
  | _, _, .str x => .str x
  | _, _, .lst h a => .lst (s _ _ h) (DqAll.mono s a)
  | _, _, .tup h a => .tup (sqT_mono s h) (DqAll.mono s a)
  | _, _, .scr h e => .scr (sqL_mono s h) e
  | _, _, .adr e => .adr e
theorem DqAll.mono {K : PySem.W.Frag} {G G' : Hp} (s : Same G G') : forall {vs : List V} {ds : List PyData}, DqAll K G vs ds -> DqAll K G' vs ds
  | _, _, .nil => .nil
  | _, _, .cons h t => .cons (Dq.mono s h) (DqAll.mono s t)
end
theorem DqAll.length {K : PySem.W.Frag} {G : Hp} : forall {vs : List V} {ds : List PyData}, DqAll K G vs ds -> vs.length = ds.length
  | _, _, .nil => rfl
  | _, _, .cons _ t => by rw [List.length_cons, List.length_cons, DqAll.length t]
theorem DqAll.get {K : PySem.W.Frag} {G : Hp} : forall {vs : List V} {ds : List PyData} {i : Nat} {d : PyData}, DqAll K G vs ds -> ds[i]? = some d -> ∃ v, vs[i]? = some v ∧ Dq K G v d
  | _, _, _, _, .nil, e => by simp at e
  | _, _, 0, _, .cons h _, e => by simp at e; subst e; exact ⟨_, rfl, h⟩
  | _, _, i + 1, d, .cons _ t, e => by
    obtain ⟨v, h1, h2⟩ := DqAll.get (i := i) (d := d) t (by simpa using e)
    exact ⟨v, by simpa using h1, h2⟩
theorem DqAll.get' {K : PySem.W.Frag} {G : Hp} : forall {vs : List V} {ds : List PyData} {i : Nat} {v : V}, DqAll K G vs ds -> vs[i]? = some v -> ∃ d, ds[i]? = some d ∧ Dq K G v d
  | _, _, _, _, .nil, e => by simp at e
  | _, _, 0, _, .cons h _, e => by simp at e; subst e; exact ⟨_, rfl, h⟩
  | _, _, i + 1, d, .cons _ t, e => by
    obtain ⟨v, h1, h2⟩ := DqAll.get' (i := i) (v := d) t (by simpa using e)
    exact ⟨v, by simpa using h1, h2⟩
theorem DqAll.append {K : PySem.W.Frag} {G : Hp} : forall {vs ws : List V} {ds es : List PyData}, DqAll K G vs ds -> DqAll K G ws es -> DqAll K G (vs ++ ws) (ds ++ es)
  | _, _, _, _, .nil, s => s
  | _, _, _, _, .cons h t, s => .cons h (DqAll.append t s)
theorem DqAll.take {K : PySem.W.Frag} {G : Hp} : forall {vs : List V} {ds : List PyData} (n : Nat), DqAll K G vs ds -> DqAll K G (vs.take n) (ds.take n)
  | _, _, 0, _ => by rw [List.take_zero, List.take_zero]; exact .nil
  | _, _, _ + 1, .nil => .nil
  | _, _, n + 1, .cons h t => .cons h (DqAll.take n t)
theorem DqAll.drop {K : PySem.W.Frag} {G : Hp} : forall {vs : List V} {ds : List PyData} (n : Nat), DqAll K G vs ds -> DqAll K G (vs.drop n) (ds.drop n)
  | _, _, 0, h => h
  | _, _, _ + 1, .nil => .nil
  | _, _, n + 1, .cons _ t => DqAll.drop n t
theorem DqAll.dropLast {K : PySem.W.Frag} {G : Hp} {vs : List V} {ds : List PyData} (h : DqAll K G vs ds) : DqAll K G vs.dropLast ds.dropLast := by
  rw [List.dropLast_eq_take, List.dropLast_eq_take, h.length]
  exact h.take _
theorem DqAll.set {K : PySem.W.Frag} {G : Hp} {v : V} {d : PyData} (hv : Dq K G v d) : forall {vs : List V} {ds : List PyData} (i : Nat), DqAll K G vs ds -> DqAll K G (vs.set i v) (ds.set i d)
  | _, _, _, .nil => .nil
  | _, _, 0, .cons _ t => .cons hv t
  | _, _, i + 1, .cons h t => .cons h (DqAll.set hv i t)
theorem DqAll.rep {K : PySem.W.Frag} {G : Hp} {vs : List V} {ds : List PyData} (h : DqAll K G vs ds) : forall k : Nat, DqAll K G (List.replicate k vs).flatten (List.replicate k ds).flatten
  | 0 => .nil
  | k + 1 => by
    rw [List.replicate_succ, List.replicate_succ, List.flatten_cons, List.flatten_cons]
    exact h.append (DqAll.rep h k)
theorem DqAll.ints {K : PySem.W.Frag} {G : Hp} : forall {vs : List V} {ns : List Int}, DqAll K G vs (ns.map PyData.int) -> vs = ns.map V.int
  | _, [], .nil => rfl
  | _, _ :: _, .cons h t => by
    cases h
    rw [DqAll.ints t]
    rfl
theorem DqAll.bools {K : PySem.W.Frag} {G : Hp} : forall {vs : List V} {ns : List Bool}, DqAll K G vs (ns.map PyData.bool) -> vs = ns.map V.bl
  | _, [], .nil => rfl
  | _, _ :: _, .cons h t => by
    cases h
    rw [DqAll.bools t]
    rfl
theorem DqAll.strs {K : PySem.W.Frag} {G : Hp} : forall {vs : List V} {ns : List Str}, DqAll K G vs (ns.map PyData.str) -> vs = ns.map V.str
  | _, [], .nil => rfl
  | _, _ :: _, .cons h t => by
    cases h
    rw [DqAll.strs t]
    rfl
theorem dpAll_ints {K : PySem.W.Frag} {G : Hp} : forall {ns : List Int}, DqAll K G (ns.map V.int) (ns.map PyData.int)
  | [] => .nil
  | _ :: _ => .cons (.int _) dpAll_ints
/-- data that names no object -/
def atom : PyData -> Bool
  | .none => true
  | .bool _ => true
  | .int _ => true
  | .str _ => true
  | _ => false
theorem Dq.atom {K : PySem.W.Frag} {G G' : Hp} {v : V} {d : PyData} (h : Dq K G v d) (a : atom d = true) : Dq K G' v d := by
  cases h with
  | non => exact .non
  | bl b => exact .bl b
  | int i => exact .int i
  | str x => exact .str x
  | lst _ _ => cases a
  | tup _ _ => cases a
  | scr _ _ => cases a
  | adr _ => cases a

/-! ### dicts: keys are tuples of None, truth values, numbers, texts and such tuples -/
mutual
def nk : PyData -> NestedKey
  | .none => .none
  | .bool b => .num (if b = true then 1 else 0)
  | .int i => .num i
  | .str x => .text x
  | .tuple ds => .tup (nkAll ds)
  | .list _ => .none
  | .dict _ => .none
def nkAll : List PyData -> List NestedKey
  | [] => []
  | d :: ds => nk d :: nkAll ds
end
mutual
def keyOk : PyData -> Bool
  | .none => true
  | .bool _ => true
  | .int _ => true
  | .str _ => true
  | .tuple ds => keyAll ds
  | .list _ => false
  | .dict _ => false
def keyAll : List PyData -> Bool
  | [] => true
  | d :: ds => keyOk d && keyAll ds
end
def isKey (d : PyData) : Bool := match d with
  | .tuple ds => keyAll ds && decide ((nk (.tuple ds)).depth ≤ 8)
  | _ => false
/-- the whole object at p -/
def dR (p : Addr) (o : Obj) : HO := .ext fun h => h.get? p = some o
structure DicO (hs : NestedKey -> Int) (p : Addr) (o : Obj) (xs : List (NestedKey × Addr × Value)) : Prop where
  ex : o.ExactDict
  da : ∃ es ep, o.data = .dict es ep ∧ es.toList = xs.map fun x => (⟨hs x.1, .ref x.2.1, x.2.2⟩ : DictEntry)
  nd : (xs.map (·.1)).Nodup
  sm : (p == sysModules) = false
  sz : xs.length ≤ 1000000
def DEnt (K : PySem.W.Frag) (G : Hp) : List (PyData × PyData) -> List (NestedKey × Addr × Value) -> Prop
  | [], [] => True
  | kv :: kvs, x :: xs => (x.1 = nk kv.1 ∧ Dq K G (.ref x.2.1) kv.1 ∧ (∃ v, RelV v x.2.2 ∧ Dq K G v kv.2) ∧ isKey kv.1 = true) ∧ DEnt K G kvs xs
  | _, _ => False
theorem DEnt.mono {K : PySem.W.Frag} {G G' : Hp} (s : Same G G') : forall {kvs : List (PyData × PyData)} {xs : List (NestedKey × Addr × Value)}, DEnt K G kvs xs -> DEnt K G' kvs xs
  | [], [], _ => trivial
  | kv :: kvs, x :: xs, h => by
    obtain ⟨⟨a, b, ⟨v, c, d⟩, e⟩, t⟩ := h
    exact ⟨⟨a, b.mono s, ⟨v, c, d.mono s⟩, e⟩, DEnt.mono s t⟩
  | [], _ :: _, h => h.elim
  | _ :: _, [], h => h.elim
/-- the dict o at p has the keys and values kvs, in the order of insertion -/
def DicV (K : PySem.W.Frag) (G : Hp) (hs : NestedKey -> Int) (p : Addr) (o : Obj) (kvs : List (PyData × PyData)) : Prop := ∃ xs : List (NestedKey × Addr × Value), DicO hs p o xs ∧ DEnt K G kvs xs
theorem DicV.mono {K : PySem.W.Frag} {G G' : Hp} {hs : NestedKey -> Int} {p : Addr} {o : Obj} {kvs : List (PyData × PyData)} (s : Same G G') (h : DicV K G hs p o kvs) : DicV K G' hs p o kvs := by
  obtain ⟨xs, a, b⟩ := h
  exact ⟨xs, a, b.mono s⟩
/-! ### environments -/
/-- what a frame may own: a list, a dict -/
inductive Own where
  | list (ds : List PyData)
  | dict (hs : NestedKey -> Int) (kvs : List (PyData × PyData))
  | memo (q : Addr) (hs : NestedKey -> Int) (kvs : List (PyData × PyData))
def OwnOk (K : PySem.W.Frag) (G : Hp) (p : Addr) (u : HO) : Own -> Prop
  | .list ds => ∃ vs, u = .lst vs ∧ DqAll K G vs ds
  | .dict hs kvs => ∃ o, u = dR p o ∧ DicV K G hs p o kvs
  | .memo q hs kvs => p = q ∧ ∃ o, u = dR p o ∧ DicV K G hs p o kvs
theorem OwnOk.mono {K : PySem.W.Frag} {G G' : Hp} {p : Addr} {u : HO} {x : Own} (s : Same G G') (h : OwnOk K G p u x) : OwnOk K G' p u x := by
  cases x with
  | list ds =>
    obtain ⟨vs, a, b⟩ := h
    exact ⟨vs, a, b.mono s⟩
  | dict hs kvs =>
    obtain ⟨o, a, b⟩ := h
    exact ⟨o, a, b.mono s⟩
  | memo q hs kvs =>
    obtain ⟨e, o, a, b⟩ := h
    exact ⟨e, o, a, b.mono s⟩
/-- what a slot holds: unknown; a value as it is; data that stays; a list of the frame's own, that it may change -/
inductive Cell where
  | any | raw (v : V) | dat (d : PyData) | owx (x : Own) | fdc (hs : NestedKey -> Int) (kvs : List (PyData × PyData)) | pin (v : V) (φ : Hp -> Prop)
abbrev Cell.own (ds : List PyData) : Cell := .owx (.list ds)
abbrev Cell.dic (hs : NestedKey -> Int) (kvs : List (PyData × PyData)) : Cell := .owx (.dict hs kvs)
abbrev Rho := List Cell
def CellOk (K : PySem.W.Frag) (G H : Hp) (ov : Option V) : Cell -> Prop
  | .any => True
  | .raw v => ov = some v
  | .dat d => ∃ v, ov = some v ∧ Dq K G v d
  | .owx x => ∃ p u, ov = some (.ref p) ∧ G p = none ∧ H p = some u ∧ OwnOk K G p u x
  | .fdc hs kvs => ∃ p o, ov = some (.ref p) ∧ G p = some (dR p o) ∧ DicV K G hs p o kvs
  | .pin v φ => ov = some v ∧ ∃ G0, Same G0 G ∧ (forall b ps, G0 b ≠ some (.tbl ps)) ∧ φ G0
structure Sta (K : PySem.W.Frag) (G H : Hp) (σ : St) (ρ : Rho) : Prop where
  gh : Same G H
  len : σ.length = ρ.length
  at_ : forall (i : Nat) (c : Cell), ρ[i]? = some c -> ∃ ov, σ[i]? = some ov ∧ CellOk K G H ov c
  apart : forall (i j : Nat) (p : Addr) (x y : Own), ρ[i]? = some (.owx x) -> ρ[j]? = some (.owx y) -> σ[i]? = some (some (.ref p)) -> σ[j]? = some (some (.ref p)) -> i = j
theorem CellOk.ext {K : PySem.W.Frag} {G H G' H' : Hp} {ov : Option V} {c : Cell} (e : Ext G H G' H') (h : CellOk K G H ov c) : CellOk K G' H' ov c := by
  cases c with
  | any => trivial
  | raw v => exact h
  | dat d =>
    obtain ⟨v, h1, h2⟩ := h
    exact ⟨v, h1, h2.mono e.g⟩
  | owx x =>
    obtain ⟨p, u, h1, h2, h3, h4⟩ := h
    exact ⟨p, u, h1, by rw [e.old p (by rw [h3]; exact fun z => nomatch z)]; exact h2, e.h p _ h3, h4.mono e.g⟩
  | fdc hs kvs =>
    obtain ⟨p, o, h1, h2, h3⟩ := h
    exact ⟨p, o, h1, e.g p _ h2, h3.mono e.g⟩
  | pin v φ =>
    obtain ⟨h1, G0, h2, h3⟩ := h
    exact ⟨h1, G0, h2.trans e.g, h3⟩
theorem Sta.ext {K : PySem.W.Frag} {G H G' H' : Hp} {σ : St} {ρ : Rho} (s : Sta K G H σ ρ) (e : Ext G H G' H') : Sta K G' H' σ ρ :=
  ⟨e.gh, s.len, fun i c hc => let ⟨ov, h1, h2⟩ := s.at_ i c hc; ⟨ov, h1, h2.ext e⟩, s.apart⟩
theorem Sta.dat {K : PySem.W.Frag} {G H : Hp} {σ : St} {ρ : Rho} {i : Nat} {d : PyData} (s : Sta K G H σ ρ) (h : ρ[i]? = some (.dat d)) : ∃ v, σ[i]? = some (some v) ∧ Dq K G v d := by
  obtain ⟨ov, h1, v, rfl, h2⟩ := s.at_ i _ h
  exact ⟨v, h1, h2⟩
theorem Sta.owx {K : PySem.W.Frag} {G H : Hp} {σ : St} {ρ : Rho} {i : Nat} {x : Own} (s : Sta K G H σ ρ) (h : ρ[i]? = some (.owx x)) : ∃ p u, σ[i]? = some (some (.ref p)) ∧ G p = none ∧ H p = some u ∧ OwnOk K G p u x := by
  obtain ⟨ov, h1, p, u, rfl, h2⟩ := s.at_ i _ h
  exact ⟨p, u, h1, h2⟩
theorem Sta.own {K : PySem.W.Frag} {G H : Hp} {σ : St} {ρ : Rho} {i : Nat} {ds : List PyData} (s : Sta K G H σ ρ) (h : ρ[i]? = some (.own ds)) : ∃ p vs, σ[i]? = some (some (.ref p)) ∧ G p = none ∧ H p = some (.lst vs) ∧ DqAll K G vs ds := by
  obtain ⟨p, u, h1, h2, h3, vs, rfl, h4⟩ := s.owx h
  exact ⟨p, vs, h1, h2, h3, h4⟩
/-- a slot is stored: data -/
theorem Sta.set {K : PySem.W.Frag} {G H : Hp} {σ : St} {ρ : Rho} {v : V} {d : PyData} (s : Sta K G H σ ρ) (i : Nat) (h : Dq K G v d) : Sta K G H (σ.set i (some v)) (ρ.set i (.dat d)) := by
  refine ⟨s.gh, by rw [List.length_set, List.length_set]; exact s.len, fun j c hc => ?_, fun a b p ds es h1 h2 h3 h4 => ?_⟩
  · by_cases hj : i = j
    · subst hj
      have hl : i < ρ.length := by
        have := (List.getElem?_eq_some_iff.mp hc).1
        rwa [List.length_set] at this
      rw [List.getElem?_set_self hl] at hc
      cases hc
      exact ⟨_, List.getElem?_set_self (by rw [s.len]; exact hl), v, rfl, h⟩
    · rw [List.getElem?_set_ne hj] at hc ⊢
      exact s.at_ j c hc
  · have na : forall (a : Nat) (ds : Own), (ρ.set i (.dat d))[a]? = some (.owx ds) -> i ≠ a := fun a ds h1 z => by
      subst z
      have hl := (List.getElem?_eq_some_iff.mp h1).1
      rw [List.length_set] at hl
      rw [List.getElem?_set_self hl] at h1
      cases h1
    have n1 := na a ds h1
    have n2 := na b es h2
    rw [List.getElem?_set_ne n1] at h1 h3
    rw [List.getElem?_set_ne n2] at h2 h4
    exact s.apart a b p ds es h1 h2 h3 h4
/-- forgetting -/
def Cell.le : Cell -> Cell -> Prop
  | .any, _ => True
  | c, c' => c = c'
theorem Sta.weak {K : PySem.W.Frag} {G H : Hp} {σ : St} {ρ ρ' : Rho} (s : Sta K G H σ ρ) (hl : ρ'.length = ρ.length) (h : forall (i : Nat) (c : Cell), ρ'[i]? = some c -> c = Cell.any ∨ ρ[i]? = some c) : Sta K G H σ ρ' := by
  refine ⟨s.gh, s.len.trans hl.symm, fun i c hc => ?_, fun a b p ds es h1 h2 h3 h4 => ?_⟩
  · rcases h i c hc with rfl | e
    · have hi : i < ρ'.length := (List.getElem?_eq_some_iff.mp hc).1
      have hs : i < σ.length := by rw [s.len, ← hl]; exact hi
      exact ⟨_, List.getElem?_eq_getElem hs, trivial⟩
    · exact s.at_ i c e
  · rcases h a _ h1 with z | e1
    · cases z
    rcases h b _ h2 with z | e2
    · cases z
    exact s.apart a b p ds es e1 e2 h3 h4

/-! ### what a reading is worth -/
def EvR (K : PySem.W.Frag) (t : TE) (ρ : Rho) (d : PyData) : Prop := forall (σ : St) (G H : Hp) (Q : VK), Sta K G H σ ρ -> (forall v G' H', Ext G H G' H' -> Dq K G' v d -> Q v H') -> t σ H Q
def EvT (K : PySem.W.Frag) (t : TT) (ρ : Rho) (b : Bool) : Prop := forall (σ : St) (G H : Hp) (Q : Bool -> Hp -> Prop), Sta K G H σ ρ -> (forall G' H', Ext G H G' H' -> Q b H') -> t σ H Q
def EvA (K : PySem.W.Frag) (t : TA) (ρ : Rho) (ds : List PyData) : Prop := forall (σ : St) (G H : Hp) (Q : List V -> Hp -> Prop), Sta K G H σ ρ -> (forall vs G' H', Ext G H G' H' -> DqAll K G' vs ds -> Q vs H') -> t σ H Q

/-- a run that ends well -/
structure Wp {α : Type} (X : Cx) (c : Sem α) (Q : α -> Shared -> Prop) (s : Shared) : Prop where
  run : wpAny (model X.prog X.w) X.A c Q X.xe s
/-- the weakest reading -/
def tw (X : Cx) (e : Expr) : TE := fun σ H Q => forall pins s, Inv X pins σ H s -> Wp X (eval e X.env) (EP X pins σ Q) s
def twT (X : Cx) (e : Expr) : TT := fun σ H Q => forall pins s, Inv X pins σ H s -> Wp X (isTrue e X.env (eval e X.env)) (TP X pins σ Q) s
def twW (X : Cx) (e : Expr) : TT := fun σ H Q => forall whole pins s, Inv X pins σ H s -> Wp X (isTrue e X.env whole) (TP X pins σ Q) s
def twA (X : Cx) (es : List Expr) : TA := fun σ H Q => forall pos pins s, Inv X pins σ H s -> Wp X (spliced (backTo pos (starEach es X.env))) (AP X pins σ Q) s
theorem pe_tw {X : Cx} {e : Expr} : PE X e (tw X e) := ⟨fun pins s _ _ _ I h => (h pins s I).run⟩
theorem pt_tw {X : Cx} {e : Expr} : PT X e (twT X e) := ⟨fun pins s _ _ _ I h => (h pins s I).run⟩
theorem pw_tw {X : Cx} {e : Expr} : PW X e (twW X e) := ⟨fun wh pins s _ _ _ I h => (h wh pins s I).run⟩
theorem pa_tw {X : Cx} {es : List Expr} : PA X es (twA X es) := ⟨fun pos pins s _ _ _ I h => (h pos pins s I).run⟩
def GE (X : Cx) (e : Expr) (ρ : Rho) (d : PyData) : Prop := EvR X.K (tw X e) ρ d
def GT (X : Cx) (e : Expr) (ρ : Rho) (b : Bool) : Prop := EvT X.K (twT X e) ρ b
def GW (X : Cx) (e : Expr) (ρ : Rho) (b : Bool) : Prop := EvT X.K (twW X e) ρ b
def GA (X : Cx) (es : List Expr) (ρ : Rho) (ds : List PyData) : Prop := EvA X.K (twA X es) ρ ds
section
variable {X : Cx} {e a b : Expr} {es : List Expr} {ρ : Rho} {d d1 d2 : PyData} {t : TE} {pos : Pos}
theorem ge_of (h : PE X e t) (hv : EvR X.K t ρ d) : GE X e ρ d := fun σ G H Q hs q pins s I => ⟨h.run pins s σ H Q I (hv σ G H Q hs q)⟩
theorem gt_of {t : TT} {c : Bool} (h : PT X e t) (hv : EvT X.K t ρ c) : GT X e ρ c := fun σ G H Q hs q pins s I => ⟨h.run pins s σ H Q I (hv σ G H Q hs q)⟩
theorem gw_of {t : TT} {c : Bool} (h : PW X e t) (hv : EvT X.K t ρ c) : GW X e ρ c := fun σ G H Q hs q wh pins s I => ⟨h.run wh pins s σ H Q I (hv σ G H Q hs q)⟩
theorem ga_of {t : TA} {ds : List PyData} (h : PA X es t) (hv : EvA X.K t ρ ds) : GA X es ρ ds := fun σ G H Q hs q pos pins s I => ⟨h.run pos pins s σ H Q I (hv σ G H Q hs q)⟩
theorem ge_is (h : GE X e ρ d) (z : d = d1) : GE X e ρ d1 := z ▸ h
theorem gt_is {c c' : Bool} (h : GT X e ρ c) (z : c = c') : GT X e ρ c' := z ▸ h

/-! ### leaves -/
theorem ge_int {i : Int} {j : Nat} : GE X (.Constant (.int i) j pos) ρ (.int i) := ge_of pe_int fun _ _ _ _ hs q => q _ _ _ (.refl hs.gh) (.int i)
theorem ge_bl {c : Bool} {j : Nat} : GE X (.Constant (.bool c) j pos) ρ (.bool c) := ge_of pe_bl fun _ _ _ _ hs q => q _ _ _ (.refl hs.gh) (.bl c)
theorem ge_non {j : Nat} : GE X (.Constant .none j pos) ρ .none := ge_of pe_non fun _ _ _ _ hs q => q _ _ _ (.refl hs.gh) .non
theorem ge_str {x : Str} {j : Nat} : GE X (.Constant (.str x) j pos) ρ (.str x) := ge_of pe_str fun _ _ _ _ hs q => q _ _ _ (.refl hs.gh) (.str x)
/-- the name in slot i -/
theorem gv (i : Nat) {x : Str} (hc : ρ[i]? = some (.dat d) := by rfl) (hN : X.N[i]? = some x := by rfl) (hv : Vis X.env.scope x := by first | exact Or.inl rfl | exact Or.inr (Or.inl rfl) | exact Or.inr (Or.inr rfl)) (hd : (x == ("__debug__" : Str)) = false := by decide)
    (hcd : (x == ("__classdict__" : Str)) = false := by decide) : GE X (.Name x pos) ρ d := ge_of (pe_var hN hv hd hcd) fun σ G H Q hs q => by
  obtain ⟨v, h1, h2⟩ := hs.dat hc
  exact ⟨v, h1, q v G H (.refl hs.gh) h2⟩
/-- a module's constant -/
theorem gg {x : Str} {v : V} {u : Value} (hm : X.mg x = some u) (r : RelV v u) (hp : forall G, Dq X.K G v d) (hg : Gl X x := by rfl) (hd : (x == ("__debug__" : Str)) = false := by decide) : GE X (.Name x pos) ρ d :=
  ge_of (pe_glob hg hm r hd) fun σ G H Q hs q => q v G H (.refl hs.gh) (hp G)
theorem gg_int {x : Str} {i : Int} (hm : ∃ t, X.mg x = some (.int i t)) (hg : Gl X x := by rfl) (hd : (x == ("__debug__" : Str)) = false := by decide) : GE X (.Name x pos) ρ (.int i) := by
  obtain ⟨t, hm⟩ := hm
  exact gg (v := .int i) hm ⟨t, rfl⟩ (fun _ => .int i) hg hd
theorem gg_str {x z : Str} (hm : ∃ t, X.mg x = some (.str z t)) (hg : Gl X x := by rfl) (hd : (x == ("__debug__" : Str)) = false := by decide) : GE X (.Name x pos) ρ (.str z) := by
  obtain ⟨t, hm⟩ := hm
  exact gg (v := .str z) hm ⟨t, rfl⟩ (fun _ => .str z) hg hd

/-! ### arguments -/
theorem ga_nil : GA X [] ρ [] := ga_of pa_nil fun _ _ _ _ hs q => q _ _ _ (.refl hs.gh) .nil
theorem ga_cons {ds : List PyData} (h : GE X e ρ d) (hr : GA X es ρ ds) (hst : starEach (e :: es) X.env = (false, eval e X.env) :: starEach es X.env := by rfl) : GA X (e :: es) ρ (d :: ds) :=
  ga_of (pa_cons pe_tw pa_tw hst) fun σ G H Q hs q => h σ G H _ hs fun v G1 H1 e1 dv => hr σ G1 H1 _ (hs.ext e1) fun vs G2 H2 e2 dvs => q (v :: vs) G2 H2 (e1.trans e2) (.cons (dv.mono e2.g) dvs)

/-! ### operators on two data -/
def RVD (K : PySem.W.Frag) (r : R2) (d1 d2 d : PyData) : Prop := forall (v1 v2 : V) (G H : Hp) (Q : VK), Same G H -> Dq K G v1 d1 -> Dq K G v2 d2 -> (forall v G' H', Ext G H G' H' -> Dq K G' v d -> Q v H') -> r v1 v2 H Q
theorem ev_op {r : R2} {ta tb : TE} (ha : EvR X.K ta ρ d1) (hb : EvR X.K tb ρ d2) (hr : RVD X.K r d1 d2 d) : EvR X.K (tOp r ta tb) ρ d := fun σ G H Q hs q =>
  ha σ G H _ hs fun v1 G1 H1 e1 h1 => hb σ G1 H1 _ (hs.ext e1) fun v2 G2 H2 e2 h2 => hr v1 v2 G2 H2 Q e2.gh (h1.mono e2.g) h2 fun v G3 H3 e3 h3 => q v G3 H3 ((e1.trans e2).trans e3) h3
def BinD (X : Cx) (op : Operator) (d1 d2 d : PyData) : Prop := ∃ r, OpR X (binaryOp op) r ∧ RVD X.K r d1 d2 d
def CmpD (X : Cx) (op : CmpOp) (d1 d2 : PyData) (c : Bool) : Prop := ∃ r, OpR X (compareOp op) r ∧ RVD X.K r d1 d2 (.bool c)
def IxD (X : Cx) (d1 d2 d : PyData) : Prop := ∃ r, IxR X r ∧ RVD X.K r d1 d2 d
theorem ge_bin {op : Operator} (ha : GE X a ρ d1) (hb : GE X b ρ d2) (h : BinD X op d1 d2 d) : GE X (.BinOp a op b pos) ρ d := by
  obtain ⟨r, ho, hr⟩ := h
  exact ge_of (pe_op ho pe_tw pe_tw) (ev_op ha hb hr)
theorem ge_cmp {op : CmpOp} {c : Bool} (ha : GE X a ρ d1) (hb : GE X b ρ d2) (h : CmpD X op d1 d2 c) (hm : behindInMarks op b = false := by first | exact nomark _ | rfl) : GE X (.Compare a [op] [b] pos) ρ (.bool c) := by
  obtain ⟨r, ho, hr⟩ := h
  exact ge_of (pe_cmpR ho pe_tw pe_tw hm) (ev_op ha hb hr)
theorem ev_test {c : Bool} (h : EvR X.K t ρ (.bool c)) : EvT X.K (tTest t) ρ c := fun σ G H Q hs q => h σ G H _ hs fun v G' H' e dv => by
  cases dv
  exact ⟨c, rfl, q G' H' e⟩
theorem ev_tB {c : Bool} (h : EvR X.K t ρ (.bool c)) : EvT X.K (tB t) ρ c := fun σ G H Q hs q => h σ G H _ hs fun v G' H' e dv => by
  cases dv
  exact ⟨c, rfl, q G' H' e⟩
theorem gt_cmp {op : CmpOp} {c : Bool} (ha : GE X a ρ d1) (hb : GE X b ρ d2) (h : CmpD X op d1 d2 c) (hm : behindInMarks op b = false := by first | exact nomark _ | rfl) : GT X (.Compare a [op] [b] pos) ρ c := by
  obtain ⟨r, ho, hr⟩ := h
  exact gt_of (pt_cmpR ho pe_tw pe_tw hm) (ev_test (ev_op ha hb hr))
theorem gt_val {c : Bool} (h : GE X e ρ (.bool c)) (he : forall whole, isTrue e X.env whole = (do let v ← whole; standAt e.pos; holding [v] (truthy v)) := by intro _; rfl) : GT X e ρ c :=
  gt_of (pt_val pe_tw he) (ev_tB h)
theorem ge_ix (ha : GE X a ρ d1) (hb : GE X b ρ d2) (h : IxD X d1 d2 d) (hs : PlainIx b := by exact fun _ _ => rfl) : GE X (.Subscript a b pos) ρ d := by
  obtain ⟨r, ho, hr⟩ := h
  exact ge_of (pe_ix ho pe_tw pe_tw hs) (ev_op ha hb hr)

/-! ### and, or, not, if -/
theorem ge_not {c : Bool} (h : GE X a ρ (.bool c)) : GE X (.UnaryOp .Not a pos) ρ (.bool (!c)) := ge_of (pe_not pe_tw) fun σ G H Q hs q => h σ G H _ hs fun v G' H' e dv => by
  cases dv
  exact ⟨c, rfl, q _ G' H' e (.bl _)⟩
theorem ge_one {op : BoolOp} (h : GE X a ρ d) : GE X (.BoolOp op [a] pos) ρ d := ge_of (pe_one pe_tw) h
theorem ge_and {c c' : Bool} {rest : List Expr} (ha : GE X a ρ (.bool c)) (hb : c = true -> GE X (.BoolOp .And (b :: rest) pos) ρ (.bool c')) : GE X (.BoolOp .And (a :: b :: rest) pos) ρ (.bool (c && c')) :=
  ge_of (pe_and pe_tw pe_tw) fun σ G H Q hs q => ha σ G H _ hs fun v G1 H1 e1 dv => by
    cases dv
    refine ⟨c, rfl, ?_⟩
    cases c with
    | true =>
      rw [if_pos rfl]
      exact hb rfl σ G1 H1 _ (hs.ext e1) fun v G2 H2 e2 h2 => q v G2 H2 (e1.trans e2) h2
    | false =>
      rw [if_neg Bool.false_ne_true]
      exact q _ G1 H1 e1 (.bl _)
theorem ge_or {c c' : Bool} {rest : List Expr} (ha : GE X a ρ (.bool c)) (hb : c = false -> GE X (.BoolOp .Or (b :: rest) pos) ρ (.bool c')) : GE X (.BoolOp .Or (a :: b :: rest) pos) ρ (.bool (c || c')) :=
  ge_of (pe_or pe_tw pe_tw) fun σ G H Q hs q => ha σ G H _ hs fun v G1 H1 e1 dv => by
    cases dv
    refine ⟨c, rfl, ?_⟩
    cases c with
    | true =>
      rw [if_pos rfl]
      exact q _ G1 H1 e1 (.bl _)
    | false =>
      rw [if_neg Bool.false_ne_true]
      exact hb rfl σ G1 H1 _ (hs.ext e1) fun v G2 H2 e2 h2 => q v G2 H2 (e1.trans e2) h2
theorem gt_not {c : Bool} (h : GT X a ρ c) : GT X (.UnaryOp .Not a pos) ρ (!c) := gt_of (pt_not pt_tw) fun σ G H Q hs q => h σ G H _ hs fun G' H' e => q G' H' e
theorem gt_w {c : Bool} (h : GW X e ρ c) : GT X e ρ c := gt_of pw_tw.pt h
theorem gw_and1 {c : Bool} (h : GT X a ρ c) : GW X (.BoolOp .And [a] pos) ρ c := gw_of (pw_and1 pt_tw) h
theorem gw_or1 {c : Bool} (h : GT X a ρ c) : GW X (.BoolOp .Or [a] pos) ρ c := gw_of (pw_or1 pt_tw) h
theorem gw_and {c c' : Bool} {rest : List Expr} (ha : GT X a ρ c) (hb : c = true -> GW X (.BoolOp .And (b :: rest) pos) ρ c') : GW X (.BoolOp .And (a :: b :: rest) pos) ρ (c && c') :=
  gw_of (pw_and pt_tw pw_tw) fun σ G H Q hs q => ha σ G H _ hs fun G1 H1 e1 => by
    cases c with
    | true =>
      rw [if_pos rfl]
      exact hb rfl σ G1 H1 _ (hs.ext e1) fun G2 H2 e2 => q G2 H2 (e1.trans e2)
    | false =>
      rw [if_neg Bool.false_ne_true]
      exact q G1 H1 e1
theorem gw_or {c c' : Bool} {rest : List Expr} (ha : GT X a ρ c) (hb : c = false -> GW X (.BoolOp .Or (b :: rest) pos) ρ c') : GW X (.BoolOp .Or (a :: b :: rest) pos) ρ (c || c') :=
  gw_of (pw_or pt_tw pw_tw) fun σ G H Q hs q => ha σ G H _ hs fun G1 H1 e1 => by
    cases c with
    | true =>
      rw [if_pos rfl]
      exact q G1 H1 e1
    | false =>
      rw [if_neg Bool.false_ne_true]
      exact hb rfl σ G1 H1 _ (hs.ext e1) fun G2 H2 e2 => q G2 H2 (e1.trans e2)
theorem ge_if {c : Expr} {k : Bool} (hc : GT X c ρ k) (ha : k = true -> GE X a ρ d) (hb : k = false -> GE X b ρ d) : GE X (.IfExp c a b pos) ρ d :=
  ge_of (pe_ifExp pt_tw pe_tw pe_tw) fun σ G H Q hs q => hc σ G H _ hs fun G1 H1 e1 => by
    cases k with
    | true =>
      rw [if_pos rfl]
      exact ha rfl σ G1 H1 _ (hs.ext e1) fun v G2 H2 e2 h2 => q v G2 H2 (e1.trans e2) h2
    | false =>
      rw [if_neg Bool.false_ne_true]
      exact hb rfl σ G1 H1 _ (hs.ext e1) fun v G2 H2 e2 h2 => q v G2 H2 (e1.trans e2) h2

/-! ### tuples and lists written -/
theorem ge_tup {ds : List PyData} {k : Nat} (h : GA X es ρ ds) (hz : ds.length ≤ 100000 := by exact Nat.le_of_ble_eq_true rfl) : GE X (.Tuple es k pos) ρ (.tuple ds) := ge_of (pe_tup pa_tw) fun σ G H Q hs q => h σ G H _ hs fun vs G1 H1 e1 dv => by
  refine ⟨by rw [dv.length]; exact Nat.le_trans hz (by decide), fun p hp => ?_⟩
  have e2 : Ext G1 H1 (upd G1 p (.tup vs)) (upd H1 p (.tup vs)) := .new e1.gh hp
  exact q _ _ _ (e1.trans e2) (.tup (.inl (.inl upd_same)) (dv.mono e2.g))
theorem ge_lst {ds : List PyData} (h : GA X es ρ ds) (hz : ds.length ≤ 100000 := by exact Nat.le_of_ble_eq_true rfl) : GE X (.List es pos) ρ (.list ds) := ge_of (pe_lst pa_tw) fun σ G H Q hs q => h σ G H _ hs fun vs G1 H1 e1 dv => by
  refine ⟨by rw [dv.length]; exact Nat.le_trans hz (by decide), fun p hp => ?_⟩
  have e2 : Ext G1 H1 (upd G1 p (.lst vs)) (upd H1 p (.lst vs)) := .new e1.gh hp
  exact q _ _ _ (e1.trans e2) (.lst upd_same (dv.mono e2.g))
end
end Gd

namespace Gd
open PySem PySem.Spec L2

/-- a text by its signs -/
def S (l : List Nat) : Str := ⟨l.toArray⟩
theorem S_inj {a b : List Nat} : S a = S b <-> a = b := by
  constructor
  · intro h
    have := congrArg (fun z : Str => z.cps.toList) h
    simpa [S] using this
  · intro h; rw [h]
theorem S_cps (l : List Nat) : (S l).cps.toList = l := by simp [S]
theorem S_len (l : List Nat) : (S l).length = l.length := by simp [S, Str.length]
theorem S_app (a b : List Nat) : S a ++ S b = S (a ++ b) := by
  show Str.append _ _ = _
  simp [S, Str.append]
theorem S_of (z : Str) : z = S z.cps.toList := by
  cases z
  simp [S]

section
variable {X : Cx} {e a b : Expr} {es : List Expr} {ρ : Rho} {d d1 d2 : PyData} {t : TE} {pos : Pos} {i j : Int}
/-! ### ints -/
theorem rvd_i0 {K : PySem.W.Frag} {g : Int -> Int -> V} (hd : forall G, Dq K G (g i j) d) : RVD K (rI0 g) (.int i) (.int j) d := fun v1 v2 G H Q gh h1 h2 q => by
  cases h1; cases h2
  exact ⟨i, j, rfl, rfl, q _ G H (.refl gh) (hd G)⟩
theorem rvd_i {K : PySem.W.Frag} {C : Int -> Int -> Prop} {g : Int -> Int -> V} (hc : C i j) (hd : forall G, Dq K G (g i j) d) : RVD K (rI C g) (.int i) (.int j) d := fun v1 v2 G H Q gh h1 h2 q => by
  cases h1; cases h2
  exact ⟨i, j, rfl, rfl, hc, q _ G H (.refl gh) (hd G)⟩
theorem b_add : BinD X .Add (.int i) (.int j) (.int (i + j)) := ⟨_, op_add, rvd_i0 fun _ => .int _⟩
theorem b_sub : BinD X .Sub (.int i) (.int j) (.int (i - j)) := ⟨_, op_sub, rvd_i0 fun _ => .int _⟩
theorem b_mul (h : CMul i j) : BinD X .Mult (.int i) (.int j) (.int (i * j)) := ⟨_, op_mul, rvd_i h fun _ => .int _⟩
theorem b_mulW (h : CMulW i j) : BinD X .Mult (.int i) (.int j) (.int (i * j)) := ⟨_, op_mulW, rvd_i h fun _ => .int _⟩
theorem b_mod (h : 0 < j) : BinD X .Mod (.int i) (.int j) (.int (i % j)) := ⟨_, op_mod, rvd_i h fun _ => .int _⟩
theorem b_div (h : CDiv i j) : BinD X .FloorDiv (.int i) (.int j) (.int (i / j)) := ⟨_, op_fdiv, rvd_i h fun _ => .int _⟩
theorem b_divW (h : CDivW i j) : BinD X .FloorDiv (.int i) (.int j) (.int (i / j)) := ⟨_, op_fdivW, rvd_i h fun _ => .int _⟩
theorem b_pow (h : CPow i j) : BinD X .Pow (.int i) (.int j) (.int (i ^ j.toNat)) := ⟨_, op_pow, rvd_i h fun _ => .int _⟩
theorem ge_neg (h : GE X a ρ (.int i)) : GE X (.UnaryOp .USub a pos) ρ (.int (-i)) := ge_of (pe_un un_neg pe_tw) fun σ G H Q hs q => h σ G H _ hs fun v G1 H1 e1 dv => by
  cases dv
  exact ⟨i, rfl, q _ G1 H1 e1 (.int _)⟩
theorem c_lt : CmpD X .Lt (.int i) (.int j) (decide (i < j)) := ⟨_, op_lt, rvd_i0 fun _ => .bl _⟩
theorem c_le : CmpD X .LtE (.int i) (.int j) (decide (i ≤ j)) := ⟨_, op_le, rvd_i0 fun _ => .bl _⟩
theorem c_gt : CmpD X .Gt (.int i) (.int j) (decide (j < i)) := ⟨_, op_gt, rvd_i0 fun _ => .bl _⟩
theorem c_ge : CmpD X .GtE (.int i) (.int j) (decide (j ≤ i)) := ⟨_, op_ge, rvd_i0 fun _ => .bl _⟩
/-! ### == of scalars, of data -/
theorem c_eqI : CmpD X .Eq (.int i) (.int j) (decide (i = j)) := ⟨_, op_eq, fun v1 v2 G H Q gh h1 h2 q => by
  cases h1; cases h2
  refine ⟨rfl, ?_⟩
  have e : decide (V.int i = V.int j) = decide (i = j) := by simp
  rw [e]
  exact q _ G H (.refl gh) (.bl _)⟩
theorem c_neI : CmpD X .NotEq (.int i) (.int j) (!decide (i = j)) := ⟨_, op_ne, fun v1 v2 G H Q gh h1 h2 q => by
  cases h1; cases h2
  refine ⟨rfl, ?_⟩
  have e : decide (V.int i = V.int j) = decide (i = j) := by simp
  rw [e]
  exact q _ G H (.refl gh) (.bl _)⟩
theorem c_eqS {x y : Str} : CmpD X .Eq (.str x) (.str y) (decide (x = y)) := ⟨_, op_eq, fun v1 v2 G H Q gh h1 h2 q => by
  cases h1; cases h2
  refine ⟨rfl, ?_⟩
  have e : decide (V.str x = V.str y) = decide (x = y) := by simp
  rw [e]
  exact q _ G H (.refl gh) (.bl _)⟩
theorem c_neS {x y : Str} : CmpD X .NotEq (.str x) (.str y) (!decide (x = y)) := ⟨_, op_ne, fun v1 v2 G H Q gh h1 h2 q => by
  cases h1; cases h2
  refine ⟨rfl, ?_⟩
  have e : decide (V.str x = V.str y) = decide (x = y) := by simp
  rw [e]
  exact q _ G H (.refl gh) (.bl _)⟩
theorem c_eqSS {x y : List Nat} : CmpD X .Eq (.str (S x)) (.str (S y)) (decide (x = y)) := by
  have h := c_eqS (X := X) (x := S x) (y := S y)
  have e : decide (S x = S y) = decide (x = y) := by simp [S_inj]
  rw [e] at h
  exact h
theorem c_neSS {x y : List Nat} : CmpD X .NotEq (.str (S x)) (.str (S y)) (!decide (x = y)) := by
  have h := c_neS (X := X) (x := S x) (y := S y)
  have e : decide (S x = S y) = decide (x = y) := by simp [S_inj]
  rw [e] at h
  exact h
/-- data that may be compared by == -/
def shap (d : PyData) : Bool := noDict d && SeqAt.shaped d
theorem shap_n (h : shap d = true) : noDict d = true := (Bool.and_eq_true_iff.mp h).1
theorem shap_s (h : shap d = true) : SeqAt.shaped d = true := (Bool.and_eq_true_iff.mp h).2
theorem c_eqD (hu : X.A.units + 64 < cLine) (h1 : shap d1 = true) (h2 : shap d2 = true) : CmpD X .Eq d1 d2 (PyData.eqv d1 d2) := ⟨_, op_eqD hu, fun v1 v2 G H Q gh a1 a2 q =>
  ⟨d1, d2, (a1.mono gh).dp (shap_n h1), (a2.mono gh).dp (shap_n h2), shap_s h1, shap_s h2, q _ G H (.refl gh) (.bl _)⟩⟩
theorem c_neD (hu : X.A.units + 64 < cLine) (h1 : shap d1 = true) (h2 : shap d2 = true) : CmpD X .NotEq d1 d2 (!PyData.eqv d1 d2) := ⟨_, op_neD hu, fun v1 v2 G H Q gh a1 a2 q =>
  ⟨d1, d2, (a1.mono gh).dp (shap_n h1), (a2.mono gh).dp (shap_n h2), shap_s h1, shap_s h2, q _ G H (.refl gh) (.bl _)⟩⟩
/-! ### is -/
def isNon : PyData -> Bool
  | .none => true
  | _ => false
theorem dp_isNon {K : PySem.W.Frag} {G : Hp} {v : V} (h : Dq K G v d) : decide (v = V.non) = isNon d := by
  cases h <;> simp [isNon]
theorem c_isN : CmpD X .Is d1 .none (isNon d1) := ⟨_, op_isN, fun v1 v2 G H Q gh h1 h2 q => by
  cases h2
  refine ⟨rfl, ?_⟩
  rw [dp_isNon h1]
  exact q _ G H (.refl gh) (.bl _)⟩
theorem c_notN : CmpD X .IsNot d1 .none (!isNon d1) := ⟨_, op_notN, fun v1 v2 G H Q gh h1 h2 q => by
  cases h2
  refine ⟨rfl, ?_⟩
  rw [dp_isNon h1]
  exact q _ G H (.refl gh) (.bl _)⟩
theorem c_isB {p q : Bool} : CmpD X .Is (.bool p) (.bool q) (p == q) := ⟨_, op_isBl, fun v1 v2 G H Q gh h1 h2 k => by
  cases h1; cases h2
  exact ⟨p, q, rfl, rfl, k _ G H (.refl gh) (.bl _)⟩⟩
theorem c_notB {p q : Bool} : CmpD X .IsNot (.bool p) (.bool q) (!(p == q)) := ⟨_, op_notBl, fun v1 v2 G H Q gh h1 h2 k => by
  cases h1; cases h2
  exact ⟨p, q, rfl, rfl, k _ G H (.refl gh) (.bl _)⟩⟩
/-! ### texts -/
theorem b_addS {x y : List Nat} (h : x.length + y.length ≤ 100000) : BinD X .Add (.str (S x)) (.str (S y)) (.str (S (x ++ y))) := ⟨_, op_add_str, fun v1 v2 G H Q gh h1 h2 q => by
  cases h1; cases h2
  refine ⟨_, _, rfl, rfl, by rw [S_len, S_len]; exact Nat.le_trans h (by decide), ?_⟩
  rw [S_app]
  exact q _ G H (.refl gh) (.str _)⟩
theorem foldl_app (x : Array Nat) : forall (n : Nat) (acc : Array Nat), ((List.replicate n x).foldl (· ++ ·) acc).toList = acc.toList ++ (List.replicate n x.toList).flatten
  | 0, acc => by simp
  | n + 1, acc => by
    rw [List.replicate_succ, List.foldl_cons, foldl_app x n, Array.toList_append, List.replicate_succ, List.flatten_cons, List.append_assoc]
theorem mul_S (x : List Nat) (n : Int) : Txt.mul (S x) n = S (List.replicate n.toNat x).flatten := by
  unfold Txt.mul
  by_cases h1 : n < 1
  · rw [if_pos h1]
    have e : n.toNat = 0 := by omega
    rw [e]
    rfl
  · rw [if_neg h1]
    by_cases h2 : (n == 1 || (S x).length == 0) = true
    · rw [if_pos h2]
      rw [Bool.or_eq_true] at h2
      rcases h2 with h2 | h2
      · have e : n = 1 := by simpa using h2
        rw [e]
        show S x = S (x ++ [])
        rw [List.append_nil]
      · have e : x = [] := by
          rw [S_len] at h2
          have : x.length = 0 := by simpa using h2
          exact List.length_eq_zero_iff.mp this
        subst e
        have : forall k : Nat, (List.replicate k ([] : List Nat)).flatten = [] := fun k => by
          induction k with
          | zero => rfl
          | succ k ih => rw [List.replicate_succ, List.flatten_cons, ih]; rfl
        rw [this]
    · rw [if_neg h2]
      have := foldl_app (S x).cps n.toNat #[]
      rw [S_cps] at this
      rw [S_of (⟨_⟩ : Str)]
      congr 1
theorem mulOk {x : List Nat} {n : Int} (h : x.length * n.toNat ≤ 100000) (hn : -1000000 ≤ n) (hx : n ≤ 1000000) : MulOk (S x) n := by
  refine ⟨?_, fun h1 _ => ?_, fun h1 _ => ?_⟩
  · rw [decide_eq_false (by omega), decide_eq_false (by omega)] <;> rfl
  · rw [S_len]
    intro z
    have h2 : ((x.length : Nat) : Int) ≤ (2 ^ 63 - 1) / n := by
      rw [Int.le_ediv_iff_mul_le (by omega)]
      have e : n = ((n.toNat : Nat) : Int) := by omega
      rw [e]
      have h3 : ((x.length * n.toNat : Nat) : Int) ≤ 100000 := by omega
      rw [Int.natCast_mul] at h3
      omega
    omega
  · rw [S_len]
    show decide _ = false
    exact decide_eq_false (by show ¬ _ > sizeLine; rw [sizeLine_eq]; omega)
theorem b_mulS {x : List Nat} {n : Int} (h : x.length * n.toNat ≤ 100000) (hn : -1000000 ≤ n) (hx : n ≤ 1000000) : BinD X .Mult (.str (S x)) (.int n) (.str (S (List.replicate n.toNat x).flatten)) := by
  refine ⟨fun v1 v2 H Q => ∃ x n, v1 = .str x ∧ v2 = .int n ∧ MulOk x n ∧ Q (.str (Txt.mul x n)) H, ?_, fun v1 v2 G H Q gh h1 h2 q => ?_⟩
  · intro pins s σ H v1 v2 u1 u2 Q I r1 r2 hq
    obtain ⟨x, n, rfl, rfl, ok, q⟩ := hq
    obtain ⟨t, rfl⟩ := r1
    obtain ⟨t', rfl⟩ := r2
    exact SB.mul ok fun t2 k => ⟨.str _, H, I.tok k, ⟨t2, rfl⟩, q⟩
  · cases h1; cases h2
    refine ⟨_, _, rfl, rfl, mulOk h hn hx, ?_⟩
    rw [mul_S]
    exact q _ G H (.refl gh) (.str _)
theorem c_in1 {c : Nat} {l : List Nat} : CmpD X .In (.str (S [c])) (.str (S l)) (decide (c ∈ l)) := ⟨_, op_in_sign, fun v1 v2 G H Q gh h1 h2 q => by
  cases h1; cases h2
  refine ⟨c, S l, rfl, rfl, ?_⟩
  rw [S_cps]
  exact q _ G H (.refl gh) (.bl _)⟩
/-! ### items -/
theorem x_str {l : List Nat} {c : Nat} (hl : l.length ≤ 100000) (h : atI l i = some c) : IxD X (.str (S l)) (.int i) (.str (S [c])) := ⟨_, ix_str, fun v1 v2 G H Q gh h1 h2 q => by
  cases h1; cases h2
  exact ⟨S l, i, c, rfl, rfl, by rw [S_len]; exact Nat.le_trans hl (by decide), by rw [S_cps]; exact h, q _ G H (.refl gh) (.str _)⟩⟩
theorem atI_dp {K : PySem.W.Frag} {G : Hp} {vs : List V} {ds : List PyData} (h : DqAll K G vs ds) (e : atI ds i = some d) : ∃ v, atI vs i = some v ∧ Dq K G v d := by
  unfold atI at e ⊢
  rw [h.length]
  cases hj : ixN ds.length i with
  | none => rw [hj] at e; cases e
  | some j =>
    rw [hj] at e
    exact h.get e
theorem x_lst {ds : List PyData} (h : atI ds i = some d) : IxD X (.list ds) (.int i) d := ⟨_, ix_list, fun v1 v2 G H Q gh h1 h2 q => by
  cases h2
  cases h1 with
  | lst sq al =>
    obtain ⟨v, hv, dv⟩ := atI_dp al h
    exact ⟨_, _, i, v, rfl, rfl, .inl (.inl (gh _ _ sq)), hv, q _ G H (.refl gh) dv⟩⟩
theorem x_tup {ds : List PyData} (h : atI ds i = some d) : IxD X (.tuple ds) (.int i) d := ⟨_, ix_tup, fun v1 v2 G H Q gh h1 h2 q => by
  cases h2
  cases h1 with
  | tup sq al =>
    obtain ⟨v, hv, dv⟩ := atI_dp al h
    exact ⟨_, _, i, v, rfl, rfl, sqT_mono gh sq, hv, q _ G H (.refl gh) dv⟩⟩
/-! ### lists + and * -/
theorem b_cat {xs ys : List PyData} (h : xs.length + ys.length ≤ 100000) : BinD X .Add (.list xs) (.list ys) (.list (xs ++ ys)) := ⟨_, op_cat, fun v1 v2 G H Q gh h1 h2 q => by
  cases h1 with
  | lst s1 a1 =>
    cases h2 with
    | lst s2 a2 =>
      refine ⟨_, _, _, _, rfl, rfl, gh _ _ s1, gh _ _ s2, by rw [a1.length, a2.length]; exact Nat.le_trans h (by decide), fun p hp => ?_⟩
      exact q _ _ _ (.new gh hp) (.lst upd_same ((a1.append a2).mono (same_new (gh.free hp))))⟩
theorem b_rep {xs : List PyData} (h0 : 0 ≤ i) (h1 : i ≤ 100000) (h : xs.length * i.toNat ≤ 100000) : BinD X .Mult (.list xs) (.int i) (.list (List.replicate i.toNat xs).flatten) := ⟨_, op_rep, fun v1 v2 G H Q gh h1 h2 q => by
  cases h2
  cases h1 with
  | lst s1 a1 =>
    refine ⟨_, i, _, rfl, rfl, gh _ _ s1, by omega, by omega, by rw [a1.length]; exact Nat.le_trans h (by decide), fun p hp => ?_⟩
    exact q _ _ _ (.new gh hp) (.lst upd_same ((a1.rep _).mono (same_new (gh.free hp))))⟩
end
end Gd

namespace Gd
open PySem PySem.Spec L2
section
variable {X : Cx} {e a b : Expr} {es : List Expr} {ρ : Rho} {d d1 d2 d3 : PyData} {t : TE} {pos : Pos} {i j : Int} {c c' : Bool}
/-! ### chains of comparisons -/
def GCh (X : Cx) (pos : Pos) (d1 : PyData) (ops : List CmpOp) (es : List Expr) (ρ : Rho) (c : Bool) : Prop :=
  forall (σ : L2.St) (G H : Hp) (Q : VK) (v : V) (u : Value) (pins : List (Addr × Obj)) (s : Shared), Sta X.K G H σ ρ -> Dq X.K G v d1 -> RelV v u -> Inv X pins σ H s -> (forall G' H', Ext G H G' H' -> Q (.bl c) H') ->
    Wp X (compareChain pos u ops (evalEach es X.env)) (EP X pins σ Q) s
def GTh (X : Cx) (pos : Pos) (d1 : PyData) (ops : List CmpOp) (es : List Expr) (ρ : Rho) (c : Bool) : Prop :=
  forall (σ : L2.St) (G H : Hp) (Q : Bool -> Hp -> Prop) (v : V) (u : Value) (pins : List (Addr × Obj)) (s : Shared), Sta X.K G H σ ρ -> Dq X.K G v d1 -> RelV v u -> Inv X pins σ H s -> (forall G' H', Ext G H G' H' -> Q c H') ->
    Wp X (testChain pos u ops (evalEach es X.env)) (TP X pins σ Q) s
theorem ch_last {op : CmpOp} (hb : GE X b ρ d2) (h : CmpD X op d1 d2 c) : GCh X pos d1 [op] [b] ρ c := fun σ G H Q v u pins s hs hv r I q => by
  refine Wp.mk ?_
  obtain ⟨r2, ho, hr⟩ := h
  refine PyProof.Rows.chain_last (thn (hb σ G H (fun y H2 => r2 v y H2 Q) hs (fun y G1 H1 e1 dy => hr v y G1 H1 Q e1.gh (hv.mono e1.g) dy fun z G2 H2 e2 dz => by
    cases dz
    exact q G2 H2 (e1.trans e2)) pins s I).run fun w s1 ⟨y, H1, I1, ry, q1⟩ => ?_)
  exact ho pins s1 σ H1 v y u w Q I1 r ry q1
theorem ch_link {op op' : CmpOp} {ops : List CmpOp} {b' : Expr} (hb : GE X b ρ d2) (h : CmpD X op d1 d2 c) (ht : c = true -> GCh X pos d2 (op' :: ops) (b' :: es) ρ c') : GCh X pos d1 (op :: op' :: ops) (b :: b' :: es) ρ (c && c') := fun σ G H Q v u pins s hs hv r I q => by
  refine Wp.mk ?_
  obtain ⟨r2, ho, hr⟩ := h
  show wpAny _ _ (compareChain pos u (op :: op' :: ops) (eval b X.env :: eval b' X.env :: evalEach es X.env)) _ _ _
  refine PyProof.Rows.chain_link (thn (hb σ G H (fun y H1 => ∃ G1, Ext G H G1 H1 ∧ Dq X.K G1 y d2) hs (fun y G1 H1 e1 dy => ⟨G1, e1, dy⟩) pins s I).run fun w s1 ⟨y, H1, I1, ry, G1, e1, dy⟩ => ?_)
  refine thn (ho pins s1 σ H1 v y u w (fun z H2 => z = .bl c ∧ ∃ G2, Ext G1 H1 G2 H2) I1 r ry (hr v y G1 H1 _ e1.gh (hv.mono e1.g) dy fun z G2 H2 e2 dz => by
    cases dz
    exact ⟨rfl, G2, e2⟩)) fun k s2 ⟨z, H2, I2, rz, hz, G2, e2⟩ => ?_
  subst hz
  cases rz
  refine wpAny_truthy_bool ?_
  have e12 := e1.trans e2
  cases c with
  | false => exact PyProof.Rows.ite_ff ⟨.bl false, H2, I2, rfl, q G2 H2 e12⟩
  | true => exact PyProof.Rows.ite_tt (ht rfl σ G2 H2 Q y w pins s2 (hs.ext e12) (dy.mono e2.g) ry I2 fun G3 H3 e3 => q G3 H3 (e12.trans e3)).run
theorem ge_chain {op op' : CmpOp} {ops : List CmpOp} {b' : Expr} (ha : GE X a ρ d1) (h : GCh X pos d1 (op :: op' :: ops) (b :: b' :: es) ρ c) (hm : lastMarks (op :: op' :: ops) (b :: b' :: es) = false := by with_unfolding_all rfl) : GE X (.Compare a (op :: op' :: ops) (b :: b' :: es) pos) ρ (.bool c) := fun σ G H Q hs q pins s I => by
  refine Wp.mk ?_
  refine PyProof.Rows.Compare_chain (thn (ha σ G H (fun x H1 => ∃ G1, Ext G H G1 H1 ∧ Dq X.K G1 x d1) hs (fun x G1 H1 e1 dx => ⟨G1, e1, dx⟩) pins s I).run fun v s1 ⟨x, H1, I1, rx, G1, e1, dx⟩ => ?_) hm
  exact (h σ G1 H1 Q x v pins s1 (hs.ext e1) dx rx I1 fun G2 H2 e2 => q _ G2 H2 (e1.trans e2) (.bl c)).run
theorem th_last {op : CmpOp} (hb : GE X b ρ d2) (h : CmpD X op d1 d2 c) : GTh X pos d1 [op] [b] ρ c := fun σ G H Q v u pins s hs hv r I q => by
  refine Wp.mk ?_
  obtain ⟨r2, ho, hr⟩ := h
  refine PyProof.Rows.test_last (thn (hb σ G H (fun y H1 => ∃ G1, Ext G H G1 H1 ∧ Dq X.K G1 y d2) hs (fun y G1 H1 e1 dy => ⟨G1, e1, dy⟩) pins s I).run fun w s1 ⟨y, H1, I1, ry, G1, e1, dy⟩ => ?_)
  refine thn (ho pins s1 σ H1 v y u w (fun z H2 => z = .bl c ∧ ∃ G2, Ext G1 H1 G2 H2) I1 r ry (hr v y G1 H1 _ e1.gh (hv.mono e1.g) dy fun z G2 H2 e2 dz => by
    cases dz
    exact ⟨rfl, G2, e2⟩)) fun k s2 ⟨z, H2, I2, rz, hz, G2, e2⟩ => ?_
  subst hz
  cases rz
  exact wpAny_truthy_bool ⟨H2, I2, q G2 H2 (e1.trans e2)⟩
theorem th_link {op op' : CmpOp} {ops : List CmpOp} {b' : Expr} (hb : GE X b ρ d2) (h : CmpD X op d1 d2 c) (ht : c = true -> GTh X pos d2 (op' :: ops) (b' :: es) ρ c') : GTh X pos d1 (op :: op' :: ops) (b :: b' :: es) ρ (c && c') := fun σ G H Q v u pins s hs hv r I q => by
  refine Wp.mk ?_
  obtain ⟨r2, ho, hr⟩ := h
  show wpAny _ _ (testChain pos u (op :: op' :: ops) (eval b X.env :: eval b' X.env :: evalEach es X.env)) _ _ _
  refine PyProof.Rows.test_link (thn (hb σ G H (fun y H1 => ∃ G1, Ext G H G1 H1 ∧ Dq X.K G1 y d2) hs (fun y G1 H1 e1 dy => ⟨G1, e1, dy⟩) pins s I).run fun w s1 ⟨y, H1, I1, ry, G1, e1, dy⟩ => ?_)
  refine thn (ho pins s1 σ H1 v y u w (fun z H2 => z = .bl c ∧ ∃ G2, Ext G1 H1 G2 H2) I1 r ry (hr v y G1 H1 _ e1.gh (hv.mono e1.g) dy fun z G2 H2 e2 dz => by
    cases dz
    exact ⟨rfl, G2, e2⟩)) fun k s2 ⟨z, H2, I2, rz, hz, G2, e2⟩ => ?_
  subst hz
  cases rz
  refine wpAny_truthy_bool ?_
  have e12 := e1.trans e2
  cases c with
  | false => exact PyProof.Rows.ite_ff ⟨H2, I2, q G2 H2 e12⟩
  | true => exact PyProof.Rows.ite_tt (ht rfl σ G2 H2 Q y w pins s2 (hs.ext e12) (dy.mono e2.g) ry I2 fun G3 H3 e3 => q G3 H3 (e12.trans e3)).run
theorem gt_chain {op op' : CmpOp} {ops : List CmpOp} {b' : Expr} (ha : GE X a ρ d1) (h : GTh X pos d1 (op :: op' :: ops) (b :: b' :: es) ρ c) (hm : lastMarks (op :: op' :: ops) (b :: b' :: es) = false := by with_unfolding_all rfl) : GT X (.Compare a (op :: op' :: ops) (b :: b' :: es) pos) ρ c := fun σ G H Q hs q pins s I => by
  refine Wp.mk ?_
  refine PyProof.Rows.isTrue_chain (thn (ha σ G H (fun x H1 => ∃ G1, Ext G H G1 H1 ∧ Dq X.K G1 x d1) hs (fun x G1 H1 e1 dx => ⟨G1, e1, dx⟩) pins s I).run fun v s1 ⟨x, H1, I1, rx, G1, e1, dx⟩ => ?_) hm
  exact (h σ G1 H1 Q x v pins s1 (hs.ext e1) dx rx I1 fun G2 H2 e2 => q G2 H2 (e1.trans e2)).run

/-! ### calls of built-ins by name -/
def CalD (X : Cx) (f : Value) (ds : List PyData) (d : PyData) : Prop := ∃ r, CallR X f r ∧ forall (vs : List V) (G H : Hp) (Q : VK), Same G H -> DqAll X.K G vs ds -> (forall v G' H', Ext G H G' H' -> Dq X.K G' v d -> Q v H') -> r vs H Q
theorem ev_cb {r : List V -> Hp -> VK -> Prop} {ta : TA} {ds : List PyData} (ha : EvA X.K ta ρ ds) (h : forall (vs : List V) (G H : Hp) (Q : VK), Same G H -> DqAll X.K G vs ds -> (forall v G' H', Ext G H G' H' -> Dq X.K G' v d -> Q v H') -> r vs H Q) : EvR X.K (tCB r ta) ρ d := fun σ G H Q hs q =>
  ha σ G H _ hs fun vs G1 H1 e1 dv => h vs G1 H1 Q e1.gh dv fun v G2 H2 e2 d2 => q v G2 H2 (e1.trans e2) d2
theorem ge_cb {x : Str} {id : String} {ds : List PyData} {p : Pos} (hm : X.mg x = none) (hv : bootBuiltins x = some (.builtin id)) (h : CalD X (.builtin id) ds d) (ha : GA X (e :: es) ρ ds) (hg : Gl X x := by rfl) (hn : x ≠ "__name__" := by decide) (hdb : (x == ("__debug__" : Str)) = false := by decide)
    (he : starEach (e :: es) X.env = (false, eval e X.env) :: starEach es X.env := by rfl) (hpl : (backTo pos (starEach es X.env)).any (·.1) = false := by rfl) : GE X (.Call (.Name x p) (e :: es) [] pos) ρ d := by
  obtain ⟨r, hc, hr⟩ := h
  exact ge_of (pe_callB hc hg hm hv pa_tw hn hdb he hpl) (ev_cb ha hr)
theorem ge_cty {x : Str} {T : String} {ds : List PyData} {p : Pos} (hm : X.mg x = none) (hv : bootBuiltins x = some (.type T)) (h : CalD X (.type T) ds d) (ha : GA X (e :: es) ρ ds) (hg : Gl X x := by rfl) (hn : x ≠ "__name__" := by decide) (hdb : (x == ("__debug__" : Str)) = false := by decide)
    (he : starEach (e :: es) X.env = (false, eval e X.env) :: starEach es X.env := by rfl) (hpl : (backTo pos (starEach es X.env)).any (·.1) = false := by rfl) : GE X (.Call (.Name x p) (e :: es) [] pos) ρ d := by
  obtain ⟨r, hc, hr⟩ := h
  exact ge_of (pe_callTy hc hg hm hv pa_tw hn hdb he hpl) (ev_cb ha hr)
theorem k_lenS {l : List Nat} (h : l.length ≤ 100000) : CalD X (.builtin "len") [.str (S l)] (.int l.length) := ⟨_, call_len, fun vs G H Q gh dv q => by
  cases dv with
  | cons h1 h2 =>
    cases h2; cases h1
    refine ⟨_, l.length, rfl, ⟨by rw [S_len]; exact Nat.le_trans h (by decide), by rw [S_len]⟩, q _ G H (.refl gh) (.int _)⟩⟩
theorem k_lenL {ds : List PyData} : CalD X (.builtin "len") [.list ds] (.int ds.length) := ⟨_, call_len, fun vs G H Q gh dv q => by
  cases dv with
  | cons h1 h2 =>
    cases h2
    cases h1 with
    | lst s1 a1 => exact ⟨_, ds.length, rfl, .inl ⟨_, .inl (.inl (gh _ _ s1)), a1.length.symm⟩, q _ G H (.refl gh) (.int _)⟩⟩
theorem k_lenT {ds : List PyData} : CalD X (.builtin "len") [.tuple ds] (.int ds.length) := ⟨_, call_len, fun vs G H Q gh dv q => by
  cases dv with
  | cons h1 h2 =>
    cases h2
    cases h1 with
    | tup s1 a1 => exact ⟨_, ds.length, rfl, .inr ⟨_, sqT_mono gh s1, a1.length.symm⟩, q _ G H (.refl gh) (.int _)⟩⟩
theorem scr_inj {ns ms : List Int} (h : ns.map (fun n => (PyData.int n, PyData.none)) = ms.map (fun n => (PyData.int n, PyData.none))) : ns = ms := by
  have := congrArg (List.map fun p : PyData × PyData => match p.1 with | .int n => n | _ => 0) h
  simpa [List.map_map, Function.comp_def] using this
theorem scr_adr {ns : List Int} {z : Int} (h : ns.map (fun n => (PyData.int n, PyData.none)) = [(PyData.none, PyData.int z)]) : False := by
  cases ns with
  | nil => cases h
  | cons _ _ => cases h
theorem k_lenScr {ns : List Int} : CalD X (.builtin "len") [scrD ns] (.int ns.length) := ⟨_, call_len, fun vs G H Q gh dv q => by
  cases dv with
  | cons h1 h2 =>
    cases h2
    unfold scrD at h1
    cases h1 with
    | adr e1 => exact (scr_adr e1).elim
    | scr s1 e1 =>
      obtain rfl := scr_inj e1
      exact ⟨_, ns.length, rfl, .inl ⟨_, sqL_mono gh s1, by rw [List.length_map]⟩, q _ G H (.refl gh) (.int _)⟩⟩
theorem x_scr {ns : List Int} {n : Int} (h : atI ns i = some n) : IxD X (scrD ns) (.int i) (.int n) := ⟨_, ix_list, fun v1 v2 G H Q gh h1 h2 q => by
  cases h2
  unfold scrD at h1
  cases h1 with
  | adr e1 => exact (scr_adr e1).elim
  | scr s1 e1 =>
    obtain rfl := scr_inj e1
    refine ⟨_, _, i, .int n, rfl, rfl, sqL_mono gh s1, ?_, q _ G H (.refl gh) (.int _)⟩
    unfold atI at h ⊢
    rw [List.length_map]
    cases hj : ixN ns.length i with
    | none => rw [hj] at h; cases h
    | some k =>
      rw [hj] at h
      have h' : ns[k]? = some n := h
      show (ns.map V.int)[k]? = some (.int n)
      rw [List.getElem?_map, h'] <;> rfl⟩
theorem dp_ints {K : PySem.W.Frag} {G : Hp} : forall {ns : List Int}, DpAll K G (ns.map V.int) (ns.map PyData.int)
  | [] => .nil
  | _ :: _ => .cons (.int _) dp_ints
theorem canLay_ints : forall ns : List Int, noDictAll (ns.map PyData.int) = true
  | [] => rfl
  | _ :: ns => by
    rw [List.map_cons, noDictAll, canLay_ints ns]
    rfl
/-- script != [] -/
theorem c_scrNe {ns : List Int} (hu : X.A.units + 64 < cLine) (hsh : SeqAt.shaped (.list (ns.map PyData.int)) = true) : CmpD X .NotEq (scrD ns) (.list []) (!PyData.eqv (.list (ns.map PyData.int)) (.list [])) := ⟨_, op_neD hu, fun v1 v2 G H Q gh h1 h2 q => by
  unfold scrD at h1
  cases h1 with
  | adr e1 => exact (scr_adr e1).elim
  | scr s1 e1 =>
    obtain rfl := scr_inj e1
    exact ⟨.list (ns.map PyData.int), .list [], .lst (sqL_mono gh s1) dp_ints, (h2.mono gh).dp rfl, hsh, by decide, q _ G H (.refl gh) (.bl _)⟩⟩
theorem k_min2 (hc : X.calm = true) : CalD X (.builtin "min") [.int i, .int j] (.int (if j < i then j else i)) := ⟨_, call_min2 hc, fun vs G H Q gh dv q => by
  cases dv with
  | cons h1 h2 =>
    cases h2 with
    | cons h3 h4 =>
      cases h4; cases h1; cases h3
      exact ⟨i, j, rfl, q _ G H (.refl gh) (.int _)⟩⟩
theorem k_max2 (hc : X.calm = true) : CalD X (.builtin "max") [.int i, .int j] (.int (if j > i then j else i)) := ⟨_, call_max2 hc, fun vs G H Q gh dv q => by
  cases dv with
  | cons h1 h2 =>
    cases h2 with
    | cons h3 h4 =>
      cases h4; cases h1; cases h3
      exact ⟨i, j, rfl, q _ G H (.refl gh) (.int _)⟩⟩
theorem k_all {bs : List Bool} (hc : X.calm = true) : CalD X (.builtin "all") [.list (bs.map PyData.bool)] (.bool (bs.all id)) := ⟨_, cr_all hc, fun vs G H Q gh dv q => by
  cases dv with
  | cons h1 h2 =>
    cases h2
    cases h1 with
    | lst s1 a1 =>
      rw [a1.bools] at s1
      exact ⟨_, bs, rfl, .inl (.inl (gh _ _ s1)), q _ G H (.refl gh) (.bl _)⟩⟩
theorem k_any {bs : List Bool} (hc : X.calm = true) : CalD X (.builtin "any") [.list (bs.map PyData.bool)] (.bool (bs.any id)) := ⟨_, cr_any hc, fun vs G H Q gh dv q => by
  cases dv with
  | cons h1 h2 =>
    cases h2
    cases h1 with
    | lst s1 a1 =>
      rw [a1.bools] at s1
      exact ⟨_, bs, rfl, .inl (.inl (gh _ _ s1)), q _ G H (.refl gh) (.bl _)⟩⟩
theorem k_sum {ns : List Int} (hc : X.calm = true) : CalD X (.builtin "sum") [.list (ns.map PyData.int)] (.int ns.sum) := ⟨_, cr_sum hc, fun vs G H Q gh dv q => by
  cases dv with
  | cons h1 h2 =>
    cases h2
    cases h1 with
    | lst s1 a1 =>
      rw [a1.ints] at s1
      exact ⟨_, ns, rfl, .inl (.inl (gh _ _ s1)), q _ G H (.refl gh) (.int _)⟩⟩

/-! ### isinstance(x, T) -/
def tyN : PyData -> String
  | .none => "NoneType"
  | .bool _ => "bool"
  | .int _ => "int"
  | .str _ => "str"
  | .list _ => "list"
  | .tuple _ => "tuple"
  | .dict _ => "list"
theorem dq_ty {K : PySem.W.Frag} {G H : Hp} {v : V} (gh : Same G H) (hd : noDict d = true) (h : Dq K G v d) : TyX K H v (.type (tyN d)) := by
  cases h with
  | non => exact .base .non
  | bl b => exact .base (.bl b)
  | int i => exact .base (.int i)
  | str x => exact .base (.str x)
  | lst s a => exact .base (.lst (gh _ _ s))
  | tup s a =>
    rcases s with (s | ⟨o, s⟩) | ⟨o, its, n, hk, hc, _⟩
    · exact .base (.tup (gh _ _ s))
    · exact .fTuple (gh _ _ s)
    · exact .kTuple hk hc
  | scr s e => simp [noDict] at hd
  | adr e => simp [noDict] at hd
theorem ge_isi {T : Str} {U : String} {p pT : Pos} (hm : X.mg "isinstance" = none) (hmT : X.mg T = none) (hv : bootBuiltins T = some (.type U)) (h : GE X a ρ d) (hd : noDict d = true) (hk : kitB (tyN d) U = some c) (hg : Gl X "isinstance" := by rfl) (hgT : Gl X T := by rfl)
    (hnT : T ≠ "__name__" := by decide) (hdT : (T == ("__debug__" : Str)) = false := by decide)
    (hs1 : starEach [a, .Name T pT] X.env = (false, eval a X.env) :: starEach [.Name T pT] X.env := by rfl) (hs2 : starEach [.Name T pT] X.env = (false, eval (.Name T pT) X.env) :: starEach [] X.env := by rfl) (hpl : (backTo pos (starEach [.Name T pT] X.env)).any (·.1) = false := by rfl) :
    GE X (.Call (.Name "isinstance" p) [a, .Name T pT] [] pos) ρ (.bool c) :=
  ge_of (pe_callB call_isi hg hm (by decide +kernel) (pa_cons pe_tw (pa_cons (pe_bltn (v := .ty U) hgT hmT hv rfl hnT hdT) pa_nil hs2) hs1) (by decide) (by decide) hs1 hpl) fun σ G H Q hs q =>
    h σ G H _ hs fun v G1 H1 e1 dv => ⟨v, .ty U, .type (tyN d), .type U, c, rfl, .ty U, dq_ty e1.gh hd dv, kit_ty hk, q _ G1 H1 e1 (.bl c)⟩
end
end Gd

namespace Gd
open PySem PySem.Spec L2
/-! ### blocks -/
/-- a def's entry: the part that stays, the whole -/
structure En where
  g : Hp
  h : Hp
  /-- a part that is kept, besides -/
  p : Hp := fun _ => none
structure ExN (N : En) (G H : Hp) : Prop extends Ext N.g N.h G H where
  pin : Same N.p G
theorem ExN.trans {N : En} {G H G' H' : Hp} (a : ExN N G H) (b : Ext G H G' H') : ExN N G' H' := ⟨a.toExt.trans b, a.pin.trans b.g⟩
/-- a dict of the caller's that a def may fill: where, what holds of its entries -/
structure Mem where
  q : Addr
  hs : NestedKey -> Int
  I : List (PyData × PyData) -> Prop
structure Post where
  nx : Rho -> Prop
  rt : PyData -> Prop
  bk : Rho -> Prop := fun _ => False
  ct : Rho -> Prop := fun _ => False
  mm : Option Mem := none
def MemOk (K : PySem.W.Frag) (G H : Hp) : Option Mem -> Prop
  | none => True
  | some m => ∃ o kvs, G m.q = none ∧ H m.q = some (dR m.q o) ∧ DicV K G m.hs m.q o kvs ∧ m.I kvs
def MRet (ρ : Rho) : Option Mem -> Prop
  | none => True
  | some m => ∃ (i : Nat) (kvs : List (PyData × PyData)), ρ[i]? = some (Cell.owx (.memo m.q m.hs kvs)) ∧ m.I kvs
theorem MRet.ok {K : PySem.W.Frag} {G H : Hp} {σ : L2.St} {ρ : Rho} {m : Option Mem} (h : MRet ρ m) (s : Sta K G H σ ρ) : MemOk K G H m := by
  cases m with
  | none => trivial
  | some m =>
    obtain ⟨i, kvs, h1, h2⟩ := h
    obtain ⟨p, u, e1, e2, e3, rfl, o, rfl, e5⟩ := s.owx h1
    exact ⟨o, kvs, e2, e3, e5, h2⟩
/-- the state of a def's body: P is a part that is kept -/
def Fr (K : PySem.W.Frag) (N : En) (P : Hp) (σ : L2.St) (H : Hp) (ρ : Rho) : Prop :=
  ∃ G, ExN N G H ∧ Same P G ∧ Sta K G H σ ρ ∧ forall (i : Nat) (ds : Own) (p : Addr), ρ[i]? = some (.owx ds) -> σ[i]? = some (some (.ref p)) -> N.h p = none
def Rt (K : PySem.W.Frag) (N : En) (P : Hp) (m : Option Mem) (v : V) (H : Hp) (d : PyData) : Prop := ∃ G, ExN N G H ∧ Same P G ∧ Dq K G v d ∧ MemOk K G H m
def ends (K : PySem.W.Frag) (N : En) (P : Hp) (Φ : Post) : Ends where
  nx := fun σ H => ∃ ρ, Fr K N P σ H ρ ∧ Φ.nx ρ
  rt := fun v H => ∃ d, Rt K N P Φ.mm v H d ∧ Φ.rt d
  bk := fun σ H => ∃ ρ, Fr K N P σ H ρ ∧ Φ.bk ρ
  ct := fun σ H => ∃ ρ, Fr K N P σ H ρ ∧ Φ.ct ρ
def tws (X : Cx) (ss : List Stmt) : TS := fun D σ H => forall pins s, Inv X pins σ H s -> Wp X (execs ss X.env) (SP X pins D) s
def twp (X : Cx) (st : Stmt) : TS := fun D σ H => forall pins s, Inv X pins σ H s -> Wp X (exec st X.env) (SP X pins D) s
theorem pss_tw {X : Cx} {ss : List Stmt} : PSs X ss (tws X ss) := ⟨fun pins s _ _ _ I h => (h pins s I).run⟩
theorem ps_tw {X : Cx} {st : Stmt} : PS X st (twp X st) := ⟨fun pins s _ _ _ I h => (h pins s I).run⟩
def GS (X : Cx) (N : En) (ss : List Stmt) (ρ : Rho) (Φ : Post) : Prop := forall (P : Hp) (σ : L2.St) (H : Hp), Fr X.K N P σ H ρ -> tws X ss (ends X.K N P Φ) σ H
def G1 (X : Cx) (N : En) (st : Stmt) (ρ : Rho) (Φ : Post) : Prop := forall (P : Hp) (σ : L2.St) (H : Hp), Fr X.K N P σ H ρ -> twp X st (ends X.K N P Φ) σ H
structure EndsLe (D D' : Ends) : Prop where
  nx : forall σ H, D.nx σ H -> D'.nx σ H
  rt : forall v H, D.rt v H -> D'.rt v H
  bk : forall σ H, D.bk σ H -> D'.bk σ H
  ct : forall σ H, D.ct σ H -> D'.ct σ H
theorem sp_mono {X : Cx} {pins : List (Addr × Obj)} {D D' : Ends} {f : Flow} {s : Shared} (l : EndsLe D D') (h : SP X pins D f s) : SP X pins D' f s := by
  cases f with
  | next => obtain ⟨σ, H, I, q⟩ := h; exact ⟨σ, H, I, l.nx _ _ q⟩
  | brk => obtain ⟨σ, H, I, q⟩ := h; exact ⟨σ, H, I, l.bk _ _ q⟩
  | cont => obtain ⟨σ, H, I, q⟩ := h; exact ⟨σ, H, I, l.ct _ _ q⟩
  | ret u => obtain ⟨v, σ, H, I, r, q⟩ := h; exact ⟨v, σ, H, I, r, l.rt _ _ q⟩
theorem twp_mono {X : Cx} {st : Stmt} {D D' : Ends} {σ : L2.St} {H : Hp} (l : EndsLe D D') (h : twp X st D σ H) : twp X st D' σ H := fun pins s I => ⟨thn (h pins s I).run fun _ _ q => sp_mono l q⟩
theorem tws_mono {X : Cx} {ss : List Stmt} {D D' : Ends} {σ : L2.St} {H : Hp} (l : EndsLe D D') (h : tws X ss D σ H) : tws X ss D' σ H := fun pins s I => ⟨thn (h pins s I).run fun _ _ q => sp_mono l q⟩
theorem Fr.weakP {K : PySem.W.Frag} {N : En} {P P' : Hp} {σ : L2.St} {H : Hp} {ρ : Rho} (f : Fr K N P σ H ρ) (s : Same P' P) : Fr K N P' σ H ρ := by
  obtain ⟨G, a, b, c⟩ := f
  exact ⟨G, a, s.trans b, c⟩
theorem ends_weakP {K : PySem.W.Frag} {N : En} {P P' : Hp} {Φ : Post} (s : Same P' P) : EndsLe (ends K N P Φ) (ends K N P' Φ) :=
  ⟨fun _ _ ⟨ρ, f, q⟩ => ⟨ρ, f.weakP s, q⟩, fun _ _ ⟨d, ⟨G, a, b, c⟩, q⟩ => ⟨d, ⟨G, a, s.trans b, c⟩, q⟩, fun _ _ ⟨ρ, f, q⟩ => ⟨ρ, f.weakP s, q⟩, fun _ _ ⟨ρ, f, q⟩ => ⟨ρ, f.weakP s, q⟩⟩
section
variable {X : Cx} {N : En} {st : Stmt} {rest body orelse : List Stmt} {e a b : Expr} {es : List Expr} {ρ ρ' : Rho} {d d1 d2 : PyData} {pos pos' : Pos} {Φ : Post} {k : Bool} {K : PySem.W.Frag} {P : Hp} {σ : L2.St} {H : Hp} {t : TS}
theorem gs_nil (h : Φ.nx ρ) : GS X N [] ρ Φ := fun P σ H f => fun pins s I => ⟨pss_nil.run pins s σ H _ I ⟨ρ, f, h⟩⟩
theorem gs_cons (h : G1 X N st ρ { Φ with nx := fun ρ' => GS X N rest ρ' Φ }) : GS X N (st :: rest) ρ Φ := fun P σ H f pins s I => Wp.mk <|
  (pss_cons ps_tw pss_tw).run pins s σ H _ I (twp_mono (D := ends X.K N P { Φ with nx := fun ρ' => GS X N rest ρ' Φ }) ⟨fun _ _ ⟨_, f', g⟩ => g P _ _ f', fun _ _ q => q, fun _ _ q => q, fun _ _ q => q⟩ (h P σ H f))
theorem g1_of (h : PS X st t) (hr : forall P σ H, Fr X.K N P σ H ρ -> t (ends X.K N P Φ) σ H) : G1 X N st ρ Φ := fun P σ H f pins s I => ⟨h.run pins s σ H _ I (hr P σ H f)⟩
/-- an expression, then what is to be shown of the state behind it -/
theorem Fr.ev {te : TE} {Q : VK} (f : Fr K N P σ H ρ) (h : EvR K te ρ d) (q : forall v G H', ExN N G H' -> Same P G -> Sta K G H' σ ρ -> (forall (i : Nat) (ds : Own) (p : Addr), ρ[i]? = some (.owx ds) -> σ[i]? = some (some (.ref p)) -> N.h p = none) -> Dq K G v d -> Q v H') : te σ H Q := by
  obtain ⟨G, e0, sp, sta, fr⟩ := f
  exact h σ G H Q sta fun v G' H' e1 dv => q v G' H' (e0.trans e1) (sp.trans e1.g) (sta.ext e1) fr dv
theorem Fr.evT {tt : TT} {Q : Bool -> Hp -> Prop} (f : Fr K N P σ H ρ) (h : EvT K tt ρ k) (q : forall H', Fr K N P σ H' ρ -> Q k H') : tt σ H Q := by
  obtain ⟨G, e0, sp, sta, fr⟩ := f
  exact h σ G H Q sta fun G' H' e1 => q H' ⟨G', e0.trans e1, sp.trans e1.g, sta.ext e1, fr⟩
theorem fresh_set {σ : L2.St} {h0 : Hp} {i : Nat} {v : V} (fr : forall (i : Nat) (ds : Own) (p : Addr), ρ[i]? = some (.owx ds) -> σ[i]? = some (some (.ref p)) -> h0 p = none) :
    forall (j : Nat) (ds : Own) (p : Addr), (ρ.set i (.dat d))[j]? = some (.owx ds) -> (σ.set i (some v))[j]? = some (some (.ref p)) -> h0 p = none := fun j ds p h1 h2 => by
  have n : i ≠ j := fun z => by
    subst z
    have hl := (List.getElem?_eq_some_iff.mp h1).1
    rw [List.length_set] at hl
    rw [List.getElem?_set_self hl] at h1
    cases h1
  rw [List.getElem?_set_ne n] at h1 h2
  exact fr j ds p h1 h2
/-! ### statements -/
theorem g1_set (i : Nat) {x : Str} (he : GE X e ρ d) (h : Φ.nx (ρ.set i (.dat d))) (hN : X.N.Nodup) (hi : X.N[i]? = some x := by rfl) (hx : Loc X.env.scope x := by first | exact Or.inl rfl | exact Or.inr rfl) (hs : swapsWith e (some (.Name x pos')) pos.line X.env = pure false := by rfl)
    (hf : X.fn x = true ∨ X.env.scope.names.lookup x = some .local := by first | exact .inl rfl | exact .inr rfl | assumption) : G1 X N (.Assign [.Name x pos'] e pos) ρ Φ :=
  g1_of (ps_set hN hi hx pe_tw hs hf) fun P σ H f => f.ev he fun v G H' e1 sp sta fr dv => ⟨_, ⟨G, e1, sp, sta.set i dv, fresh_set fr⟩, h⟩
theorem g1_expr (he : GE X e ρ d) (h : Φ.nx ρ) (hs : swapsWith e none pos.line X.env = pure false := by rfl) : G1 X N (.Expr e pos) ρ Φ :=
  g1_of (ps_expr pe_tw hs) fun P σ H f => f.ev he fun v G H' e1 sp sta fr dv => ⟨_, ⟨G, e1, sp, sta, fr⟩, h⟩
theorem g1_ret (he : GE X e ρ d) (h : Φ.rt d) (hm : MRet ρ Φ.mm := by exact trivial) : G1 X N (.Return (some e) pos) ρ Φ :=
  g1_of (ps_ret pe_tw) fun P σ H f => f.ev he fun v G H' e1 sp sta fr dv => ⟨d, ⟨G, e1, sp, dv, hm.ok sta⟩, h⟩
theorem g1_retN (h : Φ.rt .none) (hm : MRet ρ Φ.mm := by exact trivial) : G1 X N (.Return none pos) ρ Φ :=
  g1_of ps_retN fun P σ H f => by
    obtain ⟨G, e0, sp, sta, fr⟩ := f
    exact ⟨.none, ⟨G, e0, sp, .non, hm.ok sta⟩, h⟩
theorem g1_pass (h : Φ.nx ρ) : G1 X N (.Pass pos) ρ Φ := g1_of ps_pass fun P σ H f => ⟨ρ, f, h⟩
theorem g1_break (h : Φ.bk ρ) : G1 X N (.Break pos) ρ Φ := g1_of ps_break fun P σ H f => ⟨ρ, f, h⟩
theorem g1_cont (h : Φ.ct ρ) : G1 X N (.Continue pos) ρ Φ := g1_of ps_continue fun P σ H f => ⟨ρ, f, h⟩
theorem g1_if {c : Expr} (hc : GT X c ρ k) (ht : k = true -> GS X N body ρ Φ) (hf : k = false -> GS X N orelse ρ Φ) : G1 X N (.If c body orelse pos) ρ Φ :=
  g1_of (ps_if pt_tw pss_tw pss_tw) fun P σ H f => f.evT hc fun H' f' => by
    cases k with
    | true => rw [if_pos rfl]; exact ht rfl P σ H' f'
    | false => rw [if_neg Bool.false_ne_true]; exact hf rfl P σ H' f'
/-- forgetting -/
theorem Fr.weak (f : Fr K N P σ H ρ) (hl : ρ'.length = ρ.length) (h : forall (i : Nat) (c : Cell), ρ'[i]? = some c -> c = Cell.any ∨ ρ[i]? = some c) : Fr K N P σ H ρ' := by
  obtain ⟨G, e0, sp, sta, fr⟩ := f
  refine ⟨G, e0, sp, sta.weak hl h, fun i ds p h1 h2 => ?_⟩
  rcases h i _ h1 with z | z
  · cases z
  · exact fr i ds p z h2
/-! ### targets -/
inductive Tg where
  | nm (i : Nat) | tp (is : List Nat)
def putAll : List Nat -> List PyData -> Rho -> Option Rho
  | [], [], ρ => some ρ
  | i :: is, d :: ds, ρ => putAll is ds (ρ.set i (.dat d))
  | _, _, _ => none
def Tg.put : Tg -> PyData -> Rho -> Option Rho
  | .nm i, d, ρ => some (ρ.set i (.dat d))
  | .tp is, .tuple ds, ρ => putAll is ds ρ
  | _, _, _ => none
def Tg.sl : Tg -> List Nat
  | .nm i => [i]
  | .tp is => is
def rdAll : List Nat -> TGs
  | [] => gNil
  | i :: is => gCons (gName i) (rdAll is)
def Tg.rd (K : PySem.W.Frag) : Tg -> TG
  | .nm i => gName i
  | .tp is => gTup K is.length (rdAll is)
def GTg (X : Cx) (tg : Expr) (T : Tg) : Prop := PG X tg (T.rd X.K)
theorem tg_nm (i : Nat) {x : Str} (hN : X.N.Nodup) (hi : X.N[i]? = some x := by rfl) (hx : Loc X.env.scope x := by first | exact Or.inl rfl | exact Or.inr rfl) (hf : X.fn x = true ∨ X.env.scope.names.lookup x = some .local := by first | exact .inl rfl | exact .inr rfl | assumption) : GTg X (.Name x pos) (.nm i) := pg_name hN hi hx hf
theorem tg_tp {is : List Nat} {k : Nat} (h : PGs X es (rdAll is)) (hc : X.calm = true := by rfl) (hn : (assignEach es X.env).length = is.length := by rfl) (hst : (assignEach es X.env).findIdx? (·.1) = none := by rfl) : GTg X (.Tuple es k pos) (.tp is) := pg_tup hc h hn hst
theorem tgs_nil : PGs X [] (rdAll []) := pgs_nil
theorem tgs_cons (i : Nat) {is : List Nat} {x : Str} (hN : X.N.Nodup) (h : PGs X es (rdAll is)) (hi : X.N[i]? = some x := by rfl) (hx : Loc X.env.scope x := by first | exact Or.inl rfl | exact Or.inr rfl) (hf : X.fn x = true ∨ X.env.scope.names.lookup x = some .local := by first | exact .inl rfl | exact .inr rfl | assumption)
    (hs : (assignEach (.Name x pos :: es) X.env).map (·.2) = assign (.Name x pos) X.env :: (assignEach es X.env).map (·.2) := by rfl) : PGs X (.Name x pos :: es) (rdAll (i :: is)) := pgs_cons (pg_name hN hi hx hf) h hs
theorem rdAll_ok {K : PySem.W.Frag} {G H : Hp} {Q : L2.St -> Hp -> Prop} : forall {is : List Nat} {ds : List PyData} {vs : List V} {ρ ρ' : Rho} {σ : L2.St}, putAll is ds ρ = some ρ' -> Sta K G H σ ρ -> DqAll K G vs ds ->
    (forall σ', Sta K G H σ' ρ' -> (forall j, j ∉ is -> σ'[j]? = σ[j]?) -> Q σ' H) -> rdAll is vs σ H Q
  | [], [], _, _, _, _, e, s, .nil, q => by
    cases e
    exact ⟨rfl, q _ s fun _ _ => rfl⟩
  | i :: is, d :: ds, _, ρ, ρ', σ, e, s, .cons (v := v) h t, q => by
    refine ⟨_, _, rfl, ?_⟩
    refine rdAll_ok (is := is) (ds := ds) (ρ := ρ.set i (.dat d)) (σ := σ.set i (some v)) e (s.set i h) t fun σ' s' hj => q σ' s' fun j hn => ?_
    rw [hj j (fun z => hn (List.mem_cons_of_mem _ z)), List.getElem?_set_ne (fun z => hn (by rw [z]; exact List.mem_cons_self))]
  | [], _ :: _, _, _, _, _, e, _, _, _ => by simp [putAll] at e
  | _ :: _, [], _, _, _, _, e, _, _, _ => by simp [putAll] at e
theorem putAll_own {ds' : Own} {j : Nat} : forall {is : List Nat} {ds : List PyData} {ρ ρ' : Rho}, putAll is ds ρ = some ρ' -> ρ'[j]? = some (.owx ds') -> j ∉ is ∧ ρ[j]? = some (.owx ds')
  | [], [], _, _, e, h => by cases e; exact ⟨by simp, h⟩
  | i :: is, d :: ds, ρ, ρ', e, h => by
    obtain ⟨h1, h2⟩ := putAll_own (is := is) (ds := ds) (ρ := ρ.set i (.dat d)) e h
    have n : i ≠ j := fun z => by
      subst z
      have hl := (List.getElem?_eq_some_iff.mp h2).1
      rw [List.length_set] at hl
      rw [List.getElem?_set_self hl] at h2
      cases h2
    rw [List.getElem?_set_ne n] at h2
    exact ⟨fun z => (List.mem_cons.mp z).elim (fun y => n y.symm) h1, h2⟩
  | [], _ :: _, _, _, e, _ => by simp [putAll] at e
  | _ :: _, [], _, _, e, _ => by simp [putAll] at e
theorem Tg.put_own {T : Tg} {j : Nat} {ds' : Own} (h : T.put d ρ = some ρ') (ho : ρ'[j]? = some (.owx ds')) : j ∉ T.sl ∧ ρ[j]? = some (.owx ds') := by
  cases T with
  | nm i =>
    have e : ρ.set i (.dat d) = ρ' := Option.some.inj h
    subst e
    have n : i ≠ j := fun z => by
      subst z
      have hl := (List.getElem?_eq_some_iff.mp ho).1
      rw [List.length_set] at hl
      rw [List.getElem?_set_self hl] at ho
      cases ho
    rw [List.getElem?_set_ne n] at ho
    exact ⟨by simpa [Tg.sl] using fun z : j = i => n z.symm, ho⟩
  | tp is =>
    cases d with
    | tuple ds => exact putAll_own h ho
    | _ => cases h
theorem Tg.rd_ok {T : Tg} {G : Hp} {v : V} {Q : L2.St -> Hp -> Prop} (hp : T.put d ρ = some ρ') (s : Sta K G H σ ρ) (dv : Dq K G v d) (q : forall σ', Sta K G H σ' ρ' -> (forall j, j ∉ T.sl -> σ'[j]? = σ[j]?) -> Q σ' H) : T.rd K v σ H Q := by
  cases T with
  | nm i =>
    have e : ρ.set i (.dat d) = ρ' := Option.some.inj hp
    subst e
    exact q _ (s.set i dv) fun j hj => List.getElem?_set_ne (fun z => hj (by rw [z]; simp [Tg.sl]))
  | tp is =>
    cases dv with
    | tup sq al =>
      refine ⟨_, _, rfl, sqT_mono s.gh sq, ?_, ?_⟩
      · have l1 : forall {is : List Nat} {ds : List PyData} {ρ ρ' : Rho}, putAll is ds ρ = some ρ' -> ds.length = is.length := fun {is} => by
          induction is with
          | nil => intro ds ρ ρ' e; cases ds with
            | nil => rfl
            | cons _ _ => simp [putAll] at e
          | cons i is ih => intro ds ρ ρ' e; cases ds with
            | nil => simp [putAll] at e
            | cons _ ds => rw [List.length_cons, List.length_cons, ih (ds := ds) e]
        rw [al.length]
        exact l1 hp
      · exact rdAll_ok hp s al q
    | _ => cases hp
theorem g1_asg {tg : Expr} {T : Tg} (ht : GTg X tg T) (he : GE X e ρ d) (hp : T.put d ρ = some ρ') (h : Φ.nx ρ') (hs : swapsWithSole [tg] e pos.line X.env = pure false := by rfl) (hw : swappedStores [tg] e X.env = pure none := by rfl)
    (h1 : (assignEach [tg] X.env).map (·.2) = [assign tg X.env] := by rfl) : G1 X N (.Assign [tg] e pos) ρ Φ :=
  g1_of (ps_asg pe_tw ht hs hw h1) fun P σ H f => f.ev he fun v G H' e1 sp sta fr dv => Tg.rd_ok hp sta dv fun σ' s' hj => ⟨ρ', ⟨G, e1, sp, s', fun i ds p o1 o2 => by
    obtain ⟨n1, n2⟩ := Tg.put_own hp o1
    rw [hj i n1] at o2
    exact fr i ds p n2 o2⟩, h⟩
theorem Fr.evA {ta : TA} {ds : List PyData} {Q : List V -> Hp -> Prop} (f : Fr K N P σ H ρ) (h : EvA K ta ρ ds) (q : forall v G H', ExN N G H' -> Same P G -> Sta K G H' σ ρ -> (forall (i : Nat) (ds : Own) (p : Addr), ρ[i]? = some (.owx ds) -> σ[i]? = some (some (.ref p)) -> N.h p = none) -> DqAll K G v ds -> Q v H') : ta σ H Q := by
  obtain ⟨G, e0, sp, sta, fr⟩ := f
  exact h σ G H Q sta fun v G' H' e1 dv => q v G' H' (e0.trans e1) (sp.trans e1.g) (sta.ext e1) fr dv
/-- a, b = e1, e2 -/
theorem g1_par (i j : Nat) {x y : Str} {px py pt pt2 : Pos} {kt k2 : Nat} (ha : GA X [a, b] ρ [d1, d2]) (h : Φ.nx ((ρ.set i (.dat d1)).set j (.dat d2))) (hN : X.N.Nodup) (hw : swappedStores [.Tuple [.Name x px, .Name y py] kt pt] (.Tuple [a, b] k2 pt2) X.env = pure (some [x, y]) := by rfl) (hc : X.calm = true := by rfl)
    (hi : X.N[i]? = some x := by rfl) (hj : X.N[j]? = some y := by rfl) (hij : i ≠ j := by decide) (hx : X.env.scope.names.lookup x = some .local := by rfl) (hy : X.env.scope.names.lookup y = some .local := by rfl)
    (hs : swapsWithSole [.Tuple [.Name x px, .Name y py] kt pt] (.Tuple [a, b] k2 pt2) pos.line X.env = pure false := by rfl) : G1 X N (.Assign [.Tuple [.Name x px, .Name y py] kt pt] (.Tuple [a, b] k2 pt2) pos) ρ Φ :=
  g1_of (ps_par hc hN hi hj hij hx hy pa_tw hw hs) fun P σ H f => f.evA ha fun vs G H' e1 sp sta fr dv => by
    cases dv with
    | cons h1 h2 =>
      cases h2 with
      | cons h3 h4 =>
        cases h4
        exact ⟨_, _, rfl, _, ⟨G, e1, sp, (sta.set i h1).set j h3, fresh_set (fresh_set fr)⟩, h⟩
theorem g1_par3 (i j l : Nat) {x y z : Str} {c : Expr} {d3 : PyData} {px py pz pt pt2 : Pos} {kt k2 : Nat} (ha : GA X [a, b, c] ρ [d1, d2, d3]) (h : Φ.nx (((ρ.set i (.dat d1)).set j (.dat d2)).set l (.dat d3))) (hN : X.N.Nodup)
    (hw : swappedStores [.Tuple [.Name x px, .Name y py, .Name z pz] kt pt] (.Tuple [a, b, c] k2 pt2) X.env = pure (some [x, y, z]) := by rfl) (hc : X.calm = true := by rfl)
    (hi : X.N[i]? = some x := by rfl) (hj : X.N[j]? = some y := by rfl) (hl : X.N[l]? = some z := by rfl) (hij : i ≠ j := by decide) (hil : i ≠ l := by decide) (hjl : j ≠ l := by decide) (hx : X.env.scope.names.lookup x = some .local := by rfl) (hy : X.env.scope.names.lookup y = some .local := by rfl) (hz : X.env.scope.names.lookup z = some .local := by rfl)
    (hs : swapsWithSole [.Tuple [.Name x px, .Name y py, .Name z pz] kt pt] (.Tuple [a, b, c] k2 pt2) pos.line X.env = pure false := by rfl) : G1 X N (.Assign [.Tuple [.Name x px, .Name y py, .Name z pz] kt pt] (.Tuple [a, b, c] k2 pt2) pos) ρ Φ :=
  g1_of (ps_par3 hc hN hi hj hl hij hil hjl hx hy hz pa_tw hw hs) fun P σ H f => f.evA ha fun vs G H' e1 sp sta fr dv => by
    cases dv with
    | cons h1 h2 =>
      cases h2 with
      | cons h3 h4 =>
        cases h4 with
        | cons h5 h6 =>
          cases h6
          exact ⟨_, _, _, rfl, _, ⟨G, e1, sp, ((sta.set i h1).set j h3).set l h5, fresh_set (fresh_set (fresh_set fr))⟩, h⟩
end
end Gd

namespace Gd
open PySem PySem.Spec L2
section
variable {X : Cx} {N : En} {st : Stmt} {rest body orelse ss : List Stmt} {e a b : Expr} {es : List Expr} {ρ ρ' : Rho} {d d1 d2 : PyData} {ds : List PyData} {pos pos' : Pos} {Φ : Post} {k : Bool} {K : PySem.W.Frag} {P : Hp} {σ : L2.St} {G H : Hp} {t : TS} {p : Addr} {vs : List V}
/-! ### lists of the frame's own -/
theorem set_get {α : Type} {l : List α} {i j : Nat} {x y : α} (h : (l.set i x)[j]? = some y) : (i = j ∧ y = x) ∨ (i ≠ j ∧ l[j]? = some y) := by
  by_cases hij : i = j
  · subst hij
    have hl := (List.getElem?_eq_some_iff.mp h).1
    rw [List.length_set] at hl
    rw [List.getElem?_set_self hl] at h
    exact .inl ⟨rfl, (Option.some.inj h).symm⟩
  · rw [List.getElem?_set_ne hij] at h
    exact .inr ⟨hij, h⟩
theorem Sta.setOwx {u : HO} {x : Own} (s : Sta K G H σ ρ) (i : Nat) (hp : H p = none) (ok : OwnOk K G p u x) : Sta K G (upd H p u) (σ.set i (some (.ref p))) (ρ.set i (.owx x)) := by
  have ext : Ext G H G (upd H p u) := ⟨Same.refl G, same_new hp, s.gh.trans (same_new hp), fun _ _ => rfl⟩
  refine ⟨ext.gh, by rw [List.length_set, List.length_set]; exact s.len, fun j c hc => ?_, fun a b q es fs h1 h2 h3 h4 => ?_⟩
  · rcases set_get hc with ⟨rfl, rfl⟩ | ⟨hij, hc⟩
    · have hl := (List.getElem?_eq_some_iff.mp hc).1
      rw [List.length_set] at hl
      exact ⟨_, List.getElem?_set_self (by rw [s.len]; exact hl), p, u, rfl, s.gh.free hp, upd_same, ok⟩
    · obtain ⟨ov, e1, e2⟩ := s.at_ j c hc
      exact ⟨ov, by rw [List.getElem?_set_ne hij]; exact e1, e2.ext ext⟩
  · have old : forall (j : Nat) (es : Own), i ≠ j -> ρ[j]? = some (.owx es) -> σ[j]? = some (some (.ref q)) -> q ≠ p := fun j es _ o1 o2 z => by
      obtain ⟨p', u', e1, e2, e3, _⟩ := s.owx o1
      rw [o2] at e1
      cases e1
      rw [z, hp] at e3
      cases e3
    rcases set_get h1 with ⟨rfl, _⟩ | ⟨n1, o1⟩
    · rcases set_get h2 with ⟨rfl, _⟩ | ⟨n2, o2⟩
      · rfl
      · rw [List.getElem?_set_ne n2] at h4
        rcases set_get h3 with ⟨_, z⟩ | ⟨z, _⟩
        · cases z
          exact absurd rfl (old b fs n2 o2 h4)
        · exact absurd rfl z
    · rw [List.getElem?_set_ne n1] at h3
      rcases set_get h2 with ⟨rfl, _⟩ | ⟨n2, o2⟩
      · rcases set_get h4 with ⟨_, z⟩ | ⟨z, _⟩
        · cases z
          exact absurd rfl (old a es n1 o1 h3)
        · exact absurd rfl z
      · rw [List.getElem?_set_ne n2] at h4
        exact s.apart a b q es fs o1 o2 h3 h4
theorem Sta.setOwn (s : Sta K G H σ ρ) (i : Nat) (hp : H p = none) (dv : DqAll K G vs ds) : Sta K G (upd H p (.lst vs)) (σ.set i (some (.ref p))) (ρ.set i (.own ds)) := s.setOwx i hp ⟨vs, rfl, dv⟩
theorem Sta.mutOwx {i : Nat} {u : HO} {x y : Own} (s : Sta K G H σ ρ) (hi : ρ[i]? = some (.owx x)) (hp : σ[i]? = some (some (.ref p))) (ok : OwnOk K G p u y) : Sta K G (upd H p u) σ (ρ.set i (.owx y)) := by
  obtain ⟨p', vs0, e1, e2, e3, _⟩ := s.owx hi
  rw [hp] at e1
  cases e1
  have gh : Same G (upd H p u) := fun b o e => by rw [upd_ne (ne_of_none e e2)]; exact s.gh b o e
  refine ⟨gh, by rw [List.length_set]; exact s.len, fun j c hc => ?_, fun a b q xs ys h1 h2 h3 h4 => ?_⟩
  · rcases set_get hc with ⟨rfl, rfl⟩ | ⟨hij, hc⟩
    · exact ⟨_, hp, p, u, rfl, e2, upd_same, ok⟩
    · obtain ⟨ov, o1, o2⟩ := s.at_ j c hc
      refine ⟨ov, o1, ?_⟩
      cases c with
      | any => trivial
      | raw v => exact o2
      | dat d => exact o2
      | fdc hs kvs => exact o2
      | pin v φ => exact o2
      | owx xs =>
        obtain ⟨q, ws, r1, r2, r3, r4⟩ := o2
        subst r1
        have n : q ≠ p := fun z => by
          subst z
          exact hij (s.apart i j q _ _ hi hc hp o1)
        exact ⟨q, ws, rfl, r2, by rw [upd_ne n]; exact r3, r4⟩
  · have fix : forall (j : Nat) (ys : Own), (ρ.set i (.owx y))[j]? = some (.owx ys) -> ∃ zs, ρ[j]? = some (.owx zs) := fun j ys h => by
      rcases set_get h with ⟨rfl, _⟩ | ⟨_, o⟩
      · exact ⟨_, hi⟩
      · exact ⟨ys, o⟩
    obtain ⟨z1, f1⟩ := fix a xs h1
    obtain ⟨z2, f2⟩ := fix b ys h2
    exact s.apart a b q z1 z2 f1 f2 h3 h4
theorem Sta.mutOwn {i : Nat} {es : List PyData} (s : Sta K G H σ ρ) (hi : ρ[i]? = some (.own es)) (hp : σ[i]? = some (some (.ref p))) (dv : DqAll K G vs ds) : Sta K G (upd H p (.lst vs)) σ (ρ.set i (.own ds)) := s.mutOwx hi hp ⟨vs, rfl, dv⟩
theorem g1_own (i : Nat) {x : Str} (ha : GA X es ρ ds) (h : Φ.nx (ρ.set i (.own ds))) (hN : X.N.Nodup) (hz : ds.length ≤ 100000 := by exact Nat.le_of_ble_eq_true rfl) (hi : X.N[i]? = some x := by rfl) (hx : Loc X.env.scope x := by first | exact Or.inl rfl | exact Or.inr rfl) {p2 : Pos} (hs : swapsWith (.List es p2) (some (.Name x pos')) pos.line X.env = pure false := by rfl)
    (hf : X.fn x = true ∨ X.env.scope.names.lookup x = some .local := by first | exact .inl rfl | exact .inr rfl | assumption) : G1 X N (.Assign [.Name x pos'] (.List es p2) pos) ρ Φ :=
  g1_of (ps_set hN hi hx (pe_lst pa_tw) hs hf) fun P σ H f => f.evA ha fun vs G H' e1 sp sta fr dv => by
    refine ⟨by rw [dv.length]; exact Nat.le_trans hz (by decide), fun p hp => ?_⟩
    refine ⟨_, ⟨G, ⟨⟨e1.g, e1.h.trans (same_new hp), e1.gh.trans (same_new hp), e1.old⟩, e1.pin⟩, sp, sta.setOwn i hp dv, fun j xs q o1 o2 => ?_⟩, h⟩
    rcases set_get o1 with ⟨rfl, _⟩ | ⟨n, o1⟩
    · rcases set_get o2 with ⟨_, z⟩ | ⟨z, _⟩
      · cases z
        exact e1.h.free hp
      · exact absurd rfl z
    · rw [List.getElem?_set_ne n] at o2
      exact fr j xs q o1 o2
theorem mut_ext {N : En} (e1 : ExN N G H) (gp : G p = none) (np : N.h p = none) {o : HO} : ExN N G (upd H p o) :=
  ⟨⟨e1.g, fun b u q => by rw [upd_ne (ne_of_none q np)]; exact e1.h b u q, fun b u q => by rw [upd_ne (ne_of_none q gp)]; exact e1.gh b u q, e1.old⟩, e1.pin⟩
theorem fresh_mut {h0 : Hp} {i : Nat} {x y : Own} (hi : ρ[i]? = some (.owx x)) (fr : forall (i : Nat) (ds : Own) (p : Addr), ρ[i]? = some (.owx ds) -> σ[i]? = some (some (.ref p)) -> h0 p = none) :
    forall (j : Nat) (xs : Own) (p : Addr), (ρ.set i (.owx y))[j]? = some (.owx xs) -> σ[j]? = some (some (.ref p)) -> h0 p = none := fun j xs p h1 h2 => by
  rcases set_get h1 with ⟨rfl, _⟩ | ⟨_, o⟩
  · exact fr i _ p hi h2
  · exact fr j xs p o h2
theorem g1_append (i : Nat) {x : Str} {p1 p2 p3 : Pos} (ho : ρ[i]? = some (.own ds)) (he : GE X e ρ d) (hz : ds.length < 100000) (h : Φ.nx (ρ.set i (.own (ds ++ [d])))) (hi : X.N[i]? = some x := by rfl) (hv : Vis X.env.scope x := by first | exact Or.inl rfl | exact Or.inr (Or.inl rfl) | exact Or.inr (Or.inr rfl)) (hd : (x == ("__debug__" : Str)) = false := by decide) (hcd : (x == ("__classdict__" : Str)) = false := by decide)
    (hbase : attributeBase (.Name x p1) "append" X.env (eval (.Name x p1) X.env) = eval (.Name x p1) X.env := by rfl)
    (hfew : ((backTo p3 (starEach (e :: []) X.env)).all (fun x => !x.1) && (backToKw p3 (keywordEach [] X.env)).all (fun x => x.1.isSome) && decide ((e :: []).length + ([] : List Keyword).length + (if ([] : List Keyword).isEmpty then 0 else 1) < 30)) = true := by rfl)
    (hline : (p2.endLine == p3.line) = true := by rfl) (hs1 : starEach (e :: []) X.env = (false, eval e X.env) :: starEach [] X.env := by rfl) (hplain : (backTo p3 (starEach [] X.env)).any (·.1) = false := by rfl)
    (hs : swapsWith (.Call (.Attribute (.Name x p1) "append" p2) [e] [] p3) none pos.line X.env = pure false := by rfl) : G1 X N (.Expr (.Call (.Attribute (.Name x p1) "append" p2) [e] [] p3) pos) ρ Φ :=
  g1_of (ps_expr (pe_bm PySem.F.plainAttrs_list PySem.F.slot_list_append PySem.F.type_list_append mt_append (pe_var hi hv hd hcd) (pa_cons pe_tw pa_nil hs1) hbase hfew hline hs1 hplain) hs) fun P σ H f => by
    obtain ⟨G, e0, sp, sta, fr⟩ := f
    obtain ⟨p, vs, o1, o2, o3, o4⟩ := sta.own ho
    refine ⟨.ref p, o1, .inl ⟨rfl, _, .inl (.inl o3)⟩, ?_⟩
    refine he σ G H _ sta fun v G' H' e1 dv => ?_
    have sta' := sta.ext e1
    obtain ⟨p', vs', r1, r2, r3, r4⟩ := sta'.own ho
    rw [o1] at r1
    cases r1
    refine ⟨p, vs', v, rfl, rfl, r3, by rw [r4.length]; exact Nat.lt_of_lt_of_le hz (by decide), ?_⟩
    exact ⟨_, ⟨G', mut_ext (e0.trans e1) r2 (fr i _ p ho o1), sp.trans e1.g, sta'.mutOwn ho o1 (r4.append (.cons dv .nil)), fresh_mut ho fr⟩, h⟩
/-- target = x.pop() -/
theorem g1_pop (i : Nat) {x : Str} {p1 p2 p3 : Pos} {tg : Expr} {T : Tg} (ho : ρ[i]? = some (.own (ds ++ [d]))) (ht : GTg X tg T) (hp : T.put d (ρ.set i (.own ds)) = some ρ') (h : Φ.nx ρ') (hi : X.N[i]? = some x := by rfl) (hv : Vis X.env.scope x := by first | exact Or.inl rfl | exact Or.inr (Or.inl rfl) | exact Or.inr (Or.inr rfl)) (hd : (x == ("__debug__" : Str)) = false := by decide) (hcd : (x == ("__classdict__" : Str)) = false := by decide)
    (hbase : attributeBase (.Name x p1) "pop" X.env (eval (.Name x p1) X.env) = eval (.Name x p1) X.env := by rfl) (hline : (p2.endLine == p3.line) = true := by rfl)
    (hs : swapsWithSole [tg] (.Call (.Attribute (.Name x p1) "pop" p2) [] [] p3) pos.line X.env = pure false := by rfl) (hw : swappedStores [tg] (.Call (.Attribute (.Name x p1) "pop" p2) [] [] p3) X.env = pure none := by rfl)
    (h1 : (assignEach [tg] X.env).map (·.2) = [assign tg X.env] := by rfl) : G1 X N (.Assign [tg] (.Call (.Attribute (.Name x p1) "pop" p2) [] [] p3) pos) ρ Φ :=
  g1_of (ps_asg (pe_bm0 PySem.F.plainAttrs_list PySem.F.slot_list_pop PySem.F.type_list_pop mt_pop (pe_var hi hv hd hcd) hbase hline) ht hs hw h1) fun P σ H f => by
    obtain ⟨G, e0, sp, sta, fr⟩ := f
    obtain ⟨p, vs, o1, o2, o3, o4⟩ := sta.own ho
    have hl : vs.length - 1 = ds.length := by rw [o4.length, List.length_append]; exact Nat.add_sub_cancel _ _
    obtain ⟨v, hv', dv⟩ := o4.get (i := ds.length) (d := d) (by simp)
    refine ⟨.ref p, o1, .inl ⟨rfl, _, .inl (.inl o3)⟩, p, vs, v, rfl, rfl, o3, by rw [hl]; exact hv', ?_⟩
    have dl : DqAll X.K G vs.dropLast ds := by
      have := o4.dropLast
      rwa [List.dropLast_concat] at this
    have sta' := sta.mutOwn ho o1 dl
    exact Tg.rd_ok hp sta' dv fun σ' s' hj => ⟨ρ', ⟨G, mut_ext e0 o2 (fr i _ p ho o1), sp, s', fun j xs q r1 r2 => by
      obtain ⟨n1, n2⟩ := Tg.put_own hp r1
      rw [hj j n1] at r2
      exact fresh_mut ho fr j xs q n2 r2⟩, h⟩
/-! ### an own list becomes data -/
theorem Sta.freeze {i : Nat} (s : Sta K G H σ ρ) (hi : ρ[i]? = some (.own ds)) (hp : σ[i]? = some (some (.ref p))) (gp : G p = none) (h3 : H p = some (.lst vs)) (dv : DqAll K G vs ds) : Sta K (upd G p (.lst vs)) H σ (ρ.set i (.dat (.list ds))) := by
  have gg : Same G (upd G p (.lst vs)) := same_new gp
  refine ⟨fun b o q => ?_, by rw [List.length_set]; exact s.len, fun j c hc => ?_, fun a b q xs ys h1 h2 h3 h4 => ?_⟩
  · by_cases hb : b = p
    · subst hb
      rw [upd_same] at q
      cases q
      exact h3
    · rw [upd_ne hb] at q
      exact s.gh b o q
  · rcases set_get hc with ⟨rfl, rfl⟩ | ⟨hij, hc⟩
    · exact ⟨_, hp, .ref p, rfl, .lst upd_same (dv.mono gg)⟩
    · obtain ⟨ov, o1, o2⟩ := s.at_ j c hc
      refine ⟨ov, o1, ?_⟩
      cases c with
      | any => trivial
      | raw v => exact o2
      | dat d =>
        obtain ⟨v, r1, r2⟩ := o2
        exact ⟨v, r1, r2.mono gg⟩
      | fdc hs kvs =>
        obtain ⟨q, ob, r1, r2, r3⟩ := o2
        exact ⟨q, ob, r1, gg _ _ r2, r3.mono gg⟩
      | pin v φ =>
        obtain ⟨r1, G0, r2, r3⟩ := o2
        exact ⟨r1, G0, r2.trans gg, r3⟩
      | owx xs =>
        obtain ⟨q, ws, r1, r2, r3, r4⟩ := o2
        subst r1
        have n : q ≠ p := fun z => by
          subst z
          exact hij (s.apart i j q _ _ hi hc hp o1)
        exact ⟨q, ws, rfl, by rw [upd_ne n]; exact r2, r3, r4.mono gg⟩
  · rcases set_get h1 with ⟨_, z⟩ | ⟨_, o1⟩
    · cases z
    rcases set_get h2 with ⟨_, z⟩ | ⟨_, o2⟩
    · cases z
    exact s.apart a b q xs ys o1 o2 h3 h4
theorem Fr.freeze {i : Nat} (f : Fr K N P σ H ρ) (hi : ρ[i]? = some (.own ds)) : Fr K N P σ H (ρ.set i (.dat (.list ds))) := by
  obtain ⟨G, e0, sp, sta, fr⟩ := f
  obtain ⟨p, vs, o1, o2, o3, o4⟩ := sta.own hi
  have np := fr i _ p hi o1
  have st' := sta.freeze hi o1 o2 o3 o4
  refine ⟨_, ⟨⟨e0.g.trans (same_new o2), e0.h, st'.gh, fun a ha => ?_⟩, e0.pin.trans (same_new o2)⟩, sp.trans (same_new o2), st', fun j xs q r1 r2 => ?_⟩
  · rw [upd_ne (fun z => ha (by rw [z]; exact np))]
    exact e0.old a ha
  · rcases set_get r1 with ⟨_, z⟩ | ⟨_, r1⟩
    · cases z
    · exact fr j xs q r1 r2
theorem gs_freeze (i : Nat) (hi : ρ[i]? = some (.own ds)) (h : GS X N ss (ρ.set i (.dat (.list ds))) Φ) : GS X N ss ρ Φ := fun P σ H f => h P σ H (f.freeze hi)
theorem gs_weak (hl : ρ'.length = ρ.length) (hc : forall (i : Nat) (c : Cell), ρ'[i]? = some c -> c = Cell.any ∨ ρ[i]? = some c) (h : GS X N ss ρ' Φ) : GS X N ss ρ Φ := fun P σ H f => h P σ H (f.weak hl hc)
/-- an own list is read where the answer names no object -/
theorem ev_thaw {te : TE} (i : Nat) (hi : ρ[i]? = some (.own ds)) (ha : atom d = true) (h : EvR K te (ρ.set i (.dat (.list ds))) d) : EvR K te ρ d := fun σ G H Q s q => by
  obtain ⟨p, vs, o1, o2, o3, o4⟩ := s.own hi
  refine h σ _ H Q (s.freeze hi o1 o2 o3 o4) fun v G' H' e1 dv => ?_
  refine q v (fun x => if x = p then none else G' x) H' ⟨fun b o z => ?_, e1.h, fun b o z => ?_, fun x hx => ?_⟩ (dv.atom ha)
  · have n : b ≠ p := ne_of_none z o2
    show (if b = p then none else G' b) = some o
    rw [if_neg n]
    exact e1.g b o (by rw [upd_ne n]; exact z)
  · have z' : (if b = p then none else G' b) = some o := z
    by_cases hb : b = p
    · rw [if_pos hb] at z'; cases z'
    · rw [if_neg hb] at z'
      exact e1.gh b o z'
  · show (if x = p then none else G' x) = G x
    by_cases hb : x = p
    · rw [if_pos hb, hb]
      exact o2.symm
    · rw [if_neg hb, e1.old x hx, upd_ne hb]
theorem ge_thaw (i : Nat) (h : GE X e (ρ.set i (.dat (.list ds))) d) (hi : ρ[i]? = some (.own ds) := by rfl) (ha : atom d = true := by rfl) : GE X e ρ d := ev_thaw i hi ha h
theorem ev_thawT {te : TT} (i : Nat) (hi : ρ[i]? = some (.own ds)) (h : EvT K te (ρ.set i (.dat (.list ds))) k) : EvT K te ρ k := fun σ G H Q s q => by
  obtain ⟨p, vs, o1, o2, o3, o4⟩ := s.own hi
  refine h σ _ H Q (s.freeze hi o1 o2 o3 o4) fun G' H' e1 => ?_
  refine q (fun x => if x = p then none else G' x) H' ⟨fun b o z => ?_, e1.h, fun b o z => ?_, fun x hx => ?_⟩
  · have n : b ≠ p := ne_of_none z o2
    show (if b = p then none else G' b) = some o
    rw [if_neg n]
    exact e1.g b o (by rw [upd_ne n]; exact z)
  · have z' : (if b = p then none else G' b) = some o := z
    by_cases hb : b = p
    · rw [if_pos hb] at z'; cases z'
    · rw [if_neg hb] at z'
      exact e1.gh b o z'
  · show (if x = p then none else G' x) = G x
    by_cases hb : x = p
    · rw [if_pos hb, hb]
      exact o2.symm
    · rw [if_neg hb, e1.old x hx, upd_ne hb]
theorem gt_thaw (i : Nat) (h : GT X e (ρ.set i (.dat (.list ds))) k) (hi : ρ[i]? = some (.own ds) := by rfl) : GT X e ρ k := ev_thawT i hi h
/-- x[i], x an own list -/
theorem ge_ixOwn (i : Nat) {x : Str} {p1 : Pos} {z : Int} (hb : GE X b ρ (.int z)) (hat : atI ds z = some d) (ho : ρ[i]? = some (.own ds) := by rfl) (hi : X.N[i]? = some x := by rfl) (hv : Vis X.env.scope x := by first | exact Or.inl rfl | exact Or.inr (Or.inl rfl) | exact Or.inr (Or.inr rfl)) (hd : (x == ("__debug__" : Str)) = false := by decide) (hcd : (x == ("__classdict__" : Str)) = false := by decide)
    (hs : PlainIx b := by exact fun _ _ => rfl) : GE X (.Subscript (.Name x p1) b pos) ρ d :=
  ge_of (pe_ix ix_list (pe_var hi hv hd hcd) pe_tw hs) fun σ G H Q s q => by
    obtain ⟨p, vs, o1, o2, o3, o4⟩ := s.own ho
    refine ⟨.ref p, o1, hb σ G H _ s fun v G' H' e1 dv => ?_⟩
    cases dv
    obtain ⟨w, hw, dw⟩ := atI_dp o4 hat
    exact ⟨p, vs, z, w, rfl, rfl, .inl (.inl (e1.h _ _ o3)), hw, q _ _ _ e1 (dw.mono e1.g)⟩
end
end Gd

namespace Gd
open PySem PySem.Spec L2
/-! ### enumerate(text) -/
def Ites (x : Str) : It := ⟨fun i _ => i < x.cps.size, fun i H v H' => ∃ T c, v = .ref T ∧ H T = none ∧ H' = upd H T (.tup [.int (i : Nat), .str ⟨#[c]⟩]) ∧ x.cps[i]? = some c, fun i _ => x.cps.size ≤ i⟩
theorem turn_enumS {P : Program} {w : World} {K : PySem.W.Frag} {elts : List Expr} {kk : Nat} {tpos : Pos} (x : Str) (t : Tok) (e it : Addr) :
    Turn P w K (.Tuple elts kk tpos) (Ites x) [e, it] e (fun i h => (∃ old, IsEnum h e it ((i : Nat) : Int) old) ∧ h.IsStrIter it (strIterType x) x t i ∧ e ≠ it ∧ i ≤ x.cps.size) where
  mem := by simp
  obj := fun i h st b hb => by
    obtain ⟨⟨old, he⟩, ⟨o, ho, hc, hd⟩, _⟩ := st
    have e' : b = e ∨ b = it := by simpa using hb
    rcases e' with z | z
    · rw [z]; exact ⟨_, he, fun v q => nomatch q⟩
    · rw [z]; exact ⟨o, ho, fun v q => by rw [hd] at q; cases q⟩
  keep := fun i h h' st k => let ⟨⟨old, he⟩, ⟨o, ho, r⟩, hne⟩ := st; ⟨⟨old, k e (by simp) _ he⟩, ⟨o, k it (by simp) o ho, r⟩, hne⟩
  item := by
    intro X hP hw hK hc i pins s σ H E I hf st hg
    subst hP hw hK
    obtain ⟨⟨old, he⟩, hit, hne, hle⟩ := st
    have hlt : i < x.cps.size := hg
    have hel : e < s.heap.objs.size := Heap.lt_size he
    have hil : it < s.heap.objs.size := by obtain ⟨_, q, _⟩ := hit; exact Heap.lt_size q
    have D := Draws.text (prog := X.prog) (w := X.w) (A := X.A.in1) (I.ok.hd hc) it x t
    refine wpAny_pyNext_enum_itemC D he hit hlt hne (by simpa using hne) fun u h' tk hP ho hit' hT hsz hk => ?_
    obtain ⟨c, u', hcx, rfl⟩ := hP
    refine ⟨_, rfl, wpAny_letOwnedTupleGo_enum (s := { s with heap := h', toks := tk + 1 }) ho fun h'' he' sb => ?_⟩
    have hT2 : h''.get? s.heap.objs.size = some { cls := .type "tuple", data := .seq #[.int i tk, .str ⟨#[c]⟩ u'] } := (sb.2 _ (Nat.ne_of_gt hel)).trans hT
    have new : ObjOk X.prog X.w (upd H s.heap.objs.size (.tup [.int (i : Nat), .str ⟨#[c]⟩])) h'' s.heap.objs.size (.tup [.int (i : Nat), .str ⟨#[c]⟩]) :=
      ⟨by show 2 ≤ sizeLine; decide, [.int i tk, .str ⟨#[c]⟩ u'], .cons ⟨_, rfl⟩ (.cons ⟨_, rfl⟩ .nil), ⟨_, hT2, rfl, _, rfl⟩⟩
    have I1 : Inv X pins σ (upd H s.heap.objs.size (.tup [.int (i : Nat), .str ⟨#[c]⟩])) { s with heap := h'', toks := tk + 1 } :=
      I.turnedNew (ch := [e, it]) (fun b ob hb q => (sb.2 b (fun z => hb (by simp [z]))).trans (hk b ob (fun z => hb (by simp [z])) (fun z => hb (by simp [z])) q)) hf (Nat.le_refl _) new
    refine ⟨.ref s.heap.objs.size, _, I1, rfl, ⟨_, c, rfl, I.hok.fresh (Nat.le_refl _), rfl, hcx⟩, ⟨⟨.str ⟨#[c]⟩ u', ?_⟩, ?_, hne, hlt⟩, fun b hb => ?_⟩
    · have e1 : ((i + 1 : Nat) : Int) = (i : Int) + 1 := by omega
      rw [e1]; exact he'
    · obtain ⟨o, q1, q2⟩ := hit'
      exact ⟨o, (sb.2 it (Ne.symm hne)).trans q1, q2⟩
    · have hb' : b < s.heap.objs.size := by
        have e' : b = e ∨ b = it := by simpa using hb
        rcases e' with z | z
        · rw [z]; exact hel
        · rw [z]; exact hil
      rw [upd_ne (Nat.ne_of_lt hb')]
      exact (hf b hb).1
  done := by
    intro X hP hw hK hc i pins s σ H E I hf st hg
    subst hP hw hK
    obtain ⟨⟨old, he⟩, hit, hne, hle⟩ := st
    have hge : x.cps.size ≤ i := hg
    have ei : i = x.cps.size := Nat.le_antisymm hle hge
    obtain ⟨f0, f1, f2, f3, f4, f5⟩ := hf it (by simp)
    have D := Draws.text (prog := X.prog) (w := X.w) (A := X.A.in1) (I.ok.hd hc) it x t
    rw [ei] at hit
    exact wpAny_pyNext_enum_endD D he hit fun h' eb => ⟨rfl, I.turned (t' := s.toks) (fun b o hb q => eb b o hb q) f0 f1 f3 f4 f5⟩
  self := fun A i s Q E st h => let ⟨⟨_, he⟩, _⟩ := st; wpAny_pyIter_enum he h
def iEnumS (ta : TA) : TI := fun σ H R => ta σ H fun vs H1 => ∃ x, vs = [.str x] ∧ R (Ites x) H1
theorem pi_enumS {X : Cx} {e : Expr} {ta : TA} {p pos tpos : Pos} {elts : List Expr} {kk : Nat} (hg : Gl X "enumerate") (hm : X.mg "enumerate" = none) (ha : PA X [e] ta) (hs : starEach [e] X.env = [(false, eval e X.env)] := by rfl) :
    PI X (.Tuple elts kk tpos) (.Call (.Name "enumerate" p) [e] [] pos) (iEnumS ta) := by
  refine ⟨fun pins s σ H R I h => ?_⟩
  refine PyProof.Rows.Call_ (ld_blt I hg hm PyProof.Rows.boot_enumerate (PyProof.Rows.callWith_type1 (thn (ha.run pos pins s σ H _ I h) fun us s1 ⟨vs, H1, I1, r1, q1⟩ => ?_) hs rfl))
  obtain ⟨x, ex, q⟩ := q1
  subst ex
  cases r1 with
  | cons r rr =>
    cases rr
    obtain ⟨t, rfl⟩ := r
    refine call_enumerate_str fun h' he hit hsz hk => wpAny_pyIter_enum he ?_
    have I2 : Inv X pins σ H1 { s1 with heap := h' } := I1.kept (t' := s1.toks) hk
    refine ⟨s1.heap.objs.size + 1, [s1.heap.objs.size + 1, s1.heap.objs.size], _, _, H1, rfl, I2, turn_enumS x t (s1.heap.objs.size + 1) s1.heap.objs.size, ⟨⟨.none, he⟩, hit, Nat.succ_ne_self _, Nat.zero_le _⟩, fun b hb => ?_, q⟩
    have e' : b = s1.heap.objs.size + 1 ∨ b = s1.heap.objs.size := by simpa using hb
    have hle : s1.heap.objs.size ≤ b := by
      rcases e' with z | z
      · rw [z]; exact Nat.le_add_right _ _
      · rw [z]; exact Nat.le_refl _
    exact I1.fpOk hle (I1.hok.fresh hle)

/-! ### what is walked, as data -/
def WalkD (K : PySem.W.Frag) (J : It) (G : Hp) (items : List PyData) : Prop := forall G2 H2, Same G G2 -> Same G2 H2 ->
  (forall (i : Nat) (d : PyData), items[i]? = some d -> J.go i H2 ∧ forall x H3, J.yld i H2 x H3 -> ∃ G3, Ext G2 H2 G3 H3 ∧ Dq K G3 x d) ∧ forall (i : Nat), items.length ≤ i -> J.stop i H2
def GI (X : Cx) (tg iter : Expr) (ρ : Rho) (items : List PyData) : Prop := ∃ wi, PI X tg iter wi ∧ forall (σ : L2.St) (G H : Hp) (R : It -> Hp -> Prop), Sta X.K G H σ ρ -> (forall J G' H', Ext G H G' H' -> WalkD X.K J G' items -> R J H') -> wi σ H R
section
variable {X : Cx} {N : En} {st : Stmt} {rest body orelse ss : List Stmt} {e a b tg iter elt : Expr} {es ifs : List Expr} {ρ ρ' : Rho} {d d1 d2 : PyData} {ds : List PyData} {pos pos' p : Pos} {Φ : Post} {k : Bool} {K : PySem.W.Frag} {P : Hp} {σ : L2.St} {G H : Hp} {t : TS} {vs : List V}
theorem gi_lst (h : GE X e ρ (.list ds)) : GI X tg e ρ ds := ⟨_, pi_list pe_tw, fun σ G H R s q => h σ G H _ s fun v G' H' e1 dv => by
  cases dv with
  | @lst l xs _ h1 h2 =>
    refine ⟨l, rfl, ⟨_, .inl (.inl (e1.gh _ _ h1))⟩, q _ G' H' e1 fun G2 H2 s1 s2 => ⟨fun i d hi => ?_, fun i hi => ?_⟩⟩
    · have hl : H2 l = some (.lst xs) := s2 _ _ (s1 _ _ h1)
      obtain ⟨v, hv, dv⟩ := h2.get hi
      refine ⟨⟨xs, v, .inl (.inl hl), hv⟩, fun x H3 y => ?_⟩
      obtain ⟨rfl, y⟩ := y
      have e2 := y xs (.inl (.inl hl))
      rw [hv] at e2
      cases e2
      exact ⟨G2, .refl s2, dv.mono s1⟩
    · exact ⟨xs, .inl (.inl (s2 _ _ (s1 _ _ h1))), by rw [h2.length]; exact hi⟩⟩
theorem sqT_inj {K : PySem.W.Frag} {G H : Hp} {a : Addr} {xs ys : List V} (h1 : SqT K G a xs) (s : Same G H) : SqT K H a xs := sqT_mono s h1
theorem gi_tup (h : GE X e ρ (.tuple ds)) : GI X tg e ρ ds := ⟨_, pi_tup pe_tw, fun σ G H R s q => h σ G H _ s fun v G' H' e1 dv => by
  cases dv with
  | @tup l xs _ h1 h2 =>
    refine ⟨l, rfl, ⟨_, sqT_mono e1.gh h1⟩, q _ G' H' e1 fun G2 H2 s1 s2 => ⟨fun i d hi => ?_, fun i hi => ?_⟩⟩
    · have hl : SqT X.K H2 l xs := sqT_mono s2 (sqT_mono s1 h1)
      obtain ⟨v, hv, dv⟩ := h2.get hi
      refine ⟨⟨xs, v, hl, hv⟩, fun x H3 y => ?_⟩
      obtain ⟨rfl, y⟩ := y
      have e2 := y xs hl
      rw [hv] at e2
      cases e2
      exact ⟨G2, .refl s2, dv.mono s1⟩
    · exact ⟨xs, sqT_mono s2 (sqT_mono s1 h1), by rw [h2.length]; exact hi⟩⟩
theorem gi_str {l : List Nat} (h : GE X e ρ (.str (S l))) : GI X tg e ρ (l.map fun c => .str (S [c])) := ⟨_, pi_str pe_tw, fun σ G H R s q => h σ G H _ s fun v G' H' e1 dv => by
  cases dv
  refine ⟨S l, rfl, q _ G' H' e1 fun G2 H2 s1 s2 => ⟨fun i d hi => ?_, fun i hi => ?_⟩⟩
  · rw [List.getElem?_map] at hi
    cases hc : l[i]? with
    | none => rw [hc] at hi; cases hi
    | some c =>
      rw [hc] at hi
      cases hi
      have hlt : i < l.length := (List.getElem?_eq_some_iff.mp hc).1
      refine ⟨by show i < (S l).cps.size; simpa [S] using hlt, fun x H3 y => ?_⟩
      obtain ⟨rfl, c', hc', rfl⟩ := y
      have : l[i]? = some c' := by simpa [S] using hc'
      rw [hc] at this
      cases this
      exact ⟨G2, .refl s2, .str _⟩
  · show (S l).cps.size ≤ i
    simpa [S] using hi⟩
theorem range_get {n : Nat} {i : Nat} {f : Nat -> PyData} {d : PyData} (h : ((List.range n).map f)[i]? = some d) : i < n ∧ d = f i := by
  rw [List.getElem?_map] at h
  by_cases hi : i < n
  · rw [List.getElem?_range hi] at h
    exact ⟨hi, (Option.some.inj h).symm⟩
  · rw [List.getElem?_eq_none (by simpa using hi)] at h
    cases h
theorem gi_rng1 {n : Int} (hm : X.mg "range" = none) (h : GA X [a] ρ [.int n]) (h0 : -1000000 ≤ n) (h1 : n ≤ 1000000) (hg : Gl X "range" := by rfl) (hs : starEach [a] X.env = [(false, eval a X.env)] := by rfl) : GI X tg (.Call (.Name "range" p) [a] [] pos) ρ ((List.range n.toNat).map fun i => .int (i : Nat)) :=
  ⟨_, pi_range1 hg hm pa_tw hs, fun σ G H R s q => h σ G H _ s fun vs G' H' e1 dv => by
    cases dv with
    | cons hv hr =>
      cases hr; cases hv
      refine ⟨n, rfl, by omega, by omega, q _ G' H' e1 fun G2 H2 s1 s2 => ⟨fun i d hi => ?_, fun i hi => ?_⟩⟩
      · obtain ⟨hlt, rfl⟩ := range_get hi
        refine ⟨hlt, fun x H3 y => ?_⟩
        obtain ⟨rfl, rfl⟩ := y
        rw [Int.zero_add]
        exact ⟨G2, .refl s2, .int _⟩
      · rw [List.length_map, List.length_range] at hi
        exact hi⟩
theorem gi_rng2 {m n : Int} (hm : X.mg "range" = none) (h : GA X [a, b] ρ [.int m, .int n]) (h0 : -1000000 ≤ m) (h1 : n ≤ 1000000) (h2 : m ≤ 1000000) (h3 : -1000000 ≤ n) (hg : Gl X "range" := by rfl) (hs : starEach [a, b] X.env = [(false, eval a X.env), (false, eval b X.env)] := by rfl) (hs2 : starEach [b] X.env = [(false, eval b X.env)] := by rfl) :
    GI X tg (.Call (.Name "range" p) [a, b] [] pos) ρ ((List.range (n - m).toNat).map fun i => .int (m + (i : Nat))) :=
  ⟨_, pi_range2 hg hm pa_tw hs hs2, fun σ G H R s q => h σ G H _ s fun vs G' H' e1 dv => by
    cases dv with
    | cons hv hr =>
      cases hr with
      | cons hv2 hr =>
        cases hr; cases hv; cases hv2
        refine ⟨m, n, rfl, ⟨by omega, by omega, by omega, by omega⟩, q _ G' H' e1 fun G2 H2 s1 s2 => ⟨fun i d hi => ?_, fun i hi => ?_⟩⟩
        · obtain ⟨hlt, rfl⟩ := range_get hi
          refine ⟨hlt, fun x H3 y => ?_⟩
          obtain ⟨rfl, rfl⟩ := y
          exact ⟨G2, .refl s2, .int _⟩
        · rw [List.length_map, List.length_range] at hi
          exact hi⟩
/-- enumerate of a list: pairs (place, item) -/
theorem gi_enumL {elts : List Expr} {kk : Nat} {tpos : Pos} (hm : X.mg "enumerate" = none) (h : GA X [e] ρ [.list ds]) (hg : Gl X "enumerate" := by rfl) (hs : starEach [e] X.env = [(false, eval e X.env)] := by rfl) :
    GI X (.Tuple elts kk tpos) (.Call (.Name "enumerate" p) [e] [] pos) ρ (ds.zipIdx.map fun x => .tuple [.int (x.2 : Nat), x.1]) :=
  ⟨_, pi_enum hg hm pa_tw hs, fun σ G H R s q => h σ G H _ s fun vs G' H' e1 dv => by
    cases dv with
    | cons hv hr =>
      cases hr
      cases hv with
      | @lst l xs _ h1 h2 =>
        refine ⟨l, xs, rfl, .inl (.inl (e1.gh _ _ h1)), q _ G' H' e1 fun G2 H2 s1 s2 => ⟨fun i d hi => ?_, fun i hi => ?_⟩⟩
        · have hl : H2 l = some (.lst xs) := s2 _ _ (s1 _ _ h1)
          rw [List.getElem?_map, List.getElem?_zipIdx] at hi
          cases hc : ds[i]? with
          | none => rw [hc] at hi; cases hi
          | some d' =>
            rw [hc] at hi
            have ed : d = .tuple [.int ((0 + i : Nat) : Int), d'] := (Option.some.inj hi).symm
            obtain ⟨v, hv, dv⟩ := h2.get hc
            refine ⟨⟨xs, v, .inl (.inl hl), hv⟩, fun x H3 y => ?_⟩
            obtain ⟨T, x', rfl, hT, rfl, y⟩ := y
            have e2 := y xs (.inl (.inl hl))
            rw [hv] at e2
            cases e2
            have ex : Ext G2 H2 (upd G2 T (.tup [.int (i : Nat), v])) (upd H2 T (.tup [.int (i : Nat), v])) := .new s2 hT
            refine ⟨_, ex, ?_⟩
            rw [ed, Nat.zero_add]
            exact .tup (.inl (.inl upd_same)) (.cons (.int _) (.cons ((dv.mono s1).mono ex.g) .nil))
        · rw [List.length_map, List.length_zipIdx] at hi
          exact ⟨xs, .inl (.inl (s2 _ _ (s1 _ _ h1))), by rw [h2.length]; exact hi⟩⟩
theorem gi_enumS {elts : List Expr} {kk : Nat} {tpos : Pos} {l : List Nat} (hm : X.mg "enumerate" = none) (h : GA X [e] ρ [.str (S l)]) (hg : Gl X "enumerate" := by rfl) (hs : starEach [e] X.env = [(false, eval e X.env)] := by rfl) :
    GI X (.Tuple elts kk tpos) (.Call (.Name "enumerate" p) [e] [] pos) ρ (l.zipIdx.map fun x => .tuple [.int (x.2 : Nat), .str (S [x.1])]) :=
  ⟨_, pi_enumS hg hm pa_tw hs, fun σ G H R s q => h σ G H _ s fun vs G' H' e1 dv => by
    cases dv with
    | cons hv hr =>
      cases hr
      cases hv
      refine ⟨S l, rfl, q _ G' H' e1 fun G2 H2 s1 s2 => ⟨fun i d hi => ?_, fun i hi => ?_⟩⟩
      · rw [List.getElem?_map, List.getElem?_zipIdx] at hi
        cases hc : l[i]? with
        | none => rw [hc] at hi; cases hi
        | some c =>
          rw [hc] at hi
          have ed : d = .tuple [.int ((0 + i : Nat) : Int), .str (S [c])] := (Option.some.inj hi).symm
          have hlt : i < l.length := (List.getElem?_eq_some_iff.mp hc).1
          refine ⟨by show i < (S l).cps.size; simpa [S] using hlt, fun x H3 y => ?_⟩
          obtain ⟨T, c', rfl, hT, rfl, y⟩ := y
          have : l[i]? = some c' := by simpa [S] using y
          rw [hc] at this
          cases this
          refine ⟨_, .new s2 hT, ?_⟩
          rw [ed, Nat.zero_add]
          exact .tup (.inl (.inl upd_same)) (.cons (.int _) (.cons (.str _) .nil))
      · rw [List.length_map, List.length_zipIdx] at hi
        show (S l).cps.size ≤ i
        simpa [S] using hi⟩
theorem gi_zip {elts : List Expr} {kk : Nat} {tpos : Pos} {xs ys : List PyData} (hm : X.mg "zip" = none) (h : GA X [a, b] ρ [.list xs, .list ys]) (hg : Gl X "zip" := by rfl) (hs : starEach [a, b] X.env = (false, eval a X.env) :: starEach [b] X.env := by rfl) (hpl : (backTo pos (starEach [b] X.env)).any (·.1) = false := by rfl) :
    GI X (.Tuple elts kk tpos) (.Call (.Name "zip" p) [a, b] [] pos) ρ ((xs.zip ys).map fun x => .tuple [x.1, x.2]) :=
  ⟨_, pi_zip hg hm pa_tw hs hpl, fun σ G H R s q => h σ G H _ s fun vs G' H' e1 dv => by
    cases dv with
    | cons hv hr =>
      cases hr with
      | cons hv2 hr =>
        cases hr
        cases hv with
        | @lst l us _ h1 h2 =>
          cases hv2 with
          | @lst m ws _ h3 h4 =>
            refine ⟨l, m, us, ws, rfl, .inl (.inl (e1.gh _ _ h1)), .inl (.inl (e1.gh _ _ h3)), q _ G' H' e1 fun G2 H2 s1 s2 => ⟨fun i d hi => ?_, fun i hi => ?_⟩⟩
            · have hl : H2 l = some (.lst us) := s2 _ _ (s1 _ _ h1)
              have hm : H2 m = some (.lst ws) := s2 _ _ (s1 _ _ h3)
              rw [List.getElem?_map] at hi
              cases hc : (xs.zip ys)[i]? with
              | none => rw [hc] at hi; cases hi
              | some z =>
                rw [hc] at hi
                have ed : d = .tuple [z.1, z.2] := (Option.some.inj hi).symm
                obtain ⟨z1, z2⟩ := List.getElem?_zip_eq_some.mp hc
                obtain ⟨v1, hv1, dv1⟩ := h2.get z1
                obtain ⟨v2, hv2, dv2⟩ := h4.get z2
                refine ⟨⟨us, ws, v1, v2, .inl (.inl hl), .inl (.inl hm), hv1, hv2⟩, fun x H3 y => ?_⟩
                obtain ⟨T, x1, x2, rfl, hT, rfl, y1, y2⟩ := y
                have q1 := y1 us (.inl (.inl hl))
                have q2 := y2 ws (.inl (.inl hm))
                rw [hv1] at q1
                rw [hv2] at q2
                cases q1
                cases q2
                have ex : Ext G2 H2 (upd G2 T (.tup [v1, v2])) (upd H2 T (.tup [v1, v2])) := .new s2 hT
                refine ⟨_, ex, ?_⟩
                rw [ed]
                exact .tup (.inl (.inl upd_same)) (.cons ((dv1.mono s1).mono ex.g) (.cons ((dv2.mono s1).mono ex.g) .nil))
            · rw [List.length_map, List.length_zip] at hi
              refine ⟨us, ws, .inl (.inl (s2 _ _ (s1 _ _ h1))), .inl (.inl (s2 _ _ (s1 _ _ h3))), ?_⟩
              rw [h2.length, h4.length]
              omega⟩
/-! ### for, while -/
theorem g1_for {α : Type} (L : List α) (g : α -> PyData) {T : Tg} (hi : GI X tg iter ρ (L.map g)) (ht : GTg X tg T) (I : Nat -> Rho -> Prop) (h0 : I 0 ρ)
    (hs : forall (i : Nat) (x : α) (ρ1 : Rho), L[i]? = some x -> I i ρ1 -> ∃ ρ2, T.put (g x) ρ1 = some ρ2 ∧ GS X N body ρ2 { Φ with nx := I (i + 1), ct := I (i + 1), bk := Φ.nx }) (hd : forall ρ1, I L.length ρ1 -> Φ.nx ρ1)
    (hp : PassesOwn (model X.prog X.w) X.A X.env X.xe) (hc : X.calm = true := by rfl) (hfs : forall x, foldedSetIterable iter X.env x = pure x := by intro _; rfl) : G1 X N (.For tg iter body [] pos) ρ Φ := by
  obtain ⟨wi, hpi, hw⟩ := hi
  refine g1_of (ps_for hp hc hpi ht pss_tw hfs) fun P σ H f => ?_
  obtain ⟨G, e0, sp, sta, fr⟩ := f
  refine hw σ G H _ sta fun J G' H' e1 wk => ?_
  have f0 : Fr X.K N G' σ H' ρ := ⟨G', e0.trans e1, Same.refl _, sta.ext e1, fr⟩
  have sp' : Same P G' := sp.trans e1.g
  refine ⟨fun i m σ H => m = L.length - i ∧ i ≤ L.length ∧ ∃ ρ1, Fr X.K N G' σ H ρ1 ∧ I i ρ1, ⟨_, rfl, Nat.zero_le _, ρ, f0, h0⟩, fun i m σ1 H1 hW => ?_⟩
  obtain ⟨rfl, hle, ρ1, f1, hI⟩ := hW
  obtain ⟨G1, e2, sp2, sta1, fr1⟩ := f1
  obtain ⟨wgo, wstop⟩ := wk G1 H1 sp2 sta1.gh
  by_cases hlt : i < L.length
  · have hx : L[i]? = some L[i] := List.getElem?_eq_getElem hlt
    obtain ⟨go, yl⟩ := wgo i (g L[i]) (by rw [List.getElem?_map, hx]; rfl)
    obtain ⟨ρ2, hput, hbody⟩ := hs i L[i] ρ1 hx hI
    refine .inr ⟨go, fun σ' H' => ∃ ρ3, Fr X.K N G' σ' H' ρ3 ∧ I (i + 1) ρ3, fun σ' H' hN => ?_, fun x H3 hy => ?_⟩
    · obtain ⟨ρ3, f3, i3⟩ := hN
      exact ⟨L.length - (i + 1), by omega, rfl, hlt, ρ3, f3, i3⟩
    · obtain ⟨G3, e3, dv⟩ := yl x H3 hy
      refine Tg.rd_ok hput (sta1.ext e3) dv fun σ' s' hj => ?_
      have f2 : Fr X.K N G' σ' H3 ρ2 := ⟨G3, e2.trans e3, sp2.trans e3.g, s', fun j xs q r1 r2 => by
        obtain ⟨n1, n2⟩ := Tg.put_own hput r1
        rw [hj j n1] at r2
        exact fr1 j xs q n2 r2⟩
      refine tws_mono ?_ (hbody G' σ' H3 f2)
      exact ⟨fun _ _ q => q, fun _ _ ⟨d, ⟨G4, a1, a2, a3⟩, q⟩ => ⟨d, ⟨G4, a1, sp'.trans a2, a3⟩, q⟩, fun _ _ ⟨ρ4, f4, q⟩ => ⟨ρ4, f4.weakP sp', q⟩, fun _ _ q => q⟩
  · have ei : i = L.length := by omega
    refine .inl ⟨wstop i (by rw [List.length_map]; omega), ρ1, ⟨G1, e2, sp'.trans sp2, sta1, fr1⟩, hd ρ1 (by rw [← ei]; exact hI)⟩
theorem g1_while {c : Expr} (I : Nat -> Rho -> Prop) (m0 : Nat) (h0 : I m0 ρ)
    (hs : forall (m : Nat) (ρ1 : Rho), I m ρ1 -> ∃ k, GT X c ρ1 k ∧ (k = true -> GS X N body ρ1 { Φ with nx := fun ρ2 => ∃ m', m' < m ∧ I m' ρ2, ct := fun ρ2 => ∃ m', m' < m ∧ I m' ρ2, bk := Φ.nx }) ∧ (k = false -> Φ.nx ρ1))
    (hp : PassesOwn (model X.prog X.w) X.A X.env X.xe) : G1 X N (.While c body [] pos) ρ Φ := by
  refine g1_of (ps_while hp pt_tw pss_tw) fun P σ H f => ?_
  refine ⟨fun m σ H => ∃ ρ1, Fr X.K N P σ H ρ1 ∧ I m ρ1, ⟨m0, ρ, f, h0⟩, fun m σ1 H1 hW => ?_⟩
  obtain ⟨ρ1, f1, i1⟩ := hW
  obtain ⟨k, hc, ht, hf⟩ := hs m ρ1 i1
  refine f1.evT hc fun H' f' => ?_
  cases k with
  | true =>
    rw [if_pos rfl]
    refine ⟨fun σ' H' => ∃ ρ2, Fr X.K N P σ' H' ρ2 ∧ ∃ m', m' < m ∧ I m' ρ2, fun σ' H' hN => ?_, ht rfl P σ1 H' f'⟩
    obtain ⟨ρ2, f2, m', hm, i2⟩ := hN
    exact ⟨m', hm, ρ2, f2, i2⟩
  | false =>
    rw [if_neg Bool.false_ne_true]
    exact ⟨ρ1, f', hf rfl⟩
/-! ### list comprehensions -/
def wipeR (ρ : Rho) : List Nat -> Rho
  | [] => ρ
  | v :: vs => (wipeR ρ vs).set v .any
theorem Sta.setAny (s : Sta K G H σ ρ) (i : Nat) (ov : Option V) : Sta K G H (σ.set i ov) (ρ.set i .any) := by
  refine ⟨s.gh, by rw [List.length_set, List.length_set]; exact s.len, fun j c hc => ?_, fun a b p xs ys h1 h2 h3 h4 => ?_⟩
  · rcases set_get hc with ⟨rfl, rfl⟩ | ⟨hij, hc⟩
    · have hl := (List.getElem?_eq_some_iff.mp hc).1
      rw [List.length_set] at hl
      exact ⟨_, List.getElem?_set_self (by rw [s.len]; exact hl), trivial⟩
    · rw [List.getElem?_set_ne hij]
      exact s.at_ j c hc
  · rcases set_get h1 with ⟨_, z⟩ | ⟨n1, o1⟩
    · cases z
    rcases set_get h2 with ⟨_, z⟩ | ⟨n2, o2⟩
    · cases z
    rw [List.getElem?_set_ne n1] at h3
    rw [List.getElem?_set_ne n2] at h4
    exact s.apart a b p xs ys o1 o2 h3 h4
theorem Sta.wipe (s : Sta K G H σ ρ) : forall vs : List Nat, Sta K G H (L2.wipe σ vs) (wipeR ρ vs)
  | [] => s
  | v :: vs => (Sta.wipe s vs).setAny v none
theorem wipe_get (σ : L2.St) (j : Nat) : forall vs : List Nat, (L2.wipe σ vs)[j]? = if j ∈ vs then (if j < σ.length then some none else none) else σ[j]?
  | [] => by simp [L2.wipe]
  | v :: vs => by
    unfold L2.wipe
    by_cases hv : v = j
    · subst hv
      by_cases hl : v < σ.length
      · rw [List.getElem?_set_self (by rw [wipe_length]; exact hl)]
        simp [hl]
      · rw [List.getElem?_eq_none (by rw [List.length_set, wipe_length]; omega)]
        simp [hl]
    · rw [List.getElem?_set_ne hv, wipe_get σ j vs]
      have : (j ∈ v :: vs) = (j ∈ vs) := by simp [Ne.symm hv]
      simp only [this]
theorem wipe_eq {σ σ' : L2.St} {vs : List Nat} (hl : σ'.length = σ.length) (h : forall j, j ∉ vs -> σ'[j]? = σ[j]?) : L2.wipe σ' vs = L2.wipe σ vs := by
  apply List.ext_getElem?
  intro j
  rw [wipe_get, wipe_get]
  by_cases hj : j ∈ vs
  · rw [if_pos hj, if_pos hj, hl]
  · rw [if_neg hj, if_neg hj, h j hj]
theorem wipe_wipe {σ : L2.St} {vs : List Nat} : L2.wipe (L2.wipe σ vs) vs = L2.wipe σ vs := wipe_eq (wipe_length σ vs) fun j hj => by rw [wipe_get, if_neg hj]
/-- the block's contexts -/
abbrev Blk (X : Cx) (scope : Scope) (s : Shared) (H : Hp) (C : Addr) (cl : List (Str × Addr)) (fp : List Addr) : Cx := X.blk s H scope (compEnvC scope cl C X.env) fp
def GTs (X : Cx) (ifs : List Expr) (ρ : Rho) (k : Bool) : Prop := EvT X.K (fun σ H Q => forall pins s, Inv X pins σ H s ->
    Wp X (forIn ifs true fun c r => if r = true then do let ok ← isTrue c X.env (eval c X.env); pure (ForInStep.yield ok) else pure (ForInStep.yield r)) (TP X pins σ Q) s) ρ k
theorem gts_nil : GTs X [] ρ true := fun σ G H Q s q pins s' I => ⟨pts_nil.run pins s' σ H Q I (q G H (.refl s.gh))⟩
theorem gts_one {c : Expr} (h : GT X c ρ k) : GTs X [c] ρ k := fun σ G H Q s q pins s' I => ⟨(pts_one pt_tw).run pins s' σ H Q I (h σ G H Q s q)⟩
theorem ev_lc {α : Type} (L : List α) (g : α -> PyData) (F : α -> Option PyData) {T : Tg} {wi : TI} {tt : TT} {te : TE} {vs : List Nat}
    (hw : forall (σ : L2.St) (G H : Hp) (R : It -> Hp -> Prop), Sta K G H σ ρ -> (forall J G' H', Ext G H G' H' -> WalkD K J G' (L.map g) -> R J H') -> wi σ H R)
    (hsub : forall j, j ∈ T.sl -> j ∈ vs) (hlen : L.length ≤ 1000000)
    (turn : forall (i : Nat) (x : α), L[i]? = some x -> ∃ ρ2, T.put (g x) (wipeR ρ vs) = some ρ2 ∧ EvT K tt ρ2 (F x).isSome ∧ forall y, F x = some y -> EvR K te ρ2 y) :
    EvR K (tLc wi (T.rd K) tt te vs) ρ (.list (L.filterMap F)) := fun σ G H Q s q => by
  refine hw σ G H _ s fun J G1 H1 e1 wk D hD => ?_
  refine ⟨fun i m H2 => m = L.length - i ∧ i ≤ L.length ∧ ∃ G2 acc, Ext G1 H1 G2 H2 ∧ G2 D = none ∧ H2 D = some (.lst acc) ∧ DqAll K G2 acc ((L.take i).filterMap F), ⟨_, rfl, Nat.zero_le _, G1, [], ?_, e1.gh.free hD, upd_same, by rw [List.take_zero]; exact .nil⟩, fun i m H2 hW => ?_⟩
  · exact ⟨Same.refl _, same_new hD, e1.gh.trans (same_new hD), fun _ _ => rfl⟩
  · obtain ⟨rfl, hle, G2, acc, e2, gD, hD2, dv⟩ := hW
    have nD : forall b o, G2 b = some o -> b ≠ D := fun b o z => ne_of_none z gD
    by_cases hlt : i < L.length
    · have hx : L[i]? = some L[i] := List.getElem?_eq_getElem hlt
      obtain ⟨wgo, _⟩ := wk G2 H2 e2.g e2.gh
      obtain ⟨go, yl⟩ := wgo i (g L[i]) (by rw [List.getElem?_map, hx]; rfl)
      obtain ⟨ρ2, hput, hT, hE⟩ := turn i L[i] hx
      have htake : (L.take (i + 1)).filterMap F = (L.take i).filterMap F ++ (F L[i]).toList := by
        rw [List.take_add_one, hx, List.filterMap_append]
        cases hF : F L[i] <;> simp [hF]
      refine .inr ⟨go, fun H' => ∃ G3 acc, Ext G1 H1 G3 H' ∧ G3 D = none ∧ H' D = some (.lst acc) ∧ DqAll K G3 acc ((L.take (i + 1)).filterMap F), fun H' ⟨G3, ac, z⟩ => ⟨L.length - (i + 1), by omega, rfl, hlt, G3, ac, z⟩, fun x H3 hy => ?_⟩
      obtain ⟨G3, e3, dx⟩ := yl x H3 hy
      have keepD : forall {G4 H4 : Hp}, Ext G2 H2 G4 H4 -> G4 D = none ∧ H4 D = some (.lst acc) := fun e4 => ⟨by rw [e4.old D (by rw [hD2]; exact fun z => nomatch z)]; exact gD, e4.h _ _ hD2⟩
      have sW : Sta K G3 H3 (L2.wipe σ vs) (wipeR ρ vs) := ((s.ext e1).ext e2).wipe vs |>.ext e3
      refine Tg.rd_ok hput sW dx fun σ' s' hj => ⟨?_, ?_⟩
      · have hl : σ'.length = (L2.wipe σ vs).length := by
          have l1 : forall (is : List Nat) (ds : List PyData) (r r' : Rho), putAll is ds r = some r' -> r'.length = r.length := fun is => by
            induction is with
            | nil => intro ds r r' z; cases ds with
              | nil => cases z; rfl
              | cons _ _ => simp [putAll] at z
            | cons j js ih => intro ds r r' z; cases ds with
              | nil => simp [putAll] at z
              | cons d ds => rw [ih ds _ _ z, List.length_set]
          have l2 : ρ2.length = (wipeR ρ vs).length := by
            cases T with
            | nm j =>
              have z : (wipeR ρ vs).set j (.dat (g L[i])) = ρ2 := Option.some.inj hput
              rw [← z, List.length_set]
            | tp js =>
              cases hg : g L[i] with
              | tuple ds => rw [hg] at hput; exact l1 js ds _ _ hput
              | _ => rw [hg] at hput; cases hput
          rw [s'.len, l2, ← sW.len]
        rw [wipe_eq hl fun j hn => hj j fun z => hn (hsub j z), wipe_wipe]
      · refine hT σ' G3 H3 _ s' fun G4 H4 e4 => ?_
        cases hF : F L[i] with
        | none =>
          rw [show (none : Option PyData).isSome = false from rfl, if_neg Bool.false_ne_true]
          have e34 := e3.trans e4
          obtain ⟨k1, k2⟩ := keepD e34
          refine ⟨G4, acc, e2.trans e34, k1, k2, ?_⟩
          rw [htake, hF]
          show DqAll K G4 acc (_ ++ [])
          rw [List.append_nil]
          exact dv.mono e34.g
        | some y =>
          rw [show (some y).isSome = true from rfl, if_pos rfl]
          refine hE y hF σ' G4 H4 _ (s'.ext e4) fun v G5 H5 e5 dy => ?_
          have e35 := (e3.trans e4).trans e5
          obtain ⟨k1, k2⟩ := keepD e35
          refine ⟨acc, k2, ?_, G5, acc ++ [v], ?_, k1, upd_same, ?_⟩
          · rw [dv.length]
            have l1 : ((L.take i).filterMap F).length ≤ (L.take i).length := List.length_filterMap_le ..
            rw [List.length_take] at l1
            exact Nat.lt_of_le_of_lt (Nat.le_trans l1 (by omega : min i L.length ≤ 1000000)) (by decide)
          · have e15 := e2.trans e35
            exact ⟨e15.g, fun b o z => by rw [upd_ne (ne_of_none z hD)]; exact e15.h b o z, fun b o z => by rw [upd_ne (ne_of_none z k1)]; exact e15.gh b o z, e15.old⟩
          · rw [htake, hF]
            exact (dv.mono e35.g).append (.cons dy .nil)
    · have ei : i = L.length := by omega
      obtain ⟨_, wstop⟩ := wk G2 H2 e2.g e2.gh
      refine .inl ⟨wstop i (by rw [List.length_map]; omega), ?_⟩
      have eD : Ext G1 H1 (upd G2 D (.lst acc)) H2 := ⟨e2.g.trans (same_new gD), e2.h, fun b o z => by
        by_cases hb : b = D
        · subst hb; rw [upd_same] at z; cases z; exact hD2
        · rw [upd_ne hb] at z; exact e2.gh b o z, fun a ha => by rw [upd_ne (fun z => ha (by rw [z]; exact hD))]; exact e2.old a ha⟩
      refine q (.ref D) _ H2 (e1.trans eD) (.lst upd_same ?_)
      rw [ei, List.take_length] at dv
      exact dv.mono (same_new gD)
theorem ge_lcF {α : Type} (L : List α) (g : α -> PyData) (F : α -> Option PyData) {T : Tg} {scope : Scope} (own : List (Str × Nat)) (hi : GI X tg iter ρ (L.map g)) (hN : X.N.Nodup) (ok : BlkOk X.N X.env.scope scope own) (hg : forall s H C cl fp, GTg (Blk X scope s H C cl fp) tg T) (hsub : forall j, j ∈ T.sl -> j ∈ own.map (·.2)) (hlen : L.length ≤ 1000000)
    (turn : forall (i : Nat) (x : α), L[i]? = some x -> ∃ ρ2, T.put (g x) (wipeR ρ (own.map (·.2))) = some ρ2 ∧ forall s H C cl fp, GTs (Blk X scope s H C cl fp) ifs ρ2 (F x).isSome ∧ forall y, F x = some y -> GE (Blk X scope s H C cl fp) elt ρ2 y)
    (hc : X.calm = true := by rfl) (hfs : forall x, foldedSetIterable iter X.env x = pure x := by intro _; rfl) : GE X (.ListComp elt [⟨tg, iter, ifs, 0⟩] scope pos) ρ (.list (L.filterMap F)) := by
  obtain ⟨wi, hpi, hw⟩ := hi
  refine ge_of (pe_lc (own := own) (g := T.rd X.K)
    (tt := fun σ H Q => forall s H' C cl fp pins s', Inv (Blk X scope s H' C cl fp) pins σ H s' -> wpAny (model X.prog X.w) (Blk X scope s H' C cl fp).A (forIn ifs true fun c r => if r = true then do let ok ← isTrue c (Blk X scope s H' C cl fp).env (eval c (Blk X scope s H' C cl fp).env); pure (ForInStep.yield ok) else pure (ForInStep.yield r)) (TP (Blk X scope s H' C cl fp) pins σ Q) (Blk X scope s H' C cl fp).xe s')
    (te := fun σ H Q => forall s H' C cl fp, tw (Blk X scope s H' C cl fp) elt σ H Q) hc hN hpi ok (fun s H C cl fp => hg s H C cl fp) (fun s H C cl fp => ⟨fun pins s' σ H' Q I h => h s H C cl fp pins s' I⟩) (fun s H C cl fp => ⟨fun pins s' σ H' Q I h => (h s H C cl fp pins s' I).run⟩) hfs) ?_
  refine ev_lc L g F hw hsub hlen fun i x hx => ?_
  obtain ⟨ρ2, hput, h2⟩ := turn i x hx
  refine ⟨ρ2, hput, fun σ G H Q s q s0 H' C cl fp pins s' I => ((h2 s0 H' C cl fp).1 σ G H Q s q pins s' I).run, fun y hy σ G H Q s q s0 H' C cl fp => (h2 s0 H' C cl fp).2 y hy σ G H Q s q⟩
theorem ge_lc {α : Type} (L : List α) (g : α -> PyData) (F : α -> PyData) {T : Tg} {scope : Scope} (own : List (Str × Nat)) (hi : GI X tg iter ρ (L.map g)) (hN : X.N.Nodup) (ok : BlkOk X.N X.env.scope scope own) (hg : forall s H C cl fp, GTg (Blk X scope s H C cl fp) tg T) (hsub : forall j, j ∈ T.sl -> j ∈ own.map (·.2)) (hlen : L.length ≤ 1000000)
    (turn : forall (i : Nat) (x : α), L[i]? = some x -> ∃ ρ2, T.put (g x) (wipeR ρ (own.map (·.2))) = some ρ2 ∧ forall s H C cl fp, GE (Blk X scope s H C cl fp) elt ρ2 (F x))
    (hc : X.calm = true := by rfl) (hfs : forall x, foldedSetIterable iter X.env x = pure x := by intro _; rfl) : GE X (.ListComp elt [⟨tg, iter, [], 0⟩] scope pos) ρ (.list (L.map F)) := by
  have h := ge_lcF (X := X) (ρ := ρ) (pos := pos) (elt := elt) (ifs := []) L g (fun x => some (F x)) own hi hN ok hg hsub hlen (fun i x hx => by
    obtain ⟨ρ2, h1, h2⟩ := turn i x hx
    exact ⟨ρ2, h1, fun s H C cl fp => ⟨gts_nil, fun y hy => by cases hy; exact h2 s H C cl fp⟩⟩) hc hfs
  rw [List.filterMap_eq_map'] at h
  exact h
end
end Gd

namespace Gd
open PySem PySem.Spec L2
/-! ### what a def is worth -/
inductive Out where
  | ret (d : PyData) | exc (C : Addr)
abbrev Rel := List PyData -> Out -> Prop
def spR (K : PySem.W.Frag) (R : Rel) : Sp := fun vs H Q E => ∃ G ds o, Same G H ∧ DqAll K G vs ds ∧ R ds o ∧
  match o with
  | .ret d => forall v G' H', Ext G H G' H' -> Dq K G' v d -> Q v H'
  | .exc C => forall G' H', Ext G H G' H' -> E (.ref C) none H'
/-- the module's name x holds a def that keeps R -/
structure Can (P : Program) (w : World) (K : PySem.W.Frag) (mg : Str -> Option Value) (base : Heap) (k : Nat) (x : Str) (R : Rel) : Prop where
  ex : ∃ f fd ps, mg x = some (.ref f) ∧ PySem.W.keepIn K (.ref f) = true ∧ Binds K fd ps [] ∧ FnOk P w K mg base (L2.CX P w) k f fd ps (spR K R)
theorem Can.mono {P : Program} {w : World} {K : PySem.W.Frag} {mg : Str -> Option Value} {base : Heap} {j k : Nat} {x : Str} {R : Rel} (c : Can P w K mg base j x R) (h : j ≤ k) : Can P w K mg base k x R := by
  obtain ⟨f, fd, ps, a, b, d, e⟩ := c.ex
  exact ⟨f, fd, ps, a, b, d, e.mono h⟩
theorem Can.imp {P : Program} {w : World} {K : PySem.W.Frag} {mg : Str -> Option Value} {base : Heap} {k : Nat} {x : Str} {R R' : Rel} (c : Can P w K mg base k x R) (h : forall ds o, R' ds o -> R ds o) : Can P w K mg base k x R' := by
  obtain ⟨f, fd, ps, a, b, d, e⟩ := c.ex
  exact ⟨f, fd, ps, a, b, d, e.imp fun vs H Q E ⟨G, ds, o, h1, h2, h3, h4⟩ => ⟨G, ds, o, h1, h2, h _ _ h3, h4⟩⟩
/-- exceptions of the class at C may leave, where the slots are as A says -/
def Xok (X : Cx) (N : En) (A : Rho -> Prop) (C : Addr) : Prop := ∃ W : WX, Takes X W ∧ forall P σ H ρ, A ρ -> Fr X.K N P σ H ρ -> W (.ref C) none σ H
def post (o : Out) : Post := { nx := fun _ => o = .ret .none, rt := fun d => o = .ret d }
def startR (n : Nat) (ds : List PyData) : Rho := ds.map Cell.dat ++ List.replicate (n - ds.length) .any
theorem sta_start {K : PySem.W.Frag} {G H : Hp} {vs : List V} {ds : List PyData} {Nm : List Str} (gh : Same G H) (dv : DqAll K G vs ds) : Sta K G H (start Nm vs) (startR Nm.length ds) := by
  have hl := dv.length
  have no : forall (i : Nat) (es : Own), (startR Nm.length ds)[i]? ≠ some (.owx es) := fun i es h => by
    unfold startR at h
    by_cases hi : i < ds.length
    · rw [List.getElem?_append_left (by simpa using hi), List.getElem?_map] at h
      cases hd : ds[i]? with
      | none => rw [hd] at h; cases h
      | some d => rw [hd] at h; cases h
    · rw [List.getElem?_append_right (by simpa using hi), List.getElem?_replicate] at h
      split at h
      · cases h
      · cases h
  refine ⟨gh, ?_, fun i c hc => ?_, fun i j p es fs h1 => absurd h1 (no i es)⟩
  · unfold L2.start startR
    simp [hl]
  · unfold startR at hc
    by_cases hi : i < ds.length
    · rw [List.getElem?_append_left (by simpa using hi), List.getElem?_map] at hc
      cases hd : ds[i]? with
      | none => rw [hd] at hc; cases hc
      | some d =>
        rw [hd] at hc
        cases hc
        obtain ⟨v, hv, dq⟩ := dv.get hd
        refine ⟨some v, ?_, v, rfl, dq⟩
        unfold L2.start
        rw [List.getElem?_append_left (by simpa [hl] using hi), List.getElem?_map, hv]
        rfl
    · have hlen : i < (List.map Cell.dat ds ++ List.replicate (Nm.length - ds.length) Cell.any).length := (List.getElem?_eq_some_iff.mp hc).1
      rw [List.getElem?_append_right (by simpa using hi), List.getElem?_replicate] at hc
      split at hc
      · cases hc
        have : i < (start Nm vs).length := by
          unfold L2.start
          simp only [List.length_append, List.length_map, List.length_replicate] at hlen ⊢
          omega
        exact ⟨_, List.getElem?_eq_getElem this, trivial⟩
      · cases hc
/-- a def's body's context -/
abbrev cxD (P : Program) (w : World) (K : PySem.W.Frag) (mg : Str -> Option Value) (base : Heap) (Nm : List Str) (x : Str) (st : Stmt) (f : Addr) (cdv : Value) (A : Around) (outer : List Env) (s : Shared) (H : Hp) (E : XK) : Cx := cxOf (L2.CX P w) P w K mg base Nm x (defScope st) f cdv A outer s H E
/-- a def of the text, where it stands -/
abbrev FnP (K : PySem.W.Frag) (x : Str) (st : Stmt) (f : Addr) (fd : FuncData) : Prop := FunD K x x (defArgs st) (defBody st) (defScope st) [] [] f fd
theorem ok_of {P : Program} {w : World} {K : PySem.W.Frag} {mg : Str -> Option Value} {base : Heap} {x : Str} {st : Stmt} {f : Addr} {fd : FuncData} {Nm ps : List Str} {k : Nat} {R : Rel} (F : FnP K x st f fd) (S : FnScope Nm ps (defScope st)) (hlen : forall ds o, R ds o -> ds.length = ps.length)
    (body : forall cdv A outer s H E (N : En) ds o, Room k (cxD P w K mg base Nm x st f cdv A outer s H E).A -> R ds o -> (forall C, o = .exc C -> Xok (cxD P w K mg base Nm x st f cdv A outer s H E) N (fun _ => True) C) -> GS (cxD P w K mg base Nm x st f cdv A outer s H E) N (defBody st) (startR Nm.length ds) (post o)) :
    FnOk P w K mg base (L2.CX P w) (k + 1) f fd ps (spR K R) := by
  refine F.ok S (fun vs H Q E ⟨G, ds, o, gh, dv, hR, _⟩ => by rw [dv.length]; exact hlen ds o hR) fun cdv A outer s H vs Q E hr hsp => ?_
  obtain ⟨G, ds, o, gh, dv, hR, hq⟩ := hsp
  refine ⟨tws _ _, pss_tw, ?_⟩
  have fr0 : Fr K ⟨G, H, fun _ => none⟩ G (start Nm vs) H (startR Nm.length ds) := by
    have st := sta_start (Nm := Nm) gh dv
    refine ⟨G, ⟨.refl gh, fun _ _ z => nomatch z⟩, Same.refl _, st, fun i es p h1 => ?_⟩
    exfalso
    unfold startR at h1
    by_cases hi : i < ds.length
    · rw [List.getElem?_append_left (by simpa using hi), List.getElem?_map] at h1
      cases hd : ds[i]? with
      | none => rw [hd] at h1; cases h1
      | some d => rw [hd] at h1; cases h1
    · rw [List.getElem?_append_right (by simpa using hi), List.getElem?_replicate] at h1
      split at h1
      · cases h1
      · cases h1
  refine tws_mono ?_ (body cdv A outer s H E ⟨G, H, fun _ => none⟩ ds o hr hR (fun C hC => ?_) G (start Nm vs) H fr0)
  · refine ⟨fun σ H' hn => ?_, fun v H' hn => ?_, fun _ _ z => ?_, fun _ _ z => ?_⟩
    · obtain ⟨ρ, ⟨G', e1, _, _, _⟩, hn⟩ := hn
      have hn' : o = .ret .none := hn
      subst hn'
      exact hq _ G' H' e1.toExt .non
    · obtain ⟨d, ⟨G', e1, _, dq, _⟩, hn⟩ := hn
      have hn' : o = .ret d := hn
      subst hn'
      exact hq v G' H' e1.toExt dq
    · obtain ⟨_, _, z⟩ := z; exact z
    · obtain ⟨_, _, z⟩ := z; exact z
  · subst hC
    refine ⟨fun cls d _ H' => E cls d H', takes_of rfl rfl rfl rfl, fun P σ H' ρ _ ⟨G', e1, _⟩ => hq G' H' e1.toExt⟩
theorem can_of {P : Program} {w : World} {K : PySem.W.Frag} {mg : Str -> Option Value} {base : Heap} {x : Str} {st : Stmt} {f : Addr} {fd : FuncData} {Nm ps : List Str} {k : Nat} {R : Rel} (F : FnP K x st f fd) (hm : mg x = some (.ref f)) (S : FnScope Nm ps (defScope st))
    (hb : forall (kV doc pm : Value) (an : Option Addr) (cdv ct : Value) (us : List Value), us.length = ps.length -> bindArgs (PySem.W.fnOf x x (defArgs st) (defBody st) (defScope st) .none kV doc pm an cdv ct) ⟨us, []⟩ = pure (ps.zip us)) (hlen : forall ds o, R ds o -> ds.length = ps.length)
    (body : forall cdv A outer s H E (N : En) ds o, Room k (cxD P w K mg base Nm x st f cdv A outer s H E).A -> R ds o -> (forall C, o = .exc C -> Xok (cxD P w K mg base Nm x st f cdv A outer s H E) N (fun _ => True) C) -> GS (cxD P w K mg base Nm x st f cdv A outer s H E) N (defBody st) (startR Nm.length ds) (post o)) :
    Can P w K mg base (k + 1) x R := ⟨f, fd, ps, hm, F.kp, F.bindsN hb, ok_of F S hlen body⟩
section
variable {X : Cx} {N : En} {st : Stmt} {rest body orelse ss : List Stmt} {e a b : Expr} {es : List Expr} {ρ ρ' : Rho} {d d1 d2 : PyData} {ds : List PyData} {pos pos' p : Pos} {Φ : Post} {k k' : Nat} {x : Str} {R : Rel} {A : Rho -> Prop} {C : Addr}
theorem ge_call (c : Can X.prog X.w X.K X.mg X.base k x R) (hr : Room k' X.A) (ha : GA X (e :: es) ρ ds) (hR : R ds (.ret d)) (hk : k ≤ k' := by decide) (hg : Gl X x := by rfl) (hdb : (x == ("__debug__" : Str)) = false := by decide) (he : starEach (e :: es) X.env = (false, eval e X.env) :: starEach es X.env := by rfl) (hpl : (backTo pos (starEach es X.env)).any (·.1) = false := by rfl) :
    GE X (.Call (.Name x p) (e :: es) [] pos) ρ d := by
  obtain ⟨f, fd, ps, hm, kp, hb, F⟩ := c.ex
  refine ge_of (pe_call F (hr.mono hk) hg hm kp hb .nil passL pa_tw hdb he hpl) fun σ G H Q s q => ha σ G H _ s fun vs G1 H1 e1 dv => ?_
  refine ⟨G1, ds, .ret d, e1.gh, by rw [List.append_nil]; exact dv, hR, fun v G' H' e2 dq => q v G' H' (e1.trans e2) dq⟩
theorem ge_call0 (c : Can X.prog X.w X.K X.mg X.base k x R) (hr : Room k' X.A) (hR : R [] (.ret d)) (hk : k ≤ k' := by decide) (hg : Gl X x := by rfl) (hdb : (x == ("__debug__" : Str)) = false := by decide) : GE X (.Call (.Name x p) [] [] pos) ρ d := by
  obtain ⟨f, fd, ps, hm, kp, hb, F⟩ := c.ex
  refine ge_of (pe_call0 F (hr.mono hk) hg hm kp hb .nil passL hdb) fun σ G H Q s q => ?_
  exact ⟨G, [], .ret d, s.gh, .nil, hR, fun v G' H' e2 dq => q v G' H' e2 dq⟩
/-! ### what is raised -/
/-- e raises, and nothing else -/
def GX (X : Cx) (N : En) (e : Expr) (ρ : Rho) : Prop := forall P σ H, Fr X.K N P σ H ρ -> tw X e σ H fun _ _ => False
theorem gx_of {t : TE} (h : PE X e t) (hv : forall P σ H, Fr X.K N P σ H ρ -> t σ H fun _ _ => False) : GX X N e ρ := fun P σ H f pins s I => ⟨h.run pins s σ H _ I (hv P σ H f)⟩
theorem gx_call (c : Can X.prog X.w X.K X.mg X.base k x R) (hr : Room k' X.A) (ha : GA X (e :: es) ρ ds) (hR : R ds (.exc C)) (hx : Xok X N A C) (hA : A ρ) (hk : k ≤ k' := by decide) (hg : Gl X x := by rfl) (hdb : (x == ("__debug__" : Str)) = false := by decide) (he : starEach (e :: es) X.env = (false, eval e X.env) :: starEach es X.env := by rfl) (hpl : (backTo pos (starEach es X.env)).any (·.1) = false := by rfl) :
    GX X N (.Call (.Name x p) (e :: es) [] pos) ρ := by
  obtain ⟨f, fd, ps, hm, kp, hb, F⟩ := c.ex
  obtain ⟨W, tk, hW⟩ := hx
  refine gx_of (pe_callS (E := WE W) F (hr.mono hk) hg hm kp hb (fun σ => passAt tk σ) pa_tw hdb he hpl) fun P σ H f => f.evA ha fun vs G1 H1 e1 sp sta fr dv => ?_
  exact ⟨G1, ds, .exc C, e1.gh, dv, hR, fun G' H' e2 => hW P σ H' ρ hA ⟨G', e1.trans e2, sp.trans e2.g, sta.ext e2, fr⟩⟩
theorem g1_exprX (he : GX X N e ρ) (hs : swapsWith e none pos.line X.env = pure false := by rfl) : G1 X N (.Expr e pos) ρ Φ := g1_of (ps_expr pe_tw hs) fun P σ H f pins s I => ⟨thn (he P σ H f pins s I).run fun _ _ ⟨_, _, _, _, z⟩ => z.elim⟩
theorem g1_retX (he : GX X N e ρ) : G1 X N (.Return (some e) pos) ρ Φ := g1_of (ps_ret pe_tw) fun P σ H f pins s I => ⟨thn (he P σ H f pins s I).run fun _ _ ⟨_, _, _, _, z⟩ => z.elim⟩
theorem g1_setX (i : Nat) {y : Str} (he : GX X N e ρ) (hN : X.N.Nodup) (hi : X.N[i]? = some y := by rfl) (hx : Loc X.env.scope y := by first | exact Or.inl rfl | exact Or.inr rfl) (hs : swapsWith e (some (.Name y pos')) pos.line X.env = pure false := by rfl)
    (hf : X.fn y = true ∨ X.env.scope.names.lookup y = some .local := by first | exact .inl rfl | exact .inr rfl | assumption) : G1 X N (.Assign [.Name y pos'] e pos) ρ Φ := g1_of (ps_set hN hi hx pe_tw hs hf) fun P σ H f pins s I => ⟨thn (he P σ H f pins s I).run fun _ _ ⟨_, _, _, _, z⟩ => z.elim⟩
/-- an own exception class that stands in the module under x -/
structure ExT (K : PySem.W.Frag) (mg : Str -> Option Value) (x : Str) (C : Addr) : Prop where
  ex : PySem.W.excIn K C He.veBase "ValueError.__new__" = true
  gl : mg x = some (.ref C)
  kp : PySem.W.keepIn K (.ref C) = true
  sb : PySem.W.subIn K (.ref C) (.type "BaseException") = some true
  ty : PySem.W.typeIn K (.ref C) = some (.type "type")
theorem g1_raise {m : Str} {j : Nat} {p2 p3 : Pos} (T : ExT X.K X.mg x C) (hx : Xok X N A C) (hA : A ρ) (hc : X.calm = true := by rfl) (hg : Gl X x := by rfl) (hdb : (x == ("__debug__" : Str)) = false := by decide) : G1 X N (.Raise (some (.Call (.Name x p) [.Constant (.str m) j p2] [] p3)) none pos) ρ Φ := by
  obtain ⟨W, tk, hW⟩ := hx
  exact g1_of (ps_raise hc tk (pmk_own PySem.F.excBase_ValueError T.ex T.gl T.kp (raises_own T.sb T.ty) hg hdb)) fun P σ H f => hW P σ H ρ hA f
end
end Gd

namespace Gd
open PySem PySem.Spec L2
/-! ### the top's facts by a Hook: a Bool over the written part, and the defs -/
def seenG (chk : PySem.W.Frag -> Bool) (fn : List He.DefD) (K : PySem.W.Frag) : He.AlD := (chk K && fn.all fun d => d.ok K, fn.map fun d => He.fnW K d.at_)
def hookG (n : Nat) (chk : PySem.W.Frag -> Bool) (fn : List He.DefD) : PySem.W.Hook where
  α := He.AlD
  obs := fun s => seenG chk fn (He.frG s.heap.get? (He.asD s.heap.get? n))
  val := fun _ => He.valD fn
  says := fun _ h => ∃ K : PySem.W.Frag, K.In h ∧ seenG chk fn K = He.valD fn
  of := fun _ _ e => ⟨_, He.frG_in, e⟩
  keeps := fun _ _ _ ⟨K, hK, c⟩ k => ⟨K, PySem.W.Frag.In.keeps hK k, c⟩
def obG (n : Nat) (chk : PySem.W.Frag -> Bool) (fn : List He.DefD) (s : PySem.W.SharedT) : He.AlD := seenG chk fn (He.frG (HandSHeadRun.getT s) (He.asD (HandSHeadRun.getT s) n))
theorem obG_eq {n : Nat} {chk : PySem.W.Frag -> Bool} {fn : List He.DefD} (s : PySem.W.SharedT) : obG n chk fn s = (hookG n chk fn).obs s.abs := by
  have e : HandSHeadRun.getT s = s.abs.heap.get? := funext (HandSHeadRun.getT_eq s)
  unfold obG
  rw [e]
  rfl
theorem seenG_chk {chk : PySem.W.Frag -> Bool} {fn : List He.DefD} {K : PySem.W.Frag} (c : seenG chk fn K = He.valD fn) : chk K = true :=
  (He.ba (show (chk K && fn.all fun d => d.ok K) = true from congrArg (fun z : He.AlD => z.1) c)).1
theorem seenG_def {chk : PySem.W.Frag -> Bool} {fn : List He.DefD} {K : PySem.W.Frag} (c : seenG chk fn K = He.valD fn) (i : Nat) {d : He.DefD} (h : fn[i]? = some d := by rfl) : ∃ fd, FunD K d.name d.qual d.params d.body d.scope (d.dvs K) (d.kws K) (He.fAd K d.at_) fd := by
  have c2 := (He.ba (show (chk K && fn.all fun d => d.ok K) = true from congrArg (fun z : He.AlD => z.1) c)).2
  have e : fn.map (fun d => He.fnW K d.at_) = fn.map He.DefD.val := congrArg (fun z : He.AlD => z.2) c
  have e2 := congrArg (fun l : List He.FnW => l[i]?) e
  simp only [List.getElem?_map, h, Option.map_some, Option.some.injEq] at e2
  exact He.DefD.funD e2 (List.all_eq_true.mp c2 d (List.mem_of_getElem? h))
/-- a def of the module -/
def dD (x : Str) (st : Stmt) : He.DefD := ⟨(x, none), x, x, defArgs st, defBody st, defScope st, [], []⟩
theorem fnP_of {chk : PySem.W.Frag -> Bool} {fn : List He.DefD} {K : PySem.W.Frag} (c : seenG chk fn K = He.valD fn) (i : Nat) {x : Str} {st : Stmt} (h : fn[i]? = some (dD x st) := by rfl) : ∃ fd, FnP K x st (He.ga K x) fd := seenG_def c i h
/-- facts, one by one -/
def allFa (fa : List He.Fa) (K : PySem.W.Frag) : Bool := fa.all fun f => f.ok K
theorem allFa_at {fa : List He.Fa} {K : PySem.W.Frag} (c : allFa fa K = true) (i : Nat) {f : He.Fa} (h : fa[i]? = some f := by rfl) : f.ok K = true := List.all_eq_true.mp c f (List.mem_of_getElem? h)
theorem ext_of {K : PySem.W.Frag} {h : Heap} {mg : Str -> Option Value} (X : K.In h) (G : h.Ns mainGlobals mg) {x : Str} (g : (He.Fa.glo x).ok K = true) (c : (He.Fa.exc x).ok K = true) : ExT K mg x (He.ga K x) := by
  obtain ⟨a, b, d, e⟩ := He.exc_ok c
  exact ⟨a, He.glo_ok X G g, b, d, e⟩
end Gd

namespace Gd
open PySem PySem.Spec L2
theorem bt_len : bootBuiltins "len" = some (.builtin "len") := by decide +kernel
theorem bt_min : bootBuiltins "min" = some (.builtin "min") := by decide +kernel
theorem bt_max : bootBuiltins "max" = some (.builtin "max") := by decide +kernel
theorem bt_all : bootBuiltins "all" = some (.builtin "all") := by decide +kernel
theorem bt_any : bootBuiltins "any" = some (.builtin "any") := by decide +kernel
theorem bt_sum : bootBuiltins "sum" = some (.builtin "sum") := by decide +kernel
theorem bt_sorted : bootBuiltins "sorted" = some (.builtin "sorted") := by decide +kernel
theorem bt_int : bootBuiltins "int" = some (.type "int") := by decide +kernel
theorem bt_bool : bootBuiltins "bool" = some (.type "bool") := by decide +kernel
theorem bt_tuple : bootBuiltins "tuple" = some (.type "tuple") := by decide +kernel
theorem bt_str : bootBuiltins "str" = some (.type "str") := by decide +kernel
theorem bt_list : bootBuiltins "list" = some (.type "list") := by decide +kernel
theorem bt_set : bootBuiltins "set" = some (.type "set") := by decide +kernel
/-- isinstance(d, U) for the built-in classes in use -/
def isiB (d : PyData) (U : String) : Bool := tyN d == U || (tyN d == "bool" && U == "int")
theorem kit_d (d : PyData) (hd : noDict d = true) (U : String) (hU : U ∈ ["int", "bool", "tuple", "str", "list"]) : kitB (tyN d) U = some (isiB d U) := by
  have h : forall t, t ∈ ["NoneType", "bool", "int", "str", "list", "tuple"] -> forall U, U ∈ ["int", "bool", "tuple", "str", "list"] -> kitB t U = some (t == U || (t == "bool" && U == "int")) := by decide +kernel
  refine h (tyN d) ?_ U hU
  cases d <;> first | (simp [tyN]; done) | (simp [noDict] at hd)
section
variable {X : Cx} {N : En} {st : Stmt} {e a b c : Expr} {es : List Expr} {ρ ρ' : Rho} {d d1 d2 : PyData} {ds : List PyData} {pos pos' p p2 : Pos} {Φ : Post} {i j : Int} {l : List Nat} {k : Bool}
theorem ge_isI {pT : Pos} (hm : X.mg "isinstance" = none) (hmT : X.mg "int" = none) (h : GE X a ρ d) (hd : noDict d = true) (hg : Gl X "isinstance" := by rfl) (hgT : Gl X "int" := by rfl)
    (hs1 : starEach [a, .Name "int" pT] X.env = (false, eval a X.env) :: starEach [.Name "int" pT] X.env := by rfl) (hs2 : starEach [.Name "int" pT] X.env = (false, eval (.Name "int" pT) X.env) :: starEach [] X.env := by rfl) (hpl : (backTo pos (starEach [.Name "int" pT] X.env)).any (·.1) = false := by rfl) :
    GE X (.Call (.Name "isinstance" p) [a, .Name "int" pT] [] pos) ρ (.bool (isiB d "int")) := ge_isi hm hmT bt_int h hd (kit_d d hd _ (by decide)) hg hgT (by decide) (by decide) hs1 hs2 hpl
theorem ge_isB {pT : Pos} (hm : X.mg "isinstance" = none) (hmT : X.mg "bool" = none) (h : GE X a ρ d) (hd : noDict d = true) (hg : Gl X "isinstance" := by rfl) (hgT : Gl X "bool" := by rfl)
    (hs1 : starEach [a, .Name "bool" pT] X.env = (false, eval a X.env) :: starEach [.Name "bool" pT] X.env := by rfl) (hs2 : starEach [.Name "bool" pT] X.env = (false, eval (.Name "bool" pT) X.env) :: starEach [] X.env := by rfl) (hpl : (backTo pos (starEach [.Name "bool" pT] X.env)).any (·.1) = false := by rfl) :
    GE X (.Call (.Name "isinstance" p) [a, .Name "bool" pT] [] pos) ρ (.bool (isiB d "bool")) := ge_isi hm hmT bt_bool h hd (kit_d d hd _ (by decide)) hg hgT (by decide) (by decide) hs1 hs2 hpl
theorem ge_isT {pT : Pos} (hm : X.mg "isinstance" = none) (hmT : X.mg "tuple" = none) (h : GE X a ρ d) (hd : noDict d = true) (hg : Gl X "isinstance" := by rfl) (hgT : Gl X "tuple" := by rfl)
    (hs1 : starEach [a, .Name "tuple" pT] X.env = (false, eval a X.env) :: starEach [.Name "tuple" pT] X.env := by rfl) (hs2 : starEach [.Name "tuple" pT] X.env = (false, eval (.Name "tuple" pT) X.env) :: starEach [] X.env := by rfl) (hpl : (backTo pos (starEach [.Name "tuple" pT] X.env)).any (·.1) = false := by rfl) :
    GE X (.Call (.Name "isinstance" p) [a, .Name "tuple" pT] [] pos) ρ (.bool (isiB d "tuple")) := ge_isi hm hmT bt_tuple h hd (kit_d d hd _ (by decide)) hg hgT (by decide) (by decide) hs1 hs2 hpl
theorem ge_isS {pT : Pos} (hm : X.mg "isinstance" = none) (hmT : X.mg "str" = none) (h : GE X a ρ d) (hd : noDict d = true) (hg : Gl X "isinstance" := by rfl) (hgT : Gl X "str" := by rfl)
    (hs1 : starEach [a, .Name "str" pT] X.env = (false, eval a X.env) :: starEach [.Name "str" pT] X.env := by rfl) (hs2 : starEach [.Name "str" pT] X.env = (false, eval (.Name "str" pT) X.env) :: starEach [] X.env := by rfl) (hpl : (backTo pos (starEach [.Name "str" pT] X.env)).any (·.1) = false := by rfl) :
    GE X (.Call (.Name "isinstance" p) [a, .Name "str" pT] [] pos) ρ (.bool (isiB d "str")) := ge_isi hm hmT bt_str h hd (kit_d d hd _ (by decide)) hg hgT (by decide) (by decide) hs1 hs2 hpl
theorem ge_isL {pT : Pos} (hm : X.mg "isinstance" = none) (hmT : X.mg "list" = none) (h : GE X a ρ d) (hd : noDict d = true) (hg : Gl X "isinstance" := by rfl) (hgT : Gl X "list" := by rfl)
    (hs1 : starEach [a, .Name "list" pT] X.env = (false, eval a X.env) :: starEach [.Name "list" pT] X.env := by rfl) (hs2 : starEach [.Name "list" pT] X.env = (false, eval (.Name "list" pT) X.env) :: starEach [] X.env := by rfl) (hpl : (backTo pos (starEach [.Name "list" pT] X.env)).any (·.1) = false := by rfl) :
    GE X (.Call (.Name "isinstance" p) [a, .Name "list" pT] [] pos) ρ (.bool (isiB d "list")) := ge_isi hm hmT bt_list h hd (kit_d d hd _ (by decide)) hg hgT (by decide) (by decide) hs1 hs2 hpl
/-- a written text by its signs -/
theorem gsS (l : List Nat) {x : Str} {n : Nat} (h : x = S l := by rfl) : GE X (.Constant (.str x) n pos) ρ (.str (S l)) := by
  subst h
  exact ge_str
theorem ggS (l : List Nat) {x z : Str} (hm : ∃ t, X.mg x = some (.str z t)) (h : z = S l := by rfl) (hg : Gl X x := by rfl) (hd : (x == ("__debug__" : Str)) = false := by decide) : GE X (.Name x pos) ρ (.str (S l)) := by
  subst h
  exact gg_str hm hg hd
theorem ge_ite {x : Expr} (hc : GT X c ρ k) (ha : k = true -> GE X a ρ d1) (hb : k = false -> GE X b ρ d2) : GE X (.IfExp c a b pos) ρ (if k = true then d1 else d2) := by
  cases k with
  | true => exact ge_if hc (fun h => by rw [if_pos rfl]; exact ha h) (fun h => nomatch h)
  | false => exact ge_if hc (fun h => nomatch h) (fun h => by rw [if_neg Bool.false_ne_true]; exact hb h)
/-! ### slices -/
def GP (X : Cx) (o : Option Expr) (ρ : Rho) (v : Option Int) : Prop := match o, v with
  | none, none => True
  | some e, some i => GE X e ρ (.int i)
  | _, _ => False
theorem ev_sl {r : V -> Option Int -> Option Int -> Hp -> VK -> Prop} {lo hi : Option Expr} {vl vh : Option Int} (hr : SlR X r) (ha : GE X a ρ d1) (hl : GP X lo ρ vl) (hh : GP X hi ρ vh)
    (h : forall v G H (Q : VK), Same G H -> Dq X.K G v d1 -> (forall v G' H', Ext G H G' H' -> Dq X.K G' v d -> Q v H') -> r v vl vh H Q) : GE X (.Subscript a (.Slice lo hi none p2) pos) ρ d := by
  have part : forall (o : Option Expr) (v : Option Int), GP X o ρ v -> ∃ t, PO X o t ∧ forall (σ : L2.St) (G H : Hp) (Q : Option Int -> Hp -> Prop), Sta X.K G H σ ρ -> (forall G' H', Ext G H G' H' -> Q v H') -> t σ H Q := fun o v g => by
    cases o with
    | none =>
      cases v with
      | none => exact ⟨_, po_none, fun σ G H Q s q => q G H (.refl s.gh)⟩
      | some _ => exact g.elim
    | some e =>
      cases v with
      | none => exact g.elim
      | some i => exact ⟨_, po_some pe_tw, fun σ G H Q s q => (show GE X e ρ (.int i) from g) σ G H _ s fun v G' H' e1 dv => by
          cases dv
          exact ⟨i, rfl, q G' H' e1⟩⟩
  obtain ⟨tl, pl, el⟩ := part lo vl hl
  obtain ⟨th, ph, eh⟩ := part hi vh hh
  refine ge_of (pe_slice hr pe_tw pl ph) fun σ G H Q s q => ha σ G H _ s fun v G1 H1 e1 dv => el σ G1 H1 _ (s.ext e1) fun G2 H2 e2 => eh σ G2 H2 _ ((s.ext e1).ext e2) fun G3 H3 e3 => ?_
  exact h v G3 H3 Q e3.gh ((dv.mono e2.g).mono e3.g) fun v' G4 H4 e4 d4 => q v' G4 H4 (((e1.trans e2).trans e3).trans e4) d4
/-- the part of a list between two bounds -/
def cut {α : Type} (l : List α) (lo hi : Option Int) : List α := (l.drop (HT.sIx l.length 0 lo)).take (HT.sIx l.length l.length hi - HT.sIx l.length 0 lo)
theorem cut_to {α : Type} (l : List α) (k : Int) (h : 0 ≤ k) : cut l none (some k) = l.take k.toNat := by
  unfold cut
  have e : k = ((k.toNat : Nat) : Int) := by omega
  rw [e, HT.sIx_none, HT.sIx_nat, List.drop_zero, Nat.sub_zero, Int.toNat_natCast]
  rcases Nat.le_total k.toNat l.length with h1 | h1
  · rw [Nat.min_eq_left h1]
  · rw [Nat.min_eq_right h1, List.take_length, List.take_of_length_le h1]
theorem cut_from {α : Type} (l : List α) (k : Int) (h : 0 ≤ k) : cut l (some k) none = l.drop k.toNat := by
  unfold cut
  have e : k = ((k.toNat : Nat) : Int) := by omega
  rw [e, HT.sIx_none, HT.sIx_nat, Int.toNat_natCast]
  rcases Nat.le_total k.toNat l.length with h1 | h1
  · rw [Nat.min_eq_left h1, List.take_of_length_le (by rw [List.length_drop]; exact Nat.le_refl _)]
  · rw [Nat.min_eq_right h1, List.drop_length, List.drop_eq_nil_of_le h1, List.take_nil]
theorem cut_mid {α : Type} (l : List α) (a b : Int) (h : 0 ≤ a) (h2 : 0 ≤ b) : cut l (some a) (some b) = (l.take b.toNat).drop a.toNat := by
  unfold cut
  have e : a = ((a.toNat : Nat) : Int) := by omega
  have e2 : b = ((b.toNat : Nat) : Int) := by omega
  rw [e, e2, HT.sIx_nat, HT.sIx_nat, Int.toNat_natCast, Int.toNat_natCast, List.drop_take]
  rcases Nat.le_total a.toNat l.length with h1 | h1
  · rw [Nat.min_eq_left h1]
    rcases Nat.le_total b.toNat l.length with h3 | h3
    · rw [Nat.min_eq_left h3]
    · rw [Nat.min_eq_right h3, List.take_of_length_le (by rw [List.length_drop]; exact Nat.le_refl _), List.take_of_length_le (by rw [List.length_drop]; omega)]
  · rw [Nat.min_eq_right h1, List.drop_length, List.drop_eq_nil_of_le h1, List.take_nil, List.take_nil]
theorem ge_slS {lo hi : Option Expr} {vl vh : Option Int} (ha : GE X a ρ (.str (S l))) (hl : GP X lo ρ vl) (hh : GP X hi ρ vh) (hz : l.length ≤ 100000) : GE X (.Subscript a (.Slice lo hi none p2) pos) ρ (.str (S (cut l vl vh))) :=
  ev_sl sl_str ha hl hh fun v G H Q gh dv q => by
    cases dv
    refine ⟨S l, rfl, by rw [S_len]; exact Nat.le_trans hz (by decide), ?_⟩
    have e : cutS (S l) vl vh = S (cut l vl vh) := by
      unfold cutS cut
      rw [S_cps, S_len]
      rfl
    rw [e]
    exact q _ G H (.refl gh) (.str _)
theorem cut_map {α β : Type} (l : List α) (f : α -> β) (lo hi : Option Int) : cut (l.map f) lo hi = (cut l lo hi).map f := by
  unfold cut
  rw [List.length_map, List.map_take, List.map_drop]
theorem dq_cut {K : PySem.W.Frag} {G : Hp} {vs : List V} (h : DqAll K G vs ds) (lo hi : Option Int) : DqAll K G (cutV vs lo hi) (cut ds lo hi) := by
  unfold cutV cut
  rw [h.length]
  exact (h.drop _).take _
theorem ge_slT {lo hi : Option Expr} {vl vh : Option Int} (ha : GE X a ρ (.tuple ds)) (hl : GP X lo ρ vl) (hh : GP X hi ρ vh) (hw : ¬ (HT.sIx ds.length 0 vl = 0 ∧ HT.sIx ds.length ds.length vh = ds.length)) : GE X (.Subscript a (.Slice lo hi none p2) pos) ρ (.tuple (cut ds vl vh)) :=
  ev_sl sl_tup ha hl hh fun v G H Q gh dv q => by
    cases dv with
    | tup s1 a1 =>
      refine ⟨_, _, rfl, sqT_mono gh s1, by rw [a1.length]; exact hw, fun p hp => ?_⟩
      exact q _ _ _ (.new gh hp) (.tup (.inl (.inl upd_same)) ((dq_cut a1 vl vh).mono (same_new (gh.free hp))))
theorem ge_slL {lo hi : Option Expr} {vl vh : Option Int} (ha : GE X a ρ (.list ds)) (hl : GP X lo ρ vl) (hh : GP X hi ρ vh) : GE X (.Subscript a (.Slice lo hi none p2) pos) ρ (.list (cut ds vl vh)) :=
  ev_sl sl_list ha hl hh fun v G H Q gh dv q => by
    cases dv with
    | lst s1 a1 =>
      refine ⟨_, _, rfl, .inl (.inl (gh _ _ s1)), fun p hp => ?_⟩
      exact q _ _ _ (.new gh hp) (.lst upd_same ((dq_cut a1 vl vh).mono (same_new (gh.free hp))))
/-! ### methods of texts -/
theorem ge_m1 {id : String} {name : Str} {apos : Pos} {r : V -> List V -> Hp -> VK -> Prop} (slot : Slot "str" name id) (ty : typeOf (.builtin id) = pure (.type "method_descriptor")) (rule : MtR X id r) (ha : GE X a ρ (.str (S l))) (hb : GE X b ρ d2)
    (h : forall v G H (Q : VK), Same G H -> Dq X.K G v d2 -> (forall v G' H', Ext G H G' H' -> Dq X.K G' v d -> Q v H') -> r (.str (S l)) [v] H Q)
    (hs : starEach [b] X.env = [(false, eval b X.env)] := by rfl) (hbase : attributeBase a name X.env (eval a X.env) = eval a X.env := by rfl) (hline : (apos.endLine == pos.line) = true := by rfl) : GE X (.Call (.Attribute a name apos) [b] [] pos) ρ d :=
  ge_of (pe_m1 slot ty rule pe_tw pe_tw hs hbase hline) fun σ G H Q s q => ha σ G H _ s fun v G1 H1 e1 dv => by
    cases dv
    refine ⟨⟨_, rfl⟩, hb σ G1 H1 _ (s.ext e1) fun v2 G2 H2 e2 d2 => ?_⟩
    exact h v2 G2 H2 Q e2.gh d2 fun v' G3 H3 e3 d3 => q v' G3 H3 ((e1.trans e2).trans e3) d3
theorem ge_count {apos : Pos} {m : List Nat} (ha : GE X a ρ (.str (S l))) (hb : GE X b ρ (.str (S m))) (hs : starEach [b] X.env = [(false, eval b X.env)] := by rfl) (hbase : attributeBase a "count" X.env (eval a X.env) = eval a X.env := by rfl) (hline : (apos.endLine == pos.line) = true := by rfl) :
    GE X (.Call (.Attribute a "count" apos) [b] [] pos) ρ (.int (Txt.count (S l) (S m))) :=
  ge_m1 PySem.F.slot_str_count PySem.F.type_str_count mt_count ha hb (fun v G H Q gh dv q => by
    cases dv
    exact ⟨_, _, rfl, rfl, q _ G H (.refl gh) (.int _)⟩) hs hbase hline
end
end Gd

namespace Gd
open PySem PySem.Spec L2
/-! ### the exception classes of the module -/
def excCB (K : PySem.W.Frag) (D : Addr) : Bool :=
  decide (PySem.W.findIn K (.ref D) "__getattribute__" = some (some (.builtin "BaseException.__getattribute__"))) && (decide (PySem.W.findIn K (.ref D) "__getattr__" = some none) && (decide (PySem.W.subIn K (.ref D) (.type "BaseException") = some true) && (PySem.W.hasDictIn K D &&
  (decide (PySem.W.findIn K (.ref D) "__class__" = some (some (.builtin "object.__class__"))) && (decide (PySem.W.specialIn K (.builtin "object.__class__") "__get__" = some (some (.builtin "getset_descriptor.__get__"))) &&
  (decide (PySem.W.takesIn K (.builtin "object.__class__") = some true) && decide (PySem.W.mroIn K D (.type "object") = some true)))))))
theorem excCB_ok {K : PySem.W.Frag} {D : Addr} (h : excCB K D = true) : ExcC K D := by
  obtain ⟨a1, h⟩ := He.ba h
  obtain ⟨a2, h⟩ := He.ba h
  obtain ⟨a3, h⟩ := He.ba h
  obtain ⟨a4, h⟩ := He.ba h
  obtain ⟨a5, h⟩ := He.ba h
  obtain ⟨a6, h⟩ := He.ba h
  obtain ⟨a7, a8⟩ := He.ba h
  exact ⟨of_decide_eq_true a1, of_decide_eq_true a2, of_decide_eq_true a3, a4, of_decide_eq_true a5, of_decide_eq_true a6, of_decide_eq_true a7, of_decide_eq_true a8⟩
/-- whether an error of the class x is one of the class y: all classes but RestError are its direct heirs -/
def under (x y : Str) : Bool := x == y || y == "RestError"
def excChk (xs : List Str) (K : PySem.W.Frag) : Bool := xs.all fun x => excCB K (He.ga K x) && (xs.all fun y => decide (PySem.W.kitOne K (.ref (He.ga K x)) (.ref (He.ga K y)) = some (under x y)) && decide (PySem.W.exmOne K (.ref (He.ga K x)) (.ref (He.ga K y)) = some (under x y)))
theorem exc_C {xs : List Str} {K : PySem.W.Frag} (h : excChk xs K = true) {x : Str} (hx : x ∈ xs) : ExcC K (He.ga K x) := excCB_ok (He.ba (List.all_eq_true.mp h x hx)).1
theorem exc_kit {xs : List Str} {K : PySem.W.Frag} (h : excChk xs K = true) {x y : Str} (hx : x ∈ xs) (hy : y ∈ xs) : PySem.W.kitOne K (.ref (He.ga K x)) (.ref (He.ga K y)) = some (under x y) := of_decide_eq_true (He.ba (List.all_eq_true.mp (He.ba (List.all_eq_true.mp h x hx)).2 y hy)).1
theorem exc_exm {xs : List Str} {K : PySem.W.Frag} (h : excChk xs K = true) {x y : Str} (hx : x ∈ xs) (hy : y ∈ xs) : PySem.W.exmOne K (.ref (He.ga K x)) (.ref (He.ga K y)) = some (under x y) := of_decide_eq_true (He.ba (List.all_eq_true.mp (He.ba (List.all_eq_true.mp h x hx)).2 y hy)).2
section
variable {X : Cx} {N : En} {st : Stmt} {rest body suite : List Stmt} {b0 : Stmt} {e a b func : Expr} {es : List Expr} {ρ ρ' : Rho} {d d1 d2 : PyData} {ds : List PyData} {pos pos' p p2 np : Pos} {Φ : Post} {k k' i : Nat} {x n : Str} {R : Rel} {A : Rho -> Prop} {C : Addr} {K : PySem.W.Frag} {P : Hp} {σ : L2.St} {G H : Hp}
/-! ### a def out of a written list of defs -/
/-- e is the object at f -/
def GF (X : Cx) (e : Expr) (ρ : Rho) (f : Addr) : Prop := forall (σ : L2.St) (G H : Hp) (Q : VK), Sta X.K G H σ ρ -> (forall G' H', Ext G H G' H' -> Q (.ref f) H') -> tw X e σ H Q
def GAF (X : Cx) (es : List Expr) (fs : List Addr) : Prop := forall (σ : L2.St) (H : Hp) (Q : List V -> Hp -> Prop), Q (fs.map V.ref) H -> twA X es σ H Q
theorem gaf_nil : GAF X [] [] := fun σ H Q q pos pins s I => ⟨pa_nil.run pos pins s σ H Q I q⟩
theorem gaf_cons {fs : List Addr} {f : Addr} (hm : X.mg x = some (.ref f)) (h : GAF X es fs) (hg : Gl X x := by rfl) (hd : (x == ("__debug__" : Str)) = false := by decide) (hst : starEach (.Name x p :: es) X.env = (false, eval (.Name x p) X.env) :: starEach es X.env := by rfl) : GAF X (.Name x p :: es) (f :: fs) :=
  fun σ H Q q pos pins s I => ⟨(pa_cons (pe_glob (v := .ref f) hg hm rfl hd) pa_tw hst).run pos pins s σ H Q I (h σ H _ q)⟩
theorem gf_ix {fs : List Addr} {f : Addr} {z : Int} (h : GAF X es fs) (hb : GE X b ρ (.int z)) (hat : atI (fs.map V.ref) z = some (.ref f)) (hl : fs.length ≤ 1000 := by exact Nat.le_of_ble_eq_true rfl) (hs : PlainIx b := by exact fun _ _ => rfl) : GF X (.Subscript (.List es p2) b pos) ρ f := fun σ G H Q s q pins s' I => Wp.mk <|
  (pe_ix ix_list (pe_lst pa_tw) pe_tw hs).run pins s' σ H Q I (h σ H _ ⟨by rw [List.length_map]; exact Nat.le_of_lt (small1000 hl), fun l hl => by
    have e1 : Ext G H G (upd H l (.lst (fs.map V.ref))) := ⟨Same.refl G, same_new hl, s.gh.trans (same_new hl), fun _ _ => rfl⟩
    refine hb σ G _ _ (s.ext e1) fun v G2 H2 e2 dv => ?_
    cases dv
    exact ⟨l, _, z, .ref f, rfl, rfl, .inl (.inl (e2.h _ _ upd_same)), hat, q G2 H2 (e1.trans e2)⟩⟩)
theorem gx_callF (c : Can X.prog X.w X.K X.mg X.base k x R) (hr : Room k' X.A) (hf : forall f, X.mg x = some (.ref f) -> GF X func ρ f) (ha : GA X (e :: es) ρ ds) (hR : R ds (.exc C)) (hx : Xok X N A C) (hA : A ρ) (hk : k ≤ k' := by decide)
    (hev : eval (.Call func (e :: es) [] pos) X.env = (do callWith pos (← eval func X.env) [] (backTo pos (starEach (e :: es) X.env)) (backToKw pos (keywordEach [] X.env))) := by rfl)
    (he : starEach (e :: es) X.env = (false, eval e X.env) :: starEach es X.env := by rfl) (hpl : (backTo pos (starEach es X.env)).any (·.1) = false := by rfl) :
    GX X N (.Call func (e :: es) [] pos) ρ := fun P σ H fr pins s I => by
  refine Wp.mk ?_
  obtain ⟨f, fd, ps, hm, kp, hb, F⟩ := c.ex
  obtain ⟨W, tk, hW⟩ := hx
  obtain ⟨G, e0, sp, sta, fs⟩ := fr
  refine PyProof.Rows.Call_ (thn (hf f hm σ G H (fun v H1 => v = .ref f ∧ ∃ G1, Ext G H G1 H1) sta (fun G1 H1 e1 => ⟨rfl, G1, e1⟩) pins s I).run fun u s1 ⟨v, H1, I1, r1, hv, G1, e1⟩ => ?_) hev
  subst hv
  cases r1
  refine PySem.W.callWith_K (h₀ := X.base) I.ok.mod.kin kp (thn (ha σ G1 H1 (fun vs H2 => ∃ G2, Ext G1 H1 G2 H2 ∧ DqAll X.K G2 vs ds) (sta.ext e1) (fun vs G2 H2 e2 dv => ⟨G2, e2, dv⟩) pos pins s1 I1).run fun us s2 ⟨vs, H2, I2, r, G2, e2, dv⟩ => ⟨I2.kIn, ?_⟩) he hpl
  refine thn (run_fnS (E := WE W) F (hr.mono hk) hb (passAt tk σ) I2 r ⟨G2, ds, .exc C, e2.gh, dv, hR, fun G' H' e3 => ?_⟩) fun _ _ q => q
  have e4 := (e1.trans e2).trans e3
  exact hW P σ H' ρ hA ⟨G', e0.trans e4, sp.trans e4.g, sta.ext e4, fs⟩
theorem ge_callF (c : Can X.prog X.w X.K X.mg X.base k x R) (hr : Room k' X.A) (hf : forall f, X.mg x = some (.ref f) -> GF X func ρ f) (ha : GA X (e :: es) ρ ds) (hR : R ds (.ret d)) (hk : k ≤ k' := by decide)
    (hev : eval (.Call func (e :: es) [] pos) X.env = (do callWith pos (← eval func X.env) [] (backTo pos (starEach (e :: es) X.env)) (backToKw pos (keywordEach [] X.env))) := by rfl)
    (he : starEach (e :: es) X.env = (false, eval e X.env) :: starEach es X.env := by rfl) (hpl : (backTo pos (starEach es X.env)).any (·.1) = false := by rfl) :
    GE X (.Call func (e :: es) [] pos) ρ d := fun σ G H Q sta q pins s I => by
  refine Wp.mk ?_
  obtain ⟨f, fd, ps, hm, kp, hb, F⟩ := c.ex
  refine PyProof.Rows.Call_ (thn (hf f hm σ G H (fun v H1 => v = .ref f ∧ ∃ G1, Ext G H G1 H1) sta (fun G1 H1 e1 => ⟨rfl, G1, e1⟩) pins s I).run fun u s1 ⟨v, H1, I1, r1, hv, G1, e1⟩ => ?_) hev
  subst hv
  cases r1
  refine PySem.W.callWith_K (h₀ := X.base) I.ok.mod.kin kp (thn (ha σ G1 H1 (fun vs H2 => ∃ G2, Ext G1 H1 G2 H2 ∧ DqAll X.K G2 vs ds) (sta.ext e1) (fun vs G2 H2 e2 dv => ⟨G2, e2, dv⟩) pos pins s1 I1).run fun us s2 ⟨vs, H2, I2, r, G2, e2, dv⟩ => ⟨I2.kIn, ?_⟩) he hpl
  exact run_fn F (hr.mono hk) hb .nil passL I2 r ⟨G2, ds, .ret d, e2.gh, by rw [List.append_nil]; exact dv, hR, fun v G' H' e3 dq => q v G' H' ((e1.trans e2).trans e3) dq⟩
/-! ### try .. except X as n -/
theorem Fr.setRaw (f : Fr K N P σ H ρ) (i : Nat) (v : V) : Fr K N P (σ.set i (some v)) H (ρ.set i (.raw v)) := by
  obtain ⟨G, e0, sp, s, fr⟩ := f
  refine ⟨G, e0, sp, ⟨s.gh, by rw [List.length_set, List.length_set]; exact s.len, fun j c hc => ?_, fun a b q xs ys h1 h2 h3 h4 => ?_⟩, fun j xs q h1 h2 => ?_⟩
  · rcases set_get hc with ⟨rfl, rfl⟩ | ⟨hij, hc⟩
    · have hl := (List.getElem?_eq_some_iff.mp hc).1
      rw [List.length_set] at hl
      exact ⟨_, List.getElem?_set_self (by rw [s.len]; exact hl), rfl⟩
    · rw [List.getElem?_set_ne hij]
      exact s.at_ j c hc
  · rcases set_get h1 with ⟨_, z⟩ | ⟨n1, o1⟩
    · cases z
    rcases set_get h2 with ⟨_, z⟩ | ⟨n2, o2⟩
    · cases z
    rw [List.getElem?_set_ne n1] at h3
    rw [List.getElem?_set_ne n2] at h4
    exact s.apart a b q xs ys o1 o2 h3 h4
  · rcases set_get h1 with ⟨_, z⟩ | ⟨n1, o1⟩
    · cases z
    rw [List.getElem?_set_ne n1] at h2
    exact fr j xs q o1 h2
theorem Fr.setAny (f : Fr K N P σ H ρ) (i : Nat) (ov : Option V) : Fr K N P (σ.set i ov) H (ρ.set i .any) := by
  obtain ⟨G, e0, sp, s, fr⟩ := f
  refine ⟨G, e0, sp, s.setAny i ov, fun j xs q h1 h2 => ?_⟩
  rcases set_get h1 with ⟨_, z⟩ | ⟨n1, o1⟩
  · cases z
  rw [List.getElem?_set_ne n1] at h2
  exact fr j xs q o1 h2
theorem Fr.unpin {N : En} {q P : Hp} (f : Fr K { N with p := q } P σ H ρ) (hp : Same N.p q) : Fr K N q σ H ρ := by
  obtain ⟨G, e0, sp, s, fr⟩ := f
  exact ⟨G, ⟨e0.toExt, hp.trans e0.pin⟩, e0.pin, s, fr⟩
theorem ends_unpin {N : En} {q P : Hp} (hp : Same N.p q) : EndsLe (ends K { N with p := q } P Φ) (ends K N q Φ) :=
  ⟨fun _ _ ⟨ρ, f, z⟩ => ⟨ρ, f.unpin hp, z⟩, fun _ _ ⟨d, ⟨G, a, b, c⟩, z⟩ => ⟨d, ⟨G, ⟨a.toExt, hp.trans a.pin⟩, a.pin, c⟩, z⟩, fun _ _ ⟨ρ, f, z⟩ => ⟨ρ, f.unpin hp, z⟩, fun _ _ ⟨ρ, f, z⟩ => ⟨ρ, f.unpin hp, z⟩⟩
/-- Cs: the classes of errors that the body may raise; all are the clause's -/
theorem g1_tryAs (i : Nat) {cv : Value} (Cs : Addr -> Prop) (hN : X.N.Nodup) (hc : Names X x cv) (hm : forall D, Cs D -> PySem.W.exmOne X.K (.ref D) cv = some true)
    (hb : forall (N' : En) pn xe, (forall D, Cs D -> Xok (X.tr pn xe) N' (fun r => r = ρ) D) -> GS (X.tr pn xe) N' body ρ Φ)
    (hsu : forall (N' : En) D, Cs D -> forall a oe pn, Zc (.ref D) none oe -> (∃ vs, oe.data = .fields vs) -> GS (X.suite a ((a, oe) :: pn)) N' (b0 :: suite) (ρ.set i (.raw (.ref a))) { nx := fun r => Φ.nx (r.set i .any), rt := Φ.rt, bk := fun r => Φ.bk (r.set i .any), ct := fun r => Φ.ct (r.set i .any), mm := Φ.mm })
    (hi : X.N[i]? = some n := by rfl) (hln : X.env.kindOf n = some .local := by rfl) (hs : X.stack = X.env :: X.outer := by rfl) (hf : X.env.frame = some X.env.locals := by rfl) :
    G1 X N (.Try body [.ExceptHandler (some (.Name x np)) (some n) (b0 :: suite) pos'] [] [] pos) ρ Φ := by
  refine g1_of (ps_try_as (i := i) (tb := fun W D σ H => forall pn xe, Takes (X.tr pn xe) W -> tws (X.tr pn xe) body D σ H) (ts := fun a cls d D σ H => forall oe pn, Zc cls d oe -> (∃ vs, oe.data = .fields vs) -> tws (X.suite a ((a, oe) :: pn)) (b0 :: suite) D σ H) (Wout := fun _ _ _ _ => False) hs hf hN hi hln hc takes0
    (fun W pn xe tk _ => ⟨fun pins s σ H D I h => (h pn xe tk pins s I).run⟩) (fun a oe cls d pn hz hd => ⟨fun pins s σ H D I h => (h oe pn hz hd pins s I).run⟩)) fun P σ H fr => ?_
  intro pn xe tk
  have npin : Fr X.K { N with p := fun b => match N.p b with | some o => some o | none => P b } P σ H ρ ∧ Same N.p (fun b => match N.p b with | some o => some o | none => P b) ∧ Same P (fun b => match N.p b with | some o => some o | none => P b) := by
    obtain ⟨G, e0, sp, s, f⟩ := fr
    refine ⟨⟨G, ⟨e0.toExt, fun b o z => ?_⟩, sp, s, f⟩, fun b o z => ?_, fun b o z => ?_⟩
    · have z' : (match N.p b with | some o => some o | none => P b) = some o := z
      cases h1 : N.p b with
      | none => rw [h1] at z'; exact sp b o z'
      | some o' => rw [h1] at z'; cases z'; exact e0.pin b _ h1
    · show (match N.p b with | some o => some o | none => P b) = some o
      rw [z]
    · show (match N.p b with | some o => some o | none => P b) = some o
      cases h1 : N.p b with
      | none => exact z
      | some o' =>
        have := e0.pin b o' h1
        rw [sp b o z] at this
        exact congrArg some (Option.some.inj this.symm)
  obtain ⟨fr', hq1, hq2⟩ := npin
  generalize hq : (fun b => match N.p b with | some o => some o | none => P b) = q at fr' hq1 hq2
  have le : EndsLe (ends X.K { N with p := q } P Φ) (ends X.K N P Φ) := by
    have l1 := ends_unpin (K := X.K) (N := N) (q := q) (P := P) (Φ := Φ) hq1
    have l2 := ends_weakP (K := X.K) (N := N) (P := q) (P' := P) (Φ := Φ) hq2
    exact ⟨fun _ _ z => l2.nx _ _ (l1.nx _ _ z), fun _ _ z => l2.rt _ _ (l1.rt _ _ z), fun _ _ z => l2.bk _ _ (l1.bk _ _ z), fun _ _ z => l2.ct _ _ (l1.ct _ _ z)⟩
  refine tws_mono le (hb { N with p := q } pn xe (fun D hD => ⟨_, tk, fun P1 σ1 H1 ρ1 hρ f1 => ?_⟩) P σ H fr')
  subst hρ
  refine ⟨true, hm D hD, fun _ a ha oe pn2 hz hd => ?_, fun z => nomatch z⟩
  refine tws_mono ?_ (hsu { N with p := q } D hD a oe pn2 hz hd q (σ1.set i (some (.ref a))) H1 (by
    have f2 := f1.setRaw i (.ref a)
    obtain ⟨G, e0, sp, s, f⟩ := f2
    exact ⟨G, e0, e0.pin, s, f⟩))
  have toP : forall {σ2 : L2.St} {H2 : Hp} {ρ2 : Rho}, Fr X.K { N with p := q } q σ2 H2 ρ2 -> Fr X.K N P (σ2.set i none) H2 (ρ2.set i .any) := fun f2 => ((f2.unpin hq1).weakP hq2).setAny i none
  exact ⟨fun σ2 H2 ⟨ρ2, f2, z⟩ => ⟨_, toP f2, z⟩, fun v H2 ⟨d, ⟨G, a1, a2, a3⟩, z⟩ => ⟨d, ⟨G, ⟨a1.toExt, hq1.trans a1.pin⟩, hq2.trans a1.pin, a3⟩, z⟩, fun σ2 H2 ⟨ρ2, f2, z⟩ => ⟨_, toP f2, z⟩, fun σ2 H2 ⟨ρ2, f2, z⟩ => ⟨_, toP f2, z⟩⟩
/-- isinstance(e, Y), e the caught error of the class at D -/
theorem ge_isE {i : Nat} {a D Cy : Addr} {oe : Obj} {pn : List (Addr × Obj)} {y : Str} {pe py : Pos} {k : Bool} (hm : X.mg "isinstance" = none) (hC : ExcC X.K D) (hz : Zc (.ref D) none oe) (hf : ∃ vs, oe.data = .fields vs) (hy : X.mg y = some (.ref Cy)) (hk : PySem.W.kitOne X.K (.ref D) (.ref Cy) = some k)
    (hr : ρ[i]? = some (.raw (.ref a)) := by rfl) (hN : X.N[i]? = some n := by rfl) (hv : Vis X.env.scope n := by first | exact Or.inl rfl | exact Or.inr (Or.inl rfl) | exact Or.inr (Or.inr rfl)) (hg : Gl X "isinstance" := by rfl) (hgy : Gl X y := by rfl) (hd : (n == ("__debug__" : Str)) = false := by decide) (hcd : (n == ("__classdict__" : Str)) = false := by decide) (hdy : (y == ("__debug__" : Str)) = false := by decide)
    (hs1 : starEach [.Name n pe, .Name y py] X.env = (false, eval (.Name n pe) X.env) :: starEach [.Name y py] X.env := by rfl) (hs2 : starEach [.Name y py] X.env = (false, eval (.Name y py) X.env) :: starEach [] X.env := by rfl) (hpl : (backTo pos (starEach [.Name y py] X.env)).any (·.1) = false := by rfl) :
    GE (X.suite a ((a, oe) :: pn)) (.Call (.Name "isinstance" p) [.Name n pe, .Name y py] [] pos) ρ (.bool k) :=
  ge_of (pe_callB (call_isE hC hz hf) hg hm (by decide +kernel) (pa_cons (pe_var (X := X.suite a ((a, oe) :: pn)) hN hv hd hcd) (pa_cons (pe_glob (X := X.suite a ((a, oe) :: pn)) (v := .ref Cy) hgy hy rfl hdy) pa_nil hs2) hs1) (by decide) (by decide) hs1 hpl) fun σ G H Q s q => by
    obtain ⟨ov, h1, h2⟩ := s.at_ i _ hr
    have h2' : ov = some (.ref a) := h2
    subst h2'
    exact ⟨.ref a, h1, .ref Cy, .ref Cy, k, rfl, fun u r => r, hk, q _ G H (.refl s.gh) (.bl k)⟩
/-- [..].index(True) -/
theorem ge_indexB {bs : List Bool} {j : Nat} {apos : Pos} (ha : GE X a ρ (.list (bs.map PyData.bool))) (hb : GE X b ρ (.bool true)) (hj : bs[j]? = some true) (hn : forall m, m < j -> bs[m]? = some false)
    (hbase : attributeBase a "index" X.env (eval a X.env) = eval a X.env := by rfl)
    (hfew : ((backTo pos (starEach (b :: []) X.env)).all (fun x => !x.1) && (backToKw pos (keywordEach [] X.env)).all (fun x => x.1.isSome) && decide ((b :: []).length + ([] : List Keyword).length + (if ([] : List Keyword).isEmpty then 0 else 1) < 30)) = true := by rfl)
    (hline : (apos.endLine == pos.line) = true := by rfl) (hs1 : starEach (b :: []) X.env = (false, eval b X.env) :: starEach [] X.env := by rfl) (hplain : (backTo pos (starEach [] X.env)).any (·.1) = false := by rfl) : GE X (.Call (.Attribute a "index" apos) [b] [] pos) ρ (.int (j : Nat)) :=
  ge_of (pe_bm PySem.F.plainAttrs_list PySem.F.slot_list_index PySem.F.type_list_index mt_index pe_tw (pa_cons pe_tw pa_nil hs1) hbase hfew hline hs1 hplain) fun σ G H Q s q => ha σ G H _ s fun v G1 H1 e1 dv => by
    cases dv with
    | lst s1 a1 =>
      rw [a1.bools] at s1
      refine ⟨.inl ⟨rfl, _, .inl (.inl (e1.gh _ _ s1))⟩, hb σ G1 H1 _ (s.ext e1) fun v2 G2 H2 e2 d2 => ?_⟩
      cases d2
      refine ⟨_, bs.map V.bl, .bl true, j, .bl true, rfl, rfl, .inl (.inl (e2.h _ _ (e1.gh _ _ s1))), rfl, ?_, by rw [List.getElem?_map, hj]; rfl, rfl, fun m z hm hz => ?_, q _ G2 H2 (e1.trans e2) (.int _)⟩
      · rw [List.all_map, List.all_eq_true]
        intro _ _
        rfl
      · rw [List.getElem?_map, hn m hm] at hz
        cases hz
        rfl
theorem no_out {P : Program} {w : World} (H : Hp) (s : Shared) (e : Value) (s' : Shared) (h : L2.CX P w [] H s (fun _ _ _ => False) e s') : False := by
  obtain ⟨_, _, _, _, _, _, _, _, _, _, _, _, z⟩ := h
  exact z
end
end Gd

namespace Gd
open PySem PySem.Spec L2
section
variable {X : Cx} {N : En} {st : Stmt} {e a b c elt tg iter : Expr} {es ifs : List Expr} {ρ ρ' : Rho} {d d1 d2 : PyData} {ds : List PyData} {pos pos' p p2 : Pos} {Φ : Post} {i j : Int} {l : List Nat} {k : Bool}
theorem sub_of {T : Tg} {own : List (Str × Nat)} (h : (T.sl.all fun j => (own.map (·.2)).contains j) = true) : forall j, j ∈ T.sl -> j ∈ own.map (·.2) := fun j hj => by
  have := List.all_eq_true.mp h j hj
  simpa using this
theorem lcF {α : Type} (L : List α) (g : α -> PyData) (F : α -> Option PyData) {T : Tg} {scope : Scope} (own : List (Str × Nat)) (hi : GI X tg iter ρ (L.map g)) (hN : X.N.Nodup) (hlen : L.length ≤ 1000000) (hg : forall s H C cl fp, GTg (Blk X scope s H C cl fp) tg T)
    (turn : forall (i : Nat) (x : α), L[i]? = some x -> ∃ ρ2, T.put (g x) (wipeR ρ (own.map (·.2))) = some ρ2 ∧ forall s H C cl fp, GTs (Blk X scope s H C cl fp) ifs ρ2 (F x).isSome ∧ forall y, F x = some y -> GE (Blk X scope s H C cl fp) elt ρ2 y)
    (ok : blkC X.N X.env.scope scope own = true := by kernel_rfl) (hsub : (T.sl.all fun j => (own.map (·.2)).contains j) = true := by rfl) (hc : X.calm = true := by rfl) (hfs : forall x, foldedSetIterable iter X.env x = pure x := by intro _; rfl) : GE X (.ListComp elt [⟨tg, iter, ifs, 0⟩] scope pos) ρ (.list (L.filterMap F)) :=
  ge_lcF L g F own hi hN (blkOk_by ok) hg (sub_of hsub) hlen turn hc hfs
theorem lc {α : Type} (L : List α) (g : α -> PyData) (F : α -> PyData) {T : Tg} {scope : Scope} (own : List (Str × Nat)) (hi : GI X tg iter ρ (L.map g)) (hN : X.N.Nodup) (hlen : L.length ≤ 1000000) (hg : forall s H C cl fp, GTg (Blk X scope s H C cl fp) tg T)
    (turn : forall (i : Nat) (x : α), L[i]? = some x -> ∃ ρ2, T.put (g x) (wipeR ρ (own.map (·.2))) = some ρ2 ∧ forall s H C cl fp, GE (Blk X scope s H C cl fp) elt ρ2 (F x))
    (ok : blkC X.N X.env.scope scope own = true := by kernel_rfl) (hsub : (T.sl.all fun j => (own.map (·.2)).contains j) = true := by rfl) (hc : X.calm = true := by rfl) (hfs : forall x, foldedSetIterable iter X.env x = pure x := by intro _; rfl) : GE X (.ListComp elt [⟨tg, iter, [], 0⟩] scope pos) ρ (.list (L.map F)) :=
  ge_lc L g F own hi hN (blkOk_by ok) hg (sub_of hsub) hlen turn hc hfs
theorem k_allF {α : Type} (L : List α) (f : α -> Bool) (hc : X.calm = true) : CalD X (.builtin "all") [.list (L.map fun x => .bool (f x))] (.bool (L.all f)) := by
  have h := k_all (X := X) (bs := L.map f) hc
  rw [List.map_map] at h
  have e : (L.map f).all id = L.all f := by rw [List.all_map]; rfl
  rw [e] at h
  exact h
theorem k_anyF {α : Type} (L : List α) (f : α -> Bool) (hc : X.calm = true) : CalD X (.builtin "any") [.list (L.map fun x => .bool (f x))] (.bool (L.any f)) := by
  have h := k_any (X := X) (bs := L.map f) hc
  rw [List.map_map] at h
  have e : (L.map f).any id = L.any f := by rw [List.any_map]; rfl
  rw [e] at h
  exact h
/-- y = [..]: the statement -/
theorem g1_setLcF {α : Type} (iy : Nat) (L : List α) (g : α -> PyData) (F : α -> Option PyData) {T : Tg} {scope : Scope} (own : List (Str × Nat)) {y : Str} {py spos : Pos} (hi : GI X tg iter ρ (L.map g)) (hN : X.N.Nodup) (hlen : L.length ≤ 1000000) (hg : forall s H C cl fp, GTg (Blk X scope s H C cl fp) tg T)
    (turn : forall (i : Nat) (x : α), L[i]? = some x -> ∃ ρ2, T.put (g x) (wipeR ρ (own.map (·.2))) = some ρ2 ∧ forall s H C cl fp, GTs (Blk X scope s H C cl fp) ifs ρ2 (F x).isSome ∧ forall y, F x = some y -> GE (Blk X scope s H C cl fp) elt ρ2 y)
    (h : Φ.nx (ρ.set iy (.dat (.list (L.filterMap F)))))
    (hsw : swapsWith (.ListComp elt [⟨tg, iter, ifs, 0⟩] scope pos) (some (.Name y py)) spos.line X.env = pure true := by exact sw_true rfl rfl rfl (by decide +kernel)) (ok : blkC X.N X.env.scope scope own = true := by kernel_rfl) (hy : X.N[iy]? = some y := by rfl) (hyl : X.env.scope.names.lookup y = some .local := by rfl)
    (hsub : (T.sl.all fun j => (own.map (·.2)).contains j) = true := by rfl) (hc : X.calm = true := by rfl) (hfs : forall x, foldedSetIterable iter X.env x = pure x := by intro _; rfl) : G1 X N (.Assign [.Name y py] (.ListComp elt [⟨tg, iter, ifs, 0⟩] scope pos) spos) ρ Φ := by
  obtain ⟨wi, hpi, hw⟩ := hi
  refine g1_of (ps_setLc (own := own) (g := T.rd X.K)
    (tt := fun σ H Q => forall s H' C cl fp pins s', Inv (Blk X scope s H' C cl fp) pins σ H s' -> wpAny (model X.prog X.w) (Blk X scope s H' C cl fp).A (forIn ifs true fun c r => if r = true then do let ok ← isTrue c (Blk X scope s H' C cl fp).env (eval c (Blk X scope s H' C cl fp).env); pure (ForInStep.yield ok) else pure (ForInStep.yield r)) (TP (Blk X scope s H' C cl fp) pins σ Q) (Blk X scope s H' C cl fp).xe s')
    (te := fun σ H Q => forall s H' C cl fp, tw (Blk X scope s H' C cl fp) elt σ H Q) hc hN hy hyl hsw hpi (blkOk_by ok) (fun s H C cl fp => hg s H C cl fp) (fun s H C cl fp => ⟨fun pins s' σ H' Q I h => h s H C cl fp pins s' I⟩) (fun s H C cl fp => ⟨fun pins s' σ H' Q I h => (h s H C cl fp pins s' I).run⟩) hfs) fun P σ H f => ?_
  refine f.ev (ev_lc L g F hw (sub_of hsub) hlen fun i x hx => ?_) fun v G H' e1 sp sta fr dv => ⟨_, ⟨G, e1, sp, sta.set iy dv, fresh_set fr⟩, h⟩
  obtain ⟨ρ2, hput, h2⟩ := turn i x hx
  exact ⟨ρ2, hput, fun σ G H Q s q s0 H' C cl fp pins s' I => ((h2 s0 H' C cl fp).1 σ G H Q s q pins s' I).run, fun y hy σ G H Q s q s0 H' C cl fp => (h2 s0 H' C cl fp).2 y hy σ G H Q s q⟩
theorem g1_setLc {α : Type} (iy : Nat) (L : List α) (g : α -> PyData) (F : α -> PyData) {T : Tg} {scope : Scope} (own : List (Str × Nat)) {y : Str} {py spos : Pos} (hi : GI X tg iter ρ (L.map g)) (hN : X.N.Nodup) (hlen : L.length ≤ 1000000) (hg : forall s H C cl fp, GTg (Blk X scope s H C cl fp) tg T)
    (turn : forall (i : Nat) (x : α), L[i]? = some x -> ∃ ρ2, T.put (g x) (wipeR ρ (own.map (·.2))) = some ρ2 ∧ forall s H C cl fp, GE (Blk X scope s H C cl fp) elt ρ2 (F x))
    (h : Φ.nx (ρ.set iy (.dat (.list (L.map F)))))
    (hsw : swapsWith (.ListComp elt [⟨tg, iter, [], 0⟩] scope pos) (some (.Name y py)) spos.line X.env = pure true := by exact sw_true rfl rfl rfl (by decide +kernel)) (ok : blkC X.N X.env.scope scope own = true := by kernel_rfl) (hy : X.N[iy]? = some y := by rfl) (hyl : X.env.scope.names.lookup y = some .local := by rfl)
    (hsub : (T.sl.all fun j => (own.map (·.2)).contains j) = true := by rfl) (hc : X.calm = true := by rfl) (hfs : forall x, foldedSetIterable iter X.env x = pure x := by intro _; rfl) : G1 X N (.Assign [.Name y py] (.ListComp elt [⟨tg, iter, [], 0⟩] scope pos) spos) ρ Φ :=
  g1_setLcF iy L g (fun x => some (F x)) own hi hN hlen hg (fun i x hx => by
    obtain ⟨ρ2, h1, h2⟩ := turn i x hx
    exact ⟨ρ2, h1, fun s H C cl fp => ⟨gts_nil, fun y hy => by cases hy; exact h2 s H C cl fp⟩⟩) (by rw [List.filterMap_eq_map']; exact h) hsw ok hy hyl hsub hc hfs
theorem atI_0 {α : Type} {l : List α} {n : Nat} {x : α} (h : l[n]? = some x) : atI l (n : Int) = some x := atI_nat h
theorem atI_z {α : Type} {l : List α} {z : Int} {x : α} (h0 : 0 ≤ z) (h : l[z.toNat]? = some x) : atI l z = some x := by
  have e : z = ((z.toNat : Nat) : Int) := by omega
  rw [e]
  exact atI_nat h
end
/-! ### == of data -/
mutual
theorem eqv_refl : forall d : PyData, noDict d = true -> PyData.eqv d d = true
  | .none, _ => by simp [PyData.eqv]
  | .bool b, _ => by simp [PyData.eqv]
  | .int i, _ => by simp [PyData.eqv]
  | .str s, _ => by simp [PyData.eqv]
  | .list xs, h => by
    rw [noDict] at h
    rw [PyData.eqv]
    exact eqvAll_refl xs h
  | .tuple xs, h => by
    rw [noDict] at h
    rw [PyData.eqv]
    exact eqvAll_refl xs h
  | .dict _, h => by simp [noDict] at h
theorem eqvAll_refl : forall ds : List PyData, noDictAll ds = true -> PyData.eqvAll ds ds = true
  | [], _ => by simp [PyData.eqvAll]
  | d :: ds, h => by
    rw [noDictAll, Bool.and_eq_true] at h
    rw [PyData.eqvAll, eqv_refl d h.1, eqvAll_refl ds h.2]
    rfl
end
end Gd

namespace Gd
open PySem PySem.Spec L2
section
variable {X : Cx} {N : En} {a b c e : Expr} {ρ : Rho} {d d1 d2 : PyData} {ds : List PyData} {pos p : Pos} {i j : Int} {l : List Nat}
theorem ge_lenS (hm : X.mg "len" = none) (ha : GE X a ρ (.str (S l))) (h : l.length ≤ 100000) (hg : Gl X "len" := by rfl) (he : starEach [a] X.env = (false, eval a X.env) :: starEach [] X.env := by rfl) (hpl : (backTo pos (starEach [] X.env)).any (·.1) = false := by rfl) : GE X (.Call (.Name "len" p) [a] [] pos) ρ (.int l.length) :=
  ge_cb hm bt_len (k_lenS h) (ga_cons ha ga_nil he) hg (by decide) (by decide) he hpl
theorem ge_lenL (hm : X.mg "len" = none) (ha : GE X a ρ (.list ds)) (hg : Gl X "len" := by rfl) (he : starEach [a] X.env = (false, eval a X.env) :: starEach [] X.env := by rfl) (hpl : (backTo pos (starEach [] X.env)).any (·.1) = false := by rfl) : GE X (.Call (.Name "len" p) [a] [] pos) ρ (.int ds.length) :=
  ge_cb hm bt_len k_lenL (ga_cons ha ga_nil he) hg (by decide) (by decide) he hpl
theorem ge_lenC {ns : List Int} (hm : X.mg "len" = none) (ha : GE X a ρ (scrD ns)) (hg : Gl X "len" := by rfl) (he : starEach [a] X.env = (false, eval a X.env) :: starEach [] X.env := by rfl) (hpl : (backTo pos (starEach [] X.env)).any (·.1) = false := by rfl) : GE X (.Call (.Name "len" p) [a] [] pos) ρ (.int ns.length) :=
  ge_cb hm bt_len k_lenScr (ga_cons ha ga_nil he) hg (by decide) (by decide) he hpl
theorem ge_min (hm : X.mg "min" = none) (ha : GE X a ρ (.int i)) (hb : GE X b ρ (.int j)) (hc : X.calm = true := by rfl) (hg : Gl X "min" := by rfl) (he : starEach [a, b] X.env = (false, eval a X.env) :: starEach [b] X.env := by rfl) (he2 : starEach [b] X.env = (false, eval b X.env) :: starEach [] X.env := by rfl) (hpl : (backTo pos (starEach [b] X.env)).any (·.1) = false := by rfl) :
    GE X (.Call (.Name "min" p) [a, b] [] pos) ρ (.int (if j < i then j else i)) := ge_cb hm bt_min (k_min2 hc) (ga_cons ha (ga_cons hb ga_nil he2) he) hg (by decide) (by decide) he hpl
theorem ge_max (hm : X.mg "max" = none) (ha : GE X a ρ (.int i)) (hb : GE X b ρ (.int j)) (hc : X.calm = true := by rfl) (hg : Gl X "max" := by rfl) (he : starEach [a, b] X.env = (false, eval a X.env) :: starEach [b] X.env := by rfl) (he2 : starEach [b] X.env = (false, eval b X.env) :: starEach [] X.env := by rfl) (hpl : (backTo pos (starEach [b] X.env)).any (·.1) = false := by rfl) :
    GE X (.Call (.Name "max" p) [a, b] [] pos) ρ (.int (if j > i then j else i)) := ge_cb hm bt_max (k_max2 hc) (ga_cons ha (ga_cons hb ga_nil he2) he) hg (by decide) (by decide) he hpl
/-- s[:e], s[e:], s[e:f] -/
theorem ge_toS {p2 : Pos} (ha : GE X a ρ (.str (S l))) (he : GE X e ρ (.int i)) (hi : 0 ≤ i) (hz : l.length ≤ 100000) : GE X (.Subscript a (.Slice none (some e) none p2) pos) ρ (.str (S (l.take i.toNat))) := by
  have h := ge_slS (pos := pos) (p2 := p2) (lo := none) (hi := some e) (vl := none) (vh := some i) ha trivial he hz
  rw [cut_to l i hi] at h
  exact h
theorem ge_fromS {p2 : Pos} (ha : GE X a ρ (.str (S l))) (he : GE X e ρ (.int i)) (hi : 0 ≤ i) (hz : l.length ≤ 100000) : GE X (.Subscript a (.Slice (some e) none none p2) pos) ρ (.str (S (l.drop i.toNat))) := by
  have h := ge_slS (pos := pos) (p2 := p2) (lo := some e) (hi := none) (vl := some i) (vh := none) ha he trivial hz
  rw [cut_from l i hi] at h
  exact h
theorem ge_midS {p2 : Pos} (ha : GE X a ρ (.str (S l))) (he : GE X e ρ (.int i)) (hf : GE X c ρ (.int j)) (hi : 0 ≤ i) (hj : 0 ≤ j) (hz : l.length ≤ 100000) : GE X (.Subscript a (.Slice (some e) (some c) none p2) pos) ρ (.str (S ((l.take j.toNat).drop i.toNat))) := by
  have h := ge_slS (pos := pos) (p2 := p2) (lo := some e) (hi := some c) (vl := some i) (vh := some j) ha he hf hz
  rw [cut_mid l i j hi hj] at h
  exact h
end
end Gd

namespace Lw
open PySem PySem.Spec L2 Gd
/-! ### the mirror: rules, states, logs -/
structure Ru where
  st : Int
  pa : Int
  da : Int
  ni : Int
  sp : Int
structure Sq where
  st : Int
  da : Int
  mar : Bool
  ru : Int
  tk : Bool
def ruD (r : Ru) : PyData := .tuple [.int r.st, .int r.pa, .int r.da, .int r.ni, .int r.sp]
def sqD (s : Sq) : PyData := .tuple [.int s.st, .int s.da, .bool s.mar, .int s.ru, .bool s.tk]
def shD (s : Sq) : PyData := .tuple [.int s.st, .int s.da, .bool s.mar]
def okInt (d : PyData) (lo hi : Int) : Bool := match d with
  | .int i => decide (lo ≤ i) && decide (i ≤ hi)
  | _ => false
def isRules : PyData -> Bool
  | .tuple [a, b, c, d, e] => (okInt a 1 6 && okInt b 1 4) && (match a, b with
    | .int s, .int p => okInt c s 10 && (okInt d p 6 && okInt e 0 (p - 1))
    | _, _ => false)
  | _ => false
/-- signs: D 68, R 82, W 87 -/
def isSg (c : Nat) : Bool := decide (c ∈ [68, 82, 87])
def isLogL (l : List Nat) : Bool := decide ((l.length : Int) ≤ 60) && l.all isSg
def isLog : PyData -> Bool
  | .str z => isLogL z.cps.toList
  | _ => false
/-- arguments of other forms are not too great -/
def smol : PyData -> Bool
  | .str z => decide (z.length ≤ 1000)
  | _ => true
def restOnce (r : Ru) (s : Sq) : Sq :=
  let run := if r.ni < s.ru + 1 then r.ni else s.ru + 1
  let b1 := decide (0 < r.sp) && (s.mar && decide (r.pa - r.sp ≤ run))
  let b2 := decide (r.pa ≤ run)
  { st := if b2 then 0 else if b1 then 0 else s.st, da := if r.ni ≤ run then 0 else s.da, mar := if b2 then false else if b1 then false else s.mar, ru := run, tk := if b1 then true else s.tk }
def endRun (r : Ru) (s : Sq) : Sq :=
  { st := s.st, da := s.da, mar := s.mar || (decide (0 < r.sp) && ((decide (r.sp ≤ s.ru) && decide (s.ru < r.pa)) && !s.tk)), ru := 0, tk := false }
def stepF (r : Ru) (s : Sq) (c : Nat) : Sq :=
  if c = 82 then restOnce r s else if c = 68 then { endRun r s with st := s.st + 1, da := s.da + 1 } else endRun r s
def start0 : Sq := ⟨0, 0, false, 0, false⟩
def after (r : Ru) (l : List Nat) : Sq := l.foldl (stepF r) start0
/-- the states after 0, 1, 2 .. slots -/
def statesL (r : Ru) (l : List Nat) : List Sq := (List.range (l.length + 1)).map fun i => after r (l.take i)
def isOver (r : Ru) (s : Sq) : Bool := decide (r.st < s.st) || decide (r.da < s.da)
def badAt (r : Ru) (l : List Nat) (i : Nat) : Bool := decide (l[i]? = some 68) && isOver r (after r (l.take (i + 1)))
def faultsL (r : Ru) (l : List Nat) : List Nat := (List.range l.length).filter fun i => badAt r l i
theorem after_snoc (r : Ru) (l : List Nat) (c : Nat) : after r (l ++ [c]) = stepF r (after r l) c := by
  unfold after
  rw [List.foldl_append]
  rfl
theorem after_take {r : Ru} {l : List Nat} {i c : Nat} (h : l[i]? = some c) : after r (l.take (i + 1)) = stepF r (after r (l.take i)) c := by
  rw [List.take_add_one, h]
  exact after_snoc r _ c
theorem statesL_take {r : Ru} {l : List Nat} {i c : Nat} (h : l[i]? = some c) : (List.range (i + 1 + 1)).map (fun j => after r (l.take j)) = (List.range (i + 1)).map (fun j => after r (l.take j)) ++ [stepF r (after r (l.take i)) c] := by
  rw [List.range_succ (n := i + 1), List.map_append, ← after_take h]
  rfl
/-! ### data that may be compared -/
mutual
def shN : Nat -> PyData -> Bool
  | _, .none => true
  | _, .bool _ => true
  | _, .int _ => true
  | _, .str x => PyData.canLay0 (.str x)
  | 0, .list _ => false
  | 0, .tuple _ => false
  | n + 1, .list ds => shAll n ds
  | n + 1, .tuple ds => shAll n ds
  | _, .dict _ => false
def shAll : Nat -> List PyData -> Bool
  | _, [] => true
  | n, d :: ds => shN n d && shAll n ds
end
mutual
theorem shN_ok : forall (n : Nat) (d : PyData), shN n d = true -> noDict d = true ∧ PyData.canLay0 d = true ∧ PyData.depth d ≤ n
  | _, .none, _ => by simp [noDict, PyData.canLay0, PyData.depth]
  | _, .bool _, _ => by simp [noDict, PyData.canLay0, PyData.depth]
  | _, .int _, _ => by simp [noDict, PyData.canLay0, PyData.depth]
  | _, .str x, h => by
    have h' : PyData.canLay0 (.str x) = true := by simpa [shN] using h
    exact ⟨by simp [noDict], h', by simp [PyData.depth]⟩
  | 0, .list _, h => by simp [shN] at h
  | 0, .tuple _, h => by simp [shN] at h
  | n + 1, .list ds, h => by
    obtain ⟨a, b, c⟩ := shAll_ok n ds (by simpa [shN] using h)
    exact ⟨by simpa [noDict] using a, by simpa [PyData.canLay0] using b, by rw [PyData.depth]; omega⟩
  | n + 1, .tuple ds, h => by
    obtain ⟨a, b, c⟩ := shAll_ok n ds (by simpa [shN] using h)
    exact ⟨by simpa [noDict] using a, by simpa [PyData.canLay0] using b, by rw [PyData.depth]; omega⟩
  | _, .dict _, h => by simp [shN] at h
theorem shAll_ok : forall (n : Nat) (ds : List PyData), shAll n ds = true -> noDictAll ds = true ∧ PyData.canLayAll0 ds = true ∧ PyData.depthAll ds ≤ n
  | _, [], _ => by simp [noDictAll, PyData.canLayAll0, PyData.depthAll]
  | n, d :: ds, h => by
    rw [shAll, Bool.and_eq_true] at h
    obtain ⟨a, b, c⟩ := shN_ok n d h.1
    obtain ⟨a', b', c'⟩ := shAll_ok n ds h.2
    refine ⟨by rw [noDictAll, a, a']; rfl, by rw [PyData.canLayAll0, b, b']; rfl, ?_⟩
    rw [PyData.depthAll]
    omega
end
theorem shap_of {d : PyData} (n : Nat) (h : shN n d = true) (hn : n ≤ 64 := by decide) : shap d = true := by
  obtain ⟨a, b, c⟩ := shN_ok n d h
  unfold shap SeqAt.shaped
  rw [a, b, decide_eq_true (show PyData.depth d ≤ 64 by omega)]
  rfl
theorem shAll_map {α : Type} {n : Nat} {f : α -> PyData} : forall (L : List α), (forall x, x ∈ L -> shN n (f x) = true) -> shAll n (L.map f) = true
  | [], _ => by simp [shAll]
  | x :: L, h => by
    rw [List.map_cons, shAll, h x List.mem_cons_self, shAll_map L fun y hy => h y (List.mem_cons_of_mem _ hy)]
    rfl
theorem shN_list {α : Type} {n : Nat} {f : α -> PyData} (L : List α) (h : forall x, x ∈ L -> shN n (f x) = true) : shN (n + 1) (.list (L.map f)) = true := by
  rw [shN]
  exact shAll_map L h
end Lw

namespace Lw
open PySem PySem.Spec L2 Gd
/-! ### the law's draws -/
def dwh : Nat -> Int -> Int
  | 0, rest => rest
  | t + 1, rest => if 0 < rest then dwh t (rest / 1000000) else rest
def mixD (cell k many : Int) : Int :=
  let c1 := (cell % 2147483563 * 69069 + 104723 * (k + 1)) % 2147483563
  let c2 := (c1 * c1 + c1 / 3) % 2147483399
  (c2 * c2 + c2 / 7) % 2147483647 / 11 % many
def cellAt (ns : List Int) (k : Int) : Int := ns.getD (k % (ns.length : Int)).toNat 0
def drawn (ns : List Int) (k many : Int) : Int :=
  if ns.isEmpty = true then mixD (7 * k) k many
  else if (decide (10 ^ 18 ≤ cellAt ns k) && decide (k / (ns.length : Int) < 60)) = true then
    (if 0 < dwh (k / (ns.length : Int)).toNat (cellAt ns k / 10 ^ 18) then dwh (k / (ns.length : Int)).toNat (cellAt ns k / 10 ^ 18) % 1000000 % many
    else mixD (cellAt ns k + 6553 * (k / (ns.length : Int))) k many)
  else mixD (cellAt ns k + 6553 * (k / (ns.length : Int))) k many
theorem mixD_range (cell k many : Int) (h : 0 < many) : 0 ≤ mixD cell k many ∧ mixD cell k many < many := ⟨Int.emod_nonneg _ (by omega), Int.emod_lt_of_pos _ h⟩
theorem drawn_range (ns : List Int) (k many : Int) (h : 0 < many) : 0 ≤ drawn ns k many ∧ drawn ns k many < many := by
  unfold drawn
  split
  · exact mixD_range _ _ _ h
  · split
    · split
      · exact ⟨Int.emod_nonneg _ (by omega), Int.emod_lt_of_pos _ h⟩
      · exact mixD_range _ _ _ h
    · exact mixD_range _ _ _ h
theorem cellAt_at {ns : List Int} {k : Int} (h : ns ≠ []) (hk : 0 ≤ k) : atI ns (k % (ns.length : Int)) = some (cellAt ns k) := by
  have hl : 0 < ns.length := List.length_pos_iff.mpr h
  have h0 : 0 ≤ k % (ns.length : Int) := Int.emod_nonneg _ (by omega)
  have h1 : k % (ns.length : Int) < ns.length := Int.emod_lt_of_pos _ (by omega)
  refine atI_z h0 ?_
  have h2 : (k % (ns.length : Int)).toNat < ns.length := by omega
  unfold cellAt
  rw [List.getElem?_eq_getElem h2, List.getD_eq_getElem?_getD, List.getElem?_eq_getElem h2]
  rfl
end Lw

namespace Lw
open PySem PySem.Spec L2 Gd
/-! ### rules -/
structure VR (r : Ru) : Prop where
  s1 : 1 ≤ r.st
  s2 : r.st ≤ 6
  p1 : 1 ≤ r.pa
  p2 : r.pa ≤ 4
  d1 : r.st ≤ r.da
  d2 : r.da ≤ 10
  n1 : r.pa ≤ r.ni
  n2 : r.ni ≤ 6
  q1 : 0 ≤ r.sp
  q2 : r.sp ≤ r.pa - 1
theorem isRules_iff (r : Ru) : isRules (ruD r) = true <-> VR r := by
  unfold isRules ruD okInt
  simp only [Bool.and_eq_true, decide_eq_true_eq]
  constructor
  · rintro ⟨⟨⟨a, b⟩, c, d⟩, ⟨e, f⟩, ⟨g, h⟩, i, j⟩
    exact ⟨a, b, c, d, e, f, g, h, i, j⟩
  · rintro ⟨a, b, c, d, e, f, g, h, i, j⟩
    exact ⟨⟨⟨a, b⟩, c, d⟩, ⟨e, f⟩, ⟨g, h⟩, i, j⟩
/-! ### the law's own counters -/
def lstep (r : Ru) (s : Sq) (c : Nat) : Sq :=
  if c = 82 then
    { st := if decide (r.pa ≤ s.ru + 1) = true then 0 else if (s.mar && (decide (0 < r.sp) && decide (s.ru + 1 = r.pa - r.sp))) = true then 0 else s.st
      da := if r.ni ≤ s.ru + 1 then 0 else s.da
      mar := if decide (r.pa ≤ s.ru + 1) = true then false else if (s.mar && (decide (0 < r.sp) && decide (s.ru + 1 = r.pa - r.sp))) = true then false else s.mar
      ru := s.ru + 1
      tk := if (s.mar && (decide (0 < r.sp) && decide (s.ru + 1 = r.pa - r.sp))) = true then true else s.tk }
  else
    { st := if c = 68 then s.st + 1 else s.st
      da := if c = 68 then s.da + 1 else s.da
      mar := if ((decide (0 < r.sp) && (decide (r.sp ≤ s.ru) && decide (s.ru < r.pa))) && !s.tk) = true then true else s.mar
      ru := 0
      tk := false }
def lawAfter (r : Ru) (l : List Nat) : Sq := l.foldl (lstep r) start0
/-- the program's state s and the law's t -/
structure Alike (r : Ru) (s t : Sq) : Prop where
  st : s.st = t.st
  da : s.da = t.da
  mar : s.mar = t.mar
  tk : s.tk = t.tk
  ru : s.ru = if r.ni < t.ru then r.ni else t.ru
  pos : 0 ≤ t.ru
  low : t.mar = true -> 0 < r.sp -> t.ru < r.pa - r.sp
theorem alike0 {r : Ru} (v : VR r) : Alike r start0 start0 := by
  have := v.n1
  have := v.p1
  exact ⟨rfl, rfl, rfl, rfl, by show (0 : Int) = if r.ni < 0 then r.ni else 0; rw [if_neg (by omega)], Int.le_refl 0, fun h => nomatch h⟩
theorem ite_same {α : Type} {a b : Bool} {x y : α} (h : a = b) : (if a = true then x else y) = (if b = true then x else y) := by rw [h]
theorem alike_step {r : Ru} (v : VR r) {s t : Sq} (h : Alike r s t) (c : Nat) : Alike r (stepF r s c) (lstep r t c) := by
  obtain ⟨hst, hda, hmar, htk, hru, hpos, hmk⟩ := h
  obtain ⟨s1, s2, p1, p2, d1, d2, n1, n2, q1, q2⟩ := v
  obtain ⟨sst, sda, smar, sru, stk⟩ := s
  obtain ⟨tst, tda, tmar, tru, ttk⟩ := t
  simp only at hst hda hmar htk hru hpos hmk
  subst hst hda hmar htk
  unfold stepF lstep
  by_cases c82 : c = 82
  · rw [if_pos c82, if_pos c82]
    have erun : (if r.ni < sru + 1 then r.ni else sru + 1) = if r.ni < tru + 1 then r.ni else tru + 1 := by
      rw [hru]
      split <;> split <;> (try split) <;> (try split) <;> omega
    have e1 : (decide (0 < r.sp) && (smar && decide (r.pa - r.sp ≤ if r.ni < tru + 1 then r.ni else tru + 1))) = (smar && (decide (0 < r.sp) && decide (tru + 1 = r.pa - r.sp))) := by
      cases smar with
      | false => simp
      | true =>
        by_cases hs : 0 < r.sp
        · have := hmk rfl hs
          rw [if_neg (by omega)]
          have : decide (r.pa - r.sp ≤ tru + 1) = decide (tru + 1 = r.pa - r.sp) := by
            by_cases e : tru + 1 = r.pa - r.sp
            · rw [decide_eq_true e, decide_eq_true (by omega)]
            · rw [decide_eq_false e, decide_eq_false (by omega)]
          rw [this]
          simp
        · simp [hs]
    have e2 : decide (r.pa ≤ if r.ni < tru + 1 then r.ni else tru + 1) = decide (r.pa ≤ tru + 1) := by
      split
      · rw [decide_eq_true (by omega), decide_eq_true (by omega)]
      · rfl
    unfold restOnce
    dsimp only
    rw [erun, e1, e2]
    refine ⟨rfl, ?_, rfl, rfl, rfl, by show 0 ≤ tru + 1; omega, ?_⟩
    · show (if r.ni ≤ (if r.ni < tru + 1 then r.ni else tru + 1) then (0 : Int) else sda) = if r.ni ≤ tru + 1 then 0 else sda
      by_cases h : r.ni ≤ tru + 1
      · rw [if_pos h, if_pos (by split <;> omega)]
      · rw [if_neg h, if_neg (by split <;> omega)]
    · intro hm hs
      have hm' : (if decide (r.pa ≤ tru + 1) = true then false else if (smar && (decide (0 < r.sp) && decide (tru + 1 = r.pa - r.sp))) = true then false else smar) = true := hm
      show tru + 1 < r.pa - r.sp
      by_cases h2 : r.pa ≤ tru + 1
      · rw [decide_eq_true h2, if_pos rfl] at hm'
        cases hm'
      · rw [decide_eq_false h2, if_neg Bool.false_ne_true] at hm'
        cases smar with
        | false => simp at hm'
        | true =>
          have h3 := hmk rfl hs
          by_cases h4 : tru + 1 = r.pa - r.sp
          · rw [decide_eq_true h4, decide_eq_true hs] at hm'
            simp at hm'
          · omega
  · rw [if_neg c82, if_neg c82]
    have e1 : (smar || (decide (0 < r.sp) && ((decide (r.sp ≤ sru) && decide (sru < r.pa)) && !stk))) = if ((decide (0 < r.sp) && (decide (r.sp ≤ tru) && decide (tru < r.pa))) && !stk) = true then true else smar := by
      have a1 : decide (r.sp ≤ sru) = decide (r.sp ≤ tru) := by
        rw [hru]
        split
        · rw [decide_eq_true (by omega), decide_eq_true (by omega)]
        · rfl
      have a2 : decide (sru < r.pa) = decide (tru < r.pa) := by
        rw [hru]
        split
        · rw [decide_eq_false (by omega), decide_eq_false (by omega)]
        · rfl
      rw [a1, a2]
      cases smar <;> cases decide (0 < r.sp) <;> cases decide (r.sp ≤ tru) <;> cases decide (tru < r.pa) <;> cases stk <;> rfl
    have z0 : (0 : Int) = if r.ni < 0 then r.ni else 0 := by rw [if_neg (by omega)]
    by_cases c68 : c = 68
    · rw [if_pos c68, if_pos c68, if_pos c68]
      exact ⟨rfl, rfl, e1, rfl, z0, Int.le_refl 0, fun _ _ => by show (0 : Int) < r.pa - r.sp; omega⟩
    · rw [if_neg c68, if_neg c68, if_neg c68]
      exact ⟨rfl, rfl, e1, rfl, z0, Int.le_refl 0, fun _ _ => by show (0 : Int) < r.pa - r.sp; omega⟩
theorem alike_fold {r : Ru} (v : VR r) : forall (l : List Nat) (s t : Sq), Alike r s t -> Alike r (l.foldl (stepF r) s) (l.foldl (lstep r) t)
  | [], _, _, h => h
  | c :: l, _, _, h => alike_fold v l _ _ (alike_step v h c)
theorem alike_after {r : Ru} (v : VR r) (l : List Nat) : Alike r (after r l) (lawAfter r l) := alike_fold v l _ _ (alike0 v)
theorem law_sh {r : Ru} (v : VR r) (l : List Nat) : shD (lawAfter r l) = shD (after r l) := by
  have h := alike_after v l
  unfold shD
  rw [h.st, h.da, h.mar]
def lawBadAt (r : Ru) (l : List Nat) (i : Nat) : Bool := decide (l[i]? = some 68) && isOver r (lawAfter r (l.take (i + 1)))
def lawFaults (r : Ru) (l : List Nat) : List Nat := (List.range l.length).filter fun i => lawBadAt r l i
theorem law_over {r : Ru} (v : VR r) (l : List Nat) : isOver r (lawAfter r l) = isOver r (after r l) := by
  have h := alike_after v l
  unfold isOver
  rw [h.st, h.da]
theorem law_faults {r : Ru} (v : VR r) (l : List Nat) : lawFaults r l = faultsL r l := by
  unfold lawFaults faultsL
  congr 1
  funext i
  unfold lawBadAt badAt
  rw [law_over v]
/-! ### the law's rules and logs -/
def selSp (n : Int) : Int := if n < 2 then 0 else n - 1
def lawRules (ns : List Int) (at_ : Int) : Ru :=
  { st := 1 + drawn ns at_ 5
    pa := 1 + drawn ns (at_ + 1) 4
    da := if 1 + drawn ns at_ 5 + drawn ns (at_ + 2) 6 < 10 then 1 + drawn ns at_ 5 + drawn ns (at_ + 2) 6 else 10
    ni := if 1 + drawn ns (at_ + 1) 4 + drawn ns (at_ + 3) 4 < 6 then 1 + drawn ns (at_ + 1) 4 + drawn ns (at_ + 3) 4 else 6
    sp := if selSp (drawn ns (at_ + 4) 4) < 1 + drawn ns (at_ + 1) 4 - 1 then selSp (drawn ns (at_ + 4) 4) else 1 + drawn ns (at_ + 1) 4 - 1 }
theorem lawRules_vr (ns : List Int) (at_ : Int) : VR (lawRules ns at_) := by
  have a := drawn_range ns at_ 5 (by decide)
  have b := drawn_range ns (at_ + 1) 4 (by decide)
  have c := drawn_range ns (at_ + 2) 6 (by decide)
  have d := drawn_range ns (at_ + 3) 4 (by decide)
  have e := drawn_range ns (at_ + 4) 4 (by decide)
  have f : 0 ≤ selSp (drawn ns (at_ + 4) 4) := by unfold selSp; split <;> omega
  unfold lawRules
  constructor <;> dsimp only <;> (try split) <;> omega
/-- the signs of "DDRRDRW" -/
def sgAt (n : Int) : Nat := [68, 68, 82, 82, 68, 82, 87].getD n.toNat 68
theorem sgAt_sg {n : Int} (h0 : 0 ≤ n) (h : n < 7) : isSg (sgAt n) = true ∧ ([68, 68, 82, 82, 68, 82, 87] : List Nat)[n.toNat]? = some (sgAt n) := by
  have : n = 0 ∨ n = 1 ∨ n = 2 ∨ n = 3 ∨ n = 4 ∨ n = 5 ∨ n = 6 := by omega
  rcases this with rfl | rfl | rfl | rfl | rfl | rfl | rfl <;> exact ⟨rfl, rfl⟩
def logStep (ns : List Int) (at_ most : Int) (log : List Nat) (k : Nat) : List Nat :=
  if (log.length : Int) < most then
    log ++ (List.replicate (if 1 + drawn ns (at_ + 2 + 2 * (k : Int)) 4 < most - (log.length : Int) then 1 + drawn ns (at_ + 2 + 2 * (k : Int)) 4 else most - (log.length : Int)).toNat [sgAt (drawn ns (at_ + 1 + 2 * (k : Int)) 7)]).flatten
  else log
def logUpto (ns : List Int) (at_ most : Int) (n : Nat) : List Nat := (List.range n).foldl (logStep ns at_ most) []
def lawLog (ns : List Int) (at_ most : Int) : List Nat := logUpto ns at_ most (drawn ns at_ (most + 1)).toNat
theorem logUpto_succ (ns : List Int) (at_ most : Int) (n : Nat) : logUpto ns at_ most (n + 1) = logStep ns at_ most (logUpto ns at_ most n) n := by
  unfold logUpto
  rw [List.range_succ, List.foldl_append]
  rfl
theorem rep_len (n c : Nat) : (List.replicate n [c]).flatten.length = n := by
  induction n with
  | zero => rfl
  | succ n ih => rw [List.replicate_succ, List.flatten_cons, List.length_append, ih]; simp; omega
theorem rep_mem {n c x : Nat} (h : x ∈ (List.replicate n [c]).flatten) : x = c := by
  induction n with
  | zero => simp at h
  | succ n ih =>
    rw [List.replicate_succ, List.flatten_cons, List.mem_append] at h
    rcases h with h | h
    · simpa using h
    · exact ih h
theorem logStep_ok {ns : List Int} {at_ most : Int} {log : List Nat} {k : Nat} (hm : (log.length : Int) ≤ most) (hs : log.all isSg = true) : ((logStep ns at_ most log k).length : Int) ≤ most ∧ (logStep ns at_ most log k).all isSg = true := by
  unfold logStep
  have a := drawn_range ns (at_ + 2 + 2 * (k : Int)) 4 (by decide)
  have b := drawn_range ns (at_ + 1 + 2 * (k : Int)) 7 (by decide)
  split
  · refine ⟨?_, ?_⟩
    · rw [List.length_append, rep_len]
      split <;> omega
    · rw [List.all_append, hs, Bool.true_and, List.all_eq_true]
      intro x hx
      rw [rep_mem hx]
      exact (sgAt_sg b.1 b.2).1
  · exact ⟨hm, hs⟩
theorem logUpto_ok (ns : List Int) (at_ most : Int) (h0 : 0 ≤ most) : forall n : Nat, ((logUpto ns at_ most n).length : Int) ≤ most ∧ (logUpto ns at_ most n).all isSg = true
  | 0 => ⟨h0, rfl⟩
  | n + 1 => by
    rw [logUpto_succ]
    have := logUpto_ok ns at_ most h0 n
    exact logStep_ok this.1 this.2
theorem lawLog_ok (ns : List Int) (at_ most : Int) (h0 : 0 ≤ most) : ((lawLog ns at_ most).length : Int) ≤ most ∧ (lawLog ns at_ most).all isSg = true := logUpto_ok ns at_ most h0 _
theorem lawLog_isLog (ns : List Int) (at_ most : Int) (h0 : 0 ≤ most) (h60 : most ≤ 60) : isLogL (lawLog ns at_ most) = true := by
  have := lawLog_ok ns at_ most h0
  unfold isLogL
  rw [this.2, decide_eq_true (by omega)]
  rfl
/-! ### values of other forms -/
def badRules : List PyData := [.none, .tuple [], .tuple [.int 4, .int 2, .int 8, .int 5], .tuple [.int 0, .int 2, .int 8, .int 5, .int 0], .tuple [.int 7, .int 2, .int 8, .int 5, .int 0], .tuple [.int 4, .int 0, .int 8, .int 5, .int 0], .tuple [.int 4, .int 5, .int 8, .int 5, .int 0], .tuple [.int 4, .int 2, .int 3, .int 5, .int 0], .tuple [.int 4, .int 2, .int 11, .int 5, .int 0],
  .tuple [.int 4, .int 2, .int 8, .int 1, .int 0], .tuple [.int 4, .int 2, .int 8, .int 7, .int 0], .tuple [.int 4, .int 2, .int 8, .int 5, .int 2], .tuple [.int 4, .int 2, .int 8, .int 5, .int (-1)], .list [.int 4, .int 2, .int 8, .int 5, .int 0], .tuple [.bool true, .int 2, .int 8, .int 5, .int 0], .tuple [.int 4, .str (S [50]), .int 8, .int 5, .int 0]]
def badLogs : List PyData := [.none, .str (S [88]), .str (S [100]), .str (S (List.replicate 61 [68]).flatten), .list [.str (S [68])], .int 5, .str (S [68, 82, 32, 87])]
theorem badRules_ok : badRules.all (fun d => noDict d && !isRules d) = true := by decide +kernel
theorem badLogs_ok : badLogs.all (fun d => noDict d && (smol d && !isLog d)) = true := by decide +kernel
def lawBadR (ns : List Int) (at_ : Int) : PyData := badRules.getD (drawn ns at_ 16).toNat .none
def lawBadL (ns : List Int) (at_ : Int) : PyData := badLogs.getD (drawn ns at_ 7).toNat .none
theorem lawBadR_at (ns : List Int) (at_ : Int) : badRules[(drawn ns at_ 16).toNat]? = some (lawBadR ns at_) := by
  have a := drawn_range ns at_ 16 (by decide)
  have h : (drawn ns at_ 16).toNat < badRules.length := by
    have : badRules.length = 16 := rfl
    omega
  unfold lawBadR
  rw [List.getD_eq_getElem?_getD, List.getElem?_eq_getElem h]
  rfl
theorem lawBadL_at (ns : List Int) (at_ : Int) : badLogs[(drawn ns at_ 7).toNat]? = some (lawBadL ns at_) := by
  have a := drawn_range ns at_ 7 (by decide)
  have h : (drawn ns at_ 7).toNat < badLogs.length := by
    have : badLogs.length = 7 := rfl
    omega
  unfold lawBadL
  rw [List.getD_eq_getElem?_getD, List.getElem?_eq_getElem h]
  rfl
theorem lawBadR_no (ns : List Int) (at_ : Int) : noDict (lawBadR ns at_) = true ∧ isRules (lawBadR ns at_) = false := by
  have := List.all_eq_true.mp badRules_ok _ (List.mem_of_getElem? (lawBadR_at ns at_))
  simpa [Bool.and_eq_true] using this
theorem lawBadL_no (ns : List Int) (at_ : Int) : noDict (lawBadL ns at_) = true ∧ smol (lawBadL ns at_) = true ∧ isLog (lawBadL ns at_) = false := by
  have := List.all_eq_true.mp badLogs_ok _ (List.mem_of_getElem? (lawBadL_at ns at_))
  simpa [Bool.and_eq_true] using this
end Lw

namespace Gd
open PySem PySem.Spec L2
/-! ### written-out data -/
def litsD (f : Expr -> Option PyData) : List Expr -> Option (List PyData)
  | [] => some []
  | e :: es => match f e, litsD f es with
    | some d, some ds => some (d :: ds)
    | _, _ => none
def litC : Const -> Option PyData
  | .none => some .none
  | .bool c => some (.bool c)
  | .int i => some (.int i)
  | .str x => some (.str x)
  | _ => none
def litD : Nat -> Expr -> Option PyData
  | 0, _ => none
  | n + 1, e => match e with
    | .Constant c _ _ => litC c
    | .UnaryOp .USub a _ => match litD n a with
      | some (.int i) => some (.int (-i))
      | _ => none
    | .Tuple es _ _ => match litsD (litD n) es with
      | some ds => if ds.length ≤ 100000 then some (.tuple ds) else none
      | none => none
    | .List es _ => match litsD (litD n) es with
      | some ds => if ds.length ≤ 100000 then some (.list ds) else none
      | none => none
    | _ => none
section
variable {X : Cx} {ρ : Rho}
theorem ga_lits {n : Nat} (ih : forall {e d}, litD n e = some d -> GE X e ρ d) : forall {es : List Expr} {ds : List PyData}, litsD (litD n) es = some ds -> GA X es ρ ds
  | [], ds, h => by
    cases h
    exact ga_nil
  | e :: es, ds, h => by
    rw [litsD] at h
    cases h1 : litD n e with
    | none => rw [h1] at h; cases h
    | some d =>
      cases h2 : litsD (litD n) es with
      | none => rw [h1, h2] at h; cases h
      | some ds2 =>
        rw [h1, h2] at h
        cases h
        refine ga_cons (ih h1) (ga_lits ih h2) ?_
        cases n with
        | zero => cases h1
        | succ n =>
          cases e <;> first | rfl | (simp only [litD] at h1; cases h1)
theorem ge_litN : forall (n : Nat) {e : Expr} {d : PyData}, litD n e = some d -> GE X e ρ d
  | 0, e, d, h => by cases h
  | n + 1, e, d, h => by
    have ih : forall {e d}, litD n e = some d -> GE X e ρ d := ge_litN n
    unfold litD at h
    split at h
    · rename_i c k p
      cases c <;> first | (cases h; exact ge_non) | (cases h; exact ge_bl) | (cases h; exact ge_int) | (cases h; exact ge_str) | cases h
    · rename_i a p
      split at h
      · rename_i i h1
        cases h
        exact ge_neg (ih h1)
      · cases h
    · rename_i es k p
      split at h
      · rename_i ds h1
        split at h
        · rename_i hz
          cases h
          exact ge_tup (ga_lits ih h1) hz
        · cases h
      · cases h
    · rename_i es p
      split at h
      · rename_i ds h1
        split at h
        · rename_i hz
          cases h
          exact ge_lst (ga_lits ih h1) hz
        · cases h
      · cases h
    · cases h
theorem ge_lit (d : PyData) {e : Expr} (h : litD 6 e = some d := by kernel_rfl) : GE X e ρ d := ge_litN 6 h
end
end Gd

namespace Gd
open PySem PySem.Spec L2
section
variable {X : Cx} {N : En} {a b : Expr} {es : List Expr} {ρ : Rho} {d2 : PyData} {ds : List PyData} {pos : Pos} {Φ : Post}
/-- x, y = [..], e -/
theorem g1_parOwn (i j : Nat) {x y : Str} {px py pt pt2 p2 : Pos} {kt k2 : Nat} (ha : GA X es ρ ds) (hb : GE X b ρ d2) (h : Φ.nx ((ρ.set i (.own ds)).set j (.dat d2))) (hN : X.N.Nodup) (hz : ds.length ≤ 100000 := by exact Nat.le_of_ble_eq_true rfl) (hw : swappedStores [.Tuple [.Name x px, .Name y py] kt pt] (.Tuple [.List es p2, b] k2 pt2) X.env = pure (some [x, y]) := by rfl) (hc : X.calm = true := by rfl)
    (hi : X.N[i]? = some x := by rfl) (hj : X.N[j]? = some y := by rfl) (hij : i ≠ j := by decide) (hx : X.env.scope.names.lookup x = some .local := by rfl) (hy : X.env.scope.names.lookup y = some .local := by rfl)
    (hs1 : starEach [.List es p2, b] X.env = (false, eval (.List es p2) X.env) :: starEach [b] X.env := by rfl) (hs2 : starEach [b] X.env = (false, eval b X.env) :: starEach [] X.env := by rfl)
    (hs : swapsWithSole [.Tuple [.Name x px, .Name y py] kt pt] (.Tuple [.List es p2, b] k2 pt2) pos.line X.env = pure false := by rfl) : G1 X N (.Assign [.Tuple [.Name x px, .Name y py] kt pt] (.Tuple [.List es p2, b] k2 pt2) pos) ρ Φ :=
  g1_of (ps_par hc hN hi hj hij hx hy (pa_cons (pe_lst pa_tw) (pa_cons pe_tw pa_nil hs2) hs1) hw hs) fun P σ H f => show twA X es σ H _ from f.evA ha fun vs G H' e1 sp sta fr dv => by
    refine ⟨by rw [dv.length]; exact Nat.le_trans hz (by decide), fun p hp => ?_⟩
    have ex : Ext G H' G (upd H' p (.lst vs)) := ⟨Same.refl G, same_new hp, e1.gh.trans (same_new hp), fun _ _ => rfl⟩
    refine hb σ G _ _ (sta.ext ex) fun v G2 H2 e2 dv2 => ?_
    refine ⟨_, _, rfl, _, ⟨G2, (e1.trans ex).trans e2, sp.trans e2.g, ((sta.setOwn i hp dv).ext e2).set j dv2, fresh_set fun m xs q o1 o2 => ?_⟩, h⟩
    rcases set_get o1 with ⟨rfl, _⟩ | ⟨n, o1⟩
    · rcases set_get o2 with ⟨_, z⟩ | ⟨z, _⟩
      · cases z
        exact e1.h.free hp
      · exact absurd rfl z
    · rw [List.getElem?_set_ne n] at o2
      exact fr m xs q o1 o2
end
end Gd

namespace Gd
open PySem PySem.Spec L2
section
variable {X : Cx} {N : En} {a b : Expr} {es : List Expr} {ρ : Rho} {d d2 : PyData} {ds : List PyData} {pos : Pos} {Φ : Post} {i : Int} {ns : List Int}
/-! ### i in [..], (..), of numbers -/
theorem inV_ints (i : Int) (ns : List Int) : inV (.int i) (ns.map V.int) = decide (i ∈ ns) := by
  induction ns with
  | nil => rfl
  | cons n ns ih =>
    have h : inV (V.int i) (V.int n :: ns.map V.int) = (eqV (.int n) (.int i) || inV (.int i) (ns.map V.int)) := rfl
    rw [List.map_cons, h, ih]
    have e : eqV (V.int n) (V.int i) = decide (i = n) := by
      show (n == i) = decide (i = n)
      rw [Bool.eq_iff_iff, beq_iff_eq, decide_eq_true_eq]
      exact eq_comm
    rw [e, Bool.eq_iff_iff]
    simp
theorem flat_ints (ns : List Int) : (ns.map V.int).all flatV = true := by
  rw [List.all_map, List.all_eq_true]
  intro _ _
  rfl
theorem c_inL : CmpD X .In (.int i) (.list (ns.map PyData.int)) (decide (i ∈ ns)) := ⟨_, op_in_seq, fun v1 v2 G H Q gh h1 h2 q => by
  cases h1
  cases h2 with
  | @lst p xs _ s1 a1 =>
    rw [a1.ints] at s1
    refine ⟨p, _, rfl, .inl (.inl (.inl (gh _ _ s1))), rfl, flat_ints ns, ?_⟩
    rw [if_neg Bool.false_ne_true, inV_ints]
    exact q _ G H (.refl gh) (.bl _)⟩
theorem c_notInL : CmpD X .NotIn (.int i) (.list (ns.map PyData.int)) (!decide (i ∈ ns)) := ⟨_, op_notIn_seq, fun v1 v2 G H Q gh h1 h2 q => by
  cases h1
  cases h2 with
  | @lst p xs _ s1 a1 =>
    rw [a1.ints] at s1
    refine ⟨p, _, rfl, .inl (.inl (.inl (gh _ _ s1))), rfl, flat_ints ns, ?_⟩
    rw [if_pos rfl, inV_ints]
    exact q _ G H (.refl gh) (.bl _)⟩
theorem c_inT : CmpD X .In (.int i) (.tuple (ns.map PyData.int)) (decide (i ∈ ns)) := ⟨_, op_in_seq, fun v1 v2 G H Q gh h1 h2 q => by
  cases h1
  cases h2 with
  | @tup p xs _ s1 a1 =>
    rw [a1.ints] at s1
    refine ⟨p, _, rfl, .inr (sqT_mono gh s1), rfl, flat_ints ns, ?_⟩
    rw [if_neg Bool.false_ne_true, inV_ints]
    exact q _ G H (.refl gh) (.bl _)⟩
theorem c_notInT : CmpD X .NotIn (.int i) (.tuple (ns.map PyData.int)) (!decide (i ∈ ns)) := ⟨_, op_notIn_seq, fun v1 v2 G H Q gh h1 h2 q => by
  cases h1
  cases h2 with
  | @tup p xs _ s1 a1 =>
    rw [a1.ints] at s1
    refine ⟨p, _, rfl, .inr (sqT_mono gh s1), rfl, flat_ints ns, ?_⟩
    rw [if_pos rfl, inV_ints]
    exact q _ G H (.refl gh) (.bl _)⟩
end
/-! ### how often a sign stands in a text -/
theorem occ_run (l : List Nat) (c lim : Nat) : forall (n i : Nat) (a : Array Nat) (free : Nat), free ≤ i -> a.size + n ≤ lim -> i + n = l.length + 1 ->
    (forIn (List.range' i n) (a, free) (StrLaws.occBody (S l) ⟨#[c]⟩ (S l).length lim)).run.fst.size = a.size + (l.drop i).count c
  | 0, i, a, free, _, _, h => by
    rw [List.drop_eq_nil_of_le (by omega)]
    rfl
  | n + 1, i, a, free, hf, hl, h => by
    rw [List.range'_succ, List.forIn_cons]
    have one := StrLaws.subAt_one (S l) c i
    have hs : (S l).cps.toList = l := by simp [S]
    rw [hs] at one
    unfold StrLaws.occBody
    by_cases hc : l[i]? = some c
    · obtain ⟨hlt, he⟩ := List.getElem?_eq_some_iff.mp hc
      obtain ⟨o1, o2⟩ := one.mpr hc
      rw [if_pos ⟨⟨⟨show a.size < lim by omega, hf⟩, o1⟩, o2⟩]
      have ih := occ_run l c lim n (i + 1) (a.push i) (i + 1) (Nat.le_refl _) (by rw [Array.size_push]; omega) (by omega)
      refine Eq.trans ih ?_
      rw [Array.size_push, List.drop_eq_getElem_cons hlt, he, List.count_cons_self]
      omega
    · rw [if_neg fun z => hc (one.mp ⟨z.1.2, z.2⟩)]
      have ih := occ_run l c lim n (i + 1) a free (by omega) (by omega) (by omega)
      refine Eq.trans ih ?_
      congr 1
      by_cases hlt : i < l.length
      · rw [List.drop_eq_getElem_cons hlt, List.count_cons_of_ne]
        intro z
        exact hc (by rw [List.getElem?_eq_getElem hlt, z])
      · rw [List.drop_eq_nil_of_le (show l.length ≤ i by omega), List.drop_eq_nil_of_le (show l.length ≤ i + 1 by omega)]
theorem count_one (l : List Nat) (c : Nat) : Txt.count (S l) (S [c]) = (l.count c : Nat) := by
  have hz : (S l).length = l.length := by simp [S, Str.length]
  have h := occ_run l c ((S l).length + 1) (l.length + 1) 0 #[] 0 (Nat.le_refl _) (by rw [hz]; simp) (by omega)
  unfold Txt.count
  rw [StrLaws.occ_eq, Array.length_toList]
  congr 1
  rw [hz] at h ⊢
  refine Eq.trans h ?_
  simp
end Gd

namespace Gd
open PySem PySem.Spec L2
/-! ### dicts: what a key, a dict is in the heap -/
section
variable {X : Cx} {pins : List (Addr × Obj)} {σ : L2.St} {H : Hp} {s : Shared}
mutual
theorem dq_nested (I : Inv X pins σ H s) : forall {v : V} {d : PyData} {u : Value}, Dq X.K H v d -> keyOk d = true -> RelV v u -> NestedIs s.heap (nk d) u
  | _, _, _, .non, _, r => by
    cases r
    exact .none
  | _, _, _, .bl b, _, r => by
    cases r
    exact .bool rfl
  | _, _, _, .int i, _, r => by
    obtain ⟨t, rfl⟩ := r
    exact .int i t
  | _, _, _, .str x, _, r => by
    obtain ⟨t, rfl⟩ := r
    exact .text x t
  | _, _, _, .lst _ _, k, _ => by simp [keyOk] at k
  | _, _, _, .scr _ _, k, _ => by simp [keyOk] at k
  | _, _, _, .adr _, k, _ => by simp [keyOk] at k
  | _, _, _, .tup h a, k, r => by
    cases r
    obtain ⟨its, rv, ⟨o, h1, h2, n, h3⟩, _⟩ := I.tuple h
    rw [nk]
    exact .tup h1 h2 h3 (dq_nestedAll I a (by simpa [keyOk] using k) rv)
theorem dq_nestedAll (I : Inv X pins σ H s) : forall {vs : List V} {ds : List PyData} {us : List Value}, DqAll X.K H vs ds -> keyAll ds = true -> Vals vs us -> NestedAll s.heap (nkAll ds) us
  | _, _, _, .nil, _, r => by
    cases r
    rw [nkAll]
    exact .nil
  | _, _, _, .cons h t, k, r => by
    rw [keyAll, Bool.and_eq_true] at k
    cases r with
    | cons r1 r2 =>
      rw [nkAll]
      exact .cons (dq_nested I h k.1 r1) (dq_nestedAll I t k.2 r2)
end
def KeyAt (K : PySem.W.Frag) (H : Hp) (k : NestedKey) (b : Addr) : Prop := ∃ d, Dq K H (.ref b) d ∧ isKey d = true ∧ nk d = k
theorem KeyAt.is {k : NestedKey} {b : Addr} (I : Inv X pins σ H s) (h : KeyAt X.K H k b) : (nestedKind X.prog X.w).is s.heap k b := by
  obtain ⟨d, h1, h2, rfl⟩ := h
  cases d with
  | tuple ds =>
    obtain ⟨a, b⟩ := Bool.and_eq_true_iff.mp (show (keyAll ds && decide ((nk (.tuple ds)).depth ≤ 8)) = true from h2)
    exact ⟨dq_nested I h1 (by rw [keyOk]; exact a) rfl, of_decide_eq_true b⟩
  | _ => cases h2
abbrev hsW (w : World) : NestedKey -> Int := fun k => k.hash w
/-- at a stands a dict with the entries xs -/
structure DAt (X : Cx) (H : Hp) (a : Addr) (xs : List (NestedKey × Addr × Value)) : Prop where
  ob : ∃ o, H a = some (dR a o) ∧ DicO (hsW X.w) a o xs
  ks : forall x, x ∈ xs -> KeyAt X.K H x.1 x.2.1
theorem DAt.dict {a : Addr} {xs : List (NestedKey × Addr × Value)} (I : Inv X pins σ H s) (h : DAt X H a xs) : s.heap.DictOfH (nestedKind X.prog X.w) a xs := by
  obtain ⟨o, h1, h2⟩ := h.ob
  obtain ⟨es, ep, h3, h4⟩ := h2.da
  have ok : s.heap.get? a = some o := (I.hok a _ h1).1
  exact ⟨o, es, ep, ok, h2.ex, h3, h4, fun x hx => (h.ks x hx).is I, h2.nd⟩
theorem DAt.sm {a : Addr} {xs : List (NestedKey × Addr × Value)} (h : DAt X H a xs) : (a == sysModules) = false := by
  obtain ⟨o, h1, h2⟩ := h.ob
  exact h2.sm
theorem DAt.sz {a : Addr} {xs : List (NestedKey × Addr × Value)} (h : DAt X H a xs) : xs.length ≤ 1000000 := by
  obtain ⟨o, h1, h2⟩ := h.ob
  exact h2.sz
theorem room8 {A : Around} (h : A.units + 64 < cLine) {P : Program} {w : World} : (nestedKind P w).room A.in1 := by
  show A.units + 1 + 8 < cLine
  omega
theorem dR_ok {P : Program} {w : World} {H : Hp} {h : Heap} {p : Addr} {o : Obj} (e : h.get? p = some o) : ObjOk P w H h p (dR p o) := ⟨e, ⟨o, e⟩, fun _ _ a k => k o a⟩
end
/-! ### readings and rules -/
section
variable {X : Cx} {o i e f value : Expr} {pos pos' apos cpos : Pos} {td ty tv tx : TE}
def FoundAt (xs : List (NestedKey × Addr × Value)) (k : NestedKey) : Option V -> Prop
  | none => atKey xs k = none
  | some v => ∃ p, atKey xs k = some p ∧ RelV v p.2
def xDGet (X : Cx) (td ty : TE) : TE := fun σ H Q => td σ H fun x H1 => ty σ H1 fun y H2 => ∃ a b xs k v, x = .ref a ∧ y = .ref b ∧ DAt X H2 a xs ∧ KeyAt X.K H2 k b ∧ FoundAt xs k (some v) ∧ Q v H2
theorem pe_xdget (hu : X.A.units + 64 < cLine) (ho : PE X o td) (hi : PE X i ty) (hs : NoSl i) : PE X (.Subscript o i pos) (xDGet X td ty) := by
  refine ⟨fun pins s σ H Q I h => ?_⟩
  refine subD_of PySem.F.slot_dict_getitem.lookup hs (thn (ho.run pins s σ H _ I h) fun u s1 ⟨x, H1, I1, rx, q1⟩ => thn (hi.run pins s1 σ H1 _ I1 q1) fun iv s2 ⟨y, H2, I2, ry, a, b, xs, k, v, ex, ey, da, ka, ⟨p, hp, rv⟩, q2⟩ => ?_)
  subst ex ey
  obtain rfl : u = Value.ref a := rx
  obtain rfl : iv = Value.ref b := ry
  exact ⟨(da.dict I2).typeIs, wpAny_getItem_heap (room8 hu) (ka.is I2) (da.dict I2) hp ⟨v, H2, I2.tok _, rv, q2⟩⟩
def rDIn (X : Cx) (neg : Bool) : R2 := fun y x H Q => ∃ a b xs k, x = .ref a ∧ y = .ref b ∧ DAt X H a xs ∧ KeyAt X.K H k b ∧ Q (.bl (if neg then !(atKey xs k).isSome else (atKey xs k).isSome)) H
theorem op_xin (hu : X.A.units + 64 < cLine) : OpR X (compareOp .In) (rDIn X false) := by
  intro pins s σ H y x v u Q I ry rx ⟨a, b, xs, k, ex, ey, da, ka, q⟩
  subst ex ey
  obtain rfl : u = Value.ref a := rx
  obtain rfl : v = Value.ref b := ry
  exact wpAny_in_heap (room8 hu) (ka.is I) da.sm (da.dict I) ⟨.bl (atKey xs k).isSome, H, I.tok _, rfl, q⟩
theorem op_xnotIn (hu : X.A.units + 64 < cLine) : OpR X (compareOp .NotIn) (rDIn X true) := by
  intro pins s σ H y x v u Q I ry rx ⟨a, b, xs, k, ex, ey, da, ka, q⟩
  subst ex ey
  obtain rfl : u = Value.ref a := rx
  obtain rfl : v = Value.ref b := ry
  exact PyProof.Rows.wpAny_notIn_heap (room8 hu) (ka.is I) da.sm (da.dict I) ⟨.bl (!(atKey xs k).isSome), H, I.tok _, rfl, q⟩
/-- x.get(k, y) -/
def xDGet2 (X : Cx) (td ty tx : TE) : TE := fun σ H Q => td σ H fun x H1 => ∃ a xs0, x = .ref a ∧ DAt X H1 a xs0 ∧ ty σ H1 fun y H2 => tx σ H2 fun z H3 => ∃ b xs k ov, y = .ref b ∧ DAt X H3 a xs ∧ KeyAt X.K H3 k b ∧ FoundAt xs k ov ∧ Q (ov.getD z) H3
theorem pe_xdget2 (hu : X.A.units + 64 < cLine) (ho : PE X o td) (he : PE X e ty) (hf : PE X f tx) (m : M2 X o "get" apos e f cpos) : PE X (.Call (.Attribute o "get" apos) [e, f] [] cpos) (xDGet2 X td ty tx) := by
  refine ⟨fun pins s σ H Q I h => ?_⟩
  refine wpAny_Call_method m.base m.few m.line PySem.F.plainAttrs_dict PySem.F.slot_dict_get PySem.F.type_dict_get (thn (ho.run pins s σ H _ I h) fun u s1 ⟨x, H1, I1, rx, a, xs0, ex, d, q1⟩ => ?_)
  subst ex
  obtain rfl : u = Value.ref a := rx
  have dd := d.dict I1
  refine ⟨dd.typeIs, fun b q => ?_, ?_⟩
  · cases q
    obtain ⟨ob, _, _, h1, h2, _⟩ := dd
    exact ⟨ob, h1, h2.2.1⟩
  rw [m.trees]
  refine Calls.callWith_builtin rfl (Calls.evalArgs_plain (Calls.spliced_cons (thn (he.run pins s1 σ H1 _ I1 q1) fun iv s2 ⟨y, H2, I2, ry, q2⟩ =>
    Calls.spliced_cons (thn (hf.run pins s2 σ H2 _ I2 q2) fun fv s3 ⟨z, H3, I3, rz, b, xs, k, ov, ey, da, ka, hv, q3⟩ => Calls.spliced_nil ?_))))
  subst ey
  obtain rfl : iv = Value.ref b := ry
  refine call_meetsIn PySem.F.slot_dict_get (da.dict I3).typeIs PySem.F.entry_dict_get (PySem.F.args_dict_get_3 _ _ _) (meetsH_dict_get_default (nestedKind X.prog X.w) a b da.sm fv) ⟨room8 hu, k, xs, ka.is I3, da.dict I3, ?_⟩
  cases ov with
  | none =>
    have hn : atKey xs k = none := hv
    rw [hn]
    exact ⟨z, H3, I3.tok _, rz, q3⟩
  | some v =>
    obtain ⟨p, hp, rv⟩ := hv
    rw [hp]
    exact ⟨v, H3, I3.tok _, rv, q3⟩
/-- x[k] = v -/
def xDPut (X : Cx) (td ty tv : TE) : TS := fun D σ H => tv σ H fun v H1 => td σ H1 fun x H2 => ty σ H2 fun y H3 => ∃ a b xs k, x = .ref a ∧ y = .ref b ∧ DAt X H3 a xs ∧ xs.length < 1000000 ∧ KeyAt X.K H3 k b ∧
  forall o u, RelV v u -> DicO (hsW X.w) a o (storedH xs k b u) -> D.nx σ (upd H3 a (dR a o))
theorem ps_xdput (hu : X.A.units + 64 < cLine) (ho : PE X o td) (hi : PE X i ty) (hv : PE X value tv) (hs : swapsWith value (some (.Subscript o i pos')) pos.line X.env = pure false) :
    PS X (.Assign [.Subscript o i pos'] value pos) (xDPut X td ty tv) := by
  refine ⟨fun pins s σ H D I h => ?_⟩
  refine wpAny_Assign_Subscript (thn (hv.run pins s σ H _ I h) fun r s1 ⟨v, H1, I1, rv, q1⟩ => thn (ho.run pins s1 σ H1 _ I1 q1) fun u s2 ⟨x, H2, I2, rx, q2⟩ => thn (hi.run pins s2 σ H2 _ I2 q2) fun iv s3 ⟨y, H3, I3, ry, a, b, xs, k, ex, ey, da, hl, ka, q3⟩ => ?_) hs
  subst ex ey
  obtain rfl : u = Value.ref a := rx
  obtain rfl : iv = Value.ref b := ry
  have hz : xs.length ≤ sizeLine := Nat.le_trans da.sz (by decide)
  refine wpAny_setItem_heap (hsz := hz) (room8 hu) (ka.is I3) (da.dict I3) fun h' dd' sb => ?_
  obtain ⟨q, es, ep, hq, h2, h3, h4, _, h5⟩ := dd'
  obtain ⟨ob, hob, _⟩ := da.ob
  refine ⟨σ, _, d_write (ob := dR a q) I3 (by rw [hob]; exact True.intro) sb ⟨q, hq⟩ (dR_ok hq), q3 q r rv ⟨h2, ⟨es, ep, h3, h4⟩, h5, da.sm, ?_⟩⟩
  have e := storedH_length xs k b r
  omega
/-- {} -/
def xDNew (X : Cx) : TE := fun _ H Q => forall p o, H p = none -> DicO (hsW X.w) p o [] -> Q (.ref p) (upd H p (dR p o))
theorem pe_xdnew : PE X (.Dict [] [] pos) (xDNew X) := ⟨fun pins s σ H Q I h =>
  wpAny_Dict_empty ⟨.ref s.heap.objs.size, _, I.laid (a := s.heap.objs.size) (o := dR s.heap.objs.size { cls := .type "dict", data := .dict #[] }) (t' := s.toks) (fun _ _ q => Heap.get?_push_of_some _ q) (Nat.le_refl _) (dR_ok (Heap.get?_push_size _ rfl)), rfl,
    h _ _ (I.hok.fresh (Nat.le_refl _)) ⟨⟨rfl, rfl, rfl⟩, ⟨#[], 0, rfl, rfl⟩, List.nodup_nil, beq_eq_false_iff_ne.mpr (Ne.symm (Nat.ne_of_lt I.big)), Nat.zero_le _⟩⟩⟩
end
end Gd

namespace Gd
open PySem PySem.Spec L2
/-! ### dicts as data -/
def dGet (kvs : List (PyData × PyData)) (k : PyData) : Option PyData := (kvs.find? fun kv => decide (nk kv.1 = nk k)).map (·.2)
def dPut (kvs : List (PyData × PyData)) (k v : PyData) : List (PyData × PyData) := if (dGet kvs k).isSome = true then kvs.map (fun kv => if nk kv.1 = nk k then (kv.1, v) else kv) else kvs ++ [(k, v)]
theorem dGet_cons (kv : PyData × PyData) (kvs : List (PyData × PyData)) (k : PyData) : dGet (kv :: kvs) k = if nk kv.1 = nk k then some kv.2 else dGet kvs k := by
  unfold dGet
  by_cases h : nk kv.1 = nk k <;> simp [h]
theorem atKey_cons (x : NestedKey × Addr × Value) (xs : List (NestedKey × Addr × Value)) (k : NestedKey) : atKey (x :: xs) k = if x.1 = k then some x.2 else atKey xs k := by
  unfold atKey
  by_cases h : x.1 = k <;> simp [h]
section
variable {K : PySem.W.Frag} {G H : Hp} {kvs : List (PyData × PyData)} {xs : List (NestedKey × Addr × Value)} {k d : PyData} {b : Addr} {v : V} {u : Value}
theorem DEnt.len : forall {kvs : List (PyData × PyData)} {xs : List (NestedKey × Addr × Value)}, DEnt K G kvs xs -> xs.length = kvs.length
  | [], [], _ => rfl
  | _ :: _, _ :: _, h => by rw [List.length_cons, List.length_cons, DEnt.len h.2]
  | [], _ :: _, h => h.elim
  | _ :: _, [], h => h.elim
theorem DEnt.keys (gh : Same G H) : forall {kvs : List (PyData × PyData)} {xs : List (NestedKey × Addr × Value)}, DEnt K G kvs xs -> forall x, x ∈ xs -> KeyAt K H x.1 x.2.1
  | [], [], _, x, hx => absurd hx List.not_mem_nil
  | kv :: kvs, y :: ys, h, x, hx => by
    obtain ⟨⟨a, b, c, e⟩, t⟩ := h
    rcases List.mem_cons.mp hx with rfl | hx
    · exact ⟨kv.1, b.mono gh, e, a.symm⟩
    · exact DEnt.keys gh t x hx
  | [], _ :: _, h, _, _ => h.elim
  | _ :: _, [], h, _, _ => h.elim
theorem DEnt.none_ : forall {kvs : List (PyData × PyData)} {xs : List (NestedKey × Addr × Value)}, DEnt K G kvs xs -> dGet kvs k = none -> atKey xs (nk k) = none
  | [], [], _, _ => rfl
  | kv :: kvs, y :: ys, h, hg => by
    obtain ⟨⟨a, b, c, e⟩, t⟩ := h
    rw [dGet_cons] at hg
    rw [atKey_cons, a]
    by_cases hk : nk kv.1 = nk k
    · rw [if_pos hk] at hg; cases hg
    · rw [if_neg hk] at hg ⊢
      exact DEnt.none_ t hg
  | [], _ :: _, h, _ => h.elim
  | _ :: _, [], h, _ => h.elim
theorem DEnt.some_ : forall {kvs : List (PyData × PyData)} {xs : List (NestedKey × Addr × Value)}, DEnt K G kvs xs -> dGet kvs k = some d -> ∃ v, FoundAt xs (nk k) (some v) ∧ Dq K G v d
  | [], [], _, h => by cases h
  | kv :: kvs, y :: ys, h, hg => by
    obtain ⟨⟨a, b, ⟨v, rv, dv⟩, e⟩, t⟩ := h
    rw [dGet_cons] at hg
    by_cases hk : nk kv.1 = nk k
    · rw [if_pos hk] at hg
      cases hg
      exact ⟨v, ⟨y.2, by rw [atKey_cons, a, if_pos hk], rv⟩, dv⟩
    · rw [if_neg hk] at hg
      obtain ⟨w, ⟨p, hp, rw_⟩, dw⟩ := DEnt.some_ t hg
      exact ⟨w, ⟨p, by rw [atKey_cons, a, if_neg hk]; exact hp, rw_⟩, dw⟩
  | [], _ :: _, h, _ => h.elim
  | _ :: _, [], h, _ => h.elim
theorem DEnt.isSome (h : DEnt K G kvs xs) : (atKey xs (nk k)).isSome = (dGet kvs k).isSome := by
  cases hg : dGet kvs k with
  | none => rw [h.none_ hg]; rfl
  | some d =>
    obtain ⟨v, ⟨p, hp, _⟩, _⟩ := h.some_ hg
    rw [hp]
    rfl
theorem DEnt.repl (rv : RelV v u) (dv : Dq K G v d) : forall {kvs : List (PyData × PyData)} {xs : List (NestedKey × Addr × Value)}, DEnt K G kvs xs -> DEnt K G (kvs.map fun kv => if nk kv.1 = nk k then (kv.1, d) else kv) (xs.map (putAt (nk k) u))
  | [], [], _ => trivial
  | kv :: kvs, y :: ys, h => by
    obtain ⟨⟨a, b, c, e⟩, t⟩ := h
    rw [List.map_cons, List.map_cons]
    refine ⟨?_, DEnt.repl rv dv t⟩
    unfold putAt
    rw [a]
    by_cases hk : nk kv.1 = nk k
    · rw [if_pos hk, if_pos hk]
      exact ⟨rfl, b, ⟨v, rv, dv⟩, e⟩
    · rw [if_neg hk, if_neg hk]
      exact ⟨a, b, c, e⟩
  | [], _ :: _, h => h.elim
  | _ :: _, [], h => h.elim
theorem DEnt.snoc (kb : Dq K G (.ref b) k) (hk : isKey k = true) (rv : RelV v u) (dv : Dq K G v d) : forall {kvs : List (PyData × PyData)} {xs : List (NestedKey × Addr × Value)}, DEnt K G kvs xs -> DEnt K G (kvs ++ [(k, d)]) (xs ++ [(nk k, b, u)])
  | [], [], _ => ⟨⟨rfl, kb, ⟨v, rv, dv⟩, hk⟩, trivial⟩
  | kv :: kvs, y :: ys, h => ⟨h.1, DEnt.snoc kb hk rv dv h.2⟩
  | [], _ :: _, h => h.elim
  | _ :: _, [], h => h.elim
theorem DEnt.put (kb : Dq K G (.ref b) k) (hk : isKey k = true) (rv : RelV v u) (dv : Dq K G v d) (h : DEnt K G kvs xs) : DEnt K G (dPut kvs k d) (storedH xs (nk k) b u) := by
  unfold dPut storedH
  rw [h.isSome (k := k)]
  split
  · exact h.repl rv dv
  · exact h.snoc kb hk rv dv
theorem Dq.key (h : Dq K G v k) (hk : isKey k = true) : ∃ b, v = .ref b := by
  cases h with
  | tup => exact ⟨_, rfl⟩
  | _ => cases hk
end
theorem dPut_len (kvs : List (PyData × PyData)) (k v : PyData) : (dPut kvs k v).length ≤ kvs.length + 1 := by
  unfold dPut
  split
  · rw [List.length_map]; omega
  · rw [List.length_append]; exact Nat.le_refl _
/-! ### rules -/
section
variable {X : Cx} {N : En} {a b c e : Expr} {ss : List Stmt} {ρ : Rho} {d d2 k : PyData} {kvs : List (PyData × PyData)} {pos pos' p1 p2 apos : Pos} {Φ : Post} {x : Str} {K : PySem.W.Frag} {G H : Hp} {σ : L2.St} {P : Hp} {hs : NestedKey -> Int} {p : Addr}
abbrev IsDic (ρ : Rho) (i : Nat) (hs : NestedKey -> Int) (kvs : List (PyData × PyData)) : Prop := ρ[i]? = some (.dic hs kvs) ∨ ρ[i]? = some (.fdc hs kvs) ∨ ∃ q, ρ[i]? = some (.owx (.memo q hs kvs))
theorem Sta.dict {i : Nat} (s : Sta K G H σ ρ) (h : IsDic ρ i hs kvs) : ∃ p o, σ[i]? = some (some (.ref p)) ∧ H p = some (dR p o) ∧ DicV K G hs p o kvs := by
  rcases h with h | h | ⟨q, h⟩
  · obtain ⟨p, u, h1, h2, h3, o, rfl, h4⟩ := s.owx h
    exact ⟨p, o, h1, h3, h4⟩
  · obtain ⟨ov, h1, p, o, rfl, h2, h3⟩ := s.at_ i _ h
    exact ⟨p, o, h1, s.gh _ _ h2, h3⟩
  · obtain ⟨p, u, h1, h2, h3, rfl, o, rfl, h4⟩ := s.owx h
    exact ⟨p, o, h1, h3, h4⟩
theorem ge_dget (i : Nat) (hu : X.A.units + 64 < cLine) (hk : GE X b ρ k) (hkey : isKey k = true) (hg : dGet kvs k = some d) (hc : IsDic ρ i (hsW X.w) kvs := by first | exact .inl rfl | exact .inr (.inl rfl) | exact .inr (.inr ⟨_, rfl⟩)) (hi : X.N[i]? = some x := by rfl) (hv : Vis X.env.scope x := by first | exact Or.inl rfl | exact Or.inr (Or.inl rfl) | exact Or.inr (Or.inr rfl)) (hd : (x == ("__debug__" : Str)) = false := by decide) (hcd : (x == ("__classdict__" : Str)) = false := by decide)
    (hs : NoSl b := by exact fun _ _ => rfl) : GE X (.Subscript (.Name x p1) b pos) ρ d :=
  ge_of (pe_xdget hu (pe_var hi hv hd hcd) pe_tw hs) fun σ G H Q s q => by
    obtain ⟨p, o, h1, h2, dv⟩ := s.dict hc
    refine ⟨.ref p, h1, hk σ G H _ s fun v G1 H1 e1 dk => ?_⟩
    obtain ⟨b', rfl⟩ := dk.key hkey
    obtain ⟨xs, ho, he⟩ := dv.mono e1.g
    obtain ⟨w, fw, dw⟩ := he.some_ hg
    exact ⟨p, b', xs, nk k, w, rfl, rfl, ⟨⟨o, e1.h _ _ h2, ho⟩, he.keys e1.gh⟩, ⟨k, dk.mono e1.gh, hkey, rfl⟩, fw, q w G1 H1 e1 dw⟩
theorem ev_din {ta : TE} {i : Nat} {neg : Bool} (hc : IsDic ρ i (hsW X.w) kvs) (hkey : isKey k = true) (hk : EvR X.K ta ρ k) : EvR X.K (tOp (rDIn X neg) ta (tVar i)) ρ (.bool (if neg = true then !(dGet kvs k).isSome else (dGet kvs k).isSome)) := fun σ G H Q s q =>
  hk σ G H _ s fun v G1 H1 e1 dk => by
    obtain ⟨b', rfl⟩ := dk.key hkey
    obtain ⟨p, o, h1, h2, dv⟩ := (s.ext e1).dict hc
    obtain ⟨xs, ho, he⟩ := dv
    refine ⟨.ref p, h1, p, b', xs, nk k, rfl, rfl, ⟨⟨o, h2, ho⟩, he.keys e1.gh⟩, ⟨k, dk.mono e1.gh, hkey, rfl⟩, ?_⟩
    rw [he.isSome (k := k)]
    exact q _ G1 H1 e1 (.bl _)
theorem gt_din (i : Nat) (hu : X.A.units + 64 < cLine) (hk : GE X b ρ k) (hkey : isKey k = true) (hc : IsDic ρ i (hsW X.w) kvs := by first | exact .inl rfl | exact .inr (.inl rfl) | exact .inr (.inr ⟨_, rfl⟩)) (hi : X.N[i]? = some x := by rfl) (hv : Vis X.env.scope x := by first | exact Or.inl rfl | exact Or.inr (Or.inl rfl) | exact Or.inr (Or.inr rfl)) (hd : (x == ("__debug__" : Str)) = false := by decide) (hcd : (x == ("__classdict__" : Str)) = false := by decide)
    (hm : behindInMarks .In (.Name x p1) = false := by first | exact nomark _ | rfl) : GT X (.Compare b [.In] [.Name x p1] pos) ρ (dGet kvs k).isSome := gt_of (pt_cmpR (op_xin hu) pe_tw (pe_var hi hv hd hcd) hm) (ev_test (ev_din (neg := false) hc hkey hk))
theorem gt_dnotin (i : Nat) (hu : X.A.units + 64 < cLine) (hk : GE X b ρ k) (hkey : isKey k = true) (hc : IsDic ρ i (hsW X.w) kvs := by first | exact .inl rfl | exact .inr (.inl rfl) | exact .inr (.inr ⟨_, rfl⟩)) (hi : X.N[i]? = some x := by rfl) (hv : Vis X.env.scope x := by first | exact Or.inl rfl | exact Or.inr (Or.inl rfl) | exact Or.inr (Or.inr rfl)) (hd : (x == ("__debug__" : Str)) = false := by decide) (hcd : (x == ("__classdict__" : Str)) = false := by decide)
    (hm : behindInMarks .NotIn (.Name x p1) = false := by first | exact nomark _ | rfl) : GT X (.Compare b [.NotIn] [.Name x p1] pos) ρ (!(dGet kvs k).isSome) := gt_of (pt_cmpR (op_xnotIn hu) pe_tw (pe_var hi hv hd hcd) hm) (ev_test (ev_din (neg := true) hc hkey hk))
/-- x.get(k, y) -/
theorem ge_dget2 (i : Nat) (hu : X.A.units + 64 < cLine) (hk : GE X b ρ k) (hf : GE X c ρ d2) (hkey : isKey k = true) (hc : IsDic ρ i (hsW X.w) kvs := by first | exact .inl rfl | exact .inr (.inl rfl) | exact .inr (.inr ⟨_, rfl⟩)) (hi : X.N[i]? = some x := by rfl) (hv : Vis X.env.scope x := by first | exact Or.inl rfl | exact Or.inr (Or.inl rfl) | exact Or.inr (Or.inr rfl)) (hd : (x == ("__debug__" : Str)) = false := by decide) (hcd : (x == ("__classdict__" : Str)) = false := by decide)
    (m : M2 X (.Name x p1) "get" apos b c pos := by exact ⟨rfl, rfl, rfl, rfl⟩) : GE X (.Call (.Attribute (.Name x p1) "get" apos) [b, c] [] pos) ρ ((dGet kvs k).getD d2) :=
  ge_of (pe_xdget2 hu (pe_var hi hv hd hcd) pe_tw pe_tw m) fun σ G H Q s q => by
    obtain ⟨p, o, h1, h2, dv⟩ := s.dict hc
    obtain ⟨xs0, ho0, he0⟩ := dv
    refine ⟨.ref p, h1, p, xs0, rfl, ⟨⟨o, h2, ho0⟩, he0.keys s.gh⟩, hk σ G H _ s fun v G1 H1 e1 dk => hf σ G1 H1 _ (s.ext e1) fun z G2 H2 e2 dz => ?_⟩
    obtain ⟨b', rfl⟩ := dk.key hkey
    have e12 := e1.trans e2
    have he := he0.mono e12.g
    have dk2 := dk.mono e2.g
    cases hg : dGet kvs k with
    | none => exact ⟨b', xs0, nk k, none, rfl, ⟨⟨o, e12.h _ _ h2, ho0⟩, he.keys e12.gh⟩, ⟨k, dk2.mono e12.gh, hkey, rfl⟩, he.none_ hg, q z G2 H2 e12 (by rw [hg] at *; exact dz)⟩
    | some d =>
      obtain ⟨w, fw, dw⟩ := he.some_ hg
      exact ⟨b', xs0, nk k, some w, rfl, ⟨⟨o, e12.h _ _ h2, ho0⟩, he.keys e12.gh⟩, ⟨k, dk2.mono e12.gh, hkey, rfl⟩, fw, q w G2 H2 e12 (by rw [hg] at *; exact dw)⟩
/-- x[k] = e -/
theorem g1_dput (i : Nat) (hu : X.A.units + 64 < cLine) (hk : GE X b ρ k) (he : GE X e ρ d) (hkey : isKey k = true) (hz : kvs.length < 1000000) (h : Φ.nx (ρ.set i (.dic (hsW X.w) (dPut kvs k d)))) (ho : ρ[i]? = some (.dic (hsW X.w) kvs) := by rfl) (hi : X.N[i]? = some x := by rfl) (hv : Vis X.env.scope x := by first | exact Or.inl rfl | exact Or.inr (Or.inl rfl) | exact Or.inr (Or.inr rfl)) (hd : (x == ("__debug__" : Str)) = false := by decide) (hcd : (x == ("__classdict__" : Str)) = false := by decide)
    (hs : swapsWith e (some (.Subscript (.Name x p1) b p2)) pos.line X.env = pure false := by rfl) : G1 X N (.Assign [.Subscript (.Name x p1) b p2] e pos) ρ Φ :=
  g1_of (ps_xdput hu (pe_var hi hv hd hcd) pe_tw pe_tw hs) fun P σ H f => by
    obtain ⟨G, e0, sp, sta, fr⟩ := f
    refine he σ G H _ sta fun v G1 H1 e1 dv => ?_
    obtain ⟨p, u, o1, o2, o3, ob, rfl, o4⟩ := (sta.ext e1).owx ho
    refine ⟨.ref p, o1, hk σ G1 H1 _ (sta.ext e1) fun y G2 H2 e2 dk => ?_⟩
    obtain ⟨b', rfl⟩ := dk.key hkey
    have sta2 := (sta.ext e1).ext e2
    obtain ⟨p', u', r1, r2, r3, ob', rfl, xs, hdo, ent⟩ := sta2.owx ho
    rw [o1] at r1
    cases r1
    refine ⟨p, b', xs, nk k, rfl, rfl, ⟨⟨ob', r3, hdo⟩, ent.keys e2.gh⟩, by rw [ent.len]; exact hz, ⟨k, dk.mono e2.gh, hkey, rfl⟩, fun o' u ru hd' => ?_⟩
    exact ⟨_, ⟨G2, mut_ext ((e0.trans e1).trans e2) r2 (fr i _ p ho o1), (sp.trans e1.g).trans e2.g, sta2.mutOwx (y := .dict (hsW X.w) (dPut kvs k d)) ho o1 ⟨o', rfl, _, hd', ent.put dk hkey ru (dv.mono e2.g)⟩, fresh_mut ho fr⟩, h⟩
/-- x = {} -/
theorem g1_dnew (i : Nat) (h : Φ.nx (ρ.set i (.dic (hsW X.w) []))) (hN : X.N.Nodup) (hi : X.N[i]? = some x := by rfl) (hx : Loc X.env.scope x := by first | exact Or.inl rfl | exact Or.inr rfl) (hs : swapsWith (.Dict [] [] p2) (some (.Name x pos')) pos.line X.env = pure false := by rfl)
    (hf : X.fn x = true ∨ X.env.scope.names.lookup x = some .local := by first | exact .inl rfl | exact .inr rfl | assumption) : G1 X N (.Assign [.Name x pos'] (.Dict [] [] p2) pos) ρ Φ :=
  g1_of (ps_set hN hi hx pe_xdnew hs hf) fun P σ H f p o hp hdo => by
    obtain ⟨G, e1, sp, sta, fr⟩ := f
    refine ⟨_, ⟨G, ⟨⟨e1.g, e1.h.trans (same_new hp), e1.gh.trans (same_new hp), e1.old⟩, e1.pin⟩, sp, sta.setOwx (x := .dict (hsW X.w) []) i hp ⟨o, rfl, [], hdo, trivial⟩, fun j xs q o1 o2 => ?_⟩, h⟩
    rcases set_get o1 with ⟨rfl, _⟩ | ⟨n, o1⟩
    · rcases set_get o2 with ⟨_, z⟩ | ⟨z, _⟩
      · cases z
        exact e1.h.free hp
      · exact absurd rfl z
    · rw [List.getElem?_set_ne n] at o2
      exact fr j xs q o1 o2
/-! ### an own dict that changes no more -/
theorem Sta.freezeX {i : Nat} {u : HO} {y : Own} {c' : Cell} (s : Sta K G H σ ρ) (hi : ρ[i]? = some (.owx y)) (hp : σ[i]? = some (some (.ref p))) (gp : G p = none) (h3 : H p = some u) (nc : forall z, c' ≠ .owx z) (ok : CellOk K (upd G p u) H (some (.ref p)) c') : Sta K (upd G p u) H σ (ρ.set i c') := by
  have gg : Same G (upd G p u) := same_new gp
  refine ⟨fun b o q => ?_, by rw [List.length_set]; exact s.len, fun j c hc => ?_, fun a b q xs ys h1 h2 h3 h4 => ?_⟩
  · by_cases hb : b = p
    · subst hb
      rw [upd_same] at q
      cases q
      exact h3
    · rw [upd_ne hb] at q
      exact s.gh b o q
  · rcases set_get hc with ⟨rfl, rfl⟩ | ⟨hij, hc⟩
    · exact ⟨_, hp, ok⟩
    · obtain ⟨ov, o1, o2⟩ := s.at_ j c hc
      refine ⟨ov, o1, ?_⟩
      cases c with
      | any => trivial
      | raw v => exact o2
      | dat d =>
        obtain ⟨v, r1, r2⟩ := o2
        exact ⟨v, r1, r2.mono gg⟩
      | fdc hs kvs =>
        obtain ⟨q, ob, r1, r2, r3⟩ := o2
        exact ⟨q, ob, r1, gg _ _ r2, r3.mono gg⟩
      | pin v φ =>
        obtain ⟨r1, G0, r2, r3⟩ := o2
        exact ⟨r1, G0, r2.trans gg, r3⟩
      | owx xs =>
        obtain ⟨q, ws, r1, r2, r3, r4⟩ := o2
        subst r1
        have n : q ≠ p := fun z => by
          subst z
          exact hij (s.apart i j q _ _ hi hc hp o1)
        exact ⟨q, ws, rfl, by rw [upd_ne n]; exact r2, r3, r4.mono gg⟩
  · rcases set_get h1 with ⟨_, z⟩ | ⟨_, o1⟩
    · exact absurd z.symm (nc _)
    rcases set_get h2 with ⟨_, z⟩ | ⟨_, o2⟩
    · exact absurd z.symm (nc _)
    exact s.apart a b q xs ys o1 o2 h3 h4
theorem gs_freezeD (i : Nat) (h : GS X N ss (ρ.set i (.fdc hs kvs)) Φ) (hi : ρ[i]? = some (.dic hs kvs) := by rfl) : GS X N ss ρ Φ := fun P σ H f => h P σ H (by
  obtain ⟨G, e0, sp, sta, fr⟩ := f
  obtain ⟨p, u, o1, o2, o3, o, rfl, o4⟩ := sta.owx hi
  have np := fr i _ p hi o1
  have st' := sta.freezeX (c' := .fdc hs kvs) hi o1 o2 o3 (fun z => by simp) ⟨p, o, rfl, upd_same, o4.mono (same_new o2)⟩
  refine ⟨_, ⟨⟨e0.g.trans (same_new o2), e0.h, st'.gh, fun a ha => ?_⟩, e0.pin.trans (same_new o2)⟩, sp.trans (same_new o2), st', fun j xs q r1 r2 => ?_⟩
  · rw [upd_ne (fun z => ha (by rw [z]; exact np))]
    exact e0.old a ha
  · rcases set_get r1 with ⟨_, z⟩ | ⟨_, r1⟩
    · cases z
    · exact fr j xs q r1 r2)
end
end Gd

namespace Gd
open PySem PySem.Spec L2
/-! ### for k in x, x a dict that changes no more -/
def Itd (a : Addr) (o : Obj) (xs : List (NestedKey × Addr × Value)) : It := ⟨fun i H => H a = some (dR a o) ∧ i < xs.length, fun i H x H' => H' = H ∧ ∃ y, xs[i]? = some y ∧ x = .ref y.2.1, fun i H => H a = some (dR a o) ∧ xs.length ≤ i⟩
theorem turn_dict {P : Program} {w : World} {K : PySem.W.Frag} {tg : Expr} {hs : NestedKey -> Int} {o : Obj} {es : Array DictEntry} {ep : Nat} {xs : List (NestedKey × Addr × Value)} (a it : Addr) (hx : o.ExactDict) (he : o.data = .dict es ep) (hes : es.toList = xs.map fun x => (⟨hs x.1, .ref x.2.1, x.2.2⟩ : DictEntry)) :
    Turn P w K tg (Itd a o xs) [it] it (fun i h => h.IsKeyIter it a i es.size ep) where
  mem := by simp
  obj := fun i h st b hb => by
    have e : b = it := by simpa using hb
    subst e
    obtain ⟨o, e, c, d⟩ := st
    exact ⟨o, e, fun v z => by rw [d] at z; cases z⟩
  keep := fun i h h' st k => let ⟨o, e, r⟩ := st; ⟨o, k it (by simp) o e, r⟩
  item := by
    intro X hP hw hK hc i pins s σ H E I hf st hg
    subst hP hw hK
    obtain ⟨ha, hlt⟩ := hg
    have raw : s.heap.DictRaw a es ep := ⟨o, (I.hok a _ ha).1, hx, he⟩
    have hz : es.size = xs.length := by
      have := congrArg List.length hes
      simpa using this
    have hlt' : i < es.size := by omega
    obtain ⟨f0, f1, f2, f3, f4, f5⟩ := hf it (by simp)
    refine wpAny_pyNext_keys_item_raw st raw hlt' fun h' st' sb => ?_
    have I1 : Inv X pins σ H { s with heap := h' } := I.turned (t' := s.toks) (fun b o hb e => (sb.2 b hb).trans e) f0 f1 f3 f4 f5
    have hk : es[i].key = .ref xs[i].2.1 := by
      have := congrArg (fun q => q[i]?) hes
      simp only [Array.getElem?_toList, List.getElem?_map] at this
      rw [Array.getElem?_eq_getElem hlt', List.getElem?_eq_getElem hlt] at this
      rw [Option.some.inj this]
    obtain ⟨ob, e, c, d⟩ := id st'
    exact ⟨_, rfl, go_of (s := { s with heap := h' }) e c d (by decide) ⟨.ref xs[i].2.1, H, I1, hk, ⟨rfl, xs[i], List.getElem?_eq_getElem hlt, rfl⟩, st', fun b hb => (hf b hb).1⟩⟩
  done := by
    intro X hP hw hK hc i pins s σ H E I hf st hg
    subst hP hw hK
    obtain ⟨ha, hle⟩ := hg
    have raw : s.heap.DictRaw a es ep := ⟨o, (I.hok a _ ha).1, hx, he⟩
    have hz : es.size = xs.length := by
      have := congrArg List.length hes
      simpa using this
    obtain ⟨f0, f1, f2, f3, f4, f5⟩ := hf it (by simp)
    exact wpAny_pyNext_keys_end_raw (I.ok.hd hc) st raw (by omega) fun h' eb => ⟨rfl, I.turned (t' := s.toks) (fun b o hb e => eb b o hb e) f0 f1 f3 f4 f5⟩
  self := fun _ _ _ _ _ st h => wpAny_pyIter_keyiter st h
def iDict (X : Cx) (tl : TE) : TI := fun σ H R => tl σ H fun x H1 => ∃ a o xs, x = .ref a ∧ H1 a = some (dR a o) ∧ DicO (hsW X.w) a o xs ∧ R (Itd a o xs) H1
theorem pi_dict {X : Cx} {tg l : Expr} {tl : TE} (hl : PE X l tl) : PI X tg l (iDict X tl) := by
  refine ⟨fun pins s σ H R I h => ?_⟩
  refine thn (hl.run pins s σ H _ I h) fun v s1 ⟨x, H1, I1, r1, q1⟩ => ?_
  obtain ⟨a, o, xs, e, ha, hdo, q⟩ := q1
  subst e
  cases r1
  obtain ⟨es, ep, he, hes⟩ := hdo.da
  have raw : s1.heap.DictRaw a es ep := ⟨o, (I1.hok a _ ha).1, hdo.ex, he⟩
  refine wpAny_pyIter_dict_raw hdo.sm raw ?_
  refine ⟨s1.heap.objs.size, [s1.heap.objs.size], _, _, H1, rfl, I1.kept (t' := s1.toks) fun b o e => Heap.get?_push_of_some _ e, turn_dict a _ hdo.ex he hes, ⟨_, Heap.get?_push_size _ rfl, rfl, rfl⟩, fun b hb => ?_, q⟩
  have e : b = s1.heap.objs.size := by simpa using hb
  subst e
  exact I1.fpOk (Nat.le_refl _) (I1.hok.fresh (Nat.le_refl _))
theorem DEnt.at_ {K : PySem.W.Frag} {G : Hp} : forall {kvs : List (PyData × PyData)} {xs : List (NestedKey × Addr × Value)} {i : Nat} {y : NestedKey × Addr × Value} {d : PyData}, DEnt K G kvs xs -> xs[i]? = some y -> (kvs.map (·.1))[i]? = some d -> Dq K G (.ref y.2.1) d
  | [], [], _, _, _, _, h, _ => by simp at h
  | kv :: kvs, x :: xs, 0, y, d, h, h1, h2 => by
    simp at h1 h2
    subst h1 h2
    exact h.1.2.1
  | kv :: kvs, x :: xs, i + 1, y, d, h, h1, h2 => DEnt.at_ h.2 (by simpa using h1) (by simpa using h2)
  | [], _ :: _, _, _, _, h, _, _ => h.elim
  | _ :: _, [], _, _, _, h, _, _ => h.elim
section
variable {X : Cx} {N : En} {a b c e tg : Expr} {ss : List Stmt} {ρ : Rho} {d d2 k : PyData} {kvs : List (PyData × PyData)} {pos pos' p1 p2 apos : Pos} {Φ : Post} {x y : Str}
theorem gi_dict (i : Nat) (hc : ρ[i]? = some (.fdc (hsW X.w) kvs) := by rfl) (hi : X.N[i]? = some x := by rfl) (hv : Vis X.env.scope x := by first | exact Or.inl rfl | exact Or.inr (Or.inl rfl) | exact Or.inr (Or.inr rfl)) (hd : (x == ("__debug__" : Str)) = false := by decide) (hcd : (x == ("__classdict__" : Str)) = false := by decide) : GI X tg (.Name x pos) ρ (kvs.map (·.1)) :=
  ⟨_, pi_dict (pe_var hi hv hd hcd), fun σ G H R s q => by
    obtain ⟨ov, h1, p, o, rfl, h2, xs, ho, ent⟩ := s.at_ i _ hc
    refine ⟨.ref p, h1, p, o, xs, rfl, s.gh _ _ h2, ho, q _ G H (.refl s.gh) fun G2 H2 s1 s2 => ⟨fun j d hj => ?_, fun j hj => ?_⟩⟩
    · have hlt : j < xs.length := by
        have := (List.getElem?_eq_some_iff.mp hj).1
        rw [List.length_map] at this
        rw [ent.len]
        exact this
      refine ⟨⟨s2 _ _ (s1 _ _ h2), hlt⟩, fun v H3 yl => ?_⟩
      obtain ⟨rfl, y, hy, rfl⟩ := yl
      exact ⟨G2, .refl s2, (ent.at_ hy hj).mono s1⟩
    · exact ⟨s2 _ _ (s1 _ _ h2), by rw [ent.len]; simpa using hj⟩⟩
/-- x = y, y a dict that changes no more -/
theorem g1_alias (i j : Nat) (h : Φ.nx (ρ.set i (.fdc (hsW X.w) kvs))) (hN : X.N.Nodup) (hc : ρ[j]? = some (.fdc (hsW X.w) kvs) := by rfl) (hi : X.N[i]? = some x := by rfl) (hj : X.N[j]? = some y := by rfl) (hx : Loc X.env.scope x := by first | exact Or.inl rfl | exact Or.inr rfl) (hv : Vis X.env.scope y := by first | exact Or.inl rfl | exact Or.inr (Or.inl rfl) | exact Or.inr (Or.inr rfl)) (hd : (y == ("__debug__" : Str)) = false := by decide) (hcd : (y == ("__classdict__" : Str)) = false := by decide)
    (hs : swapsWith (.Name y p2) (some (.Name x pos')) pos.line X.env = pure false := by rfl) (hf : X.fn x = true ∨ X.env.scope.names.lookup x = some .local := by first | exact .inl rfl | exact .inr rfl | assumption) : G1 X N (.Assign [.Name x pos'] (.Name y p2) pos) ρ Φ :=
  g1_of (ps_set hN hi hx (pe_var hj hv hd hcd) hs hf) fun P σ H f => by
    obtain ⟨G, e0, sp, sta, fr⟩ := f
    obtain ⟨ov, h1, p, o, rfl, h2, h3⟩ := sta.at_ j _ hc
    refine ⟨.ref p, h1, _, ⟨G, e0, sp, ⟨sta.gh, by rw [List.length_set, List.length_set]; exact sta.len, fun m c hm => ?_, fun a b q xs ys r1 r2 r3 r4 => ?_⟩, fun m xs q r1 r2 => ?_⟩, h⟩
    · rcases set_get hm with ⟨rfl, rfl⟩ | ⟨n, hm⟩
      · have hl := (List.getElem?_eq_some_iff.mp hm).1
        rw [List.length_set] at hl
        exact ⟨_, List.getElem?_set_self (by rw [sta.len]; exact hl), p, o, rfl, h2, h3⟩
      · rw [List.getElem?_set_ne n]
        exact sta.at_ m c hm
    · rcases set_get r1 with ⟨_, z⟩ | ⟨n1, o1⟩
      · cases z
      rcases set_get r2 with ⟨_, z⟩ | ⟨n2, o2⟩
      · cases z
      rw [List.getElem?_set_ne n1] at r3
      rw [List.getElem?_set_ne n2] at r4
      exact sta.apart a b q xs ys o1 o2 r3 r4
    · rcases set_get r1 with ⟨_, z⟩ | ⟨n1, o1⟩
      · cases z
      rw [List.getElem?_set_ne n1] at r2
      exact fr m xs q o1 r2
end
/-! ### {k: v} -/
section
variable {X : Cx} {N : En} {a b c e tg : Expr} {ss : List Stmt} {ρ : Rho} {d d2 k : PyData} {kvs : List (PyData × PyData)} {pos pos' p1 p2 apos : Pos} {Φ : Post} {x y : Str}
def xDisp (X : Cx) (tk tv : TE) : TE := fun σ H Q => forall p o0, H p = none -> DicO (hsW X.w) p o0 [] -> tk σ (upd H p (dR p o0)) fun x H1 => tv σ H1 fun y H2 => H2 p = some (dR p o0) ∧ ∃ b k, x = .ref b ∧ KeyAt X.K H2 k b ∧ forall o u, RelV y u -> DicO (hsW X.w) p o [(k, b, u)] -> Q (.ref p) (upd H2 p (dR p o))
theorem pe_xdisp {tk tv : TE} (hu : X.A.units + 64 < cLine) (hk : PE X a tk) (hv : PE X b tv) : PE X (.Dict [some a] [b] pos) (xDisp X tk tv) := by
  refine ⟨fun pins s σ H Q I q => ?_⟩
  have hn := I.hok.fresh (Nat.le_refl s.heap.objs.size)
  have ok0 : DicO (hsW X.w) s.heap.objs.size { cls := .type "dict", data := .dict #[] } [] := ⟨⟨rfl, rfl, rfl⟩, ⟨#[], 0, rfl, rfl⟩, List.nodup_nil, beq_eq_false_iff_ne.mpr (Ne.symm (Nat.ne_of_lt I.big)), Nat.zero_le _⟩
  have I1 := I.laid (a := s.heap.objs.size) (o := dR s.heap.objs.size { cls := .type "dict", data := .dict #[] }) (h' := s.heap.push { cls := .type "dict", data := .dict #[] }) (t' := s.toks) (fun _ _ q => Heap.get?_push_of_some _ q) (Nat.le_refl _) (dR_ok (Heap.get?_push_size _ rfl))
  have q0 := q s.heap.objs.size _ hn ok0
  rw [arm_eval_Dict, show (evalEachOpt [some a] X.env).zip ((evalEach [b] X.env).map fun v => do let x ← v; standAt pos; pure x) = (pairTrees [some a] [b] X.env pos).map (fun p => (some p.1, p.2)) from rfl, dictDisplay_pairs (pairTrees [some a] [b] X.env pos) (by simp [pairTrees]) (by simp [pairTrees])]
  refine wpAny_bind (wpAny_standAt (wpAny_bind (wpAny_subDictH (knd := nestedKind X.prog X.w) (Q := fun d s' => wpAny (model X.prog X.w) X.A (pure (Value.ref d)) (EP X pins σ Q) X.xe s') (by show X.A.units + 8 < cLine; omega) (by simp [pairTrees]) ?_)))
  refine pairTrees_cons_walk (thn (hk.run pins _ σ _ _ I1 q0) fun u s1 ⟨x, H1, I2, rx, q1⟩ => thn (hv.run pins s1 σ H1 _ I2 q1) fun w2 s2 ⟨y, H2, I3, ry, hp, b', k, ex, ka, q2⟩ => pairTrees_nil_walk ?_)
  subst ex
  obtain rfl : u = Value.ref b' := rx
  have obj := (I3.hok _ _ hp).1
  refine ⟨[(k, b', w2)], ⟨rfl, rfl, ka.is I3, trivial⟩, ⟨_, #[], 0, obj, ⟨rfl, rfl, rfl⟩, rfl, rfl, fun _ z => absurd z List.not_mem_nil, List.nodup_nil⟩, fun h' tk dd' sb => wpAny_pure ?_⟩
  obtain ⟨q', es, ep, hq, h2, h3, h4, _, h5⟩ := dd'
  refine ⟨.ref s.heap.objs.size, _, d_write (ob := dR s.heap.objs.size q') I3 (by rw [hp]; exact True.intro) sb ⟨q', hq⟩ (dR_ok hq), rfl, q2 q' w2 ry ⟨h2, ⟨es, ep, h3, h4⟩, h5, ok0.sm, by show 1 ≤ 1000000; decide⟩⟩
theorem g1_dnew1 (i : Nat) (hu : X.A.units + 64 < cLine) (hk : GE X a ρ k) (he : GE X b ρ d) (hkey : isKey k = true) (h : Φ.nx (ρ.set i (.dic (hsW X.w) [(k, d)]))) (hN : X.N.Nodup) (hi : X.N[i]? = some x := by rfl) (hx : Loc X.env.scope x := by first | exact Or.inl rfl | exact Or.inr rfl) (hs : swapsWith (.Dict [some a] [b] p2) (some (.Name x pos')) pos.line X.env = pure false := by rfl)
    (hf : X.fn x = true ∨ X.env.scope.names.lookup x = some .local := by first | exact .inl rfl | exact .inr rfl | assumption) : G1 X N (.Assign [.Name x pos'] (.Dict [some a] [b] p2) pos) ρ Φ :=
  g1_of (ps_set hN hi hx (pe_xdisp hu pe_tw pe_tw) hs hf) fun P σ H f p o0 hp hd0 => by
    obtain ⟨G, e0, sp, sta, fr⟩ := f
    have ex : Ext G H G (upd H p (dR p o0)) := ⟨Same.refl G, same_new hp, sta.gh.trans (same_new hp), fun _ _ => rfl⟩
    refine hk σ G _ _ (sta.ext ex) fun v G1 H1 e1 dk => he σ G1 H1 _ ((sta.ext ex).ext e1) fun z G2 H2 e2 dz => ?_
    obtain ⟨b', rfl⟩ := dk.key hkey
    have e12 := e1.trans e2
    have hp2 : H2 p = some (dR p o0) := e12.h _ _ upd_same
    have gp : G2 p = none := by rw [e12.old p (by rw [upd_same]; exact fun z => nomatch z)]; exact sta.gh.free hp
    refine ⟨hp2, b', nk k, rfl, ⟨k, (dk.mono e2.g).mono e12.gh, hkey, rfl⟩, fun o u ru hdo => ?_⟩
    have sto := (sta.setOwx (x := .dict (hsW X.w) []) i hp ⟨o0, rfl, [], hd0, trivial⟩).ext e12
    have hl : forall hlt : i < ρ.length, (ρ.set i (.dic (hsW X.w) []))[i]? = some (.dic (hsW X.w) []) := fun hlt => List.getElem?_set_self hlt
    by_cases hlt : i < ρ.length
    · have st2 := sto.mutOwx (p := p) (u := dR p o) (y := .dict (hsW X.w) [(k, d)]) (hl hlt) (List.getElem?_set_self (by rw [sta.len]; exact hlt)) ⟨o, rfl, _, hdo, ⟨⟨rfl, dk.mono e2.g, ⟨z, ru, dz⟩, hkey⟩, trivial⟩⟩
      rw [List.set_set] at st2
      have np : N.h p = none := e0.h.free hp
      refine ⟨_, ⟨G2, mut_ext ((e0.trans ex).trans e12) gp np, sp.trans e12.g, st2, fun j xs q o1 o2 => ?_⟩, h⟩
      rcases set_get o1 with ⟨rfl, _⟩ | ⟨n, o1⟩
      · rcases set_get o2 with ⟨_, z⟩ | ⟨z, _⟩
        · cases z
          exact np
        · exact absurd rfl z
      · rw [List.getElem?_set_ne n] at o2
        exact fr j xs q o1 o2
    · have e1' : ρ.set i (.dic (hsW X.w) [(k, d)]) = ρ := List.set_eq_of_length_le (by omega)
      have e2' : σ.set i (some (.ref p)) = σ := List.set_eq_of_length_le (by rw [sta.len]; omega)
      have np : N.h p = none := e0.h.free hp
      rw [e1'] at h
      show (ends X.K N P Φ).nx (σ.set i (some (.ref p))) (upd H2 p (dR p o))
      rw [e2']
      have s3 : Sta X.K G2 (upd H2 p (dR p o)) σ ρ := by
        have s2 := (sta.ext ex).ext e12
        refine ⟨fun b q z => by rw [upd_ne (ne_of_none z gp)]; exact s2.gh b q z, s2.len, fun j c hc => ?_, s2.apart⟩
        obtain ⟨ov, r1, r2⟩ := sta.at_ j c hc
        obtain ⟨ov', r1', r2'⟩ := s2.at_ j c hc
        rw [r1] at r1'
        cases r1'
        refine ⟨ov, r1, ?_⟩
        cases c with
        | any => trivial
        | raw v => exact r2'
        | dat d => exact r2'
        | fdc hs kvs => exact r2'
        | pin v φ => exact r2'
        | owx xs =>
          obtain ⟨q, ws, s1, s2, s3, s4⟩ := r2
          obtain ⟨q', ws', t1, t2, t3, t4⟩ := r2'
          rw [s1] at t1
          cases t1
          have n : q ≠ p := fun z => by rw [z, hp] at s3; cases s3
          exact ⟨q, ws', s1, t2, by rw [upd_ne n]; exact t3, t4⟩
      exact ⟨_, ⟨G2, mut_ext ((e0.trans ex).trans e12) gp np, sp.trans e12.g, s3, fr⟩, h⟩
end
end Gd

namespace Gd
open PySem PySem.Spec L2
/-! ### sum(x.values()) -/
def viewO (a : Addr) : Obj := { cls := .type "dict_values", data := .fields #[.ref a] }
section
variable {X : Cx} {N : En} {a b c e o : Expr} {ρ : Rho} {kvs : List (PyData × PyData)} {pos p p1 p2 p3 apos cpos : Pos} {x : Str} {td : TE}
theorem dic_raw {pins : List (Addr × Obj)} {σ : L2.St} {H : Hp} {s : Shared} {q : Addr} {ob : Obj} {hs : NestedKey -> Int} {xs : List (NestedKey × Addr × Value)} (I : Inv X pins σ H s) (ha : H q = some (dR q ob)) (hd : DicO hs q ob xs) : ∃ es ep, s.heap.DictRaw q es ep ∧ es.toList = xs.map fun x => (⟨hs x.1, .ref x.2.1, x.2.2⟩ : DictEntry) := by
  obtain ⟨es, ep, h1, h2⟩ := hd.da
  exact ⟨es, ep, ⟨ob, (I.hok q _ ha).1, hd.ex, h1⟩, h2⟩
def xVals (X : Cx) (td : TE) : TE := fun σ H Q => td σ H fun x H1 => ∃ a o xs, x = .ref a ∧ H1 a = some (dR a o) ∧ DicO (hsW X.w) a o xs ∧ forall p, H1 p = none -> Q (.ref p) (upd H1 p (dR p (viewO a)))
theorem pe_values (ho : PE X o td) (hbase : attributeBase o "values" X.env (eval o X.env) = eval o X.env := by rfl) (hline : (apos.endLine == cpos.line) = true := by rfl) : PE X (.Call (.Attribute o "values" apos) [] [] cpos) (xVals X td) := by
  refine ⟨fun pins s σ H Q I h => ?_⟩
  refine wpAny_Call_method0_late hbase hline (thn (ho.run pins s σ H _ I h) fun v s1 ⟨y, H1, I1, r1, q, ob, xs, ey, ha, hd, q1⟩ => ?_)
  subst ey
  cases r1
  obtain ⟨es, ep, raw, hes⟩ := dic_raw I1 ha hd
  refine ⟨"dict", "dict.values", PySem.F.plainAttrs_dict, PySem.F.slot_dict_values, PySem.F.type_dict_values, raw.typeIs, fun b z => ?_, Calls.callWith_builtin rfl (PySem.evalArgs_none (call_meetsIn PySem.F.slot_dict_values raw.typeIs PySem.F.entry_dict_values (PySem.F.args_dict_values_1 _) (meets_dict_values_raw q hd.sm) ⟨⟨es, ep, raw⟩, ?_⟩))⟩
  · cases z
    obtain ⟨ob', w1, w2, w3⟩ := raw
    exact ⟨ob', w1, w2.2.1⟩
  · exact ⟨.ref s1.heap.objs.size, _, I1.laid (a := s1.heap.objs.size) (o := dR s1.heap.objs.size (viewO q)) (t' := s1.toks) (fun _ _ z => Heap.get?_push_of_some _ z) (Nat.le_refl _) (dR_ok (Heap.get?_push_size _ rfl)), rfl, q1 _ (I1.hok.fresh (Nat.le_refl _))⟩
def rSumV (X : Cx) : List V -> Hp -> VK -> Prop := fun vs H Q => ∃ (q a : Addr) (o : Obj) (xs : List (NestedKey × Addr × Value)) (ns : List Int), vs = [.ref q] ∧ H q = some (dR q (viewO a)) ∧ H a = some (dR a o) ∧ DicO (hsW X.w) a o xs ∧ ns.length = xs.length ∧ (forall (i : Nat) y n, xs[i]? = some y -> ns[i]? = some n -> RelV (.int n) y.2.2) ∧ Q (.int ns.sum) H
theorem preSum_take (ns : List Int) : forall n, n ≤ ns.length -> preSum (fun i => ns.getD i 0) n = (ns.take n).sum
  | 0, _ => rfl
  | n + 1, h => by
    have hlt : n < ns.length := h
    rw [preSum, preSum_take ns n (by omega), List.take_add_one, List.sum_append, List.getD_eq_getElem?_getD, List.getElem?_eq_getElem hlt]
    simp
theorem cr_sumV (hc : X.calm = true) : CallR X (.builtin "sum") (rSumV X) := by
  intro pins s σ H vs us Q I r h
  obtain ⟨q, d, ob, xs, ns, rfl, hq, ha, hd, hl, hv, k⟩ := h
  rw [Vals.ref1 r]
  obtain ⟨es, ep, raw, hes⟩ := dic_raw I ha hd
  have vw : s.heap.IsValuesView q d := ⟨_, (I.hok q _ hq).1, rfl, rfl⟩
  have hz : es.size = xs.length := by
    have := congrArg List.length hes
    simpa using this
  have hlt : d < s.heap.objs.size := by obtain ⟨o', z, _⟩ := raw; exact Heap.lt_size z
  refine call_sum_walkAnyS (wpAny_pyIter_values_raw vw raw ?_)
  have hh : X.A.in1.handled = none := I.ok.hd hc
  have W := (Walks.rawValues (prog := X.prog) (w := X.w) hh s.heap.objs.size d (Nat.ne_of_lt hlt) es ep).toS
  refine ⟨s.heap.objs.size, _, _, _, es.size, _, _, fun i => ns.getD i 0, rfl, W, ⟨⟨_, Heap.get?_push_size _ rfl, rfl, rfl⟩, raw.at fun o' z => Heap.get?_push_of_some _ z⟩, fun b hb => ?_, fun i v hv' => ?_, fun s' t' hm => ?_⟩
  · show b < (s.heap.push _).objs.size
    rw [PyProof.Rows.size_push']
    rcases List.mem_cons.mp hb with z | hb
    · rw [z]; exact Nat.lt_succ_self _
    · rw [List.mem_singleton.mp hb]; exact Nat.lt_succ_of_lt hlt
  · obtain ⟨hi, rfl⟩ := hv'
    have hx : i < xs.length := by omega
    have hn : i < ns.length := by omega
    have e1 : es[i].val = xs[i].2.2 := by
      have := congrArg (fun q => q[i]?) hes
      simp only [Array.getElem?_toList, List.getElem?_map] at this
      rw [Array.getElem?_eq_getElem hi, List.getElem?_eq_getElem hx] at this
      rw [Option.some.inj this]
    obtain ⟨t, ht⟩ := hv i xs[i] ns[i] (List.getElem?_eq_getElem hx) (List.getElem?_eq_getElem hn)
    refine ⟨t, ?_⟩
    rw [e1, ht]
    show Value.int ns[i] t = Value.int (ns.getD i 0) t
    rw [List.getD_eq_getElem?_getD, List.getElem?_eq_getElem hn]
    rfl
  · have hk : forall b o', s.heap.get? b = some o' -> s'.heap.get? b = some o' := fun b o' z =>
      hm.heap b o' (fun hI => absurd (Heap.lt_size z) (by rw [List.mem_singleton.mp hI]; exact Nat.lt_irrefl _)) (Heap.get?_push_of_some _ z)
    rw [Moved.eq_with hm]
    have e2 : preSum (fun i => ns.getD i 0) es.size = ns.sum := by rw [preSum_take ns _ (by omega), List.take_of_length_le (by omega)]
    rw [e2]
    exact ⟨.int _, H, I.kept hk, ⟨_, rfl⟩, k⟩
theorem DEnt.ints {K : PySem.W.Frag} {G : Hp} {ns : List Int} : forall {kvs : List (PyData × PyData)} {xs : List (NestedKey × Addr × Value)}, DEnt K G kvs xs -> forall {ns : List Int}, kvs.map (·.2) = ns.map PyData.int -> ns.length = xs.length ∧ forall (i : Nat) y n, xs[i]? = some y -> ns[i]? = some n -> RelV (.int n) y.2.2
  | [], [], _, ns, e => by
    cases ns with
    | nil => exact ⟨rfl, fun i y n h => by simp at h⟩
    | cons _ _ => cases e
  | kv :: kvs, x :: xs, h, ns, e => by
    cases ns with
    | nil => cases e
    | cons m ns =>
      rw [List.map_cons, List.map_cons] at e
      injection e with e1 e2
      obtain ⟨⟨a, b, ⟨v, rv, dv⟩, _⟩, t⟩ := h
      rw [e1] at dv
      cases dv
      obtain ⟨i1, i2⟩ := DEnt.ints (ns := ns) t e2
      refine ⟨by rw [List.length_cons, List.length_cons, i1], fun i y n h1 h2 => ?_⟩
      cases i with
      | zero =>
        simp at h1 h2
        subst h1 h2
        exact rv
      | succ i => exact i2 i y n (by simpa using h1) (by simpa using h2)
  | [], _ :: _, h, _, _ => h.elim
  | _ :: _, [], h, _, _ => h.elim
theorem ge_sumValues (i : Nat) {ns : List Int} (hm : X.mg "sum" = none) (he : kvs.map (·.2) = ns.map PyData.int) (hc : IsDic ρ i (hsW X.w) kvs := by first | exact .inl rfl | exact .inr (.inl rfl) | exact .inr (.inr ⟨_, rfl⟩)) (hcalm : X.calm = true := by rfl) (hg : Gl X "sum" := by rfl) (hi : X.N[i]? = some x := by rfl) (hv : Vis X.env.scope x := by first | exact Or.inl rfl | exact Or.inr (Or.inl rfl) | exact Or.inr (Or.inr rfl)) (hd : (x == ("__debug__" : Str)) = false := by decide) (hcd : (x == ("__classdict__" : Str)) = false := by decide)
    (hbase : attributeBase (.Name x p1) "values" X.env (eval (.Name x p1) X.env) = eval (.Name x p1) X.env := by rfl) (hline : (p2.endLine == p3.line) = true := by rfl)
    (hs : starEach [.Call (.Attribute (.Name x p1) "values" p2) [] [] p3] X.env = (false, eval (.Call (.Attribute (.Name x p1) "values" p2) [] [] p3) X.env) :: starEach [] X.env := by rfl) (hpl : (backTo pos (starEach [] X.env)).any (·.1) = false := by rfl) :
    GE X (.Call (.Name "sum" p) [.Call (.Attribute (.Name x p1) "values" p2) [] [] p3] [] pos) ρ (.int ns.sum) :=
  ge_of (pe_callB (cr_sumV hcalm) hg hm bt_sum (pa_cons (pe_values (pe_var hi hv hd hcd) hbase hline) pa_nil hs) (by decide) (by decide) hs hpl) fun σ G H Q s q => by
    obtain ⟨q', o, h1, h2, xs, ho, ent⟩ := s.dict hc
    refine ⟨.ref q', h1, q', o, xs, rfl, h2, ho, fun v hv' => ?_⟩
    have ex : Ext G H G (upd H v (dR v (viewO q'))) := ⟨Same.refl G, same_new hv', s.gh.trans (same_new hv'), fun _ _ => rfl⟩
    obtain ⟨i1, i2⟩ := ent.ints (ns := ns) he
    exact ⟨v, q', o, xs, ns, rfl, upd_same, same_new hv' _ _ h2, ho, i1, i2, q _ G _ ex (.int _)⟩
end
end Gd

namespace Gd
open PySem PySem.Spec L2
section
variable {X : Cx} {N : En} {st : Stmt} {e a b c elt tg iter tg1 iter1 : Expr} {es ifs : List Expr} {ρ ρ' : Rho} {d d1 d2 : PyData} {ds : List PyData} {pos pos' p p2 : Pos} {Φ : Post} {i j : Int} {l : List Nat} {k : Bool} {K : PySem.W.Frag}
/-- the slots, told anew -/
theorem gs_eq {ss : List Stmt} (ρ' : Rho) (h : GS X N ss ρ' Φ) (e : ρ = ρ' := by kernel_rfl) : GS X N ss ρ Φ := by rw [e]; exact h
theorem gs_mono {ss : List Stmt} {Ψ : Post} (h : GS X N ss ρ Φ) (h1 : forall ρ, Φ.nx ρ -> Ψ.nx ρ) (h2 : forall d, Φ.rt d -> Ψ.rt d) (h3 : forall ρ, Φ.bk ρ -> Ψ.bk ρ) (h4 : forall ρ, Φ.ct ρ -> Ψ.ct ρ) (h5 : Φ.mm = Ψ.mm := by rfl) : GS X N ss ρ Ψ := fun P σ H f =>
  tws_mono (D := ends X.K N P Φ) (D' := ends X.K N P Ψ) ⟨fun _ _ ⟨ρ, f, q⟩ => ⟨ρ, f, h1 _ q⟩, fun _ _ ⟨d, f, q⟩ => ⟨d, h5 ▸ f, h2 _ q⟩, fun _ _ ⟨ρ, f, q⟩ => ⟨ρ, f, h3 _ q⟩, fun _ _ ⟨ρ, f, q⟩ => ⟨ρ, f, h4 _ q⟩⟩ (h P σ H f)
/-- if: both ways end with the slots ρ1 -/
theorem g1_ifJ {body orelse : List Stmt} {c : Expr} (ρ1 : Rho) (hc : GT X c ρ k) (ht : k = true -> GS X N body ρ { Φ with nx := fun ρ' => ρ' = ρ1 }) (hf : k = false -> GS X N orelse ρ { Φ with nx := fun ρ' => ρ' = ρ1 }) (h : Φ.nx ρ1) : G1 X N (.If c body orelse pos) ρ Φ :=
  g1_if hc (fun z => gs_mono (ht z) (fun _ q => by rw [show _ = ρ1 from q]; exact h) (fun _ q => q) (fun _ q => q) (fun _ q => q)) (fun z => gs_mono (hf z) (fun _ q => by rw [show _ = ρ1 from q]; exact h) (fun _ q => q) (fun _ q => q) (fun _ q => q))
/-! ### two fors in a comprehension -/
/-- the weakest walk -/
def twI (X : Cx) (tg iter : Expr) : TI := fun σ H R => forall pins s, Inv X pins σ H s -> Wp X (eval iter X.env) (fun v s1 => wpAny (model X.prog X.w) X.A (pyIter v) (PIE X pins σ tg R) X.xe s1) s
theorem tput_len {T : Tg} (h : T.put d ρ = some ρ') : ρ'.length = ρ.length := by
  have l1 : forall (is : List Nat) (ds : List PyData) (r r' : Rho), putAll is ds r = some r' -> r'.length = r.length := fun is => by
    induction is with
    | nil => intro ds r r' z; cases ds with
      | nil => cases z; rfl
      | cons _ _ => simp [putAll] at z
    | cons j js ih => intro ds r r' z; cases ds with
      | nil => simp [putAll] at z
      | cons d ds => rw [ih ds _ _ z, List.length_set]
  cases T with
  | nm j =>
    have z : ρ.set j (.dat d) = ρ' := Option.some.inj h
    rw [← z, List.length_set]
  | tp js =>
    cases d with
    | tuple ds => exact l1 js ds _ _ h
    | _ => cases h
def EvI (K : PySem.W.Frag) (wi : TI) (ρ : Rho) (items : List PyData) : Prop := forall (σ : L2.St) (G H : Hp) (R : It -> Hp -> Prop), Sta K G H σ ρ -> (forall J G' H', Ext G H G' H' -> WalkD K J G' items -> R J H') -> wi σ H R
theorem ev_lc2 {α β : Type} (L : List α) (g : α -> PyData) (M : α -> List β) (g1 : α -> β -> PyData) (F : α -> β -> PyData) {T T1 : Tg} {wi wi1 : TI} {tt tt1 : TT} {te : TE} {vs vs1 : List Nat}
    (hw : EvI K wi ρ (L.map g)) (hsub : forall j, j ∈ T.sl -> j ∈ vs) (hsub1 : forall j, j ∈ T1.sl -> j ∈ vs1) (hlen : (L.flatMap M).length ≤ 100000)
    (turn : forall (i : Nat) (x : α), L[i]? = some x -> ∃ ρ2, T.put (g x) (wipeR ρ vs) = some ρ2 ∧ EvT K tt ρ2 true ∧ EvI K wi1 ρ2 ((M x).map (g1 x)) ∧
      forall (j : Nat) (y : β), (M x)[j]? = some y -> ∃ ρ3, T1.put (g1 x y) (wipeR ρ2 vs1) = some ρ3 ∧ EvT K tt1 ρ3 true ∧ EvR K te ρ3 (F x y)) :
    EvR K (tLc2 wi (T.rd K) tt wi1 (T1.rd K) tt1 te vs vs1) ρ (.list (L.flatMap fun x => (M x).map (F x))) := fun σ G H Q s q => by
  refine hw σ G H _ s fun J G1 H1 e1 wk D hD => ?_
  have hfl : forall (L' : List α), (L'.flatMap fun x => (M x).map (F x)).length = (L'.flatMap M).length := fun L' => by
    induction L' with
    | nil => rfl
    | cons x L' ih => rw [List.flatMap_cons, List.flatMap_cons, List.length_append, List.length_append, ih, List.length_map]
  refine ⟨fun i m H2 => m = L.length - i ∧ i ≤ L.length ∧ ∃ G2 acc, Ext G1 H1 G2 H2 ∧ G2 D = none ∧ H2 D = some (.lst acc) ∧ DqAll K G2 acc ((L.take i).flatMap fun x => (M x).map (F x)), ⟨_, rfl, Nat.zero_le _, G1, [], ?_, e1.gh.free hD, upd_same, by rw [List.take_zero]; exact .nil⟩, fun i m H2 hW => ?_⟩
  · exact ⟨Same.refl _, same_new hD, e1.gh.trans (same_new hD), fun _ _ => rfl⟩
  · obtain ⟨rfl, hle, G2, acc, e2, gD, hD2, dv⟩ := hW
    by_cases hlt : i < L.length
    · have hx : L[i]? = some L[i] := List.getElem?_eq_getElem hlt
      obtain ⟨wgo, _⟩ := wk G2 H2 e2.g e2.gh
      obtain ⟨go, yl⟩ := wgo i (g L[i]) (by rw [List.getElem?_map, hx]; rfl)
      obtain ⟨ρ2, hput, hT, hI1, hE⟩ := turn i L[i] hx
      have htake : (L.take (i + 1)).flatMap (fun x => (M x).map (F x)) = (L.take i).flatMap (fun x => (M x).map (F x)) ++ (M L[i]).map (F L[i]) := by
        rw [List.take_add_one, hx, List.flatMap_append]
        simp
      have hbig : ((L.take i).flatMap M).length + (M L[i]).length ≤ 100000 := by
        have e : L.flatMap M = (L.take i).flatMap M ++ (M L[i] ++ (L.drop (i + 1)).flatMap M) := by
          conv => lhs; rw [← List.take_append_drop i L, List.drop_eq_getElem_cons hlt]
          rw [List.flatMap_append, List.flatMap_cons]
        rw [e, List.length_append, List.length_append] at hlen
        omega
      refine .inr ⟨go, fun H' => ∃ G3 acc, Ext G1 H1 G3 H' ∧ G3 D = none ∧ H' D = some (.lst acc) ∧ DqAll K G3 acc ((L.take (i + 1)).flatMap fun x => (M x).map (F x)), fun H' ⟨G3, ac, z⟩ => ⟨L.length - (i + 1), by omega, rfl, hlt, G3, ac, z⟩, fun x H3 hy => ?_⟩
      obtain ⟨G3, e3, dx⟩ := yl x H3 hy
      have keepD : forall {G2 H2 G4 H4 : Hp} {acc : List V}, G2 D = none -> H2 D = some (.lst acc) -> Ext G2 H2 G4 H4 -> G4 D = none ∧ H4 D = some (.lst acc) := fun gD hD2 e4 => ⟨by rw [e4.old D (by rw [hD2]; exact fun z => nomatch z)]; exact gD, e4.h _ _ hD2⟩
      have sW : Sta K G3 H3 (L2.wipe σ vs) (wipeR ρ vs) := ((s.ext e1).ext e2).wipe vs |>.ext e3
      refine Tg.rd_ok hput sW dx fun σ' s' hj => ⟨?_, ?_⟩
      · have hl : σ'.length = (L2.wipe σ vs).length := by rw [s'.len, tput_len hput, ← sW.len]
        rw [wipe_eq hl fun j hn => hj j fun z => hn (hsub j z), wipe_wipe]
      · refine hT σ' G3 H3 _ s' fun G4 H4 e4 => ?_
        rw [if_pos rfl]
        refine hI1 σ' G4 H4 _ (s'.ext e4) fun J1 G5 H5 e5 wk1 => ?_
        have e25 := (e3.trans e4).trans e5
        obtain ⟨k1, k2⟩ := keepD gD hD2 e25
        have e15 := e2.trans e25
        have s5 := (s'.ext e4).ext e5
        refine ⟨fun j m H6 => m = (M L[i]).length - j ∧ j ≤ (M L[i]).length ∧ ∃ G6 acc, Ext G1 H1 G6 H6 ∧ Same G5 G6 ∧ Sta K G6 H6 σ' ρ2 ∧ G6 D = none ∧ H6 D = some (.lst acc) ∧ DqAll K G6 acc ((L.take i).flatMap (fun x => (M x).map (F x)) ++ ((M L[i]).take j).map (F L[i])), ⟨_, rfl, Nat.zero_le _, G5, acc, e15, Same.refl _, s5, k1, k2, ?_⟩, fun j m2 H6 hW => ?_⟩
        · rw [List.take_zero, List.map_nil, List.append_nil]
          exact dv.mono e25.g
        · obtain ⟨rfl, hle6, G6, acc6, e16, sm6, s6, gD6, hD6, dv6⟩ := hW
          obtain ⟨wgo1, wstop1⟩ := wk1 G6 H6 sm6 s6.gh
          by_cases hlt1 : j < (M L[i]).length
          · have hx1 : (M L[i])[j]? = some (M L[i])[j] := List.getElem?_eq_getElem hlt1
            obtain ⟨go1, yl1⟩ := wgo1 j (g1 L[i] (M L[i])[j]) (by rw [List.getElem?_map, hx1]; rfl)
            obtain ⟨ρ3, hput1, hT1, hE1⟩ := hE j (M L[i])[j] hx1
            have htake1 : ((M L[i]).take (j + 1)).map (F L[i]) = ((M L[i]).take j).map (F L[i]) ++ [F L[i] (M L[i])[j]] := by
              rw [List.take_add_one, hx1, List.map_append]
              rfl
            refine .inr ⟨go1, fun H7 => ∃ G7 acc, Ext G1 H1 G7 H7 ∧ Same G5 G7 ∧ Sta K G7 H7 σ' ρ2 ∧ G7 D = none ∧ H7 D = some (.lst acc) ∧ DqAll K G7 acc ((L.take i).flatMap (fun x => (M x).map (F x)) ++ ((M L[i]).take (j + 1)).map (F L[i])), fun H7 ⟨G7, ac, z⟩ => ⟨(M L[i]).length - (j + 1), by omega, rfl, hlt1, G7, ac, z⟩, fun x1 H7 hy1 => ?_⟩
            obtain ⟨G7, e7, dx1⟩ := yl1 x1 H7 hy1
            have sW1 : Sta K G7 H7 (L2.wipe σ' vs1) (wipeR ρ2 vs1) := (s6.wipe vs1).ext e7
            refine Tg.rd_ok hput1 sW1 dx1 fun σ3 s3 hj3 => ⟨?_, ?_⟩
            · have hl : σ3.length = (L2.wipe σ' vs1).length := by rw [s3.len, tput_len hput1, ← sW1.len]
              rw [wipe_eq hl fun j hn => hj3 j fun z => hn (hsub1 j z), wipe_wipe]
            · refine hT1 σ3 G7 H7 _ s3 fun G8 H8 e8 => ?_
              rw [if_pos rfl]
              refine hE1 σ3 G8 H8 _ (s3.ext e8) fun v G9 H9 e9 dy => ?_
              have e69 := (e7.trans e8).trans e9
              obtain ⟨m1, m2⟩ := keepD gD6 hD6 e69
              have e19 := e16.trans e69
              have gh9 : Same G9 (upd H9 D (.lst (acc6 ++ [v]))) := fun b o z => by rw [upd_ne (ne_of_none z m1)]; exact e19.gh b o z
              refine ⟨acc6, m2, ?_, G9, acc6 ++ [v], ?_, sm6.trans e69.g, ?_, m1, upd_same, ?_⟩
              · rw [dv6.length, List.length_append, hfl, List.length_map, List.length_take]
                refine Nat.lt_of_lt_of_le ?_ (show 100000 ≤ sizeLine by decide)
                omega
              · exact ⟨e19.g, fun b o z => by rw [upd_ne (ne_of_none z hD)]; exact e19.h b o z, gh9, e19.old⟩
              · have s9 := s6.ext e69
                refine ⟨gh9, s9.len, fun i c hc => ?_, s9.apart⟩
                obtain ⟨ov, o1, o2⟩ := s9.at_ i c hc
                refine ⟨ov, o1, ?_⟩
                cases c with
                | any => trivial
                | raw v => exact o2
                | dat d => exact o2
                | fdc hs kvs => exact o2
                | pin v φ => exact o2
                | owx xs =>
                  obtain ⟨pp, u, r1, r2, r3, r4⟩ := o2
                  have hne : pp ≠ D := fun z => by
                    -- an own list stood before the new one was made
                    subst z
                    have hρ : ∃ xs0, ρ[i]? = some (.owx xs0) ∧ σ'[i]? = σ[i]? := by
                      obtain ⟨n1, n2⟩ := Tg.put_own hput hc
                      have n3 : ρ[i]? = some (.owx xs) ∧ i ∉ vs := by
                        have : forall (vs : List Nat) (ρ : Rho), (wipeR ρ vs)[i]? = some (.owx xs) -> ρ[i]? = some (.owx xs) ∧ i ∉ vs := fun vs => by
                          induction vs with
                          | nil => intro ρ h; exact ⟨h, by simp⟩
                          | cons a vs ih =>
                            intro ρ h
                            rcases set_get (show ((wipeR ρ vs).set a .any)[i]? = some (.owx xs) from h) with ⟨_, z⟩ | ⟨n, h⟩
                            · cases z
                            · obtain ⟨h1, h2⟩ := ih ρ h
                              exact ⟨h1, by simp; exact ⟨fun z => n z.symm, h2⟩⟩
                        exact this vs ρ n2
                      refine ⟨xs, n3.1, ?_⟩
                      rw [hj i n1, wipe_get, if_neg n3.2]
                    obtain ⟨xs0, h1, h2⟩ := hρ
                    obtain ⟨p0, u0, t1, t2, t3, _⟩ := (s.ext e1).owx h1
                    have : some (V.ref pp) = some (V.ref p0) := by
                      have q1 : σ'[i]? = some (some (V.ref pp)) := by rw [o1, r1]
                      rw [h2, t1] at q1
                      exact (Option.some.inj q1).symm
                    cases this
                    rw [hD] at t3
                    cases t3
                  exact ⟨pp, u, r1, r2, by rw [upd_ne hne]; exact r3, r4⟩
              · rw [htake1, ← List.append_assoc]
                exact (dv6.mono e69.g).append (.cons dy .nil)
          · have ej : j = (M L[i]).length := by omega
            refine .inl ⟨wstop1 j (by rw [List.length_map]; omega), G6, acc6, e16, gD6, hD6, ?_⟩
            rw [htake]
            rw [ej, List.take_length] at dv6
            exact dv6
    · have ei : i = L.length := by omega
      obtain ⟨_, wstop⟩ := wk G2 H2 e2.g e2.gh
      refine .inl ⟨wstop i (by rw [List.length_map]; omega), ?_⟩
      have eD : Ext G1 H1 (upd G2 D (.lst acc)) H2 := ⟨e2.g.trans (same_new gD), e2.h, fun b o z => by
        by_cases hb : b = D
        · subst hb; rw [upd_same] at z; cases z; exact hD2
        · rw [upd_ne hb] at z; exact e2.gh b o z, fun a ha => by rw [upd_ne (fun z => ha (by rw [z]; exact hD))]; exact e2.old a ha⟩
      refine q (.ref D) _ H2 (e1.trans eD) (.lst upd_same ?_)
      rw [ei, List.take_length] at dv
      exact dv.mono (same_new gD)
/-- y = [e for a in .. for b in ..] -/
theorem g1_setLc2 {α β : Type} (iy : Nat) (L : List α) (g : α -> PyData) (M : α -> List β) (g1 : α -> β -> PyData) (F : α -> β -> PyData) {T T1 : Tg} {scope : Scope} (own : List (Str × Nat)) (vs1 : List Nat) {y : Str} {py spos : Pos} (hi : GI X tg iter ρ (L.map g)) (hN : X.N.Nodup) (hlen : (L.flatMap M).length ≤ 100000)
    (hg : forall s H C cl fp, GTg (Blk X scope s H C cl fp) tg T) (hg1 : forall s H C cl fp, GTg (Blk X scope s H C cl fp) tg1 T1)
    (turn : forall (i : Nat) (x : α), L[i]? = some x -> ∃ ρ2, T.put (g x) (wipeR ρ (own.map (·.2))) = some ρ2 ∧ (forall s H C cl fp, GI (Blk X scope s H C cl fp) tg1 iter1 ρ2 ((M x).map (g1 x))) ∧
      forall (j : Nat) (z : β), (M x)[j]? = some z -> ∃ ρ3, T1.put (g1 x z) (wipeR ρ2 vs1) = some ρ3 ∧ forall s H C cl fp, GE (Blk X scope s H C cl fp) elt ρ3 (F x z))
    (h : Φ.nx (ρ.set iy (.dat (.list (L.flatMap fun x => (M x).map (F x))))))
    (hsw : swapsWith (.ListComp elt [⟨tg, iter, [], 0⟩, ⟨tg1, iter1, [], 0⟩] scope pos) (some (.Name y py)) spos.line X.env = pure true := by exact sw_true rfl rfl rfl (by decide +kernel)) (ok : blkC X.N X.env.scope scope own = true := by kernel_rfl) (hy : X.N[iy]? = some y := by rfl) (hyl : X.env.scope.names.lookup y = some .local := by rfl)
    (hsub : (T.sl.all fun j => (own.map (·.2)).contains j) = true := by rfl) (hsub1 : (T1.sl.all fun j => vs1.contains j) = true := by rfl) (hv : (vs1.all fun j => (own.map (·.2)).contains j) = true := by rfl) (hc : X.calm = true := by rfl) (hfs : forall x, foldedSetIterable iter X.env x = pure x := by intro _; rfl) (hfs1 : forall env x, foldedSetIterable iter1 env x = pure x := by intro _ _; rfl) :
    G1 X N (.Assign [.Name y py] (.ListComp elt [⟨tg, iter, [], 0⟩, ⟨tg1, iter1, [], 0⟩] scope pos) spos) ρ Φ := by
  obtain ⟨wi, hpi, hw⟩ := hi
  have hv' : forall j, j ∈ vs1 -> j ∈ own.map (·.2) := fun j hj => by simpa using List.all_eq_true.mp hv j hj
  have hs1' : forall j, j ∈ T1.sl -> j ∈ vs1 := fun j hj => by simpa using List.all_eq_true.mp hsub1 j hj
  refine g1_of (ps_setLc2 (own := own) (vs1 := vs1) (g := T.rd X.K) (g1 := T1.rd X.K) (wi1 := fun σ H R => forall s H' C cl fp, twI (Blk X scope s H' C cl fp) tg1 iter1 σ H R)
    (tt := fun σ H Q => Q true H) (tt1 := fun σ H Q => Q true H)
    (te := fun σ H Q => forall s H' C cl fp, tw (Blk X scope s H' C cl fp) elt σ H Q) hc hN hy hyl hsw hpi (blkOk_by ok) hv' (fun s H C cl fp => hg s H C cl fp) (fun s H C cl fp => pts_nil)
    (fun s H C cl fp => ⟨fun pins s' σ H' R I h => (h s H C cl fp pins s' I).run⟩) (fun s H C cl fp => hg1 s H C cl fp) (fun s H C cl fp => pts_nil) (fun s H C cl fp => ⟨fun pins s' σ H' Q I h => (h s H C cl fp pins s' I).run⟩) hfs hfs1) fun P σ H f => ?_
  refine f.ev (ev_lc2 L g M g1 F hw (sub_of hsub) hs1' hlen fun i x hx => ?_) fun v G H' e1 sp sta fr dv => ⟨_, ⟨G, e1, sp, sta.set iy dv, fresh_set fr⟩, h⟩
  obtain ⟨ρ2, hput, h2, h3⟩ := turn i x hx
  refine ⟨ρ2, hput, fun σ G H Q s q => q G H (.refl s.gh), fun σ G H R s q s0 H' C cl fp pins s' I => ?_, fun j z hz => ?_⟩
  · obtain ⟨wi1, hpi1, hw1⟩ := h2 s0 H' C cl fp
    exact ⟨hpi1.run pins s' σ H R I (hw1 σ G H R s q)⟩
  · obtain ⟨ρ3, hput3, hE⟩ := h3 j z hz
    exact ⟨ρ3, hput3, fun σ G H Q s q => q G H (.refl s.gh), fun σ G H Q s q s0 H' C cl fp => hE s0 H' C cl fp σ G H Q s q⟩
/-! ### x.extend(e) -/
theorem g1_extend (i : Nat) {x : Str} {p1 p2 p3 : Pos} {fs : List PyData} (ho : ρ[i]? = some (.own ds)) (he : GE X e ρ (.list fs)) (hz : ds.length + fs.length ≤ 100000) (h : Φ.nx (ρ.set i (.own (ds ++ fs)))) (hi : X.N[i]? = some x := by rfl) (hv : Vis X.env.scope x := by first | exact Or.inl rfl | exact Or.inr (Or.inl rfl) | exact Or.inr (Or.inr rfl)) (hd : (x == ("__debug__" : Str)) = false := by decide) (hcd : (x == ("__classdict__" : Str)) = false := by decide)
    (hbase : attributeBase (.Name x p1) "extend" X.env (eval (.Name x p1) X.env) = eval (.Name x p1) X.env := by rfl)
    (hfew : ((backTo p3 (starEach (e :: []) X.env)).all (fun x => !x.1) && (backToKw p3 (keywordEach [] X.env)).all (fun x => x.1.isSome) && decide ((e :: []).length + ([] : List Keyword).length + (if ([] : List Keyword).isEmpty then 0 else 1) < 30)) = true := by rfl)
    (hline : (p2.endLine == p3.line) = true := by rfl) (hs1 : starEach (e :: []) X.env = (false, eval e X.env) :: starEach [] X.env := by rfl) (hplain : (backTo p3 (starEach [] X.env)).any (·.1) = false := by rfl)
    (hs : swapsWith (.Call (.Attribute (.Name x p1) "extend" p2) [e] [] p3) none pos.line X.env = pure false := by rfl) : G1 X N (.Expr (.Call (.Attribute (.Name x p1) "extend" p2) [e] [] p3) pos) ρ Φ :=
  g1_of (ps_expr (pe_bm PySem.F.plainAttrs_list PySem.F.slot_list_extend PySem.F.type_list_extend mt_extend (pe_var hi hv hd hcd) (pa_cons pe_tw pa_nil hs1) hbase hfew hline hs1 hplain) hs) fun P σ H f => by
    obtain ⟨G, e0, sp, sta, fr⟩ := f
    obtain ⟨p, vs, o1, o2, o3, o4⟩ := sta.own ho
    refine ⟨.ref p, o1, .inl ⟨rfl, _, .inl (.inl o3)⟩, ?_⟩
    refine he σ G H _ sta fun v G' H' e1 dv => ?_
    have sta' := sta.ext e1
    obtain ⟨p', vs', r1, r2, r3, r4⟩ := sta'.own ho
    rw [o1] at r1
    cases r1
    cases dv with
    | lst s1 a1 =>
      refine ⟨p, _, vs', _, rfl, rfl, r3, e1.gh _ _ s1, by rw [r4.length, a1.length]; exact Nat.le_trans hz (by decide), ?_⟩
      exact ⟨_, ⟨G', mut_ext (e0.trans e1) r2 (fr i _ p ho o1), sp.trans e1.g, sta'.mutOwn ho o1 (r4.append a1), fresh_mut ho fr⟩, h⟩
/-! ### sep.join([..]) -/
def joinL (sep : List Nat) : List (List Nat) -> List Nat
  | [] => []
  | [x] => x
  | x :: y :: r => x ++ sep ++ joinL sep (y :: r)
theorem join_S (sep : List Nat) : forall ys : List (List Nat), Txt.join (S sep) (ys.map S) = S (joinL sep ys) := fun ys => by
  show Builtin.Str.glued (S sep) (ys.map S) = _
  rw [StrLaws.glued_eq_join]
  induction ys with
  | nil => rfl
  | cons x ys ih =>
    cases ys with
    | nil => rfl
    | cons y r =>
      show (S x ++ S sep ++ Str.join (S sep) ((y :: r).map S)) = _
      rw [ih, S_app, S_app]
      rfl
theorem join_signs : forall l : List Nat, joinL [] (l.map fun c => [c]) = l
  | [] => rfl
  | [x] => rfl
  | x :: y :: r => by
    show [x] ++ [] ++ joinL [] ((y :: r).map fun c => [c]) = _
    rw [join_signs (y :: r)]
    rfl
theorem ge_join {apos : Pos} {sep : List Nat} {ys : List (List Nat)} (ha : GE X a ρ (.str (S sep))) (hb : GE X b ρ (.list (ys.map fun y => .str (S y)))) (hz : (ys.map (·.length)).sum + ys.length * sep.length ≤ 100000) (hs : starEach [b] X.env = [(false, eval b X.env)] := by rfl) (hbase : attributeBase a "join" X.env (eval a X.env) = eval a X.env := by rfl) (hline : (apos.endLine == pos.line) = true := by rfl) :
    GE X (.Call (.Attribute a "join" apos) [b] [] pos) ρ (.str (S (joinL sep ys))) :=
  ge_m1 PySem.F.slot_str_join PySem.F.type_str_join mt_join ha hb (fun v G H Q gh dv q => by
    cases dv with
    | lst s1 a1 =>
      have e : (ys.map fun y => PyData.str (S y)) = (ys.map S).map PyData.str := by rw [List.map_map]; rfl
      rw [e] at a1
      have e2 := a1.strs
      subst e2
      refine ⟨S sep, _, ys.map S, rfl, rfl, .inl (.inl (.inl (gh _ _ s1))), ?_, ?_⟩
      · rw [List.map_map, List.length_map, S_len]
        have e3 : (ys.map ((fun x => x.length) ∘ S)) = ys.map (·.length) := List.map_congr_left fun y _ => S_len y
        rw [e3]
        omega
      · rw [join_S]
        exact q _ G H (.refl gh) (.str _)) hs hbase hline
theorem sum_singles : forall l : List Nat, ((l.map fun c => [c]).map (·.length)).sum = l.length
  | [] => rfl
  | c :: l => by
    rw [List.map_cons, List.map_cons, List.sum_cons, sum_singles l]
    simp
    omega
theorem ge_joinC {apos : Pos} {l : List Nat} (ha : GE X a ρ (.str (S []))) (hb : GE X b ρ (.list (l.map fun c => .str (S [c])))) (hz : l.length ≤ 100000) (hs : starEach [b] X.env = [(false, eval b X.env)] := by rfl) (hbase : attributeBase a "join" X.env (eval a X.env) = eval a X.env := by rfl) (hline : (apos.endLine == pos.line) = true := by rfl) :
    GE X (.Call (.Attribute a "join" apos) [b] [] pos) ρ (.str (S l)) := by
  have h := ge_join (X := X) (ρ := ρ) (pos := pos) (apos := apos) (sep := []) (ys := l.map fun c => [c]) ha (by rw [List.map_map]; exact hb) (by
    rw [sum_singles]
    simp
    omega) hs hbase hline
  rw [join_signs] at h
  exact h
end
end Gd

namespace Gd
open PySem PySem.Spec L2
/-! ### expressions that fill a dict -/
/-- the heap without what stands at q -/
def less (H : Hp) (q : Addr) : Hp := fun b => if b = q then none else H b
theorem less_ne {H : Hp} {q b : Addr} (h : b ≠ q) : less H q b = H b := if_neg h
theorem less_at {H : Hp} {q : Addr} : less H q q = none := if_pos rfl
theorem less_some {H : Hp} {q b : Addr} {o : HO} (h : less H q b = some o) : b ≠ q ∧ H b = some o := by
  by_cases hb : b = q
  · rw [hb, less_at] at h; cases h
  · rw [less_ne hb] at h; exact ⟨hb, h⟩
section
variable {X : Cx} {N : En} {st : Stmt} {e a b c : Expr} {es : List Expr} {ρ ρ' ρ1 : Rho} {d d1 d2 : PyData} {ds : List PyData} {pos pos' p p2 : Pos} {Φ : Post} {k : Bool} {K : PySem.W.Frag} {P G H G' H' : Hp} {σ : L2.St} {q : Addr}
theorem Sta.fill {i : Nat} {x y : Own} {u : HO} (s : Sta K G H σ ρ) (hi : ρ[i]? = some (.owx x)) (hp : σ[i]? = some (some (.ref q))) (e : Ext G (less H q) G' H') (g0 : G' q = none) (h0 : H' q = some u) (ok : OwnOk K G' q u y) : Sta K G' H' σ (ρ.set i (.owx y)) := by
  refine ⟨e.gh, by rw [List.length_set]; exact s.len, fun j c hc => ?_, fun a b r xs ys h1 h2 h3 h4 => ?_⟩
  · rcases set_get hc with ⟨rfl, rfl⟩ | ⟨hij, hc⟩
    · exact ⟨_, hp, q, u, rfl, g0, h0, ok⟩
    · obtain ⟨ov, o1, o2⟩ := s.at_ j c hc
      refine ⟨ov, o1, ?_⟩
      cases c with
      | any => trivial
      | raw v => exact o2
      | dat d =>
        obtain ⟨v, r1, r2⟩ := o2
        exact ⟨v, r1, r2.mono e.g⟩
      | fdc hs kvs =>
        obtain ⟨r, ob, r1, r2, r3⟩ := o2
        exact ⟨r, ob, r1, e.g _ _ r2, r3.mono e.g⟩
      | pin v φ =>
        obtain ⟨r1, G0, r2, r3⟩ := o2
        exact ⟨r1, G0, r2.trans e.g, r3⟩
      | owx xs =>
        obtain ⟨r, ws, r1, r2, r3, r4⟩ := o2
        subst r1
        have n : r ≠ q := fun z => by
          subst z
          exact hij (s.apart i j r _ _ hi hc hp o1)
        have hl : less H q r = some ws := by rw [less_ne n]; exact r3
        exact ⟨r, ws, rfl, by rw [e.old r (by rw [hl]; exact fun z => nomatch z)]; exact r2, e.h _ _ hl, r4.mono e.g⟩
  · have fix : forall (j : Nat) (ys : Own), (ρ.set i (.owx y))[j]? = some (.owx ys) -> ∃ zs, ρ[j]? = some (.owx zs) := fun j ys h => by
      rcases set_get h with ⟨rfl, _⟩ | ⟨_, o⟩
      · exact ⟨_, hi⟩
      · exact ⟨ys, o⟩
    obtain ⟨z1, f1⟩ := fix a xs h1
    obtain ⟨z2, f2⟩ := fix b ys h2
    exact s.apart a b r z1 z2 f1 f2 h3 h4
theorem ExN.fill (e0 : ExN N G H) (e : Ext G (less H q) G' H') (hq : N.h q = none) : ExN N G' H' := by
  refine ⟨⟨e0.g.trans e.g, fun b o z => ?_, e.gh, fun x hx => ?_⟩, e0.pin.trans e.g⟩
  · have n : b ≠ q := ne_of_none z hq
    exact e.h b o (by rw [less_ne n]; exact e0.h b o z)
  · have n : x ≠ q := fun z => hx (by rw [z]; exact hq)
    have h1 : H x ≠ none := fun z => by
      cases hn : N.h x with
      | none => exact hx hn
      | some o => rw [e0.h x o hn] at z; cases z
    rw [e.old x (by rw [less_ne n]; exact h1), e0.old x hx]
def FrV (K : PySem.W.Frag) (N : En) (P : Hp) (σ : L2.St) (H : Hp) (ρ : Rho) (v : V) (d : PyData) : Prop :=
  ∃ G, ExN N G H ∧ Same P G ∧ Sta K G H σ ρ ∧ (forall (i : Nat) (ds : Own) (p : Addr), ρ[i]? = some (.owx ds) -> σ[i]? = some (some (.ref p)) -> N.h p = none) ∧ Dq K G v d
/-- e is worth d, and the slots are as A says behind it -/
def GEM (X : Cx) (N : En) (e : Expr) (ρ : Rho) (d : PyData) (A : Rho -> Prop) : Prop := forall (P : Hp) (σ : L2.St) (H : Hp) (Q : VK), Fr X.K N P σ H ρ -> (forall v H' ρ', A ρ' -> FrV X.K N P σ H' ρ' v d -> Q v H') -> tw X e σ H Q
def GTM (X : Cx) (N : En) (e : Expr) (ρ : Rho) (k : Bool) (A : Rho -> Prop) : Prop := forall (P : Hp) (σ : L2.St) (H : Hp) (Q : Bool -> Hp -> Prop), Fr X.K N P σ H ρ -> (forall H' ρ', A ρ' -> Fr X.K N P σ H' ρ' -> Q k H') -> twT X e σ H Q
def GWM (X : Cx) (N : En) (e : Expr) (ρ : Rho) (k : Bool) (A : Rho -> Prop) : Prop := forall (P : Hp) (σ : L2.St) (H : Hp) (Q : Bool -> Hp -> Prop), Fr X.K N P σ H ρ -> (forall H' ρ', A ρ' -> Fr X.K N P σ H' ρ' -> Q k H') -> twW X e σ H Q
variable {A B : Rho -> Prop}
theorem gem_of {t : TE} (h : PE X e t) (hv : forall (P : Hp) (σ : L2.St) (H : Hp) (Q : VK), Fr X.K N P σ H ρ -> (forall v H' ρ', A ρ' -> FrV X.K N P σ H' ρ' v d -> Q v H') -> t σ H Q) : GEM X N e ρ d A := fun P σ H Q f q pins s I => ⟨h.run pins s σ H Q I (hv P σ H Q f q)⟩
theorem gtm_of {t : TT} (h : PT X e t) (hv : forall (P : Hp) (σ : L2.St) (H : Hp) (Q : Bool -> Hp -> Prop), Fr X.K N P σ H ρ -> (forall H' ρ', A ρ' -> Fr X.K N P σ H' ρ' -> Q k H') -> t σ H Q) : GTM X N e ρ k A := fun P σ H Q f q pins s I => ⟨h.run pins s σ H Q I (hv P σ H Q f q)⟩
theorem gwm_of {t : TT} (h : PW X e t) (hv : forall (P : Hp) (σ : L2.St) (H : Hp) (Q : Bool -> Hp -> Prop), Fr X.K N P σ H ρ -> (forall H' ρ', A ρ' -> Fr X.K N P σ H' ρ' -> Q k H') -> t σ H Q) : GWM X N e ρ k A := fun P σ H Q f q wh pins s I => ⟨h.run wh pins s σ H Q I (hv P σ H Q f q)⟩
theorem FrV.fr {v : V} (h : FrV K N P σ H ρ v d) : Fr K N P σ H ρ := by
  obtain ⟨G, e1, sp, sta, fr, _⟩ := h
  exact ⟨G, e1, sp, sta, fr⟩
theorem gem_pure (he : GE X e ρ d) : GEM X N e ρ d (· = ρ) := fun P σ H Q f q => f.ev he fun v G H' e1 sp sta fr dv => q v H' ρ rfl ⟨G, e1, sp, sta, fr, dv⟩
theorem gtm_pure (he : GT X e ρ k) : GTM X N e ρ k (· = ρ) := fun P σ H Q f q => f.evT he fun H' f' => q H' ρ rfl f'
theorem gem_is (h : GEM X N e ρ d A) (z : d = d1) : GEM X N e ρ d1 A := z ▸ h
theorem gtm_is {k' : Bool} (h : GTM X N e ρ k A) (z : k = k') : GTM X N e ρ k' A := z ▸ h
theorem gem_mono (h : GEM X N e ρ d A) (hB : forall ρ, A ρ -> B ρ) : GEM X N e ρ d B := fun P σ H Q f q => h P σ H Q f fun v H' ρ' hA fv => q v H' ρ' (hB _ hA) fv
theorem gtm_mono (h : GTM X N e ρ k A) (hB : forall ρ, A ρ -> B ρ) : GTM X N e ρ k B := fun P σ H Q f q => h P σ H Q f fun H' ρ' hA fv => q H' ρ' (hB _ hA) fv
theorem op_fill {r : R2} {ta tb : TE} {Q : VK} (hr : RVD X.K r d1 d2 d) (f : Fr X.K N P σ H ρ) (ha : GEM X N a ρ d1 A) (hb : forall ρ1, A ρ1 -> GEM X N b ρ1 d2 B) (q : forall v H' ρ', B ρ' -> FrV X.K N P σ H' ρ' v d -> Q v H') : tOp r (tw X a) (tw X b) σ H Q :=
  ha P σ H _ f fun v1 H1 ρ1 hA ⟨G1, e1, sp1, sta1, fr1, dv1⟩ => hb ρ1 hA G1 σ H1 _ ⟨G1, e1, Same.refl _, sta1, fr1⟩ fun v2 H2 ρ2 hB ⟨G2, e2, sp2, sta2, fr2, dv2⟩ =>
    hr v1 v2 G2 H2 Q sta2.gh (dv1.mono sp2) dv2 fun v G3 H3 e3 h3 => q v H3 ρ2 hB ⟨G3, e2.trans e3, (sp1.trans sp2).trans e3.g, sta2.ext e3, fr2, h3⟩
theorem gem_bin {op : Operator} (ha : GEM X N a ρ d1 A) (hb : forall ρ1, A ρ1 -> GEM X N b ρ1 d2 B) (h : BinD X op d1 d2 d) : GEM X N (.BinOp a op b pos) ρ d B := by
  obtain ⟨r, ho, hr⟩ := h
  exact gem_of (pe_op ho pe_tw pe_tw) fun P σ H Q f q => op_fill (ta := tw X a) (tb := tw X b) hr f ha hb q
theorem gtm_cmp {op : CmpOp} (ha : GEM X N a ρ d1 A) (hb : forall ρ1, A ρ1 -> GEM X N b ρ1 d2 B) (h : CmpD X op d1 d2 k) (hm : behindInMarks op b = false := by first | exact nomark _ | rfl) : GTM X N (.Compare a [op] [b] pos) ρ k B := by
  obtain ⟨r, ho, hr⟩ := h
  exact gtm_of (pt_cmpR ho pe_tw pe_tw hm) fun P σ H Q f q => op_fill (ta := tw X a) (tb := tw X b) hr f ha hb fun v H' ρ' hB fv => by
    have fv' := fv
    obtain ⟨G, _, _, _, _, dv⟩ := fv
    cases dv
    exact ⟨k, rfl, q H' ρ' hB fv'.fr⟩
theorem gtm_w (h : GWM X N e ρ k A) : GTM X N e ρ k A := gtm_of pw_tw.pt h
theorem gwm_and1 (h : GTM X N a ρ k A) : GWM X N (.BoolOp .And [a] pos) ρ k A := gwm_of (pw_and1 pt_tw) h
theorem gwm_and {k' : Bool} {rest : List Expr} (ha : GTM X N a ρ k A) (hb : k = true -> forall ρ1, A ρ1 -> GWM X N (.BoolOp .And (b :: rest) pos) ρ1 k' B) (hn : k = false -> forall ρ1, A ρ1 -> B ρ1) : GWM X N (.BoolOp .And (a :: b :: rest) pos) ρ (k && k') B :=
  gwm_of (pw_and pt_tw pw_tw) fun P σ H Q f q => ha P σ H _ f fun H1 ρ1 hA f1 => by
    cases k with
    | true =>
      rw [if_pos rfl]
      exact hb rfl ρ1 hA P σ H1 _ f1 fun H2 ρ2 hB f2 => q H2 ρ2 hB f2
    | false =>
      rw [if_neg Bool.false_ne_true]
      exact q H1 ρ1 (hn rfl ρ1 hA) f1
theorem gem_if {c : Expr} (hc : GT X c ρ k) (ha : k = true -> GEM X N a ρ d A) (hb : k = false -> GEM X N b ρ d A) : GEM X N (.IfExp c a b pos) ρ d A :=
  gem_of (pe_ifExp pt_tw pe_tw pe_tw) fun P σ H Q f q => f.evT hc fun H1 f1 => by
    cases k with
    | true => rw [if_pos rfl]; exact ha rfl P σ H1 _ f1 q
    | false => rw [if_neg Bool.false_ne_true]; exact hb rfl P σ H1 _ f1 q
/-! ### statements -/
theorem g1_setM (i : Nat) {x : Str} (he : GEM X N e ρ d A) (h : forall ρ1, A ρ1 -> Φ.nx (ρ1.set i (.dat d))) (hN : X.N.Nodup) (hi : X.N[i]? = some x := by rfl) (hx : Loc X.env.scope x := by first | exact Or.inl rfl | exact Or.inr rfl) (hs : swapsWith e (some (.Name x pos')) pos.line X.env = pure false := by rfl)
    (hf : X.fn x = true ∨ X.env.scope.names.lookup x = some .local := by first | exact .inl rfl | exact .inr rfl | assumption) : G1 X N (.Assign [.Name x pos'] e pos) ρ Φ :=
  g1_of (ps_set hN hi hx pe_tw hs hf) fun P σ H f => he P σ H _ f fun v H' ρ1 hA ⟨G, e1, sp, sta, fr, dv⟩ => ⟨_, ⟨G, e1, sp, sta.set i dv, fresh_set fr⟩, h ρ1 hA⟩
theorem g1_retM (he : GEM X N e ρ d A) (h : Φ.rt d) (hm : forall ρ1, A ρ1 -> MRet ρ1 Φ.mm) : G1 X N (.Return (some e) pos) ρ Φ :=
  g1_of (ps_ret pe_tw) fun P σ H f => he P σ H _ f fun v H' ρ1 hA ⟨G, e1, sp, sta, fr, dv⟩ => ⟨d, ⟨G, e1, sp, dv, (hm ρ1 hA).ok sta⟩, h⟩
theorem g1_ifM {c : Expr} {body orelse : List Stmt} (hc : GTM X N c ρ k A) (ht : k = true -> forall ρ1, A ρ1 -> GS X N body ρ1 Φ) (hf : k = false -> forall ρ1, A ρ1 -> GS X N orelse ρ1 Φ) : G1 X N (.If c body orelse pos) ρ Φ :=
  g1_of (ps_if pt_tw pss_tw pss_tw) fun P σ H f => hc P σ H _ f fun H' ρ1 hA f' => by
    cases k with
    | true => rw [if_pos rfl]; exact ht rfl ρ1 hA P σ H' f'
    | false => rw [if_neg Bool.false_ne_true]; exact hf rfl ρ1 hA P σ H' f'
theorem g1_whileM {c : Expr} {body : List Stmt} (I : Nat -> Rho -> Prop) (m0 : Nat) (h0 : I m0 ρ)
    (hs : forall (m : Nat) (ρ1 : Rho), I m ρ1 -> ∃ k A, GTM X N c ρ1 k A ∧ (k = true -> forall ρ2, A ρ2 -> GS X N body ρ2 { Φ with nx := fun ρ2 => ∃ m', m' < m ∧ I m' ρ2, ct := fun ρ2 => ∃ m', m' < m ∧ I m' ρ2, bk := Φ.nx }) ∧ (k = false -> forall ρ2, A ρ2 -> Φ.nx ρ2))
    (hp : PassesOwn (model X.prog X.w) X.A X.env X.xe) : G1 X N (.While c body [] pos) ρ Φ := by
  refine g1_of (ps_while hp pt_tw pss_tw) fun P σ H f => ?_
  refine ⟨fun m σ H => ∃ ρ1, Fr X.K N P σ H ρ1 ∧ I m ρ1, ⟨m0, ρ, f, h0⟩, fun m σ1 H1 hW => ?_⟩
  obtain ⟨ρ1, f1, i1⟩ := hW
  obtain ⟨k, A, hc, ht, hf⟩ := hs m ρ1 i1
  refine hc P σ1 H1 _ f1 fun H' ρ2 hA f' => ?_
  cases k with
  | true =>
    rw [if_pos rfl]
    refine ⟨fun σ' H' => ∃ ρ2, Fr X.K N P σ' H' ρ2 ∧ ∃ m', m' < m ∧ I m' ρ2, fun σ' H' hN => ?_, ht rfl ρ2 hA P σ1 H' f'⟩
    obtain ⟨ρ2, f2, m', hm, i2⟩ := hN
    exact ⟨m', hm, ρ2, f2, i2⟩
  | false =>
    rw [if_neg Bool.false_ne_true]
    exact ⟨ρ2, f', hf rfl ρ2 hA⟩
theorem g1_appendM (i : Nat) {x : Str} {p1 p2 p3 : Pos} (ho : ρ[i]? = some (.own ds)) (he : GEM X N e ρ d A) (hk : forall ρ1, A ρ1 -> ρ1[i]? = some (.own ds)) (hz : ds.length < 100000) (h : forall ρ1, A ρ1 -> Φ.nx (ρ1.set i (.own (ds ++ [d])))) (hi : X.N[i]? = some x := by rfl) (hv : Vis X.env.scope x := by first | exact Or.inl rfl | exact Or.inr (Or.inl rfl) | exact Or.inr (Or.inr rfl)) (hd : (x == ("__debug__" : Str)) = false := by decide) (hcd : (x == ("__classdict__" : Str)) = false := by decide)
    (hbase : attributeBase (.Name x p1) "append" X.env (eval (.Name x p1) X.env) = eval (.Name x p1) X.env := by rfl)
    (hfew : ((backTo p3 (starEach (e :: []) X.env)).all (fun x => !x.1) && (backToKw p3 (keywordEach [] X.env)).all (fun x => x.1.isSome) && decide ((e :: []).length + ([] : List Keyword).length + (if ([] : List Keyword).isEmpty then 0 else 1) < 30)) = true := by rfl)
    (hline : (p2.endLine == p3.line) = true := by rfl) (hs1 : starEach (e :: []) X.env = (false, eval e X.env) :: starEach [] X.env := by rfl) (hplain : (backTo p3 (starEach [] X.env)).any (·.1) = false := by rfl)
    (hs : swapsWith (.Call (.Attribute (.Name x p1) "append" p2) [e] [] p3) none pos.line X.env = pure false := by rfl) : G1 X N (.Expr (.Call (.Attribute (.Name x p1) "append" p2) [e] [] p3) pos) ρ Φ :=
  g1_of (ps_expr (pe_bm PySem.F.plainAttrs_list PySem.F.slot_list_append PySem.F.type_list_append mt_append (pe_var hi hv hd hcd) (pa_cons pe_tw pa_nil hs1) hbase hfew hline hs1 hplain) hs) fun P σ H f => by
    have f0 := f
    obtain ⟨G, e0, sp, sta, fr⟩ := f0
    obtain ⟨p, vs, o1, o2, o3, o4⟩ := sta.own ho
    refine ⟨.ref p, o1, .inl ⟨rfl, _, .inl (.inl o3)⟩, ?_⟩
    refine he P σ H _ f fun v H' ρ1 hA ⟨G', e1, sp1, sta', fr', dv⟩ => ?_
    obtain ⟨p', vs', r1, r2, r3, r4⟩ := sta'.own (hk ρ1 hA)
    rw [o1] at r1
    cases r1
    refine ⟨p, vs', v, rfl, rfl, r3, by rw [r4.length]; exact Nat.lt_of_lt_of_le hz (by decide), ?_⟩
    exact ⟨_, ⟨G', mut_ext e1 r2 (fr' i _ p (hk ρ1 hA) o1), sp1, sta'.mutOwn (hk ρ1 hA) o1 (r4.append (.cons dv .nil)), fresh_mut (hk ρ1 hA) fr'⟩, h ρ1 hA⟩
/-- x[k] = e, x the caller's dict -/
theorem g1_mput (i : Nat) {x : Str} {kvs : List (PyData × PyData)} {k : PyData} {p1 p2 : Pos} (hu : X.A.units + 64 < cLine) (hk : GE X b ρ k) (he : GE X e ρ d) (hkey : isKey k = true) (hz : kvs.length < 1000000) (h : Φ.nx (ρ.set i (.owx (.memo q (hsW X.w) (dPut kvs k d))))) (ho : ρ[i]? = some (.owx (.memo q (hsW X.w) kvs)) := by rfl) (hi : X.N[i]? = some x := by rfl) (hv : Vis X.env.scope x := by first | exact Or.inl rfl | exact Or.inr (Or.inl rfl) | exact Or.inr (Or.inr rfl)) (hd : (x == ("__debug__" : Str)) = false := by decide) (hcd : (x == ("__classdict__" : Str)) = false := by decide)
    (hs : swapsWith e (some (.Subscript (.Name x p1) b p2)) pos.line X.env = pure false := by rfl) : G1 X N (.Assign [.Subscript (.Name x p1) b p2] e pos) ρ Φ :=
  g1_of (ps_xdput hu (pe_var hi hv hd hcd) pe_tw pe_tw hs) fun P σ H f => by
    obtain ⟨G, e0, sp, sta, fr⟩ := f
    refine he σ G H _ sta fun v G1 H1 e1 dv => ?_
    obtain ⟨p, u, o1, o2, o3, eq, ob, rfl, o4⟩ := (sta.ext e1).owx ho
    refine ⟨.ref p, o1, hk σ G1 H1 _ (sta.ext e1) fun y G2 H2 e2 dk => ?_⟩
    obtain ⟨b', rfl⟩ := dk.key hkey
    have sta2 := (sta.ext e1).ext e2
    obtain ⟨p', u', r1, r2, r3, eq', ob', rfl, xs, hdo, ent⟩ := sta2.owx ho
    rw [o1] at r1
    cases r1
    refine ⟨p, b', xs, nk k, rfl, rfl, ⟨⟨ob', r3, hdo⟩, ent.keys e2.gh⟩, by rw [ent.len]; exact hz, ⟨k, dk.mono e2.gh, hkey, rfl⟩, fun o' u ru hd' => ?_⟩
    exact ⟨_, ⟨G2, mut_ext ((e0.trans e1).trans e2) r2 (fr i _ p ho o1), (sp.trans e1.g).trans e2.g, sta2.mutOwx (y := .memo q (hsW X.w) (dPut kvs k d)) ho o1 ⟨eq', o', rfl, _, hd', ent.put dk hkey ru (dv.mono e2.g)⟩, fresh_mut ho fr⟩, h⟩
end
/-! ### defs that fill a dict of the caller's: their last parameter -/
abbrev RelM := List PyData -> (List (PyData × PyData) -> Prop) -> PyData -> Prop
def spM (K : PySem.W.Frag) (hs : NestedKey -> Int) (R : RelM) : Sp := fun vs H Q E => ∃ G ds q o kvs I d ws, Same G H ∧ vs = ws ++ [.ref q] ∧ DqAll K G ws ds ∧ G q = none ∧ H q = some (dR q o) ∧ DicV K G hs q o kvs ∧ I kvs ∧ R ds I d ∧
  forall v G' H', Ext G (less H q) G' H' -> MemOk K G' H' (some ⟨q, hs, I⟩) -> Dq K G' v d -> Q v H'
structure CanM (P : Program) (w : World) (K : PySem.W.Frag) (mg : Str -> Option Value) (base : Heap) (k : Nat) (x : Str) (R : RelM) : Prop where
  ex : ∃ f fd ps, mg x = some (.ref f) ∧ PySem.W.keepIn K (.ref f) = true ∧ Binds K fd ps [] ∧ FnOk P w K mg base (L2.CX P w) k f fd ps (spM K (hsW w) R)
theorem CanM.mono {P : Program} {w : World} {K : PySem.W.Frag} {mg : Str -> Option Value} {base : Heap} {j k : Nat} {x : Str} {R : RelM} (c : CanM P w K mg base j x R) (h : j ≤ k) : CanM P w K mg base k x R := by
  obtain ⟨f, fd, ps, a, b, d, e⟩ := c.ex
  exact ⟨f, fd, ps, a, b, d, e.mono h⟩
theorem CanM.imp {P : Program} {w : World} {K : PySem.W.Frag} {mg : Str -> Option Value} {base : Heap} {k : Nat} {x : Str} {R R' : RelM} (c : CanM P w K mg base k x R) (h : forall ds I d, R' ds I d -> R ds I d) : CanM P w K mg base k x R' := by
  obtain ⟨f, fd, ps, a, b, d, e⟩ := c.ex
  exact ⟨f, fd, ps, a, b, d, e.imp fun vs H Q E ⟨G, ds, q, o, kvs, I, d, ws, h1, h2, h3, h4, h5, h6, h7, h8, h9⟩ => ⟨G, ds, q, o, kvs, I, d, ws, h1, h2, h3, h4, h5, h6, h7, h _ _ _ h8, h9⟩⟩
def startM (n : Nat) (ds : List PyData) (q : Addr) (hs : NestedKey -> Int) (kvs : List (PyData × PyData)) : Rho := ds.map Cell.dat ++ .owx (.memo q hs kvs) :: List.replicate (n - (ds.length + 1)) .any
theorem sta_startM {K : PySem.W.Frag} {G H : Hp} {ws : List V} {ds : List PyData} {Nm : List Str} {q : Addr} {o : Obj} {hs : NestedKey -> Int} {kvs : List (PyData × PyData)} (gh : Same G H) (dv : DqAll K G ws ds) (g0 : G q = none) (h0 : H q = some (dR q o)) (dq : DicV K G hs q o kvs) :
    Sta K G H (start Nm (ws ++ [.ref q])) (startM Nm.length ds q hs kvs) ∧ forall (i : Nat) (es : Own), (startM Nm.length ds q hs kvs)[i]? = some (.owx es) -> i = ds.length ∧ (start Nm (ws ++ [.ref q]))[i]? = some (some (.ref q)) := by
  have hl := dv.length
  have st1 : forall i, i = ds.length -> (start Nm (ws ++ [.ref q]))[i]? = some (some (.ref q)) := fun i hi => by
    subst hi
    unfold L2.start
    rw [List.getElem?_append_left (by simp [hl]), List.getElem?_map, List.getElem?_append_right (by omega), hl, Nat.sub_self]
    rfl
  have own : forall (i : Nat) (es : Own), (startM Nm.length ds q hs kvs)[i]? = some (.owx es) -> i = ds.length := fun i es h => by
    unfold startM at h
    by_cases hi : i < ds.length
    · rw [List.getElem?_append_left (by simpa using hi), List.getElem?_map] at h
      cases hd : ds[i]? with
      | none => rw [hd] at h; cases h
      | some d => rw [hd] at h; cases h
    · rw [List.getElem?_append_right (by simpa using hi), List.length_map] at h
      cases hj : i - ds.length with
      | zero => omega
      | succ j =>
        rw [hj, List.getElem?_cons_succ, List.getElem?_replicate] at h
        split at h <;> cases h
  refine ⟨⟨gh, ?_, fun i c hc => ?_, fun i j p es fs h1 h2 _ _ => (own i es h1).trans (own j fs h2).symm⟩, fun i es h => ⟨own i es h, st1 i (own i es h)⟩⟩
  · unfold L2.start startM
    simp [hl]
  · unfold startM at hc
    have hlen : i < (List.map Cell.dat ds ++ Cell.owx (.memo q hs kvs) :: List.replicate (Nm.length - (ds.length + 1)) Cell.any).length := (List.getElem?_eq_some_iff.mp hc).1
    by_cases hi : i < ds.length
    · rw [List.getElem?_append_left (by simpa using hi), List.getElem?_map] at hc
      cases hd : ds[i]? with
      | none => rw [hd] at hc; cases hc
      | some d =>
        rw [hd] at hc
        cases hc
        obtain ⟨v, hv, dq⟩ := dv.get hd
        refine ⟨some v, ?_, v, rfl, dq⟩
        unfold L2.start
        rw [List.getElem?_append_left (by simp [hl]; omega), List.getElem?_map, List.getElem?_append_left (by omega), hv]
        rfl
    · rw [List.getElem?_append_right (by simpa using hi), List.length_map] at hc
      cases hj : i - ds.length with
      | zero =>
        rw [hj] at hc
        cases hc
        exact ⟨_, st1 i (by omega), q, dR q o, rfl, g0, h0, rfl, o, rfl, dq⟩
      | succ j =>
        rw [hj, List.getElem?_cons_succ, List.getElem?_replicate] at hc
        split at hc
        · cases hc
          have : i < (start Nm (ws ++ [.ref q])).length := by
            unfold L2.start
            simp only [List.length_append, List.length_map, List.length_replicate, List.length_cons, List.length_nil] at hlen ⊢
            omega
          exact ⟨_, List.getElem?_eq_getElem this, trivial⟩
        · cases hc
theorem can_ofM {P : Program} {w : World} {K : PySem.W.Frag} {mg : Str -> Option Value} {base : Heap} {x : Str} {st : Stmt} {f : Addr} {fd : FuncData} {Nm ps : List Str} {k : Nat} {R : RelM} (F : FnP K x st f fd) (hm : mg x = some (.ref f)) (S : FnScope Nm ps (defScope st))
    (hb : forall (kV doc pm : Value) (an : Option Addr) (cdv ct : Value) (us : List Value), us.length = ps.length -> bindArgs (PySem.W.fnOf x x (defArgs st) (defBody st) (defScope st) .none kV doc pm an cdv ct) ⟨us, []⟩ = pure (ps.zip us)) (hlen : forall ds I d, R ds I d -> ds.length + 1 = ps.length)
    (body : forall cdv A outer s H E (N : En) ds I d q kvs, Room k (cxD P w K mg base Nm x st f cdv A outer s H E).A -> R ds I d -> I kvs -> GS (cxD P w K mg base Nm x st f cdv A outer s H E) N (defBody st) (startM Nm.length ds q (hsW w) kvs) { nx := fun _ => False, rt := fun d' => d' = d, mm := some ⟨q, hsW w, I⟩ }) :
    CanM P w K mg base (k + 1) x R := by
  refine ⟨f, fd, ps, hm, F.kp, F.bindsN hb, F.ok S (fun vs H Q E ⟨G, ds, q, o, kvs, I, d, ws, _, e, dv, _, _, _, _, hR, _⟩ => by rw [e, List.length_append, dv.length]; exact hlen ds I d hR) fun cdv A outer s H vs Q E hr hsp => ?_⟩
  obtain ⟨G, ds, q, o, kvs, I, d, ws, gh, rfl, dv, g0, h0, dq, hI, hR, hq⟩ := hsp
  refine ⟨tws _ _, pss_tw, ?_⟩
  obtain ⟨st0, ow⟩ := sta_startM (Nm := Nm) gh dv g0 h0 dq
  have fr0 : Fr K ⟨G, less H q, fun _ => none⟩ G (start Nm (ws ++ [.ref q])) H (startM Nm.length ds q (hsW w) kvs) := by
    refine ⟨G, ⟨⟨Same.refl _, fun b o z => (less_some z).2, gh, fun _ _ => rfl⟩, fun _ _ z => nomatch z⟩, Same.refl _, st0, fun i es p h1 h2 => ?_⟩
    obtain ⟨_, e⟩ := ow i es h1
    rw [e] at h2
    cases h2
    exact less_at
  refine tws_mono ?_ (body cdv A outer s H E ⟨G, less H q, fun _ => none⟩ ds I d q kvs hr hR hI G (L2.start Nm (ws ++ [V.ref q])) H fr0)
  refine ⟨fun σ H' hn => ?_, fun v H' hn => ?_, fun _ _ z => ?_, fun _ _ z => ?_⟩
  · obtain ⟨ρ, _, hn⟩ := hn
    exact hn.elim
  · obtain ⟨d', ⟨G', e1, _, dq', hm'⟩, hn⟩ := hn
    have hn' : d' = d := hn
    subst hn'
    exact hq v G' H' e1.toExt hm' dq'
  · obtain ⟨_, _, z⟩ := z; exact z
  · obtain ⟨_, _, z⟩ := z; exact z
section
variable {X : Cx} {N : En} {e : Expr} {es : List Expr} {ρ : Rho} {d : PyData} {ds : List PyData} {pos p p2 : Pos} {k k' : Nat} {x : Str} {R : RelM} {I : List (PyData × PyData) -> Prop}
/-- arguments, the last one the dict in slot i -/
def GAm (X : Cx) (es : List Expr) (ρ : Rho) (ds : List PyData) (i : Nat) : Prop := forall (σ : L2.St) (G H : Hp) (Q : List V -> Hp -> Prop), Sta X.K G H σ ρ -> (forall ws q G' H', Ext G H G' H' -> DqAll X.K G' ws ds -> σ[i]? = some (some (.ref q)) -> Q (ws ++ [.ref q]) H') -> twA X es σ H Q
theorem gam_last (i : Nat) {y : Str} {o : Own} (ho : ρ[i]? = some (.owx o) := by rfl) (hi : X.N[i]? = some y := by rfl) (hv : Vis X.env.scope y := by first | exact Or.inl rfl | exact Or.inr (Or.inl rfl) | exact Or.inr (Or.inr rfl)) (hd : (y == ("__debug__" : Str)) = false := by decide) (hcd : (y == ("__classdict__" : Str)) = false := by decide)
    (hst : starEach [.Name y p] X.env = (false, eval (.Name y p) X.env) :: starEach [] X.env := by rfl) : GAm X [.Name y p] ρ [] i := fun σ G H Q s q pos pins s' I => by
  obtain ⟨a, u, h1, _⟩ := s.owx ho
  exact ⟨(pa_cons (pe_var hi hv hd hcd) pa_nil hst).run pos pins s' σ H Q I ⟨.ref a, h1, q [] a G H (.refl s.gh) .nil h1⟩⟩
theorem gam_cons {i : Nat} (h : GE X e ρ d) (hr : GAm X es ρ ds i) (hst : starEach (e :: es) X.env = (false, eval e X.env) :: starEach es X.env := by rfl) : GAm X (e :: es) ρ (d :: ds) i := fun σ G H Q s q pos pins s' I =>
  ⟨(pa_cons pe_tw pa_tw hst).run pos pins s' σ H Q I (h σ G H _ s fun v G1 H1 e1 dv => hr σ G1 H1 _ (s.ext e1) fun ws b G2 H2 e2 dvs hb => q (v :: ws) b G2 H2 (e1.trans e2) (.cons (dv.mono e2.g) dvs) hb)⟩
/-- the own dict of slot i -/
def isOwnD (hs : NestedKey -> Int) (kvs : List (PyData × PyData)) (o : Own) : Prop := o = .dict hs kvs ∨ ∃ q, o = .memo q hs kvs
def reD (o : Own) (kvs : List (PyData × PyData)) : Own := match o with
  | .list ds => .list ds
  | .dict hs _ => .dict hs kvs
  | .memo q hs _ => .memo q hs kvs
theorem gem_callO (i : Nat) {o : Own} {kvs : List (PyData × PyData)} (c : CanM X.prog X.w X.K X.mg X.base k x R) (hr : Room k' X.A) (ha : GAm X (e :: es) ρ ds i) (hR : R ds I d) (hI : I kvs) (ho : ρ[i]? = some (.owx o)) (hod : isOwnD (hsW X.w) kvs o) (hk : k ≤ k' := by decide) (hg : Gl X x := by rfl) (hdb : (x == ("__debug__" : Str)) = false := by decide) (he : starEach (e :: es) X.env = (false, eval e X.env) :: starEach es X.env := by rfl) (hpl : (backTo pos (starEach es X.env)).any (·.1) = false := by rfl) :
    GEM X N (.Call (.Name x p) (e :: es) [] pos) ρ d (fun ρ' => ∃ kvs', I kvs' ∧ ρ' = ρ.set i (.owx (reD o kvs'))) := by
  obtain ⟨f, fd, ps, hm, kp, hb, F⟩ := c.ex
  refine gem_of (pe_call F (hr.mono hk) hg hm kp hb .nil passL pa_tw hdb he hpl) fun P σ H Q fr0 q => ?_
  obtain ⟨G, e0, sp, sta, fr⟩ := fr0
  refine ha σ G H _ sta fun ws b G1 H1 e1 dv hb1 => ?_
  have sta1 := sta.ext e1
  obtain ⟨b', u, o1, o2, o3, o4⟩ := sta1.owx ho
  rw [hb1] at o1
  cases o1
  have hnb := fr i _ b ho hb1
  obtain ⟨ob, rfl, dic⟩ : ∃ ob, u = dR b ob ∧ DicV X.K G1 (hsW X.w) b ob kvs := by
    rcases hod with rfl | ⟨q', rfl⟩
    · exact o4
    · exact o4.2
  refine ⟨G1, ds, b, ob, kvs, I, d, ws, e1.gh, by rw [List.append_nil], dv, o2, o3, dic, hI, hR, fun v G' H' e2 mk dq => ?_⟩
  obtain ⟨ob', kvs', m1, m2, m3, m4⟩ := mk
  refine q v H' _ ⟨kvs', m4, rfl⟩ ⟨G', (e0.trans e1).fill e2 hnb, (sp.trans e1.g).trans e2.g, sta1.fill ho hb1 e2 m1 m2 ?_, fresh_mut ho fr, dq⟩
  rcases hod with rfl | ⟨q', rfl⟩
  · exact ⟨ob', rfl, m3⟩
  · exact ⟨o4.1, ob', rfl, m3⟩
theorem gem_callD (i : Nat) {kvs : List (PyData × PyData)} (c : CanM X.prog X.w X.K X.mg X.base k x R) (hr : Room k' X.A) (ha : GAm X (e :: es) ρ ds i) (hR : R ds I d) (hI : I kvs) (ho : ρ[i]? = some (.dic (hsW X.w) kvs) := by rfl) (hk : k ≤ k' := by decide) (hg : Gl X x := by rfl) (hdb : (x == ("__debug__" : Str)) = false := by decide) (he : starEach (e :: es) X.env = (false, eval e X.env) :: starEach es X.env := by rfl) (hpl : (backTo pos (starEach es X.env)).any (·.1) = false := by rfl) :
    GEM X N (.Call (.Name x p) (e :: es) [] pos) ρ d (fun ρ' => ∃ kvs', I kvs' ∧ ρ' = ρ.set i (.dic (hsW X.w) kvs')) := gem_callO i c hr ha hR hI ho (.inl rfl) hk hg hdb he hpl
theorem gem_callM (i : Nat) {q : Addr} {kvs : List (PyData × PyData)} (c : CanM X.prog X.w X.K X.mg X.base k x R) (hr : Room k' X.A) (ha : GAm X (e :: es) ρ ds i) (hR : R ds I d) (hI : I kvs) (ho : ρ[i]? = some (.owx (.memo q (hsW X.w) kvs)) := by rfl) (hk : k ≤ k' := by decide) (hg : Gl X x := by rfl) (hdb : (x == ("__debug__" : Str)) = false := by decide) (he : starEach (e :: es) X.env = (false, eval e X.env) :: starEach es X.env := by rfl) (hpl : (backTo pos (starEach es X.env)).any (·.1) = false := by rfl) :
    GEM X N (.Call (.Name x p) (e :: es) [] pos) ρ d (fun ρ' => ∃ kvs', I kvs' ∧ ρ' = ρ.set i (.owx (.memo q (hsW X.w) kvs'))) := gem_callO i c hr ha hR hI ho (.inr ⟨q, rfl⟩) hk hg hdb he hpl
/-- arguments, the last one {} -/
def GAn (X : Cx) (es : List Expr) (ρ : Rho) (ds : List PyData) : Prop := forall (σ : L2.St) (G H : Hp) (Q : List V -> Hp -> Prop), Sta X.K G H σ ρ -> (forall ws q o G' H', Ext G H G' H' -> DqAll X.K G' ws ds -> H' q = none -> DicO (hsW X.w) q o [] -> Q (ws ++ [.ref q]) (upd H' q (dR q o))) -> twA X es σ H Q
theorem gan_last (hst : starEach [.Dict [] [] p] X.env = (false, eval (.Dict [] [] p) X.env) :: starEach [] X.env := by rfl) : GAn X [.Dict [] [] p] ρ [] := fun σ G H Q s q pos pins s' I =>
  ⟨(pa_cons pe_xdnew pa_nil hst).run pos pins s' σ H Q I fun a o ha ho => q [] a o G H (.refl s.gh) .nil ha ho⟩
theorem gan_cons (h : GE X e ρ d) (hr : GAn X es ρ ds) (hst : starEach (e :: es) X.env = (false, eval e X.env) :: starEach es X.env := by rfl) : GAn X (e :: es) ρ (d :: ds) := fun σ G H Q s q pos pins s' I =>
  ⟨(pa_cons pe_tw pa_tw hst).run pos pins s' σ H Q I (h σ G H _ s fun v G1 H1 e1 dv => hr σ G1 H1 _ (s.ext e1) fun ws b o G2 H2 e2 dvs hb ho => q (v :: ws) b o G2 H2 (e1.trans e2) (.cons (dv.mono e2.g) dvs) hb ho)⟩
theorem ge_callN (c : CanM X.prog X.w X.K X.mg X.base k x R) (hr : Room k' X.A) (ha : GAn X (e :: es) ρ ds) (hR : R ds I d) (hI : I []) (hk : k ≤ k' := by decide) (hg : Gl X x := by rfl) (hdb : (x == ("__debug__" : Str)) = false := by decide) (he : starEach (e :: es) X.env = (false, eval e X.env) :: starEach es X.env := by rfl) (hpl : (backTo pos (starEach es X.env)).any (·.1) = false := by rfl) :
    GE X (.Call (.Name x p) (e :: es) [] pos) ρ d := by
  obtain ⟨f, fd, ps, hm, kp, hb, F⟩ := c.ex
  refine ge_of (pe_call F (hr.mono hk) hg hm kp hb .nil passL pa_tw hdb he hpl) fun σ G H Q s q => ha σ G H _ s fun ws b o G1 H1 e1 dv hb1 ho => ?_
  refine ⟨G1, ds, b, o, [], I, d, ws, e1.gh.trans (same_new hb1), by rw [List.append_nil], dv, e1.gh.free hb1, upd_same, ⟨[], ho, trivial⟩, hI, hR, fun v G' H' e2 mk dq => ?_⟩
  refine q v G' H' ⟨e1.g.trans e2.g, fun y u z => ?_, e2.gh, fun y hy => ?_⟩ dq
  · have hz := e1.h y u z
    have n : y ≠ b := ne_of_none hz hb1
    exact e2.h y u (by rw [less_ne n, upd_ne n]; exact hz)
  · have h1 : H1 y ≠ none := fun z => by
      cases hn : H y with
      | none => exact hy hn
      | some o => rw [e1.h y o hn] at z; cases z
    have n : y ≠ b := fun z => h1 (by rw [z]; exact hb1)
    rw [e2.old y (by rw [less_ne n, upd_ne n]; exact h1), e1.old y hy]
end
end Gd

namespace Gd
open PySem PySem.Spec L2 PySem.W
/-! ### min over data -/
section
variable {prog : Program} {w : World} {A : Around} {E : Value → Shared → Prop} {s : Shared}
theorem min_list_ix {l : Addr} {vs : Array Value} {x : PyData} {xs : List PyData} {as : List Addr} {Q : Value → Shared → Prop} (hh : A.handled = none) (hl : s.heap.IsList l vs) (hr : ReadsAll s.heap vs.toList (x :: xs) as) (ha : AlikeAll (x :: xs)) (hu : A.units + 1 + PyData.depthAll (x :: xs) < cLine)
    (h : forall (i : Nat) v h' tk, vs[i]? = some v -> (x :: xs)[i]? = some (minD x xs) -> (forall b o, s.heap.get? b = some o -> h'.get? b = some o) -> Q v { s with heap := h', toks := tk }) :
    wpAny (model prog w) A (call (.builtin "min") [.ref l]) Q E s := by
  have hn : vs.size = xs.length + 1 := readsAll_len hr
  refine call_min_walkH (iter_listW (A := A.in1) hh hl fun s₂ e W st hfp hw hk => ?_)
  refine ⟨_, _, _, _, _, _, _, s.heap, _, rfl, W, st, hfp, by omega, hw, hk, cmpIn_lt (A := A.in1) hr ha (by show A.units + 1 + _ < _; exact hu), fun v s' hP m => ?_⟩
  obtain ⟨h', tk, rfl, hk'⟩ := moved_old e rfl m
  have e1 : vs.size - 1 = xs.length := by omega
  obtain ⟨e3, e2⟩ := argBest_fold dataLt PyData.none x xs xs.length (Nat.le_refl _)
  rw [List.take_length] at e2
  rw [e1] at hP
  refine h _ v h' tk hP ?_ hk'
  have hlt : argBest (fun i j => dataLt ((x :: xs).getD i .none) ((x :: xs).getD j .none)) xs.length < (x :: xs).length := by rw [List.length_cons]; omega
  rw [List.getD_eq_getElem?_getD, List.getElem?_eq_getElem hlt] at e2
  rw [List.getElem?_eq_getElem hlt]
  exact congrArg some e2
theorem min_two_ix {a b' : Value} {x y : PyData} {as : List Addr} {Q : Value → Shared → Prop} (hh : A.handled = none) (hr : ReadsAll s.heap [a, b'] [x, y] as) (ha : AlikeAll [x, y]) (hu : A.units + 1 + PyData.depthAll [x, y] < cLine)
    (h : forall h' tk, (forall c o, s.heap.get? c = some o -> h'.get? c = some o) -> Q (if dataLt y x = true then b' else a) { s with heap := h', toks := tk }) :
    wpAny (model prog w) A (call (.builtin "min") [a, b']) Q E s := by
  have hname : (toString "min" ++ toString ".loop" : String) = "min.loop" := by decide
  refine call_function_tree F.kind_min F.plain_min F.entry_min (F.args_min2 _ _) ?_
  show wpAny _ A.in1 (Builtin.Builtins.bindParams "min" ["key", "default"] 0 ⟨[], []⟩ >>= _) _ _ s
  refine wpAny_bind (wpAny_of_eq (show Builtin.Builtins.bindParams "min" ["key", "default"] 0 ⟨[], []⟩ = pure [none, none] from rfl) ?_)
  show wpAny _ A.in1 (newTuple [a, b'] >>= _) _ _ s
  refine wpAny_bind (wpAny_newObj_type ?_)
  have hT : (s.heap.push { cls := .type "tuple", data := .seq #[a, b'] }).IsTuple s.heap.objs.size #[a, b'] := ⟨_, Heap.get?_push_size _ rfl, rfl, 0, rfl⟩
  have rk : forall b o, s.heap.get? b = some o -> (s.heap.push { cls := .type "tuple", data := .seq #[a, b'] }).get? b = some o := fun b o e => Heap.get?_push_of_some _ e
  have hit : wpAny (model prog w) A.in1 (pyIter (.ref s.heap.objs.size)) (fun it s₂ => ∃ I fp wr G n P St H bt, it = .ref I ∧ WalksS prog w A.in1 I fp wr G n P St ∧ St 0 s₂ ∧ (∀ b ∈ fp, b < s₂.heap.objs.size) ∧ 0 < n ∧
      (∀ b o, H.get? b = some o → b ∉ wr) ∧ (∀ b o, H.get? b = some o → s₂.heap.get? b = some o) ∧ CmpIn prog w A.in1 .Lt H P bt ∧ ∀ v s', P (argBest bt (n - 1)) v → Moved wr G s₂ s' → Q v s') E { s with heap := s.heap.push { cls := .type "tuple", data := .seq #[a, b'] } } := by
    refine iter_tupleW (A := A.in1) hh hT fun s₂ e W st hfp hw hk => ?_
    refine ⟨_, _, _, _, _, _, _, s.heap.push { cls := .type "tuple", data := .seq #[a, b'] }, _, rfl, W, st, hfp, Nat.succ_pos 1, hw, hk, cmpIn_lt (A := A.in1) (s := { s with heap := s.heap.push { cls := .type "tuple", data := .seq #[a, b'] } }) (vs := #[a, b']) (PyProof.Rows.ReadsAll.keeps rk hr) ha (by show A.units + 1 + _ < _; exact hu), fun v s' hP m => ?_⟩
    obtain ⟨h', tk, rfl, hk'⟩ := moved_old e rfl m
    have hv : v = if dataLt y x = true then b' else a := by
      have e1 : argBest (fun i j => dataLt ([x, y].getD i .none) ([x, y].getD j .none)) 1 = if dataLt y x = true then 1 else 0 := rfl
      have hP' : #[a, b'][argBest (fun i j => dataLt ([x, y].getD i .none) ([x, y].getD j .none)) 1]? = some v := hP
      rw [e1] at hP'
      by_cases hlt : dataLt y x = true
      · rw [if_pos hlt] at hP' ⊢
        exact (Option.some.inj hP').symm
      · rw [if_neg hlt] at hP' ⊢
        exact (Option.some.inj hP').symm
    rw [hv]
    exact h h' tk fun c o e => hk' c o (rk c o e)
  refine wpAny_bind (wpAny_mono hit (fun it s₂ h₂ => ?_) fun _ _ e => e)
  obtain ⟨I, fp, wr, G, n, P, St, H, bt, rfl, W, hst, hfp, hn, hw, hkeep, hcmp, hQ⟩ := h₂
  refine wpAny_bind (wpAny_newObj_type ?_)
  have hSf : s₂.heap.objs.size ∉ fp := fun hm => Nat.lt_irrefl _ (hfp _ hm)
  rw [hname]
  refine wpAny_pure ⟨plainId_quiet F.plain_min_loop _, codeAny_min_loop_firstH W H hw bt hcmp s₂.heap.objs.size hSf (fresh_in hkeep) _ hn (fun b o e => Heap.get?_push_of_some _ (hkeep b o e)) (W.frame 0 s₂ _ s₂.toks hst (Nat.le_refl _) fun b _ o e => Heap.get?_push_of_some _ e) (Heap.get?_push_size _ rfl) fun v s' hP hm => ?_⟩
  exact hQ v s' hP (Moved.drop_new (tk := s₂.toks) hm (Nat.le_refl _))
end
section
variable {X : Cx} {N : En} {a b : Expr} {ρ : Rho} {d1 d2 : PyData} {pos p : Pos}
def rMinL (K : PySem.W.Frag) : List V → Hp → VK → Prop := fun vs H Q => ∃ (l : Addr) (ws : List V) (x : PyData) (xs : List PyData), vs = [V.ref l] ∧ SqL K H l ws ∧ DpAll K H ws (x :: xs) ∧ AlikeAll (x :: xs) ∧ PyData.depthAll (x :: xs) ≤ 60 ∧ forall (i : Nat) v, ws[i]? = some v -> (x :: xs)[i]? = some (minD x xs) -> Q v H
theorem vals_get : forall {xs : List V} {us : List Value} {i : Nat} {u : Value}, Vals xs us -> us[i]? = some u -> ∃ x, xs[i]? = some x ∧ RelV x u
  | _, _, _, _, .nil, e => by simp at e
  | _, _, 0, _, .cons r _, e => by simp at e; subst e; exact ⟨_, rfl, r⟩
  | _, _, i + 1, _, .cons _ t, e => by
    obtain ⟨x, h1, h2⟩ := vals_get (i := i) t (by simpa using e)
    exact ⟨x, by simpa using h1, h2⟩
theorem cr_minL (hc : X.calm = true) (hu : X.A.units + 64 < cLine) : CallR X (.builtin "min") (rMinL X.K) := by
  intro pins s σ H vs us Q I r h
  obtain ⟨l, ws, x, xs, rfl, hs, hd, ha, h60, q⟩ := h
  obtain ⟨its, rv, hl, _⟩ := I.list hs
  obtain ⟨as, hr⟩ := Dp.readsAll I _ _ _ hd rv
  rw [Vals.ref1 r]
  refine min_list_ix (I.ok.hd hc) hl.isList (as := as) (x := x) (xs := xs) hr ha (by omega) fun i v h' tk hv he hk => ?_
  obtain ⟨y, h1, h2⟩ := vals_get (i := i) (u := v) rv (by simpa using hv)
  exact ⟨y, H, I.kept hk, h2, q i y h1 he⟩
theorem k_minL {x : PyData} {xs : List PyData} (hc : X.calm = true) (hu : X.A.units + 64 < cLine) (hn : noDictAll (x :: xs) = true) (ha : AlikeAll (x :: xs)) (h60 : PyData.depthAll (x :: xs) ≤ 60) : CalD X (.builtin "min") [.list (x :: xs)] (minD x xs) := ⟨_, cr_minL hc hu, fun vs G H Q gh dv q => by
  cases dv with
  | cons h1 h2 =>
    cases h2
    cases h1 with
    | lst s1 a1 =>
      refine ⟨_, _, x, xs, rfl, .inl (.inl (gh _ _ s1)), (a1.mono gh).dp hn, ha, h60, fun i v hv he => ?_⟩
      obtain ⟨w, e1, e2⟩ := a1.get he
      rw [hv] at e1
      cases e1
      exact q v G H (.refl gh) e2⟩
def rMin2D (K : PySem.W.Frag) : List V → Hp → VK → Prop := fun vs H Q => ∃ (v1 v2 : V) (x y : PyData), vs = [v1, v2] ∧ Dp K H v1 x ∧ Dp K H v2 y ∧ AlikeAll [x, y] ∧ PyData.depthAll [x, y] ≤ 60 ∧ Q (if dataLt y x = true then v2 else v1) H
theorem cr_min2D (hc : X.calm = true) (hu : X.A.units + 64 < cLine) : CallR X (.builtin "min") (rMin2D X.K) := by
  intro pins s σ H vs us Q I r h
  obtain ⟨v1, v2, x, y, rfl, h1, h2, ha, h60, q⟩ := h
  obtain ⟨u, u2, rfl, r1, r2⟩ := vals2 r
  obtain ⟨as, q1⟩ := Dp.reads I _ _ _ h1 r1
  obtain ⟨bs, q2⟩ := Dp.reads I _ _ _ h2 r2
  refine min_two_ix (I.ok.hd hc) (ReadsAll.cons q1 (ReadsAll.cons q2 ReadsAll.nil)) ha (by omega) fun h' tk hk => ?_
  by_cases hlt : dataLt y x = true
  · rw [if_pos hlt] at q ⊢
    exact ⟨v2, H, I.kept hk, r2, q⟩
  · rw [if_neg hlt] at q ⊢
    exact ⟨v1, H, I.kept hk, r1, q⟩
theorem k_min2D (hc : X.calm = true) (hu : X.A.units + 64 < cLine) (hn1 : noDict d1 = true) (hn2 : noDict d2 = true) (ha : AlikeAll [d1, d2]) (h60 : PyData.depthAll [d1, d2] ≤ 60) : CalD X (.builtin "min") [d1, d2] (if dataLt d2 d1 = true then d2 else d1) := ⟨_, cr_min2D hc hu, fun vs G H Q gh dv q => by
  cases dv with
  | cons h1 h2 =>
    cases h2 with
    | cons h3 h4 =>
      cases h4
      refine ⟨_, _, d1, d2, rfl, (h1.mono gh).dp hn1, (h3.mono gh).dp hn2, ha, h60, ?_⟩
      by_cases hlt : dataLt d2 d1 = true
      · rw [if_pos hlt] at q ⊢
        exact q _ G H (.refl gh) h3
      · rw [if_neg hlt] at q ⊢
        exact q _ G H (.refl gh) h1⟩
end
end Gd

namespace Gd
open PySem PySem.Spec L2 PySem.W
/-! ### min of a typed list -/
section
variable {X : Cx} {α : Type} [DecidableEq α] [DatumOrd α]
theorem depthAll_toD (k : Nat) (hk : Datum.depth α ≤ k) : forall xs : List α, PyData.depthAll (xs.map Datum.toD) ≤ k
  | [] => by simp [PyData.depthAll]
  | x :: xs => by
    rw [List.map_cons, PyData.depthAll]
    have := Datum.depth_le x
    have := depthAll_toD k hk xs
    omega
theorem noDict_toD (hd : forall a : α, noDict (Datum.toD a) = true) : forall xs : List α, noDictAll (xs.map Datum.toD) = true
  | [] => by simp [noDictAll]
  | x :: xs => by rw [List.map_cons, noDictAll, hd, noDict_toD hd xs]; rfl
theorem k_minT (x : α) (xs : List α) (hc : X.calm = true) (hu : X.A.units + 64 < cLine) (hd : forall a : α, noDict (Datum.toD a) = true) (hk : Datum.depth α ≤ 60) : CalD X (.builtin "min") [.list ((x :: xs).map Datum.toD)] (Datum.toD (minOf x xs)) := by
  rw [← minD_map]
  rw [List.map_cons]
  refine k_minL hc hu ?_ ?_ ?_
  · rw [← List.map_cons]; exact noDict_toD hd _
  · rw [← List.map_cons]; exact alikeAll_datum _
  · rw [← List.map_cons]; exact depthAll_toD 60 hk _
theorem k_min2T (x y : α) (hc : X.calm = true) (hu : X.A.units + 64 < cLine) (hd : forall a : α, noDict (Datum.toD a) = true) (hk : Datum.depth α ≤ 60) : CalD X (.builtin "min") [Datum.toD x, Datum.toD y] (Datum.toD (if DatumOrd.lt y x = true then y else x)) := by
  have h := k_min2D (X := X) (d1 := Datum.toD x) (d2 := Datum.toD y) hc hu (hd x) (hd y) (by have := alikeAll_datum [x, y]; exact this) (by have := depthAll_toD 60 hk [x, y]; exact this)
  rw [DatumOrd.lt_eq] at h
  by_cases hlt : DatumOrd.lt y x = true
  · rw [if_pos hlt] at h ⊢; exact h
  · rw [if_neg hlt] at h ⊢; exact h
/-- the one that is less than all others -/
theorem minOf_is {x0 : α} (irr : DatumOrd.lt x0 x0 = false) : forall {xs : List α} {x : α}, x0 ∈ x :: xs -> (forall y, y ∈ x :: xs -> y ≠ x0 -> DatumOrd.lt x0 y = true ∧ DatumOrd.lt y x0 = false) -> minOf x xs = x0
  | [], x, hm, _ => by
    have : x0 = x := by simpa using hm
    rw [this]; rfl
  | y :: ys, x, hm, h => by
    show minOf (if DatumOrd.lt y x = true then y else x) ys = x0
    by_cases hx : x = x0
    · subst hx
      have hy : DatumOrd.lt y x = false := by
        by_cases e : y = x
        · rw [e]; exact irr
        · exact (h y (List.mem_cons_of_mem _ List.mem_cons_self) e).2
      rw [hy, if_neg Bool.false_ne_true]
      exact minOf_is irr List.mem_cons_self fun z hz => h z (by
        rcases List.mem_cons.mp hz with rfl | hz
        · exact List.mem_cons_self
        · exact List.mem_cons_of_mem _ (List.mem_cons_of_mem _ hz))
    · by_cases hy : y = x0
      · subst hy
        rw [(h x List.mem_cons_self hx).1, if_pos rfl]
        exact minOf_is irr List.mem_cons_self fun z hz => h z (List.mem_cons_of_mem _ hz)
      · have hin : x0 ∈ ys := by
          rcases List.mem_cons.mp hm with e | hm
          · exact absurd e.symm hx
          · rcases List.mem_cons.mp hm with e | hm
            · exact absurd e.symm hy
            · exact hm
        refine minOf_is irr (List.mem_cons_of_mem _ hin) fun z hz => h z ?_
        rcases List.mem_cons.mp hz with rfl | hz
        · split
          · exact List.mem_cons_of_mem _ List.mem_cons_self
          · exact List.mem_cons_self
        · exact List.mem_cons_of_mem _ (List.mem_cons_of_mem _ hz)
end
theorem nd_int : forall a : Int, noDict (Datum.toD a) = true := fun _ => rfl
theorem nd_str : forall a : Str, noDict (Datum.toD a) = true := fun _ => rfl
theorem nd_is : forall a : Int × Str, noDict (Datum.toD a) = true := fun _ => rfl
/-! ### tuples put together; tuple assignments with a new dict -/
section
variable {X : Cx} {N : En} {st : Stmt} {a b c : Expr} {es : List Expr} {ρ ρ' : Rho} {d d1 d2 : PyData} {ds : List PyData} {pos pos' p p2 : Pos} {Φ : Post}
theorem b_catT {xs ys : List PyData} (hx : 0 < xs.length) (hy : 0 < ys.length) (h : xs.length + ys.length ≤ 100000) : BinD X .Add (.tuple xs) (.tuple ys) (.tuple (xs ++ ys)) := ⟨_, op_catT, fun v1 v2 G H Q gh h1 h2 q => by
  cases h1 with
  | tup s1 a1 =>
    cases h2 with
    | tup s2 a2 =>
      refine ⟨_, _, _, _, rfl, rfl, sqT_mono gh s1, sqT_mono gh s2, fun z => ?_, by rw [a1.length, a2.length]; exact Nat.le_trans h (by decide), fun z => ?_, fun _ p hp => ?_⟩
      · have := a1.length
        rw [z] at this
        exact absurd this.symm (Nat.ne_of_gt hx)
      · have := a2.length
        rw [z] at this
        exact absurd this.symm (Nat.ne_of_gt hy)
      · exact q _ _ _ (.new gh hp) (.tup (.inl (.inl upd_same)) ((a1.append a2).mono (same_new (gh.free hp))))⟩
theorem g1_parN (i j : Nat) {x y : Str} {px py pt pt2 pd : Pos} {kt k2 : Nat} (ha : GE X a ρ d1) (h : Φ.nx ((ρ.set i (.dat d1)).set j (.dic (hsW X.w) []))) (hN : X.N.Nodup) (hw : swappedStores [.Tuple [.Name x px, .Name y py] kt pt] (.Tuple [a, .Dict [] [] pd] k2 pt2) X.env = pure (some [x, y]) := by rfl) (hc : X.calm = true := by rfl)
    (hi : X.N[i]? = some x := by rfl) (hj : X.N[j]? = some y := by rfl) (hij : i ≠ j := by decide) (hx : X.env.scope.names.lookup x = some .local := by rfl) (hy : X.env.scope.names.lookup y = some .local := by rfl)
    (hst : starEach [a, .Dict [] [] pd] X.env = (false, eval a X.env) :: starEach [.Dict [] [] pd] X.env := by rfl) (hst2 : starEach [.Dict [] [] pd] X.env = (false, eval (.Dict [] [] pd) X.env) :: starEach [] X.env := by rfl)
    (hs : swapsWithSole [.Tuple [.Name x px, .Name y py] kt pt] (.Tuple [a, .Dict [] [] pd] k2 pt2) pos.line X.env = pure false := by rfl) : G1 X N (.Assign [.Tuple [.Name x px, .Name y py] kt pt] (.Tuple [a, .Dict [] [] pd] k2 pt2) pos) ρ Φ :=
  g1_of (ps_par hc hN hi hj hij hx hy pa_tw hw hs) fun P σ H f => by
    obtain ⟨G, e0, sp, sta, fr⟩ := f
    refine gan_cons ha (gan_last hst2) hst σ G H _ sta fun ws q o G' H' e1 dv hq ho => ?_
    cases dv with
    | cons h1 h2 =>
      cases h2
      have e2 := e0.trans e1
      refine ⟨_, .ref q, rfl, _, ⟨G', ⟨⟨e2.g, e2.h.trans (same_new hq), e2.gh.trans (same_new hq), e2.old⟩, e2.pin⟩, sp.trans e1.g, ((sta.ext e1).set i h1).setOwx j hq (x := .dict (hsW X.w) []) ⟨o, rfl, [], ho, trivial⟩, fun k xs r o1 o2 => ?_⟩, h⟩
      rcases set_get o1 with ⟨rfl, _⟩ | ⟨n, o1⟩
      · rcases set_get o2 with ⟨_, z⟩ | ⟨z, _⟩
        · cases z
          exact e2.h.free hq
        · exact absurd rfl z
      · rw [List.getElem?_set_ne n] at o2
        exact fresh_set fr k xs r o1 o2
theorem g1_par3N (i j l : Nat) {x y z : Str} {px py pz pt pt2 pd : Pos} {kt k2 : Nat} (ha : GE X a ρ d1) (hb : GE X b ρ d2) (h : Φ.nx (((ρ.set i (.dat d1)).set j (.dat d2)).set l (.dic (hsW X.w) []))) (hN : X.N.Nodup)
    (hw : swappedStores [.Tuple [.Name x px, .Name y py, .Name z pz] kt pt] (.Tuple [a, b, .Dict [] [] pd] k2 pt2) X.env = pure (some [x, y, z]) := by rfl) (hc : X.calm = true := by rfl)
    (hi : X.N[i]? = some x := by rfl) (hj : X.N[j]? = some y := by rfl) (hl : X.N[l]? = some z := by rfl) (hij : i ≠ j := by decide) (hil : i ≠ l := by decide) (hjl : j ≠ l := by decide) (hx : X.env.scope.names.lookup x = some .local := by rfl) (hy : X.env.scope.names.lookup y = some .local := by rfl) (hz : X.env.scope.names.lookup z = some .local := by rfl)
    (hst0 : starEach [a, b, .Dict [] [] pd] X.env = (false, eval a X.env) :: starEach [b, .Dict [] [] pd] X.env := by rfl) (hst : starEach [b, .Dict [] [] pd] X.env = (false, eval b X.env) :: starEach [.Dict [] [] pd] X.env := by rfl) (hst2 : starEach [.Dict [] [] pd] X.env = (false, eval (.Dict [] [] pd) X.env) :: starEach [] X.env := by rfl)
    (hs : swapsWithSole [.Tuple [.Name x px, .Name y py, .Name z pz] kt pt] (.Tuple [a, b, .Dict [] [] pd] k2 pt2) pos.line X.env = pure false := by rfl) : G1 X N (.Assign [.Tuple [.Name x px, .Name y py, .Name z pz] kt pt] (.Tuple [a, b, .Dict [] [] pd] k2 pt2) pos) ρ Φ :=
  g1_of (ps_par3 hc hN hi hj hl hij hil hjl hx hy hz pa_tw hw hs) fun P σ H f => by
    obtain ⟨G, e0, sp, sta, fr⟩ := f
    refine gan_cons ha (gan_cons hb (gan_last hst2) hst) hst0 σ G H _ sta fun ws q o G' H' e1 dv hq ho => ?_
    cases dv with
    | cons h1 h2 =>
      cases h2 with
      | cons h3 h4 =>
        cases h4
        have e2 := e0.trans e1
        refine ⟨_, _, .ref q, rfl, _, ⟨G', ⟨⟨e2.g, e2.h.trans (same_new hq), e2.gh.trans (same_new hq), e2.old⟩, e2.pin⟩, sp.trans e1.g, (((sta.ext e1).set i h1).set j h3).setOwx l hq (x := .dict (hsW X.w) []) ⟨o, rfl, [], ho, trivial⟩, fun k xs r o1 o2 => ?_⟩, h⟩
        rcases set_get o1 with ⟨rfl, _⟩ | ⟨n, o1⟩
        · rcases set_get o2 with ⟨_, z⟩ | ⟨z, _⟩
          · cases z
            exact e2.h.free hq
          · exact absurd rfl z
        · rw [List.getElem?_set_ne n] at o2
          exact fresh_set (fresh_set fr) k xs r o1 o2
end
/-! ### tables of what has been found -/
section
variable {κ : Type} [DecidableEq κ]
def memT (kD : κ -> PyData) (f : κ -> PyData) (Ks : List κ) : List (PyData × PyData) := Ks.map fun k => (kD k, f k)
theorem memT_get {kD f : κ -> PyData} (hinj : forall a b, nk (kD a) = nk (kD b) -> a = b) (k : κ) : forall Ks : List κ, dGet (memT kD f Ks) (kD k) = if k ∈ Ks then some (f k) else none
  | [] => rfl
  | j :: Ks => by
    show dGet ((kD j, f j) :: memT kD f Ks) (kD k) = _
    rw [dGet_cons, memT_get hinj k Ks]
    by_cases h : j = k
    · subst h
      rw [if_pos rfl, if_pos List.mem_cons_self]
    · rw [if_neg (fun z => h (hinj j k z))]
      by_cases h2 : k ∈ Ks
      · rw [if_pos h2, if_pos (List.mem_cons_of_mem _ h2)]
      · rw [if_neg h2, if_neg (fun z => (List.mem_cons.mp z).elim (fun e => h e.symm) h2)]
theorem memT_put {kD f : κ -> PyData} (hinj : forall a b, nk (kD a) = nk (kD b) -> a = b) {k : κ} {Ks : List κ} (h : k ∉ Ks) : dPut (memT kD f Ks) (kD k) (f k) = memT kD f (Ks ++ [k]) := by
  unfold dPut
  rw [memT_get hinj, if_neg h]
  show memT kD f Ks ++ [(kD k, f k)] = _
  unfold memT
  rw [List.map_append]
  rfl
/-- the entries are what f says, each key once, all keys good -/
def MemI (kD f : κ -> PyData) (ok : κ -> Prop) (kvs : List (PyData × PyData)) : Prop := ∃ Ks : List κ, kvs = memT kD f Ks ∧ Ks.Nodup ∧ forall k, k ∈ Ks -> ok k
theorem memI_nil {kD f : κ -> PyData} {ok : κ -> Prop} : MemI kD f ok [] := ⟨[], rfl, List.nodup_nil, fun _ h => absurd h List.not_mem_nil⟩
theorem nodup_snoc {k : κ} {Ks : List κ} (h1 : Ks.Nodup) (h2 : k ∉ Ks) : (Ks ++ [k]).Nodup := by
  rw [List.nodup_append]
  refine ⟨h1, by simp, ?_⟩
  intro a ha b hb
  rw [List.mem_singleton.mp hb]
  intro z
  exact h2 (z ▸ ha)
end
end Gd

namespace Gd
open PySem PySem.Spec L2 PySem.W
section
variable {κ : Type} [DecidableEq κ]
theorem memT_same {kD f : κ -> PyData} (hinj : forall a b, nk (kD a) = nk (kD b) -> a = b) {k : κ} {Ks : List κ} (h : k ∈ Ks) : dPut (memT kD f Ks) (kD k) (f k) = memT kD f Ks := by
  unfold dPut
  rw [memT_get hinj, if_pos h]
  show (memT kD f Ks).map _ = _
  unfold memT
  rw [List.map_map]
  refine List.map_congr_left fun j _ => ?_
  show (if nk (kD j) = nk (kD k) then (kD j, f k) else (kD j, f j)) = _
  by_cases e : nk (kD j) = nk (kD k)
  · rw [if_pos e, hinj j k e]
  · rw [if_neg e]
theorem MemI.put {kD f : κ -> PyData} {ok : κ -> Prop} (hinj : forall a b, nk (kD a) = nk (kD b) -> a = b) {k : κ} {kvs : List (PyData × PyData)} (h : MemI kD f ok kvs) (hk : ok k) : MemI kD f ok (dPut kvs (kD k) (f k)) := by
  obtain ⟨Ks, rfl, nd, h⟩ := h
  by_cases hm : k ∈ Ks
  · rw [memT_same hinj hm]
    exact ⟨Ks, rfl, nd, h⟩
  · rw [memT_put hinj hm]
    refine ⟨_, rfl, nodup_snoc nd hm, fun j hj => ?_⟩
    rcases List.mem_append.mp hj with hj | hj
    · exact h j hj
    · rw [List.mem_singleton.mp hj]; exact hk
theorem MemI.put_get {kD f : κ -> PyData} {ok : κ -> Prop} (hinj : forall a b, nk (kD a) = nk (kD b) -> a = b) {k : κ} {kvs : List (PyData × PyData)} (h : MemI kD f ok kvs) : dGet (dPut kvs (kD k) (f k)) (kD k) = some (f k) := by
  obtain ⟨Ks, rfl, nd, h⟩ := h
  by_cases hm : k ∈ Ks
  · rw [memT_same hinj hm, memT_get hinj, if_pos hm]
  · rw [memT_put hinj hm, memT_get hinj, if_pos (by simp)]
theorem MemI.get {kD f : κ -> PyData} {ok : κ -> Prop} (hinj : forall a b, nk (kD a) = nk (kD b) -> a = b) {kvs : List (PyData × PyData)} (h : MemI kD f ok kvs) (k : κ) : dGet kvs (kD k) = none ∨ dGet kvs (kD k) = some (f k) := by
  obtain ⟨Ks, rfl, nd, h⟩ := h
  rw [memT_get hinj]
  by_cases hm : k ∈ Ks
  · exact .inr (if_pos hm)
  · exact .inl (if_neg hm)
end
section
variable {X : Cx} {N : En} {a b e : Expr} {ρ : Rho} {d d1 d2 : PyData} {pos : Pos} {A B : Rho -> Prop} {k : Bool}
/-- the left one fills nothing -/
theorem gem_binP {op : Operator} (ha : GE X a ρ d1) (hb : GEM X N b ρ d2 B) (h : BinD X op d1 d2 d) : GEM X N (.BinOp a op b pos) ρ d B := gem_bin (gem_pure ha) (fun ρ1 e => by rw [show ρ1 = ρ from e]; exact hb) h
/-- the right one fills nothing -/
theorem gtm_cmpP {op : CmpOp} (ha : GEM X N a ρ d1 A) (hb : forall ρ1, A ρ1 -> GE X b ρ1 d2) (h : CmpD X op d1 d2 k) (hm : behindInMarks op b = false := by first | exact nomark _ | rfl) : GTM X N (.Compare a [op] [b] pos) ρ k A :=
  gtm_cmp ha (fun ρ1 hA => gem_mono (gem_pure (hb ρ1 hA)) fun ρ e => by rw [show ρ = ρ1 from e]; exact hA) h hm
end
section
variable {X : Cx}
theorem minOf_int : forall (ns : List Int) (n : Int), minOf n ns = ns.foldl min n
  | [], n => rfl
  | k :: ns, n => by
    show minOf (if decide (k < n) = true then k else n) ns = (ns.foldl min (min n k))
    rw [minOf_int ns]
    congr 1
    by_cases h : k < n
    · rw [if_pos (decide_eq_true h), Int.min_eq_right (by omega)]
    · rw [if_neg (by simpa using h), Int.min_eq_left (by omega)]
theorem k_minI (n : Int) (ns : List Int) (hc : X.calm = true) (hu : X.A.units + 64 < cLine) : CalD X (.builtin "min") [.list ((n :: ns).map PyData.int)] (.int (ns.foldl min n)) := by
  have h := k_minT (X := X) n ns hc hu nd_int (by decide)
  rw [minOf_int] at h
  exact h
end
end Gd

namespace Gd
open PySem PySem.Spec L2 PySem.W
/-! ### sorted over data -/
section
variable {X : Cx}
def rSortedD (K : PySem.W.Frag) : List V → Hp → VK → Prop := fun vs H Q => ∃ (l : Addr) (ws : List V) (ds : List PyData), vs = [V.ref l] ∧ SqL K H l ws ∧ DpAll K H ws ds ∧ AllAlike ds ∧ Sortable ds ∧ ds.length ≤ 1000000 ∧ (forall d, d ∈ ds -> d.depth ≤ 60) ∧
  forall (vs' : List V) (p : Addr), EachIs (fun v d => ∃ i : Nat, ws[i]? = some v ∧ ds[i]? = some d) vs' (ds.mergeSort (dataLe false id)) -> H p = none -> Q (.ref p) (upd H p (.lst vs'))
theorem each_vals {ws : List V} {ds : List PyData} : forall {us : List Value} {es : List PyData}, EachIs (fun u d => ∃ (i : Nat) (v : V), ws[i]? = some v ∧ ds[i]? = some d ∧ RelV v u) us es -> ∃ vs, Vals vs us ∧ EachIs (fun v d => ∃ i : Nat, ws[i]? = some v ∧ ds[i]? = some d) vs es
  | _, _, .nil => ⟨[], .nil, .nil⟩
  | _, _, .cons ⟨i, v, h1, h2, h3⟩ t => by
    obtain ⟨vs, a, b⟩ := each_vals t
    exact ⟨v :: vs, .cons h3 a, .cons ⟨i, h1, h2⟩ b⟩
theorem each_zip {h : Heap} : forall {ws : List V} {us : List Value} {ds : List PyData} {as : List Addr} (n : Nat) (W : List V) (D : List PyData), Vals ws us -> ReadsAll h us ds as -> (forall i : Nat, W[n + i]? = ws[i]?) -> (forall i : Nat, D[n + i]? = ds[i]?) ->
    EachIs (fun u d => ∃ (i : Nat) (v : V), W[i]? = some v ∧ D[i]? = some d ∧ RelV v u) us ds ∧ EachIs (fun u d => ∃ as, Reads h u d as) us ds
  | [], [], [], _, _, _, _, _, _, _, _ => ⟨.nil, .nil⟩
  | w :: ws, u :: us, d :: ds, _, n, W, D, .cons r rs, .cons q qs, hW, hD => by
    obtain ⟨a, b⟩ := each_zip (ws := ws) (us := us) (ds := ds) (n + 1) W D rs qs (fun i => by rw [show n + 1 + i = n + (i + 1) by omega, hW]; rfl) (fun i => by rw [show n + 1 + i = n + (i + 1) by omega, hD]; rfl)
    exact ⟨.cons ⟨n, w, hW 0, hD 0, r⟩ a, .cons ⟨_, q⟩ b⟩
theorem cr_sortedD (hu : X.A.units + 100 < cLine) : CallR X (.builtin "sorted") (rSortedD X.K) := by
  intro pins s σ H vs us Q I r h
  obtain ⟨l, ws, ds, rfl, hs, hd, ha, hk, hz, h60, q⟩ := h
  obtain ⟨its, rv, hl, _⟩ := I.list hs
  obtain ⟨as, hr⟩ := Dp.readsAll I _ _ _ hd rv
  obtain ⟨e1, e2⟩ := each_zip (h := s.heap) 0 ws ds rv hr (fun i => by rw [Nat.zero_add]) (fun i => by rw [Nat.zero_add])
  rw [Vals.ref1 r]
  refine sorted_data (enc := id) (bs := ds) (vs := its) (R := fun u d => ∃ (i : Nat) (v : V), ws[i]? = some v ∧ ds[i]? = some d ∧ RelV v u) hl.isList e1 e2 (by rw [List.map_id]; exact ha) (by rw [List.map_id]; exact hk) (Nat.le_trans hz (by decide)) (fun b hb => by have := h60 b hb; show X.A.units + 2 + b.depth < cLine; omega) fun out hlen eo => ?_
  obtain ⟨vs', a, b⟩ := each_vals eo
  obtain ⟨ep, he'⟩ := PyProof.Rows.sortedAll_at s.heap its out.toArray
  have hlen : vs'.length ≤ sizeLine := by
    have := a.length
    rw [this, hlen]
    exact Nat.le_trans hz (by decide)
  exact ⟨.ref _, upd H (s.heap.objs.size + 1) (.lst vs'), I.laid (t' := s.toks) (fun _ _ => PyProof.Rows.sortedAll_old) (Nat.le_succ _) ⟨hlen, out, ep, a, he'⟩, rfl, q vs' _ b (I.hok.fresh (Nat.le_succ _))⟩
theorem k_sortedD {ds : List PyData} (hu : X.A.units + 100 < cLine) (hn : noDictAll ds = true) (ha : AllAlike ds) (hk : Sortable ds) (hz : ds.length ≤ 1000000) (h60 : forall d, d ∈ ds -> d.depth ≤ 60) : CalD X (.builtin "sorted") [.list ds] (.list (ds.mergeSort (dataLe false id))) := ⟨_, cr_sortedD hu, fun vs G H Q gh dv q => by
  cases dv with
  | cons h1 h2 =>
    cases h2
    cases h1 with
    | lst s1 a1 =>
      refine ⟨_, _, ds, rfl, .inl (.inl (gh _ _ s1)), (a1.mono gh).dp hn, ha, hk, hz, h60, fun vs' p e hp => ?_⟩
      refine q _ _ _ (.new gh hp) (.lst upd_same ?_)
      have : DqAll X.K G vs' (ds.mergeSort (dataLe false id)) := by
        generalize ds.mergeSort (dataLe false id) = es at e
        induction e with
        | nil => exact .nil
        | cons h _ ih =>
          obtain ⟨i, e1, e2⟩ := h
          obtain ⟨w, f1, f2⟩ := a1.get e2
          rw [e1] at f1
          cases f1
          exact .cons f2 ih
      exact this.mono (same_new (gh.free hp))⟩
/-- what is in order stays -/
theorem k_sortedS {ds : List PyData} (hu : X.A.units + 100 < cLine) (hn : noDictAll ds = true) (ha : AllAlike ds) (hk : Sortable ds) (hz : ds.length ≤ 1000000) (h60 : forall d, d ∈ ds -> d.depth ≤ 60) (hs : ds.Pairwise fun a b => dataLe false id a b = true) : CalD X (.builtin "sorted") [.list ds] (.list ds) := by
  have h := k_sortedD (X := X) hu hn ha hk hz h60
  rw [List.mergeSort_of_pairwise hs] at h
  exact h
end
/-! ### tuple assignments of what may be new lists, dicts -/
section
variable {X : Cx} {N : En} {a b e : Expr} {es tgs : List Expr} {ρ ρ' : Rho} {d : PyData} {pos p p2 : Pos} {Φ : Post} {K : PySem.W.Frag} {G H : Hp} {σ : L2.St} {P : Hp}
/-- what v is, new since H0 -/
def NewOk (K : PySem.W.Frag) (H0 G H : Hp) (v : V) : Cell -> Prop
  | .any => False
  | .raw _ => False
  | .pin _ _ => False
  | .dat d => Dq K G v d
  | .owx x => ∃ q u, v = .ref q ∧ H0 q = none ∧ G q = none ∧ H q = some u ∧ OwnOk K G q u x
  | .fdc hs kvs => ∃ q o, v = .ref q ∧ G q = some (dR q o) ∧ DicV K G hs q o kvs
def NewAll (K : PySem.W.Frag) (H0 G H : Hp) : List V -> List Cell -> Prop
  | [], [] => True
  | v :: vs, c :: cs => NewOk K H0 G H v c ∧ (forall x, c = .owx x -> forall (j : Nat) (y : Own), cs[j]? = some (.owx y) -> vs[j]? ≠ some v) ∧ NewAll K H0 G H vs cs
  | _, _ => False
theorem NewOk.ext {H0 G' H' : Hp} {v : V} {c : Cell} (h : NewOk K H0 G H v c) (e : Ext G H G' H') : NewOk K H0 G' H' v c := by
  cases c with
  | any => exact h
  | raw _ => exact h
  | pin _ _ => exact h
  | dat d => exact Dq.mono e.g h
  | owx x =>
    obtain ⟨q, u, h1, h2, h3, h4, h5⟩ := h
    exact ⟨q, u, h1, h2, by rw [e.old q (by rw [h4]; exact fun z => nomatch z)]; exact h3, e.h _ _ h4, h5.mono e.g⟩
  | fdc hs kvs =>
    obtain ⟨q, o, h1, h2, h3⟩ := h
    exact ⟨q, o, h1, e.g _ _ h2, h3.mono e.g⟩
theorem NewOk.before {H0 H1 : Hp} {v : V} {c : Cell} (h : NewOk K H1 G H v c) (s : Same H0 H1) : NewOk K H0 G H v c := by
  cases c with
  | any => exact h
  | raw _ => exact h
  | pin _ _ => exact h
  | dat d => exact h
  | owx x =>
    obtain ⟨q, u, h1, h2, h3⟩ := h
    exact ⟨q, u, h1, s.free h2, h3⟩
  | fdc hs kvs => exact h
theorem NewAll.before {H0 H1 : Hp} (s : Same H0 H1) : forall {vs : List V} {cs : List Cell}, NewAll K H1 G H vs cs -> NewAll K H0 G H vs cs
  | [], [], _ => trivial
  | _ :: _, _ :: _, ⟨h1, h2, h3⟩ => ⟨h1.before s, h2, h3.before s⟩
  | [], _ :: _, h => h.elim
  | _ :: _, [], h => h.elim
theorem NewAll.ext {H0 G' H' : Hp} (e : Ext G H G' H') : forall {vs : List V} {cs : List Cell}, NewAll K H0 G H vs cs -> NewAll K H0 G' H' vs cs
  | [], [], _ => trivial
  | _ :: _, _ :: _, ⟨h1, h2, h3⟩ => ⟨h1.ext e, h2, h3.ext e⟩
  | [], _ :: _, h => h.elim
  | _ :: _, [], h => h.elim
theorem NewAll.len {H0 : Hp} : forall {vs : List V} {cs : List Cell}, NewAll K H0 G H vs cs -> vs.length = cs.length
  | [], [], _ => rfl
  | _ :: _, _ :: _, ⟨_, _, h⟩ => by rw [List.length_cons, List.length_cons, h.len]
  | [], _ :: _, h => h.elim
  | _ :: _, [], h => h.elim
/-- an expression's worth as a cell; arguments' -/
def GC (X : Cx) (e : Expr) (ρ : Rho) (c : Cell) : Prop := forall (σ : L2.St) (G H : Hp) (Q : VK), Sta X.K G H σ ρ -> (forall v G' H', Ext G H G' H' -> NewOk X.K H G' H' v c -> Q v H') -> tw X e σ H Q
def GAc (X : Cx) (es : List Expr) (ρ : Rho) (cs : List Cell) : Prop := forall (σ : L2.St) (G H : Hp) (Q : List V -> Hp -> Prop), Sta X.K G H σ ρ -> (forall vs G' H', Ext G H G' H' -> NewAll X.K H G' H' vs cs -> Q vs H') -> twA X es σ H Q
theorem gc_of {t : TE} {c : Cell} (h : PE X e t) (hv : forall (σ : L2.St) (G H : Hp) (Q : VK), Sta X.K G H σ ρ -> (forall v G' H', Ext G H G' H' -> NewOk X.K H G' H' v c -> Q v H') -> t σ H Q) : GC X e ρ c := fun σ G H Q s q pins s' I => ⟨h.run pins s' σ H Q I (hv σ G H Q s q)⟩
theorem gc_dat (h : GE X e ρ d) : GC X e ρ (.dat d) := fun σ G H Q s q => h σ G H Q s fun v G' H' e1 dv => q v G' H' e1 dv
theorem gc_dict0 : GC X (.Dict [] [] p) ρ (.dic (hsW X.w) []) := gc_of pe_xdnew fun σ G H Q s q a o ha ho =>
  q _ G _ ⟨Same.refl G, same_new ha, s.gh.trans (same_new ha), fun _ _ => rfl⟩ ⟨a, dR a o, rfl, ha, s.gh.free ha, upd_same, o, rfl, [], ho, trivial⟩
theorem gc_dict1 {k : PyData} (hu : X.A.units + 64 < cLine) (hk : GE X a ρ k) (he : GE X b ρ d) (hkey : isKey k = true) : GC X (.Dict [some a] [b] p) ρ (.dic (hsW X.w) [(k, d)]) := gc_of (pe_xdisp hu pe_tw pe_tw) fun σ G H Q s q pp o0 hp ho0 => by
  have ext0 : Ext G H G (upd H pp (dR pp o0)) := ⟨Same.refl G, same_new hp, s.gh.trans (same_new hp), fun _ _ => rfl⟩
  refine hk σ G _ _ (s.ext ext0) fun x G1 H1 e1 dk => he σ G1 H1 _ ((s.ext ext0).ext e1) fun y G2 H2 e2 dd => ?_
  have e02 := (ext0.trans e1).trans e2
  have h0 : H2 pp = some (dR pp o0) := (e1.trans e2).h _ _ upd_same
  obtain ⟨b', rfl⟩ := dk.key hkey
  refine ⟨h0, b', nk k, rfl, ⟨k, (dk.mono e2.g).mono e2.gh, hkey, rfl⟩, fun o u ru hdo => ?_⟩
  have g0 : G2 pp = none := by
    rw [(e1.trans e2).old pp (by rw [upd_same]; exact fun z => nomatch z)]
    exact s.gh.free hp
  refine q _ G2 _ ⟨e02.g, fun bb uu z => by rw [upd_ne (ne_of_none z hp)]; exact e02.h bb uu z, fun bb uu z => by rw [upd_ne (ne_of_none z g0)]; exact e02.gh bb uu z, fun bb hb => e02.old bb hb⟩ ⟨pp, dR pp o, rfl, hp, g0, upd_same, o, rfl, _, hdo, ⟨rfl, dk.mono e2.g, ⟨y, ru, dd⟩, hkey⟩, trivial⟩
theorem gc_list {ds : List PyData} (ha : GA X es ρ ds) (hz : ds.length ≤ 100000 := by exact Nat.le_of_ble_eq_true rfl) : GC X (.List es p) ρ (.own ds) := gc_of (pe_lst pa_tw) fun σ G H Q s q => ha σ G H _ s fun vs G1 H1 e1 dv => by
  refine ⟨by rw [dv.length]; exact Nat.le_trans hz (by decide), fun a hp => ?_⟩
  exact q _ G1 _ ⟨e1.g, e1.h.trans (same_new hp), e1.gh.trans (same_new hp), e1.old⟩ ⟨a, .lst vs, rfl, e1.h.free hp, e1.gh.free hp, upd_same, vs, rfl, dv⟩
theorem gc_fdc (i : Nat) {y : Str} {kvs : List (PyData × PyData)} {hs : NestedKey -> Int} (hc : ρ[i]? = some (.fdc hs kvs) := by rfl) (hi : X.N[i]? = some y := by rfl) (hv : Vis X.env.scope y := by first | exact Or.inl rfl | exact Or.inr (Or.inl rfl) | exact Or.inr (Or.inr rfl)) (hd : (y == ("__debug__" : Str)) = false := by decide) (hcd : (y == ("__classdict__" : Str)) = false := by decide) :
    GC X (.Name y p) ρ (.fdc hs kvs) := gc_of (pe_var hi hv hd hcd) fun σ G H Q s q => by
  obtain ⟨ov, h1, a, o, rfl, h2, h3⟩ := s.at_ i _ hc
  exact ⟨.ref a, h1, q _ G H (.refl s.gh) ⟨a, o, rfl, h2, h3⟩⟩
theorem gac_nil : GAc X [] ρ [] := fun σ G H Q s q pos pins s' I => ⟨pa_nil.run pos pins s' σ H Q I (q [] G H (.refl s.gh) trivial)⟩
theorem NewAll.at_ {H0 : Hp} : forall {vs : List V} {cs : List Cell} {j : Nat} {c : Cell}, NewAll K H0 G H vs cs -> cs[j]? = some c -> ∃ v, vs[j]? = some v ∧ NewOk K H0 G H v c
  | [], [], _, _, _, e => by simp at e
  | v :: vs, c :: cs, 0, _, ⟨a, _, _⟩, e => by simp at e; subst e; exact ⟨v, rfl, a⟩
  | v :: vs, c :: cs, j + 1, _, ⟨_, _, t⟩, e => by
    obtain ⟨v', h1, h2⟩ := NewAll.at_ (j := j) t (by simpa using e)
    exact ⟨v', by simpa using h1, h2⟩
  | [], _ :: _, _, _, h, _ => h.elim
  | _ :: _, [], _, _, h, _ => h.elim
theorem gac_cons {c : Cell} {cs : List Cell} (h : GC X e ρ c) (hr : GAc X es ρ cs) (hst : starEach (e :: es) X.env = (false, eval e X.env) :: starEach es X.env := by rfl) : GAc X (e :: es) ρ (c :: cs) := fun σ G H Q s q pos pins s' I => by
  refine ⟨(pa_cons pe_tw pa_tw hst).run pos pins s' σ H Q I (h σ G H _ s fun v G1 H1 e1 nv => hr σ G1 H1 _ (s.ext e1) fun vs G2 H2 e2 nvs => q (v :: vs) G2 H2 (e1.trans e2) ?_)⟩
  have hd : forall x, c = .owx x -> forall (j : Nat) (y : Own), cs[j]? = some (.owx y) -> vs[j]? ≠ some v := fun x hx j y hy hj => by
    subst hx
    obtain ⟨q1, u1, rfl, a1, a2, a3, a4⟩ := nv
    obtain ⟨v', b1, q2, u2, rfl, b2, _⟩ := nvs.at_ hy
    rw [hj] at b1
    cases b1
    rw [a3] at b2
    cases b2
  exact ⟨nv.ext e2, hd, nvs.before e1.h⟩
theorem Sta.setCell {H0 : Hp} {v : V} {c : Cell} (s : Sta K G H σ ρ) (i : Nat) (h : NewOk K H0 G H v c) (ap : forall x, c = .owx x -> forall (j : Nat) (y : Own), j ≠ i -> ρ[j]? = some (.owx y) -> σ[j]? ≠ some (some v)) : Sta K G H (σ.set i (some v)) (ρ.set i c) := by
  refine ⟨s.gh, by rw [List.length_set, List.length_set]; exact s.len, fun j d hd => ?_, fun a b q x y h1 h2 h3 h4 => ?_⟩
  · rcases set_get hd with ⟨rfl, rfl⟩ | ⟨hij, hd⟩
    · have hl := (List.getElem?_eq_some_iff.mp hd).1
      rw [List.length_set] at hl
      refine ⟨some v, List.getElem?_set_self (by rw [s.len]; exact hl), ?_⟩
      cases d with
      | any => exact h.elim
      | raw _ => exact h.elim
      | pin _ _ => exact h.elim
      | dat d => exact ⟨v, rfl, h⟩
      | owx x =>
        obtain ⟨q, u, e1, e2, e3, e4, e5⟩ := h
        exact ⟨q, u, by rw [e1], e3, e4, e5⟩
      | fdc hs kvs =>
        obtain ⟨q, o, e1, e2, e3⟩ := h
        exact ⟨q, o, by rw [e1], e2, e3⟩
    · obtain ⟨ov, o1, o2⟩ := s.at_ j d hd
      exact ⟨ov, by rw [List.getElem?_set_ne hij]; exact o1, o2⟩
  · rcases set_get h1 with ⟨rfl, e1⟩ | ⟨n1, o1⟩
    · rcases set_get h2 with ⟨rfl, _⟩ | ⟨n2, o2⟩
      · rfl
      · rw [List.getElem?_set_ne n2] at h4
        rcases set_get h3 with ⟨_, z⟩ | ⟨z, _⟩
        · cases z
          exact absurd h4 (ap x e1.symm b y (fun z => n2 z.symm) o2)
        · exact absurd rfl z
    · rw [List.getElem?_set_ne n1] at h3
      rcases set_get h2 with ⟨rfl, e2⟩ | ⟨n2, o2⟩
      · rcases set_get h4 with ⟨_, z⟩ | ⟨z, _⟩
        · cases z
          exact absurd h3 (ap y e2.symm a x (fun z => n1 z.symm) o1)
        · exact absurd rfl z
      · rw [List.getElem?_set_ne n2] at h4
        exact s.apart a b q x y o1 o2 h3 h4
def putCells : List Nat -> List Cell -> Rho -> Option Rho
  | [], [], ρ => some ρ
  | i :: is, c :: cs, ρ => putCells is cs (ρ.set i c)
  | _, _, _ => none
/-- own cells: of old, or new since H0 -/
theorem rdCells {H0 h0 : Hp} {Q : L2.St -> Hp -> Prop} (hh : Same h0 H0) : forall {is : List Nat} {cs : List Cell} {vs : List V} {ρ ρ' : Rho} {σ : L2.St}, putCells is cs ρ = some ρ' -> Sta K G H σ ρ -> NewAll K H0 G H vs cs ->
    (forall (j : Nat) (y : Own) (q : Addr), ρ[j]? = some (.owx y) -> σ[j]? = some (some (.ref q)) -> h0 q = none) ->
    (forall (j : Nat) (y : Own) (q : Addr), ρ[j]? = some (.owx y) -> σ[j]? = some (some (.ref q)) -> H0 q ≠ none ∨ forall (k : Nat) (z : Own), cs[k]? = some (.owx z) -> vs[k]? ≠ some (.ref q)) ->
    (forall σ', Sta K G H σ' ρ' -> (forall (j : Nat) (y : Own) (q : Addr), ρ'[j]? = some (.owx y) -> σ'[j]? = some (some (.ref q)) -> h0 q = none) -> Q σ' H) -> rdAll is vs σ H Q
  | [], [], [], _, _, _, e, s, _, fr, _, q => by
    cases e
    exact ⟨rfl, q _ s fr⟩
  | i :: is, c :: cs, v :: vs, ρ, ρ', σ, e, s, ⟨nv, nd, nvs⟩, fr, old, q => by
    refine ⟨v, vs, rfl, ?_⟩
    have st := s.setCell (v := v) (c := c) i nv (fun x hx j y hj ho hs => by
      subst hx
      obtain ⟨qa, u, rfl, a1, a2, a3, a4⟩ := nv
      rcases old j y qa ho hs with z | z
      · exact z a1
      · exact z 0 x rfl rfl)
    refine rdCells hh (is := is) (cs := cs) (vs := vs) (ρ := ρ.set i c) (σ := σ.set i (some v)) e st nvs ?_ ?_ q
    · intro j y qa ho hs
      rcases set_get ho with ⟨rfl, e1⟩ | ⟨n, ho⟩
      · rcases set_get hs with ⟨_, z⟩ | ⟨z, _⟩
        · cases z
          rw [← e1] at nv
          obtain ⟨qb, u, z, a1, _⟩ := nv
          cases z
          exact hh.free a1
        · exact absurd rfl z
      · rw [List.getElem?_set_ne n] at hs
        exact fr j y qa ho hs
    · intro j y qa ho hs
      rcases set_get ho with ⟨rfl, e1⟩ | ⟨n, ho⟩
      · rcases set_get hs with ⟨_, z⟩ | ⟨z, _⟩
        · cases z
          exact .inr fun k z hk => nd y e1.symm k z hk
        · exact absurd rfl z
      · rw [List.getElem?_set_ne n] at hs
        rcases old j y qa ho hs with z | z
        · exact .inl z
        · exact .inr fun k zz hk => z (k + 1) zz (by simpa using hk) |> fun f g => f (by simpa using g)
  | [], _ :: _, _, _, _, _, e, _, _, _, _, _ => by simp [putCells] at e
  | _ :: _, [], _, _, _, _, e, _, _, _, _, _ => by simp [putCells] at e
  | _ :: _, _ :: _, [], _, _, _, _, _, h, _, _, _ => h.elim
  | [], [], _ :: _, _, _, _, _, _, h, _, _, _ => h.elim
/-- x, y, .. = e1, e2, .. -/
theorem g1_asgC {is : List Nat} {cs : List Cell} {kt k2 : Nat} {pt pt2 : Pos} (ht : PGs X tgs (rdAll is)) (ha : GAc X es ρ cs) (hp : putCells is cs ρ = some ρ') (h : Φ.nx ρ') (hz : cs.length ≤ 100 := by exact Nat.le_of_ble_eq_true rfl)
    (hl : cs.length = is.length := by rfl) (hc : X.calm = true := by rfl) (hn : (assignEach tgs X.env).length = is.length := by rfl) (hst : (assignEach tgs X.env).findIdx? (·.1) = none := by rfl)
    (hs : swapsWithSole [.Tuple tgs kt pt] (.Tuple es k2 pt2) pos.line X.env = pure false := by rfl) (hw : swappedStores [.Tuple tgs kt pt] (.Tuple es k2 pt2) X.env = pure none := by rfl)
    (h1 : (assignEach [.Tuple tgs kt pt] X.env).map (·.2) = [assign (.Tuple tgs kt pt) X.env] := by rfl) : G1 X N (.Assign [.Tuple tgs kt pt] (.Tuple es k2 pt2) pos) ρ Φ :=
  g1_of (ps_asg (pe_tup pa_tw) (pg_tup hc ht hn hst) hs hw h1) fun P σ H f => by
    obtain ⟨G, e0, sp, sta, fr⟩ := f
    refine ha σ G H _ sta fun vs G1 H1 e1 nvs => ?_
    refine ⟨by rw [nvs.len]; exact Nat.le_trans hz (by decide), fun t htf => ?_⟩
    have e2 : Ext G1 H1 G1 (upd H1 t (.tup vs)) := ⟨Same.refl _, same_new htf, e1.gh.trans (same_new htf), fun _ _ => rfl⟩
    refine ⟨t, vs, rfl, .inl (.inl upd_same), by rw [nvs.len]; exact hl, ?_⟩
    have e12 := e1.trans e2
    refine rdCells (H0 := H) (h0 := N.h) e0.h hp (sta.ext e12) (nvs.ext e2) fr (fun j y q ho hs => .inl fun z => ?_) fun σ' s' fr' => ⟨ρ', ⟨G1, e0.trans e12, sp.trans e12.g, s', fr'⟩, h⟩
    obtain ⟨qa, u, a1, a2, a3, _⟩ := sta.owx ho
    rw [hs] at a1
    cases a1
    rw [z] at a3
    cases a3
end
end Gd

namespace Gd
open PySem PySem.Spec L2 PyProof.Rows
/-! ### sorted(set(xs)), xs a list of ints -/
section
variable {P : Program} {w : World} {A : Around} {E : Value → Shared → Prop} {s : Shared}
/-- set(l) as a set whose order is known enough to be sorted -/
theorem set_listI {l : Addr} {items : Array Value} (ns : List Int) {Q : Value → Shared → Prop} (hh : A.handled = none) (hl : s.heap.IsList l items) (hit : IntsAre items.toList ns) (hb : ns.length + 1 < scanBound)
    (h : ∀ (h' : Heap) (tk c : Nat), SetR w h' s.heap.objs.size (fun j => decide (j ∈ ns)) c → c ≤ ns.length → (∀ b o, s.heap.get? b = some o → h'.get? b = some o) → Q (.ref s.heap.objs.size) { s with heap := h', toks := tk }) :
    wpAny (model P w) A (call (.type "set") [.ref l]) Q E s := by
  have hsize : items.size = ns.length := by rw [← Array.length_toList]; exact IntsAre.length hit
  obtain ⟨c, tl, hmro⟩ := F.called_set.mro
  have hmade := F.called_set.made
  have hsub := F.called_set.sub
  refine wpAny_call (codeAny_of_tree ?_)
  show wpAny _ _ (callAny (.type "set") _) _ _ _
  refine wpAny_pure ⟨Code.quiet_builtin _ (by decide +kernel), codeAny_builtin F.entry_type_call ?_⟩
  rw [Around.under_plain (weight_type_call_type "set" [.ref l] []) rfl]
  have h1 := F.called_set.notType
  have h2 := F.called_set.canCreate
  have hct := F.typeCall_set_1 (.ref l)
  repeat (any_goals (first | assumption | wp_step))
  refine codeAny_mono (code_set_led1 (.ref l) (E := E) (Q₁ := fun obj s₁ => obj = .ref s.heap.objs.size ∧ s₁ = { s with heap := s.heap.push { cls := .type "set", dict := none, data := .set #[] 0 (.fresh 0 0 (!w.params.followText "set-order")) } }) ⟨rfl, rfl⟩) fun r s₁ hr => ?_
  cases r with
  | error e => exact hr
  | ok fl =>
    cases fl with
    | ret obj =>
      obtain ⟨rfl, rfl⟩ := hr
      have hS : (s.heap.push { cls := .type "set", dict := none, data := .set #[] 0 (.fresh 0 0 (!w.params.followText "set-order")) }).get? s.heap.objs.size = some { cls := .type "set", dict := none, data := .set #[] 0 (.fresh 0 0 (!w.params.followText "set-order")) } := Heap.get?_push_size _ rfl
      have hT : Shared.TypeIs { s with heap := s.heap.push { cls := .type "set", dict := none, data := .set #[] 0 (.fresh 0 0 (!w.params.followText "set-order")) } } (.ref s.heap.objs.size) "set" := ⟨_, hS, rfl⟩
      have hli := F.called_set.init.lookup
      have hbi := F.called_set.init.bind (.ref s.heap.objs.size)
      repeat (any_goals (first | assumption | wp_step))
      refine codeAny_mono (codeAny_call_builtin (R := wants (fun r s₂ => r = .none ∧ ∃ h' tk c, s₂ = { s with heap := h', toks := tk } ∧ SetR w h' s.heap.objs.size (fun j => decide (j ∈ ns)) c ∧ c ≤ ns.length ∧ (∀ b o, s.heap.get? b = some o → h'.get? b = some o)) E) F.called_set.init.plain F.entry_set_init (check_set_init_1 hT ?_)) fun r₂ s₂ hr₂ => ?_
      · obtain ⟨ol, hol, hcl, nl, hdl⟩ := hl
        obtain ⟨ocls, odict, odata, oslots⟩ := ol
        simp only at hcl hdl
        subst hcl; subst hdl
        have hol' : (s.heap.push { cls := .type "set", dict := none, data := .set #[] 0 (.fresh 0 0 (!w.params.followText "set-order")) }).get? l = some { cls := .type "list", dict := odict, data := .seq items nl, slots := oslots } := Heap.get?_push_of_some _ hol
        have hsls := F.sub_list_set
        have hslf := F.sub_list_frozenset
        have hne : (Value.type "list" == Value.type "dict") = false := by decide
        have hl1 : (s.heap.push { cls := .type "set", dict := none, data := .set #[] 0 (.fresh 0 0 (!w.params.followText "set-order")) }).IsList l items := ⟨_, hol', rfl, nl, rfl⟩
        unfold Builtin.«set.__init__» noKeywords Builtin.Frozenset.updateFrom
        generalize hPI : pyIter = PI
        wp_walk
        subst hPI
        refine wpAny_pyIter_list hl1 ?_
        refine wpAny_bind (wpAny_runValue ?_)
        have lt : l < s.heap.objs.size := Heap.lt_size hol
        have hneI : l ≠ (s.heap.push { cls := .type "set", dict := none, data := .set #[] 0 (.fresh 0 0 (!w.params.followText "set-order")) }).objs.size := by rw [Heap.size_push]; exact Nat.ne_of_lt (Nat.lt_succ_of_lt lt)
        have hSf : s.heap.objs.size ∉ [(s.heap.push { cls := .type "set", dict := none, data := .set #[] 0 (.fresh 0 0 (!w.params.followText "set-order")) }).objs.size, l] := by
          rw [Heap.size_push]
          simp only [List.mem_cons, List.mem_singleton, List.not_mem_nil, or_false, not_or]
          exact ⟨Nat.ne_of_lt (Nat.lt_succ_self _), Nat.ne_of_gt lt⟩
        have hval : ∀ (i : Nat) (v : Value), items[i]? = some v → ∃ k t, ns[i]? = some k ∧ v = .int k t := fun i v hv => by
          have hi : i < ns.length := by rw [← hsize]; exact (Array.getElem?_eq_some_iff.mp hv).1
          obtain ⟨t, e⟩ := IntsAre.int_at hit i v (by rw [Array.getElem?_toList]; exact hv)
          refine ⟨ns[i], t, List.getElem?_eq_getElem hi, ?_⟩
          rw [e, List.getD_eq_getElem?_getD, List.getElem?_eq_getElem hi] <;> rfl
        refine set_update_ints ((Walks.list (by simp [hh]) _ l hneI items).toS) s.heap.objs.size hSf ns hsize hb hval (items.size - 0) 0 _ (by omega) (Nat.zero_le _) ⟨⟨_, Heap.get?_push_size _ rfl, rfl, rfl⟩, (hl1.push _)⟩ ⟨0, Nat.le_refl 0, setR_new_at (Heap.get?_push_of_some _ hS)⟩ ?_
        intro s' c' hm hc' hS'
        obtain ⟨h', g2, d', tk', os'⟩ := s'
        have eg : g2 = s.gens := hm.gens
        have ed : d' = s.drawn := hm.drawn
        have eo : os' = s.os := hm.os
        subst eg; subst ed; subst eo
        show wpAny _ _ _ _ _ _
        refine wpAny_pure ?_
        show wpAny _ _ (ret Value.none) _ _ _
        refine wpAny_pure ⟨rfl, h', tk', c', rfl, hS', by omega, fun b o e => ?_⟩
        have hb0 : b < s.heap.objs.size := Heap.lt_size e
        refine hm.heap b o ?_ (Heap.get?_push_of_some _ (Heap.get?_push_of_some _ e))
        rw [Heap.size_push]
        simp only [List.mem_cons, List.mem_singleton, List.not_mem_nil, or_false, not_or]
        exact ⟨Nat.ne_of_lt hb0, Nat.ne_of_lt (Nat.lt_succ_of_lt hb0)⟩
      · cases r₂ with
        | error e => exact hr₂
        | ok fl₂ =>
          cases fl₂ with
          | ret r =>
            obtain ⟨rfl, h', tk, c', rfl, hS', hc', hk'⟩ := hr₂
            repeat (any_goals (first | assumption | wp_step))
            exact h _ _ _ hS' hc' hk'
          | _ => exact hr₂.elim
    | _ => exact hr.elim
end
theorem dq_ints {K : PySem.W.Frag} {G : Hp} : ∀ {vs : List V} {ns : List Int}, DqAll K G vs (ns.map PyData.int) → vs = ns.map V.int
  | _, [], .nil => rfl
  | _, n :: ns, .cons h t => by
    rw [dq_ints t]
    cases h
    rfl
theorem dq_ints2 {K : PySem.W.Frag} {G : Hp} : ∀ (ns : List Int), DqAll K G (ns.map V.int) (ns.map PyData.int)
  | [] => .nil
  | n :: ns => .cons (.int n) (dq_ints2 ns)
theorem pw_eq : ∀ {as bs : List Int}, as.Pairwise (· < ·) → bs.Pairwise (· < ·) → (∀ k, k ∈ as ↔ k ∈ bs) → as = bs
  | [], [], _, _, _ => rfl
  | [], b :: bs, _, _, h => absurd ((h b).mpr List.mem_cons_self) List.not_mem_nil
  | a :: as, [], _, _, h => absurd ((h a).mp List.mem_cons_self) List.not_mem_nil
  | a :: as, b :: bs, h1, h2, h => by
    rw [List.pairwise_cons] at h1 h2
    have e : a = b := by
      rcases List.mem_cons.mp ((h a).mp List.mem_cons_self) with e | e
      · exact e
      · rcases List.mem_cons.mp ((h b).mpr List.mem_cons_self) with e2 | e2
        · exact e2.symm
        · have := h2.1 a e
          have := h1.1 b e2
          omega
    subst e
    rw [pw_eq h1.2 h2.2 fun k => ?_]
    constructor
    · intro hk
      rcases List.mem_cons.mp ((h k).mp (List.mem_cons_of_mem _ hk)) with e | e
      · have := h1.1 k hk; omega
      · exact e
    · intro hk
      rcases List.mem_cons.mp ((h k).mpr (List.mem_cons_of_mem _ hk)) with e | e
      · have := h2.1 k hk; omega
      · exact e
section
variable {X : Cx} {a : Expr} {ρ : Rho} {p p2 q pos : Pos}
def tSortSetI (K : PySem.W.Frag) (ta : TE) : TE := fun σ H Q => ta σ H fun x H1 => ∃ (l : Addr) (ns : List Int), x = .ref l ∧ SqL K H1 l (ns.map V.int) ∧ ns.length < 64 ∧
  ∀ (ms : List Int) (p : Addr), ms.Pairwise (· < ·) → (∀ k : Int, k ∈ ms ↔ k ∈ ns) → H1 p = none → Q (.ref p) (upd H1 p (.lst (ms.map V.int)))
theorem pe_sortSetI {ta : TE} (hg : Gl X "sorted") (hm : X.mg "sorted" = none) (hg2 : Gl X "set") (hm2 : X.mg "set" = none) (ha : PE X a ta) (hc : X.calm = true := by rfl)
    (na : starEach [a] X.env = (false, eval a X.env) :: starEach [] X.env := by rfl) : PE X (.Call (.Name "sorted" p) [.Call (.Name "set" p2) [a] [] q] [] pos) (tSortSetI X.K ta) := by
  refine ⟨fun pins s σ H Q I h => ?_⟩
  refine Call_ (ld_blt I hg hm (by rfl) ?_)
  refine callWith_builtin1 (args_cons ?_ rfl) rfl rfl
  refine Call_ (ld_blt I hg2 hm2 boot_set ?_)
  refine callWith_type1 (args_cons (thn (ha.run pins s σ H _ I h) fun v s1 ⟨x, H1, I1, r1, q1⟩ => args_nil ?_) na) na rfl
  obtain ⟨l, ns, rfl, hq, hl, q1⟩ := q1
  cases r1
  obtain ⟨its, r, pl, hz⟩ := I1.list hq
  refine set_listI ns (I1.ok.hd hc) pl.isList (by simpa using ints_of_vals r) (by unfold scanBound; omega) fun h' tk c hS hcl hk => ?_
  refine args_nil ?_
  have I2 : Inv X pins σ H1 { s1 with heap := h', toks := tk } := I1.kept fun b o e => hk b o e
  refine sorted_set hS (I2.ok.hd hc) (by omega) fun s' p out c ms k g o hp hg hi hs hm hl2 => ?_
  have hlen : (ms.map V.int).length ≤ sizeLine := by rw [List.length_map, hl2, sizeLine_eq]; omega
  have hn : H1 p = none := I2.hok.fresh hp
  have J : Inv X pins σ (upd H1 p (.lst (ms.map V.int))) { ({ s1 with heap := h', toks := tk } : Shared) with heap := s'.heap, gens := s'.gens, drawn := s'.drawn, toks := s'.toks } :=
    I2.call (ch := []) (Un.laid k hp hn) (I2.hok.laid k hp ⟨hlen, out.toList, c, vals_of_ints hi, hg⟩) (by rw [g]; exact I2.bare) (fun _ z => nomatch z)
  have e : s' = { ({ s1 with heap := h', toks := tk } : Shared) with heap := s'.heap, gens := s'.gens, drawn := s'.drawn, toks := s'.toks } := by
    cases s'
    cases s1
    cases o
    rfl
  rw [e]
  exact ⟨.ref p, _, J, rfl, q1 ms p hs (fun k => by rw [hm k, decide_eq_true_eq]) hn⟩
theorem ge_sortSetI {ns ms : List Int} (hm : X.mg "sorted" = none) (hm2 : X.mg "set" = none) (ha : GE X a ρ (.list (ns.map PyData.int))) (hl : ns.length < 64) (hs : ms.Pairwise (· < ·)) (he : ∀ k : Int, k ∈ ms ↔ k ∈ ns) (hg : Gl X "sorted" := by rfl) (hg2 : Gl X "set" := by rfl) (hc : X.calm = true := by rfl)
    (na : starEach [a] X.env = (false, eval a X.env) :: starEach [] X.env := by rfl) : GE X (.Call (.Name "sorted" p) [.Call (.Name "set" p2) [a] [] q] [] pos) ρ (.list (ms.map PyData.int)) :=
  ge_of (pe_sortSetI hg hm hg2 hm2 pe_tw hc na) fun σ G H Q st k => ha σ G H _ st fun v G1 H1 e1 dv => by
    cases dv with
    | lst s1 a1 =>
      refine ⟨_, ns, rfl, ?_, hl, fun ms2 p h1 h2 hp => ?_⟩
      · have := dq_ints a1
        rw [← this]
        exact .inl (.inl (e1.gh _ _ s1))
      · have e : ms2 = ms := pw_eq h1 hs fun k => (h2 k).trans (he k).symm
        rw [e]
        exact k _ _ _ (e1.trans (.new e1.gh hp)) (.lst upd_same (dq_ints2 ms))
end
end Gd

namespace Gd
open PySem PySem.Spec L2 PySem.W
/-! ### sorted over ints, none twice -/
theorem k_sortI {X : Cx} {ns ms : List Int} (hu : X.A.units + 100 < cLine) (hz : ns.length ≤ 1000000) (hn : ns.Nodup) (hs : ms.Pairwise (· < ·)) (he : ∀ k : Int, k ∈ ms ↔ k ∈ ns) : CalD X (.builtin "sorted") [.list (ns.map PyData.int)] (.list (ms.map PyData.int)) := by
  have h := k_sortedD (X := X) (ds := ns.map PyData.int) hu ?_ (AllAlike.of fun a b => by simp [alike]) (Sortable.others fun a => ⟨(fun z => nomatch z), (fun xs z => nomatch z)⟩) (by rw [List.length_map]; exact hz) (fun d hd => by
    obtain ⟨a, _, rfl⟩ := List.mem_map.mp hd
    simp [PyData.depth])
  · have e : (ns.map PyData.int).mergeSort (dataLe false id) = (ns.mergeSort fun a b => decide (a ≤ b)).map PyData.int := by
      refine (List.map_mergeSort fun a _ b _ => ?_).symm
      exact (congrFun (congrFun (dataLe_int (id : Int → Int)) a) b).symm
    have e2 : (ns.mergeSort fun a b => decide (a ≤ b)) = ms := by
      have pm := List.mergeSort_perm ns fun a b => decide (a ≤ b)
      have pw : (ns.mergeSort fun a b => decide (a ≤ b)).Pairwise fun a b => decide (a ≤ b) = true := List.pairwise_mergeSort (fun a b c h1 h2 => by
        have h1 := of_decide_eq_true h1
        have h2 := of_decide_eq_true h2
        exact decide_eq_true (by omega)) (fun a b => by
        by_cases h : a ≤ b
        · simp [h]
        · have : b ≤ a := by omega
          simp [this]) ns
      have nd : (ns.mergeSort fun a b => decide (a ≤ b)).Nodup := pm.nodup_iff.mpr hn
      refine pw_eq ?_ hs fun k => (pm.mem_iff).trans (he k).symm
      refine (pw.and nd).imp fun {a b} ⟨h1, h2⟩ => ?_
      have h1 := of_decide_eq_true h1
      have h2 : a ≠ b := h2
      omega
    rw [e, e2] at h
    exact h
  · have : forall l : List Int, noDictAll (l.map PyData.int) = true := fun l => by
      induction l with
      | nil => rfl
      | cons x L ih => rw [List.map_cons, noDictAll, ih]; rfl
    exact this ns
end Gd

namespace Gd
open PySem PySem.Spec L2
section
variable {X : Cx} {N : En} {a b : Expr} {es : List Expr} {ρ : Rho} {d d2 : PyData} {ds : List PyData} {pos : Pos} {Φ : Post}
/-! ### (x, y, ..).index(z) of texts -/
def tTupM (r : V -> List V -> Hp -> VK -> Prop) (t t2 : TA) : TE := fun σ H Q => t σ H fun xs H1 => xs.length ≤ sizeLine ∧ forall p, H1 p = none -> t2 σ (upd H1 p (.tup xs)) fun ys H2 => r (.ref p) ys H2 Q
theorem pe_tupM {es2 : List Expr} {e : Expr} {x1 : Nat} {tp apos cpos : Pos} {t t2 : TA} {name : Str} {id : String} {r : V -> List V -> Hp -> VK -> Prop} (slot : Slot "tuple" name id) (hty : typeOf (.builtin id) = pure (.type "method_descriptor")) (hm : MtR X id r) (h : PA X es t) (ha : PA X (e :: es2) t2)
    (hbase : attributeBase (.Tuple es x1 tp) name X.env (eval (.Tuple es x1 tp) X.env) = eval (.Tuple es x1 tp) X.env := by rfl)
    (hfew : ((backTo cpos (starEach (e :: es2) X.env)).all (fun x => !x.1) && (backToKw cpos (keywordEach [] X.env)).all (fun x => x.1.isSome)
      && decide ((e :: es2).length + ([] : List Keyword).length + (if ([] : List Keyword).isEmpty then 0 else 1) < 30)) = true := by rfl)
    (hline : (apos.endLine == cpos.line) = true := by rfl) (hs : starEach (e :: es2) X.env = (false, eval e X.env) :: starEach es2 X.env := by rfl) (hplain : (backTo cpos (starEach es2 X.env)).any (·.1) = false := by rfl) :
    PE X (.Call (.Attribute (.Tuple es x1 tp) name apos) (e :: es2) [] cpos) (tTupM r t t2) := by
  refine ⟨fun pins s σ H Q I hq => ?_⟩
  refine wpAny_Call_method_late hbase hfew hline rfl (wpAny_Tuple_spliced (thn (h.run tp pins s σ H _ I hq) fun us s1 ⟨xs, H1, I1, r1, z, q⟩ => ⟨by rw [← r1.length]; exact z, ?_⟩))
  have hf : H1 s1.heap.objs.size = none := I1.hok.fresh (Nat.le_refl _)
  have hg := Heap.get?_push_size s1.heap (o := { cls := .type "tuple", data := .seq us.toArray }) rfl
  refine ⟨"tuple", id, PySem.F.plainAttrs_tuple, slot, hty, ⟨_, hg, rfl⟩, fun a e => by cases e; exact ⟨_, hg, rfl⟩, ?_⟩
  have I2 := I1.laid (t' := s1.toks) (fun b u e => Heap.get?_push_of_some _ e) (Nat.le_refl _) (show ObjOk X.prog X.w _ _ _ (.tup xs) from ⟨z, us, r1, ⟨_, hg, rfl, _, rfl⟩⟩)
  have hA := ha.run cpos pins _ σ _ _ I2 (q _ hf)
  rw [hs] at hA ⊢
  refine Calls.callWith_builtin (by show (false || (backTo cpos (starEach es2 X.env)).any (·.1)) = false; rw [hplain] <;> rfl) (Calls.evalArgs_plain ?_)
  exact thn hA fun us s2 ⟨vs, H2, I2, r2, q2⟩ => hm pins s2 σ H2 (.ref s1.heap.objs.size) vs (.ref s1.heap.objs.size) us Q I2 rfl r2 q2
theorem ge_indexT {ys : List Str} {z : Str} {j x1 : Nat} {tp apos : Pos} (ha : GA X es ρ (ys.map PyData.str)) (hz : ys.length ≤ 1000) (hb : GE X b ρ (.str z)) (hj : ys[j]? = some z) (hn : forall m, m < j -> ys[m]? ≠ some z)
    (hbase : attributeBase (.Tuple es x1 tp) "index" X.env (eval (.Tuple es x1 tp) X.env) = eval (.Tuple es x1 tp) X.env := by rfl)
    (hfew : ((backTo pos (starEach (b :: []) X.env)).all (fun x => !x.1) && (backToKw pos (keywordEach [] X.env)).all (fun x => x.1.isSome) && decide ((b :: []).length + ([] : List Keyword).length + (if ([] : List Keyword).isEmpty then 0 else 1) < 30)) = true := by rfl)
    (hline : (apos.endLine == pos.line) = true := by rfl) (hs1 : starEach (b :: []) X.env = (false, eval b X.env) :: starEach [] X.env := by rfl) (hplain : (backTo pos (starEach [] X.env)).any (·.1) = false := by rfl) : GE X (.Call (.Attribute (.Tuple es x1 tp) "index" apos) [b] [] pos) ρ (.int (j : Nat)) :=
  ge_of (pe_tupM PySem.F.slot_tuple_index PySem.F.type_tuple_index mt_tup_index pa_tw (pa_cons pe_tw pa_nil hs1) hbase hfew hline hs1 hplain) fun σ G H Q s q => ha σ G H _ s fun vs G1 H1 e1 dv => by
    rw [dv.strs]
    refine ⟨by rw [List.length_map, sizeLine_eq]; omega, fun p hp => ?_⟩
    have e2 : Ext G H (upd G1 p (.tup (ys.map V.str))) (upd H1 p (.tup (ys.map V.str))) := e1.trans (.new e1.gh hp)
    refine hb σ _ _ _ (s.ext e2) fun v2 G2 H2 e3 d2 => ?_
    cases d2
    exact ⟨_, ys, z, j, rfl, rfl, .inl (.inl (e3.h _ _ upd_same)), hj, hn, q _ G2 H2 (e2.trans e3) (.int _)⟩
/-! ### tuple(a list) -/
theorem k_tupleL : CalD X (.type "tuple") [.list ds] (.tuple ds) := ⟨_, call_tuple_of, fun vs G H Q gh dv q => by
  cases dv with
  | cons h1 h2 =>
    cases h2
    cases h1 with
    | @lst p xs _ s1 a1 =>
      refine ⟨p, xs, rfl, .inl ⟨.inl (.inl (gh _ _ s1)), fun l hl => ?_⟩⟩
      exact q _ _ _ (.new gh hl) (.tup (.inl (.inl upd_same)) (a1.mono (same_new (gh.free hl))))⟩
/-! ### lists of numbers and None -/
def opI : Option Int -> PyData
  | none => .none
  | some n => .int n
def opV : Option Int -> V
  | none => .non
  | some n => .int n
theorem DqAll.opts {K : PySem.W.Frag} {G : Hp} : forall {vs : List V} {ns : List (Option Int)}, DqAll K G vs (ns.map opI) -> vs = ns.map opV
  | _, [], .nil => rfl
  | _, none :: _, .cons h t => by
    cases h
    rw [DqAll.opts t]
    rfl
  | _, some _ :: _, .cons h t => by
    cases h
    rw [DqAll.opts t]
    rfl
theorem flat_opts (ns : List (Option Int)) : (ns.map opV).all flatV = true := by
  rw [List.all_map, List.all_eq_true]
  intro x _
  cases x <;> rfl
theorem inV_opts (ns : List (Option Int)) : inV .non (ns.map opV) = decide (none ∈ ns) := by
  unfold inV
  rw [Bool.eq_iff_iff, List.any_eq_true, decide_eq_true_eq]
  constructor
  · rintro ⟨y, hy, e⟩
    obtain ⟨x, hx, rfl⟩ := List.mem_map.mp hy
    cases x with
    | none => exact hx
    | some n => cases e
  · intro h
    exact ⟨_, List.mem_map.mpr ⟨_, h, rfl⟩, rfl⟩
theorem c_noneIn {ns : List (Option Int)} : CmpD X .In .none (.list (ns.map opI)) (decide (none ∈ ns)) := ⟨_, op_in_seq, fun v1 v2 G H Q gh h1 h2 q => by
  cases h1
  cases h2 with
  | @lst p xs _ s1 a1 =>
    rw [DqAll.opts a1] at s1
    refine ⟨p, _, rfl, .inl (.inl (.inl (gh _ _ s1))), rfl, flat_opts ns, ?_⟩
    rw [if_neg Bool.false_ne_true, inV_opts]
    exact q _ G H (.refl gh) (.bl _)⟩
theorem ge_indexO {ns : List (Option Int)} {n : Int} {j : Nat} {apos : Pos} (ha : GE X a ρ (.list (ns.map opI))) (hb : GE X b ρ (.int n)) (hj : ns[j]? = some (some n)) (hn : forall m, m < j -> ns[m]? ≠ some (some n))
    (hbase : attributeBase a "index" X.env (eval a X.env) = eval a X.env := by rfl)
    (hfew : ((backTo pos (starEach (b :: []) X.env)).all (fun x => !x.1) && (backToKw pos (keywordEach [] X.env)).all (fun x => x.1.isSome) && decide ((b :: []).length + ([] : List Keyword).length + (if ([] : List Keyword).isEmpty then 0 else 1) < 30)) = true := by rfl)
    (hline : (apos.endLine == pos.line) = true := by rfl) (hs1 : starEach (b :: []) X.env = (false, eval b X.env) :: starEach [] X.env := by rfl) (hplain : (backTo pos (starEach [] X.env)).any (·.1) = false := by rfl) : GE X (.Call (.Attribute a "index" apos) [b] [] pos) ρ (.int (j : Nat)) :=
  ge_of (pe_bm PySem.F.plainAttrs_list PySem.F.slot_list_index PySem.F.type_list_index mt_index pe_tw (pa_cons pe_tw pa_nil hs1) hbase hfew hline hs1 hplain) fun σ G H Q s q => ha σ G H _ s fun v G1 H1 e1 dv => by
    cases dv with
    | lst s1 a1 =>
      rw [DqAll.opts a1] at s1
      refine ⟨.inl ⟨rfl, _, .inl (.inl (e1.gh _ _ s1))⟩, hb σ G1 H1 _ (s.ext e1) fun v2 G2 H2 e2 d2 => ?_⟩
      cases d2
      refine ⟨_, ns.map opV, .int n, j, .int n, rfl, rfl, .inl (.inl (e2.h _ _ (e1.gh _ _ s1))), rfl, flat_opts ns, by rw [List.getElem?_map, hj]; rfl, by show (n == n) = true; exact beq_self_eq_true n, fun m z hm hz => ?_, q _ G2 H2 (e1.trans e2) (.int _)⟩
      rw [List.getElem?_map] at hz
      cases hx : ns[m]? with
      | none => rw [hx] at hz; cases hz
      | some o =>
        rw [hx] at hz
        cases hz
        cases o with
        | none => rfl
        | some k =>
          show (k == n) = false
          rw [beq_eq_false_iff_ne]
          intro e
          exact hn m hm (by rw [hx, e])
/-! ### "DRW".index(sign) -/
def ixS (c : Nat) : Nat := if c = 68 then 0 else if c = 82 then 1 else 2
theorem ge_drw {apos : Pos} {c : Nat} (hc : c = 68 ∨ c = 82 ∨ c = 87) (ha : GE X a ρ (.str (S [68, 82, 87]))) (hb : GE X b ρ (.str (S [c]))) (hs : starEach [b] X.env = [(false, eval b X.env)] := by rfl) (hbase : attributeBase a "index" X.env (eval a X.env) = eval a X.env := by rfl) (hline : (apos.endLine == pos.line) = true := by rfl) :
    GE X (.Call (.Attribute a "index" apos) [b] [] pos) ρ (.int (ixS c : Nat)) :=
  ge_m1 PySem.F.slot_str_index PySem.F.type_str_index mt_sindex ha hb (fun v G H Q gh dv q => by
    cases dv
    refine ⟨_, _, ixS c, [], rfl, rfl, ?_, q _ _ _ (.refl gh) (.int _)⟩
    rcases hc with rfl | rfl | rfl <;> decide +kernel) hs hbase hline
end
end Gd

namespace Gd
open PySem PySem.Spec L2
/-! ### objects that are known whole for a while: added to what is tracked, taken out of it -/
theorem dR_has {P : Program} {w : World} {H : Hp} {h : Heap} {a : Addr} {o : Obj} (e : h.get? a = some o) : ObjOk P w H h a (dR a o) := ⟨e, ⟨o, e⟩, fun h1 h2 z st => st _ z⟩
theorem dR_is {P : Program} {w : World} {H : Hp} {h : Heap} {a : Addr} {o : Obj} (hok : HOk P w H h) (e : H a = some (dR a o)) : h.get? a = some o := (hok a _ e).1
abbrev Dm := Addr -> Option Obj
def addH (H : Hp) (D : Dm) : Hp := fun b => match D b with | some o => some (dR b o) | none => H b
def delH (H : Hp) (D : Dm) : Hp := fun b => match D b with | some _ => none | none => H b
theorem addH_in {H : Hp} {D : Dm} {b : Addr} {o : Obj} (e : D b = some o) : addH H D b = some (dR b o) := by unfold addH; rw [e]
theorem addH_out {H : Hp} {D : Dm} {b : Addr} (e : D b = none) : addH H D b = H b := by unfold addH; rw [e]
theorem delH_in {H : Hp} {D : Dm} {b : Addr} {o : Obj} (e : D b = some o) : delH H D b = none := by unfold delH; rw [e]
theorem delH_out {H : Hp} {D : Dm} {b : Addr} (e : D b = none) : delH H D b = H b := by unfold delH; rw [e]
theorem addH_some {H : Hp} {D : Dm} {b : Addr} {u : HO} (h : addH H D b = some u) (n : forall o, u ≠ dR b o) : D b = none ∧ H b = some u := by
  cases e : D b with
  | none => rw [addH_out e] at h; exact ⟨rfl, h⟩
  | some o => rw [addH_in e] at h; exact absurd (Option.some.inj h).symm (n o)
theorem addH_none {H : Hp} {D : Dm} {b : Addr} (h : addH H D b = none) : D b = none ∧ H b = none := by
  cases e : D b with
  | none => rw [addH_out e] at h; exact ⟨rfl, h⟩
  | some o => rw [addH_in e] at h; cases h
theorem delH_some {H : Hp} {D : Dm} {b : Addr} {u : HO} (h : delH H D b = some u) : D b = none ∧ H b = some u := by
  cases e : D b with
  | none => rw [delH_out e] at h; exact ⟨rfl, h⟩
  | some o => rw [delH_in e] at h; cases h
/-- what is added stands in the heap, is not tracked, is no frame -/
def AddOk (D : Dm) (H : Hp) (h : Heap) (fs : List Addr) : Prop := forall c o, D c = some o -> H c = none ∧ h.get? c = some o ∧ c ∉ fs
theorem dR_ne {b : Addr} {o : Obj} {u : HO} (h : match u with | .ext _ => False | _ => True) : u ≠ dR b o := fun z => by
  subst z
  exact h
theorem hok_add {P : Program} {w : World} {H : Hp} {h : Heap} {D : Dm} (hok : HOk P w H h) (hn : forall c o, D c = some o -> H c = none) (hg : forall c o, D c = some o -> h.get? c = some o) : HOk P w (addH H D) h := fun b u e => by
  cases eD : D b with
  | some o =>
    rw [addH_in eD] at e
    cases e
    exact dR_has (hg b o eD)
  | none =>
    rw [addH_out eD] at e
    refine (hok b u e).stay (fun _ _ _ q => q) (fun d q => ?_) fun d xs q => ?_
    · have n : D d = none := by
        cases z : D d with
        | none => rfl
        | some o => rw [hn d o z] at q; cases q
      rw [addH_out n]; exact q
    · have n : D d = none := by
        cases z : D d with
        | none => rfl
        | some o => rw [hn d o z] at q; cases q
      rw [addH_out n]; exact q
theorem hok_del {P : Program} {w : World} {H : Hp} {h : Heap} {D : Dm} (hok : HOk P w H h) (hn : forall c o, D c = some o -> H c = some (dR c o)) : HOk P w (delH H D) h := fun b u e => by
  obtain ⟨eD, e⟩ := delH_some e
  refine (hok b u e).stay (fun _ _ _ q => q) (fun d q => ?_) fun d xs q => ?_
  · have n : D d = none := by
      cases z : D d with
      | none => rfl
      | some o => rw [hn d o z] at q; cases q
    rw [delH_out n]; exact q
  · have n : D d = none := by
      cases z : D d with
      | none => rfl
      | some o => rw [hn d o z] at q; cases q
    rw [delH_out n]; exact q
section
variable {P : Program} {w : World} {outer : List Env} {H : Hp} {s s' : Shared} {D : Dm} {Q Q' : VK} {E E' : XK} {r : Result}
/-- a call's end, seen with D tracked besides -/
theorem cr_add (hD : AddOk D H s.heap (frs outer)) (hQ : forall v H', (forall c o, D c = some o -> H' c = none) -> Q v H' -> Q' v (addH H' D)) (hE : forall cls d H', (forall c o, D c = some o -> H' c = none) -> E cls d H' -> E' cls d (addH H' D)) (h : CR (L2.CX P w) outer P w H s Q E r s') : CR (L2.CX P w) outer P w (addH H D) s Q' E' r s' := by
  cases r with
  | ok fl =>
    cases fl with
    | ret u =>
      obtain ⟨v, H', os, bare, un, hok, rv, q⟩ := h
      have hn : forall c o, D c = some o -> H' c = none := fun c o e => un.free c o (hD c o e).2.1 (hD c o e).1 (by simp)
      refine ⟨v, addH H' D, os, bare, ⟨fun b o e n hb hx => ?_, fun b o e n hb hx => ?_, fun b o e n hx => ?_, un.there, fun b xs e => ?_, fun b o xs e => ?_, fun b ps e => ?_⟩, hok_add hok hn fun c o e => un.keep c o (hD c o e).2.1 (hD c o e).1 (hD c o e).2.2 (by simp), rv, hQ v H' hn q⟩
      · exact un.keep b o e (addH_none n).2 hb hx
      · exact un.slot b o e (addH_none n).2 hb hx
      · rw [addH_out (addH_none n).1]; exact un.free b o e (addH_none n).2 hx
      · obtain ⟨e1, e2⟩ := addH_some e fun _ => dR_ne trivial
        rw [addH_out e1]; exact un.tups b xs e2
      · obtain ⟨e1, e2⟩ := addH_some e fun _ => dR_ne trivial
        rw [addH_out e1]; exact un.frzs b o xs e2
      · obtain ⟨e1, e2⟩ := addH_some e fun _ => dR_ne trivial
        rw [addH_out e1]; exact un.tbls b ps e2
    | next => exact h
    | brk => exact h
    | cont => exact h
  | error e =>
    obtain ⟨a, B, H', cls, d, rfl, fl, hok, ub, na, os, ag, hq⟩ := h
    have hn : forall c o, D c = some o -> H' c = none := fun c o e => ub.free c o (hD c o e).2.1 (hD c o e).1
    have hg : forall c o, D c = some o -> B.get? c = some o := fun c o e => ub.keep c o (hD c o e).2.1 (hD c o e).1 (hD c o e).2.2
    have naD : D a = none := by
      cases z : D a with
      | none => rfl
      | some o =>
        have := hg a o z
        rw [fl.2.1] at this
        cases this
    refine ⟨a, B, addH H' D, cls, d, rfl, fl, hok_add hok hn hg, ⟨fun b o e n hb => ?_, ub.slot, fun b o e n => ?_, ub.there, fun b xs e => ?_, fun b o xs e => ?_, fun b ps e => ?_⟩, by rw [addH_out naD]; exact na, os, ag, hE _ _ _ hn hq⟩
    · exact ub.keep b o e (addH_none n).2 hb
    · rw [addH_out (addH_none n).1]; exact ub.free b o e (addH_none n).2
    · obtain ⟨e1, e2⟩ := addH_some e fun _ => dR_ne trivial
      rw [addH_out e1]; exact ub.tups b xs e2
    · obtain ⟨e1, e2⟩ := addH_some e fun _ => dR_ne trivial
      rw [addH_out e1]; exact ub.frzs b o xs e2
    · obtain ⟨e1, e2⟩ := addH_some e fun _ => dR_ne trivial
      rw [addH_out e1]; exact ub.tbls b ps e2
/-- a call's end, seen without D -/
theorem cr_del (hD : AddOk D H s.heap (frs outer)) (hQ : forall v H', Q' v H' -> (forall c o, D c = some o -> H' c = some (dR c o)) ∧ Q v (delH H' D)) (hE : forall cls d H', E' cls d H' -> (forall c o, D c = some o -> H' c = some (dR c o)) ∧ E cls d (delH H' D)) (h : CR (L2.CX P w) outer P w (addH H D) s Q' E' r s') : CR (L2.CX P w) outer P w H s Q E r s' := by
  have toA : forall b, H b = none -> D b = none -> addH H D b = none := fun b n z => by rw [addH_out z]; exact n
  have out : forall b u, H b = some u -> D b = none := fun b u e => by
    cases z : D b with
    | none => rfl
    | some o => rw [(hD b o z).1] at e; cases e
  cases r with
  | ok fl =>
    cases fl with
    | ret u =>
      obtain ⟨v, H', os, bare, un, hok, rv, q⟩ := h
      obtain ⟨hn, q⟩ := hQ v H' q
      refine ⟨v, delH H' D, os, bare, ⟨fun b o e n hb hx => ?_, fun b o e n hb hx => ?_, fun b o e n hx => ?_, un.there, fun b xs e => ?_, fun b o xs e => ?_, fun b ps e => ?_⟩, hok_del hok hn, rv, q⟩
      · cases z : D b with
        | none => exact un.keep b o e (toA b n z) hb hx
        | some o' =>
          have e' := (hD b o' z).2.1
          rw [e] at e'
          cases e'
          exact dR_is hok (hn b _ z)
      · cases z : D b with
        | none => exact un.slot b o e (toA b n z) hb hx
        | some o' => exact absurd hb (hD b o' z).2.2
      · cases z : D b with
        | none => rw [delH_out z]; exact un.free b o e (toA b n z) hx
        | some o' => exact delH_in z
      · have z := out b _ e
        rw [delH_out z]
        exact un.tups b xs (by rw [addH_out z]; exact e)
      · have z := out b _ e
        rw [delH_out z]
        exact un.frzs b o xs (by rw [addH_out z]; exact e)
      · have z := out b _ e
        rw [delH_out z]
        exact un.tbls b ps (by rw [addH_out z]; exact e)
    | next => exact h
    | brk => exact h
    | cont => exact h
  | error e =>
    obtain ⟨a, B, H', cls, d, rfl, fl, hok, ub, na, os, ag, hq⟩ := h
    obtain ⟨hn, hq⟩ := hE cls d H' hq
    refine ⟨a, B, delH H' D, cls, d, rfl, fl, hok_del hok hn, ⟨fun b o e n hb => ?_, ub.slot, fun b o e n => ?_, ub.there, fun b xs e => ?_, fun b o xs e => ?_, fun b ps e => ?_⟩, ?_, os, ag, hq⟩
    · cases z : D b with
      | none => exact ub.keep b o e (toA b n z) hb
      | some o' =>
        have e' := (hD b o' z).2.1
        rw [e] at e'
        cases e'
        exact dR_is hok (hn b _ z)
    · cases z : D b with
      | none => rw [delH_out z]; exact ub.free b o e (toA b n z)
      | some o' => exact delH_in z
    · have z := out b _ e
      rw [delH_out z]
      exact ub.tups b xs (by rw [addH_out z]; exact e)
    · have z := out b _ e
      rw [delH_out z]
      exact ub.frzs b o xs (by rw [addH_out z]; exact e)
    · have z := out b _ e
      rw [delH_out z]
      exact ub.tbls b ps (by rw [addH_out z]; exact e)
    · cases z : D a with
      | none => rw [delH_out z]; exact na
      | some o' => exact delH_in z
theorem env0_add {K : PySem.W.Frag} {mg : Str -> Option Value} {base : Heap} {A : Around} (e0 : Env0 P w K mg base A outer s H) (hD : AddOk D H s.heap (frs outer)) (hb : forall c o, D c = some o -> base.get? c = none) : Env0 P w K mg base A outer s (addH H D) := by
  refine ⟨e0.frames, e0.mod, fun b o e => ⟨(e0.bs b o e).1, ?_⟩, e0.bsz, e0.funs, fun b h => ?_, hok_add e0.hok (fun c o e => (hD c o e).1) fun c o e => (hD c o e).2.1, e0.bare⟩
  · have z : D b = none := by
      cases z : D b with
      | none => rfl
      | some o' => rw [hb b o' z] at e; cases e
    rw [addH_out z]; exact (e0.bs b o e).2
  · have z : D b = none := by
      cases z : D b with
      | none => rfl
      | some o' => exact absurd h (hD b o' z).2.2
    rw [addH_out z]; exact e0.frf b h
theorem env0_del {K : PySem.W.Frag} {mg : Str -> Option Value} {base : Heap} {A : Around} (e0 : Env0 P w K mg base A outer s H) (hn : forall c o, D c = some o -> H c = some (dR c o)) : Env0 P w K mg base A outer s (delH H D) := by
  refine ⟨e0.frames, e0.mod, fun b o e => ⟨(e0.bs b o e).1, ?_⟩, e0.bsz, e0.funs, fun b h => ?_, hok_del e0.hok hn, e0.bare⟩
  · cases z : D b with
    | none => rw [delH_out z]; exact (e0.bs b o e).2
    | some o' => exact delH_in z
  · cases z : D b with
    | none => rw [delH_out z]; exact e0.frf b h
    | some o' => exact delH_in z
theorem add_del (hn : forall c o, D c = some o -> H c = some (dR c o)) : addH (delH H D) D = H := by
  funext b
  cases z : D b with
  | none => rw [addH_out z, delH_out z]
  | some o => rw [addH_in z, hn b o z]
theorem del_add (hn : forall c o, D c = some o -> H c = none) : delH (addH H D) D = H := by
  funext b
  cases z : D b with
  | none => rw [delH_out z, addH_out z]
  | some o => rw [delH_in z, hn b o z]
end
end Gd

namespace Gd
open PySem PySem.Spec L2
/-! ### data does not lean on tables, nor on things that are known by a predicate -/
def Opq (u : HO) : Prop := (∃ φ, u = .ext φ) ∨ ∃ ps, u = .tbl ps
def Less (G G' : Hp) : Prop := forall b u, G b = some u -> G' b = some u ∨ Opq u
theorem Less.at {G G' : Hp} (l : Less G G') {b : Addr} {u : HO} (e : G b = some u) (n : match u with | .ext _ => False | .tbl _ => False | _ => True) : G' b = some u := by
  rcases l b u e with h | ⟨φ, rfl⟩ | ⟨ps, rfl⟩
  · exact h
  · exact n.elim
  · exact n.elim
mutual
theorem Dq.less {K : PySem.W.Frag} {G G' : Hp} (l : Less G G') : forall {v : V} {d : PyData}, Dq K G v d -> Dq K G' v d
  | _, _, .non => .non
  | _, _, .bl b => .bl b
  | _, _, .int i => .int i
  | _, _, .str x => .str x
  | _, _, .lst h a => .lst (l.at h trivial) (DqAll.less l a)
  | _, _, .tup h a => .tup (by
      rcases h with (h | ⟨o, h⟩) | h
      · exact .inl (.inl (l.at h trivial))
      · exact .inl (.inr ⟨o, l.at h trivial⟩)
      · exact .inr h) (DqAll.less l a)
  | _, _, .scr h e => .scr (by
      rcases h with (h | ⟨o, h⟩) | h
      · exact .inl (.inl (l.at h trivial))
      · exact .inl (.inr ⟨o, l.at h trivial⟩)
      · exact .inr h) e
  | _, _, .adr e => .adr e
theorem DqAll.less {K : PySem.W.Frag} {G G' : Hp} (l : Less G G') : forall {vs : List V} {ds : List PyData}, DqAll K G vs ds -> DqAll K G' vs ds
  | _, _, .nil => .nil
  | _, _, .cons h t => .cons (Dq.less l h) (DqAll.less l t)
end
theorem less_del {G : Hp} {D : Dm} (hn : forall c o, D c = some o -> forall u, G c = some u -> u = dR c o) : Less G (delH G D) := fun b u e => by
  cases z : D b with
  | none => exact .inl (by rw [delH_out z]; exact e)
  | some o =>
    rw [hn b o z u e]
    exact .inr (.inl ⟨_, rfl⟩)
theorem DqAll.getB {K : PySem.W.Frag} {G : Hp} {vs : List V} {ds : List PyData} (h : DqAll K G vs ds) {i : Nat} {d : PyData} (e : ds[i]? = some d) : ∃ v, vs[i]? = some v ∧ Dq K G v d := h.get e
/-! ### a function without parameters that raises -/
/-- calling f, wherever G is tracked, raises an error of the class at C -/
structure Th (P : Program) (w : World) (K : PySem.W.Frag) (mg : Str -> Option Value) (base : Heap) (k : Nat) (G : Hp) (f C : Addr) : Prop where
  fn : ∃ o, G f = some (dR f o) ∧ forall h : Heap, h.get? f = some o -> PySem.W.FnAt f h
  run : forall (A : Around) (outer : List Env) (s : Shared) (H : Hp) (E : XK), Room k A -> Env0 P w K mg base A outer s H -> Same G H -> (forall H', Same H H' -> E (.ref C) none H') ->
    codeAny (model P w) A (.call (.ref f) ⟨[], []⟩) (CR (L2.CX P w) outer P w H s (fun _ _ => False) E) s
theorem Th.mono {P : Program} {w : World} {K : PySem.W.Frag} {mg : Str -> Option Value} {base : Heap} {k : Nat} {G G' : Hp} {f C : Addr} (t : Th P w K mg base k G f C) (s : Same G G') : Th P w K mg base k G' f C :=
  ⟨let ⟨o, a, b⟩ := t.fn; ⟨o, s _ _ a, b⟩, fun A outer s' H E hr e0 sg hE => t.run A outer s' H E hr e0 (s.trans sg) hE⟩
section
variable {X : Cx} {N : En} {ρ : Rho} {pos p1 p2 : Pos} {x : Str} {k k' i : Nat} {f C : Addr} {A : Rho -> Prop} {φ : Hp -> Prop} {d : PyData} {v : V}
/-- the name in slot i, whose cell says what it is -/
theorem gvP (i : Nat) (h : forall G0, φ G0 -> Dq X.K G0 v d) (hc : ρ[i]? = some (.pin v φ) := by rfl) (hN : X.N[i]? = some x := by rfl) (hv : Vis X.env.scope x := by first | exact Or.inl rfl | exact Or.inr (Or.inl rfl) | exact Or.inr (Or.inr rfl)) (hd : (x == ("__debug__" : Str)) = false := by decide)
    (hcd : (x == ("__classdict__" : Str)) = false := by decide) : GE X (.Name x pos) ρ d := ge_of (pe_var hN hv hd hcd) fun σ G H Q hs q => by
  obtain ⟨ov, h1, h2, G0, h3, h4, h5⟩ := hs.at_ i _ hc
  subst h2
  exact ⟨v, h1, q v G H (.refl hs.gh) ((h G0 h5).mono h3)⟩
/-- x(), x a function that raises -/
theorem gx_thunk (i : Nat) (hth : forall G0, φ G0 -> Th X.prog X.w X.K X.mg X.base k G0 f C) (hr : Room k' X.A) (hx : Xok X N A C) (hA : A ρ) (hk : k ≤ k' := by decide) (hc : ρ[i]? = some (.pin (.ref f) φ) := by rfl) (hN : X.N[i]? = some x := by rfl) (hv : Vis X.env.scope x := by first | exact Or.inl rfl | exact Or.inr (Or.inl rfl) | exact Or.inr (Or.inr rfl)) (hd : (x == ("__debug__" : Str)) = false := by decide)
    (hcd : (x == ("__classdict__" : Str)) = false := by decide) : GX X N (.Call (.Name x p1) [] [] p2) ρ := fun P σ H fr pins s I => by
  refine Wp.mk ?_
  obtain ⟨W, tk, hW⟩ := hx
  obtain ⟨G, e0, sp, sta, fs⟩ := fr
  obtain ⟨ov, h1, h2, G0, h3, h4, h5⟩ := sta.at_ i _ hc
  subst h2
  have th := hth G0 h5
  refine wpAny_Call_Name_kw (thn ((pe_var (pos := p1) hN hv hd hcd).run pins s σ H (fun v H1 => v = .ref f ∧ H1 = H) I ⟨.ref f, h1, rfl, rfl⟩) fun u s1 ⟨v, H1, I1, r1, q1⟩ => ?_)
  obtain ⟨rfl, rfl⟩ := q1
  cases r1
  obtain ⟨o, of, fa⟩ := th.fn
  have gH : Same G0 H1 := h3.trans sta.gh
  refine PySem.W.callWith_F0 (fa _ (dR_is I1.hok (gH _ _ of))) ?_
  refine wpAny_call (codeAny_mono (th.run X.A X.stack s1 H1 (WE W σ) (hr.mono hk) I1.env0 gH fun H' sm => ?_) fun r s' hq => ?_)
  · have e2 : Ext G H1 G H' := ⟨Same.refl G, sm, sta.gh.trans sm, fun _ _ => rfl⟩
    exact hW P σ H' ρ hA ⟨G, e0.trans e2, sp, sta.ext e2, fs⟩
  · cases r with
    | error e => exact passAt tk σ pins H1 s1 e s' I1 hq
    | ok fl =>
      cases fl with
      | ret u =>
        obtain ⟨_, _, _, _, _, _, _, z⟩ := hq
        exact z.elim
      | next => exact False.elim hq
      | brk => exact False.elim hq
      | cont => exact False.elim hq
end
/-! ### what a lambda has captured -/
structure ClG (K : PySem.W.Frag) (G : Hp) (cl : List (Str × Addr)) (fr : List Str) (ds : List PyData) : Prop where
  inj : forall x y c, cl.lookup x = some c -> cl.lookup y = some c -> x = y
  all : forall y c, (y, c) ∈ cl -> ∃ (o : Obj) (v : Option Value), G c = some (dR c o) ∧ o.data = .cell v
  has : ∃ vs : List V, DqAll K G vs ds ∧ ds.length = fr.length ∧ forall (i : Nat) (y : Str) (v : V), fr[i]? = some y -> vs[i]? = some v -> ∃ (c : Addr) (o : Obj) (u : Value), cl.lookup y = some c ∧ G c = some (dR c o) ∧ o.data = .cell (some u) ∧ RelV v u
/-- a lambda's context -/
abbrev lcx (P : Program) (w : World) (K : PySem.W.Frag) (mg : Str -> Option Value) (base : Heap) (fr : List Str) (q : Str) (params : Arguments) (scope : Scope) (cl : List (Str × Addr)) (c' f : Addr) (A : Around) (outer : List Env) (s : Shared) (H : Hp) (E : XK) : Cx :=
  NdefX.ncx (L2.CX P w) P w K mg base fr ⟨"<lambda>", q, params, [], scope, cl, c'⟩ f A outer s H E
theorem lam_th {P : Program} {w : World} {K : PySem.W.Frag} {mg : Str -> Option Value} {base : Heap} {k : Nat} {G0 : Hp} {f c' C : Addr} {q : Str} {params : Arguments} {body : Expr} {scope : Scope} {cl : List (Str × Addr)} {pm ctv : Value} {fr : List Str} {ds : List PyData}
    (hf : G0 f = some (dR f (PySem.W.kla_obj "<lambda>" q params body scope cl pm c' ctv))) (hc : G0 c' = some (LamX.CodeO c' q)) (S : NdefX.NScope fr [] fr scope) (hcl : ClG K G0 cl fr ds)
    (hbind : bindArgs (PySem.W.kla_fn "<lambda>" q params body scope cl pm (.ref c') ctv) ⟨[], []⟩ = pure [])
    (hbody : forall (A : Around) (outer : List Env) (s : Shared) (H : Hp) (E : XK) (N : En), Room k (lcx P w K mg base fr q params scope cl c' f A outer s H E).A -> Xok (lcx P w K mg base fr q params scope cl c' f A outer s H E) N (fun _ => True) C ->
      GX (lcx P w K mg base fr q params scope cl c' f A outer s H E) N body (ds.map Cell.dat)) : Th P w K mg base (k + 1) G0 f C := by
  refine ⟨⟨_, hf, fun h e => ⟨_, _, _, _, e⟩⟩, fun A outer s H E hr e0 sg hE => ?_⟩
  generalize hD : (fun c => if c ∈ cl.map (·.2) then s.heap.get? c else none : Dm) = D
  have hDc : forall c o, D c = some o -> (∃ y, (y, c) ∈ cl) ∧ s.heap.get? c = some o := fun c o e => by
    rw [← hD] at e
    have e : (if c ∈ cl.map (·.2) then s.heap.get? c else none) = some o := e
    by_cases hm : c ∈ cl.map (·.2)
    · rw [if_pos hm] at e
      obtain ⟨p, hp, rfl⟩ := List.mem_map.mp hm
      exact ⟨⟨p.1, hp⟩, e⟩
    · rw [if_neg hm] at e
      cases e
  have hDi : forall y c o, (y, c) ∈ cl -> s.heap.get? c = some o -> D c = some o := fun y c o hm e => by
    rw [← hD]
    show (if c ∈ cl.map (·.2) then s.heap.get? c else none) = some o
    rw [if_pos (List.mem_map.mpr ⟨(y, c), hm, rfl⟩)]
    exact e
  have hG : forall c o, D c = some o -> G0 c = some (dR c o) := fun c o e => by
    obtain ⟨⟨y, hm⟩, hg⟩ := hDc c o e
    obtain ⟨o', v, h1, _⟩ := hcl.all y c hm
    have := dR_is e0.hok (sg _ _ h1)
    rw [hg] at this
    cases this
    exact h1
  have hn : forall c o, D c = some o -> H c = some (dR c o) := fun c o e => sg _ _ (hG c o e)
  have hadd : AddOk D (delH H D) s.heap (frs outer) := fun c o e => ⟨delH_in e, (hDc c o e).2, fun z => by
    have := e0.frf c z
    rw [hn c o e] at this
    cases this⟩
  have hof := dR_is e0.hok (sg _ _ hf)
  obtain ⟨⟨oc, vs, t, hoc, hdc, hvc⟩, _, _⟩ := e0.hok c' _ (sg _ _ hc)
  have lim : s.heap.NoLimit := e0.mod.nolimit.keeps fun b o e => (e0.bs b o e).1
  obtain ⟨ws, hws, hlen, hcv⟩ := hcl.has
  have key : codeAny (model P w) A (.call (.ref f) ⟨[], []⟩) (CR (L2.CX P w) outer P w (delH H D) s (fun _ _ => False) fun cls d H' => E cls d (addH H' D)) s := by
    refine PySem.W.kla_callFunE hr.depth hof rfl S.co S.gen rfl ⟨c', oc, vs, t, rfl, hoc, hdc, hvc⟩ ?_
    rw [hbind]
    refine wpAny_pure (wpAny_newFunctionEnv S.nocell (fun y hy => absurd hy (by simp)) (fun h₁ hns hsb => ⟨lim.fresh _ hsb, ?_⟩) S.kind)
    show codeAny _ _ (.expr body (lcx P w K mg base fr q params scope cl c' f A outer s (delH H D) fun cls d H' => E cls d (addH H' D)).env) _ _
    have kp : forall b o, s.heap.get? b = some o -> h₁.get? b = some o := fun b o e => hsb.extBut b o (Nat.ne_of_lt (Heap.lt_size e)) (Heap.get?_push_of_some _ e)
    have inC : forall y c, cl.lookup y = some c -> (y, c) ∈ cl := fun y c e => PySem.mem_of_lookup e
    have CA : NdefX.CellsAt cl fr (ws.map some) s.heap (delH H D) := by
      refine ⟨by rw [List.length_map, hws.length, hlen], fun y c e => ?_, hcl.inj, fun i y e => ?_⟩
      · obtain ⟨o, v, h1, h2⟩ := hcl.all y c (inC y c e)
        have hg := dR_is e0.hok (sg _ _ h1)
        exact ⟨delH_in (hDi y c o (inC y c e) hg), v, o, hg, h2⟩
      · have hi : i < ws.length := by rw [hws.length, hlen]; exact (List.getElem?_eq_some_iff.mp e).1
        obtain ⟨c, o, u, h1, h2, h3, h4⟩ := hcv i y ws[i] e (List.getElem?_eq_getElem hi)
        refine ⟨c, h1, fun v hv => ⟨u, ?_, o, dR_is e0.hok (sg _ _ h2), h3⟩⟩
        rw [List.getElem?_map, List.getElem?_eq_getElem hi] at hv
        cases hv
        exact h4
    have J := NdefX.inv_startN (CX := L2.CX P w) (F := ⟨"<lambda>", q, params, [], scope, cl, c'⟩) (f := f) (E := fun cls d H' => E cls d (addH H' D)) (us := []) (vs := []) (h₁ := h₁) (tk := s.toks + ([] : List (Str × Value)).length) S hr.hd (env0_del e0 hn) rfl .nil CA hns kp
    have gl : Less G0 (delH G0 D) := less_del fun c o e u eu => by
      rw [hG c o e] at eu
      exact (Option.some.inj eu).symm
    have g2 : Same (delH G0 D) (delH H D) := fun b u e => by
      obtain ⟨z, e⟩ := delH_some e
      rw [delH_out z]
      exact sg _ _ e
    have sta : Sta K (delH G0 D) (delH H D) (NdefX.startF fr [] (ws.map some)) (ds.map Cell.dat) := by
      have es : NdefX.startF fr [] (ws.map some) = ws.map some := by
        unfold NdefX.startF
        have : fr.length - ([] : List V).length - (ws.map some).length = 0 := by rw [List.length_map, hws.length, hlen]; simp
        rw [this]
        simp
      rw [es]
      refine ⟨g2, by rw [List.length_map, List.length_map, hws.length], fun i c hc => ?_, fun i j p x y h1 => ?_⟩
      · rw [List.getElem?_map] at hc
        cases hd : ds[i]? with
        | none => rw [hd] at hc; cases hc
        | some d =>
          rw [hd] at hc
          cases hc
          obtain ⟨v, hv, dv⟩ := hws.get hd
          exact ⟨some v, by rw [List.getElem?_map, hv]; rfl, v, rfl, dv.less gl⟩
      · rw [List.getElem?_map] at h1
        cases hd : ds[i]? with
        | none => rw [hd] at h1; cases h1
        | some d => rw [hd] at h1; cases h1
    have fr0 : Gd.Fr K ⟨delH G0 D, delH H D, fun _ => none⟩ (delH G0 D) (NdefX.startF fr [] (ws.map some)) (delH H D) (ds.map Cell.dat) := ⟨delH G0 D, ⟨.refl g2, fun _ _ z => nomatch z⟩, Same.refl _, sta, fun i x p h1 => by
      rw [List.getElem?_map] at h1
      cases hd : ds[i]? with
      | none => rw [hd] at h1; cases h1
      | some d => rw [hd] at h1; cases h1⟩
    refine PySem.W.kla_codeExpr (wpAny_mono (hbody A outer s (delH H D) (fun cls d H' => E cls d (addH H' D)) ⟨delH G0 D, delH H D, fun _ => none⟩ (hr.deeper _) ⟨fun cls d _ H' => E cls d (addH H' D), takes_of rfl rfl rfl rfl, fun P1 σ1 H1 ρ1 _ f1 => ?_⟩ _ _ _ fr0 [] _ J).run (fun v s' hq => ?_) fun e s' hq => hq)
    · obtain ⟨G1, e1, _⟩ := f1
      refine hE _ fun b u e => ?_
      cases z : D b with
      | none =>
        rw [addH_out z]
        exact e1.h b u (by show delH H D b = some u; rw [delH_out z]; exact e)
      | some o =>
        rw [addH_in z]
        rw [hn b o z] at e
        exact e
    · obtain ⟨_, _, _, _, z⟩ := hq
      exact z.elim
  have hC := codeAny_mono key fun r s' h => cr_add (Q' := fun _ _ => False) (E' := E) hadd (fun v H' _ z => z) (fun cls d H' _ z => z) h
  rw [add_del hn] at hC
  exact hC
end Gd

namespace Gd
open PySem PySem.Spec L2
/-! ### tables of code objects beside the data -/
/-- the tables T are tracked apart from G, the code objects that they tell stand in G -/
def TabG (T : List (Addr × Str)) (G H : Hp) : Prop := forall p, p ∈ T -> ∃ ps : Array Value, H p.1 = some (.tbl ps) ∧ G p.1 = none ∧ TriplesOk ps.toList ∧ forall (pos : Pos) (cv : Value), codeAmong pos ps.toList = some cv -> ∃ c, cv = .ref c ∧ G c = some (LamX.CodeO c p.2)
/-- Ext, but the tables may grow -/
structure ExtT (T : List (Addr × Str)) (G H G' H' : Hp) : Prop where
  g : Same G G'
  h : LamX.ExtN H H'
  gh : Same G' H'
  old : forall a, H a ≠ none -> G' a = G a
  tab : TabG T G' H'
theorem TabG.ext {T : List (Addr × Str)} {G H G' H' : Hp} (t : TabG T G H) (e : Ext G H G' H') : TabG T G' H' := fun p hp => by
  obtain ⟨ps, h1, h2, h3, h4⟩ := t p hp
  refine ⟨ps, e.h _ _ h1, by rw [e.old _ (by rw [h1]; exact fun z => nomatch z)]; exact h2, h3, fun pos cv hc => ?_⟩
  obtain ⟨c, a, b⟩ := h4 pos cv hc
  exact ⟨c, a, e.g _ _ b⟩
theorem Ext.toT {T : List (Addr × Str)} {G H G' H' : Hp} (e : Ext G H G' H') (t : TabG T G H) : ExtT T G H G' H' := ⟨e.g, LamX.ExtN.of e.h, e.gh, e.old, t.ext e⟩
theorem ExtT.trans {T : List (Addr × Str)} {G H G1 H1 G2 H2 : Hp} (a : ExtT T G H G1 H1) (b : ExtT T G1 H1 G2 H2) (ht : forall p ps, H p = some (.tbl ps) -> ∃ qs, H1 p = some (.tbl qs)) : ExtT T G H G2 H2 :=
  ⟨a.g.trans b.g, a.h.trans b.h, b.gh, fun x hx => by
    have h1 : H1 x ≠ none := fun z => by
      cases e : H x with
      | none => exact hx e
      | some o =>
        by_cases ho : ∃ ps, o = .tbl ps
        · obtain ⟨ps, rfl⟩ := ho
          obtain ⟨qs, e1⟩ := ht x ps e
          rw [z] at e1
          cases e1
        · have := a.h x o e fun ps y => ho ⟨ps, y⟩
          rw [z] at this
          cases this
    rw [b.old x h1, a.old x hx], b.tab⟩
/-- the reading of a lambda without parameters -/
def tLamT (X : Cx) (T : List (Addr × Str)) (params : Arguments) (body : Expr) (scope : Scope) : TE := fun σ H Q => ∃ G, Same G H ∧ TabG T G H ∧ forall (f c' : Addr) (pm ctv : Value) (G1 H1 : Hp), ExtT T G H G1 H1 -> (forall p ps, H p = some (.tbl ps) -> ∃ qs, H1 p = some (.tbl qs)) -> H f = none ->
  G1 f = some (dR f (PySem.W.kla_obj "<lambda>" (X.env.qual ++ "<lambda>") params body scope (cloFrom X.env.cells scope.names []) pm c' ctv)) -> G1 c' = some (LamX.CodeO c' (X.env.qual ++ "<lambda>")) -> Q (.ref f) H1
theorem tbl_ne {b : Addr} {o : Obj} (ps : Array Value) : dR b o ≠ HO.tbl ps := fun z => by
  unfold dR at z
  cases z
section
variable {X : Cx} {params : Arguments} {body : Expr} {scope : Scope} {pos : Pos} {T : List (Addr × Str)} {c P : Addr}
theorem pe_lamT (TB : LamX.TabB X.base X.mg c P) (hcode : X.env.code = .ref c) (hm : (P, X.env.qual ++ "<lambda>") ∈ T) (hu : forall p, p ∈ T -> p.1 = P -> p.2 = X.env.qual ++ "<lambda>") (L : LamX.LamS X.env.scope scope) (hdef : defaultsOf params X.env = ([], [])) :
    PE X (.Lambda params body scope pos) (tLamT X T params body scope) := by
  refine ⟨fun pins s σ H Q I hq => ?_⟩
  obtain ⟨G, gh, tab, q⟩ := hq
  obtain ⟨ps, hP, gP, ht, ha⟩ := tab _ hm
  have hP : H P = some (.tbl ps) := hP
  have gP : G P = none := gP
  have hPs : s.heap.get? P = some { cls := .none, data := .fields ps } := I.hok P _ hP
  have bP : s.heap.BuiltinsAt X.mg P := TB.bm.keeps I.bk
  have hclo := closure_ok (L.has I.ok)
  refine PySem.W.kla_eval hdef ?_
  cases hca : codeAmong pos ps.toList with
  | some cv =>
    obtain ⟨c', rfl, hco⟩ := ha pos cv hca
    refine PySem.W.kla_makeFunctionHit (mg := X.mg) hclo I.ok.glob (I.mod.glob.keeps I.bk) hcode (TB.code.keeps I.bk) hPs ht hca bP fun ctv h' tk hx hsz => ?_
    have I1 : Inv X pins σ H { s with heap := h', toks := tk } := I.kept hx
    have nf : H h'.objs.size = none := I.hok.fresh hsz
    have I2 := I1.laid (a := h'.objs.size) (o := dR h'.objs.size (PySem.W.kla_obj "<lambda>" (X.env.qual ++ "<lambda>") params body scope (cloFrom X.env.cells scope.names []) ((X.mg "__name__").getD .none) c' ctv)) (t' := tk)
      (h' := h'.push (PySem.W.kla_obj "<lambda>" (X.env.qual ++ "<lambda>") params body scope (cloFrom X.env.cells scope.names []) ((X.mg "__name__").getD .none) c' ctv)) (fun b u e => Heap.get?_push_of_some _ e) (Nat.le_refl _) (dR_has (Heap.get?_push_size _ rfl))
    have ex := Ext.new gh nf (o := dR h'.objs.size (PySem.W.kla_obj "<lambda>" (X.env.qual ++ "<lambda>") params body scope (cloFrom X.env.cells scope.names []) ((X.mg "__name__").getD .none) c' ctv))
    exact ⟨.ref h'.objs.size, _, I2, rfl, q h'.objs.size c' _ ctv _ _ (ex.toT tab) (fun p qs e => ⟨qs, ex.h _ _ e⟩) nf upd_same (ex.g _ _ hco)⟩
  | none =>
    refine PySem.W.kla_makeFunction (mg := X.mg) hclo I.ok.glob (I.mod.glob.keeps I.bk) hcode (TB.code.keeps I.bk) hPs ht hca TB.gP bP fun c' ctv h' tk hx hge hlt hrec htb => ?_
    obtain ⟨c2, oc, vs, t, e2, hoc, hd, hv⟩ := hrec
    cases e2
    have nc : H c' = none := I.hok.fresh hge
    have I1 := LamX.inv_table (t' := tk) (more := #[rawInt pos.line, rawInt pos.col, .ref c']) (h' := h') I hP (fun b o hb e => hx b o hb e) htb hge ⟨oc, vs, t, hoc, hd, hv⟩
    have nf1 := I1.hok.fresh (Nat.le_refl h'.objs.size)
    have hsz : s.heap.objs.size ≤ h'.objs.size := Nat.le_trans hge (Nat.le_of_lt hlt)
    have nf : H h'.objs.size = none := I.hok.fresh hsz
    have I2 := I1.laid (a := h'.objs.size) (o := dR h'.objs.size (PySem.W.kla_obj "<lambda>" (X.env.qual ++ "<lambda>") params body scope (cloFrom X.env.cells scope.names []) ((X.mg "__name__").getD .none) c' ctv)) (t' := tk)
      (h' := h'.push (PySem.W.kla_obj "<lambda>" (X.env.qual ++ "<lambda>") params body scope (cloFrom X.env.cells scope.names []) ((X.mg "__name__").getD .none) c' ctv)) (fun b u e => Heap.get?_push_of_some _ e) (Nat.le_refl _) (dR_has (Heap.get?_push_size _ rfl))
    have gc : G c' = none := gh.free nc
    have gf : G h'.objs.size = none := gh.free nf
    have nPc : P ≠ c' := ne_of_none hP nc
    have nPf : P ≠ h'.objs.size := ne_of_none hP nf
    have ncf : c' ≠ h'.objs.size := Nat.ne_of_lt hlt
    generalize hfo : PySem.W.kla_obj "<lambda>" (X.env.qual ++ "<lambda>") params body scope (cloFrom X.env.cells scope.names []) ((X.mg "__name__").getD .none) c' ctv = fo at I2
    have toG : forall b, b ≠ c' -> b ≠ h'.objs.size -> upd (upd G c' (LamX.CodeO c' (X.env.qual ++ "<lambda>"))) h'.objs.size (dR h'.objs.size fo) b = G b := fun b h1 h2 => by rw [upd_ne h2, upd_ne h1]
    have toH : forall b, b ≠ P -> b ≠ c' -> b ≠ h'.objs.size -> upd (upd (upd H P (.tbl (ps ++ #[rawInt pos.line, rawInt pos.col, .ref c']))) c' (LamX.CodeO c' (X.env.qual ++ "<lambda>"))) h'.objs.size (dR h'.objs.size fo) b = H b := fun b h0 h1 h2 => by rw [upd_ne h2, upd_ne h1, upd_ne h0]
    have hTP : upd (upd (upd H P (.tbl (ps ++ #[rawInt pos.line, rawInt pos.col, .ref c']))) c' (LamX.CodeO c' (X.env.qual ++ "<lambda>"))) h'.objs.size (dR h'.objs.size fo) P = some (.tbl (ps ++ #[rawInt pos.line, rawInt pos.col, .ref c'])) := by rw [upd_ne nPf, upd_ne nPc, upd_same]
    have sG : Same G (upd (upd G c' (LamX.CodeO c' (X.env.qual ++ "<lambda>"))) h'.objs.size (dR h'.objs.size fo)) := fun b o e => by
      rw [toG b (ne_of_none e gc) (ne_of_none e gf)]
      exact e
    have hcG : upd (upd G c' (LamX.CodeO c' (X.env.qual ++ "<lambda>"))) h'.objs.size (dR h'.objs.size fo) c' = some (LamX.CodeO c' (X.env.qual ++ "<lambda>")) := by rw [upd_ne ncf, upd_same]
    have eL : (ps ++ #[rawInt pos.line, rawInt pos.col, .ref c']).toList = ps.toList ++ [rawInt pos.line, rawInt pos.col, .ref c'] := by simp
    refine ⟨.ref h'.objs.size, _, I2, rfl, q h'.objs.size c' _ ctv (upd (upd G c' (LamX.CodeO c' (X.env.qual ++ "<lambda>"))) h'.objs.size (dR h'.objs.size fo)) _ ⟨sG, fun b o e n => ?_, fun b o e => ?_, fun a hx => ?_, fun p hp => ?_⟩ (fun p qs e => ?_) nf (by rw [hfo]; exact upd_same) hcG⟩
    · have h0 : b ≠ P := fun z => by
        rw [z, hP] at e
        exact n ps (Option.some.inj e).symm
      rw [toH b h0 (ne_of_none e nc) (ne_of_none e nf)]
      exact e
    · by_cases h2 : b = h'.objs.size
      · subst h2
        rw [upd_same] at e ⊢
        exact e
      · by_cases h1 : b = c'
        · subst h1
          rw [upd_ne h2, upd_same] at e ⊢
          exact e
        · rw [toG b h1 h2] at e
          have h0 : b ≠ P := fun z => by rw [z, gP] at e; cases e
          rw [toH b h0 h1 h2]
          exact gh b o e
    · exact toG a (fun z => hx (by rw [z]; exact nc)) fun z => hx (by rw [z]; exact nf)
    · by_cases hb : p.1 = P
      · rw [hu p hp hb, hb]
        refine ⟨_, hTP, by rw [toG P nPc nPf]; exact gP, by rw [eL]; exact PySem.TriplesOk_snoc _ _ _ _ ht, fun p' cv hcv => ?_⟩
        rw [eL] at hcv
        rcases LamX.among_app _ ht hcv with z | z
        · obtain ⟨c0, a1, a2⟩ := ha p' cv z
          exact ⟨c0, a1, sG _ _ a2⟩
        · exact ⟨c', z, hcG⟩
      · obtain ⟨ps', a1, a2, a3, a4⟩ := tab p hp
        refine ⟨ps', by rw [toH p.1 hb (ne_of_none a1 nc) (ne_of_none a1 nf)]; exact a1, by rw [toG p.1 (ne_of_none a1 nc) (ne_of_none a1 nf)]; exact a2, a3, fun p' cv hcv => ?_⟩
        obtain ⟨c0, b1, b2⟩ := a4 p' cv hcv
        exact ⟨c0, b1, sG _ _ b2⟩
    · by_cases hb : p = P
      · rw [hb]; exact ⟨_, hTP⟩
      · exact ⟨qs, by rw [toH p hb (ne_of_none e nc) (ne_of_none e nf)]; exact e⟩
end
/-! ### the running frame's cells, tracked while a def runs -/
structure CellsD (X : Cx) (σ : L2.St) (H : Hp) (D : Dm) : Prop where
  free : forall c o, D c = some o -> H c = none
  inj : forall x y c, X.env.cells.lookup x = some c -> X.env.cells.lookup y = some c -> x = y
  all : forall y c, X.env.cells.lookup y = some c -> ∃ (o : Obj) (v : Option Value), D c = some o ∧ o.data = .cell v
  val : forall (i : Nat) (y : Str) (v : V), X.N[i]? = some y -> σ[i]? = some (some v) -> (X.env.scope.names.lookup y = some .cell ∨ X.env.scope.names.lookup y = some .free) -> ∃ (c : Addr) (o : Obj) (u : Value), X.env.cells.lookup y = some c ∧ D c = some o ∧ o.data = .cell (some u) ∧ RelV v u
open Classical in
theorem cellsD_of {X : Cx} {pins : List (Addr × Obj)} {σ : L2.St} {H : Hp} {s : Shared} (I : Inv X pins σ H s) (hfn : forall y, X.fn y = true) : ∃ D : Dm, CellsD X σ H D ∧ AddOk D H s.heap (frs X.stack) ∧ forall c o, D c = some o -> X.base.get? c = none := by
  have hD : forall c o, (if ∃ y, X.env.cells.lookup y = some c then s.heap.get? c else none) = some o -> (∃ y, X.env.cells.lookup y = some c) ∧ s.heap.get? c = some o := fun c o e => by
    by_cases hm : ∃ y, X.env.cells.lookup y = some c
    · rw [if_pos hm] at e
      exact ⟨hm, e⟩
    · rw [if_neg hm] at e
      cases e
  have hI : forall y c o, X.env.cells.lookup y = some c -> s.heap.get? c = some o -> (if ∃ y, X.env.cells.lookup y = some c then s.heap.get? c else none) = some o := fun y c o h1 h2 => by
    rw [if_pos ⟨y, h1⟩]
    exact h2
  refine ⟨fun c => if ∃ y, X.env.cells.lookup y = some c then s.heap.get? c else none, ⟨fun c o e => ?_, I.ok.inj, fun y c e => ?_, fun i y v e1 e2 k => ?_⟩, fun c o e => ?_, fun c o e => ?_⟩
  · obtain ⟨⟨y, hy⟩, _⟩ := hD c o e
    exact I.freeC y c hy
  · obtain ⟨v, o, ho, hd⟩ := I.cell y c e
    exact ⟨o, v, hI y c o e ho, hd⟩
  · obtain ⟨m, hn, hl⟩ := I.loc
    obtain ⟨u, r, l⟩ := hl i y v e1 e2 (k.elim (fun z => .inr (.inl z)) fun z => .inr (.inr z))
    rcases l with ⟨z, _⟩ | ⟨_, c, hc, o, ho, hd⟩
    · have z' : X.env.scope.names.lookup y = some .local := z
      rcases k with k | k <;> rw [k] at z' <;> cases z'
    · exact ⟨c, o, u, hc, hI y c o hc ho, hd, r⟩
  · obtain ⟨⟨y, hy⟩, hg⟩ := hD c o e
    refine ⟨I.freeC y c hy, hg, fun hm => ?_⟩
    obtain ⟨v, o', ho', hd'⟩ := I.cell y c hy
    rcases List.mem_cons.mp (I.stkSub c hm) with z | z
    · exact I.cne y c hy z
    · obtain ⟨_, o2, ho2, _⟩ := I.ok.funs.mem z
      have h1 := I.ok.cab y c (hfn y) hy
      exact Nat.lt_irrefl _ (Nat.lt_of_lt_of_le (Heap.lt_size ho2) h1)
  · obtain ⟨⟨y, hy⟩, _⟩ := hD c o e
    exact Heap.get?_none_of_le (Nat.le_trans I.ok.bsz (I.ok.cab y c (hfn y) hy))
/-- a def called while the running frame's cells are tracked; nothing is raised -/
def tCallC (X : Cx) (sp : Sp) (t : TA) : TE := fun σ H Q => t σ H fun vs H1 => forall D, CellsD X σ H1 D -> sp vs (addH H1 D) (fun v H' => (forall c o, D c = some o -> H' c = some (dR c o)) ∧ Q v (delH H' D)) fun _ _ _ => False
theorem pe_callC {X : Cx} {k k' : Nat} {f : Addr} {fd : FuncData} {ps : List Str} {sp : Sp} {x : Str} {p pos : Pos} {e : Expr} {es : List Expr} {t : TA} (F : FnOk X.prog X.w X.K X.mg X.base (L2.CX X.prog X.w) k f fd ps sp) (hr : Room k' X.A) (hk : k ≤ k') (hg : Gl X x) (hm : X.mg x = some (.ref f)) (kp : PySem.W.keepIn X.K (.ref f) = true) (hb : Binds X.K fd ps [])
    (hfn : forall y, X.fn y = true) (ha : PA X (e :: es) t) (hdb : (x == ("__debug__" : Str)) = false := by decide) (he : starEach (e :: es) X.env = (false, eval e X.env) :: starEach es X.env := by rfl) (hpl : (backTo pos (starEach es X.env)).any (·.1) = false := by rfl) :
    PE X (.Call (.Name x p) (e :: es) [] pos) (tCallC X sp t) := by
  refine ⟨fun pins s σ H Q I h => ?_⟩
  refine wpAny_Call_Name_kw (ld_glob I hg hm ?_ hdb)
  refine PySem.W.callWith_K (h₀ := X.base) I.ok.mod.kin kp (thn (ha.run pos pins s σ H _ I h) fun us s1 ⟨vs, H1, I1, r, q⟩ => ⟨I1.kIn, ?_⟩) he hpl
  obtain ⟨D, cd, ao, hbase⟩ := cellsD_of I1 hfn
  have hsp := q D cd
  have hl : us.length = ps.length := by rw [← r.length]; exact F.len _ _ _ _ hsp
  have hbt := hb s1 us I1.kIn (by rw [List.append_nil]; exact hl)
  rw [List.append_nil] at hbt
  refine wpAny_call (codeAny_mono (F.run X.A X.stack s1 (addH H1 D) ⟨us, []⟩ us vs _ _ (hr.mono hk) (env0_add I1.env0 ao hbase) hbt r hsp) fun r' s' hq => ?_)
  have hq := cr_del (Q := Q) (E := fun _ _ _ => False) ao (fun v H' z => z) (fun cls d H' z => z.elim) hq
  cases r' with
  | error e' =>
    obtain ⟨_, _, _, _, _, _, _, _, _, _, _, _, z⟩ := hq
    exact z.elim
  | ok fl =>
    cases fl with
    | ret u => exact I1.after hq
    | next => exact False.elim hq
    | brk => exact False.elim hq
    | cont => exact False.elim hq
end Gd

namespace Gd
open PySem PySem.Spec L2
/-! ### bodies that make lambdas: the tables T stand beside the data -/
def TabP (T : List (Addr × Str)) (G : Hp) : Prop := forall p, p ∈ T -> ∃ ps : Array Value, G p.1 = some (.tbl ps) ∧ TriplesOk ps.toList ∧ forall (pos : Pos) (cv : Value), codeAmong pos ps.toList = some cv -> ∃ c, cv = .ref c ∧ G c = some (LamX.CodeO c p.2)
theorem TabP.mono {T : List (Addr × Str)} {G G' : Hp} (t : TabP T G) (s : Same G G') : TabP T G' := fun p hp => by
  obtain ⟨ps, h1, h2, h3⟩ := t p hp
  refine ⟨ps, s _ _ h1, h2, fun pos cv hc => ?_⟩
  obtain ⟨c, a, b⟩ := h3 pos cv hc
  exact ⟨c, a, s _ _ b⟩
/-- the entry tells of no table -/
structure NoT (N : En) : Prop where
  g : Same N.g N.h
  h : forall b ps, N.h b ≠ some (.tbl ps)
  p : forall b ps, N.p b ≠ some (.tbl ps)
def OffT (T : List (Addr × Str)) (P : Hp) : Prop := forall p, p ∈ T -> P p.1 = none
def plusT (T : List (Addr × Str)) (G H : Hp) : Hp := fun b => if b ∈ T.map (·.1) then H b else G b
def minusT (T : List (Addr × Str)) (G : Hp) : Hp := fun b => if b ∈ T.map (·.1) then none else G b
theorem plus_in {T : List (Addr × Str)} {G H : Hp} {b : Addr} (h : b ∈ T.map (·.1)) : plusT T G H b = H b := if_pos h
theorem plus_out {T : List (Addr × Str)} {G H : Hp} {b : Addr} (h : b ∉ T.map (·.1)) : plusT T G H b = G b := if_neg h
theorem minus_in {T : List (Addr × Str)} {G : Hp} {b : Addr} (h : b ∈ T.map (·.1)) : minusT T G b = none := if_pos h
theorem minus_out {T : List (Addr × Str)} {G : Hp} {b : Addr} (h : b ∉ T.map (·.1)) : minusT T G b = G b := if_neg h
def FrL (K : PySem.W.Frag) (N : En) (T : List (Addr × Str)) (P : Hp) (σ : L2.St) (H : Hp) (ρ : Rho) : Prop := ∃ Gp, Gd.Fr K N Gp σ H ρ ∧ Same P Gp ∧ OffT T P ∧ TabP T Gp
/-- the state with the tables out of the data -/
def FrO (K : PySem.W.Frag) (N : En) (T : List (Addr × Str)) (P G : Hp) (σ : L2.St) (H : Hp) (ρ : Rho) : Prop :=
  ExN N G H ∧ Same P G ∧ Sta K G H σ ρ ∧ (forall (i : Nat) (x : Own) (p : Addr), ρ[i]? = some (.owx x) -> σ[i]? = some (some (.ref p)) -> N.h p = none) ∧ TabG T G H
theorem OwnOk.less {K : PySem.W.Frag} {G G' : Hp} {p : Addr} {u : HO} {x : Own} (l : Less G G') (h : OwnOk K G p u x) : OwnOk K G' p u x := by
  have de : forall {kvs : List (PyData × PyData)} {xs : List (NestedKey × Addr × Value)}, DEnt K G kvs xs -> DEnt K G' kvs xs := fun {kvs} => by
    induction kvs with
    | nil => intro xs h; cases xs with
      | nil => trivial
      | cons _ _ => exact h.elim
    | cons kv kvs ih => intro xs h; cases xs with
      | nil => exact h.elim
      | cons y ys =>
        obtain ⟨⟨a, b, ⟨v, c, d⟩, e⟩, t⟩ := h
        exact ⟨⟨a, b.less l, ⟨v, c, d.less l⟩, e⟩, ih t⟩
  cases x with
  | list ds =>
    obtain ⟨vs, a, b⟩ := h
    exact ⟨vs, a, b.less l⟩
  | dict hs kvs =>
    obtain ⟨o, a, xs, b, c⟩ := h
    exact ⟨o, a, xs, b, de c⟩
  | memo q hs kvs =>
    obtain ⟨z, o, a, xs, b, c⟩ := h
    exact ⟨z, o, a, xs, b, de c⟩
theorem own_tbl {K : PySem.W.Frag} {G : Hp} {p : Addr} {u : HO} {x : Own} (h : OwnOk K G p u x) (ps : Array Value) : u ≠ .tbl ps := fun z => by
  subst z
  cases x with
  | list ds => obtain ⟨vs, a, _⟩ := h; cases a
  | dict hs kvs => obtain ⟨o, a, _⟩ := h; exact tbl_ne ps a.symm
  | memo q hs kvs => obtain ⟨_, o, a, _⟩ := h; exact tbl_ne ps a.symm
section
variable {K : PySem.W.Frag} {N : En} {T : List (Addr × Str)} {P G : Hp} {σ : L2.St} {H : Hp} {ρ : Rho}
theorem mem_fst {b : Addr} (h : b ∈ T.map (·.1)) : ∃ p, p ∈ T ∧ p.1 = b := by
  obtain ⟨p, hp, e⟩ := List.mem_map.mp h
  exact ⟨p, hp, e⟩
theorem FrL.down (f : FrL K N T P σ H ρ) (hn : NoT N) : ∃ G, FrO K N T P G σ H ρ := by
  obtain ⟨Gp, ⟨G, e0, sp, sta, fr⟩, pg, off, tab⟩ := f
  have tG := tab.mono sp
  have isT : forall b, b ∈ T.map (·.1) -> ∃ ps, G b = some (.tbl ps) := fun b h => by
    obtain ⟨p, hp, rfl⟩ := mem_fst h
    obtain ⟨ps, h1, _⟩ := tG p hp
    exact ⟨ps, h1⟩
  have ls : Less G (minusT T G) := fun b u e => by
    by_cases h : b ∈ T.map (·.1)
    · obtain ⟨ps, h1⟩ := isT b h
      rw [h1] at e
      exact .inr (.inr ⟨ps, (Option.some.inj e).symm⟩)
    · exact .inl (by rw [minus_out h]; exact e)
  have keep : forall b u, G b = some u -> (forall ps, u ≠ .tbl ps) -> minusT T G b = some u := fun b u e n => by
    rcases ls b u e with h | ⟨φ, z⟩ | ⟨ps, z⟩
    · exact h
    · by_cases h : b ∈ T.map (·.1)
      · obtain ⟨ps, h1⟩ := isT b h
        rw [h1] at e
        exact absurd (Option.some.inj e).symm (n ps)
      · rw [minus_out h]; exact e
    · exact absurd z (n ps)
  have sH : Same (minusT T G) H := fun b u e => by
    by_cases h : b ∈ T.map (·.1)
    · rw [minus_in h] at e; cases e
    · rw [minus_out h] at e; exact sta.gh b u e
  have nN : forall b, N.h b ≠ none -> b ∉ T.map (·.1) := fun b hb h => by
    obtain ⟨ps, h1⟩ := isT b h
    cases z : N.h b with
    | none => exact hb z
    | some u =>
      have := e0.h b u z
      rw [sta.gh _ _ h1] at this
      cases this
      exact hn.h b ps z
  refine ⟨minusT T G, ⟨⟨fun b u e => ?_, e0.h, sH, fun a ha => ?_⟩, fun b u e => ?_⟩, fun b u e => ?_, ⟨sH, sta.len, fun i c hc => ?_, sta.apart⟩, fr, fun p hp => ?_⟩
  · refine keep b u (e0.g b u e) fun ps z => hn.h b ps ?_
    rw [← z]
    exact hn.g b u e
  · rw [minus_out (nN a ha)]
    exact e0.old a ha
  · exact keep b u (e0.pin b u e) fun ps z => hn.p b ps (by rw [← z]; exact e)
  · have h : b ∉ T.map (·.1) := fun h => by
      obtain ⟨p, hp, rfl⟩ := mem_fst h
      rw [off p hp] at e
      cases e
    rw [minus_out h]
    exact sp b u (pg b u e)
  · obtain ⟨ov, o1, o2⟩ := sta.at_ i c hc
    refine ⟨ov, o1, ?_⟩
    cases c with
    | any => trivial
    | raw v => exact o2
    | dat d =>
      obtain ⟨v, r1, r2⟩ := o2
      exact ⟨v, r1, r2.less ls⟩
    | owx x =>
      obtain ⟨q, u, r1, r2, r3, r4⟩ := o2
      refine ⟨q, u, r1, ?_, r3, r4.less ls⟩
      by_cases h : q ∈ T.map (·.1)
      · exact minus_in h
      · rw [minus_out h]; exact r2
    | fdc hs kvs =>
      obtain ⟨q, o, r1, r2, xs, r3, r4⟩ := o2
      obtain ⟨o', z, r5⟩ := OwnOk.less (p := q) (u := dR q o) (x := .dict hs kvs) ls ⟨o, rfl, xs, r3, r4⟩
      have : o' = o ∨ True := .inr trivial
      refine ⟨q, o, r1, keep q _ r2 fun ps => tbl_ne ps, xs, r3, ?_⟩
      obtain ⟨o2, z2, r6⟩ := OwnOk.less (p := q) (u := dR q o) (x := .dict hs kvs) ls ⟨o, rfl, xs, r3, r4⟩
      have de : forall {kvs : List (PyData × PyData)} {xs : List (NestedKey × Addr × Value)}, DEnt K G kvs xs -> DEnt K (minusT T G) kvs xs := fun {kvs} => by
        induction kvs with
        | nil => intro xs h; cases xs with
          | nil => trivial
          | cons _ _ => exact h.elim
        | cons kv kvs ih => intro xs h; cases xs with
          | nil => exact h.elim
          | cons y ys =>
            obtain ⟨⟨a, b, ⟨v, c, d⟩, e⟩, t⟩ := h
            exact ⟨⟨a, b.less ls, ⟨v, c, d.less ls⟩, e⟩, ih t⟩
      exact de r4
    | pin v φ =>
      obtain ⟨r1, G0, r2, r3, r4⟩ := o2
      exact ⟨r1, G0, fun b u e => keep b u (r2 b u e) fun ps z => r3 b ps (by rw [← z]; exact e), r3, r4⟩
  · obtain ⟨ps, h1, h2, h3⟩ := tG p hp
    refine ⟨ps, sta.gh _ _ h1, minus_in (List.mem_map.mpr ⟨p, hp, rfl⟩), h2, fun pos cv hc => ?_⟩
    obtain ⟨c, a, b⟩ := h3 pos cv hc
    exact ⟨c, a, keep c _ b fun ps => LamX.codeO_ne ps⟩
theorem FrO.up (f : FrO K N T P G σ H ρ) (hn : NoT N) : FrL K N T P σ H ρ := by
  obtain ⟨e0, sp, sta, fr, tab⟩ := f
  have off : forall b, b ∈ T.map (·.1) -> G b = none := fun b h => by
    obtain ⟨p, hp, rfl⟩ := mem_fst h
    obtain ⟨ps, _, h1, _⟩ := tab p hp
    exact h1
  have isT : forall b, b ∈ T.map (·.1) -> ∃ ps, H b = some (.tbl ps) := fun b h => by
    obtain ⟨p, hp, rfl⟩ := mem_fst h
    obtain ⟨ps, h1, _⟩ := tab p hp
    exact ⟨ps, h1⟩
  have sG : Same G (plusT T G H) := fun b u e => by
    by_cases h : b ∈ T.map (·.1)
    · rw [off b h] at e; cases e
    · rw [plus_out h]; exact e
  have sH : Same (plusT T G H) H := fun b u e => by
    by_cases h : b ∈ T.map (·.1)
    · rw [plus_in h] at e; exact e
    · rw [plus_out h] at e; exact sta.gh b u e
  refine ⟨plusT T G H, ⟨plusT T G H, ⟨⟨e0.g.trans sG, e0.h, sH, fun a ha => ?_⟩, e0.pin.trans sG⟩, Same.refl _, ⟨sH, sta.len, fun i c hc => ?_, sta.apart⟩, fr⟩, sp.trans sG, fun p hp => ?_, fun p hp => ?_⟩
  · have h : a ∉ T.map (·.1) := fun h => by
      obtain ⟨ps, h1⟩ := isT a h
      cases z : N.h a with
      | none => exact ha z
      | some u =>
        have := e0.h a u z
        rw [h1] at this
        cases this
        exact hn.h a ps z
    rw [plus_out h]
    exact e0.old a ha
  · obtain ⟨ov, o1, o2⟩ := sta.at_ i c hc
    refine ⟨ov, o1, ?_⟩
    cases c with
    | any => trivial
    | raw v => exact o2
    | dat d =>
      obtain ⟨v, r1, r2⟩ := o2
      exact ⟨v, r1, r2.mono sG⟩
    | owx x =>
      obtain ⟨q, u, r1, r2, r3, r4⟩ := o2
      refine ⟨q, u, r1, ?_, r3, r4.mono sG⟩
      by_cases h : q ∈ T.map (·.1)
      · obtain ⟨ps, h1⟩ := isT q h
        rw [h1] at r3
        exact absurd (Option.some.inj r3).symm (own_tbl r4 ps)
      · rw [plus_out h]; exact r2
    | fdc hs kvs =>
      obtain ⟨q, o, r1, r2, r3⟩ := o2
      exact ⟨q, o, r1, sG _ _ r2, r3.mono sG⟩
    | pin v φ =>
      obtain ⟨r1, G0, r2, r3⟩ := o2
      exact ⟨r1, G0, r2.trans sG, r3⟩
  · cases z : P p.1 with
    | none => rfl
    | some u =>
      have := sp _ _ z
      rw [off _ (List.mem_map.mpr ⟨p, hp, rfl⟩)] at this
      cases this
  · obtain ⟨ps, h1, h2, h3, h4⟩ := tab p hp
    refine ⟨ps, by rw [plus_in (List.mem_map.mpr ⟨p, hp, rfl⟩)]; exact h1, h3, fun pos cv hc => ?_⟩
    obtain ⟨c, a, b⟩ := h4 pos cv hc
    exact ⟨c, a, sG _ _ b⟩
/-- behind a step that lets tables grow -/
theorem FrO.extT {G' H' : Hp} (f : FrO K N T P G σ H ρ) (hn : NoT N) (e : ExtT T G H G' H') : FrO K N T P G' σ H' ρ := by
  obtain ⟨e0, sp, sta, fr, tab⟩ := f
  refine ⟨⟨⟨e0.g.trans e.g, fun b u z => e.h b u (e0.h b u z) fun ps y => hn.h b ps (by rw [← y]; exact z), e.gh, fun a ha => ?_⟩, e0.pin.trans e.g⟩, sp.trans e.g, ⟨e.gh, sta.len, fun i c hc => ?_, sta.apart⟩, fr, e.tab⟩
  · have : H a ≠ none := fun y => by
      cases z : N.h a with
      | none => exact ha z
      | some u =>
        have := e0.h a u z
        rw [y] at this
        cases this
    rw [e.old a this]
    exact e0.old a ha
  · obtain ⟨ov, o1, o2⟩ := sta.at_ i c hc
    refine ⟨ov, o1, ?_⟩
    cases c with
    | any => trivial
    | raw v => exact o2
    | dat d =>
      obtain ⟨v, r1, r2⟩ := o2
      exact ⟨v, r1, r2.mono e.g⟩
    | owx x =>
      obtain ⟨q, u, r1, r2, r3, r4⟩ := o2
      exact ⟨q, u, r1, by rw [e.old q (by rw [r3]; exact fun z => nomatch z)]; exact r2, e.h _ _ r3 (own_tbl r4), r4.mono e.g⟩
    | fdc hs kvs =>
      obtain ⟨q, o, r1, r2, r3⟩ := o2
      exact ⟨q, o, r1, e.g _ _ r2, r3.mono e.g⟩
    | pin v φ =>
      obtain ⟨r1, G0, r2, r3⟩ := o2
      exact ⟨r1, G0, r2.trans e.g, r3⟩
end
/-! ### blocks -/
def endsL (K : PySem.W.Frag) (N : En) (T : List (Addr × Str)) (P : Hp) (Φ : Post) : Ends where
  nx := fun σ H => ∃ ρ, FrL K N T P σ H ρ ∧ Φ.nx ρ
  rt := fun v H => ∃ d, (∃ Gp, Rt K N Gp none v H d ∧ Same P Gp ∧ OffT T P ∧ TabP T Gp) ∧ Φ.rt d
  bk := fun σ H => ∃ ρ, FrL K N T P σ H ρ ∧ Φ.bk ρ
  ct := fun σ H => ∃ ρ, FrL K N T P σ H ρ ∧ Φ.ct ρ
def GSL (X : Cx) (N : En) (T : List (Addr × Str)) (ss : List Stmt) (ρ : Rho) (Φ : Post) : Prop := forall (P : Hp) (σ : L2.St) (H : Hp), FrL X.K N T P σ H ρ -> tws X ss (endsL X.K N T P Φ) σ H
def G1L (X : Cx) (N : En) (T : List (Addr × Str)) (st : Stmt) (ρ : Rho) (Φ : Post) : Prop := forall (P : Hp) (σ : L2.St) (H : Hp), FrL X.K N T P σ H ρ -> twp X st (endsL X.K N T P Φ) σ H
def GTL (X : Cx) (N : En) (T : List (Addr × Str)) (c : Expr) (ρ : Rho) (k : Bool) : Prop := forall (P : Hp) (σ : L2.St) (H : Hp), FrL X.K N T P σ H ρ -> twT X c σ H fun b H' => b = k ∧ FrL X.K N T P σ H' ρ
def GBL (X : Cx) (N : En) (T : List (Addr × Str)) (e : Expr) (ρ : Rho) (k : Bool) : Prop := forall (P : Hp) (σ : L2.St) (H : Hp), FrL X.K N T P σ H ρ -> tw X e σ H fun v H' => v = .bl k ∧ FrL X.K N T P σ H' ρ
section
variable {X : Cx} {N : En} {T : List (Addr × Str)} {st : Stmt} {rest body orelse : List Stmt} {e a b c tg iter : Expr} {ρ : Rho} {d : PyData} {pos : Pos} {Φ : Post} {k k' : Bool}
theorem ends_toL {P Gp : Hp} (pg : Same P Gp) (off : OffT T P) (tab : TabP T Gp) (hm : Φ.mm = none) : EndsLe (ends X.K N Gp Φ) (endsL X.K N T P Φ) :=
  ⟨fun _ _ ⟨ρ, f, q⟩ => ⟨ρ, ⟨Gp, f, pg, off, tab⟩, q⟩, fun _ _ ⟨d, r, q⟩ => ⟨d, ⟨Gp, by rw [hm] at r; exact r, pg, off, tab⟩, q⟩, fun _ _ ⟨ρ, f, q⟩ => ⟨ρ, ⟨Gp, f, pg, off, tab⟩, q⟩, fun _ _ ⟨ρ, f, q⟩ => ⟨ρ, ⟨Gp, f, pg, off, tab⟩, q⟩⟩
theorem g1l_of (h : G1 X N st ρ Φ) (hm : Φ.mm = none := by rfl) : G1L X N T st ρ Φ := fun P σ H ⟨Gp, f, pg, off, tab⟩ => twp_mono (ends_toL pg off tab hm) (h Gp σ H f)
theorem gsl_of {ss : List Stmt} (h : GS X N ss ρ Φ) (hm : Φ.mm = none := by rfl) : GSL X N T ss ρ Φ := fun P σ H ⟨Gp, f, pg, off, tab⟩ => tws_mono (ends_toL pg off tab hm) (h Gp σ H f)
theorem gsl_nil (h : Φ.nx ρ) : GSL X N T [] ρ Φ := fun P σ H f => fun pins s I => ⟨pss_nil.run pins s σ H _ I ⟨ρ, f, h⟩⟩
theorem gsl_consL (h : G1L X N T st ρ { Φ with nx := fun ρ' => GSL X N T rest ρ' Φ }) : GSL X N T (st :: rest) ρ Φ := fun P σ H f pins s I => Wp.mk <|
  (pss_cons ps_tw pss_tw).run pins s σ H _ I (twp_mono (D := endsL X.K N T P { Φ with nx := fun ρ' => GSL X N T rest ρ' Φ }) ⟨fun _ _ ⟨_, f', g⟩ => g P _ _ f', fun _ _ q => q, fun _ _ q => q, fun _ _ q => q⟩ (h P σ H f))
theorem gsl_cons (h : G1 X N st ρ { Φ with nx := fun ρ' => GSL X N T rest ρ' Φ }) (hm : Φ.mm = none := by rfl) : GSL X N T (st :: rest) ρ Φ := gsl_consL (g1l_of h hm)
theorem gtl_of (h : GT X c ρ k) : GTL X N T c ρ k := fun P σ H ⟨Gp, f, pg, off, tab⟩ => f.evT h fun H' f' => ⟨rfl, Gp, f', pg, off, tab⟩
theorem gtl_val (h : GBL X N T e ρ k) (he : forall whole, isTrue e X.env whole = (do let v ← whole; standAt e.pos; holding [v] (truthy v)) := by intro _; rfl) : GTL X N T e ρ k := fun P σ H f pins s I => Wp.mk <|
  (pt_val pe_tw he).run pins s σ H _ I fun pins' s' I' => ⟨thn (h P σ H f pins' s' I').run fun u s1 ⟨v, H1, I1, r1, z⟩ => ⟨v, H1, I1, r1, k, z.1, rfl, z.2⟩⟩
theorem gtl_not (h : GTL X N T a ρ k) : GTL X N T (.UnaryOp .Not a pos) ρ (!k) := fun P σ H f pins s I => Wp.mk <|
  (pt_not pt_tw).run pins s σ H _ I fun pins' s' I' => ⟨thn (h P σ H f pins' s' I').run fun u s1 ⟨H1, I1, z⟩ => ⟨H1, I1, by rw [z.1], z.2⟩⟩
def GWL (X : Cx) (N : En) (T : List (Addr × Str)) (c : Expr) (ρ : Rho) (k : Bool) : Prop := forall (P : Hp) (σ : L2.St) (H : Hp), FrL X.K N T P σ H ρ -> twW X c σ H fun b H' => b = k ∧ FrL X.K N T P σ H' ρ
theorem gtl_w (h : GWL X N T e ρ k) : GTL X N T e ρ k := fun P σ H f pins s I => Wp.mk <| pw_tw.pt.run pins s σ H _ I (h P σ H f)
theorem gwl_or1 (h : GTL X N T a ρ k) : GWL X N T (.BoolOp .Or [a] pos) ρ k := fun P σ H f wh pins s I => Wp.mk <| (pw_or1 pt_tw).run wh pins s σ H _ I (h P σ H f)
theorem gwl_or {rest : List Expr} (ha : GTL X N T a ρ k) (hb : k = false -> GWL X N T (.BoolOp .Or (b :: rest) pos) ρ k') : GWL X N T (.BoolOp .Or (a :: b :: rest) pos) ρ (k || k') := fun P σ H f wh pins s I => Wp.mk <|
  (pw_or pt_tw pw_tw).run wh pins s σ H _ I fun pins' s' I' => ⟨thn (ha P σ H f pins' s' I').run fun u s1 ⟨H1, I1, z⟩ => ⟨H1, I1, by
    obtain ⟨rfl, f1⟩ := z
    cases u with
    | true => rw [if_pos rfl]; exact ⟨rfl, f1⟩
    | false => rw [if_neg Bool.false_ne_true]; exact hb rfl P σ H1 f1⟩⟩
theorem gwl_and1 (h : GTL X N T a ρ k) : GWL X N T (.BoolOp .And [a] pos) ρ k := fun P σ H f wh pins s I => Wp.mk <| (pw_and1 pt_tw).run wh pins s σ H _ I (h P σ H f)
theorem gwl_and {rest : List Expr} (ha : GTL X N T a ρ k) (hb : k = true -> GWL X N T (.BoolOp .And (b :: rest) pos) ρ k') : GWL X N T (.BoolOp .And (a :: b :: rest) pos) ρ (k && k') := fun P σ H f wh pins s I => Wp.mk <|
  (pw_and pt_tw pw_tw).run wh pins s σ H _ I fun pins' s' I' => ⟨thn (ha P σ H f pins' s' I').run fun u s1 ⟨H1, I1, z⟩ => ⟨H1, I1, by
    obtain ⟨rfl, f1⟩ := z
    cases u with
    | true => rw [if_pos rfl]; exact hb rfl P σ H1 f1
    | false => rw [if_neg Bool.false_ne_true]; exact ⟨rfl, f1⟩⟩⟩
theorem g1l_if (hc : GTL X N T c ρ k) (ht : k = true -> GSL X N T body ρ Φ) (hf : k = false -> GSL X N T orelse ρ Φ) : G1L X N T (.If c body orelse pos) ρ Φ := fun P σ H f pins s I => Wp.mk <|
  (ps_if pt_tw pss_tw pss_tw).run pins s σ H _ I fun pins' s' I' => ⟨thn (hc P σ H f pins' s' I').run fun u s1 ⟨H1, I1, z⟩ => ⟨H1, I1, by
    obtain ⟨rfl, f1⟩ := z
    cases u with
    | true => rw [if_pos rfl]; exact ht rfl P σ H1 f1
    | false => rw [if_neg Bool.false_ne_true]; exact hf rfl P σ H1 f1⟩⟩
theorem FrO.ext {G H G' H' P : Hp} {σ : L2.St} (f : FrO X.K N T P G σ H ρ) (e : Ext G H G' H') (hn : NoT N) : FrO X.K N T P G' σ H' ρ := f.extT hn (e.toT f.2.2.2.2)
theorem g1l_for {α : Type} (L : List α) (g : α -> PyData) {Tt : Tg} (hn : NoT N) (hi : GI X tg iter ρ (L.map g)) (ht : GTg X tg Tt) (I : Nat -> Rho -> Prop) (h0 : I 0 ρ)
    (hs : forall (i : Nat) (x : α) (ρ1 : Rho), L[i]? = some x -> I i ρ1 -> ∃ ρ2, Tt.put (g x) ρ1 = some ρ2 ∧ GSL X N T body ρ2 { Φ with nx := I (i + 1), ct := I (i + 1), bk := Φ.nx }) (hd : forall ρ1, I L.length ρ1 -> Φ.nx ρ1)
    (hp : PassesOwn (model X.prog X.w) X.A X.env X.xe) (hc : X.calm = true := by rfl) (hfs : forall x, foldedSetIterable iter X.env x = pure x := by intro _; rfl) : G1L X N T (.For tg iter body [] pos) ρ Φ := fun P σ H f pins s J0 => Wp.mk <| by
  obtain ⟨wi, hpi, hw⟩ := hi
  refine (ps_for hp hc hpi ht pss_tw hfs).run pins s σ H _ J0 ?_
  obtain ⟨G, fo⟩ := f.down hn
  refine hw σ G H _ fo.2.2.1 fun J G' H' e1 wk => ?_
  have fo1 : FrO X.K N T P G' σ H' ρ := fo.ext e1 hn
  have sp' : Same P G' := fo1.2.1
  have off' : OffT T G' := fun p hp => by
    obtain ⟨_, _, z, _⟩ := fo1.2.2.2.2 p hp
    exact z
  have f0 : FrO X.K N T G' G' σ H' ρ := ⟨fo1.1, Same.refl _, fo1.2.2⟩
  refine ⟨fun i m σ H => m = L.length - i ∧ i ≤ L.length ∧ ∃ ρ1, FrL X.K N T G' σ H ρ1 ∧ I i ρ1, ⟨_, rfl, Nat.zero_le _, ρ, f0.up hn, h0⟩, fun i m σ1 H1 hW => ?_⟩
  have toP : forall {σ2 : L2.St} {H2 : Hp} {ρ2 : Rho}, FrL X.K N T G' σ2 H2 ρ2 -> FrL X.K N T P σ2 H2 ρ2 := fun ⟨Gp, a, b, _, c⟩ => ⟨Gp, a, sp'.trans b, fun p hp => sp'.free (off' p hp), c⟩
  obtain ⟨rfl, hle, ρ1, f1, hI⟩ := hW
  obtain ⟨G1, fo2⟩ := f1.down hn
  obtain ⟨wgo, wstop⟩ := wk G1 H1 fo2.2.1 fo2.2.2.1.gh
  by_cases hlt : i < L.length
  · have hx : L[i]? = some L[i] := List.getElem?_eq_getElem hlt
    obtain ⟨go, yl⟩ := wgo i (g L[i]) (by rw [List.getElem?_map, hx]; rfl)
    obtain ⟨ρ2, hput, hbody⟩ := hs i L[i] ρ1 hx hI
    refine .inr ⟨go, fun σ' H' => ∃ ρ3, FrL X.K N T G' σ' H' ρ3 ∧ I (i + 1) ρ3, fun σ' H' hN => ?_, fun x H3 hy => ?_⟩
    · obtain ⟨ρ3, f3, i3⟩ := hN
      exact ⟨L.length - (i + 1), by omega, rfl, hlt, ρ3, f3, i3⟩
    · obtain ⟨G3, e3, dv⟩ := yl x H3 hy
      have fo3 := fo2.ext e3 hn
      refine Tg.rd_ok hput fo3.2.2.1 dv fun σ' s' hj => ?_
      have f2 : FrO X.K N T G' G3 σ' H3 ρ2 := ⟨fo3.1, fo3.2.1, s', fun j xs q r1 r2 => by
        obtain ⟨n1, n2⟩ := Tg.put_own hput r1
        rw [hj j n1] at r2
        exact fo3.2.2.2.1 j xs q n2 r2, fo3.2.2.2.2⟩
      refine tws_mono ?_ (hbody G' σ' H3 (f2.up hn))
      exact ⟨fun _ _ q => q, fun _ _ ⟨d, ⟨Gp, a1, a2, a3, a4⟩, q⟩ => ⟨d, ⟨Gp, a1, sp'.trans a2, fun p hp => sp'.free (off' p hp), a4⟩, q⟩, fun _ _ ⟨ρ4, f4, q⟩ => ⟨ρ4, toP f4, q⟩, fun _ _ q => q⟩
  · have ei : i = L.length := by omega
    exact .inl ⟨wstop i (by rw [List.length_map]; omega), ρ1, toP f1, hd ρ1 (by rw [← ei]; exact hI)⟩
end
end Gd

namespace Gd
open PySem PySem.Spec L2
/-! ### entries with cells of any kind -/
theorem fr_start {K : PySem.W.Frag} {G H : Hp} {Nm : List Str} {vs : List V} {cs : List Cell} (gh : Same G H) (hl : cs.length = vs.length) (hN : vs.length ≤ Nm.length) (ho : forall (i : Nat) (x : Own), cs[i]? ≠ some (Cell.owx x)) (hc : forall (i : Nat) (c : Cell) (v : V), cs[i]? = some c -> vs[i]? = some v -> CellOk K G H (some v) c) :
    Gd.Fr K ⟨G, H, fun _ => none⟩ G (L2.start Nm vs) H (cs ++ List.replicate (Nm.length - cs.length) .any) := by
  have no : forall (i : Nat) (x : Own), (cs ++ List.replicate (Nm.length - cs.length) Cell.any)[i]? ≠ some (.owx x) := fun i x h => by
    by_cases hi : i < cs.length
    · rw [List.getElem?_append_left hi] at h
      exact ho i x h
    · rw [List.getElem?_append_right (by omega), List.getElem?_replicate] at h
      split at h <;> cases h
  refine ⟨G, ⟨.refl gh, fun _ _ z => nomatch z⟩, Same.refl _, ⟨gh, ?_, fun i c h => ?_, fun i j p x y h1 => absurd h1 (no i x)⟩, fun i x p h1 => absurd h1 (no i x)⟩
  · unfold L2.start
    simp only [List.length_append, List.length_map, List.length_replicate]
    omega
  · unfold L2.start
    by_cases hi : i < cs.length
    · rw [List.getElem?_append_left hi] at h
      have hv : i < vs.length := by omega
      rw [List.getElem?_append_left (by rw [List.length_map]; exact hv), List.getElem?_map, List.getElem?_eq_getElem hv]
      exact ⟨_, rfl, hc i c _ h (List.getElem?_eq_getElem hv)⟩
    · have hlen := (List.getElem?_eq_some_iff.mp h).1
      rw [List.getElem?_append_right (by omega), List.getElem?_replicate] at h
      split at h
      · cases h
        refine ⟨none, ?_, trivial⟩
        rw [List.getElem?_append_right (by rw [List.length_map]; omega), List.length_map, List.getElem?_replicate, if_pos]
        simp only [List.length_append, List.length_replicate] at hlen
        omega
      · cases h
theorem okC_of {P : Program} {w : World} {K : PySem.W.Frag} {mg : Str -> Option Value} {base : Heap} {x : Str} {st : Stmt} {f : Addr} {fd : FuncData} {Nm ps : List Str} {k : Nat} {sp : Sp} (F : FnP K x st f fd) (S : FnScope Nm ps (defScope st)) (hlen : forall vs H Q E, sp vs H Q E -> vs.length = ps.length)
    (body : forall cdv A outer s H vs Q E, Room k (cxD P w K mg base Nm x st f cdv A outer s H E).A -> sp vs H Q E -> ∃ (G : Hp) (cs : List Cell) (d : PyData), Same G H ∧ cs.length = vs.length ∧ (forall (i : Nat) (x : Own), cs[i]? ≠ some (Cell.owx x)) ∧ (forall (i : Nat) (c : Cell) (v : V), cs[i]? = some c -> vs[i]? = some v -> CellOk K G H (some v) c) ∧ (forall v G' H', Ext G H G' H' -> Dq K G' v d -> Q v H') ∧
      GS (cxD P w K mg base Nm x st f cdv A outer s H E) ⟨G, H, fun _ => none⟩ (defBody st) (cs ++ List.replicate (Nm.length - cs.length) .any) (post (.ret d))) :
    FnOk P w K mg base (L2.CX P w) (k + 1) f fd ps sp := by
  refine F.ok S hlen fun cdv A outer s H vs Q E hr hsp => ⟨tws _ _, pss_tw, ?_⟩
  obtain ⟨G, cs, d, gh, hl, ho, hc, hq, hG⟩ := body cdv A outer s H vs Q E hr hsp
  have hpl : ps.length ≤ Nm.length := by
    have := congrArg List.length S.pre
    rw [List.length_take] at this
    omega
  refine tws_mono ⟨fun σ H' hn => ?_, fun v H' hn => ?_, fun _ _ z => ?_, fun _ _ z => ?_⟩ (hG G _ H (fr_start gh hl (by rw [hlen _ _ _ _ hsp]; exact hpl) ho hc))
  · obtain ⟨ρ, ⟨G', e1, _⟩, hn⟩ := hn
    cases (show Out.ret d = .ret .none from hn)
    exact hq _ G' H' e1.toExt .non
  · obtain ⟨d', ⟨G', e1, _, dq, _⟩, hn⟩ := hn
    cases (show Out.ret d = .ret d' from hn)
    exact hq v G' H' e1.toExt dq
  · obtain ⟨_, _, z⟩ := z; exact z
  · obtain ⟨_, _, z⟩ := z; exact z
/-- the module's name x holds a def that keeps sp -/
structure CanS (P : Program) (w : World) (K : PySem.W.Frag) (mg : Str -> Option Value) (base : Heap) (k : Nat) (x : Str) (sp : Sp) : Prop where
  ex : ∃ f fd ps, mg x = some (.ref f) ∧ PySem.W.keepIn K (.ref f) = true ∧ Binds K fd ps [] ∧ FnOk P w K mg base (L2.CX P w) k f fd ps sp
theorem canS_of {P : Program} {w : World} {K : PySem.W.Frag} {mg : Str -> Option Value} {base : Heap} {x : Str} {st : Stmt} {f : Addr} {fd : FuncData} {Nm ps : List Str} {k : Nat} {sp : Sp} (F : FnP K x st f fd) (hm : mg x = some (.ref f)) (S : FnScope Nm ps (defScope st))
    (hb : forall (kV doc pm : Value) (an : Option Addr) (cdv ct : Value) (us : List Value), us.length = ps.length -> bindArgs (PySem.W.fnOf x x (defArgs st) (defBody st) (defScope st) .none kV doc pm an cdv ct) ⟨us, []⟩ = pure (ps.zip us)) (hlen : forall vs H Q E, sp vs H Q E -> vs.length = ps.length)
    (body : forall cdv A outer s H vs Q E, Room k (cxD P w K mg base Nm x st f cdv A outer s H E).A -> sp vs H Q E -> ∃ (G : Hp) (cs : List Cell) (d : PyData), Same G H ∧ cs.length = vs.length ∧ (forall (i : Nat) (x : Own), cs[i]? ≠ some (Cell.owx x)) ∧ (forall (i : Nat) (c : Cell) (v : V), cs[i]? = some c -> vs[i]? = some v -> CellOk K G H (some v) c) ∧ (forall v G' H', Ext G H G' H' -> Dq K G' v d -> Q v H') ∧
      GS (cxD P w K mg base Nm x st f cdv A outer s H E) ⟨G, H, fun _ => none⟩ (defBody st) (cs ++ List.replicate (Nm.length - cs.length) .any) (post (.ret d))) : CanS P w K mg base (k + 1) x sp :=
  ⟨f, fd, ps, hm, F.kp, F.bindsN hb, okC_of F S hlen body⟩
/-! ### a def that gets the caught error -/
/-- what it promises: the text z for an error of the class at D -/
structure FnE (P : Program) (w : World) (K : PySem.W.Frag) (mg : Str -> Option Value) (base : Heap) (k : Nat) (x : Str) (D : Addr) (z : Str) : Prop where
  ex : ∃ f fd y, mg x = some (.ref f) ∧ PySem.W.keepIn K (.ref f) = true ∧ Binds K fd [y] [] ∧ forall (A : Around) (outer : List Env) (s : Shared) (H : Hp) (a : Addr) (oe : Obj) (Q : VK), L2H.RoomH k A -> L2H.PinOk outer H s (a, oe) -> Zc (.ref D) none oe -> (∃ vs, oe.data = .fields vs) -> Env0 P w K mg base A outer s H ->
    BindsTo s fd ⟨[.ref a], []⟩ [(y, .ref a)] -> (forall H', Same H H' -> Q (.str z) H') -> codeAny (model P w) A (.call (.ref f) ⟨[.ref a], []⟩) (CR (L2.CX P w) outer P w H s Q fun _ _ _ => False) s
abbrev cxE (P : Program) (w : World) (K : PySem.W.Frag) (mg : Str -> Option Value) (base : Heap) (Nm : List Str) (x : Str) (st : Stmt) (f : Addr) (cdv : Value) (A : Around) (outer : List Env) (s : Shared) (H : Hp) (a : Addr) (oe : Obj) : Cx := L2H.cxH (L2.CX P w) P w K mg base Nm x (defScope st) f cdv A outer s H (fun _ _ _ => False) (a, oe)
theorem fnE_of {P : Program} {w : World} {K : PySem.W.Frag} {mg : Str -> Option Value} {base : Heap} {x y : Str} {st : Stmt} {f D : Addr} {fd : FuncData} {Nm : List Str} {k : Nat} {z : Str} (F : FnP K x st f fd) (hm : mg x = some (.ref f)) (S : FnScope Nm [y] (defScope st))
    (hb : forall (kV doc pm : Value) (an : Option Addr) (cdv ct : Value) (us : List Value), us.length = [y].length -> bindArgs (PySem.W.fnOf x x (defArgs st) (defBody st) (defScope st) .none kV doc pm an cdv ct) ⟨us, []⟩ = pure ([y].zip us))
    (body : forall cdv A outer s H a oe (N : En), L2H.RoomH k (cxE P w K mg base Nm x st f cdv A outer s H a oe).A -> Zc (.ref D) none oe -> (∃ vs, oe.data = .fields vs) -> GS (cxE P w K mg base Nm x st f cdv A outer s H a oe) N (defBody st) (.raw (.ref a) :: List.replicate (Nm.length - 1) .any) (post (.ret (.str z)))) :
    FnE P w K mg base (k + 1) x D z := by
  refine ⟨f, fd, y, hm, F.kp, F.bindsN hb, fun A outer s H a oe Q hr hpin hz hf e0 hbt hq => ?_⟩
  obtain ⟨oc, od, dV, kV, doc, pm, an, cdv, ct, osl, rfl, lk, hcd, _, _⟩ := F.ex
  have inK : K.In s.heap := e0.mod.kin.keeps fun b o e => (e0.bs b o e).1
  have nol : s.heap.NoLimit := e0.mod.nolimit.keeps fun b o e => (e0.bs b o e).1
  refine codeAny_call_function hr.depth (inK _ _ lk) rfl S.co S.gen rfl (PySem.W.codeRec_of inK hcd) (hbt _ _ _ _ ?_)
  refine wpAny_newFunctionEnv_cells S.kind (fun ⟨n, v⟩ hy => ?_) fun env he s1 x1 => ?_
  · rcases S.par n (List.of_mem_zip (show (n, v) ∈ [y].zip [Value.ref a] from hy)).1 with q | q
    · exact .inl q
    · exact .inr ⟨q, PySem.W.cellsFrom_some _ _ _ (.inl q)⟩
  subst he
  refine ⟨nol.keeps x1.toInCall.keep, codeAny_func ?_⟩
  have J : Inv (cxE P w K mg base Nm x st f cdv A outer s H a oe) [] (L2.start Nm [.ref a]) H s1 := L2H.inv_startH S hpin e0 rfl (.cons rfl .nil) x1
  have hpl : 1 ≤ Nm.length := by
    have := congrArg List.length S.pre
    rw [List.length_take] at this
    have h1 : ([y] : List Str).length = 1 := rfl
    omega
  have f0 := fr_start (K := K) (G := H) (H := H) (Nm := Nm) (vs := [.ref a]) (cs := [.raw (.ref a)]) (Same.refl H) rfl hpl (fun i x h => by
    match i with
    | 0 => cases h
    | i + 1 => cases h) (fun i c v h1 h2 => by
    match i with
    | 0 =>
      cases h1
      cases h2
      rfl
    | i + 1 => cases h1)
  refine wpAny_mono (body cdv A outer s H a oe _ (hr.deeper _) hz hf H _ H f0 [] s1 J).run (fun fl s' hs => ?_) fun e s' hs => hs
  cases fl with
  | ret u =>
    obtain ⟨v, σ', H', J', rv, d', ⟨G', e1, _, dq, _⟩, hn⟩ := hs
    cases (show Out.ret (.str z) = .ret d' from hn)
    cases dq
    exact ⟨.str z, H', J'.os, J'.bare, J'.base, J'.hok, rv, hq H' e1.h⟩
  | next =>
    obtain ⟨_, _, _, _, _, hn⟩ := hs
    cases (show Out.ret (.str z) = .ret .none from hn)
  | brk =>
    obtain ⟨_, _, _, _, _, hn⟩ := hs
    exact hn.elim
  | cont =>
    obtain ⟨_, _, _, _, _, hn⟩ := hs
    exact hn.elim
section
variable {X : Cx} {N : En} {ρ : Rho} {k k' i : Nat} {x n y : Str} {p pe pos py : Pos} {a D Cy : Addr} {oe : Obj} {pn : List (Addr × Obj)} {z : Str} {b : Bool}
/-- x(e), e the caught error -/
theorem ge_fnE (F : FnE X.prog X.w X.K X.mg X.base k x D z) (hr : Room k' X.A) (hz : Zc (.ref D) none oe) (hf : ∃ vs, oe.data = .fields vs) (hk : k ≤ k' := by decide) (hρ : ρ[i]? = some (.raw (.ref a)) := by rfl) (hN : X.N[i]? = some n := by rfl) (hv : Vis X.env.scope n := by first | exact Or.inl rfl | exact Or.inr (Or.inl rfl) | exact Or.inr (Or.inr rfl)) (hg : Gl X x := by rfl)
    (hd : (n == ("__debug__" : Str)) = false := by decide) (hcd : (n == ("__classdict__" : Str)) = false := by decide) (hdx : (x == ("__debug__" : Str)) = false := by decide)
    (hs1 : starEach [.Name n pe] X.env = (false, eval (.Name n pe) X.env) :: starEach [] X.env := by rfl) (hpl : (backTo pos (starEach [] X.env)).any (·.1) = false := by rfl) :
    GE (X.suite a ((a, oe) :: pn)) (.Call (.Name x p) [.Name n pe] [] pos) ρ (.str z) := fun σ G H Q sta q pins s I => by
  refine Wp.mk ?_
  obtain ⟨f, fd, y, hm, kp, hb, F⟩ := F.ex
  obtain ⟨ov, h1, h2⟩ := sta.at_ i _ hρ
  have h2' : ov = some (.ref a) := h2
  subst h2'
  refine wpAny_Call_Name_kw (ld_glob (X := X.suite a ((a, oe) :: pn)) I hg hm ?_ hdx)
  refine PySem.W.callWith_K (h₀ := X.base) I.ok.mod.kin kp (thn ((pa_cons (pe_var (X := X.suite a ((a, oe) :: pn)) hN hv hd hcd) pa_nil hs1).run pos pins s σ H (fun vs H1 => vs = [.ref a] ∧ H1 = H) I ⟨.ref a, h1, rfl, rfl⟩) fun us s1 ⟨vs, H1, I1, r, q1⟩ => ⟨I1.kIn, ?_⟩) hs1 hpl
  obtain ⟨rfl, rfl⟩ := q1
  cases r with
  | cons r1 rr =>
    cases rr
    cases r1
    have hp := I1.pin (a, oe) (List.mem_append_left _ List.mem_cons_self)
    have hpin : L2H.PinOk (X.suite a ((a, oe) :: pn)).stack H1 s1 (a, oe) := ⟨hp.1, hp.2.1, fun hm => (List.mem_cons.mp (I1.stkSub a hm)).elim hp.2.2.1 hp.2.2.2.1, hp.2.2.2.2⟩
    have hrm : L2H.RoomH k (X.suite a ((a, oe) :: pn)).A := ⟨(hr.mono hk).dp, (hr.mono hk).un⟩
    refine wpAny_call (codeAny_mono (F _ _ s1 H1 a oe Q hrm hpin hz hf I1.env0 (hb s1 [.ref a] I1.kIn rfl) fun H' sm => q _ G H' ⟨Same.refl G, sm, sta.gh.trans sm, fun _ _ => rfl⟩ (.str z)) fun r' s' hq => ?_)
    cases r' with
    | error e' =>
      obtain ⟨_, _, _, _, _, _, _, _, _, _, _, _, w⟩ := hq
      exact w.elim
    | ok fl =>
      cases fl with
      | ret u => exact I1.after hq
      | next => exact False.elim hq
      | brk => exact False.elim hq
      | cont => exact False.elim hq
/-- isinstance(e, c), e an error that the context bears -/
theorem call_isP (hp : (a, oe) ∈ X.pn) (C : ExcC X.K D) (hz : Zc (.ref D) none oe) (hf : ∃ vs, oe.data = .fields vs) : CallR X (.builtin "isinstance") (rIsE X.K D a) := fun pins s σ H xs us Q I r h => by
  obtain ⟨c, cv, b, rfl, hcv, e, q⟩ := h
  cases r with
  | cons rx rr =>
    cases rr with
    | cons rt r0 =>
      cases r0
      cases rx
      obtain rfl := hcv _ rt
      have hget := (I.pin (a, oe) (List.mem_append_left _ hp)).1
      obtain ⟨vs, hv⟩ := hf
      have J : PySem.W.InstAt s.heap a oe D none := by
        obtain ⟨c1, d1, t1, l1⟩ := oe
        obtain ⟨z1, z2⟩ := hz
        dsimp only at z1 z2 hv
        subst z1 z2 hv
        exact ⟨hget, rfl, rfl, trivial⟩
      exact PySem.W.kia_one (PySem.W.handS_kitx_exc C.hg C.hk C.hs C.hd C.ha C.hn C.ht C.hm) I.kIn J e (fun z => nomatch z) fun tk => ⟨.bl b, H, I.kept (t' := tk) fun _ _ z => z, rfl, q⟩
theorem ge_isP (hm : X.mg "isinstance" = none) (hp : (a, oe) ∈ X.pn) (hC : ExcC X.K D) (hz : Zc (.ref D) none oe) (hf : ∃ vs, oe.data = .fields vs) (hy : X.mg y = some (.ref Cy)) (hk : PySem.W.kitOne X.K (.ref D) (.ref Cy) = some b)
    (hr : ρ[i]? = some (.raw (.ref a)) := by rfl) (hN : X.N[i]? = some n := by rfl) (hv : Vis X.env.scope n := by first | exact Or.inl rfl | exact Or.inr (Or.inl rfl) | exact Or.inr (Or.inr rfl)) (hg : Gl X "isinstance" := by rfl) (hgy : Gl X y := by rfl) (hd : (n == ("__debug__" : Str)) = false := by decide) (hcd : (n == ("__classdict__" : Str)) = false := by decide) (hdy : (y == ("__debug__" : Str)) = false := by decide)
    (hs1 : starEach [.Name n pe, .Name y py] X.env = (false, eval (.Name n pe) X.env) :: starEach [.Name y py] X.env := by rfl) (hs2 : starEach [.Name y py] X.env = (false, eval (.Name y py) X.env) :: starEach [] X.env := by rfl) (hpl : (backTo pos (starEach [.Name y py] X.env)).any (·.1) = false := by rfl) :
    GE X (.Call (.Name "isinstance" p) [.Name n pe, .Name y py] [] pos) ρ (.bool b) :=
  ge_of (pe_callB (call_isP hp hC hz hf) hg hm (by decide +kernel) (pa_cons (pe_var hN hv hd hcd) (pa_cons (pe_glob (v := .ref Cy) hgy hy rfl hdy) pa_nil hs2) hs1) (by decide) (by decide) hs1 hpl) fun σ G H Q s q => by
    obtain ⟨ov, h1, h2⟩ := s.at_ i _ hr
    have h2' : ov = some (.ref a) := h2
    subst h2'
    exact ⟨.ref a, h1, .ref Cy, .ref Cy, b, rfl, fun u r => r, hk, q _ G H (.refl s.gh) (.bl b)⟩
/-- isinstance(e, T), T a class of the built-ins -/
theorem ge_isPT {U : String} (hm : X.mg "isinstance" = none) (hp : (a, oe) ∈ X.pn) (hC : ExcC X.K D) (hz : Zc (.ref D) none oe) (hf : ∃ vs, oe.data = .fields vs) (hy : X.mg y = none) (hbt : bootBuiltins y = some (.type U)) (hk : PySem.W.kitOne X.K (.ref D) (.type U) = some b)
    (hr : ρ[i]? = some (.raw (.ref a)) := by rfl) (hN : X.N[i]? = some n := by rfl) (hv : Vis X.env.scope n := by first | exact Or.inl rfl | exact Or.inr (Or.inl rfl) | exact Or.inr (Or.inr rfl)) (hg : Gl X "isinstance" := by rfl) (hgy : Gl X y := by rfl) (hd : (n == ("__debug__" : Str)) = false := by decide) (hcd : (n == ("__classdict__" : Str)) = false := by decide) (hdy : (y == ("__debug__" : Str)) = false := by decide) (hny : y ≠ "__name__" := by decide)
    (hs1 : starEach [.Name n pe, .Name y py] X.env = (false, eval (.Name n pe) X.env) :: starEach [.Name y py] X.env := by rfl) (hs2 : starEach [.Name y py] X.env = (false, eval (.Name y py) X.env) :: starEach [] X.env := by rfl) (hpl : (backTo pos (starEach [.Name y py] X.env)).any (·.1) = false := by rfl) :
    GE X (.Call (.Name "isinstance" p) [.Name n pe, .Name y py] [] pos) ρ (.bool b) :=
  ge_of (pe_callB (call_isP hp hC hz hf) hg hm (by decide +kernel) (pa_cons (pe_var hN hv hd hcd) (pa_cons (pe_bltn (v := .ty U) hgy hy hbt rfl hny hdy) pa_nil hs2) hs1) (by decide) (by decide) hs1 hpl) fun σ G H Q s q => by
    obtain ⟨ov, h1, h2⟩ := s.at_ i _ hr
    have h2' : ov = some (.ref a) := h2
    subst h2'
    exact ⟨.ref a, h1, .ty U, .type U, b, rfl, fun u r => r, hk, q _ G H (.refl s.gh) (.bl b)⟩
end
end Gd

namespace Gd
open PySem PySem.Spec L2
/-! ### a def that gets a list of functions that raise, and a text -/
def spAll (P : Program) (w : World) (K : PySem.W.Frag) (mg : Str -> Option Value) (base : Heap) (k : Nat) (nm : Addr -> Str -> Prop) : Sp := fun vs H Q _ => ∃ (G : Hp) (l : Addr) (fs : List Addr) (z : Str) (C : Addr), vs = [.ref l, .str z] ∧ Same G H ∧ (forall b ps, G b ≠ some (.tbl ps)) ∧ G l = some (.lst (fs.map V.ref)) ∧ (forall f, f ∈ fs -> Th P w K mg base k G f C) ∧ nm C z ∧ fs.length ≤ 1000 ∧ forall H', Same H H' -> Q (.bl true) H'
def noT (G : Hp) : Hp := fun b => match G b with | some (.tbl _) => none | o => o
theorem noT_some {G : Hp} {b : Addr} {u : HO} (h : noT G b = some u) : G b = some u ∧ forall ps, u ≠ .tbl ps := by
  unfold noT at h
  cases e : G b with
  | none => rw [e] at h; cases h
  | some o =>
    rw [e] at h
    cases o with
    | tbl ps => cases h
    | _ => cases h; exact ⟨rfl, fun ps z => nomatch z⟩
theorem noT_of {G : Hp} {b : Addr} {u : HO} (h : G b = some u) (n : forall ps, u ≠ .tbl ps) : noT G b = some u := by
  unfold noT
  rw [h]
  cases u with
  | tbl ps => exact absurd rfl (n ps)
  | _ => rfl
/-- the values in the slots js -/
theorem slots_of {K : PySem.W.Frag} {G H : Hp} {σ : L2.St} {ρ : Rho} (s : Sta K G H σ ρ) : forall {js : List Nat} {ds : List PyData}, js.map (fun j => ρ[j]?) = ds.map (fun d => some (Cell.dat d)) -> ∃ vs : List V, DqAll K G vs ds ∧ forall (i j : Nat) (v : V), js[i]? = some j -> vs[i]? = some v -> σ[j]? = some (some v)
  | [], [], _ => ⟨[], .nil, fun i j v h => by simp at h⟩
  | [], _ :: _, h => by simp at h
  | _ :: _, [], h => by simp at h
  | j :: js, d :: ds, h => by
    rw [List.map_cons, List.map_cons] at h
    injection h with h1 h2
    obtain ⟨vs, a, b⟩ := slots_of s h2
    obtain ⟨v, c1, c2⟩ := s.dat h1
    refine ⟨v :: vs, .cons c2 a, fun i j' v' e1 e2 => ?_⟩
    cases i with
    | zero =>
      cases e1
      cases e2
      exact c1
    | succ i => exact b i j' v' (by simpa using e1) (by simpa using e2)
section
variable {X : Cx} {N : En} {T : List (Addr × Str)} {ρ : Rho} {k k' kt j : Nat} {x z : Str} {nm : Addr -> Str -> Prop} {params : Arguments} {body : Expr} {scope : Scope} {p lp p2 p3 pos : Pos} {c P C : Addr} {fr : List Str} {js : List Nat} {ds : List PyData}
/-- what must be known of a lambda that the running body makes -/
structure LamK (X : Cx) (T : List (Addr × Str)) (params : Arguments) (scope : Scope) (fr : List Str) (js : List Nat) (c P : Addr) : Prop where
  TB : LamX.TabB X.base X.mg c P
  code : X.env.code = .ref c
  mem : (P, X.env.qual ++ "<lambda>") ∈ T
  one : forall p, p ∈ T -> p.1 = P -> p.2 = X.env.qual ++ "<lambda>"
  L : LamX.LamS X.env.scope scope
  dflt : defaultsOf params X.env = ([], [])
  S : NdefX.NScope fr [] fr scope
  js : js.map (fun j => X.N[j]?) = fr.map some
  fn : forall y, X.fn y = true
/-- the lambda's promise, where the running frame's cells are tracked -/
theorem lam_now {pins : List (Addr × Obj)} {σ : L2.St} {G1 G2 H H2 : Hp} {s : Shared} {D : Dm} {f c' : Addr} {pm ctv : Value} {vs : List V} (LK : LamK X T params scope fr js c P) (ok : X.Ok) (cd : CellsD X σ H2 D) (hG : forall c o, D c = some o -> G2 c = some (dR c o)) (hf : G2 f = some (dR f (PySem.W.kla_obj "<lambda>" (X.env.qual ++ "<lambda>") params body scope (cloFrom X.env.cells scope.names []) pm c' ctv))) (hc : G2 c' = some (LamX.CodeO c' (X.env.qual ++ "<lambda>")))
    (hvs : DqAll X.K G2 vs ds) (hσ : forall (i j : Nat) (v : V), js[i]? = some j -> vs[i]? = some v -> σ[j]? = some (some v))
    (hbind : forall (q : Str) (cl : List (Str × Addr)) (pm cv ctv : Value), bindArgs (PySem.W.kla_fn "<lambda>" q params body scope cl pm cv ctv) ⟨[], []⟩ = pure [])
    (hbody : forall (q : Str) (cl : List (Str × Addr)) (c' f : Addr) (A : Around) (outer : List Env) (s : Shared) (H : Hp) (E : XK) (N' : En), Room kt (lcx X.prog X.w X.K X.mg X.base fr q params scope cl c' f A outer s H E).A -> Xok (lcx X.prog X.w X.K X.mg X.base fr q params scope cl c' f A outer s H E) N' (fun _ => True) C ->
      GX (lcx X.prog X.w X.K X.mg X.base fr q params scope cl c' f A outer s H E) N' body (ds.map Cell.dat)) (hlen : ds.length = fr.length) : Th X.prog X.w X.K X.mg X.base (kt + 1) G2 f C := by
  have hfr : forall y, y ∈ fr -> (y, NameKind.free) ∈ scope.names := fun y hy => PySem.mem_of_lookup (LK.S.frk y hy)
  have caps := NdefX.Caps.made (X := X) (scope := scope) (fr := fr) (js := js) ok LK.L.free hfr LK.js
  have hfree := LK.L.has ok
  refine lam_th hf hc LK.S ⟨fun x y a e1 e2 => cd.inj x y a (caps.sub x a e1) (caps.sub y a e2), fun y a hm => ?_, vs, hvs, hlen, fun i y v e1 e2 => ?_⟩ (hbind _ _ _ _ _) fun A outer s H E N' hr hx => hbody _ _ _ _ A outer s H E N' hr hx
  · rcases cloFrom_mem hm with h | ⟨h1, h2⟩
    · cases h
    · obtain ⟨a1, ha⟩ := hfree _ h1 rfl
      have ha : X.env.cells.lookup y = some a1 := ha
      have ea : a = a1 := by
        rw [h2, ha] <;> rfl
      subst ea
      obtain ⟨o, v, d1, d2⟩ := cd.all y a ha
      exact ⟨o, v, hG _ _ d1, d2⟩
  · have e3 : (js.map fun j => X.N[j]?)[i]? = some (some y) := by
      rw [LK.js, List.getElem?_map, e1] <;> rfl
    rw [List.getElem?_map] at e3
    cases ej : js[i]? with
    | none => rw [ej] at e3; cases e3
    | some j =>
      rw [ej] at e3
      have hj : X.N[j]? = some y := Option.some.inj e3
      obtain ⟨a, o, u, a1, a2, a3, a4⟩ := cd.val j y v hj (hσ i j v ej e2) (caps.kin y (List.mem_of_getElem? e1))
      exact ⟨a, o, u, caps.sup y (List.mem_of_getElem? e1) a a1, hG _ _ a2, a3, a4⟩
/-- x([lambda: body], "z") -/
theorem gbl_lam1 (hn : NoT N) (F : CanS X.prog X.w X.K X.mg X.base k x (spAll X.prog X.w X.K X.mg X.base (kt + 1) nm)) (hr : Room k' X.A) (LK : LamK X T params scope fr js c P) (hds : js.map (fun j => ρ[j]?) = ds.map (fun d => some (Cell.dat d)))
    (hbind : forall (q : Str) (cl : List (Str × Addr)) (pm cv ctv : Value), bindArgs (PySem.W.kla_fn "<lambda>" q params body scope cl pm cv ctv) ⟨[], []⟩ = pure [])
    (hbody : forall (q : Str) (cl : List (Str × Addr)) (c' f : Addr) (A : Around) (outer : List Env) (s : Shared) (H : Hp) (E : XK) (N' : En), Room kt (lcx X.prog X.w X.K X.mg X.base fr q params scope cl c' f A outer s H E).A -> Xok (lcx X.prog X.w X.K X.mg X.base fr q params scope cl c' f A outer s H E) N' (fun _ => True) C ->
      GX (lcx X.prog X.w X.K X.mg X.base fr q params scope cl c' f A outer s H E) N' body (ds.map Cell.dat)) (hnm : nm C z) (hk : k ≤ k' := by decide) (hlen : ds.length = fr.length := by rfl) (hg : Gl X x := by rfl) (hdb : (x == ("__debug__" : Str)) = false := by decide)
    (he : starEach (.List [.Lambda params body scope lp] p2 :: [.Constant (.str z) j p3]) X.env = (false, eval (.List [.Lambda params body scope lp] p2) X.env) :: starEach [.Constant (.str z) j p3] X.env := by rfl) (he1 : starEach [.Lambda params body scope lp] X.env = (false, eval (.Lambda params body scope lp) X.env) :: starEach [] X.env := by rfl)
    (he2 : starEach [.Constant (.str z) j p3] X.env = (false, eval (.Constant (.str z) j p3) X.env) :: starEach [] X.env := by rfl) (hpl : (backTo pos (starEach [.Constant (.str z) j p3] X.env)).any (·.1) = false := by rfl) :
    GBL X N T (.Call (.Name x p) (.List [.Lambda params body scope lp] p2 :: [.Constant (.str z) j p3]) [] pos) ρ true := fun P0 σ H f pins s I => Wp.mk <| by
  obtain ⟨G, fo⟩ := f.down hn
  obtain ⟨fa, fd, ps, hm, kp, hb, Fo⟩ := F.ex
  refine (pe_callC Fo hr hk hg hm kp hb LK.fn (pa_cons (pe_lst (pa_cons (pe_lamT LK.TB LK.code LK.mem LK.one LK.L LK.dflt) pa_nil he1)) (pa_cons pe_str pa_nil he2) he) hdb he hpl).run pins s σ H _ I ?_
  refine ⟨G, fo.2.2.1.gh, fo.2.2.2.2, fun f c' pm ctv G1 H1 ex htb nf hf hc => ⟨by show 1 ≤ sizeLine; decide, fun l hl => ?_⟩⟩
  show forall D, CellsD X σ (upd H1 l (.lst [.ref f])) D -> spAll X.prog X.w X.K X.mg X.base (kt + 1) nm [.ref l, .str z] (addH (upd H1 l (.lst [.ref f])) D) _ _
  intro D cd
  have gl : G1 l = none := ex.gh.free hl
  have hDl : D l = none := by
    cases e : D l with
    | none => rfl
    | some o =>
      have := cd.free l o e
      rw [upd_same] at this
      cases this
  have hDn : forall b u, G1 b = some u -> D b = none ∧ b ≠ l := fun b u e => by
    have nb : b ≠ l := ne_of_none e gl
    refine ⟨?_, nb⟩
    cases eD : D b with
    | none => rfl
    | some o =>
      have := cd.free b o eD
      rw [upd_ne nb, ex.gh _ _ e] at this
      cases this
  have toG : forall b u, G1 b = some u -> (forall ps, u ≠ .tbl ps) -> upd (addH (noT G1) D) l (.lst [.ref f]) b = some u := fun b u e n => by
    obtain ⟨h1, h2⟩ := hDn b u e
    rw [upd_ne h2, addH_out h1]
    exact noT_of e n
  have inD : forall c o, D c = some o -> upd (addH (noT G1) D) l (.lst [.ref f]) c = some (dR c o) := fun c o e => by
    have nb : c ≠ l := fun z => by rw [z, hDl] at e; cases e
    rw [upd_ne nb, addH_in e]
  obtain ⟨vs, dvs, hσ⟩ := slots_of fo.2.2.1 hds
  have ls : Less G1 (upd (addH (noT G1) D) l (.lst [.ref f])) := fun b u e => by
    by_cases ht : ∃ ps, u = .tbl ps
    · exact .inr (.inr ht)
    · exact .inl (toG b u e fun ps y => ht ⟨ps, y⟩)
  have th : Th X.prog X.w X.K X.mg X.base (kt + 1) (upd (addH (noT G1) D) l (.lst [.ref f])) f C := lam_now (pins := pins) (G1 := G1) (H := H) (s := s) LK I.ok cd inD (toG _ _ hf fun ps => tbl_ne ps) (toG _ _ hc fun ps => LamX.codeO_ne ps) ((dvs.mono ex.g).less ls) hσ hbind hbody hlen
  refine ⟨upd (addH (noT G1) D) l (.lst [.ref f]), l, [f], z, C, rfl, fun b u e => ?_, fun b ps e => ?_, upd_same, fun g hg => ?_, hnm, by show 1 ≤ 1000; decide, fun H' sm => ?_⟩
  · by_cases hb : b = l
    · subst hb
      rw [upd_same] at e
      rw [addH_out hDl, upd_same]
      exact e
    · rw [upd_ne hb] at e
      cases eD : D b with
      | some o =>
        rw [addH_in eD] at e ⊢
        exact e
      | none =>
        rw [addH_out eD] at e ⊢
        rw [upd_ne hb]
        exact ex.gh _ _ (noT_some e).1
  · by_cases hb : b = l
    · subst hb
      rw [upd_same] at e
      cases e
    · rw [upd_ne hb] at e
      cases eD : D b with
      | some o =>
        rw [addH_in eD] at e
        exact tbl_ne ps (Option.some.inj e)
      | none =>
        rw [addH_out eD] at e
        exact (noT_some e).2 ps rfl
  · rw [List.mem_singleton.mp hg]
    exact th
  · refine ⟨fun c o e => sm _ _ (addH_in e), rfl, ?_⟩
    have S1 : Same H1 (delH H' D) := fun b u e => by
      have nb : b ≠ l := ne_of_none e hl
      have hD : D b = none := by
        cases eD : D b with
        | none => rfl
        | some o =>
          have := cd.free b o eD
          rw [upd_ne nb, e] at this
          cases this
      rw [delH_out hD]
      exact sm _ _ (by rw [addH_out hD, upd_ne nb]; exact e)
    have ex2 : ExtT T G H G1 (delH H' D) := ⟨ex.g, ex.h.trans (LamX.ExtN.of S1), ex.gh.trans S1, ex.old, fun p hp => by
      obtain ⟨ps, a1, a2, a3, a4⟩ := ex.tab p hp
      exact ⟨ps, S1 _ _ a1, a2, a3, a4⟩⟩
    exact (fo.extT hn ex2).up hn
end
/-! ### the law: its entry, the top's facts with tables -/
def spL (K : PySem.W.Frag) (T : List (Addr × Str)) : Sp := fun vs H Q _ => ∃ (a : Addr) (ns : List Int), vs = [.ref a] ∧ ns.length ≤ 63 ∧ SqL K H a (ns.map V.int) ∧ (forall p, p ∈ T -> H p.1 = some (.tbl #[])) ∧ forall H', Q (.bl true) H'
theorem okL_of {P : Program} {w : World} {K : PySem.W.Frag} {mg : Str -> Option Value} {base : Heap} {x y : Str} {st : Stmt} {fd : FuncData} {Nm : List Str} {k : Nat} {T : List (Addr × Str)} (F : FnP K x st (He.ga K x) fd) (S : FnScope Nm [y] (defScope st))
    (body : forall A outer s H E (N : En) (ns : List Int), Room k (cxD P w K mg base Nm x st (He.ga K x) (.ref (He.codeOf K (x, none))) A outer s H E).A -> NoT N -> ns.length ≤ 63 -> GSL (cxD P w K mg base Nm x st (He.ga K x) (.ref (He.codeOf K (x, none))) A outer s H E) N T (defBody st) (startR Nm.length [scrD ns]) (post (.ret (.bool true)))) :
    FnOk P w K mg base (L2.CX P w) (k + 1) (He.ga K x) fd [y] (spL K T) := by
  obtain ⟨oc, od, dV, kV, doc, pm, an, cdv, ct, osl, rfl, lk, hcd, _, _⟩ := F.ex
  obtain ⟨c, rfl⟩ := He.codeIn_ref hcd
  have ec : He.codeOf K (x, none) = c := He.codeOf_eq (p := (x, none)) lk rfl
  subst ec
  refine fn_of lk hcd S (fun vs H Q E ⟨a, ns, e, _⟩ => by rw [e]; rfl) fun A outer s H vs Q E hr hsp => ⟨tws _ _, pss_tw, ?_⟩
  obtain ⟨a, ns, rfl, hl, hS, hT, hQ⟩ := hsp
  have hs : Same (noT H) H := fun b u e => (noT_some e).1
  have hsq : SqL K (noT H) a (ns.map V.int) := by
    rcases hS with (h | ⟨o, h⟩) | h
    · exact .inl (.inl (noT_of h fun ps z => nomatch z))
    · exact .inl (.inr ⟨o, noT_of h fun ps z => nomatch z⟩)
    · exact .inr h
  have sta := sta_start (Nm := Nm) hs (DqAll.cons (Dq.scr (K := K) (G := noT H) hsq rfl) .nil)
  have hn : NoT (⟨noT H, noT H, fun _ => none⟩ : En) := ⟨Same.refl _, fun b ps e => (noT_some e).2 ps rfl, fun _ _ z => nomatch z⟩
  have nofr : forall (i : Nat) (xo : Own) (p : Addr), (startR Nm.length [scrD ns])[i]? = some (.owx xo) -> (L2.start Nm [V.ref a])[i]? = some (some (.ref p)) -> noT H p = none := fun i xo p h1 => by
    exfalso
    unfold startR at h1
    by_cases hi : i < [scrD ns].length
    · rw [List.getElem?_append_left (by simpa using hi), List.getElem?_map] at h1
      cases hd : ([scrD ns])[i]? with
      | none => rw [hd] at h1; cases h1
      | some d => rw [hd] at h1; cases h1
    · rw [List.getElem?_append_right (by rw [List.length_map]; omega), List.getElem?_replicate] at h1
      split at h1 <;> cases h1
  have tab0 : TabG T (noT H) H := fun p hp => ⟨#[], hT p hp, by unfold noT; rw [hT p hp], True.intro, fun pos cv hc => by
    have z : codeAmong pos [] = some cv := hc
    simp [codeAmong] at z⟩
  have f0 : FrO K (⟨noT H, noT H, fun _ => none⟩ : En) T (fun _ => none) (noT H) (L2.start Nm [.ref a]) H (startR Nm.length [scrD ns]) := ⟨⟨⟨Same.refl _, hs, hs, fun _ _ => rfl⟩, fun _ _ z => nomatch z⟩, (fun _ _ z => nomatch z), sta, nofr, tab0⟩
  refine tws_mono ⟨fun σ H' hz => ?_, fun v H' hz => ?_, fun _ _ z => ?_, fun _ _ z => ?_⟩ (body A outer s H E _ ns hr hn hl _ _ H (f0.up hn))
  · obtain ⟨ρ, _, hz⟩ := hz
    cases (show Out.ret (.bool true) = .ret .none from hz)
  · obtain ⟨d, ⟨Gp, ⟨G', _, _, dq, _⟩, _⟩, hz⟩ := hz
    cases (show Out.ret (.bool true) = .ret d from hz)
    cases dq
    exact hQ H'
  · obtain ⟨_, _, z⟩ := z; exact z
  · obtain ⟨_, _, z⟩ := z; exact z
/-! ### the Hook with tables -/
structure TabF (tf : List He.Defn) (K : PySem.W.Frag) (h : Heap) : Prop where
  hd : forall p, p ∈ tf -> PySem.W.codeHdIn K (He.cT K p).1 (He.cT K p).2 = true
  out : forall p, p ∈ tf -> K.lookup (He.cT K p).2 = none
  empty : forall p, p ∈ tf -> h.get? (He.cT K p).2 = some { cls := .none, data := .fields #[] }
theorem tabF_of {g : Addr -> Option Obj} {as : List Addr} {tf : List He.Defn} {h : Heap} (eg : g = h.get?) (e : He.tabsB g tf (He.frT g as) = true) : TabF tf (He.frT g as) h := by
  have key : forall p, p ∈ tf -> PySem.W.codeHdIn (He.frT g as) (He.cT (He.frT g as) p).1 (He.cT (He.frT g as) p).2 = true ∧ ∃ o, g (He.cT (He.frT g as) p).2 = some o ∧ He.emptyTab o = true := fun p hp => by
    obtain ⟨h3, h4⟩ := He.ba (List.all_eq_true.mp e p hp)
    refine ⟨h3, ?_⟩
    cases q : g (He.cT (He.frT g as) p).2 with
    | none => rw [q] at h4; cases h4
    | some o => rw [q] at h4; exact ⟨o, rfl, h4⟩
  refine ⟨fun p hp => (key p hp).1, fun p hp => ?_, fun p hp => ?_⟩
  · obtain ⟨_, o, q, z⟩ := key p hp
    exact He.frT_none q z
  · obtain ⟨_, o, q, z⟩ := key p hp
    rw [← eg, q, He.emptyTab_eq z]
def hookT (n : Nat) (chk : PySem.W.Frag -> Bool) (fn : List He.DefD) (tf : List He.Defn) : PySem.W.Hook where
  α := He.AlD × Bool
  obs := fun s => (seenG chk fn (He.frT s.heap.get? (He.asD s.heap.get? n)), He.tabsB s.heap.get? tf (He.frT s.heap.get? (He.asD s.heap.get? n)))
  val := fun _ => (He.valD fn, true)
  says := fun _ h => ∃ K : PySem.W.Frag, K.In h ∧ seenG chk fn K = He.valD fn ∧ TabF tf K h
  of := fun _ _ e => ⟨_, He.frT_in, congrArg (fun z : He.AlD × Bool => z.1) e, tabF_of rfl (congrArg (fun z : He.AlD × Bool => z.2) e)⟩
  keeps := fun _ _ _ ⟨K, hK, c, t⟩ k => ⟨K, PySem.W.Frag.In.keeps hK k, c, t.hd, t.out, fun p hp => k _ _ (t.empty p hp)⟩
def obT (n : Nat) (chk : PySem.W.Frag -> Bool) (fn : List He.DefD) (tf : List He.Defn) (s : PySem.W.SharedT) : He.AlD × Bool := (seenG chk fn (He.frT (HandSHeadRun.getT s) (He.asD (HandSHeadRun.getT s) n)), He.tabsB (HandSHeadRun.getT s) tf (He.frT (HandSHeadRun.getT s) (He.asD (HandSHeadRun.getT s) n)))
theorem obT_eq {n : Nat} {chk : PySem.W.Frag -> Bool} {fn : List He.DefD} {tf : List He.Defn} (s : PySem.W.SharedT) : obT n chk fn tf s = (hookT n chk fn tf).obs s.abs := by
  have e : HandSHeadRun.getT s = s.abs.heap.get? := funext (HandSHeadRun.getT_eq s)
  unfold obT
  rw [e]
  rfl
/-- the tables as the bodies know them -/
def tabsN (K : PySem.W.Frag) (tf : List He.Defn) : List (Addr × Str) := tf.map fun p => ((He.cT K p).2, p.1 ++ ".<locals>." ++ "<lambda>")
/-- every error of the module is a ValueError -/
def valChk (xs : List Str) (K : PySem.W.Frag) : Bool := xs.all fun x => decide (PySem.W.kitOne K (.ref (He.ga K x)) (.type "ValueError") = some true)
theorem val_kit {xs : List Str} {K : PySem.W.Frag} (h : valChk xs K = true) {x : Str} (hx : x ∈ xs) : PySem.W.kitOne K (.ref (He.ga K x)) (.type "ValueError") = some true := of_decide_eq_true (List.all_eq_true.mp h x hx)
end Gd

namespace Lw
open PySem PySem.Spec L2 Gd

def topS (i : Nat) : Stmt := PySem.Challenge.pw_restrules_k64_formats.main.body.getD i (.Pass ⟨0, 0, 0, 0⟩)
abbrev s_is_int : Stmt := topS 22
abbrev n_is_int : List Str := ["value", "least", "most"]
theorem sc_is_int : FnScope n_is_int ["value", "least", "most"] (defScope s_is_int) := ⟨rfl, rfl, rfl, by decide +kernel, rfl, by decide +kernel, by decide +kernel⟩
abbrev s_is_rules : Stmt := topS 23
abbrev n_is_rules : List Str := ["candidate", "stint", "pause", "daily", "night", "split"]
theorem sc_is_rules : FnScope n_is_rules ["candidate"] (defScope s_is_rules) := ⟨rfl, rfl, rfl, by decide +kernel, rfl, by decide +kernel, by decide +kernel⟩
abbrev s_is_log : Stmt := topS 24
abbrev n_is_log : List Str := ["candidate", "sign"]
theorem sc_is_log : FnScope n_is_log ["candidate"] (defScope s_is_log) := ⟨rfl, rfl, rfl, by decide +kernel, rfl, by decide +kernel, by decide +kernel⟩
abbrev s_check_rules : Stmt := topS 25
abbrev n_check_rules : List Str := ["value"]
theorem sc_check_rules : FnScope n_check_rules ["value"] (defScope s_check_rules) := ⟨rfl, rfl, rfl, by decide +kernel, rfl, by decide +kernel, by decide +kernel⟩
abbrev s_check_log : Stmt := topS 26
abbrev n_check_log : List Str := ["value"]
theorem sc_check_log : FnScope n_check_log ["value"] (defScope s_check_log) := ⟨rfl, rfl, rfl, by decide +kernel, rfl, by decide +kernel, by decide +kernel⟩
abbrev s_check_both : Stmt := topS 27
abbrev n_check_both : List Str := ["rules", "log"]
theorem sc_check_both : FnScope n_check_both ["rules", "log"] (defScope s_check_both) := ⟨rfl, rfl, rfl, by decide +kernel, rfl, by decide +kernel, by decide +kernel⟩
abbrev s_rest_once : Stmt := topS 30
abbrev n_rest_once : List Str := ["rules", "state", "stint", "day", "mark", "run", "took"]
theorem sc_rest_once : FnScope n_rest_once ["rules", "state"] (defScope s_rest_once) := ⟨rfl, rfl, rfl, by decide +kernel, rfl, by decide +kernel, by decide +kernel⟩
abbrev s_end_run : Stmt := topS 31
abbrev n_end_run : List Str := ["rules", "state", "stint", "day", "mark", "run", "took", "part"]
theorem sc_end_run : FnScope n_end_run ["rules", "state"] (defScope s_end_run) := ⟨rfl, rfl, rfl, by decide +kernel, rfl, by decide +kernel, by decide +kernel⟩
abbrev s_step : Stmt := topS 32
abbrev n_step : List Str := ["rules", "state", "sign", "stint", "day", "mark", "run", "took"]
theorem sc_step : FnScope n_step ["rules", "state", "sign"] (defScope s_step) := ⟨rfl, rfl, rfl, by decide +kernel, rfl, by decide +kernel, by decide +kernel⟩
abbrev s_all_states : Stmt := topS 33
abbrev n_all_states : List Str := ["rules", "log", "found", "sign"]
theorem sc_all_states : FnScope n_all_states ["rules", "log"] (defScope s_all_states) := ⟨rfl, rfl, rfl, by decide +kernel, rfl, by decide +kernel, by decide +kernel⟩
abbrev s_is_over : Stmt := topS 34
abbrev n_is_over : List Str := ["rules", "state"]
theorem sc_is_over : FnScope n_is_over ["rules", "state"] (defScope s_is_over) := ⟨rfl, rfl, rfl, by decide +kernel, rfl, by decide +kernel, by decide +kernel⟩
abbrev s_find_faults : Stmt := topS 35
abbrev n_find_faults : List Str := ["rules", "log", "known", "slot", "sign"]
theorem sc_find_faults : FnScope n_find_faults ["rules", "log"] (defScope s_find_faults) := ⟨rfl, rfl, rfl, by decide +kernel, rfl, by decide +kernel, by decide +kernel⟩
abbrev s_log_text : Stmt := topS 40
abbrev n_log_text : List Str := ["log", "rows", "sign", "many"]
theorem sc_log_text : FnScope n_log_text ["log"] (defScope s_log_text) := ⟨rfl, rfl, rfl, by decide +kernel, rfl, by decide +kernel, by decide +kernel⟩
abbrev s_format_log : Stmt := topS 41
abbrev n_format_log : List Str := ["log"]
theorem sc_format_log : FnScope n_format_log ["log"] (defScope s_format_log) := ⟨rfl, rfl, rfl, by decide +kernel, rfl, by decide +kernel, by decide +kernel⟩
abbrev s_read_row : Stmt := topS 42
abbrev n_read_row : List Str := ["word", "digits", "sign"]
theorem sc_read_row : FnScope n_read_row ["word"] (defScope s_read_row) := ⟨rfl, rfl, rfl, by decide +kernel, rfl, by decide +kernel, by decide +kernel⟩
abbrev s_parse_log : Stmt := topS 43
abbrev n_parse_log : List Str := ["text", "log", "word"]
theorem sc_parse_log : FnScope n_parse_log ["text"] (defScope s_parse_log) := ⟨rfl, rfl, rfl, by decide +kernel, rfl, by decide +kernel, by decide +kernel⟩
abbrev s_picture : Stmt := topS 44
abbrev n_picture : List Str := ["rules", "log", "found", "slot"]
theorem sc_picture : FnScope n_picture ["rules", "log"] (defScope s_picture) := ⟨rfl, rfl, rfl, by decide +kernel, rfl, by decide +kernel, by decide +kernel⟩
abbrev s_law_pick : Stmt := topS 46
abbrev n_law_pick : List Str := ["script", "k", "many", "cell", "rest", "again", "drawn"]
theorem sc_law_pick : FnScope n_law_pick ["script", "k", "many"] (defScope s_law_pick) := ⟨rfl, rfl, rfl, by decide +kernel, rfl, by decide +kernel, by decide +kernel⟩
abbrev s_law_form : Stmt := topS 47
abbrev n_law_form : List Str := ["script", "at", "most", "stint", "pause", "daily", "night"]
theorem sc_law_form : FnScope n_law_form ["script", "at", "most"] (defScope s_law_form) := ⟨rfl, rfl, rfl, by decide +kernel, rfl, by decide +kernel, by decide +kernel⟩
abbrev s_law_row : Stmt := topS 48
abbrev n_law_row : List Str := ["script", "at", "most", "k"]
theorem sc_law_row : FnScope n_law_row ["script", "at", "most"] (defScope s_law_row) := ⟨rfl, rfl, rfl, by decide +kernel, rfl, by decide +kernel, by decide +kernel⟩
abbrev s_law_count : Stmt := topS 49
abbrev n_law_count : List Str := ["form", "row", "stint", "pause", "daily", "night", "split", "one", "day", "mark", "at", "size", "used"]
theorem sc_law_count : FnScope n_law_count ["form", "row"] (defScope s_law_count) := ⟨rfl, rfl, rfl, by decide +kernel, rfl, by decide +kernel, by decide +kernel⟩
abbrev s_law_bad : Stmt := topS 50
abbrev n_law_bad : List Str := ["form", "row", "found", "k", "one", "day", "mark"]
theorem sc_law_bad : FnScope n_law_bad ["form", "row"] (defScope s_law_bad) := ⟨rfl, rfl, rfl, by decide +kernel, rfl, by decide +kernel, by decide +kernel⟩
abbrev s_law_class : Stmt := topS 51
abbrev n_law_class : List Str := ["error", "kinds", "words"]
theorem sc_law_class : FnScope n_law_class ["error"] (defScope s_law_class) := ⟨rfl, rfl, rfl, by decide +kernel, rfl, by decide +kernel, by decide +kernel⟩
abbrev s_law_result : Stmt := topS 52
abbrev n_law_result : List Str := ["call", "error"]
theorem sc_law_result : FnScope n_law_result ["call"] (defScope s_law_result) := ⟨rfl, rfl, rfl, by decide +kernel, rfl, by decide +kernel, by decide +kernel⟩
abbrev s_law_all : Stmt := topS 53
abbrev n_law_all : List Str := ["calls", "word", "call"]
theorem sc_law_all : FnScope n_law_all ["calls", "word"] (defScope s_law_all) := ⟨rfl, rfl, rfl, by decide +kernel, rfl, by decide +kernel, by decide +kernel⟩
abbrev s_law : Stmt := topS 54
abbrev n_law : List Str := ["script", "i", "form", "row", "words", "start", "k", "text", "bad", "wrong", "value"]
theorem sc_law : FnScope n_law ["script"] (defScope s_law) := ⟨rfl, rfl, rfl, by decide +kernel, rfl, by decide +kernel, by decide +kernel⟩

def tfL : List He.Defn := [("law", none)]
def fnL : List He.DefD := [dD "is_int" s_is_int, dD "is_rules" s_is_rules, dD "is_log" s_is_log, dD "check_rules" s_check_rules, dD "check_log" s_check_log, dD "check_both" s_check_both, dD "rest_once" s_rest_once, dD "end_run" s_end_run, dD "step" s_step, dD "all_states" s_all_states, dD "is_over" s_is_over, dD "find_faults" s_find_faults, dD "log_text" s_log_text, dD "format_log" s_format_log, dD "read_row" s_read_row, dD "parse_log" s_parse_log, dD "picture" s_picture, dD "_law_pick" s_law_pick, dD "_law_form" s_law_form, dD "_law_row" s_law_row, dD "_law_count" s_law_count, dD "_law_bad" s_law_bad, dD "_law_class" s_law_class, dD "_law_result" s_law_result, dD "_law_all" s_law_all, dD "law" s_law]
def faL : List He.Fa := [.glo "is_int", .glo "is_rules", .glo "is_log", .glo "check_rules", .glo "check_log", .glo "check_both", .glo "rest_once", .glo "end_run", .glo "step", .glo "all_states", .glo "is_over", .glo "find_faults", .glo "log_text", .glo "format_log", .glo "read_row", .glo "parse_log", .glo "picture", .glo "_law_pick", .glo "_law_form", .glo "_law_row", .glo "_law_count", .glo "_law_bad", .glo "_law_class", .glo "_law_result", .glo "_law_all", .glo "law", .glo "RestError", .exc "RestError", .glo "InvalidRules", .exc "InvalidRules", .glo "InvalidLog", .exc "InvalidLog", .glo "InvalidLength", .exc "InvalidLength", .glo "InvalidMany", .exc "InvalidMany", .glo "InvalidDuty", .exc "InvalidDuty", .glo "InvalidPrices", .exc "InvalidPrices", .glo "InvalidHours", .exc "InvalidHours", .glo "TooLong", .exc "TooLong", .glo "TooLarge", .exc "TooLarge", .glo "NothingToUndo", .exc "NothingToUndo", .glo "ParseError", .exc "ParseError", .free "len", .free "range", .free "isinstance", .free "int", .free "bool", .free "tuple", .free "str", .free "all", .free "enumerate", .free "min", .free "max", .free "ValueError", .int "MAX_STINT" 6, .int "MAX_PAUSE" 4, .int "MAX_DAILY" 10, .int "MAX_NIGHT" 6, .int "MAX_LOG" 60, .str "DRIVE" "D", .str "REST" "R", .str "SIGNS" "DRW", .glo "START", .str "BETWEEN" " ", .str "DIGITS" "0123456789", .int "MAX_DIGITS" 2]
def excL : List Str := ["RestError", "InvalidRules", "InvalidLog", "InvalidLength", "InvalidMany", "InvalidDuty", "InvalidPrices", "InvalidHours", "TooLong", "TooLarge", "NothingToUndo", "ParseError"]
def chkL (K : PySem.W.Frag) : Bool := allFa faL K && (He.tupB K "START" [.int 0, .int 0, .bl false, .int 0, .bl false] && (excChk excL K && valChk excL K))
/-- what the top has left -/
structure Tp (K : PySem.W.Frag) (mg : Str -> Option Value) : Prop where
  c : seenG chkL fnL K = He.valD fnL
  hp : ∃ h : Heap, K.In h ∧ h.Ns mainGlobals mg
namespace Tp
variable {K : PySem.W.Frag} {mg : Str -> Option Value} (T : Tp K mg)
include T
theorem fa : allFa faL K = true := (He.ba (seenG_chk T.c)).1
theorem gl_is_int : mg "is_int" = some (.ref (He.ga K "is_int")) := by
  obtain ⟨h, X, G⟩ := T.hp
  exact He.glo_ok X G (allFa_at (f := .glo "is_int") T.fa 0)
theorem gl_is_rules : mg "is_rules" = some (.ref (He.ga K "is_rules")) := by
  obtain ⟨h, X, G⟩ := T.hp
  exact He.glo_ok X G (allFa_at (f := .glo "is_rules") T.fa 1)
theorem gl_is_log : mg "is_log" = some (.ref (He.ga K "is_log")) := by
  obtain ⟨h, X, G⟩ := T.hp
  exact He.glo_ok X G (allFa_at (f := .glo "is_log") T.fa 2)
theorem gl_check_rules : mg "check_rules" = some (.ref (He.ga K "check_rules")) := by
  obtain ⟨h, X, G⟩ := T.hp
  exact He.glo_ok X G (allFa_at (f := .glo "check_rules") T.fa 3)
theorem gl_check_log : mg "check_log" = some (.ref (He.ga K "check_log")) := by
  obtain ⟨h, X, G⟩ := T.hp
  exact He.glo_ok X G (allFa_at (f := .glo "check_log") T.fa 4)
theorem gl_check_both : mg "check_both" = some (.ref (He.ga K "check_both")) := by
  obtain ⟨h, X, G⟩ := T.hp
  exact He.glo_ok X G (allFa_at (f := .glo "check_both") T.fa 5)
theorem gl_rest_once : mg "rest_once" = some (.ref (He.ga K "rest_once")) := by
  obtain ⟨h, X, G⟩ := T.hp
  exact He.glo_ok X G (allFa_at (f := .glo "rest_once") T.fa 6)
theorem gl_end_run : mg "end_run" = some (.ref (He.ga K "end_run")) := by
  obtain ⟨h, X, G⟩ := T.hp
  exact He.glo_ok X G (allFa_at (f := .glo "end_run") T.fa 7)
theorem gl_step : mg "step" = some (.ref (He.ga K "step")) := by
  obtain ⟨h, X, G⟩ := T.hp
  exact He.glo_ok X G (allFa_at (f := .glo "step") T.fa 8)
theorem gl_all_states : mg "all_states" = some (.ref (He.ga K "all_states")) := by
  obtain ⟨h, X, G⟩ := T.hp
  exact He.glo_ok X G (allFa_at (f := .glo "all_states") T.fa 9)
theorem gl_is_over : mg "is_over" = some (.ref (He.ga K "is_over")) := by
  obtain ⟨h, X, G⟩ := T.hp
  exact He.glo_ok X G (allFa_at (f := .glo "is_over") T.fa 10)
theorem gl_find_faults : mg "find_faults" = some (.ref (He.ga K "find_faults")) := by
  obtain ⟨h, X, G⟩ := T.hp
  exact He.glo_ok X G (allFa_at (f := .glo "find_faults") T.fa 11)
theorem gl_log_text : mg "log_text" = some (.ref (He.ga K "log_text")) := by
  obtain ⟨h, X, G⟩ := T.hp
  exact He.glo_ok X G (allFa_at (f := .glo "log_text") T.fa 12)
theorem gl_format_log : mg "format_log" = some (.ref (He.ga K "format_log")) := by
  obtain ⟨h, X, G⟩ := T.hp
  exact He.glo_ok X G (allFa_at (f := .glo "format_log") T.fa 13)
theorem gl_read_row : mg "read_row" = some (.ref (He.ga K "read_row")) := by
  obtain ⟨h, X, G⟩ := T.hp
  exact He.glo_ok X G (allFa_at (f := .glo "read_row") T.fa 14)
theorem gl_parse_log : mg "parse_log" = some (.ref (He.ga K "parse_log")) := by
  obtain ⟨h, X, G⟩ := T.hp
  exact He.glo_ok X G (allFa_at (f := .glo "parse_log") T.fa 15)
theorem gl_picture : mg "picture" = some (.ref (He.ga K "picture")) := by
  obtain ⟨h, X, G⟩ := T.hp
  exact He.glo_ok X G (allFa_at (f := .glo "picture") T.fa 16)
theorem gl_law_pick : mg "_law_pick" = some (.ref (He.ga K "_law_pick")) := by
  obtain ⟨h, X, G⟩ := T.hp
  exact He.glo_ok X G (allFa_at (f := .glo "_law_pick") T.fa 17)
theorem gl_law_form : mg "_law_form" = some (.ref (He.ga K "_law_form")) := by
  obtain ⟨h, X, G⟩ := T.hp
  exact He.glo_ok X G (allFa_at (f := .glo "_law_form") T.fa 18)
theorem gl_law_row : mg "_law_row" = some (.ref (He.ga K "_law_row")) := by
  obtain ⟨h, X, G⟩ := T.hp
  exact He.glo_ok X G (allFa_at (f := .glo "_law_row") T.fa 19)
theorem gl_law_count : mg "_law_count" = some (.ref (He.ga K "_law_count")) := by
  obtain ⟨h, X, G⟩ := T.hp
  exact He.glo_ok X G (allFa_at (f := .glo "_law_count") T.fa 20)
theorem gl_law_bad : mg "_law_bad" = some (.ref (He.ga K "_law_bad")) := by
  obtain ⟨h, X, G⟩ := T.hp
  exact He.glo_ok X G (allFa_at (f := .glo "_law_bad") T.fa 21)
theorem gl_law_class : mg "_law_class" = some (.ref (He.ga K "_law_class")) := by
  obtain ⟨h, X, G⟩ := T.hp
  exact He.glo_ok X G (allFa_at (f := .glo "_law_class") T.fa 22)
theorem gl_law_result : mg "_law_result" = some (.ref (He.ga K "_law_result")) := by
  obtain ⟨h, X, G⟩ := T.hp
  exact He.glo_ok X G (allFa_at (f := .glo "_law_result") T.fa 23)
theorem gl_law_all : mg "_law_all" = some (.ref (He.ga K "_law_all")) := by
  obtain ⟨h, X, G⟩ := T.hp
  exact He.glo_ok X G (allFa_at (f := .glo "_law_all") T.fa 24)
theorem gl_law : mg "law" = some (.ref (He.ga K "law")) := by
  obtain ⟨h, X, G⟩ := T.hp
  exact He.glo_ok X G (allFa_at (f := .glo "law") T.fa 25)
theorem gl_RestError : mg "RestError" = some (.ref (He.ga K "RestError")) := by
  obtain ⟨h, X, G⟩ := T.hp
  exact He.glo_ok X G (allFa_at (f := .glo "RestError") T.fa 26)
theorem xc_RestError : (He.Fa.exc "RestError").ok K = true := allFa_at T.fa 27
theorem gl_InvalidRules : mg "InvalidRules" = some (.ref (He.ga K "InvalidRules")) := by
  obtain ⟨h, X, G⟩ := T.hp
  exact He.glo_ok X G (allFa_at (f := .glo "InvalidRules") T.fa 28)
theorem xc_InvalidRules : (He.Fa.exc "InvalidRules").ok K = true := allFa_at T.fa 29
theorem gl_InvalidLog : mg "InvalidLog" = some (.ref (He.ga K "InvalidLog")) := by
  obtain ⟨h, X, G⟩ := T.hp
  exact He.glo_ok X G (allFa_at (f := .glo "InvalidLog") T.fa 30)
theorem xc_InvalidLog : (He.Fa.exc "InvalidLog").ok K = true := allFa_at T.fa 31
theorem gl_InvalidLength : mg "InvalidLength" = some (.ref (He.ga K "InvalidLength")) := by
  obtain ⟨h, X, G⟩ := T.hp
  exact He.glo_ok X G (allFa_at (f := .glo "InvalidLength") T.fa 32)
theorem xc_InvalidLength : (He.Fa.exc "InvalidLength").ok K = true := allFa_at T.fa 33
theorem gl_InvalidMany : mg "InvalidMany" = some (.ref (He.ga K "InvalidMany")) := by
  obtain ⟨h, X, G⟩ := T.hp
  exact He.glo_ok X G (allFa_at (f := .glo "InvalidMany") T.fa 34)
theorem xc_InvalidMany : (He.Fa.exc "InvalidMany").ok K = true := allFa_at T.fa 35
theorem gl_InvalidDuty : mg "InvalidDuty" = some (.ref (He.ga K "InvalidDuty")) := by
  obtain ⟨h, X, G⟩ := T.hp
  exact He.glo_ok X G (allFa_at (f := .glo "InvalidDuty") T.fa 36)
theorem xc_InvalidDuty : (He.Fa.exc "InvalidDuty").ok K = true := allFa_at T.fa 37
theorem gl_InvalidPrices : mg "InvalidPrices" = some (.ref (He.ga K "InvalidPrices")) := by
  obtain ⟨h, X, G⟩ := T.hp
  exact He.glo_ok X G (allFa_at (f := .glo "InvalidPrices") T.fa 38)
theorem xc_InvalidPrices : (He.Fa.exc "InvalidPrices").ok K = true := allFa_at T.fa 39
theorem gl_InvalidHours : mg "InvalidHours" = some (.ref (He.ga K "InvalidHours")) := by
  obtain ⟨h, X, G⟩ := T.hp
  exact He.glo_ok X G (allFa_at (f := .glo "InvalidHours") T.fa 40)
theorem xc_InvalidHours : (He.Fa.exc "InvalidHours").ok K = true := allFa_at T.fa 41
theorem gl_TooLong : mg "TooLong" = some (.ref (He.ga K "TooLong")) := by
  obtain ⟨h, X, G⟩ := T.hp
  exact He.glo_ok X G (allFa_at (f := .glo "TooLong") T.fa 42)
theorem xc_TooLong : (He.Fa.exc "TooLong").ok K = true := allFa_at T.fa 43
theorem gl_TooLarge : mg "TooLarge" = some (.ref (He.ga K "TooLarge")) := by
  obtain ⟨h, X, G⟩ := T.hp
  exact He.glo_ok X G (allFa_at (f := .glo "TooLarge") T.fa 44)
theorem xc_TooLarge : (He.Fa.exc "TooLarge").ok K = true := allFa_at T.fa 45
theorem gl_NothingToUndo : mg "NothingToUndo" = some (.ref (He.ga K "NothingToUndo")) := by
  obtain ⟨h, X, G⟩ := T.hp
  exact He.glo_ok X G (allFa_at (f := .glo "NothingToUndo") T.fa 46)
theorem xc_NothingToUndo : (He.Fa.exc "NothingToUndo").ok K = true := allFa_at T.fa 47
theorem gl_ParseError : mg "ParseError" = some (.ref (He.ga K "ParseError")) := by
  obtain ⟨h, X, G⟩ := T.hp
  exact He.glo_ok X G (allFa_at (f := .glo "ParseError") T.fa 48)
theorem xc_ParseError : (He.Fa.exc "ParseError").ok K = true := allFa_at T.fa 49
theorem fr_len : mg "len" = none := by
  obtain ⟨h, X, G⟩ := T.hp
  exact He.free_ok X G (allFa_at (f := .free "len") T.fa 50)
theorem fr_range : mg "range" = none := by
  obtain ⟨h, X, G⟩ := T.hp
  exact He.free_ok X G (allFa_at (f := .free "range") T.fa 51)
theorem fr_isinstance : mg "isinstance" = none := by
  obtain ⟨h, X, G⟩ := T.hp
  exact He.free_ok X G (allFa_at (f := .free "isinstance") T.fa 52)
theorem fr_int : mg "int" = none := by
  obtain ⟨h, X, G⟩ := T.hp
  exact He.free_ok X G (allFa_at (f := .free "int") T.fa 53)
theorem fr_bool : mg "bool" = none := by
  obtain ⟨h, X, G⟩ := T.hp
  exact He.free_ok X G (allFa_at (f := .free "bool") T.fa 54)
theorem fr_tuple : mg "tuple" = none := by
  obtain ⟨h, X, G⟩ := T.hp
  exact He.free_ok X G (allFa_at (f := .free "tuple") T.fa 55)
theorem fr_str : mg "str" = none := by
  obtain ⟨h, X, G⟩ := T.hp
  exact He.free_ok X G (allFa_at (f := .free "str") T.fa 56)
theorem fr_all : mg "all" = none := by
  obtain ⟨h, X, G⟩ := T.hp
  exact He.free_ok X G (allFa_at (f := .free "all") T.fa 57)
theorem fr_enumerate : mg "enumerate" = none := by
  obtain ⟨h, X, G⟩ := T.hp
  exact He.free_ok X G (allFa_at (f := .free "enumerate") T.fa 58)
theorem fr_min : mg "min" = none := by
  obtain ⟨h, X, G⟩ := T.hp
  exact He.free_ok X G (allFa_at (f := .free "min") T.fa 59)
theorem fr_max : mg "max" = none := by
  obtain ⟨h, X, G⟩ := T.hp
  exact He.free_ok X G (allFa_at (f := .free "max") T.fa 60)
theorem fr_ValueError : mg "ValueError" = none := by
  obtain ⟨h, X, G⟩ := T.hp
  exact He.free_ok X G (allFa_at (f := .free "ValueError") T.fa 61)
theorem ci_MAX_STINT : ∃ t, mg "MAX_STINT" = some (.int 6 t) := by
  obtain ⟨h, X, G⟩ := T.hp
  exact He.int_ok X G (allFa_at (f := .int "MAX_STINT" 6) T.fa 62)
theorem ci_MAX_PAUSE : ∃ t, mg "MAX_PAUSE" = some (.int 4 t) := by
  obtain ⟨h, X, G⟩ := T.hp
  exact He.int_ok X G (allFa_at (f := .int "MAX_PAUSE" 4) T.fa 63)
theorem ci_MAX_DAILY : ∃ t, mg "MAX_DAILY" = some (.int 10 t) := by
  obtain ⟨h, X, G⟩ := T.hp
  exact He.int_ok X G (allFa_at (f := .int "MAX_DAILY" 10) T.fa 64)
theorem ci_MAX_NIGHT : ∃ t, mg "MAX_NIGHT" = some (.int 6 t) := by
  obtain ⟨h, X, G⟩ := T.hp
  exact He.int_ok X G (allFa_at (f := .int "MAX_NIGHT" 6) T.fa 65)
theorem ci_MAX_LOG : ∃ t, mg "MAX_LOG" = some (.int 60 t) := by
  obtain ⟨h, X, G⟩ := T.hp
  exact He.int_ok X G (allFa_at (f := .int "MAX_LOG" 60) T.fa 66)
theorem cs_DRIVE : ∃ t, mg "DRIVE" = some (.str "D" t) := by
  obtain ⟨h, X, G⟩ := T.hp
  exact He.str_ok X G (allFa_at (f := .str "DRIVE" "D") T.fa 67)
theorem cs_REST : ∃ t, mg "REST" = some (.str "R" t) := by
  obtain ⟨h, X, G⟩ := T.hp
  exact He.str_ok X G (allFa_at (f := .str "REST" "R") T.fa 68)
theorem cs_SIGNS : ∃ t, mg "SIGNS" = some (.str "DRW" t) := by
  obtain ⟨h, X, G⟩ := T.hp
  exact He.str_ok X G (allFa_at (f := .str "SIGNS" "DRW") T.fa 69)
theorem gl_START : mg "START" = some (.ref (He.ga K "START")) := by
  obtain ⟨h, X, G⟩ := T.hp
  exact He.glo_ok X G (allFa_at (f := .glo "START") T.fa 70)
theorem cs_BETWEEN : ∃ t, mg "BETWEEN" = some (.str " " t) := by
  obtain ⟨h, X, G⟩ := T.hp
  exact He.str_ok X G (allFa_at (f := .str "BETWEEN" " ") T.fa 71)
theorem cs_DIGITS : ∃ t, mg "DIGITS" = some (.str "0123456789" t) := by
  obtain ⟨h, X, G⟩ := T.hp
  exact He.str_ok X G (allFa_at (f := .str "DIGITS" "0123456789") T.fa 72)
theorem ci_MAX_DIGITS : ∃ t, mg "MAX_DIGITS" = some (.int 2 t) := by
  obtain ⟨h, X, G⟩ := T.hp
  exact He.int_ok X G (allFa_at (f := .int "MAX_DIGITS" 2) T.fa 73)
theorem fn_is_int : ∃ fd, FnP K "is_int" s_is_int (He.ga K "is_int") fd := fnP_of T.c 0
theorem fn_is_rules : ∃ fd, FnP K "is_rules" s_is_rules (He.ga K "is_rules") fd := fnP_of T.c 1
theorem fn_is_log : ∃ fd, FnP K "is_log" s_is_log (He.ga K "is_log") fd := fnP_of T.c 2
theorem fn_check_rules : ∃ fd, FnP K "check_rules" s_check_rules (He.ga K "check_rules") fd := fnP_of T.c 3
theorem fn_check_log : ∃ fd, FnP K "check_log" s_check_log (He.ga K "check_log") fd := fnP_of T.c 4
theorem fn_check_both : ∃ fd, FnP K "check_both" s_check_both (He.ga K "check_both") fd := fnP_of T.c 5
theorem fn_rest_once : ∃ fd, FnP K "rest_once" s_rest_once (He.ga K "rest_once") fd := fnP_of T.c 6
theorem fn_end_run : ∃ fd, FnP K "end_run" s_end_run (He.ga K "end_run") fd := fnP_of T.c 7
theorem fn_step : ∃ fd, FnP K "step" s_step (He.ga K "step") fd := fnP_of T.c 8
theorem fn_all_states : ∃ fd, FnP K "all_states" s_all_states (He.ga K "all_states") fd := fnP_of T.c 9
theorem fn_is_over : ∃ fd, FnP K "is_over" s_is_over (He.ga K "is_over") fd := fnP_of T.c 10
theorem fn_find_faults : ∃ fd, FnP K "find_faults" s_find_faults (He.ga K "find_faults") fd := fnP_of T.c 11
theorem fn_log_text : ∃ fd, FnP K "log_text" s_log_text (He.ga K "log_text") fd := fnP_of T.c 12
theorem fn_format_log : ∃ fd, FnP K "format_log" s_format_log (He.ga K "format_log") fd := fnP_of T.c 13
theorem fn_read_row : ∃ fd, FnP K "read_row" s_read_row (He.ga K "read_row") fd := fnP_of T.c 14
theorem fn_parse_log : ∃ fd, FnP K "parse_log" s_parse_log (He.ga K "parse_log") fd := fnP_of T.c 15
theorem fn_picture : ∃ fd, FnP K "picture" s_picture (He.ga K "picture") fd := fnP_of T.c 16
theorem fn_law_pick : ∃ fd, FnP K "_law_pick" s_law_pick (He.ga K "_law_pick") fd := fnP_of T.c 17
theorem fn_law_form : ∃ fd, FnP K "_law_form" s_law_form (He.ga K "_law_form") fd := fnP_of T.c 18
theorem fn_law_row : ∃ fd, FnP K "_law_row" s_law_row (He.ga K "_law_row") fd := fnP_of T.c 19
theorem fn_law_count : ∃ fd, FnP K "_law_count" s_law_count (He.ga K "_law_count") fd := fnP_of T.c 20
theorem fn_law_bad : ∃ fd, FnP K "_law_bad" s_law_bad (He.ga K "_law_bad") fd := fnP_of T.c 21
theorem fn_law_class : ∃ fd, FnP K "_law_class" s_law_class (He.ga K "_law_class") fd := fnP_of T.c 22
theorem fn_law_result : ∃ fd, FnP K "_law_result" s_law_result (He.ga K "_law_result") fd := fnP_of T.c 23
theorem fn_law_all : ∃ fd, FnP K "_law_all" s_law_all (He.ga K "_law_all") fd := fnP_of T.c 24
theorem fn_law : ∃ fd, FnP K "law" s_law (He.ga K "law") fd := fnP_of T.c 25
theorem ex_RestError : ExT K mg "RestError" (He.ga K "RestError") := by
  obtain ⟨h, X, G⟩ := T.hp
  exact ext_of X G (allFa_at T.fa 26) T.xc_RestError
theorem ex_InvalidRules : ExT K mg "InvalidRules" (He.ga K "InvalidRules") := by
  obtain ⟨h, X, G⟩ := T.hp
  exact ext_of X G (allFa_at T.fa 28) T.xc_InvalidRules
theorem ex_InvalidLog : ExT K mg "InvalidLog" (He.ga K "InvalidLog") := by
  obtain ⟨h, X, G⟩ := T.hp
  exact ext_of X G (allFa_at T.fa 30) T.xc_InvalidLog
theorem ex_InvalidLength : ExT K mg "InvalidLength" (He.ga K "InvalidLength") := by
  obtain ⟨h, X, G⟩ := T.hp
  exact ext_of X G (allFa_at T.fa 32) T.xc_InvalidLength
theorem ex_InvalidMany : ExT K mg "InvalidMany" (He.ga K "InvalidMany") := by
  obtain ⟨h, X, G⟩ := T.hp
  exact ext_of X G (allFa_at T.fa 34) T.xc_InvalidMany
theorem ex_InvalidDuty : ExT K mg "InvalidDuty" (He.ga K "InvalidDuty") := by
  obtain ⟨h, X, G⟩ := T.hp
  exact ext_of X G (allFa_at T.fa 36) T.xc_InvalidDuty
theorem ex_InvalidPrices : ExT K mg "InvalidPrices" (He.ga K "InvalidPrices") := by
  obtain ⟨h, X, G⟩ := T.hp
  exact ext_of X G (allFa_at T.fa 38) T.xc_InvalidPrices
theorem ex_InvalidHours : ExT K mg "InvalidHours" (He.ga K "InvalidHours") := by
  obtain ⟨h, X, G⟩ := T.hp
  exact ext_of X G (allFa_at T.fa 40) T.xc_InvalidHours
theorem ex_TooLong : ExT K mg "TooLong" (He.ga K "TooLong") := by
  obtain ⟨h, X, G⟩ := T.hp
  exact ext_of X G (allFa_at T.fa 42) T.xc_TooLong
theorem ex_TooLarge : ExT K mg "TooLarge" (He.ga K "TooLarge") := by
  obtain ⟨h, X, G⟩ := T.hp
  exact ext_of X G (allFa_at T.fa 44) T.xc_TooLarge
theorem ex_NothingToUndo : ExT K mg "NothingToUndo" (He.ga K "NothingToUndo") := by
  obtain ⟨h, X, G⟩ := T.hp
  exact ext_of X G (allFa_at T.fa 46) T.xc_NothingToUndo
theorem ex_ParseError : ExT K mg "ParseError" (He.ga K "ParseError") := by
  obtain ⟨h, X, G⟩ := T.hp
  exact ext_of X G (allFa_at T.fa 48) T.xc_ParseError
theorem tu_START : He.tupB K "START" [.int 0, .int 0, .bl false, .int 0, .bl false] = true := (He.ba (He.ba (seenG_chk T.c)).2).1
theorem xk : excChk excL K = true := (He.ba (He.ba (He.ba (seenG_chk T.c)).2).2).1
theorem xv : valChk excL K = true := (He.ba (He.ba (He.ba (seenG_chk T.c)).2).2).2
end Tp
end Lw

namespace Lw
open PySem PySem.Spec L2 Gd
section
variable {P : Program} {w : World} {K : PySem.W.Frag} {mg : Str -> Option Value} {base : Heap}
/-! ### is_int -/
def R_is_int : Rel := fun ds o => ∃ d lo hi, noDict d = true ∧ ds = [d, .int lo, .int hi] ∧ o = .ret (.bool (okInt d lo hi))
theorem can_is_int (T : Tp K mg) : Can P w K mg base 1 "is_int" R_is_int := by
  obtain ⟨fd, F⟩ := T.fn_is_int
  refine can_of F T.gl_is_int sc_is_int (fun _ _ _ _ _ _ us hl => match us, hl with | [_, _, _], _ => rfl) (by rintro ds o ⟨d, lo, hi, _, rfl, rfl⟩; rfl) ?_
  rintro cdv A outer s H E N ds o hr ⟨d, lo, hi, hd, rfl, rfl⟩ hx
  have h1 := fun (X : Cx) => @ge_isI X
  cases d with
  | int i => exact gs_cons (g1_ret (ge_and (ge_isI T.fr_isinstance T.fr_int (gv 0) hd) fun _ => ge_and (ge_not (ge_isB T.fr_isinstance T.fr_bool (gv 0) hd)) fun _ => ge_one (ge_chain (gv 1) (ch_link (gv 0) c_le fun _ => ch_last (gv 2) c_le))) rfl)
  | bool b => exact gs_cons (g1_ret (ge_and (ge_isI T.fr_isinstance T.fr_int (gv 0) hd) fun _ => ge_and (c' := false) (ge_not (ge_isB T.fr_isinstance T.fr_bool (gv 0) hd)) fun h => nomatch h) rfl)
  | none => exact gs_cons (g1_ret (ge_and (c' := false) (ge_isI T.fr_isinstance T.fr_int (gv 0) hd) fun h => nomatch h) rfl)
  | str z => exact gs_cons (g1_ret (ge_and (c' := false) (ge_isI T.fr_isinstance T.fr_int (gv 0) hd) fun h => nomatch h) rfl)
  | list z => exact gs_cons (g1_ret (ge_and (c' := false) (ge_isI T.fr_isinstance T.fr_int (gv 0) hd) fun h => nomatch h) rfl)
  | tuple z => exact gs_cons (g1_ret (ge_and (c' := false) (ge_isI T.fr_isinstance T.fr_int (gv 0) hd) fun h => nomatch h) rfl)
  | dict z => simp [noDict] at hd
/-! ### is_rules -/
def R_is_rules : Rel := fun ds o => ∃ d, noDict d = true ∧ ds = [d] ∧ o = .ret (.bool (isRules d))
theorem okInt_int {d : PyData} {lo hi : Int} (h : okInt d lo hi = true) : ∃ i, d = .int i := by
  cases d with
  | int i => exact ⟨i, rfl⟩
  | _ => cases h
theorem can_is_rules (T : Tp K mg) : Can P w K mg base 2 "is_rules" R_is_rules := by
  obtain ⟨fd, F⟩ := T.fn_is_rules
  refine can_of F T.gl_is_rules sc_is_rules (fun _ _ _ _ _ _ us hl => match us, hl with | [_], _ => rfl) (by rintro ds o ⟨d, _, rfl, rfl⟩; rfl) ?_
  rintro cdv A outer s H E N ds o hr ⟨d, hd, rfl, rfl⟩ hx
  have nd := sc_is_rules.nd
  have no : forall (h : isiB d "tuple" = false), GS (cxD P w K mg base n_is_rules "is_rules" s_is_rules (He.ga K "is_rules") cdv A outer s H E) N (defBody s_is_rules) (startR n_is_rules.length [d]) (post (.ret (.bool false))) := fun h =>
    gs_cons (g1_if (gt_w (gw_or (c' := true) (gt_not (gt_val (ge_isT T.fr_isinstance T.fr_tuple (gv 0) hd))) fun z => by rw [h] at z; cases z)) (fun _ => gs_cons (g1_ret ge_bl rfl)) fun z => by rw [h] at z; cases z)
  cases d with
  | tuple xs =>
    by_cases h5 : xs.length = 5
    · match xs, h5 with
      | [a, b, c, d, e], _ =>
        have hd' : noDictAll [a, b, c, d, e] = true := by simpa [noDict] using hd
        simp only [noDictAll, Bool.and_true, Bool.and_eq_true] at hd'
        obtain ⟨ha, hb, hc, hdd, he⟩ := hd'
        refine gs_cons (g1_if (gt_w (gw_or (gt_not (gt_val (ge_isT T.fr_isinstance T.fr_tuple (gv 0) hd))) fun _ => gw_or1 (gt_cmp (ge_cb T.fr_len bt_len k_lenT (ga_cons (gv 0) ga_nil)) ge_int c_neI))) (fun z => by simp [isiB, tyN] at z) fun _ => gs_nil ?_)
        refine gs_cons (g1_asg (tg_tp (is := [1, 2, 3, 4, 5]) (tgs_cons 1 nd (tgs_cons 2 nd (tgs_cons 3 nd (tgs_cons 4 nd (tgs_cons 5 nd tgs_nil)))))) (gv 0) rfl ?_)
        refine gs_cons (g1_if (gt_w (gw_or (gt_not (gt_val (ge_call (can_is_int T) hr (ga_cons (gv 1) (ga_cons ge_int (ga_cons (gg_int T.ci_MAX_STINT) ga_nil))) ⟨a, 1, 6, ha, rfl, rfl⟩))) fun _ => gw_or1 (gt_not (gt_val (ge_call (can_is_int T) hr (ga_cons (gv 2) (ga_cons ge_int (ga_cons (gg_int T.ci_MAX_PAUSE) ga_nil))) ⟨b, 1, 4, hb, rfl, rfl⟩))))) (fun z => ?_) fun z => gs_nil ?_)
        · refine gs_cons (g1_ret ge_bl ?_)
          have e0 : (okInt a 1 6 && okInt b 1 4) = false := by
            cases q : okInt a 1 6 <;> cases q2 : okInt b 1 4 <;> simp_all
          show Out.ret (.bool (isRules (.tuple [a, b, c, d, e]))) = .ret (.bool false)
          unfold isRules
          dsimp only
          rw [e0]
          rfl
        · have e1 : okInt a 1 6 = true := by cases q : okInt a 1 6 <;> simp_all
          have e2 : okInt b 1 4 = true := by cases q : okInt b 1 4 <;> simp_all
          obtain ⟨i, rfl⟩ := okInt_int e1
          obtain ⟨j, rfl⟩ := okInt_int e2
          refine gs_cons (g1_ret (ge_and (ge_call (can_is_int T) hr (ga_cons (gv 3) (ga_cons (gv 1) (ga_cons (gg_int T.ci_MAX_DAILY) ga_nil))) ⟨c, i, 10, hc, rfl, rfl⟩) fun _ => ge_and (ge_call (can_is_int T) hr (ga_cons (gv 4) (ga_cons (gv 2) (ga_cons (gg_int T.ci_MAX_NIGHT) ga_nil))) ⟨d, j, 6, hdd, rfl, rfl⟩) fun _ =>
            ge_one (ge_call (can_is_int T) hr (ga_cons (gv 5) (ga_cons ge_int (ga_cons (ge_bin (gv 2) ge_int b_sub) ga_nil))) ⟨e, 0, j - 1, he, rfl, rfl⟩)) ?_)
          show Out.ret (.bool (isRules (.tuple [.int i, .int j, c, d, e]))) = _
          unfold isRules
          dsimp only
          rw [e1, e2]
          rfl
    · have e0 : isRules (.tuple xs) = false := by
        unfold isRules
        split
        · rename_i z; cases z; exact absurd rfl h5
        · rfl
      rw [e0]
      refine gs_cons (g1_if (gt_w (gw_or (gt_not (gt_val (ge_isT T.fr_isinstance T.fr_tuple (gv 0) hd))) fun _ => gw_or1 (gt_cmp (ge_cb T.fr_len bt_len k_lenT (ga_cons (gv 0) ga_nil)) ge_int c_neI))) (fun _ => gs_cons (g1_ret ge_bl rfl)) fun z => ?_)
      have : ((xs.length : Nat) : Int) ≠ 5 := by omega
      simp [isiB, tyN, this] at z
  | _ => exact no rfl
end
end Lw

namespace Lw
open PySem PySem.Spec L2 Gd
section
variable {P : Program} {w : World} {K : PySem.W.Frag} {mg : Str -> Option Value} {base : Heap}
/-! ### is_log -/
def R_is_log : Rel := fun ds o => ∃ d, noDict d = true ∧ smol d = true ∧ ds = [d] ∧ o = .ret (.bool (isLog d))
theorem isLog_S (l : List Nat) : isLog (.str (S l)) = isLogL l := by
  show isLogL (S l).cps.toList = _
  rw [S_cps]
theorem can_is_log (T : Tp K mg) : Can P w K mg base 1 "is_log" R_is_log := by
  obtain ⟨fd, F⟩ := T.fn_is_log
  refine can_of F T.gl_is_log sc_is_log (fun _ _ _ _ _ _ us hl => match us, hl with | [_], _ => rfl) (by rintro ds o ⟨d, _, _, rfl, rfl⟩; rfl) ?_
  rintro cdv A outer s H E N ds o hr ⟨d, hd, hs, rfl, rfl⟩ hx
  have nd := sc_is_log.nd
  cases d with
  | str z =>
    obtain ⟨l, rfl⟩ : ∃ l, z = S l := ⟨_, S_of z⟩
    rw [isLog_S]
    have hl : l.length ≤ 1000 := by
      have := of_decide_eq_true hs
      rwa [S_len] at this
    exact gs_cons (g1_ret (ge_and (ge_isS T.fr_isinstance T.fr_str (gv 0) hd) fun _ => ge_and (ge_cmp (ge_cb T.fr_len bt_len (k_lenS (by omega)) (ga_cons (gv 0) ga_nil)) (gg_int T.ci_MAX_LOG) c_le) fun _ =>
      ge_one (ge_cb T.fr_all bt_all (k_allF l isSg rfl) (ga_cons (lc l (fun c => .str (S [c])) (fun c => .bool (isSg c)) [("sign", 1)] (gi_str (gv 0)) nd (by omega) (fun _ _ _ _ _ => tg_nm 1 nd) fun i x hx => ⟨_, rfl, fun _ _ _ _ _ => ge_cmp (gv 1) (ggS [68, 82, 87] T.cs_SIGNS) c_in1⟩) ga_nil))) rfl)
  | none => exact gs_cons (g1_ret (ge_and (c' := false) (ge_isS T.fr_isinstance T.fr_str (gv 0) hd) fun h => nomatch h) rfl)
  | bool b => exact gs_cons (g1_ret (ge_and (c' := false) (ge_isS T.fr_isinstance T.fr_str (gv 0) hd) fun h => nomatch h) rfl)
  | int b => exact gs_cons (g1_ret (ge_and (c' := false) (ge_isS T.fr_isinstance T.fr_str (gv 0) hd) fun h => nomatch h) rfl)
  | list b => exact gs_cons (g1_ret (ge_and (c' := false) (ge_isS T.fr_isinstance T.fr_str (gv 0) hd) fun h => nomatch h) rfl)
  | tuple b => exact gs_cons (g1_ret (ge_and (c' := false) (ge_isS T.fr_isinstance T.fr_str (gv 0) hd) fun h => nomatch h) rfl)
  | dict z => simp [noDict] at hd
/-! ### checks -/
def R_check_rules (K : PySem.W.Frag) : Rel := fun ds o => ∃ d, noDict d = true ∧ ds = [d] ∧ o = if isRules d = true then .ret .none else .exc (He.ga K "InvalidRules")
theorem can_check_rules (T : Tp K mg) : Can P w K mg base 3 "check_rules" (R_check_rules K) := by
  obtain ⟨fd, F⟩ := T.fn_check_rules
  refine can_of F T.gl_check_rules sc_check_rules (fun _ _ _ _ _ _ us hl => match us, hl with | [_], _ => rfl) (by rintro ds o ⟨d, _, rfl, rfl⟩; rfl) ?_
  rintro cdv A outer s H E N ds o hr ⟨d, hd, rfl, rfl⟩ hx
  refine gs_cons (g1_if (gt_not (gt_val (ge_call (can_is_rules T) hr (ga_cons (gv 0) ga_nil) ⟨d, hd, rfl, rfl⟩))) (fun h => ?_) fun h => gs_nil (gs_nil ?_))
  · have e : isRules d = false := by simpa using h
    rw [e] at hx ⊢
    exact gs_cons (g1_raise T.ex_InvalidRules (hx _ rfl) trivial)
  · have e : isRules d = true := by simpa using h
    rw [e]
    rfl
def R_check_log (K : PySem.W.Frag) : Rel := fun ds o => ∃ d, noDict d = true ∧ smol d = true ∧ ds = [d] ∧ o = if isLog d = true then .ret .none else .exc (He.ga K "InvalidLog")
theorem can_check_log (T : Tp K mg) : Can P w K mg base 2 "check_log" (R_check_log K) := by
  obtain ⟨fd, F⟩ := T.fn_check_log
  refine can_of F T.gl_check_log sc_check_log (fun _ _ _ _ _ _ us hl => match us, hl with | [_], _ => rfl) (by rintro ds o ⟨d, _, _, rfl, rfl⟩; rfl) ?_
  rintro cdv A outer s H E N ds o hr ⟨d, hd, hs, rfl, rfl⟩ hx
  refine gs_cons (g1_if (gt_not (gt_val (ge_call (can_is_log T) hr (ga_cons (gv 0) ga_nil) ⟨d, hd, hs, rfl, rfl⟩))) (fun h => ?_) fun h => gs_nil (gs_nil ?_))
  · have e : isLog d = false := by simpa using h
    rw [e] at hx ⊢
    exact gs_cons (g1_raise T.ex_InvalidLog (hx _ rfl) trivial)
  · have e : isLog d = true := by simpa using h
    rw [e]
    rfl
/-- the first exception of wrong rules, a wrong log -/
def chk2 (K : PySem.W.Frag) (d e : PyData) : Option Addr := if isRules d = true then (if isLog e = true then none else some (He.ga K "InvalidLog")) else some (He.ga K "InvalidRules")
def outG (x : Option Addr) (d : PyData) : Out := match x with
  | none => .ret d
  | some C => .exc C
def R_check_both (K : PySem.W.Frag) : Rel := fun ds o => ∃ d e, noDict d = true ∧ noDict e = true ∧ smol e = true ∧ ds = [d, e] ∧ o = outG (chk2 K d e) .none
theorem can_check_both (T : Tp K mg) : Can P w K mg base 4 "check_both" (R_check_both K) := by
  obtain ⟨fd, F⟩ := T.fn_check_both
  refine can_of F T.gl_check_both sc_check_both (fun _ _ _ _ _ _ us hl => match us, hl with | [_, _], _ => rfl) (by rintro ds o ⟨d, e, _, _, _, rfl, rfl⟩; rfl) ?_
  rintro cdv A outer s H E N ds o hr ⟨d, e, hd, he, hs, rfl, rfl⟩ hx
  unfold chk2 at hx ⊢
  cases h1 : isRules d with
  | false =>
    rw [h1, if_neg Bool.false_ne_true] at hx
    exact gs_cons (g1_exprX (gx_call (can_check_rules T) hr (ga_cons (gv 0) ga_nil) ⟨d, hd, rfl, by rw [h1]; rfl⟩ (hx _ rfl) trivial))
  | true =>
    rw [h1, if_pos rfl] at hx
    rw [if_pos rfl]
    refine gs_cons (g1_expr (ge_call (can_check_rules T) hr (ga_cons (gv 0) ga_nil) ⟨d, hd, rfl, by rw [h1]; rfl⟩) ?_)
    cases h2 : isLog e with
    | false =>
      rw [h2, if_neg Bool.false_ne_true] at hx
      exact gs_cons (g1_exprX (gx_call (can_check_log T) hr (ga_cons (gv 1) ga_nil) ⟨e, he, hs, rfl, by rw [h2]; rfl⟩ (hx _ rfl) trivial))
    | true =>
      rw [if_pos rfl]
      exact gs_cons (g1_expr (ge_call (can_check_log T) hr (ga_cons (gv 1) ga_nil) ⟨e, he, hs, rfl, by rw [h2]; rfl⟩) (gs_nil rfl))
/-- what a def of a log, of rules and a log is worth -/
def RL (K : PySem.W.Frag) (val : List Nat -> PyData) : Rel := fun ds o =>
  (∃ e, noDict e = true ∧ smol e = true ∧ ds = [e] ∧ isLog e = false ∧ o = .exc (He.ga K "InvalidLog")) ∨ ∃ l, isLogL l = true ∧ ds = [.str (S l)] ∧ o = .ret (val l)
def RX (K : PySem.W.Frag) (val : Ru -> List Nat -> PyData) : Rel := fun ds o =>
  (∃ d e C, noDict d = true ∧ noDict e = true ∧ smol e = true ∧ ds = [d, e] ∧ chk2 K d e = some C ∧ o = .exc C) ∨ ∃ r l, isRules (ruD r) = true ∧ isLogL l = true ∧ ds = [ruD r, .str (S l)] ∧ o = .ret (val r l)
theorem RL_len {val : List Nat -> PyData} : forall ds o, RL K val ds o -> ds.length = 1 := by
  rintro ds o (⟨e, _, _, rfl, _⟩ | ⟨l, _, rfl, _⟩) <;> rfl
theorem RX_len {val : Ru -> List Nat -> PyData} : forall ds o, RX K val ds o -> ds.length = 2 := by
  rintro ds o (⟨d, e, C, _, _, _, rfl, _⟩ | ⟨r, l, _, _, rfl, _⟩) <;> rfl
theorem logL_len {l : List Nat} (h : isLogL l = true) : l.length ≤ 60 := by
  have := (Bool.and_eq_true_iff.mp h).1
  have := of_decide_eq_true this
  omega
theorem smol_log {l : List Nat} (h : isLogL l = true) : smol (.str (S l)) = true := by
  have := logL_len h
  exact decide_eq_true (by rw [S_len]; omega)
theorem chk2_ok {r : Ru} {l : List Nat} (h1 : isRules (ruD r) = true) (h2 : isLogL l = true) : chk2 K (ruD r) (.str (S l)) = none := by
  unfold chk2
  rw [h1, isLog_S, h2]
  rfl
theorem R_both_ok {r : Ru} {l : List Nat} (h1 : isRules (ruD r) = true) (h2 : isLogL l = true) : R_check_both K [ruD r, .str (S l)] (.ret .none) :=
  ⟨_, _, rfl, rfl, smol_log h2, rfl, by rw [chk2_ok h1 h2]; rfl⟩
/-! ### driven, rested, worked -/
end
end Lw

namespace Lw
open PySem PySem.Spec L2 Gd
section
variable {P : Program} {w : World} {K : PySem.W.Frag} {mg : Str -> Option Value} {base : Heap}
theorem ge_START {X : Cx} {ρ : Rho} {pos : Pos} (T : Tp X.K X.mg) (hg : Gl X "START" := by rfl) : GE X (.Name "START" pos) ρ (sqD start0) :=
  gg (v := .ref (He.ga X.K "START")) T.gl_START rfl (fun G => .tup (He.tupB_ok T.tu_START G) (.cons (.int _) (.cons (.int _) (.cons (.bl _) (.cons (.int _) (.cons (.bl _) .nil)))))) hg
/-! ### rest_once -/
def R_rest_once : Rel := fun ds o => ∃ r s, ds = [ruD r, sqD s] ∧ o = .ret (sqD (restOnce r s))
theorem can_rest_once (T : Tp K mg) : Can P w K mg base 1 "rest_once" R_rest_once := by
  obtain ⟨fd, F⟩ := T.fn_rest_once
  refine can_of F T.gl_rest_once sc_rest_once (fun _ _ _ _ _ _ us hl => match us, hl with | [_, _], _ => rfl) (by rintro ds o ⟨d, e, rfl, rfl⟩; rfl) ?_
  rintro cdv A outer s H E N ds o hr ⟨r, q, rfl, rfl⟩ hx
  have nd := sc_rest_once.nd
  refine gs_cons (g1_asg (tg_tp (is := [2, 3, 4, 5, 6]) (tgs_cons 2 nd (tgs_cons 3 nd (tgs_cons 4 nd (tgs_cons 5 nd (tgs_cons 6 nd tgs_nil)))))) (gv 1) rfl ?_)
  refine gs_cons (g1_set 5 (ge_cb T.fr_min bt_min (k_min2 rfl) (ga_cons (ge_bin (gv 5) ge_int b_add) (ga_cons (ge_ix (gv 0) ge_int (x_tup rfl)) ga_nil))) ?_ nd)
  generalize hrun : (if r.ni < q.ru + 1 then r.ni else q.ru + 1) = run
  have fin : forall (st da : Int) (mk tk : Bool), restOnce r q = ⟨st, da, mk, run, tk⟩ -> GS (cxD P w K mg base n_rest_once "rest_once" s_rest_once (He.ga K "rest_once") cdv A outer s H E) N ((defBody s_rest_once).drop 5) [.dat (ruD r), .dat (sqD q), .dat (.int st), .dat (.int da), .dat (.bool mk), .dat (.int run), .dat (.bool tk)] (post (.ret (sqD (restOnce r q)))) := fun st da mk tk h => by
    rw [h]
    exact gs_cons (g1_ret (ge_tup (ga_cons (gv 2) (ga_cons (gv 3) (ga_cons (gv 4) (ga_cons (gv 5) (ga_cons (gv 6) ga_nil)))))) rfl)
  have s4 : forall (st : Int) (mk tk : Bool), restOnce r q = ⟨st, if r.ni ≤ run then 0 else q.da, mk, run, tk⟩ -> GS (cxD P w K mg base n_rest_once "rest_once" s_rest_once (He.ga K "rest_once") cdv A outer s H E) N ((defBody s_rest_once).drop 4) [.dat (ruD r), .dat (sqD q), .dat (.int st), .dat (.int q.da), .dat (.bool mk), .dat (.int run), .dat (.bool tk)] (post (.ret (sqD (restOnce r q)))) := fun st mk tk h => by
    refine gs_cons (g1_if (gt_cmp (gv 5) (ge_ix (gv 0) ge_int (x_tup rfl)) c_ge) (fun z => ?_) fun z => gs_nil ?_)
    · rw [if_pos (of_decide_eq_true z)] at h
      exact gs_cons (g1_set 3 ge_int (gs_nil (fin _ _ _ _ h)) nd)
    · rw [if_neg (of_decide_eq_false z)] at h
      exact fin _ _ _ _ h
  have s3 : forall (b1 : Bool), b1 = (decide (0 < r.sp) && (q.mar && decide (r.pa - r.sp ≤ run))) -> GS (cxD P w K mg base n_rest_once "rest_once" s_rest_once (He.ga K "rest_once") cdv A outer s H E) N ((defBody s_rest_once).drop 3) [.dat (ruD r), .dat (sqD q), .dat (.int (if b1 = true then 0 else q.st)), .dat (.int q.da), .dat (.bool (if b1 = true then false else q.mar)), .dat (.int run), .dat (.bool (if b1 = true then true else q.tk))] (post (.ret (sqD (restOnce r q)))) := fun b1 hb => by
    refine gs_cons (g1_if (gt_cmp (gv 5) (ge_ix (gv 0) ge_int (x_tup rfl)) c_ge) (fun z => ?_) fun z => gs_nil ?_)
    · refine gs_cons (g1_asg (tg_tp (is := [2, 4]) (tgs_cons 2 nd (tgs_cons 4 nd tgs_nil))) (ge_tup (ga_cons ge_int (ga_cons ge_bl ga_nil))) rfl (gs_nil (s4 0 false (if b1 = true then true else q.tk) ?_)))
      unfold restOnce
      dsimp only
      rw [hrun, hb, z]
      rfl
    · refine s4 _ _ _ ?_
      unfold restOnce
      dsimp only
      rw [hrun, hb, z]
      rfl
  refine gs_cons (g1_if (gt_w (gw_and (gt_cmp (ge_ix (gv 0) ge_int (x_tup rfl)) ge_int c_gt) fun _ => gw_and (gt_val (gv 4)) fun _ => gw_and1 (gt_cmp (gv 5) (ge_bin (ge_ix (gv 0) ge_int (x_tup rfl)) (ge_ix (gv 0) ge_int (x_tup rfl)) b_sub) c_ge))) (fun z => ?_) fun z => gs_nil ?_)
  · exact gs_cons (g1_asg (tg_tp (is := [2, 4, 6]) (tgs_cons 2 nd (tgs_cons 4 nd (tgs_cons 6 nd tgs_nil)))) (ge_tup (ga_cons ge_int (ga_cons ge_bl (ga_cons ge_bl ga_nil)))) rfl (gs_nil (s3 true z.symm)))
  · exact s3 false z.symm
/-! ### end_run -/
def R_end_run : Rel := fun ds o => ∃ r s, ds = [ruD r, sqD s] ∧ o = .ret (sqD (endRun r s))
theorem can_end_run (T : Tp K mg) : Can P w K mg base 1 "end_run" R_end_run := by
  obtain ⟨fd, F⟩ := T.fn_end_run
  refine can_of F T.gl_end_run sc_end_run (fun _ _ _ _ _ _ us hl => match us, hl with | [_, _], _ => rfl) (by rintro ds o ⟨d, e, rfl, rfl⟩; rfl) ?_
  rintro cdv A outer s H E N ds o hr ⟨r, q, rfl, rfl⟩ hx
  have nd := sc_end_run.nd
  refine gs_cons (g1_asg (tg_tp (is := [2, 3, 4, 5, 6]) (tgs_cons 2 nd (tgs_cons 3 nd (tgs_cons 4 nd (tgs_cons 5 nd (tgs_cons 6 nd tgs_nil)))))) (gv 1) rfl ?_)
  refine gs_cons (g1_set 7 (ge_and (ge_cmp (ge_ix (gv 0) ge_int (x_tup rfl)) ge_int c_gt) fun _ => ge_and (ge_chain (ge_ix (gv 0) ge_int (x_tup rfl)) (ch_link (gv 5) c_le fun _ => ch_last (ge_ix (gv 0) ge_int (x_tup rfl)) c_lt)) fun _ => ge_one (ge_not (gv 6))) ?_ nd)
  exact gs_cons (g1_ret (ge_tup (ga_cons (gv 2) (ga_cons (gv 3) (ga_cons (ge_or (gv 4) fun _ => ge_one (gv 7)) (ga_cons ge_int (ga_cons ge_bl ga_nil)))))) rfl)
/-! ### step -/
def R_step : Rel := fun ds o => ∃ r s c, ds = [ruD r, sqD s, .str (S [c])] ∧ o = .ret (sqD (stepF r s c))
theorem can_step (T : Tp K mg) : Can P w K mg base 2 "step" R_step := by
  obtain ⟨fd, F⟩ := T.fn_step
  refine can_of F T.gl_step sc_step (fun _ _ _ _ _ _ us hl => match us, hl with | [_, _, _], _ => rfl) (by rintro ds o ⟨d, e, c, rfl, rfl⟩; rfl) ?_
  rintro cdv A outer s H E N ds o hr ⟨r, q, c, rfl, rfl⟩ hx
  have nd := sc_step.nd
  refine gs_cons (g1_if (gt_cmp (gv 2) (ggS [82] T.cs_REST) c_eqSS) (fun z => ?_) fun z => gs_nil ?_)
  · have e : c = 82 := by simpa using of_decide_eq_true z
    subst e
    exact gs_cons (g1_ret (ge_call (can_rest_once T) hr (ga_cons (gv 0) (ga_cons (gv 1) ga_nil)) ⟨r, q, rfl, rfl⟩) rfl)
  · have e : c ≠ 82 := by simpa using of_decide_eq_false z
    refine gs_cons (g1_asg (tg_tp (is := [3, 4, 5, 6, 7]) (tgs_cons 3 nd (tgs_cons 4 nd (tgs_cons 5 nd (tgs_cons 6 nd (tgs_cons 7 nd tgs_nil)))))) (ge_call (can_end_run T) hr (ga_cons (gv 0) (ga_cons (gv 1) ga_nil)) ⟨r, q, rfl, rfl⟩) rfl ?_)
    refine gs_cons (g1_if (gt_cmp (gv 2) (ggS [68] T.cs_DRIVE) c_eqSS) (fun z2 => ?_) fun z2 => gs_nil ?_)
    · have e2 : c = 68 := by simpa using of_decide_eq_true z2
      subst e2
      exact gs_cons (g1_ret (ge_tup (ga_cons (ge_bin (gv 3) ge_int b_add) (ga_cons (ge_bin (gv 4) ge_int b_add) (ga_cons (gv 5) (ga_cons (gv 6) (ga_cons (gv 7) ga_nil)))))) rfl)
    · have e2 : c ≠ 68 := by simpa using of_decide_eq_false z2
      refine gs_cons (g1_ret (ge_tup (ga_cons (gv 3) (ga_cons (gv 4) (ga_cons (gv 5) (ga_cons (gv 6) (ga_cons (gv 7) ga_nil)))))) ?_)
      show Out.ret (sqD (stepF r q c)) = _
      unfold stepF
      rw [if_neg e, if_neg e2]
      rfl
/-! ### all_states -/
def R_all_states : Rel := fun ds o => ∃ r l, l.length ≤ 1000 ∧ ds = [ruD r, .str (S l)] ∧ o = .ret (.list ((statesL r l).map sqD))
theorem can_all_states (T : Tp K mg) : Can P w K mg base 3 "all_states" R_all_states := by
  obtain ⟨fd, F⟩ := T.fn_all_states
  refine can_of F T.gl_all_states sc_all_states (fun _ _ _ _ _ _ us hl => match us, hl with | [_, _], _ => rfl) (by rintro ds o ⟨d, e, _, rfl, rfl⟩; rfl) ?_
  rintro cdv A outer s H E N ds o hr ⟨r, l, hl, rfl, rfl⟩ hx
  have nd := sc_all_states.nd
  refine gs_cons (g1_own 2 (ga_cons (ge_START T) ga_nil) ?_ nd)
  refine gs_cons (g1_for l (fun c => .str (S [c])) (T := .nm 3) (gi_str (gv 1)) (tg_nm 3 nd) (fun i ρ => ∃ x, ρ = [.dat (ruD r), .dat (.str (S l)), .own (((List.range (i + 1)).map fun j => after r (l.take j)).map sqD), x]) ⟨.any, rfl⟩ ?_ ?_ (passes_of rfl))
  · rintro i c ρ1 hc ⟨x, rfl⟩
    refine ⟨_, rfl, gs_cons (g1_append 2 rfl (ge_call (can_step T) hr (ga_cons (gv 0) (ga_cons (ge_ixOwn 2 (ge_neg ge_int) ?_) (ga_cons (gv 3) ga_nil))) ⟨r, after r (l.take i), c, rfl, rfl⟩) ?_ (gs_nil ⟨.dat (.str (S [c])), ?_⟩))⟩
    · rw [List.range_succ, List.map_append, List.map_append]
      exact atI_last _ _
    · have hi := (List.getElem?_eq_some_iff.mp hc).1
      rw [List.length_map, List.length_map, List.length_range]
      omega
    · rw [statesL_take hc, List.map_append]
      rfl
  · rintro ρ1 ⟨x, rfl⟩
    exact gs_freeze 2 rfl (gs_cons (g1_ret (gv 2) rfl))
end
end Lw

namespace Lw
open PySem PySem.Spec L2 Gd
theorem statesL_last (r : Ru) (l : List Nat) : atI ((statesL r l).map sqD) (-1) = some (sqD (after r l)) := by
  unfold statesL
  rw [List.range_succ, List.map_append, List.map_append]
  have : ((List.map (fun i => after r (l.take i)) [l.length]).map sqD) = [sqD (after r l)] := by
    rw [List.map_singleton, List.map_singleton, List.take_length]
  rw [this]
  exact atI_last _ _
theorem statesL_at {r : Ru} {l : List Nat} {i : Nat} (h : i ≤ l.length) : ((statesL r l).map sqD)[i]? = some (sqD (after r (l.take i))) := by
  unfold statesL
  rw [List.getElem?_map, List.getElem?_map, List.getElem?_range (by omega)]
  rfl
theorem eqv_nil (xs : List PyData) : PyData.eqv (.list xs) (.list []) = xs.isEmpty := by
  cases xs <;> simp [PyData.eqv, PyData.eqvAll]
def intsD (l : List Nat) : PyData := .list (l.map fun i => .int (i : Nat))
theorem sh_ints (l : List Nat) : shap (intsD l) = true := shap_of 1 (shN_list l fun _ _ => rfl)
theorem zipIdx_at {α : Type} {l : List α} {i : Nat} {x : α × Nat} (h : l.zipIdx[i]? = some x) : x.2 = i ∧ l[i]? = some x.1 ∧ i < l.length := by
  rw [List.getElem?_zipIdx] at h
  cases e : l[i]? with
  | none => rw [e] at h; cases h
  | some y =>
    rw [e] at h
    have : x = (y, 0 + i) := (Option.some.inj h).symm
    subst this
    exact ⟨Nat.zero_add i, rfl, (List.getElem?_eq_some_iff.mp e).1⟩
theorem filterMap_range {β : Type} (n : Nat) (p : Nat -> Bool) (f : Nat -> β) : (List.range n).filterMap (fun i => if p i = true then some (f i) else none) = ((List.range n).filter p).map f := by
  induction n with
  | zero => rfl
  | succ n ih =>
    rw [List.range_succ, List.filterMap_append, List.filter_append, List.map_append, ih]
    cases h : p n <;> simp [h]
theorem filterMap_same {α β : Type} {f g : α -> Option β} : forall {l : List α}, (forall x, x ∈ l -> f x = g x) -> l.filterMap f = l.filterMap g
  | [], _ => rfl
  | x :: l, h => by
    rw [List.filterMap_cons, List.filterMap_cons, h x List.mem_cons_self, filterMap_same fun y hy => h y (List.mem_cons_of_mem _ hy)]
theorem zipIdx_filterMap {α β : Type} (l : List α) (F : α × Nat -> Option β) (G : Nat -> Option β) (h : forall i x, l[i]? = some x -> F (x, i) = G i) : l.zipIdx.filterMap F = (List.range l.length).filterMap G := by
  have e : l.zipIdx.filterMap F = (l.zipIdx.map (·.2)).filterMap G := by
    rw [List.filterMap_map]
    refine filterMap_same fun x hx => ?_
    obtain ⟨i, hi, e⟩ := List.getElem_of_mem hx
    have := zipIdx_at (List.getElem?_eq_some_iff.mpr ⟨hi, e⟩)
    have h2 := h i x.1 this.2.1
    show F x = G x.2
    rw [this.1, ← h2, ← this.1]
  rw [e, List.zipIdx_map_snd]
  rw [List.range_eq_range']
section
variable {P : Program} {w : World} {K : PySem.W.Frag} {mg : Str -> Option Value} {base : Heap}
theorem R_both_bad {d e : PyData} {C : Addr} (hd : noDict d = true) (he : noDict e = true) (hs : smol e = true) (hc : chk2 K d e = some C) : R_check_both K [d, e] (.exc C) := ⟨d, e, hd, he, hs, rfl, by rw [hc]; rfl⟩
/-! ### counters -/
/-! ### is_over -/
def R_is_over : Rel := fun ds o => ∃ r s, ds = [ruD r, sqD s] ∧ o = .ret (.bool (isOver r s))
theorem can_is_over (T : Tp K mg) : Can P w K mg base 1 "is_over" R_is_over := by
  obtain ⟨fd, F⟩ := T.fn_is_over
  refine can_of F T.gl_is_over sc_is_over (fun _ _ _ _ _ _ us hl => match us, hl with | [_, _], _ => rfl) (by rintro ds o ⟨r, s, rfl, rfl⟩; rfl) ?_
  rintro cdv A outer s H E N ds o hr ⟨r, q, rfl, rfl⟩ hx
  exact gs_cons (g1_ret (ge_or (ge_cmp (ge_ix (gv 1) ge_int (x_tup rfl)) (ge_ix (gv 0) ge_int (x_tup rfl)) c_gt) (fun _ => ge_one (ge_cmp (ge_ix (gv 1) ge_int (x_tup rfl)) (ge_ix (gv 0) ge_int (x_tup rfl)) c_gt))) rfl)
/-! ### find_faults -/
def R_find_faults : Rel := fun ds o => ∃ r l, l.length ≤ 1000 ∧ ds = [ruD r, .str (S l)] ∧ o = .ret (intsD (faultsL r l))
theorem can_find_faults (T : Tp K mg) : Can P w K mg base 4 "find_faults" R_find_faults := by
  obtain ⟨fd, F⟩ := T.fn_find_faults
  refine can_of F T.gl_find_faults sc_find_faults (fun _ _ _ _ _ _ us hl => match us, hl with | [_, _], _ => rfl) (by rintro ds o ⟨r, s, _, rfl, rfl⟩; rfl) ?_
  rintro cdv A outer s H E N ds o hr ⟨r, l, hl, rfl, rfl⟩ hx
  have nd := sc_find_faults.nd
  refine gs_cons (g1_set 2 (ge_call (can_all_states T) hr (ga_cons (gv 0) (ga_cons (gv 1) ga_nil)) ⟨r, l, hl, rfl, rfl⟩) ?_ nd)
  have e : intsD (faultsL r l) = .list (l.zipIdx.filterMap fun x => if (decide (x.1 = 68) && isOver r (after r (l.take (x.2 + 1)))) = true then some (.int (x.2 : Nat)) else none) := by
    rw [zipIdx_filterMap l _ (fun i => if badAt r l i = true then some (.int (i : Nat)) else none) (fun i x hx => by
      show (if (decide (x = 68) && isOver r (after r (l.take (i + 1)))) = true then _ else _) = _
      unfold badAt
      rw [hx]
      simp), filterMap_range]
    rfl
  rw [e]
  refine gs_cons (g1_ret (lcF l.zipIdx (fun x => .tuple [.int (x.2 : Nat), .str (S [x.1])]) _ (T := .tp [3, 4]) [("slot", 3), ("sign", 4)] (gi_enumS T.fr_enumerate (ga_cons (gv 1) ga_nil)) nd (by rw [List.length_zipIdx]; omega) (fun _ _ _ _ _ => tg_tp (tgs_cons 3 nd (tgs_cons 4 nd tgs_nil))) fun i x hx => ⟨_, rfl, fun _ _ _ _ _ => ⟨gts_one (gt_is (gt_w (gw_and (gt_cmp (gv 4) (ggS [68] T.cs_DRIVE) c_eqSS) fun _ => gw_and1 (gt_val (ge_call (can_is_over T) hr (ga_cons (gv 0) (ga_cons (ge_ix (gv 2) (ge_bin (gv 3) ge_int b_add) (x_lst ?_)) ga_nil)) ⟨r, after r (l.take (x.2 + 1)), rfl, rfl⟩)))) ?_), fun y hy => ?_⟩⟩) rfl)
  · obtain ⟨e1, e2, e3⟩ := zipIdx_at hx
    have : ((x.2 : Nat) : Int) + 1 = ((x.2 + 1 : Nat) : Int) := by omega
    rw [this]
    exact atI_nat (statesL_at (by omega))
  · cases h : (decide (x.1 = 68) && isOver r (after r (l.take (x.2 + 1)))) <;> simp_all
  · have : y = .int (x.2 : Nat) := by
      cases h : (decide (x.1 = 68) && isOver r (after r (l.take (x.2 + 1)))) <;> simp_all
    subst this
    exact gv 3
/-! ### faults, is_lawful, along -/
end
end Lw

namespace Lw
open PySem PySem.Spec L2 Gd
section
variable {P : Program} {w : World} {K : PySem.W.Frag} {mg : Str -> Option Value} {base : Heap}
/-! ### runs -/
def prD (s : Nat) (n : Int) : PyData := .tuple [.int (s : Nat), .int n]
/-- the runs that are over before i, and the start of the one that is open -/
def rsD (l : List Nat) : Nat -> List PyData × Option Nat
  | 0 => ([], none)
  | i + 1 => match rsD l i with
    | (d, none) => if l[i]? = some 82 then (d, some i) else (d, none)
    | (d, some s) => if l[i]? = some 82 then (d, some s) else (d ++ [prD s ((i : Nat) - (s : Nat))], none)
def opD (i : Nat) : Option Nat -> List PyData
  | none => []
  | some s => [prD s ((i : Nat) - (s : Nat))]
def fdD (l : List Nat) (i : Nat) : List PyData := (rsD l i).1 ++ opD i (rsD l i).2
def runsD (l : List Nat) : PyData := .list (fdD l l.length)
theorem rsD_open {l : List Nat} : forall {i : Nat}, ((rsD l i).2.isSome = true) ↔ (0 < i ∧ l[i - 1]? = some 82)
  | 0 => by simp [rsD]
  | i + 1 => by
    have e : (rsD l (i + 1)).2 = if l[i]? = some 82 then (match (rsD l i).2 with | none => some i | some s => some s) else none := by
      rw [rsD]
      rcases h : rsD l i with ⟨d, o⟩
      by_cases hc : l[i]? = some 82 <;> cases o <;> simp [hc]
    rw [e, Nat.add_sub_cancel]
    by_cases h : l[i]? = some 82
    · rw [if_pos h]
      cases (rsD l i).2 <;> simp [h]
    · rw [if_neg h]
      simp [h]
theorem rsD_len {l : List Nat} : forall {i : Nat}, (rsD l i).1.length + (opD i (rsD l i).2).length ≤ i
  | 0 => by simp [rsD, opD]
  | i + 1 => by
    have ih := rsD_len (l := l) (i := i)
    rw [rsD]
    rcases h : rsD l i with ⟨d, o⟩
    rw [h] at ih
    cases o <;> (dsimp only; split <;> simp_all [opD] <;> omega)
end
end Lw

namespace Gd
open PySem PySem.Spec L2
section
variable {X : Cx} {N : En} {a b e : Expr} {es : List Expr} {ρ : Rho} {d d2 : PyData} {ds : List PyData} {pos : Pos} {Φ : Post}
/-! ### list.count(True) -/
theorem eqU_bl {u : Value} {c : Bool} (r : RelV (.bl c) u) : eqU (.bl true) u = c := by
  rw [eqU_of r rfl]
  cases c <;> rfl
theorem count_bl : forall {bs : List Bool} {us : List Value}, Vals (bs.map V.bl) us -> us.countP (eqU (.bl true)) = bs.count true
  | [], _, .nil => rfl
  | c :: bs, _, .cons r t => by
    rw [List.countP_cons, eqU_bl r, count_bl t, List.count_cons]
    cases c <;> rfl
theorem mt_countB : MtR X "list.count" (fun x xs H Q => ∃ (p : Addr) (bs : List Bool), x = .ref p ∧ xs = [.bl true] ∧ SqL X.K H p (bs.map V.bl) ∧ Q (.int (bs.count true : Nat)) H) := fun pins s σ H x xs v us Q I rx rxs h => by
  obtain ⟨p, bs, rfl, rfl, hs, q⟩ := h
  cases rx
  obtain ⟨u, rfl, ru⟩ := rxs.one
  obtain ⟨its, rv, ⟨⟨cls, dd, dat, sl⟩, n, ho, hc, hdn, hd⟩, hlen⟩ := I.list hs
  simp only at hc hd
  subst hc hd
  have fl : (bs.map V.bl).all flatV = true := by
    rw [List.all_map, List.all_eq_true]
    intro _ _
    rfl
  refine call_meets PySem.F.slot_list_count ⟨_, ho, rfl⟩ PySem.F.entry_list_count (PySem.F.args_list_count_2 _ _)
    (SeqAt.list_countAt p its.toArray n dd sl u (eqU (.bl true))) ⟨ho, fun y hy => mem_eqAt ru rfl rv fl y (by simpa using hy), ?_⟩
  refine ⟨.int (bs.count true : Nat), H, I.tok _, ⟨s.toks, ?_⟩, q⟩
  show Value.int ((its.toArray.toList.countP (eqU (.bl true)) : Nat) : Int) s.toks = _
  rw [show its.toArray.toList = its by simp, count_bl rv]
theorem ge_countB {bs : List Bool} {apos : Pos} (ha : GE X a ρ (.list (bs.map PyData.bool))) (hb : GE X b ρ (.bool true))
    (hbase : attributeBase a "count" X.env (eval a X.env) = eval a X.env := by rfl)
    (hfew : ((backTo pos (starEach (b :: []) X.env)).all (fun x => !x.1) && (backToKw pos (keywordEach [] X.env)).all (fun x => x.1.isSome) && decide ((b :: []).length + ([] : List Keyword).length + (if ([] : List Keyword).isEmpty then 0 else 1) < 30)) = true := by rfl)
    (hline : (apos.endLine == pos.line) = true := by rfl) (hs1 : starEach (b :: []) X.env = (false, eval b X.env) :: starEach [] X.env := by rfl) (hplain : (backTo pos (starEach [] X.env)).any (·.1) = false := by rfl) : GE X (.Call (.Attribute a "count" apos) [b] [] pos) ρ (.int (bs.count true : Nat)) :=
  ge_of (pe_bm PySem.F.plainAttrs_list PySem.F.slot_list_count PySem.F.type_list_count mt_countB pe_tw (pa_cons pe_tw pa_nil hs1) hbase hfew hline hs1 hplain) fun σ G H Q s q => ha σ G H _ s fun v G1 H1 e1 dv => by
    cases dv with
    | lst s1 a1 =>
      rw [a1.bools] at s1
      refine ⟨.inl ⟨rfl, _, .inl (.inl (e1.gh _ _ s1))⟩, hb σ G1 H1 _ (s.ext e1) fun v2 G2 H2 e2 d2 => ?_⟩
      cases d2
      exact ⟨_, bs, rfl, rfl, .inl (.inl (e2.h _ _ (e1.gh _ _ s1))), q _ G2 H2 (e1.trans e2) (.int _)⟩
/-- what is new beside a part is new beside the whole -/
theorem Ext.widen {G0 G H G' H' : Hp} (e : Ext G0 H G' H') (s : Same G0 G) (gh : Same G H) : ∃ G2, Ext G H G2 H' ∧ Same G' G2 := by
  refine ⟨fun b => match H b with | some _ => G b | none => G' b, ⟨fun b o h => ?_, e.h, fun b o h => ?_, fun a ha => ?_⟩, fun b o h => ?_⟩
  · show (match H b with | some _ => G b | none => G' b) = some o
    rw [gh b o h]
    exact h
  · have h : (match H b with | some _ => G b | none => G' b) = some o := h
    cases hb : H b with
    | some u => rw [hb] at h; exact e.h b o (gh b o h)
    | none => rw [hb] at h; exact e.gh b o h
  · show (match H a with | some _ => G a | none => G' a) = G a
    cases hb : H a with
    | some u => rfl
    | none => exact absurd hb ha
  · show (match H b with | some _ => G b | none => G' b) = some o
    cases hb : H b with
    | some u =>
      rw [e.old b (by rw [hb]; exact fun z => nomatch z)] at h
      exact s b o h
    | none => exact h
theorem adr_inv {K : PySem.W.Frag} {G : Hp} {v : V} {f : Addr} (h : Dq K G v (adrD f)) : v = .ref f := by
  unfold adrD at h
  cases h with
  | scr _ e => exact (scr_adr e.symm).elim
  | adr e =>
    injection e with e _
    injection e with _ e
    injection e with e
    have : f = _ := Int.ofNat.inj e
    rw [this]
theorem dqAll_adr {K : PySem.W.Frag} {G : Hp} : forall fs : List Addr, DqAll K G (fs.map V.ref) (fs.map adrD)
  | [] => .nil
  | f :: fs => .cons (.adr rfl) (dqAll_adr fs)
end
end Gd

namespace Lw
open PySem PySem.Spec L2 Gd
/-! ### _law_class, _law_result, _law_all -/
def cls11 : List Str := ["InvalidRules", "InvalidLog", "InvalidLength", "InvalidMany", "InvalidDuty", "InvalidPrices", "InvalidHours", "TooLong", "TooLarge", "NothingToUndo", "ParseError"]
theorem cls_exc : forall x, x ∈ cls11 -> x ∈ excL := by decide +kernel
theorem cls_one : forall x, x ∈ cls11 -> (cls11.map fun y => under x y).count true = 1 := by decide +kernel
theorem cls_at : forall x, x ∈ cls11 -> ∃ j, j < 11 ∧ (cls11.map fun y => under x y)[j]? = some true ∧ (forall m, m < j -> (cls11.map fun y => under x y)[m]? = some false) ∧ cls11[j]? = some x := by
  intro x hx
  have key : forall x, x ∈ cls11 -> ((List.range 11).any fun j => decide ((cls11.map fun y => under x y)[j]? = some true) && ((List.range j).all fun m => decide ((cls11.map fun y => under x y)[m]? = some false)) && decide (cls11[j]? = some x)) = true := by decide +kernel
  obtain ⟨j, h1, h2⟩ := List.any_eq_true.mp (key x hx)
  rw [Bool.and_eq_true, Bool.and_eq_true, decide_eq_true_eq, decide_eq_true_eq, List.all_eq_true] at h2
  exact ⟨j, List.mem_range.mp h1, h2.1.1, fun m hm => of_decide_eq_true (h2.1.2 m (List.mem_range.mpr hm)), h2.2⟩
theorem cls_rest : forall x, x ∈ cls11 -> under x "RestError" = true := by decide +kernel
theorem cls_shap : forall x, x ∈ cls11 -> shap (.tuple [.str "error", .str x]) = true := by decide +kernel
theorem cls_eqv : forall x, x ∈ cls11 -> PyData.eqv (.tuple [.str "error", .str x]) (.tuple [.str "error", .str x]) = true := by decide +kernel
section
variable {P : Program} {w : World} {K : PySem.W.Frag} {mg : Str -> Option Value} {base : Heap}
theorem fnE_class (T : Tp K mg) {x : Str} (hx : x ∈ cls11) : FnE P w K mg base 1 "_law_class" (He.ga K x) x := by
  obtain ⟨fd, F⟩ := T.fn_law_class
  refine fnE_of F T.gl_law_class sc_law_class (fun _ _ _ _ _ _ us hl => match us, hl with | [_], _ => rfl) ?_
  intro cdv A outer s H a oe N hr hz hf
  have nd := sc_law_class.nd
  have hX := cls_exc x hx
  have hC := exc_C T.xk hX
  have hpn : (a, oe) ∈ (cxE P w K mg base n_law_class "_law_class" s_law_class (He.ga K "_law_class") cdv A outer s H a oe).pn := List.mem_singleton.mpr rfl
  have isI : forall {ρ : Rho} {y : Str} {p pe pos py : Pos}, y ∈ excL -> mg y = some (.ref (He.ga K y)) -> ρ[0]? = some (.raw (.ref a)) -> Gl (cxE P w K mg base n_law_class "_law_class" s_law_class (He.ga K "_law_class") cdv A outer s H a oe) y -> (y == ("__debug__" : Str)) = false -> GE (cxE P w K mg base n_law_class "_law_class" s_law_class (He.ga K "_law_class") cdv A outer s H a oe) (.Call (.Name "isinstance" p) [.Name "error" pe, .Name y py] [] pos) ρ (.bool (under x y)) :=
    fun hy hm hρ hg hd => ge_isP (i := 0) T.fr_isinstance hpn hC hz hf hm (exc_kit T.xk hX hy) hρ rfl (.inl rfl) rfl hg (by decide) (by decide) hd rfl rfl rfl
  refine gs_cons (g1_own 1 (ga_cons (isI (by decide +kernel) T.gl_InvalidRules rfl rfl (by decide)) (ga_cons (isI (by decide +kernel) T.gl_InvalidLog rfl rfl (by decide)) ga_nil)) ?_ nd)
  refine gs_cons (g1_extend 1 rfl (ge_lst (ga_cons (isI (by decide +kernel) T.gl_InvalidLength rfl rfl (by decide)) (ga_cons (isI (by decide +kernel) T.gl_InvalidMany rfl rfl (by decide)) ga_nil))) (by show 2 + 2 ≤ 100000; decide) ?_)
  refine gs_cons (g1_extend 1 rfl (ge_lst (ga_cons (isI (by decide +kernel) T.gl_InvalidDuty rfl rfl (by decide)) (ga_cons (isI (by decide +kernel) T.gl_InvalidPrices rfl rfl (by decide)) ga_nil))) (by show 4 + 2 ≤ 100000; decide) ?_)
  refine gs_cons (g1_extend 1 rfl (ge_lst (ga_cons (isI (by decide +kernel) T.gl_InvalidHours rfl rfl (by decide)) (ga_cons (isI (by decide +kernel) T.gl_TooLong rfl rfl (by decide)) ga_nil))) (by show 6 + 2 ≤ 100000; decide) ?_)
  refine gs_cons (g1_extend 1 rfl (ge_lst (ga_cons (isI (by decide +kernel) T.gl_TooLarge rfl rfl (by decide)) (ga_cons (isI (by decide +kernel) T.gl_NothingToUndo rfl rfl (by decide)) ga_nil))) (by show 8 + 2 ≤ 100000; decide) ?_)
  refine gs_cons (g1_extend 1 rfl (ge_lst (ga_cons (isI (by decide +kernel) T.gl_ParseError rfl rfl (by decide)) ga_nil)) (by show 10 + 1 ≤ 100000; decide) ?_)
  refine gs_eq [.raw (.ref a), .own ((cls11.map fun y => under x y).map PyData.bool), .any] ?_ rfl
  obtain ⟨j, hj, h1, h2, h3⟩ := cls_at x hx
  have hcnt := cls_one x hx
  generalize (cls11.map fun y => under x y) = bs at h1 h2 hcnt
  refine gs_cons (g1_if (k := false) (gt_is (gt_w (gw_or (gt_cmp (ge_thaw 1 (ge_countB (gv 1) ge_bl)) ge_int c_neI) fun _ => gw_or1 (gt_not (gt_val (ge_isPT (i := 0) (U := "ValueError") T.fr_isinstance hpn hC hz hf T.fr_ValueError (by decide +kernel) (val_kit T.xv hX)))))) (by rw [hcnt]; rfl)) (fun z => by cases z) fun _ => gs_nil ?_)
  refine gs_cons (g1_own 2 (ga_cons ge_str (ga_cons ge_str (ga_cons ge_str (ga_cons ge_str (ga_cons ge_str (ga_cons ge_str ga_nil)))))) ?_ nd)
  refine gs_cons (g1_extend 2 rfl (ge_lst (ga_cons ge_str (ga_cons ge_str (ga_cons ge_str (ga_cons ge_str (ga_cons ge_str ga_nil)))))) (by show 6 + 5 ≤ 100000; decide) ?_)
  refine gs_eq [.raw (.ref a), .own (bs.map PyData.bool), .own (cls11.map PyData.str)] ?_ rfl
  refine gs_cons (g1_ret (ge_ixOwn 2 (ge_thaw 1 (ge_indexB (gv 1) ge_bl h1 h2)) (d := .str x) ?_) rfl)
  exact atI_z (by omega) (by rw [Int.toNat_natCast, List.getElem?_map, h3]; rfl)
/-- the promise of _law_result -/
def spRes (P : Program) (w : World) (K : PySem.W.Frag) (mg : Str -> Option Value) (base : Heap) (k : Nat) : Sp := fun vs H Q _ => ∃ (G : Hp) (f : Addr) (x : Str), vs = [.ref f] ∧ Same G H ∧ (forall b ps, G b ≠ some (.tbl ps)) ∧ x ∈ cls11 ∧ Th P w K mg base k G f (He.ga K x) ∧ forall v G' H', Ext G H G' H' -> Dq K G' v (.tuple [.str "error", .str x]) -> Q v H'
theorem can_result (T : Tp K mg) (k : Nat) : CanS P w K mg base (k + 2) "_law_result" (spRes P w K mg base (k + 1)) := by
  obtain ⟨fd, F⟩ := T.fn_law_result
  refine canS_of F T.gl_law_result sc_law_result (fun _ _ _ _ _ _ us hl => match us, hl with | [_], _ => rfl) (by rintro vs H Q E ⟨_, _, _, rfl, _⟩; rfl) ?_
  rintro cdv A outer s H vs Q E hr ⟨G, f, x, rfl, gh, nt, hx, th, hq⟩
  have nd := sc_law_result.nd
  refine ⟨G, [.pin (.ref f) fun G0 => Th P w K mg base (k + 1) G0 f (He.ga K x)], .tuple [.str "error", .str x], gh, rfl, fun i y h => ?_, fun i c v h1 h2 => ?_, hq, ?_⟩
  · match i with
    | 0 => cases h
    | i + 1 => cases h
  · match i with
    | 0 =>
      cases h1
      cases h2
      exact ⟨rfl, G, Same.refl G, nt, th⟩
    | i + 1 => cases h1
  refine gs_cons (g1_tryAs 1 (fun D => D = He.ga K x) nd (cv := .ref (He.ga K "RestError")) ⟨rfl, by decide, .inl T.gl_RestError⟩ (fun D hD => ?_) (fun N' pn xe hxo => ?_) (fun N' D hD a oe pn hz hf => ?_))
  · rw [hD]
    exact (exc_exm T.xk (cls_exc x hx) (by decide +kernel)).trans (congrArg some (cls_rest x hx))
  · exact gs_cons (g1_retX (gx_thunk 0 (fun G0 h => h) (k' := k + 1) hr (hxo (He.ga K x) rfl) rfl (Nat.le_refl _)))
  · subst hD
    exact gs_cons (g1_ret (ge_tup (ga_cons ge_str (ga_cons (ge_fnE (i := 1) (k' := k + 1) (fnE_class T hx) hr hz hf (by omega)) ga_nil))) rfl)
/-- the classes by their names -/
def clsN (K : PySem.W.Frag) : Addr -> Str -> Prop := fun C z => z ∈ cls11 ∧ C = He.ga K z
def phAll (P : Program) (w : World) (K : PySem.W.Frag) (mg : Str -> Option Value) (base : Heap) (k : Nat) (l : Addr) (fs : List Addr) (z : Str) : Hp -> Prop := fun G0 => G0 l = some (.lst (fs.map V.ref)) ∧ (forall b ps, G0 b ≠ some (.tbl ps)) ∧ forall f, f ∈ fs -> Th P w K mg base k G0 f (He.ga K z)
theorem ge_res {X : Cx} {ρ : Rho} {k k' i j : Nat} {l f : Addr} {fs : List Addr} {z n : Str} {p pe pos : Pos} (R : CanS X.prog X.w X.K X.mg X.base k "_law_result" (spRes X.prog X.w X.K X.mg X.base k')) (hr : Room k X.A) (hz : z ∈ cls11) (hf : f ∈ fs) (hρ : ρ[i]? = some (.pin (.ref l) (phAll X.prog X.w X.K X.mg X.base k' l fs z)) := by rfl) (hj : ρ[j]? = some (.dat (adrD f)) := by rfl)
    (hN : X.N[j]? = some n := by rfl) (hv : Vis X.env.scope n := by first | exact Or.inl rfl | exact Or.inr (Or.inl rfl) | exact Or.inr (Or.inr rfl)) (hg : Gl X "_law_result" := by rfl) (hd : (n == ("__debug__" : Str)) = false := by decide) (hcd : (n == ("__classdict__" : Str)) = false := by decide)
    (he : starEach [.Name n pe] X.env = (false, eval (.Name n pe) X.env) :: starEach [] X.env := by rfl) (hpl : (backTo pos (starEach [] X.env)).any (·.1) = false := by rfl) :
    GE X (.Call (.Name "_law_result" p) [.Name n pe] [] pos) ρ (.tuple [.str "error", .str z]) := by
  obtain ⟨fa, fd, ps, hm, kp, hb, F⟩ := R.ex
  refine ge_of (pe_call F hr hg hm kp hb .nil passL (pa_cons (pe_var hN hv hd hcd) pa_nil he) (by decide) he hpl) fun σ G H Q sta q => ?_
  obtain ⟨ov, h1, h2, G0, h3, h4, h5⟩ := sta.at_ i _ hρ
  obtain ⟨v, h6, h7⟩ := sta.dat hj
  have ev := adr_inv h7
  subst ev
  exact ⟨.ref f, h6, G0, f, z, rfl, h3.trans sta.gh, h4, hz, h5.2.2 f hf, fun v G' H' e1 dq => by
    obtain ⟨G2, e2, s2⟩ := e1.widen h3 sta.gh
    exact q v G2 H' e2 (dq.mono s2)⟩
theorem can_all (T : Tp K mg) (k : Nat) : CanS P w K mg base (k + 3) "_law_all" (spAll P w K mg base (k + 1) (clsN K)) := by
  obtain ⟨fd, F⟩ := T.fn_law_all
  refine canS_of F T.gl_law_all sc_law_all (fun _ _ _ _ _ _ us hl => match us, hl with | [_, _], _ => rfl) (by rintro vs H Q E ⟨_, _, _, _, _, rfl, _⟩; rfl) ?_
  rintro cdv A outer s H vs Q E hr ⟨G, l, fs, z, C, rfl, gh, nt, hl, th, ⟨hz, rfl⟩, hlen, hq⟩
  have nd := sc_law_all.nd
  have hu := hr.units
  refine ⟨G, [.pin (.ref l) (phAll P w K mg base (k + 1) l fs z), .dat (.str z)], .bool true, gh, rfl, fun i y h => ?_, fun i c v h1 h2 => ?_, fun v G' H' e1 dv => ?_, ?_⟩
  · match i with
    | 0 => cases h
    | 1 => cases h
    | i + 2 => cases h
  · match i with
    | 0 =>
      cases h1
      cases h2
      exact ⟨rfl, G, Same.refl G, nt, hl, nt, th⟩
    | 1 =>
      cases h1
      cases h2
      exact ⟨_, rfl, .str z⟩
    | i + 2 => cases h1
  · cases dv
    exact hq H' e1.h
  refine gs_cons (g1_ret (ge_is (ge_cb T.fr_all bt_all (k_allF fs (fun _ => true) rfl) (ga_cons (lc fs adrD (fun _ => .bool true) (T := .nm 2) [("call", 2)] (gi_lst (gvP 0 (φ := phAll P w K mg base (k + 1) l fs z) (v := .ref l) fun G0 h => .lst h.1 (dqAll_adr fs))) nd (by omega) (fun _ _ _ _ _ => tg_nm 2 nd) fun i f hf => ⟨_, rfl, fun _ _ _ _ _ => ?_⟩) ga_nil)) (by simp)) rfl)
  exact ge_is (ge_cmp (ge_res (i := 0) (j := 2) (can_result T k) hr hz (List.mem_of_getElem? hf)) (ge_tup (ga_cons ge_str (ga_cons (gv 1) ga_nil))) (c_eqD hu (cls_shap z hz) (cls_shap z hz))) (congrArg PyData.bool (cls_eqv z hz))
end
end Lw

namespace Gd
open PySem PySem.Spec L2
section
variable {X : Cx} {N : En} {a b e : Expr} {es : List Expr} {ρ : Rho} {d d2 : PyData} {ds : List PyData} {pos : Pos} {Φ : Post}
/-- x[k] = e, x an own list -/
theorem g1_putL (i : Nat) {x : Str} {p1 p2 : Pos} {k : Int} {j : Nat} (ho : ρ[i]? = some (.own ds)) (he : GE X e ρ d) (hb : GE X b ρ (.int k)) (hj : ixN ds.length k = some j) (h : Φ.nx (ρ.set i (.own (ds.set j d)))) (hi : X.N[i]? = some x := by rfl) (hv : Vis X.env.scope x := by first | exact Or.inl rfl | exact Or.inr (Or.inl rfl) | exact Or.inr (Or.inr rfl)) (hd : (x == ("__debug__" : Str)) = false := by decide) (hcd : (x == ("__classdict__" : Str)) = false := by decide)
    (ha : ∀ v, assign (.Subscript (.Name x p1) b p2) X.env v = (do
      let ov ← holding [v] (eval (.Name x p1) X.env)
      let iv ← holding [v, ov] (eval b X.env)
      standAt p2
      holding [v, ov, iv] (setItem ov iv v)
      release [v, ov, iv] []) := by intro _; rfl)
    (hs : swapsWithSole [.Subscript (.Name x p1) b p2] e pos.line X.env = pure false := by rfl) (hw : swappedStores [.Subscript (.Name x p1) b p2] e X.env = pure none := by rfl)
    (h1 : (assignEach [.Subscript (.Name x p1) b p2] X.env).map (·.2) = [assign (.Subscript (.Name x p1) b p2) X.env] := by rfl) : G1 X N (.Assign [.Subscript (.Name x p1) b p2] e pos) ρ Φ :=
  g1_of (ps_asg pe_tw (pg_sub (pe_var hi hv hd hcd) pe_tw set_list ha) hs hw h1) fun P σ H f => by
    obtain ⟨G, e0, sp, sta, fr⟩ := f
    refine he σ G H _ sta fun v G1 H1 e1 dv => ?_
    have sta1 := sta.ext e1
    obtain ⟨p, vs, o1, o2, o3, o4⟩ := sta1.own ho
    refine ⟨.ref p, o1, hb σ G1 H1 _ sta1 fun y G2 H2 e2 dk => ?_⟩
    cases dk
    have sta2 := sta1.ext e2
    obtain ⟨p', vs', r1, r2, r3, r4⟩ := sta2.own ho
    rw [o1] at r1
    cases r1
    refine ⟨p, vs', k, j, rfl, rfl, r3, by rw [r4.length]; exact hj, ?_⟩
    exact ⟨_, ⟨G2, mut_ext ((e0.trans e1).trans e2) r2 (fr i _ p ho o1), (sp.trans e1.g).trans e2.g, sta2.mutOwn ho o1 (r4.set (dv.mono e2.g) j), fresh_mut ho fr⟩, h⟩
/-! ### str(n), int(text) -/
theorem k_strI {n : Int} (h : n.natAbs.log2 < 1920) : CalD X (.type "str") [.int n] (.str (toString n)) := ⟨_, call_str_int, fun vs G H Q gh dv q => by
  cases dv with
  | cons h1 h2 =>
    cases h2
    cases h1
    exact ⟨n, rfl, h, q _ G H (.refl gh) (.str _)⟩⟩
theorem k_intS {z : Str} {n : Int} (h : PySem.intText? z = some n) (hz : z.length ≤ 640) : CalD X (.type "int") [.str z] (.int n) := ⟨_, call_int_str, fun vs G H Q gh dv q => by
  cases dv with
  | cons h1 h2 =>
    cases h2
    cases h1
    exact ⟨z, n, rfl, h, hz, q _ G H (.refl gh) (.int _)⟩⟩
end
end Gd

namespace Lw
open PySem PySem.Spec L2 Gd
/-! ### what states keep -/
theorem restOnce_ru (r : Ru) (s : Sq) : (restOnce r s).ru = if r.ni < s.ru + 1 then r.ni else s.ru + 1 := rfl
theorem rest_st (r : Ru) (s : Sq) : (restOnce r s).st = if decide (r.pa ≤ (restOnce r s).ru) = true then 0 else if (decide (0 < r.sp) && (s.mar && decide (r.pa - r.sp ≤ (restOnce r s).ru))) = true then 0 else s.st := rfl
theorem rest_mar (r : Ru) (s : Sq) : (restOnce r s).mar = if decide (r.pa ≤ (restOnce r s).ru) = true then false else if (decide (0 < r.sp) && (s.mar && decide (r.pa - r.sp ≤ (restOnce r s).ru))) = true then false else s.mar := rfl
theorem rest_da (r : Ru) (s : Sq) : (restOnce r s).da = if r.ni ≤ (restOnce r s).ru then 0 else s.da := rfl
structure Sane (r : Ru) (s : Sq) : Prop where
  st : 0 ≤ s.st
  da : 0 ≤ s.da
  ru : 0 ≤ s.ru
  rn : s.ru ≤ r.ni
theorem sane0 {r : Ru} (v : VR r) : Sane r start0 := by
  have := v.n1
  have := v.p1
  exact ⟨by decide, by decide, by decide, by show (0 : Int) ≤ r.ni; omega⟩
theorem sane_step {r : Ru} (v : VR r) {s : Sq} (h : Sane r s) (c : Nat) : Sane r (stepF r s c) := by
  have v1 := v.n1
  have v2 := v.p1
  obtain ⟨a, b, d, e⟩ := h
  unfold stepF
  split
  · refine ⟨?_, ?_, ?_, ?_⟩
    · rw [rest_st]
      split
      · omega
      · split <;> omega
    · rw [rest_da]
      split <;> omega
    · rw [restOnce_ru]
      split <;> omega
    · rw [restOnce_ru]
      split <;> omega
  · split
    · exact ⟨by show 0 ≤ s.st + 1; omega, by show 0 ≤ s.da + 1; omega, by show (0 : Int) ≤ 0; omega, by show (0 : Int) ≤ r.ni; omega⟩
    · exact ⟨a, b, by show (0 : Int) ≤ 0; omega, by show (0 : Int) ≤ r.ni; omega⟩
theorem sane_fold {r : Ru} (v : VR r) : forall (l : List Nat) (s : Sq), Sane r s -> Sane r (l.foldl (stepF r) s)
  | [], _, h => h
  | c :: l, s, h => sane_fold v l _ (sane_step v h c)
theorem sane_after {r : Ru} (v : VR r) (l : List Nat) : Sane r (after r l) := sane_fold v l _ (sane0 v)
/-- no marks without split pauses -/
theorem mar_step {r : Ru} (h : r.sp = 0) {s : Sq} (m : s.mar = false) (c : Nat) : (stepF r s c).mar = false := by
  unfold stepF
  split
  · rw [rest_mar]
    split
    · rfl
    · split
      · rfl
      · exact m
  · split
    · show (s.mar || (decide (0 < r.sp) && _)) = false
      rw [m, h]
      rfl
    · show (s.mar || (decide (0 < r.sp) && _)) = false
      rw [m, h]
      rfl
theorem mar_fold {r : Ru} (h : r.sp = 0) : forall (l : List Nat) (s : Sq), s.mar = false -> (l.foldl (stepF r) s).mar = false
  | [], _, m => m
  | c :: l, s, m => mar_fold h l _ (mar_step h m c)
theorem mar_after {r : Ru} (h : r.sp = 0) (l : List Nat) : (after r l).mar = false := mar_fold h l _ rfl
/-! ### one step's counters -/
theorem st_drive (r : Ru) (s : Sq) : (stepF r s 68).st = s.st + 1 ∧ (stepF r s 68).da = s.da + 1 := ⟨rfl, rfl⟩
theorem st_other {r : Ru} {s : Sq} {c : Nat} (h : c ≠ 68) : ((stepF r s c).st = 0 ∨ (stepF r s c).st = s.st) ∧ ((stepF r s c).da = 0 ∨ (stepF r s c).da = s.da) := by
  unfold stepF
  split
  · constructor
    · rw [rest_st]
      split
      · exact .inl rfl
      · split
        · exact .inl rfl
        · exact .inr rfl
    · rw [rest_da]
      split
      · exact .inl rfl
      · exact .inr rfl
  · exact ⟨.inr rfl, .inr rfl⟩
theorem st_work {r : Ru} {s : Sq} {c : Nat} (h : c ≠ 68) (h2 : c ≠ 82) : (stepF r s c).st = s.st ∧ (stepF r s c).da = s.da := by
  unfold stepF
  rw [if_neg h2, if_neg h]
  exact ⟨rfl, rfl⟩
theorem ru_other {r : Ru} {s : Sq} {c : Nat} (h2 : c ≠ 82) : (stepF r s c).ru = 0 := by
  unfold stepF
  rw [if_neg h2]
  split <;> rfl
/-! ### rests in a row -/
def rests (r : Ru) (q : Sq) : Nat -> Sq
  | 0 => q
  | n + 1 => restOnce r (rests r q n)
theorem restOnce_pause {r : Ru} {s : Sq} (h : r.pa ≤ (restOnce r s).ru) : (restOnce r s).st = 0 ∧ (restOnce r s).mar = false := by
  rw [rest_st, rest_mar, decide_eq_true h]
  exact ⟨rfl, rfl⟩
theorem restOnce_night {r : Ru} {s : Sq} (h : r.ni ≤ (restOnce r s).ru) : (restOnce r s).da = 0 := by
  rw [rest_da, if_pos h]
theorem restOnce_short {r : Ru} {s : Sq} (h : (restOnce r s).ru < r.ni) : (restOnce r s).da = s.da := by
  rw [rest_da, if_neg (by omega)]
theorem rests_ru {r : Ru} (v : VR r) {q : Sq} (h : q.ru = 0) : forall n : Nat, (rests r q n).ru = if r.ni < (n : Int) then r.ni else n
  | 0 => by
    have := v.n1
    have := v.p1
    rw [if_neg (by omega)]
    exact h
  | n + 1 => by
    have ih := rests_ru v h n
    show (restOnce r (rests r q n)).ru = _
    rw [restOnce_ru, ih]
    split <;> (split <;> (split <;> omega))
theorem rests_da {r : Ru} (v : VR r) {q : Sq} (h : q.ru = 0) : forall n : Nat, (n : Int) < r.ni -> (rests r q n).da = q.da
  | 0, _ => rfl
  | n + 1, hn => by
    have e := rests_ru v h (n + 1)
    rw [if_neg (by omega)] at e
    have e2 : (rests r q (n + 1)).da = (rests r q n).da := restOnce_short (by show (rests r q (n + 1)).ru < _; rw [e]; exact hn)
    rw [e2]
    exact rests_da v h n (by omega)
theorem rests_pause {r : Ru} (v : VR r) {q : Sq} (h : q.ru = 0) {n : Nat} (hn : r.pa ≤ (n : Int)) : (rests r q n).st = 0 ∧ (rests r q n).mar = false := by
  have p := v.p1
  have p2 := v.n1
  cases n with
  | zero => omega
  | succ n =>
    have e := rests_ru v h (n + 1)
    refine restOnce_pause (r := r) (s := rests r q n) ?_
    show r.pa ≤ (rests r q (n + 1)).ru
    rw [e]
    split <;> omega
theorem rests_night {r : Ru} (v : VR r) {q : Sq} (h : q.ru = 0) {n : Nat} (hn : r.ni ≤ (n : Int)) : (rests r q n).da = 0 := by
  have p := v.p1
  have p2 := v.n1
  cases n with
  | zero => omega
  | succ n =>
    have e := rests_ru v h (n + 1)
    refine restOnce_night (r := r) (s := rests r q n) ?_
    show r.ni ≤ (rests r q (n + 1)).ru
    rw [e]
    split <;> omega
theorem rests_low {r : Ru} {q : Sq} (h : 0 ≤ q.ru) : forall n : Nat, r.ni ≤ (rests r q n).ru ∨ (n : Int) ≤ (rests r q n).ru
  | 0 => .inr h
  | n + 1 => by
    have ih := rests_low (r := r) h n
    have e : (rests r q (n + 1)).ru = if r.ni < (rests r q n).ru + 1 then r.ni else (rests r q n).ru + 1 := rfl
    rw [e]
    split <;> omega
theorem rests_all {r : Ru} (v : VR r) {q : Sq} (h : 0 ≤ q.ru) {n : Nat} (hn : (n : Int) = r.ni) : (rests r q n).st = 0 ∧ (rests r q n).da = 0 := by
  have p := v.p1
  have p2 := v.n1
  have lo := rests_low (r := r) h n
  cases n with
  | zero => omega
  | succ n => exact ⟨(restOnce_pause (r := r) (s := rests r q n) (by show r.pa ≤ (rests r q (n + 1)).ru; omega)).1, restOnce_night (r := r) (s := rests r q n) (by show r.ni ≤ (rests r q (n + 1)).ru; omega)⟩
theorem after_rests {r : Ru} {l : List Nat} {s : Nat} : forall n : Nat, (forall j, s ≤ j -> j < s + n -> l[j]? = some 82) -> after r (l.take (s + n)) = rests r (after r (l.take s)) n
  | 0, _ => rfl
  | n + 1, h => by
    have e := h (s + n) (by omega) (by omega)
    rw [show s + (n + 1) = s + n + 1 by omega, after_take e, after_rests n fun j a b => h j a (by omega)]
    rfl
theorem after_app_rests (r : Ru) (l : List Nat) : forall n : Nat, after r (l ++ List.replicate n 82) = rests r (after r l) n
  | 0 => by
    rw [List.replicate_zero, List.append_nil]
    rfl
  | n + 1 => by
    rw [List.replicate_succ', ← List.append_assoc, after_snoc, after_app_rests r l n]
    rfl
theorem ru_start {r : Ru} {l : List Nat} {s : Nat} (hs : s ≤ l.length) (h : s = 0 ∨ l[s - 1]? ≠ some 82) : (after r (l.take s)).ru = 0 := by
  cases s with
  | zero => rfl
  | succ s =>
    have hlt : s < l.length := by omega
    have hg : l[s]? = some l[s] := List.getElem?_eq_getElem hlt
    rw [after_take hg]
    refine ru_other fun z => ?_
    rcases h with h | h
    · omega
    · rw [Nat.add_sub_cancel, hg, z] at h
      exact h rfl
/-! ### faults of a beginning -/
theorem mem_faults {r : Ru} {l : List Nat} {i : Nat} : i ∈ faultsL r l ↔ badAt r l i = true := by
  unfold faultsL
  rw [List.mem_filter, List.mem_range]
  constructor
  · exact fun h => h.2
  · intro h
    refine ⟨?_, h⟩
    unfold badAt at h
    have := (Bool.and_eq_true_iff.mp h).1
    have := of_decide_eq_true this
    exact (List.getElem?_eq_some_iff.mp this).1
theorem badAt_take {r : Ru} {l : List Nat} {i n : Nat} (h : i < n) : badAt r (l.take n) i = badAt r l i := by
  unfold badAt
  rw [List.getElem?_take, if_pos h, List.take_take, show min (i + 1) n = i + 1 by omega]
theorem range_lt {n m : Nat} (h : n ≤ m) (f : Nat -> Bool) : (List.range m).filter (fun i => f i && decide (i < n)) = (List.range n).filter f := by
  obtain ⟨k, rfl⟩ : ∃ k, m = n + k := ⟨m - n, by omega⟩
  rw [List.range_add, List.filter_append]
  have e2 : ((List.range k).map (n + ·)).filter (fun i => f i && decide (i < n)) = [] := by
    rw [List.filter_eq_nil_iff]
    intro i hi
    obtain ⟨j, _, rfl⟩ := List.mem_map.mp hi
    simp
  rw [e2, List.append_nil]
  refine List.filter_congr fun i hi => ?_
  rw [decide_eq_true (List.mem_range.mp hi), Bool.and_true]
theorem faults_take (r : Ru) (l : List Nat) {n : Nat} (h : n ≤ l.length) : faultsL r (l.take n) = (faultsL r l).filter fun i => decide (i < n) := by
  unfold faultsL
  rw [List.length_take, show min n l.length = n by omega, List.filter_filter]
  rw [← range_lt h]
  refine List.filter_congr fun i hi => ?_
  by_cases hlt : i < n
  · rw [badAt_take hlt, Bool.and_comm]
  · rw [decide_eq_false hlt, Bool.and_false, Bool.false_and]
/-! ### rest in place of a slot, looser rules, without split pauses -/
structure Below (r' : Ru) (s' s : Sq) : Prop where
  st : s'.st ≤ s.st
  da : s'.da ≤ s.da
  ru : s.ru ≤ s'.ru ∨ r'.ni ≤ s'.ru
  m' : s'.mar = false
  mm : s.mar = false
structure Loose (r r' : Ru) : Prop where
  v : VR r
  v' : VR r'
  sp : r.sp = 0
  sp' : r'.sp = 0
  st : r.st ≤ r'.st
  da : r.da ≤ r'.da
  pa : r'.pa ≤ r.pa
  ni : r'.ni ≤ r.ni
theorem plain_st {r : Ru} (h : r.sp = 0) (s : Sq) : (restOnce r s).st = if r.pa ≤ (restOnce r s).ru then 0 else s.st := by
  rw [rest_st, h]
  have e : forall x : Bool, (decide ((0 : Int) < 0) && x) = false := fun _ => rfl
  rw [e, if_neg Bool.false_ne_true]
  by_cases hp : r.pa ≤ (restOnce r s).ru
  · rw [decide_eq_true hp, if_pos rfl, if_pos hp]
  · rw [decide_eq_false hp, if_neg Bool.false_ne_true, if_neg hp]
theorem below_step {r r' : Ru} (q : Loose r r') {s s' : Sq} (hs : Sane r s) (hs' : Sane r' s') (b : Below r' s' s) {c c' : Nat} (hc : c' = c ∨ c' = 82) : Below r' (stepF r' s' c') (stepF r s c) := by
  have v1 := q.v'.n1
  have v2 := q.v'.p1
  have w1 := q.pa
  have w2 := q.ni
  obtain ⟨a1, a2, a3, a4⟩ := hs
  obtain ⟨c1, c2, c3, c4⟩ := hs'
  have m1 := mar_step q.sp' b.m' c'
  have m2 := mar_step q.sp b.mm c
  obtain ⟨b1, b2, b3, _, _⟩ := b
  refine ⟨?_, ?_, ?_, m1, m2⟩
  all_goals
    by_cases h82 : c' = 82
    · subst h82
      have e' : stepF r' s' 82 = restOnce r' s' := rfl
      rw [e']
      have f1 := plain_st q.sp' s'
      have f2 := rest_da r' s'
      have f3 := restOnce_ru r' s'
      by_cases hc82 : c = 82
      · subst hc82
        have e : stepF r s 82 = restOnce r s := rfl
        rw [e]
        have g1 := plain_st q.sp s
        have g2 := rest_da r s
        have g3 := restOnce_ru r s
        generalize restOnce r' s' = z' at *
        generalize restOnce r s = z at *
        first
          | (rw [f1, g1]; split at f3 <;> split at g3 <;> (split <;> (split <;> omega)))
          | (rw [f2, g2]; split at f3 <;> split at g3 <;> (split <;> (split <;> omega)))
          | (split at f3 <;> split at g3 <;> omega)
      · have g3 : (stepF r s c).ru = 0 := ru_other hc82
        have g4 : s.st ≤ (stepF r s c).st ∧ s.da ≤ (stepF r s c).da := by
          by_cases h68 : c = 68
          · subst h68
            have := st_drive r s
            omega
          · have := st_work (r := r) (s := s) h68 hc82
            omega
        generalize restOnce r' s' = z' at *
        first
          | (rw [f1]; split <;> omega)
          | (rw [f2]; split <;> omega)
          | (rw [g3]; split at f3 <;> omega)
    · obtain rfl : c' = c := hc.resolve_right h82
      have g3 : (stepF r s c').ru = 0 := ru_other h82
      have g4 : (stepF r' s' c').ru = 0 := ru_other h82
      by_cases h68 : c' = 68
      · subst h68
        have := st_drive r s
        have := st_drive r' s'
        omega
      · have := st_work (r := r) (s := s) h68 h82
        have := st_work (r := r') (s := s') h68 h82
        omega
theorem below_after {r r' : Ru} (q : Loose r r') {l l' : List Nat} (hl : l'.length = l.length) (h : forall i : Nat, l'[i]? = l[i]? ∨ l'[i]? = some 82) : forall i : Nat, i ≤ l.length -> Below r' (after r' (l'.take i)) (after r (l.take i))
  | 0, _ => ⟨Int.le_refl 0, Int.le_refl 0, .inl (Int.le_refl 0), rfl, rfl⟩
  | i + 1, hi => by
    have e1 : l[i]? = some l[i] := List.getElem?_eq_getElem (by omega)
    have hlt : i < l'.length := by omega
    have e2 : l'[i]? = some l'[i] := List.getElem?_eq_getElem hlt
    rw [after_take e1, after_take e2]
    refine below_step q (sane_after q.v _) (sane_after q.v' _) (below_after q hl h i (by omega)) ?_
    have := h i
    rw [e1, e2] at this
    simpa using this
theorem loose_lawful {r r' : Ru} (q : Loose r r') {l l' : List Nat} (hl : l'.length = l.length) (h : forall i : Nat, l'[i]? = l[i]? ∨ l'[i]? = some 82) (hf : faultsL r l = []) : faultsL r' l' = [] := by
  refine List.eq_nil_iff_forall_not_mem.mpr fun i hi => ?_
  have hb := mem_faults.mp hi
  have hn : ¬ i ∈ faultsL r l := by rw [hf]; exact List.not_mem_nil
  refine hn (mem_faults.mpr ?_)
  unfold badAt at hb ⊢
  obtain ⟨h1, h2⟩ := Bool.and_eq_true_iff.mp hb
  have h1 := of_decide_eq_true h1
  have hlt := (List.getElem?_eq_some_iff.mp h1).1
  have e : l[i]? = some 68 := by
    rcases h i with z | z
    · rw [← z]; exact h1
    · rw [h1] at z; cases z
  have b := below_after q hl h (i + 1) (by omega)
  rw [decide_eq_true e, Bool.true_and]
  unfold isOver at h2 ⊢
  have w1 := q.st
  have w2 := q.da
  have b1 := b.st
  have b2 := b.da
  rcases Bool.or_eq_true_iff.mp h2 with z | z
  · have z := of_decide_eq_true z
    rw [decide_eq_true (by omega)]
    rfl
  · have z := of_decide_eq_true z
    rw [Bool.or_eq_true_iff]
    exact .inr (decide_eq_true (by omega))
end Lw

namespace Lw
open PySem PySem.Spec L2 Gd
/-! ### written lists in pieces, lists of truth values, data that may be compared -/
def slc (L : List PyData) (o n : Nat) : PyData := .list ((L.drop o).take n)
theorem slc_cat {X : Cx} {L : List PyData} {o a p n m : Nat} (hl : L.length ≤ 1000) (hp : p = o + a) (h : m = a + n) : BinD X .Add (slc L o a) (slc L p n) (slc L o m) := by
  subst h hp
  have e : slc L o (a + n) = .list ((L.drop o).take a ++ (L.drop (o + a)).take n) := by
    unfold slc
    rw [List.take_add, List.drop_drop]
  rw [e]
  refine b_cat ?_
  rw [List.length_take, List.length_take, List.length_drop, List.length_drop]
  omega
def boolsD (bs : List Bool) : PyData := .list (bs.map .bool)
theorem sh_bools (bs : List Bool) : shap (boolsD bs) = true := shap_of 1 (shN_list bs fun _ _ => rfl)
theorem bools_rep (b : Bool) (n : Int) : PyData.list (List.replicate n.toNat [PyData.bool b]).flatten = boolsD (List.replicate n.toNat b) := by
  unfold boolsD
  congr 1
  induction n.toNat with
  | zero => rfl
  | succ n ih => rw [List.replicate_succ, List.flatten_cons, ih, List.replicate_succ, List.map_cons]; rfl
theorem ge_bools {X : Cx} {ρ : Rho} {a b : Expr} {pos p1 : Pos} {n : Int} {bb : Bool} (ha : GE X (.List [a] p1) ρ (.list [.bool bb])) (hb : GE X b ρ (.int n)) (h0 : 0 ≤ n) (h1 : n ≤ 100000) : GE X (.BinOp (.List [a] p1) .Mult b pos) ρ (boolsD (List.replicate n.toNat bb)) := by
  rw [← bools_rep]
  exact ge_bin ha hb (b_rep h0 h1 (by simp; omega))
theorem b_bools {X : Cx} {as bs : List Bool} (h : as.length + bs.length ≤ 100000) : BinD X .Add (boolsD as) (boolsD bs) (boolsD (as ++ bs)) := by
  unfold boolsD
  rw [List.map_append]
  exact b_cat (by rw [List.length_map, List.length_map]; exact h)
theorem sh_along (r : Ru) (l : List Nat) : shap (.list ((statesL r l).map shD)) = true := shap_of 2 (shN_list _ fun _ _ => rfl)
theorem eqv_same {d : PyData} (h : shap d = true) : PyData.eqv d d = true := by
  refine eqv_refl d ?_
  unfold shap SeqAt.shaped at h
  simp at h
  exact h.1
theorem shAll_app {n : Nat} : forall {as bs : List PyData}, shAll n as = true -> shAll n bs = true -> shAll n (as ++ bs) = true
  | [], bs, _, h => h
  | a :: as, bs, h1, h2 => by
    rw [shAll, Bool.and_eq_true] at h1
    rw [List.cons_append, shAll, h1.1, shAll_app h1.2 h2]
    rfl
end Lw

namespace Lw
open PySem PySem.Spec L2 Gd
/-! ### tables of states -/
theorem Sq.ext_ {a b : Sq} (h1 : a.st = b.st) (h2 : a.da = b.da) (h3 : a.mar = b.mar) (h4 : a.ru = b.ru) (h5 : a.tk = b.tk) : a = b := by
  cases a
  cases b
  cases h1; cases h2; cases h3; cases h4; cases h5
  rfl
instance : DecidableEq Sq := fun a b =>
  if h : a.st = b.st ∧ a.da = b.da ∧ a.mar = b.mar ∧ a.ru = b.ru ∧ a.tk = b.tk then isTrue (Sq.ext_ h.1 h.2.1 h.2.2.1 h.2.2.2.1 h.2.2.2.2) else isFalse fun z => h (by subst z; exact ⟨rfl, rfl, rfl, rfl, rfl⟩)
theorem bnum_inj {a b : Bool} (h : (if a = true then (1 : Int) else 0) = if b = true then 1 else 0) : a = b := by
  cases a <;> cases b <;> simp at h <;> rfl
theorem nk_sq {a b : Sq} : nk (sqD a) = nk (sqD b) ↔ a = b := by
  constructor
  · intro h
    unfold sqD at h
    simp only [nk, nkAll] at h
    injection h with h
    injection h with h1 h
    injection h with h2 h
    injection h with h3 h
    injection h with h4 h
    injection h with h5 h
    injection h1 with h1
    injection h2 with h2
    injection h3 with h3
    injection h4 with h4
    injection h5 with h5
    exact Sq.ext_ h1 h2 (bnum_inj h3) h4 (bnum_inj h5)
  · rintro rfl
    rfl
theorem key_sq (a : Sq) : isKey (sqD a) = true := by
  unfold sqD isKey
  simp [keyAll, keyOk, nk, nkAll, NestedKey.depth, NestedKey.depthAll]
section
variable {β : Type}
def lGet (L : List (Sq × β)) (q : Sq) : Option β := (L.find? fun p => decide (p.1 = q)).map (·.2)
def lPut (L : List (Sq × β)) (q : Sq) (n : β) : List (Sq × β) := if (lGet L q).isSome = true then L.map (fun p => if p.1 = q then (p.1, n) else p) else L ++ [(q, n)]
theorem lGet_cons (p : Sq × β) (L : List (Sq × β)) (q : Sq) : lGet (p :: L) q = if p.1 = q then some p.2 else lGet L q := by
  unfold lGet
  by_cases h : p.1 = q <;> simp [h]
def entD (f : β -> PyData) (p : Sq × β) : PyData × PyData := (sqD p.1, f p.2)
theorem dGet_ent (f : β -> PyData) (q : Sq) : forall L : List (Sq × β), dGet (L.map (entD f)) (sqD q) = (lGet L q).map f
  | [] => rfl
  | p :: L => by
    rw [List.map_cons, dGet_cons, lGet_cons, dGet_ent f q L]
    show (if nk (sqD p.1) = nk (sqD q) then some (f p.2) else _) = _
    by_cases h : p.1 = q
    · rw [if_pos (nk_sq.mpr h), if_pos h]; rfl
    · rw [if_neg (fun z => h (nk_sq.mp z)), if_neg h]
theorem dPut_ent (f : β -> PyData) (q : Sq) (n : β) (L : List (Sq × β)) : dPut (L.map (entD f)) (sqD q) (f n) = (lPut L q n).map (entD f) := by
  unfold dPut lPut
  rw [dGet_ent, Option.isSome_map]
  split
  · rw [List.map_map, List.map_map]
    refine List.map_congr_left fun p _ => ?_
    show (if nk (sqD p.1) = nk (sqD q) then (sqD p.1, f n) else entD f p) = entD f (if p.1 = q then (p.1, n) else p)
    by_cases h : p.1 = q
    · rw [if_pos (nk_sq.mpr h), if_pos h]; rfl
    · rw [if_neg (fun z => h (nk_sq.mp z)), if_neg h]
  · rw [List.map_append]; rfl
theorem lGet_none {L : List (Sq × β)} {q : Sq} : lGet L q = none ↔ q ∉ L.map (·.1) := by
  induction L with
  | nil => simp [lGet]
  | cons p L ih =>
    rw [lGet_cons, List.map_cons, List.mem_cons]
    by_cases h : p.1 = q
    · rw [if_pos h]; simp [h]
    · rw [if_neg h, ih]
      constructor
      · rintro a (b | b)
        · exact h b.symm
        · exact a b
      · exact fun a b => a (.inr b)
theorem lGet_mem : forall {L : List (Sq × β)} {p : Sq × β}, (L.map (·.1)).Nodup -> p ∈ L -> lGet L p.1 = some p.2
  | [], _, _, h => absurd h List.not_mem_nil
  | q :: L, p, nd, h => by
    rw [List.map_cons, List.nodup_cons] at nd
    rw [lGet_cons]
    rcases List.mem_cons.mp h with rfl | h
    · rw [if_pos rfl]
    · rw [if_neg fun z => nd.1 (by rw [z]; exact List.mem_map.mpr ⟨p, h, rfl⟩)]
      exact lGet_mem nd.2 h
theorem lPut_keys (L : List (Sq × β)) (q : Sq) (n : β) : (lPut L q n).map (·.1) = if (lGet L q).isSome = true then L.map (·.1) else L.map (·.1) ++ [q] := by
  unfold lPut
  split
  · rw [List.map_map]
    refine List.map_congr_left fun p _ => ?_
    show (if p.1 = q then (p.1, n) else p).1 = p.1
    split <;> rfl
  · rw [List.map_append]; rfl
theorem lPut_nodup {L : List (Sq × β)} {q : Sq} {n : β} (h : (L.map (·.1)).Nodup) : ((lPut L q n).map (·.1)).Nodup := by
  rw [lPut_keys]
  split
  · exact h
  · rename_i hs
    have hn : lGet L q = none := by
      cases hg : lGet L q with
      | none => rfl
      | some _ => rw [hg] at hs; simp at hs
    have := lGet_none.mp hn
    rw [List.nodup_append]
    refine ⟨h, by simp, ?_⟩
    intro a ha b hb
    rw [List.mem_singleton.mp hb]
    intro z
    exact this (z ▸ ha)
theorem lPut_mem {L : List (Sq × β)} {q a : Sq} {n : β} (h : a ∈ (lPut L q n).map (·.1)) : a ∈ L.map (·.1) ∨ a = q := by
  rw [lPut_keys] at h
  split at h
  · exact .inl h
  · rcases List.mem_append.mp h with h | h
    · exact .inl h
    · exact .inr (List.mem_singleton.mp h)
end
/-! ### weights -/
def wgt (f : Sq -> Int) (L : List (Sq × Int)) : Int := (L.map fun p => p.2 * f p.1).sum
def lAdd (L : List (Sq × Int)) (q : Sq) (n : Int) : List (Sq × Int) := lPut L q ((lGet L q).getD 0 + n)
theorem wgt_repl (f : Sq -> Int) {q : Sq} {m : Int} : forall {L : List (Sq × Int)} {n : Int}, (L.map (·.1)).Nodup -> lGet L q = some n -> wgt f (L.map fun p => if p.1 = q then (p.1, m) else p) = wgt f L + (m - n) * f q
  | [], _, _, h => by cases h
  | p :: L, n, nd, h => by
    rw [List.map_cons, List.nodup_cons] at nd
    rw [lGet_cons] at h
    have c1 : forall (x : Sq × Int) (M : List (Sq × Int)), wgt f (x :: M) = x.2 * f x.1 + wgt f M := fun x M => by unfold wgt; rw [List.map_cons, List.sum_cons]
    rw [List.map_cons, c1, c1]
    by_cases hp : p.1 = q
    · rw [if_pos hp] at h
      cases h
      have same : (L.map fun p => if p.1 = q then (p.1, m) else p) = L := by
        conv => rhs; rw [← List.map_id L]
        refine List.map_congr_left fun x hx => ?_
        have : x.1 ≠ q := fun z => nd.1 (by rw [hp, ← z]; exact List.mem_map.mpr ⟨x, hx, rfl⟩)
        rw [if_neg this]
        rfl
      rw [same, if_pos hp, hp]
      show m * f q + _ = _
      rw [Int.sub_mul]
      omega
    · rw [if_neg hp] at h
      rw [if_neg hp, wgt_repl f nd.2 h]
      omega
theorem wgt_add (f : Sq -> Int) {L : List (Sq × Int)} {q : Sq} {n : Int} (nd : (L.map (·.1)).Nodup) : wgt f (lAdd L q n) = wgt f L + n * f q := by
  unfold lAdd lPut
  cases hg : lGet L q with
  | none =>
    rw [if_neg (by simp)]
    unfold wgt
    rw [List.map_append, List.sum_append]
    show _ + ((0 + n) * f q + 0) = _
    rw [Int.zero_add, Int.add_zero]
  | some m =>
    rw [if_pos (show (some m).isSome = true from rfl), wgt_repl f nd hg]
    show _ + (m + n - m) * f q = _
    rw [show m + n - m = n by omega]
end Lw

namespace Lw
open PySem PySem.Spec L2 Gd
/-! ### there are few states -/
theorem nodup_lt : forall (n : Nat) (l : List Nat), l.Nodup -> (forall x, x ∈ l -> x < n) -> l.length ≤ n
  | 0, l, _, h => by
    cases l with
    | nil => exact Nat.le_refl 0
    | cons a l => exact absurd (h a List.mem_cons_self) (by omega)
  | n + 1, l, nd, h => by
    by_cases hn : n ∈ l
    · have ih := nodup_lt n (l.erase n) (nd.erase n) fun x hx => by
        have hx := (nd.mem_erase_iff).mp hx
        have := h x hx.2
        have := hx.1
        omega
      rw [List.length_erase_of_mem hn] at ih
      omega
    · have ih := nodup_lt n l nd fun x hx => by
        have := h x hx
        have : x ≠ n := fun z => hn (z ▸ hx)
        omega
      omega
structure Box (r : Ru) (s : Sq) : Prop where
  sane : Sane r s
  st : s.st ≤ r.st
  da : s.da ≤ r.da
def encS (s : Sq) : Nat := (s.st * 308 + s.da * 28 + s.ru * 4 + (if s.mar = true then 2 else 0) + (if s.tk = true then 1 else 0)).toNat
theorem encS_inj {r : Ru} (v : VR r) {a b : Sq} (ha : Box r a) (hb : Box r b) (h : encS a = encS b) : a = b := by
  obtain ⟨⟨a1, a2, a3, a4⟩, a5, a6⟩ := ha
  obtain ⟨⟨b1, b2, b3, b4⟩, b5, b6⟩ := hb
  have v1 := v.s2
  have v2 := v.d2
  have v3 := v.n2
  unfold encS at h
  rcases a with ⟨x1, x2, x3, x4, x5⟩
  rcases b with ⟨y1, y2, y3, y4, y5⟩
  dsimp only at *
  cases x3 <;> cases x5 <;> cases y3 <;> cases y5 <;> simp at h <;> (refine Sq.ext_ ?_ ?_ ?_ ?_ ?_ <;> dsimp only <;> first | rfl | omega)
theorem encS_lt {r : Ru} (v : VR r) {a : Sq} (ha : Box r a) : encS a < 2156 := by
  obtain ⟨⟨a1, a2, a3, a4⟩, a5, a6⟩ := ha
  have v1 := v.s2
  have v2 := v.d2
  have v3 := v.n2
  unfold encS
  split <;> split <;> omega
theorem nodup_map_on {α β : Type} {f : α -> β} : forall {l : List α}, (forall a, a ∈ l -> forall b, b ∈ l -> f a = f b -> a = b) -> l.Nodup -> (l.map f).Nodup
  | [], _, _ => List.nodup_nil
  | a :: l, h, nd => by
    rw [List.nodup_cons] at nd
    rw [List.map_cons, List.nodup_cons]
    refine ⟨fun z => ?_, nodup_map_on (fun x hx y hy => h x (List.mem_cons_of_mem _ hx) y (List.mem_cons_of_mem _ hy)) nd.2⟩
    obtain ⟨b, hb, e⟩ := List.mem_map.mp z
    have := h b (List.mem_cons_of_mem _ hb) a List.mem_cons_self e
    exact nd.1 (this ▸ hb)
theorem box_len {r : Ru} (v : VR r) {l : List Sq} (nd : l.Nodup) (h : forall s, s ∈ l -> Box r s) : l.length ≤ 2156 := by
  have := nodup_lt 2156 (l.map encS) (nodup_map_on (fun a ha b hb e => encS_inj v (h a ha) (h b hb) e) nd) fun x hx => by
    obtain ⟨s, hs, rfl⟩ := List.mem_map.mp hx
    exact encS_lt v (h s hs)
  rwa [List.length_map] at this
theorem box0 {r : Ru} (v : VR r) : Box r start0 := ⟨sane0 v, by have := v.s1; show (0 : Int) ≤ r.st; omega, by have := v.s1; have := v.d1; show (0 : Int) ≤ r.da; omega⟩
end Lw

namespace Lw
open PySem PySem.Spec L2 Gd
/-! ### mirrors -/
def canDrive (r : Ru) (s : Sq) : Bool := !isOver r (stepF r s 68)
def leftOf (r : Ru) (s : Sq) : Int := if (if r.da - s.da < r.st - s.st then r.da - s.da else r.st - s.st) > 0 then (if r.da - s.da < r.st - s.st then r.da - s.da else r.st - s.st) else 0
def needN (r : Ru) (q : Sq) : Nat := ((List.range 7).find? fun n => canDrive r (rests r q n)).getD 0
def signs3 : List Nat := [68, 82, 87]
def okNext (r : Ru) (q : Sq) (c : Nat) : Bool := !decide (c = 68) || !isOver r (stepF r q c)
def nextS (r : Ru) (q : Sq) : List Nat := signs3.filter (okNext r q)
def nextD (r : Ru) (q : Sq) (c : Nat) : PyData := .tuple [.str (S [c]), sqD (stepF r q c)]
theorem can_after_night {r : Ru} (v : VR r) {q : Sq} (h : 0 ≤ q.ru) : canDrive r (rests r q r.ni.toNat) = true := by
  have n1 := v.n1
  have p1 := v.p1
  have s1 := v.s1
  have d1 := v.d1
  obtain ⟨a, b⟩ := rests_all v h (n := r.ni.toNat) (by omega)
  unfold canDrive isOver
  have st := st_drive r (rests r q r.ni.toNat)
  rw [st.1, st.2, a, b, decide_eq_false (by omega), decide_eq_false (by omega)]
  rfl
theorem need_ok {r : Ru} (v : VR r) {q : Sq} (h : 0 ≤ q.ru) : canDrive r (rests r q (needN r q)) = true ∧ needN r q ≤ 6 ∧ forall j, j < needN r q -> canDrive r (rests r q j) = false := by
  have n2 := v.n2
  have ex : ((List.range 7).find? fun n => canDrive r (rests r q n)).isSome = true := by
    rw [List.find?_isSome]
    exact ⟨r.ni.toNat, List.mem_range.mpr (by omega), can_after_night v h⟩
  obtain ⟨n, hn⟩ := Option.isSome_iff_exists.mp ex
  have e : needN r q = n := by unfold needN; rw [hn]; rfl
  rw [e]
  obtain ⟨h1, as, bs, h2, h3⟩ := List.find?_eq_some_iff_append.mp hn
  have hlen : as.length = n ∧ n < 7 := by
    have q1 : (List.range 7)[as.length]? = some n := by rw [h2]; simp
    obtain ⟨l1, l2⟩ := List.getElem?_eq_some_iff.mp q1
    rw [List.getElem_range] at l2
    rw [List.length_range] at l1
    omega
  refine ⟨h1, by omega, fun j hj => ?_⟩
  have hm : j ∈ as := by
    have q1 : (List.range 7)[j]? = some j := by rw [List.getElem?_range (by omega)]
    rw [h2, List.getElem?_append_left (by omega)] at q1
    exact List.mem_of_getElem? q1
  have := h3 j hm
  simpa using this
/-! ### tables by level -/
def addAll (r : Ru) (p : Sq × Int) (acc : List (Sq × Int)) (cs : List Nat) : List (Sq × Int) := cs.foldl (fun acc c => lAdd acc (stepF r p.1 c) p.2) acc
def stepT (r : Ru) (L : List (Sq × Int)) : List (Sq × Int) := L.foldl (fun acc p => addAll r p acc (nextS r p.1)) []
def tabs (r : Ru) : Nat -> List (Sq × Int)
  | 0 => [(start0, 1)]
  | n + 1 => stepT r (tabs r n)
def cnt (r : Ru) : Nat -> Sq -> Int
  | 0, _ => 1
  | n + 1, q => ((nextS r q).map fun c => cnt r n (stepF r q c)).sum
structure TabOk (r : Ru) (L : List (Sq × Int)) : Prop where
  nd : (L.map (·.1)).Nodup
  bx : forall s, s ∈ L.map (·.1) -> Box r s
theorem TabOk.len {r : Ru} (v : VR r) {L : List (Sq × Int)} (h : TabOk r L) : L.length ≤ 2156 := by
  have := box_len v h.nd h.bx
  rwa [List.length_map] at this
theorem box_next {r : Ru} (v : VR r) {q : Sq} (h : Box r q) {c : Nat} (hc : c ∈ nextS r q) : Box r (stepF r q c) := by
  unfold nextS at hc
  obtain ⟨h1, h2⟩ := List.mem_filter.mp hc
  refine ⟨sane_step v h.sane c, ?_, ?_⟩
  all_goals
    have a1 := h.st
    have a2 := h.da
    have s1 := h.sane.st
    have s2 := h.sane.da
    by_cases h68 : c = 68
    · subst h68
      unfold okNext isOver at h2
      simp at h2
      omega
    · obtain ⟨w1, w2⟩ := st_other (r := r) (s := q) h68
      omega
theorem addAll_ok {r : Ru} (v : VR r) {p : Sq × Int} (hp : Box r p.1) : forall {cs : List Nat} {acc : List (Sq × Int)}, (forall c, c ∈ cs -> c ∈ nextS r p.1) -> TabOk r acc -> TabOk r (addAll r p acc cs)
  | [], _, _, h => h
  | c :: cs, acc, hc, h => addAll_ok v hp (cs := cs) (acc := lAdd acc (stepF r p.1 c) p.2) (fun x hx => hc x (List.mem_cons_of_mem _ hx)) ⟨lPut_nodup h.nd, fun s hs => by
      rcases lPut_mem hs with hs | rfl
      · exact h.bx s hs
      · exact box_next v hp (hc c List.mem_cons_self)⟩
theorem wgt_addAll {r : Ru} (f : Sq -> Int) {p : Sq × Int} (v : VR r) (hp : Box r p.1) : forall {cs : List Nat} {acc : List (Sq × Int)}, (forall c, c ∈ cs -> c ∈ nextS r p.1) -> TabOk r acc -> wgt f (addAll r p acc cs) = wgt f acc + p.2 * (cs.map fun c => f (stepF r p.1 c)).sum
  | [], acc, _, h => by
    show wgt f acc = wgt f acc + p.2 * 0
    rw [Int.mul_zero, Int.add_zero]
  | c :: cs, acc, hc, h => by
    have ok1 : TabOk r (lAdd acc (stepF r p.1 c) p.2) := ⟨lPut_nodup h.nd, fun s hs => by
      rcases lPut_mem hs with hs | rfl
      · exact h.bx s hs
      · exact box_next v hp (hc c List.mem_cons_self)⟩
    have ih := wgt_addAll f v hp (cs := cs) (fun x hx => hc x (List.mem_cons_of_mem _ hx)) ok1
    show wgt f (addAll r p (lAdd acc (stepF r p.1 c) p.2) cs) = _
    rw [ih, wgt_add f h.nd, List.map_cons, List.sum_cons, Int.mul_add]
    omega
theorem stepT_ok_aux {r : Ru} (v : VR r) : forall {L acc : List (Sq × Int)}, (forall p, p ∈ L -> Box r p.1) -> TabOk r acc -> TabOk r (L.foldl (fun acc p => addAll r p acc (nextS r p.1)) acc)
  | [], _, _, h => h
  | p :: L, acc, hb, h => stepT_ok_aux v (L := L) (acc := addAll r p acc (nextS r p.1)) (fun x hx => hb x (List.mem_cons_of_mem _ hx)) (addAll_ok v (hb p List.mem_cons_self) (fun _ z => z) h)
theorem wgt_aux {r : Ru} (v : VR r) (f : Sq -> Int) : forall {L acc : List (Sq × Int)}, (forall p, p ∈ L -> Box r p.1) -> TabOk r acc -> wgt f (L.foldl (fun acc p => addAll r p acc (nextS r p.1)) acc) = wgt f acc + wgt (fun s => ((nextS r s).map fun c => f (stepF r s c)).sum) L
  | [], acc, _, h => by
    show wgt f acc = wgt f acc + 0
    rw [Int.add_zero]
  | p :: L, acc, hb, h => by
    have ok1 := addAll_ok v (hb p List.mem_cons_self) (cs := nextS r p.1) (fun _ z => z) h
    have ih := wgt_aux v f (L := L) (acc := addAll r p acc (nextS r p.1)) (fun x hx => hb x (List.mem_cons_of_mem _ hx)) ok1
    show wgt f (L.foldl _ (addAll r p acc (nextS r p.1))) = _
    rw [ih, wgt_addAll f v (hb p List.mem_cons_self) (fun _ z => z) h]
    have c1 : forall (g : Sq -> Int) (x : Sq × Int) (M : List (Sq × Int)), wgt g (x :: M) = x.2 * g x.1 + wgt g M := fun g x M => by unfold wgt; rw [List.map_cons, List.sum_cons]
    rw [c1]
    omega
theorem tab_nil (r : Ru) : TabOk r [] := ⟨List.nodup_nil, fun s h => absurd h List.not_mem_nil⟩
theorem TabOk.box {r : Ru} {L : List (Sq × Int)} (h : TabOk r L) : forall p, p ∈ L -> Box r p.1 := fun p hp => h.bx _ (List.mem_map.mpr ⟨p, hp, rfl⟩)
theorem tabs_ok {r : Ru} (v : VR r) : forall n, TabOk r (tabs r n)
  | 0 => ⟨by simp [tabs], fun s hs => by
      have : s = start0 := by simpa [tabs] using hs
      subst this
      exact box0 v⟩
  | n + 1 => stepT_ok_aux v (tabs_ok v n).box (tab_nil r)
theorem tabs_wgt {r : Ru} (v : VR r) : forall n m, wgt (cnt r m) (tabs r n) = cnt r (n + m) start0
  | 0, m => by
    show 1 * cnt r m start0 + 0 = _
    rw [Int.one_mul, Int.add_zero, Nat.zero_add]
  | n + 1, m => by
    have e := wgt_aux v (cnt r m) (tabs_ok v n).box (tab_nil r)
    show wgt (cnt r m) ((tabs r n).foldl _ []) = _
    rw [e]
    have e2 : wgt (cnt r m) [] = 0 := rfl
    rw [e2, Int.zero_add]
    show wgt (cnt r (m + 1)) (tabs r n) = _
    rw [tabs_wgt v n (m + 1)]
    congr 1
    omega
theorem tabs_sum {r : Ru} (v : VR r) (n : Nat) : ((tabs r n).map (·.2)).sum = cnt r n start0 := by
  have h := tabs_wgt v n 0
  rw [Nat.add_zero] at h
  rw [← h]
  unfold wgt
  congr 1
  refine List.map_congr_left fun p _ => ?_
  show p.2 = p.2 * 1
  rw [Int.mul_one]
/-! ### _law_breaks -/
def brk (r : Ru) (l : List Nat) (c : Nat) : Bool := decide (c = 68) && isOver r (lawAfter r (l ++ [c]))
theorem cut_last (l : List Nat) (c : Nat) : cut (l ++ [c]) (some (-1)) none = [c] := by
  unfold cut
  have e1 : HT.sIx (l ++ [c]).length 0 (some (-1)) = l.length := by
    simp [HT.sIx]
    omega
  have e2 : HT.sIx (l ++ [c]).length (l ++ [c]).length none = (l ++ [c]).length := rfl
  rw [e1, e2, List.drop_left]
  simp

/-! ### driving on, resting -/
theorem after_app (r : Ru) (l m : List Nat) : after r (l ++ m) = m.foldl (stepF r) (after r l) := by
  unfold after
  rw [List.foldl_append]
theorem brk_is {r : Ru} (v : VR r) (l : List Nat) (c : Nat) : brk r l c = !okNext r (after r l) c := by
  unfold brk okNext
  rw [law_over v, after_snoc]
  cases decide (c = 68) <;> simp
theorem drives_st (r : Ru) : forall (n : Nat) (q : Sq), ((List.replicate n 68).foldl (stepF r) q).st = q.st + n ∧ ((List.replicate n 68).foldl (stepF r) q).da = q.da + n
  | 0, q => ⟨by simp, by simp⟩
  | n + 1, q => by
    rw [List.replicate_succ, List.foldl_cons]
    have h := drives_st r n (stepF r q 68)
    have s := st_drive r q
    rw [h.1, h.2, s.1, s.2]
    constructor <;> omega
theorem rep_flat (n c : Nat) : (List.replicate n [c]).flatten = List.replicate n c := by
  induction n with
  | zero => rfl
  | succ n ih => rw [List.replicate_succ, List.flatten_cons, ih, List.replicate_succ]; rfl
theorem rep_snoc (n c : Nat) : List.replicate (n + 1) c = List.replicate n c ++ [c] := by
  rw [List.replicate_succ']
theorem left_range {r : Ru} (v : VR r) {q : Sq} (h : Sane r q) : 0 ≤ leftOf r q ∧ leftOf r q ≤ 6 := by
  have a := h.st
  have b := v.s2
  unfold leftOf
  constructor <;> (split <;> try split) <;> omega
theorem brk_drive {r : Ru} (v : VR r) (l : List Nat) (n : Nat) : brk r (l ++ List.replicate n 68) 68 = decide (leftOf r (after r l) ≤ n) := by
  rw [brk_is v]
  have h := drives_st r n (after r l)
  rw [← after_app] at h
  have s := st_drive r (after r (l ++ List.replicate n 68))
  have e : okNext r (after r (l ++ List.replicate n 68)) 68 = !isOver r (stepF r (after r (l ++ List.replicate n 68)) 68) := by
    unfold okNext; rfl
  rw [e, Bool.not_not]
  unfold isOver leftOf
  rw [s.1, s.2, h.1, h.2, Bool.eq_iff_iff, Bool.or_eq_true, decide_eq_true_eq, decide_eq_true_eq, decide_eq_true_eq]
  split <;> split <;> omega
theorem brk_rest {r : Ru} (v : VR r) (l : List Nat) (n : Nat) : brk r (l ++ List.replicate n 82) 68 = !canDrive r (rests r (after r l) n) := by
  rw [brk_is v, after_app_rests]
  rfl
/-! ### all lawful logs -/
def longer (r : Ru) (l : List Nat) : List (List Nat) := (signs3.filter (okNext r (after r l))).map fun c => l ++ [c]
def lawL (r : Ru) : Nat -> List (List Nat)
  | 0 => [[]]
  | n + 1 => (lawL r n).flatMap (longer r)
theorem lawL_len (r : Ru) : forall n l, l ∈ lawL r n -> l.length = n
  | 0, l, h => by
    have : l = [] := by simpa [lawL] using h
    rw [this]; rfl
  | n + 1, l, h => by
    rw [lawL, List.mem_flatMap] at h
    obtain ⟨m, hm, h⟩ := h
    unfold longer at h
    obtain ⟨c, _, rfl⟩ := List.mem_map.mp h
    rw [List.length_append, lawL_len r n m hm]; rfl
theorem sum_flatMap {α β : Type} (f : β -> Int) (g : α -> List β) : forall L : List α, ((L.flatMap g).map f).sum = (L.map fun x => ((g x).map f).sum).sum
  | [] => rfl
  | x :: L => by
    rw [List.flatMap_cons, List.map_append, List.sum_append, sum_flatMap f g L, List.map_cons, List.sum_cons]
theorem lawL_sum (r : Ru) : forall n m, ((lawL r n).map fun l => cnt r m (after r l)).sum = cnt r (n + m) start0
  | 0, m => by
    show cnt r m start0 + 0 = _
    rw [Int.add_zero, Nat.zero_add]
  | n + 1, m => by
    rw [lawL, sum_flatMap, show n + 1 + m = n + (m + 1) by omega, ← lawL_sum r n (m + 1)]
    congr 1
    refine List.map_congr_left fun l _ => ?_
    unfold longer
    rw [List.map_map]
    show _ = ((nextS r (after r l)).map fun c => cnt r m (stepF r (after r l) c)).sum
    unfold nextS
    congr 1
    refine List.map_congr_left fun c _ => ?_
    show cnt r m (after r (l ++ [c])) = _
    rw [after_snoc]
theorem sum_ones {α : Type} : forall L : List α, (L.map fun _ => (1 : Int)).sum = L.length
  | [] => rfl
  | x :: L => by
    rw [List.map_cons, List.sum_cons, sum_ones L, List.length_cons]
    omega
theorem lawL_cnt (r : Ru) (n : Nat) : ((lawL r n).length : Int) = cnt r n start0 := by
  rw [← sum_ones, ← Nat.add_zero n, ← lawL_sum r n 0, Nat.add_zero]
  rfl
theorem longer_le (r : Ru) (l : List Nat) : (longer r l).length ≤ 3 := by
  unfold longer
  rw [List.length_map]
  exact List.length_filter_le _ _
theorem flatMap_le {α β : Type} {g : α -> List β} {k : Nat} : forall {L : List α}, (forall x, x ∈ L -> (g x).length ≤ k) -> (L.flatMap g).length ≤ k * L.length
  | [], _ => by simp
  | x :: L, h => by
    rw [List.flatMap_cons, List.length_append, List.length_cons, Nat.mul_add]
    have := h x List.mem_cons_self
    have := flatMap_le (L := L) fun y hy => h y (List.mem_cons_of_mem _ hy)
    omega
theorem lawL_le (r : Ru) : forall n, (lawL r n).length ≤ 3 ^ n
  | 0 => by simp [lawL]
  | n + 1 => by
    rw [lawL]
    have := flatMap_le (g := longer r) (k := 3) (L := lawL r n) fun x _ => longer_le r x
    have ih := lawL_le r n
    rw [Nat.pow_succ]
    omega
end Lw

namespace Lw
open PySem PySem.Spec L2 Gd PySem.W
/-! ### runs of signs, as the short format tells them -/
def rowSt (rs : List (Nat × Nat)) (c : Nat) : List (Nat × Nat) := match rs.getLast? with
  | some x => if x.2 = c then rs.dropLast ++ [(x.1 + 1, c)] else rs ++ [(1, c)]
  | none => rs ++ [(1, c)]
def rowsL (l : List Nat) : List (Nat × Nat) := l.foldl rowSt []
def unrow (rs : List (Nat × Nat)) : List Nat := rs.flatMap fun x => List.replicate x.1 x.2
theorem rowsL_snoc (l : List Nat) (c : Nat) : rowsL (l ++ [c]) = rowSt (rowsL l) c := by
  unfold rowsL
  rw [List.foldl_append]
  rfl
theorem unrow_app (a b : List (Nat × Nat)) : unrow (a ++ b) = unrow a ++ unrow b := by
  unfold unrow
  rw [List.flatMap_append]
theorem unrow_one (n c : Nat) : unrow [(n, c)] = List.replicate n c := by
  unfold unrow
  rw [List.flatMap_cons, List.flatMap_nil, List.append_nil]
theorem unrow_step (rs : List (Nat × Nat)) (c : Nat) : unrow (rowSt rs c) = unrow rs ++ [c] := by
  rcases List.eq_nil_or_concat rs with rfl | ⟨a, x, rfl⟩
  · rfl
  · rw [List.concat_eq_append]
    unfold rowSt
    rw [List.getLast?_append]
    show unrow (if x.2 = c then (a ++ [x]).dropLast ++ [(x.1 + 1, c)] else (a ++ [x]) ++ [(1, c)]) = _
    by_cases h : x.2 = c
    · rw [if_pos h, List.dropLast_concat, unrow_app, unrow_app, unrow_one, show x = (x.1, x.2) from rfl, unrow_one, List.replicate_succ', h, List.append_assoc]
    · rw [if_neg h, unrow_app (a ++ [x]), unrow_one]
      rfl
/-- the rows tell the log -/
theorem unrow_rows (l : List Nat) : unrow (rowsL l) = l := by
  rw [← List.reverse_reverse l]
  induction l.reverse with
  | nil => rfl
  | cons c m ih =>
    rw [List.reverse_cons, rowsL_snoc, unrow_step, ih]
theorem unrow_len (rs : List (Nat × Nat)) : (unrow rs).length = (rs.map (·.1)).sum := by
  induction rs with
  | nil => rfl
  | cons x rs ih =>
    rw [show x :: rs = [x] ++ rs from rfl, unrow_app, List.length_append, ih, show x = (x.1, x.2) from rfl, unrow_one, List.length_replicate, List.map_append, List.sum_append]
    rfl
theorem rows_pos (l : List Nat) : forall x, x ∈ rowsL l -> 1 ≤ x.1 ∧ x.2 ∈ l := by
  rw [← List.reverse_reverse l]
  induction l.reverse with
  | nil => exact fun x h => absurd h List.not_mem_nil
  | cons c m ih =>
    rw [List.reverse_cons, rowsL_snoc]
    generalize rowsL m.reverse = rs at ih
    intro x hx
    have key : x ∈ rs ∨ (1 ≤ x.1 ∧ x.2 = c) := by
      unfold rowSt at hx
      split at hx
      · rename_i y hy
        split at hx
        · rcases List.mem_append.mp hx with hx | hx
          · exact .inl (List.dropLast_subset _ hx)
          · rw [List.mem_singleton.mp hx]
            exact .inr ⟨by show 1 ≤ y.1 + 1; omega, rfl⟩
        · rcases List.mem_append.mp hx with hx | hx
          · exact .inl hx
          · rw [List.mem_singleton.mp hx]; exact .inr ⟨Nat.le_refl _, rfl⟩
      · rcases List.mem_append.mp hx with hx | hx
        · exact .inl hx
        · rw [List.mem_singleton.mp hx]; exact .inr ⟨Nat.le_refl _, rfl⟩
    rcases key with h | ⟨h1, h2⟩
    · exact ⟨(ih x h).1, List.mem_append_left _ (ih x h).2⟩
    · exact ⟨h1, List.mem_append_right _ (by rw [h2]; exact List.mem_singleton.mpr rfl)⟩
end Lw

namespace Lw
open PySem PySem.Spec L2 Gd
def dg (n : Nat) : List Nat := if n < 10 then [48 + n] else [48 + n / 10, 48 + n % 10]
theorem str_dg : forall n, n < 61 -> ((toString ((n : Nat) : Int) : String) : Str) = S (dg n) := by decide +kernel
theorem dg_len (n : Nat) : (dg n).length ≤ 2 := by unfold dg; split <;> simp
def wordR (x : Nat × Nat) : List Nat := dg x.1 ++ [x.2]
def textR (rs : List (Nat × Nat)) : List Nat := joinL [32] (rs.map wordR)
def rwD (x : Nat × Nat) : PyData := .tuple [nJ x.1, .str (S [x.2])]
  where nJ (n : Nat) : PyData := .int (n : Nat)
theorem rows_le (l : List Nat) : (rowsL l).length ≤ l.length ∧ forall x, x ∈ rowsL l -> x.1 ≤ l.length := by
  have h1 := unrow_len (rowsL l)
  rw [unrow_rows] at h1
  have h2 := rows_pos l
  generalize rowsL l = rs at h1 h2
  have key : forall rs : List (Nat × Nat), (forall x, x ∈ rs -> 1 ≤ x.1) -> rs.length ≤ (rs.map (·.1)).sum ∧ forall x, x ∈ rs -> x.1 ≤ (rs.map (·.1)).sum := fun rs => by
    induction rs with
    | nil => exact fun _ => ⟨Nat.le_refl _, fun x h => absurd h List.not_mem_nil⟩
    | cons y rs ih =>
      intro h
      obtain ⟨a, b⟩ := ih fun x hx => h x (List.mem_cons_of_mem _ hx)
      have := h y List.mem_cons_self
      rw [List.map_cons, List.sum_cons, List.length_cons]
      refine ⟨by omega, fun x hx => ?_⟩
      rcases List.mem_cons.mp hx with rfl | hx
      · omega
      · have := b x hx; omega
  rw [h1]
  exact key rs fun x hx => (h2 x hx).1
theorem lay_str {l : List Nat} (h : forall c, c ∈ l -> c < 1114112) : PyData.canLay0 (.str (S l)) = true := by
  show (S l).cps.all (fun c => decide (c < 1114112)) = true
  rw [← Array.all_toList, S_cps, List.all_eq_true]
  exact fun c hc => decide_eq_true (h c hc)
theorem sh_rws (rs : List (Nat × Nat)) (h : forall x, x ∈ rs -> x.2 < 1114112) : shap (.list (rs.map rwD)) = true := by
  refine shap_of 2 (shN_list rs fun x hx => ?_)
  show shN 1 (.tuple [.int (x.1 : Nat), .str (S [x.2])]) = true
  simp [shN, shAll, lay_str fun c hc => by rw [List.mem_singleton.mp hc]; exact h x hx]
theorem word_len (x : Nat × Nat) : (wordR x).length ≤ 3 := by
  unfold wordR
  rw [List.length_append]
  have := dg_len x.1
  simp
  omega
theorem ixN_last (n : Nat) : ixN (n + 1) (-1) = some n := by
  unfold ixN
  rw [if_neg (by omega), if_pos (by omega)]
  congr 1
  omega
theorem set_last {α : Type} (a : List α) (x y : α) : (a ++ [x]).set a.length y = a ++ [y] := by
  induction a with
  | nil => rfl
  | cons z a ih => rw [List.cons_append, List.length_cons, List.set_cons_succ, ih]; rfl
section
variable {P : Program} {w : World} {K : PySem.W.Frag} {mg : Str -> Option Value} {base : Heap}
def R_log_text : Rel := fun ds o => ∃ l, isLogL l = true ∧ ds = [.str (S l)] ∧ o = .ret (.str (S (textR (rowsL l))))
theorem can_log_text (T : Tp K mg) : Can P w K mg base 1 "log_text" R_log_text := by
  obtain ⟨fd, F⟩ := T.fn_log_text
  refine can_of F T.gl_log_text sc_log_text (fun _ _ _ _ _ _ us hl => match us, hl with | [_], _ => rfl) (by rintro ds o ⟨_, _, rfl, rfl⟩; rfl) ?_
  rintro cdv A outer s H E N ds o hr ⟨l, hlog, rfl, rfl⟩ hx
  have nd := sc_log_text.nd
  have hl : l.length ≤ 60 := by
    have := hlog
    unfold isLogL at this
    rw [Bool.and_eq_true, decide_eq_true_eq] at this
    omega
  have hlow : forall c, c ∈ l -> c < 1114112 := fun c hc => by
    unfold isLogL at hlog
    rw [Bool.and_eq_true, List.all_eq_true] at hlog
    have := hlog.2 c hc
    simp [isSg] at this
    omega
  have hu := hr.units
  refine gs_cons (g1_own 1 ga_nil ?_ nd)
  refine gs_cons (g1_for l (fun c => .str (S [c])) (T := .nm 2) (gi_str (gv 0)) (tg_nm 2 nd)
    (fun i ρ => ∃ x2, ρ = [.dat (.str (S l)), .own ((rowsL (l.take i)).map rwD), x2, .any]) ⟨_, rfl⟩ ?_ ?_ (passes_of rfl))
  · rintro i c ρ1 hc ⟨x2, rfl⟩
    refine ⟨_, rfl, ?_⟩
    have hi := (List.getElem?_eq_some_iff.mp hc).1
    have hnx : rowsL (l.take (i + 1)) = rowSt (rowsL (l.take i)) c := by
      rw [List.take_add_one, hc]
      exact rowsL_snoc _ c
    rw [hnx]
    have hle := (rows_le (l.take i)).1
    rw [List.length_take] at hle
    have hrl : forall x, x ∈ rowsL (l.take i) -> x.2 < 1114112 := fun x hx => hlow x.2 (List.mem_of_mem_take (rows_pos _ x hx).2)
    generalize rowsL (l.take i) = rs at hle hrl
    rcases List.eq_nil_or_concat rs with rfl | ⟨a, x, rfl⟩
    · refine gs_cons (g1_if (k := false) (gt_thaw 1 (ds := []) (gt_is (gt_w (gw_and (c' := true) (gt_is (c' := false) (gt_cmp (gv 1) (ge_lst ga_nil) (c_neD hu (shap_of 1 rfl) (shap_of 1 rfl))) rfl) fun z => by cases z)) rfl)) (fun z => by cases z) fun _ => ?_)
      exact gs_cons (g1_append 1 rfl (d := rwD (1, c)) (ge_tup (ga_cons ge_int (ga_cons (gv 2) ga_nil))) (by decide) (gs_nil (gs_nil ⟨_, rfl⟩)))
    · rw [List.concat_eq_append] at hle hrl ⊢
      have hsh := sh_rws _ hrl
      have hmap : (a ++ [x]).map rwD = a.map rwD ++ [rwD x] := by rw [List.map_append]; rfl
      rw [hmap] at hsh ⊢
      have hat : atI (a.map rwD ++ [rwD x]) (-1) = some (rwD x) := atI_last _ _
      have hne : (!PyData.eqv (.list (a.map rwD ++ [rwD x])) (.list [])) = true := by cases a <;> rfl
      have hst : rowSt (a ++ [x]) c = if x.2 = c then a ++ [(x.1 + 1, c)] else (a ++ [x]) ++ [(1, c)] := by
        unfold rowSt
        rw [List.getLast?_append, List.dropLast_concat]
        rfl
      rw [hst]
      refine gs_cons (g1_if (k := decide (x.2 = c)) (gt_thaw 1 (gt_is (gt_w (gw_and (gt_cmp (gv 1) (ge_lst ga_nil) (c_neD hu hsh (shap_of 1 rfl))) fun _ => gw_and1 (gt_cmp (ge_ix (ge_ix (gv 1) (ge_neg ge_int) (x_lst hat)) ge_int (x_tup (d := .str (S [x.2])) rfl)) (gv 2) c_eqSS))) (by rw [hne, Bool.true_and]; simp))) (fun z => ?_) fun z => ?_)
      · have z := of_decide_eq_true z
        rw [if_pos z]
        refine gs_cons (g1_putL 1 rfl (d := rwD (x.1 + 1, c)) (j := (a.map rwD).length) ?_ (ge_neg ge_int) (by rw [List.length_append]; exact ixN_last _) (gs_nil (gs_nil ⟨.dat (.str (S [c])), ?_⟩)))
        · exact ge_is (ge_tup (ga_cons (ge_bin (ge_ix (ge_ixOwn 1 (ge_neg ge_int) hat) ge_int (x_tup (d := .int ((x.1 : Nat) : Int)) rfl)) ge_int b_add) (ga_cons (gv 2) ga_nil))) rfl
        · rw [set_last, List.map_append]
          rfl
      · rw [if_neg (of_decide_eq_false z)]
        refine gs_cons (g1_append 1 rfl (d := rwD (1, c)) (ge_tup (ga_cons ge_int (ga_cons (gv 2) ga_nil))) (by rw [← hmap, List.length_map]; omega) (gs_nil (gs_nil ⟨.dat (.str (S [c])), ?_⟩)))
        rw [List.map_append, List.map_append]
        rfl
  · rintro ρ1 ⟨x2, rfl⟩
    rw [List.take_length]
    obtain ⟨r1, r2⟩ := rows_le l
    generalize rowsL l = rs at r1 r2
    refine gs_freeze 1 rfl ?_
    refine gs_cons (g1_ret (ge_join (ys := rs.map wordR) (ggS [32] T.cs_BETWEEN) (ge_is (lc rs rwD (fun x => .str (S (wordR x))) (T := .tp [3, 2]) [("many", 3), ("sign", 2)] (gi_lst (gv 1)) nd (by omega) (fun _ _ _ _ _ => tg_tp (tgs_cons 3 nd (tgs_cons 2 nd tgs_nil))) fun i x hx => ⟨_, rfl, fun _ _ _ _ _ => ?_⟩) (by rw [List.map_map]; rfl)) ?_) rfl)
    · have hx60 := r2 x (List.mem_of_getElem? hx)
      refine ge_bin (ge_is (d1 := .str (S (dg x.1))) (ge_cty T.fr_str bt_str (k_strI (n := ((x.1 : Nat) : Int)) ?_) (ga_cons (gv 3) ga_nil)) (congrArg PyData.str (str_dg x.1 (by omega)))) (gv 2) (b_addS (by have := dg_len x.1; simp; omega))
      have : ((x.1 : Nat) : Int).natAbs = x.1 := by omega
      rw [this]
      have : x.1.log2 ≤ x.1 := Nat.log2_le_self x.1
      omega
    · have key : forall L : List (Nat × Nat), ((L.map wordR).map (·.length)).sum ≤ 3 * L.length := fun L => by
        induction L with
        | nil => exact Nat.le_refl _
        | cons y L ih =>
          rw [List.map_cons, List.map_cons, List.sum_cons, List.length_cons]
          have := word_len y
          omega
      have := key rs
      rw [List.length_map]
      show _ + rs.length * 1 ≤ _
      omega
end
end Lw

namespace Lw
open PySem PySem.Spec L2 Gd
def picL (r : Ru) (l : List Nat) : List Nat := (List.range l.length).map fun k => if k ∈ faultsL r l then 33 else 46
section
variable {P : Program} {w : World} {K : PySem.W.Frag} {mg : Str -> Option Value} {base : Heap}
def R_format_log : Rel := fun ds o => ∃ l, isLogL l = true ∧ ds = [.str (S l)] ∧ o = .ret (.str (S (textR (rowsL l))))
theorem can_format_log (T : Tp K mg) : Can P w K mg base 3 "format_log" R_format_log := by
  obtain ⟨fd, F⟩ := T.fn_format_log
  refine can_of F T.gl_format_log sc_format_log (fun _ _ _ _ _ _ us hl => match us, hl with | [_], _ => rfl) (by rintro ds o ⟨_, _, rfl, rfl⟩; rfl) ?_
  rintro cdv A outer s H E N ds o hr ⟨l, hl, rfl, rfl⟩ hx
  refine gs_cons (g1_expr (d := .none) (ge_call (can_check_log T) hr (ga_cons (gv 0) ga_nil) ⟨.str (S l), rfl, smol_log hl, rfl, by rw [isLog_S, hl]; rfl⟩) ?_)
  exact gs_cons (g1_ret (ge_call (can_log_text T) hr (ga_cons (gv 0) ga_nil) ⟨l, hl, rfl, rfl⟩) rfl)
theorem ints_is3 (L : List Nat) : intsD L = PyData.list ((L.map fun (i : Nat) => (i : Int)).map PyData.int) := by
  unfold intsD
  rw [List.map_map]
  rfl
def R_picture : Rel := fun ds o => ∃ r l, isRules (ruD r) = true ∧ isLogL l = true ∧ ds = [ruD r, .str (S l)] ∧ o = .ret (.list [.str (S l), .str (S (picL r l))])
theorem can_picture (T : Tp K mg) : Can P w K mg base 5 "picture" R_picture := by
  obtain ⟨fd, F⟩ := T.fn_picture
  refine can_of F T.gl_picture sc_picture (fun _ _ _ _ _ _ us hl => match us, hl with | [_, _], _ => rfl) (by rintro ds o ⟨_, _, _, _, rfl, rfl⟩; rfl) ?_
  rintro cdv A outer s H E N ds o hr ⟨r, l, h1, hl, rfl, rfl⟩ hx
  have nd := sc_picture.nd
  have h60 : l.length ≤ 60 := by
    have := hl
    unfold isLogL at this
    rw [Bool.and_eq_true, decide_eq_true_eq] at this
    omega
  refine gs_cons (g1_expr (d := .none) (ge_call (can_check_both T) hr (ga_cons (gv 0) (ga_cons (gv 1) ga_nil)) ⟨ruD r, .str (S l), rfl, rfl, smol_log hl, rfl, by unfold chk2; rw [h1, isLog_S, hl]; rfl⟩) ?_)
  refine gs_cons (g1_set 2 (d := intsD (faultsL r l)) (ge_call (can_find_faults T) hr (ga_cons (gv 0) (ga_cons (gv 1) ga_nil)) ⟨r, l, by omega, rfl, rfl⟩) ?_ nd)
  refine gs_cons (g1_ret (ge_lst (ga_cons (gv 1) (ga_cons (ge_joinC (gsS []) (ge_is (lc (List.range l.length) (fun i => .int (i : Nat)) (fun k => .str (S [if k ∈ faultsL r l then 33 else 46])) (T := .nm 3) [("slot", 3)] (gi_rng1 (n := (l.length : Nat)) T.fr_range (ga_cons (ge_lenS T.fr_len (gv 1) (by omega)) ga_nil) (by omega) (by omega)) nd (by rw [List.length_range]; omega) (fun _ _ _ _ _ => tg_nm 3 nd) fun j x hx => ⟨_, rfl, fun _ _ _ _ _ => ge_if (gt_cmp (gv 3) (ge_is (gv 2) (ints_is3 _)) c_inL) (fun h => ?_) fun h => ?_⟩) (by unfold picL; rw [List.map_map]; rfl)) (by unfold picL; rw [List.length_map, List.length_range]; omega)) ga_nil))) rfl)
  · have hm : x ∈ faultsL r l := by
      obtain ⟨y, hy, e⟩ := List.mem_map.mp (of_decide_eq_true h)
      have : y = x := by omega
      exact this ▸ hy
    rw [if_pos hm]
    exact gsS [33]
  · have hm : x ∉ faultsL r l := fun z => of_decide_eq_false h (List.mem_map.mpr ⟨x, z, rfl⟩)
    rw [if_neg hm]
    exact gsS [46]
end
end Lw

namespace Lw
open PySem PySem.Spec L2 Gd
def isDg (c : Nat) : Bool := decide (c ∈ [48, 49, 50, 51, 52, 53, 54, 55, 56, 57])
def valD (ds : List Nat) : Nat := ds.foldl (fun n c => n * 10 + (c - 48)) 0
theorem val1 : forall c, c < 58 -> 48 ≤ c -> PySem.intText? (S [c]) = some ((valD [c] : Nat) : Int) := by decide +kernel
theorem val2 : forall c, c < 58 -> 48 ≤ c -> forall d, d < 58 -> 48 ≤ d -> PySem.intText? (S [c, d]) = some ((valD [c, d] : Nat) : Int) := by decide +kernel
theorem isDg_lt {c : Nat} (h : isDg c = true) : c < 58 ∧ 48 ≤ c := by
  have := of_decide_eq_true h
  simp at this
  omega
theorem val_ok {ds : List Nat} (h1 : 1 ≤ ds.length) (h2 : ds.length ≤ 2) (h : ds.all isDg = true) : PySem.intText? (S ds) = some ((valD ds : Nat) : Int) ∧ valD ds < 100 := by
  rw [List.all_eq_true] at h
  match ds, h1, h2, h with
  | [c], _, _, h =>
    have a := isDg_lt (h c List.mem_cons_self)
    refine ⟨val1 c a.1 a.2, ?_⟩
    show 0 * 10 + (c - 48) < 100
    omega
  | [c, d], _, _, h =>
    have a := isDg_lt (h c List.mem_cons_self)
    have b := isDg_lt (h d (List.mem_cons_of_mem _ List.mem_cons_self))
    refine ⟨val2 c a.1 a.2 d b.1 b.2, ?_⟩
    show (0 * 10 + (c - 48)) * 10 + (d - 48) < 100
    omega
def okRow (w : List Nat) : Bool := decide (1 ≤ w.dropLast.length) && decide (w.dropLast.length ≤ 2) && w.dropLast.all isDg
def rrow (w : List Nat) : List Nat := if okRow w = true then List.replicate (valD w.dropLast) (w.getLastD 0) else [63]
section
variable {P : Program} {w : World} {K : PySem.W.Frag} {mg : Str -> Option Value} {base : Heap}
theorem cut_initN {α : Type} (l : List α) : cut l none (some (-1)) = l.dropLast := by
  unfold cut
  rw [HT.sIx_none, List.drop_zero, Nat.sub_zero, List.dropLast_eq_take]
  congr 1
  unfold HT.sIx
  simp
  try omega
def R_read_row : Rel := fun ds o => ∃ l, l.length ≤ 1000 ∧ ds = [.str (S l)] ∧ o = .ret (.str (S (rrow l)))
theorem can_read_row (T : Tp K mg) : Can P w K mg base 1 "read_row" R_read_row := by
  obtain ⟨fd, F⟩ := T.fn_read_row
  refine can_of F T.gl_read_row sc_read_row (fun _ _ _ _ _ _ us hl => match us, hl with | [_], _ => rfl) (by rintro ds o ⟨_, _, rfl, rfl⟩; rfl) ?_
  rintro cdv A outer s H E N ds o hr ⟨l, hl, rfl, rfl⟩ hx
  have nd := sc_read_row.nd
  have hdl : l.dropLast.length ≤ 1000 := by rw [List.length_dropLast]; omega
  refine gs_cons (g1_set 1 (d := .str (S l.dropLast)) (ge_is (ge_slS (vl := none) (vh := some (-1)) (gv 0) trivial (ge_neg ge_int) (by omega)) (by rw [cut_initN])) ?_ nd)
  have etest : (!(decide ((1 : Int) ≤ (l.dropLast.length : Nat)) && decide (((l.dropLast.length : Nat) : Int) ≤ 2)) || !(l.dropLast.all isDg)) = !okRow l := by
    unfold okRow
    have e1 : decide ((1 : Int) ≤ (l.dropLast.length : Nat)) = decide (1 ≤ l.dropLast.length) := by
      rw [Bool.eq_iff_iff, decide_eq_true_eq, decide_eq_true_eq]; omega
    have e2 : decide (((l.dropLast.length : Nat) : Int) ≤ 2) = decide (l.dropLast.length ≤ 2) := by
      rw [Bool.eq_iff_iff, decide_eq_true_eq, decide_eq_true_eq]; omega
    rw [e1, e2]
    cases decide (1 ≤ l.dropLast.length) <;> cases decide (l.dropLast.length ≤ 2) <;> cases l.dropLast.all isDg <;> rfl
  refine gs_cons (g1_if (k := !okRow l) (gt_is (gt_w (gw_or (gt_not (gt_chain ge_int (th_link (ge_lenS T.fr_len (gv 1) (by omega)) c_le fun _ => th_last (gg_int T.ci_MAX_DIGITS) c_le))) fun _ => gw_or1 (gt_not (gt_val (ge_cb T.fr_all bt_all (k_allF l.dropLast isDg rfl) (ga_cons (lc l.dropLast (fun c => .str (S [c])) (fun c => .bool (isDg c)) [("sign", 2)] (gi_str (gv 1)) nd (by omega) (fun _ _ _ _ _ => tg_nm 2 nd) fun i x hx => ⟨_, rfl, fun _ _ _ _ _ => ge_cmp (gv 2) (ggS [48, 49, 50, 51, 52, 53, 54, 55, 56, 57] T.cs_DIGITS) c_in1⟩) ga_nil)))))) etest) (fun h => ?_) fun h => gs_nil ?_)
  · have e : okRow l = false := by simpa using h
    refine gs_cons (g1_ret (gsS [63]) ?_)
    unfold rrow
    rw [e]
    rfl
  · have e : okRow l = true := by simpa using h
    have e' := e
    unfold okRow at e'
    rw [Bool.and_eq_true, Bool.and_eq_true, decide_eq_true_eq, decide_eq_true_eq] at e'
    obtain ⟨v1, v2⟩ := val_ok e'.1.1 e'.1.2 e'.2
    rcases List.eq_nil_or_concat l with rfl | ⟨a, c, rfl⟩
    · have := e'.1.1
      simp at this
    · rw [List.concat_eq_append] at *
      have hc : atI (a ++ [c]) (-1) = some c := atI_last _ _
      refine gs_cons (g1_ret (ge_bin (ge_ix (gv 0) (ge_neg ge_int) (x_str (by omega) hc)) (ge_cty T.fr_int bt_int (k_intS v1 (by rw [S_len]; omega)) (ga_cons (gv 1) ga_nil)) (b_mulS (by rw [Int.toNat_natCast]; show 1 * _ ≤ 100000; omega) (by omega) (by omega))) ?_)
      unfold rrow
      rw [e, if_pos rfl, Int.toNat_natCast, show (a ++ [c]).getLastD 0 = c by simp]
      rw [show (List.replicate (valD (a ++ [c]).dropLast) [c]).flatten = List.replicate (valD (a ++ [c]).dropLast) c from rep_flat _ _]
      rfl
end
end Lw

namespace Lw
open PySem PySem.Spec L2 Gd
/-! ### reading the short format -/
def prsL (t : List Nat) : List Nat := if t = [] then [] else ((TL.spl [32] 0 [] t).map rrow).flatten
def prsOk (t : List Nat) : Bool := isLogL (prsL t) && decide (textR (rowsL (prsL t)) = t)
theorem joinL_eq : forall ys : List (List Nat), joinL [32] ys = TL.joinL [32] ys
  | [] => rfl
  | [_] => rfl
  | x :: y :: r => by
    show x ++ [32] ++ joinL [32] (y :: r) = x ++ ([32] ++ TL.joinL [32] (y :: r))
    rw [joinL_eq (y :: r), List.append_assoc]
theorem dg_all : forall n, n < 61 -> (dg n).all isDg = true ∧ 1 ≤ (dg n).length ∧ valD (dg n) = n ∧ 32 ∉ dg n := by decide +kernel
theorem rrow_word {n c : Nat} (h : n < 61) : rrow (wordR (n, c)) = List.replicate n c := by
  obtain ⟨h1, h2, h3, _⟩ := dg_all n h
  have hd : (wordR (n, c)).dropLast = dg n := by
    show (dg n ++ [c]).dropLast = dg n
    rw [List.dropLast_concat]
  have hl : (wordR (n, c)).getLastD 0 = c := by
    show (dg n ++ [c]).getLastD 0 = c
    simp
  have ok : okRow (wordR (n, c)) = true := by
    unfold okRow
    rw [hd, h1, decide_eq_true h2, decide_eq_true (dg_len n)]
    rfl
  unfold rrow
  rw [if_pos ok, hd, hl, h3]
theorem joinL_nil {ys : List (List Nat)} (h : joinL [32] ys = []) (hn : forall y, y ∈ ys -> y ≠ []) : ys = [] := by
  match ys, h with
  | [], _ => rfl
  | [x], h => exact absurd h (hn x List.mem_cons_self)
  | x :: y :: r, h =>
    have : x ++ [32] ++ joinL [32] (y :: r) = [] := h
    simp at this
theorem prsL_text {l : List Nat} (h : isLogL l = true) : prsL (textR (rowsL l)) = l := by
  have hlen : l.length ≤ 60 := by
    unfold isLogL at h
    rw [Bool.and_eq_true, decide_eq_true_eq] at h
    omega
  have hsg : forall c, c ∈ l -> c ≠ 32 := fun c hc => by
    unfold isLogL at h
    rw [Bool.and_eq_true, List.all_eq_true] at h
    have := h.2 c hc
    simp [isSg] at this
    omega
  obtain ⟨r1, r2⟩ := rows_le l
  have rp := rows_pos l
  have hu := unrow_rows l
  generalize rowsL l = rs at r1 r2 rp hu
  have hne : forall y, y ∈ rs.map wordR -> y ≠ [] := fun y hy z => by
    obtain ⟨x, _, rfl⟩ := List.mem_map.mp hy
    unfold wordR at z
    simp at z
  unfold prsL
  by_cases ht : textR rs = []
  · rw [if_pos ht]
    have := joinL_nil ht hne
    have : rs = [] := List.map_eq_nil_iff.mp this
    subst this
    exact hu
  · rw [if_neg ht]
    have hne2 : rs.map wordR ≠ [] := fun z => ht (by unfold textR; rw [z]; rfl)
    have e : TL.spl [32] 0 [] (textR rs) = rs.map wordR := by
      unfold textR
      rw [joinL_eq]
      refine TL.spl_join hne2 fun p hp => ?_
      obtain ⟨x, hx, rfl⟩ := List.mem_map.mp hp
      intro hz
      rcases List.mem_append.mp (show 32 ∈ dg x.1 ++ [x.2] from hz) with q | q
      · exact (dg_all x.1 (by have := r2 x hx; omega)).2.2.2 q
      · exact hsg x.2 (rp x hx).2 (List.mem_singleton.mp q).symm
    rw [e, List.map_map]
    have e2 : rs.map (rrow ∘ wordR) = rs.map fun x => List.replicate x.1 x.2 := List.map_congr_left fun x hx => rrow_word (n := x.1) (c := x.2) (by have := r2 x hx; omega)
    rw [e2, ← hu]
    unfold unrow
    rw [List.flatMap_def]
theorem prs_text {l : List Nat} (h : isLogL l = true) : prsOk (textR (rowsL l)) = true := by
  unfold prsOk
  rw [prsL_text h, h, decide_eq_true rfl]
  rfl
theorem text_len (l : List Nat) : (textR (rowsL l)).length ≤ 4 * l.length := by
  have key : forall rs : List (Nat × Nat), (textR rs).length ≤ 4 * rs.length := fun rs => by
    have : forall ys : List (List Nat), (forall y, y ∈ ys -> y.length ≤ 3) -> (joinL [32] ys).length ≤ 4 * ys.length := fun ys => by
      induction ys with
      | nil => exact fun _ => Nat.le_refl _
      | cons x r ih =>
        intro h
        have hx := h x List.mem_cons_self
        cases r with
        | nil =>
          show x.length ≤ 4 * 1
          omega
        | cons y r =>
          have := ih fun z hz => h z (List.mem_cons_of_mem _ hz)
          show (x ++ [32] ++ joinL [32] (y :: r)).length ≤ _
          rw [List.length_append, List.length_append]
          simp only [List.length_cons, List.length_nil] at this ⊢
          omega
    have h2 := this (rs.map wordR) fun y hy => by
      obtain ⟨x, _, rfl⟩ := List.mem_map.mp hy
      exact word_len x
    rw [List.length_map] at h2
    exact h2
  have := key (rowsL l)
  have := (rows_le l).1
  omega
section
variable {X : Cx} {a b : Expr} {ρ : Rho} {pos : Pos}
theorem ge_split {apos : Pos} {t : List Nat} (ha : GE X a ρ (.str (S t))) (hb : GE X b ρ (.str (S [32]))) (hz : t.length ≤ 1000) (hs : starEach [b] X.env = [(false, eval b X.env)] := by rfl) (hbase : attributeBase a "split" X.env (eval a X.env) = eval a X.env := by rfl) (hline : (apos.endLine == pos.line) = true := by rfl) :
    GE X (.Call (.Attribute a "split" apos) [b] [] pos) ρ (.list ((TL.spl [32] 0 [] t).map fun y => .str (S y))) :=
  ge_m1 PySem.F.slot_str_split PySem.F.type_str_split mt_split ha hb (fun v G H Q gh dv q => by
    cases dv
    refine ⟨S t, S [32], rfl, rfl, rfl, ?_, fun p hp => ?_⟩
    · rw [S_len]
      exact Nat.le_trans (by omega : t.length + 2 ≤ 1002) (by decide)
    · have e : Txt.split (S t) (S [32]) = (TL.spl [32] 0 [] t).map S := SX.split_S (a := t) (b := [32]) (by decide) (by decide)
      rw [e]
      refine q _ _ _ (.new gh hp) (.lst upd_same ?_)
      have : forall ys : List (List Nat), DqAll X.K (upd G p (.lst (((TL.spl [32] 0 [] t).map S).map V.str))) ((ys.map S).map V.str) (ys.map fun y => .str (S y)) := fun ys => by
        induction ys with
        | nil => exact .nil
        | cons y ys ih => exact .cons (.str _) ih
      exact this _) hs hbase hline
end
theorem spl_small (t : List Nat) : (TL.spl [32] 0 [] t).length ≤ t.length + 1 ∧ forall y, y ∈ TL.spl [32] 0 [] t -> y.length ≤ t.length := by
  have key : forall (t acc : List Nat), (TL.spl [32] 0 acc t).length ≤ t.length + 1 ∧ forall y, y ∈ TL.spl [32] 0 acc t -> y.length ≤ acc.length + t.length := fun t => by
    induction t with
    | nil =>
      intro acc
      rw [TL.spl_nil]
      exact ⟨Nat.le_refl _, fun y hy => by rw [List.mem_singleton.mp hy]; exact Nat.le_refl _⟩
    | cons c r ih =>
      intro acc
      unfold TL.spl
      split
      · obtain ⟨h1, h2⟩ := ih []
        refine ⟨by simp only [List.length_cons]; show (TL.spl [32] 0 [] r).length + 1 ≤ _; omega, fun y hy => ?_⟩
        rcases List.mem_cons.mp hy with rfl | hy
        · omega
        · have := h2 y hy
          simp only [List.length_cons, List.length_nil] at this ⊢
          omega
      · obtain ⟨h1, h2⟩ := ih (acc ++ [c])
        refine ⟨by simp only [List.length_cons]; omega, fun y hy => ?_⟩
        have := h2 y hy
        simp only [List.length_append, List.length_cons, List.length_nil] at this ⊢
        omega
  obtain ⟨h1, h2⟩ := key t []
  exact ⟨h1, fun y hy => by have := h2 y hy; simpa using this⟩
theorem joinL_nils : forall ys : List (List Nat), joinL [] ys = ys.flatten
  | [] => rfl
  | [x] => by simp [joinL]
  | x :: y :: r => by
    show x ++ [] ++ joinL [] (y :: r) = _
    rw [joinL_nils (y :: r), List.append_nil]
    rfl
section
variable {P : Program} {w : World} {K : PySem.W.Frag} {mg : Str -> Option Value} {base : Heap}
theorem sum_flat : forall ys : List (List Nat), (ys.map (·.length)).sum = ys.flatten.length
  | [] => rfl
  | x :: ys => by rw [List.map_cons, List.sum_cons, sum_flat ys, List.flatten_cons, List.length_append]
def R_parse_log (K : PySem.W.Frag) : Rel := fun ds o =>
  (∃ t, t.length ≤ 1000 ∧ (prsL t).length ≤ 1000 ∧ ds = [.str (S t)] ∧ o = if prsOk t = true then .ret (.str (S (prsL t))) else .exc (He.ga K "ParseError")) ∨ ∃ d, noDict d = true ∧ isiB d "str" = false ∧ ds = [d] ∧ o = .exc (He.ga K "ParseError")
theorem can_parse_log (T : Tp K mg) : Can P w K mg base 3 "parse_log" (R_parse_log K) := by
  obtain ⟨fd, F⟩ := T.fn_parse_log
  refine can_of F T.gl_parse_log sc_parse_log (fun _ _ _ _ _ _ us hl => match us, hl with | [_], _ => rfl) (by rintro ds o (⟨_, _, _, rfl, rfl⟩ | ⟨_, _, _, rfl, rfl⟩) <;> rfl) ?_
  rintro cdv A outer s H E N ds o hr (⟨t, ht, hp, rfl, rfl⟩ | ⟨d, hd, hs, rfl, rfl⟩) hx
  · have nd := sc_parse_log.nd
    refine gs_cons (g1_if (k := false) (gt_is (gt_not (gt_val (ge_isS T.fr_isinstance T.fr_str (gv 0) rfl))) rfl) (fun z => by cases z) fun _ => gs_nil ?_)
    have hlog : GE (cxD P w K mg base n_parse_log "parse_log" s_parse_log (He.ga K "parse_log") cdv A outer s H E) (match (defBody s_parse_log) with | _ :: .Assign _ e _ :: _ => e | _ => .Constant .none 0 ⟨0, 0, 0, 0⟩) [.dat (.str (S t)), .any, .any] (.str (S (prsL t))) := by
      refine ge_if (gt_cmp (gv 0) (gsS []) c_neSS) (fun z => ?_) fun z => ?_
      · have hne : t ≠ [] := by simpa using z
        obtain ⟨w1, w2⟩ := spl_small t
        have e : prsL t = joinL [] ((TL.spl [32] 0 [] t).map rrow) := by
          unfold prsL
          rw [if_neg hne, joinL_nils]
        have hp' := hp
        unfold prsL at hp'
        rw [if_neg hne] at hp'
        rw [e]
        refine ge_join (sep := []) (ys := (TL.spl [32] 0 [] t).map rrow) (gsS []) (ge_is (lc (TL.spl [32] 0 [] t) (fun y => .str (S y)) (fun y => .str (S (rrow y))) (T := .nm 2) [("word", 2)] (gi_lst (ge_split (gv 0) (ggS [32] T.cs_BETWEEN) ht)) nd (by omega) (fun _ _ _ _ _ => tg_nm 2 nd) fun i y hy => ⟨_, rfl, fun _ _ _ _ _ => ge_call (can_read_row T) hr (ga_cons (gv 2) ga_nil) ⟨y, by have := w2 y (List.mem_of_getElem? hy); omega, rfl, rfl⟩⟩) (by rw [List.map_map]; rfl)) ?_
        rw [sum_flat]
        simp only [List.length_nil, Nat.mul_zero]
        omega
      · have he : t = [] := by simpa using z
        subst he
        exact gsS []
    refine gs_cons (g1_set 1 hlog ?_ nd)
    have hsm : smol (.str (S (prsL t))) = true := decide_eq_true (by rw [S_len]; exact hp)
    refine gs_cons (g1_if (k := !prsOk t) (gt_is (gt_w (gw_or (gt_not (gt_val (ge_call (can_is_log T) hr (ga_cons (gv 1) ga_nil) ⟨_, rfl, hsm, rfl, rfl⟩))) fun z => gw_or1 (c := !decide (textR (rowsL (prsL t)) = t)) (gt_cmp (ge_call (can_log_text T) hr (ga_cons (gv 1) ga_nil) ⟨prsL t, by rw [isLog_S] at z; simpa using z, rfl, rfl⟩) (gv 0) c_neSS))) (by rw [isLog_S]; unfold prsOk; cases isLogL (prsL t) <;> simp)) (fun z => ?_) fun z => gs_nil ?_)
    · have e : prsOk t = false := by simpa using z
      rw [e] at hx ⊢
      exact gs_cons (g1_raise T.ex_ParseError (hx _ rfl) trivial)
    · have e : prsOk t = true := by simpa using z
      rw [e, if_pos rfl]
      exact gs_cons (g1_ret (gv 1) rfl)
  · refine gs_cons (g1_if (k := true) (gt_is (gt_not (gt_val (ge_isS T.fr_isinstance T.fr_str (gv 0) hd))) (by rw [hs]; rfl)) (fun _ => gs_cons (g1_raise T.ex_ParseError (hx _ rfl) trivial)) fun z => by cases z)
end
end Lw

namespace Lw
open PySem PySem.Spec L2 Gd
/-! ### faults behind a log -/
theorem badAt_snoc (r : Ru) (l : List Nat) (c : Nat) : badAt r (l ++ [c]) l.length = !okNext r (after r l) c := by
  unfold badAt okNext
  have e1 : (l ++ [c])[l.length]? = some c := by simp
  have e2 : (l ++ [c]).take (l.length + 1) = l ++ [c] := List.take_of_length_le (by simp)
  rw [e1, e2, after_snoc]
  cases h : decide (c = 68) <;> simp_all
theorem faults_snoc (r : Ru) (l : List Nat) (c : Nat) : faultsL r (l ++ [c]) = faultsL r l ++ (if okNext r (after r l) c = true then [] else [l.length]) := by
  unfold faultsL
  rw [List.length_append, List.length_singleton, List.range_succ, List.filter_append]
  congr 1
  · refine List.filter_congr fun i hi => ?_
    have hi := List.mem_range.mp hi
    rw [← badAt_take (l := l ++ [c]) hi, List.take_left]
  · have e := badAt_snoc r l c
    rw [List.filter_cons, e]
    cases okNext r (after r l) c <;> rfl
theorem okNext_drive {r : Ru} (v : VR r) (l : List Nat) (n : Nat) : okNext r (after r (l ++ List.replicate n 68)) 68 = decide ((n : Int) < leftOf r (after r l)) := by
  have h := brk_drive v l n
  rw [brk_is v] at h
  have h2 : okNext r (after r (l ++ List.replicate n 68)) 68 = !decide (leftOf r (after r l) ≤ (n : Int)) := by rw [← h, Bool.not_not]
  rw [h2, Bool.eq_iff_iff]
  simp
theorem faults_drives {r : Ru} (v : VR r) (l : List Nat) : forall n : Nat, (n : Int) ≤ leftOf r (after r l) -> faultsL r (l ++ List.replicate n 68) = faultsL r l
  | 0, _ => by rw [List.replicate_zero, List.append_nil]
  | n + 1, h => by
    rw [rep_snoc, ← List.append_assoc, faults_snoc, okNext_drive v, decide_eq_true (by omega), if_pos rfl, List.append_nil]
    exact faults_drives v l n (by omega)
theorem faults_break {r : Ru} (v : VR r) (l : List Nat) {n : Nat} (h : (n : Int) = leftOf r (after r l)) : faultsL r (l ++ List.replicate (n + 1) 68) = faultsL r l ++ [l.length + n] := by
  rw [rep_snoc, ← List.append_assoc, faults_snoc, okNext_drive v, decide_eq_false (by omega), if_neg (by decide), faults_drives v l n (by omega), List.length_append, List.length_replicate]
/-! ### how much rest is needed -/
theorem can_is (r : Ru) (q : Sq) : canDrive r q = (decide (q.st < r.st) && decide (q.da < r.da)) := by
  unfold canDrive isOver
  have s := st_drive r q
  rw [s.1, s.2, Bool.eq_iff_iff]
  simp
  omega
theorem need_zero {r : Ru} (v : VR r) {q : Sq} (h : 0 ≤ q.ru) : decide (((needN r q : Nat) : Int) = 0) = canDrive r q := by
  obtain ⟨a, b, c⟩ := need_ok v h
  by_cases hz : needN r q = 0
  · rw [hz] at a ⊢
    have a : canDrive r q = true := a
    rw [a]
    rfl
  · have := c 0 (by omega)
    have : canDrive r q = false := this
    rw [this, decide_eq_false (by omega)]
theorem need_unique {r : Ru} (v : VR r) {q : Sq} (h : 0 ≤ q.ru) {n : Nat} (h1 : canDrive r (rests r q n) = true) (h2 : forall j, j < n -> canDrive r (rests r q j) = false) : needN r q = n := by
  obtain ⟨a, b, c⟩ := need_ok v h
  by_cases x : needN r q < n
  · rw [h2 _ x] at a; cases a
  · by_cases y : n < needN r q
    · rw [c _ y] at h1; cases h1
    · omega
theorem need_le {r : Ru} (v : VR r) {q : Sq} (h : 0 ≤ q.ru) : ((needN r q : Nat) : Int) ≤ r.ni := by
  obtain ⟨a, b, c⟩ := need_ok v h
  have n1 := v.n1
  have p1 := v.p1
  by_cases x : r.ni.toNat < needN r q
  · have := c _ x
    rw [can_after_night v h] at this
    cases this
  · omega
theorem need_night {r : Ru} (v : VR r) {q : Sq} (h : q.ru = 0) (hd : r.da ≤ q.da) : ((needN r q : Nat) : Int) = r.ni := by
  have n1 := v.n1
  have p1 := v.p1
  have e : needN r q = r.ni.toNat := need_unique v (by omega) (can_after_night v (by omega)) fun j hj => by
    rw [can_is, rests_da v h j (by omega), decide_eq_false (show ¬ q.da < r.da by omega), Bool.and_false]
  rw [e]
  omega
/-- the slots of rest that end a stint -/
def pauseOf (r : Ru) (q : Sq) : Int := if q.mar = true then r.pa - r.sp else r.pa
theorem rests_keep {r : Ru} (v : VR r) {q : Sq} (h : q.ru = 0) (hm : q.mar = true -> 0 < r.sp) : forall n : Nat, (n : Int) < pauseOf r q -> (rests r q n).st = q.st ∧ (rests r q n).mar = q.mar
  | 0, _ => ⟨rfl, rfl⟩
  | n + 1, hn => by
    have ih := rests_keep v h hm n (by omega)
    have e := rests_ru v h (n + 1)
    have n1 := v.n1
    have q1 := v.q1
    have hp : pauseOf r q ≤ r.pa := by unfold pauseOf; split <;> omega
    rw [if_neg (by omega)] at e
    have e' : (restOnce r (rests r q n)).ru = ((n + 1 : Nat) : Int) := e
    have b2 : decide (r.pa ≤ (restOnce r (rests r q n)).ru) = false := decide_eq_false (by rw [e']; omega)
    have b1 : (decide (0 < r.sp) && ((rests r q n).mar && decide (r.pa - r.sp ≤ (restOnce r (rests r q n)).ru))) = false := by
      rw [ih.2, e']
      cases hmm : q.mar with
      | false => simp
      | true =>
        unfold pauseOf at hn
        rw [hmm, if_pos rfl] at hn
        rw [decide_eq_false (show ¬ r.pa - r.sp ≤ ((n + 1 : Nat) : Int) by omega)]
        simp
    refine ⟨?_, ?_⟩
    · show (restOnce r (rests r q n)).st = _
      rw [rest_st, b2, b1]
      exact ih.1
    · show (restOnce r (rests r q n)).mar = _
      rw [rest_mar, b2, b1]
      exact ih.2
theorem rests_pauseOf {r : Ru} (v : VR r) {q : Sq} (h : q.ru = 0) (hm : q.mar = true -> 0 < r.sp) {n : Nat} (hn : (n : Int) = pauseOf r q) : (rests r q n).st = 0 := by
  cases hmm : q.mar with
  | false =>
    unfold pauseOf at hn
    rw [hmm, if_neg Bool.false_ne_true] at hn
    exact (rests_pause v h (by omega)).1
  | true =>
    have hs := hm hmm
    have q2 := v.q2
    have n1 := v.n1
    have hp : pauseOf r q = r.pa - r.sp := by unfold pauseOf; rw [hmm, if_pos rfl]
    cases n with
    | zero => omega
    | succ n =>
      have ih := rests_keep v h hm n (by omega)
      have e := rests_ru v h (n + 1)
      rw [if_neg (by omega)] at e
      have e' : (restOnce r (rests r q n)).ru = ((n + 1 : Nat) : Int) := e
      show (restOnce r (rests r q n)).st = 0
      have b1 : (decide (0 < r.sp) && ((rests r q n).mar && decide (r.pa - r.sp ≤ (restOnce r (rests r q n)).ru))) = true := by
        rw [ih.2, hmm, e', decide_eq_true hs, decide_eq_true (show r.pa - r.sp ≤ ((n + 1 : Nat) : Int) by omega)]
        rfl
      rw [rest_st, b1]
      split <;> rfl
theorem rests_da_le {r : Ru} {q : Sq} (h : 0 ≤ q.da) : forall n : Nat, (rests r q n).da ≤ q.da
  | 0 => Int.le_refl _
  | n + 1 => by
    have ih := rests_da_le (r := r) h n
    show (restOnce r (rests r q n)).da ≤ _
    rw [rest_da]
    split <;> omega
theorem need_pause {r : Ru} (v : VR r) {q : Sq} (sa : Sane r q) (h : q.ru = 0) (hm : q.mar = true -> 0 < r.sp) (hd : q.da < r.da) (hs : r.st ≤ q.st) : ((needN r q : Nat) : Int) = pauseOf r q := by
  have p1 := v.p1
  have q2 := v.q2
  have s1 := v.s1
  have hp : 0 < pauseOf r q := by unfold pauseOf; split <;> omega
  have e : needN r q = (pauseOf r q).toNat := need_unique v (by omega) (by
      rw [can_is, rests_pauseOf v h hm (by omega), decide_eq_true (show (0 : Int) < r.st by omega)]
      have := rests_da_le (r := r) sa.da (pauseOf r q).toNat
      rw [decide_eq_true (by omega)]
      rfl) fun j hj => by
    rw [can_is, (rests_keep v h hm j (by omega)).1, decide_eq_false (show ¬ q.st < r.st by omega)]
    rfl
  rw [e]
  omega
theorem left_fresh {r : Ru} (v : VR r) {q : Sq} (h1 : q.st = 0) (h2 : q.da = 0) : leftOf r q = r.st := by
  have s1 := v.s1
  have d1 := v.d1
  unfold leftOf
  rw [h1, h2]
  split <;> split <;> omega
/-- a log that does not end in rest -/
theorem ru_end {r : Ru} {l : List Nat} (h : cut l (some (-1)) none ≠ [82]) : (after r l).ru = 0 := by
  rcases List.eq_nil_or_concat l with rfl | ⟨m, c, rfl⟩
  · rfl
  · rw [List.concat_eq_append] at h ⊢
    rw [cut_last] at h
    rw [after_snoc]
    exact ru_other fun z => h (by rw [z])
theorem mar_sp {r : Ru} (v : VR r) (l : List Nat) : (after r l).mar = true -> 0 < r.sp := fun h => by
  have q1 := v.q1
  by_cases hs : r.sp = 0
  · rw [mar_after hs] at h; cases h
  · omega
/-! ### counts -/
theorem nextS_len (r : Ru) (q : Sq) : 2 ≤ (nextS r q).length ∧ (nextS r q).length ≤ 3 := by
  unfold nextS signs3
  have h1 : okNext r q 82 = true := rfl
  have h2 : okNext r q 87 = true := rfl
  rw [List.filter_cons, List.filter_cons, List.filter_cons, h1, h2]
  cases okNext r q 68 <;> simp
theorem cnt_one (r : Ru) (q : Sq) : cnt r 1 q = (nextS r q).length := by
  show ((nextS r q).map fun c => (1 : Int)).sum = _
  exact sum_ones _
theorem sum_bounds {α : Type} {f : α -> Int} {a b : Int} : forall {L : List α}, (forall x, x ∈ L -> a ≤ f x ∧ f x ≤ b) -> a * L.length ≤ (L.map f).sum ∧ (L.map f).sum ≤ b * L.length
  | [], _ => by simp
  | x :: L, h => by
    have h1 := h x List.mem_cons_self
    have ih := sum_bounds (L := L) fun y hy => h y (List.mem_cons_of_mem _ hy)
    rw [List.map_cons, List.sum_cons, List.length_cons]
    have e1 : forall c : Int, c * ((L.length + 1 : Nat) : Int) = c * (L.length : Int) + c := fun c => by
      rw [Int.natCast_add, Int.mul_add]; omega
    rw [e1, e1]
    omega
theorem cnt_grow (r : Ru) (n : Nat) : 2 * cnt r n start0 ≤ cnt r (n + 1) start0 ∧ cnt r (n + 1) start0 ≤ 3 * cnt r n start0 := by
  rw [← lawL_cnt r n, ← lawL_sum r n 1]
  refine sum_bounds fun l _ => ?_
  rw [cnt_one]
  have := nextS_len r (after r l)
  omega
theorem cnt_nonneg (r : Ru) : forall n q, 0 ≤ cnt r n q
  | 0, _ => by show (0 : Int) ≤ 1; decide
  | n + 1, q => by
    have : forall L : List Nat, 0 ≤ (L.map fun c => cnt r n (stepF r q c)).sum := fun L => by
      induction L with
      | nil => simp
      | cons c L ih =>
        rw [List.map_cons, List.sum_cons]
        have := cnt_nonneg r n (stepF r q c)
        omega
    exact this _
theorem cnt_succ (r : Ru) (n : Nat) (q : Sq) : cnt r (n + 1) q = (if okNext r q 68 = true then cnt r n (stepF r q 68) else 0) + cnt r n (stepF r q 82) + cnt r n (stepF r q 87) := by
  show ((nextS r q).map fun c => cnt r n (stepF r q c)).sum = _
  unfold nextS signs3
  have h1 : okNext r q 82 = true := rfl
  have h2 : okNext r q 87 = true := rfl
  rw [List.filter_cons, List.filter_cons, List.filter_cons, h1, h2]
  cases okNext r q 68 <;> simp <;> omega
theorem okDrive (r : Ru) (q : Sq) : okNext r q 68 = (decide (q.st < r.st) && decide (q.da < r.da)) := by
  rw [← can_is]
  rfl
theorem cnt_all (r : Ru) : forall (n : Nat) (q : Sq), 0 ≤ q.st -> 0 ≤ q.da -> q.st + n ≤ r.st -> q.da + n ≤ r.da -> cnt r n q = 3 ^ n
  | 0, _, _, _, _, _ => rfl
  | n + 1, q, a, b, h1, h2 => by
    have s := st_drive r q
    have o1 := st_other (r := r) (s := q) (c := 82) (by decide)
    have o2 := st_other (r := r) (s := q) (c := 87) (by decide)
    rw [cnt_succ, okDrive, decide_eq_true (by omega), decide_eq_true (by omega), cnt_all r n (stepF r q 68) (by omega) (by omega) (by omega) (by omega), cnt_all r n (stepF r q 82) (by omega) (by omega) (by omega) (by omega), cnt_all r n (stepF r q 87) (by omega) (by omega) (by omega) (by omega), Int.pow_succ]
    simp
    omega
theorem cnt_most {r : Ru} (v : VR r) : forall (n : Nat) (q : Sq), 0 ≤ q.st -> q.da = q.st -> q.st + (n + 1 : Nat) = r.st + 1 -> cnt r (n + 1) q = 3 ^ (n + 1) - 1
  | 0, q, a, b, h => by
    rw [cnt_succ, okDrive, decide_eq_false (show ¬ q.st < r.st by omega)]
    rfl
  | n + 1, q, a, b, h => by
    have d1 := v.d1
    have s := st_drive r q
    have o1 := st_other (r := r) (s := q) (c := 82) (by decide)
    have o2 := st_other (r := r) (s := q) (c := 87) (by decide)
    rw [cnt_succ, okDrive, decide_eq_true (by omega), decide_eq_true (by omega), cnt_most v n (stepF r q 68) (by omega) (by omega) (by omega), cnt_all r (n + 1) (stepF r q 82) (by omega) (by omega) (by omega) (by omega), cnt_all r (n + 1) (stepF r q 87) (by omega) (by omega) (by omega) (by omega), Int.pow_succ 3 (n + 1)]
    simp
    omega
/-- without split pauses there are no more lawful logs -/
def plainR (r : Ru) : Ru := { r with sp := 0 }
theorem plain_vr {r : Ru} (v : VR r) : VR (plainR r) := ⟨v.s1, v.s2, v.p1, v.p2, v.d1, v.d2, v.n1, v.n2, Int.le_refl 0, by have := v.p1; show (0 : Int) ≤ r.pa - 1; omega⟩
structure PlainB (r : Ru) (q q0 : Sq) : Prop where
  st : q.st ≤ q0.st
  nn : 0 ≤ q0.st
  da : q.da = q0.da
  ru : q.ru = q0.ru
theorem plainB_step {r : Ru} {q q0 : Sq} (h : PlainB r q q0) (c : Nat) : PlainB r (stepF r q c) (stepF (plainR r) q0 c) := by
  obtain ⟨a, n, b, e⟩ := h
  unfold stepF
  split
  · have hru : (restOnce r q).ru = (restOnce (plainR r) q0).ru := by
      rw [restOnce_ru, restOnce_ru, e]
      rfl
    have h0 : (restOnce (plainR r) q0).st = if decide (r.pa ≤ (restOnce r q).ru) = true then 0 else q0.st := by
      rw [rest_st, hru]
      have : (decide (0 < (plainR r).sp) && (q0.mar && decide ((plainR r).pa - (plainR r).sp ≤ (restOnce (plainR r) q0).ru))) = false := rfl
      rw [this]
      rfl
    refine ⟨?_, ?_, ?_, hru⟩
    · rw [h0, rest_st]
      split
      · omega
      · split <;> omega
    · rw [h0]
      split <;> omega
    · rw [rest_da, rest_da, hru, b]
      rfl
  · split
    · exact ⟨by show q.st + 1 ≤ q0.st + 1; omega, by show 0 ≤ q0.st + 1; omega, by show q.da + 1 = q0.da + 1; omega, rfl⟩
    · exact ⟨a, n, b, rfl⟩
theorem cnt_plain {r : Ru} : forall (n : Nat) (q q0 : Sq), PlainB r q q0 -> cnt (plainR r) n q0 ≤ cnt r n q
  | 0, _, _, _ => Int.le_refl _
  | n + 1, q, q0, h => by
    rw [cnt_succ, cnt_succ]
    have a := cnt_plain n _ _ (plainB_step h 68)
    have b := cnt_plain n _ _ (plainB_step h 82)
    have c := cnt_plain n _ _ (plainB_step h 87)
    have z := cnt_nonneg r n (stepF r q 68)
    rw [okDrive, okDrive]
    have e1 := h.st
    have e2 := h.da
    have e3 : (plainR r).st = r.st := rfl
    have e4 : (plainR r).da = r.da := rfl
    rw [e3, e4, e2]
    by_cases c1 : q0.st < r.st
    · rw [decide_eq_true c1, decide_eq_true (show q.st < r.st by omega)]
      cases decide (q0.da < r.da) <;> simp <;> omega
    · rw [decide_eq_false c1]
      simp only [Bool.false_and]
      cases (decide (q.st < r.st) && decide (q0.da < r.da)) <;> simp <;> omega
end Lw

namespace Lw
open PySem PySem.Spec L2 Gd
/-! ### _law_pick -/
def pwh : Nat -> Int -> Int
  | 0, rest => rest
  | t + 1, rest => if 0 < rest then pwh t (rest / 840) else rest
def cellP (ns : List Int) (k : Int) : Int := if ns.isEmpty = true then 0 else cellAt ns k
def divP (ns : List Int) : Int := if 1 > (ns.length : Int) then 1 else ns.length
def mixP (cell k many : Int) : Int :=
  let c := (cell * 31 + 6151 * (k + 1)) * 40692 % 2147483399
  (c * c + c / 31) % 2147483629 % many
def pick (ns : List Int) (k many : Int) : Int :=
  if 0 < pwh (k / divP ns).toNat (cellP ns k / 10 ^ 18) then pwh (k / divP ns).toNat (cellP ns k / 10 ^ 18) % 840 % many else mixP (cellP ns k) k many
theorem pick_range (ns : List Int) (k many : Int) (h : 0 < many) : 0 ≤ pick ns k many ∧ pick ns k many < many := by
  unfold pick mixP
  split
  · exact ⟨Int.emod_nonneg _ (by omega), Int.emod_lt_of_pos _ h⟩
  · exact ⟨Int.emod_nonneg _ (by omega), Int.emod_lt_of_pos _ h⟩
def lawForm (ns : List Int) (at_ most : Int) : Ru :=
  { st := 1 + pick ns at_ most
    pa := 1 + pick ns (at_ + 1) 3
    da := 1 + pick ns at_ most + pick ns (at_ + 2) 4
    ni := 1 + pick ns (at_ + 1) 3 + pick ns (at_ + 3) 3
    sp := pick ns (at_ + 4) (1 + pick ns (at_ + 1) 3) }
theorem lawForm_vr (ns : List Int) (at_ most : Int) (h1 : 1 ≤ most) (h6 : most ≤ 6) : VR (lawForm ns at_ most) := by
  have a := pick_range ns at_ most (by omega)
  have b := pick_range ns (at_ + 1) 3 (by decide)
  have c := pick_range ns (at_ + 2) 4 (by decide)
  have d := pick_range ns (at_ + 3) 3 (by decide)
  have e := pick_range ns (at_ + 4) (1 + pick ns (at_ + 1) 3) (by omega)
  unfold lawForm
  constructor <;> dsimp only <;> omega
/-- a drawn log: the signs of "DDRDRW" -/
def sg6 (n : Int) : Nat := [68, 68, 82, 68, 82, 87].getD n.toNat 68
theorem sg6_sg {n : Int} (h0 : 0 ≤ n) (h : n < 6) : isSg (sg6 n) = true ∧ ([68, 68, 82, 68, 82, 87] : List Nat)[n.toNat]? = some (sg6 n) := by
  have : n = 0 ∨ n = 1 ∨ n = 2 ∨ n = 3 ∨ n = 4 ∨ n = 5 := by omega
  rcases this with rfl | rfl | rfl | rfl | rfl | rfl <;> exact ⟨rfl, rfl⟩
def lawRow (ns : List Int) (at_ most : Int) : List Nat := (List.range (pick ns at_ (most + 1)).toNat).map fun (k : Nat) => sg6 (pick ns (at_ + 1 + (k : Int)) 6)
theorem lawRow_ok (ns : List Int) (at_ most : Int) (h : 0 ≤ most) : ((lawRow ns at_ most).length : Int) ≤ most ∧ (lawRow ns at_ most).all isSg = true := by
  have a := pick_range ns at_ (most + 1) (by omega)
  unfold lawRow
  refine ⟨by rw [List.length_map, List.length_range]; omega, ?_⟩
  rw [List.all_eq_true]
  intro x hx
  obtain ⟨k, _, rfl⟩ := List.mem_map.mp hx
  have b := pick_range ns (at_ + 1 + (k : Int)) 6 (by decide)
  exact (sg6_sg b.1 b.2).1
theorem lawRow_isLog (ns : List Int) (at_ most : Int) (h : 0 ≤ most) (h60 : most ≤ 60) : isLogL (lawRow ns at_ most) = true := by
  have := lawRow_ok ns at_ most h
  unfold isLogL
  rw [this.2, decide_eq_true (by omega)]
  rfl
/-! ### _law_count: run by run -/
structure Qt where
  one : Int
  day : Int
  mar : Bool
/-- whether a row of n slots of rest ends a stint by its second part -/
def usedB (r : Ru) (m : Bool) (n : Nat) : Bool := decide (0 < r.sp) && (m && decide (r.pa - r.sp ≤ (n : Int)))
theorem rests_form {r : Ru} (v : VR r) {q : Sq} (h : q.ru = 0) (ht : q.tk = false) : forall n : Nat,
    (rests r q n).st = (if (decide (r.pa ≤ (n : Int)) || usedB r q.mar n) = true then 0 else q.st) ∧
    (rests r q n).mar = (if (decide (r.pa ≤ (n : Int)) || usedB r q.mar n) = true then false else q.mar) ∧
    (rests r q n).tk = usedB r q.mar n
  | 0 => by
    have p1 := v.p1
    have q2 := v.q2
    have u : usedB r q.mar 0 = false := by
      unfold usedB
      rw [decide_eq_false (show ¬ r.pa - r.sp ≤ ((0 : Nat) : Int) by omega)]
      simp
    rw [u, decide_eq_false (show ¬ r.pa ≤ ((0 : Nat) : Int) by omega)]
    exact ⟨rfl, rfl, ht⟩
  | n + 1 => by
    obtain ⟨a, b, c⟩ := rests_form v h ht n
    have e := rests_ru v h (n + 1)
    have n1 := v.n1
    have q1 := v.q1
    have q2 := v.q2
    have e' : (restOnce r (rests r q n)).ru = if r.ni < ((n + 1 : Nat) : Int) then r.ni else ((n + 1 : Nat) : Int) := e
    have d2 : decide (r.pa ≤ (restOnce r (rests r q n)).ru) = decide (r.pa ≤ ((n + 1 : Nat) : Int)) := by
      rw [e']
      split
      · rw [decide_eq_true (by omega), decide_eq_true (by omega)]
      · rfl
    have d1 : decide (r.pa - r.sp ≤ (restOnce r (rests r q n)).ru) = decide (r.pa - r.sp ≤ ((n + 1 : Nat) : Int)) := by
      rw [e']
      split
      · rw [decide_eq_true (by omega), decide_eq_true (by omega)]
      · rfl
    have s1 : (rests r q (n + 1)).st = if decide (r.pa ≤ ((n + 1 : Nat) : Int)) = true then 0 else if (decide (0 < r.sp) && ((rests r q n).mar && decide (r.pa - r.sp ≤ ((n + 1 : Nat) : Int)))) = true then 0 else (rests r q n).st := by
      show (restOnce r (rests r q n)).st = _
      rw [rest_st, d2, d1]
    have s2 : (rests r q (n + 1)).mar = if decide (r.pa ≤ ((n + 1 : Nat) : Int)) = true then false else if (decide (0 < r.sp) && ((rests r q n).mar && decide (r.pa - r.sp ≤ ((n + 1 : Nat) : Int)))) = true then false else (rests r q n).mar := by
      show (restOnce r (rests r q n)).mar = _
      rw [rest_mar, d2, d1]
    have s3 : (rests r q (n + 1)).tk = if (decide (0 < r.sp) && ((rests r q n).mar && decide (r.pa - r.sp ≤ ((n + 1 : Nat) : Int)))) = true then true else (rests r q n).tk := by
      show (if (decide (0 < r.sp) && ((rests r q n).mar && decide (r.pa - r.sp ≤ (restOnce r (rests r q n)).ru))) = true then true else (rests r q n).tk) = _
      rw [d1]
    rw [s1, s2, s3, a, b, c]
    unfold usedB
    have hz : ((n + 1 : Nat) : Int) = (n : Int) + 1 := by omega
    generalize ((n + 1 : Nat) : Int) = z at hz
    clear s1 s2 s3 a b c e e' d1 d2
    generalize (n : Int) = y at hz
    cases hm : q.mar with
    | false =>
      simp
      split <;> (try split) <;> simp_all <;> omega
    | true =>
      by_cases h1 : 0 < r.sp
      · by_cases h2 : r.pa - r.sp ≤ y
        · have h3 : r.pa - r.sp ≤ z := by omega
          simp [h1, h2, h3]
        · by_cases h3 : r.pa - r.sp ≤ z
          · have h4 : ¬ r.pa ≤ y := by omega
            simp [h1, h2, h3, h4]
          · have h4 : ¬ r.pa ≤ y := by omega
            have h5 : ¬ r.pa ≤ z := by omega
            simp [h1, h2, h3, h4, h5]
      · simp [h1]
        split <;> (try split) <;> simp_all <;> omega
theorem rests_daN {r : Ru} (v : VR r) {q : Sq} (h : q.ru = 0) (n : Nat) : (rests r q n).da = if r.ni ≤ (n : Int) then 0 else q.da := by
  split
  · exact rests_night v h (by assumption)
  · exact rests_da v h n (by omega)
/-- the mark as _law_count keeps it: behind a row of rest that has ended -/
def markAt (r : Ru) (q : Sq) (more : Bool) : Bool := if more = true then (endRun r q).mar else q.mar
theorem endRun_mar0 {r : Ru} {q : Sq} (h : q.ru = 0) : (endRun r q).mar = q.mar := by
  show (q.mar || (decide (0 < r.sp) && ((decide (r.sp ≤ q.ru) && decide (q.ru < r.pa)) && !q.tk))) = _
  rw [h]
  by_cases h1 : 0 < r.sp
  · rw [decide_eq_false (show ¬ r.sp ≤ 0 by omega)]
    simp
  · rw [decide_eq_false h1]
    simp
theorem mark_run {r : Ru} (v : VR r) {q : Sq} (h : q.ru = 0) (ht : q.tk = false) {n : Nat} (hn : 0 < n) : (endRun r (rests r q n)).mar =
    if (decide (0 < r.sp) && (!usedB r q.mar n && (decide (r.sp ≤ (n : Int)) && decide ((n : Int) < r.pa)))) = true then true else (rests r q n).mar := by
  obtain ⟨a, b, c⟩ := rests_form v h ht n
  have e := rests_ru v h n
  have n1 := v.n1
  have q2 := v.q2
  show ((rests r q n).mar || (decide (0 < r.sp) && ((decide (r.sp ≤ (rests r q n).ru) && decide ((rests r q n).ru < r.pa)) && !(rests r q n).tk))) = _
  have d1 : decide (r.sp ≤ (rests r q n).ru) = decide (r.sp ≤ (n : Int)) := by
    rw [e]
    split
    · rw [decide_eq_true (by omega), decide_eq_true (by omega)]
    · rfl
  have d2 : decide ((rests r q n).ru < r.pa) = decide ((n : Int) < r.pa) := by
    rw [e]
    split
    · rw [decide_eq_false (by omega), decide_eq_false (by omega)]
    · rfl
  rw [d1, d2, c]
  cases (rests r q n).mar <;> cases decide (0 < r.sp) <;> cases usedB r q.mar n <;> cases decide (r.sp ≤ (n : Int)) <;> cases decide ((n : Int) < r.pa) <;> rfl
theorem tk_other {r : Ru} {s : Sq} {c : Nat} (h2 : c ≠ 82) : (stepF r s c).tk = false := by
  unfold stepF
  rw [if_neg h2]
  split <;> rfl
theorem run_start {r : Ru} {l : List Nat} {s : Nat} (hs : s ≤ l.length) (h : s = 0 ∨ l[s - 1]? ≠ some 82) : (after r (l.take s)).ru = 0 ∧ (after r (l.take s)).tk = false := by
  refine ⟨ru_start hs h, ?_⟩
  cases s with
  | zero => rfl
  | succ s =>
    have hlt : s < l.length := by omega
    have hg : l[s]? = some l[s] := List.getElem?_eq_getElem hlt
    rw [after_take hg]
    refine tk_other fun z => ?_
    rcases h with h | h
    · omega
    · rw [Nat.add_sub_cancel, hg, z] at h
      exact h rfl
theorem mark_end (r : Ru) (s : Sq) {c : Nat} (h : c ≠ 82) : (stepF r s c).mar = (endRun r s).mar := by
  unfold stepF
  rw [if_neg h]
  split <;> rfl
end Lw

namespace Lw
open PySem PySem.Spec L2 Gd
section
variable {P : Program} {w : World} {K : PySem.W.Frag} {mg : Str -> Option Value} {base : Heap}
/-! ### _law_pick -/
def R_pick : Rel := fun ds o => ∃ ns k many, ns.length ≤ 63 ∧ 0 ≤ k ∧ 0 < many ∧ ds = [scrD ns, .int k, .int many] ∧ o = .ret (.int (pick ns k many))
theorem can_pick (T : Tp K mg) : Can P w K mg base 1 "_law_pick" R_pick := by
  obtain ⟨fd, F⟩ := T.fn_law_pick
  refine can_of F T.gl_law_pick sc_law_pick (fun _ _ _ _ _ _ us hl => match us, hl with | [_, _, _], _ => rfl) (by rintro ds o ⟨_, _, _, _, _, _, rfl, rfl⟩; rfl) ?_
  rintro cdv A outer s H E N ds o hr ⟨ns, k, many, h63, hk, hm, rfl, rfl⟩ hx
  have nd := sc_law_pick.nd
  have hu := hr.units
  have m1 : forall x : Int, 0 ≤ x % 2147483399 ∧ x % 2147483399 < 2147483399 := fun x => ⟨Int.emod_nonneg _ (by decide), Int.emod_lt_of_pos _ (by decide)⟩
  have hdv : 0 < divP ns ∧ divP ns < 1000 := by
    unfold divP
    split <;> omega
  have hcell : GE (cxD P w K mg base n_law_pick "_law_pick" s_law_pick (He.ga K "_law_pick") cdv A outer s H E) (match (defBody s_law_pick) with | .Assign _ e _ :: _ => e | _ :: .Assign _ e _ :: _ => e | _ => .Constant .none 0 ⟨0, 0, 0, 0⟩) (startR n_law_pick.length [scrD ns, .int k, .int many]) (.int (cellP ns k)) := by
    refine ge_if (gt_cmp (gv 0) (ge_lst ga_nil) (c_scrNe hu (shap_s (shap_of 1 (shN_list ns fun _ _ => rfl))))) (fun z => ?_) fun z => ?_
    · have hne : ns ≠ [] := by
        intro e
        subst e
        simp [eqv_nil] at z
      have hl : 0 < ns.length := List.length_pos_iff.mpr hne
      have he : ns.isEmpty = false := by cases ns with
        | nil => exact absurd rfl hne
        | cons _ _ => rfl
      have hp : cellP ns k = cellAt ns k := by unfold cellP; rw [he, if_neg Bool.false_ne_true]
      rw [hp]
      exact ge_ix (gv 0) (ge_bin (gv 1) (ge_cb T.fr_len bt_len k_lenScr (ga_cons (gv 0) ga_nil)) (b_mod (by omega))) (x_scr (cellAt_at hne hk))
    · rw [eqv_nil, List.isEmpty_map] at z
      have : ns.isEmpty = true := by simpa using z
      have hp : cellP ns k = 0 := by unfold cellP; rw [this, if_pos rfl]
      rw [hp]
      exact ge_int
  refine gs_cons (g1_set 3 hcell ?_ nd)
  have ht0 : 0 ≤ k / divP ns := Int.ediv_nonneg hk (by omega)
  refine gs_cons (g1_par 4 5 (ga_cons (ge_bin (gv 3) (ge_bin ge_int ge_int (b_pow ⟨by decide, by decide, by decide⟩)) (b_divW (wide_div (b := 64) (by decide) (by decide) (by decide) (by decide)))) (ga_cons (ge_bin (gv 1) (ge_is (d1 := .int (divP ns)) (ge_cb T.fr_max bt_max (k_max2 rfl) (ga_cons (ge_cb T.fr_len bt_len k_lenScr (ga_cons (gv 0) ga_nil)) (ga_cons ge_int ga_nil))) rfl) (b_div ⟨hdv.1, by omega⟩)) ga_nil)) ?_ nd)
  refine gs_cons (g1_while (fun m ρ => ∃ (rest : Int) (t : Nat), m = t ∧ pwh t rest = pwh (k / divP ns).toNat (cellP ns k / 10 ^ 18) ∧ ρ = [.dat (scrD ns), .dat (.int k), .dat (.int many), .dat (.int (cellP ns k)), .dat (.int rest), .dat (.int (t : Nat)), .any]) (k / divP ns).toNat ⟨_, _, rfl, rfl, ?_⟩ ?_ (passes_of rfl))
  · have : (((k / divP ns).toNat : Nat) : Int) = k / divP ns := by omega
    rw [this]
    rfl
  rintro m ρ1 ⟨rest, t, rfl, hd, rfl⟩
  refine ⟨_, gt_w (gw_and (gt_cmp (gv 4) ge_int c_gt) fun _ => gw_and1 (gt_cmp (gv 5) ge_int c_gt)), fun y => ?_, fun y => ?_⟩
  · obtain ⟨y1, y2⟩ := Bool.and_eq_true_iff.mp y
    have y1 := of_decide_eq_true y1
    have y2 := of_decide_eq_true y2
    obtain ⟨t', rfl⟩ : ∃ t', m = t' + 1 := ⟨m - 1, by omega⟩
    refine gs_cons (g1_par 4 5 (ga_cons (ge_bin (gv 4) ge_int (b_div ⟨by decide, by decide⟩)) (ga_cons (ge_bin (gv 5) ge_int b_sub) ga_nil)) (gs_nil ⟨t', by omega, rest / 840, t', rfl, ?_, ?_⟩) nd)
    · rw [← hd]
      show _ = if 0 < rest then pwh t' (rest / 840) else rest
      rw [if_pos y1]
    · have : ((t' + 1 : Nat) : Int) - 1 = (t' : Nat) := by omega
      rw [this]
      rfl
  · have fe : rest = pwh (k / divP ns).toNat (cellP ns k / 10 ^ 18) := by
      rw [← hd]
      cases m with
      | zero => rfl
      | succ t' =>
        have : ¬ 0 < rest := by
          intro h
          have e2 : decide ((0 : Int) < ((t' + 1 : Nat) : Int)) = true := decide_eq_true (by omega)
          rw [decide_eq_true h, e2] at y
          cases y
        show _ = if 0 < rest then _ else rest
        rw [if_neg this]
    refine gs_cons (g1_if (gt_cmp (gv 4) ge_int c_gt) (fun u => ?_) fun u => gs_nil ?_)
    · refine gs_cons (g1_ret (ge_bin (ge_bin (gv 4) ge_int (b_mod (by decide))) (gv 2) (b_mod hm)) ?_)
      have u := of_decide_eq_true u
      show Out.ret (.int (pick ns k many)) = _
      unfold pick
      rw [← fe, if_pos u]
    · have u := of_decide_eq_false u
      have hp : pick ns k many = mixP (cellP ns k) k many := by
        unfold pick
        rw [← fe, if_neg u]
      rw [hp]
      refine gs_cons (g1_set 6 (ge_bin (ge_bin (ge_bin (ge_bin (gv 3) ge_int (b_mul (.inr ⟨by decide, by decide⟩))) (ge_bin ge_int (ge_bin (gv 1) ge_int b_add) (b_mul (.inl ⟨by decide, by decide⟩))) b_add) ge_int (b_mul (.inr ⟨by decide, by decide⟩))) ge_int (b_mod (by decide))) ?_ nd)
      unfold mixP
      dsimp only
      have r1 := m1 ((cellP ns k * 31 + 6151 * (k + 1)) * 40692)
      generalize (cellP ns k * 31 + 6151 * (k + 1)) * 40692 % 2147483399 = c1 at r1
      exact gs_cons (g1_ret (ge_bin (ge_bin (ge_bin (ge_bin (gv 6) (gv 6) (b_mul (.inl ⟨by omega, by omega⟩))) (ge_bin (gv 6) ge_int (b_div ⟨by decide, by decide⟩)) b_add) ge_int (b_mod (by decide))) (gv 2) (b_mod hm)) rfl)
/-! ### _law_form, _law_row -/
def R_form : Rel := fun ds o => ∃ ns k most, ns.length ≤ 63 ∧ 0 ≤ k ∧ 1 ≤ most ∧ ds = [scrD ns, .int k, .int most] ∧ o = .ret (ruD (lawForm ns k most))
theorem can_form (T : Tp K mg) : Can P w K mg base 2 "_law_form" R_form := by
  obtain ⟨fd, F⟩ := T.fn_law_form
  refine can_of F T.gl_law_form sc_law_form (fun _ _ _ _ _ _ us hl => match us, hl with | [_, _, _], _ => rfl) (by rintro ds o ⟨_, _, _, _, _, _, rfl, rfl⟩; rfl) ?_
  rintro cdv A outer s H E N ds o hr ⟨ns, k, most, h63, hk, hm, rfl, rfl⟩ hx
  have nd := sc_law_form.nd
  have pr := pick_range ns (k + 1) 3 (by decide)
  refine gs_cons (g1_par 3 4 (ga_cons (ge_bin ge_int (ge_call (can_pick T) hr (ga_cons (gv 0) (ga_cons (gv 1) (ga_cons (gv 2) ga_nil))) ⟨ns, k, most, h63, hk, by omega, rfl, rfl⟩) b_add) (ga_cons (ge_bin ge_int (ge_call (can_pick T) hr (ga_cons (gv 0) (ga_cons (ge_bin (gv 1) ge_int b_add) (ga_cons ge_int ga_nil))) ⟨ns, k + 1, 3, h63, by omega, by decide, rfl, rfl⟩) b_add) ga_nil)) ?_ nd)
  refine gs_cons (g1_set 5 (ge_bin (gv 3) (ge_call (can_pick T) hr (ga_cons (gv 0) (ga_cons (ge_bin (gv 1) ge_int b_add) (ga_cons ge_int ga_nil))) ⟨ns, k + 2, 4, h63, by omega, by decide, rfl, rfl⟩) b_add) ?_ nd)
  refine gs_cons (g1_set 6 (ge_bin (gv 4) (ge_call (can_pick T) hr (ga_cons (gv 0) (ga_cons (ge_bin (gv 1) ge_int b_add) (ga_cons ge_int ga_nil))) ⟨ns, k + 3, 3, h63, by omega, by decide, rfl, rfl⟩) b_add) ?_ nd)
  exact gs_cons (g1_ret (ge_tup (ga_cons (gv 3) (ga_cons (gv 4) (ga_cons (gv 5) (ga_cons (gv 6) (ga_cons (ge_call (can_pick T) hr (ga_cons (gv 0) (ga_cons (ge_bin (gv 1) ge_int b_add) (ga_cons (gv 4) ga_nil))) ⟨ns, k + 4, _, h63, by omega, by omega, rfl, rfl⟩) ga_nil)))))) rfl)
def R_lrow : Rel := fun ds o => ∃ ns k most, ns.length ≤ 63 ∧ 0 ≤ k ∧ 0 ≤ most ∧ most ≤ 1000 ∧ ds = [scrD ns, .int k, .int most] ∧ o = .ret (.str (S (lawRow ns k most)))
theorem can_lrow (T : Tp K mg) : Can P w K mg base 2 "_law_row" R_lrow := by
  obtain ⟨fd, F⟩ := T.fn_law_row
  refine can_of F T.gl_law_row sc_law_row (fun _ _ _ _ _ _ us hl => match us, hl with | [_, _, _], _ => rfl) (by rintro ds o ⟨_, _, _, _, _, _, _, rfl, rfl⟩; rfl) ?_
  rintro cdv A outer s H E N ds o hr ⟨ns, k, most, h63, hk, hm0, hm1, rfl, rfl⟩ hx
  have nd := sc_law_row.nd
  have dr := pick_range ns k (most + 1) (by omega)
  have ok := lawRow_ok ns k most hm0
  refine gs_cons (g1_ret (ge_joinC (l := lawRow ns k most) (gsS []) (ge_is (lc (List.range (pick ns k (most + 1)).toNat) (fun i => .int (i : Nat)) (fun i => .str (S [sg6 (pick ns (k + 1 + (i : Int)) 6)])) (T := .nm 3) [("k", 3)] (gi_rng1 T.fr_range (ga_cons (ge_call (can_pick T) hr (ga_cons (gv 0) (ga_cons (gv 1) (ga_cons (ge_bin (gv 2) ge_int b_add) ga_nil))) ⟨ns, k, most + 1, h63, hk, by omega, rfl, rfl⟩) ga_nil) (by omega) (by omega)) nd (by rw [List.length_range]; omega) (fun _ _ _ _ _ => tg_nm 3 nd) fun i x hx => ⟨_, rfl, fun _ _ _ _ _ => ?_⟩) ?_) (by omega)) rfl)
  · have d1 := pick_range ns (k + 1 + (x : Int)) 6 (by decide)
    exact ge_ix (gsS [68, 68, 82, 68, 82, 87]) (ge_call (can_pick T) hr (ga_cons (gv 0) (ga_cons (ge_bin (ge_bin (gv 1) ge_int b_add) (gv 3) b_add) (ga_cons ge_int ga_nil))) ⟨ns, k + 1 + (x : Int), 6, h63, by omega, by decide, rfl, rfl⟩) (x_str (by decide) (atI_z d1.1 (sg6_sg d1.1 d1.2).2))
  · unfold lawRow
    rw [List.map_map]
    rfl
end
end Lw

namespace Lw
open PySem PySem.Spec L2 Gd
theorem ints_is2 (L : List Nat) : intsD L = PyData.list ((L.map fun (i : Nat) => (i : Int)).map PyData.int) := by
  unfold intsD
  rw [List.map_map]
  rfl
theorem mem_ints2 {L : List Nat} {i : Nat} : ((i : Int) ∈ L.map fun (i : Nat) => (i : Int)) ↔ i ∈ L := by
  constructor
  · intro h
    obtain ⟨j, hj, e⟩ := List.mem_map.mp h
    have : j = i := by omega
    subst this
    exact hj
  · exact fun h => List.mem_map.mpr ⟨i, h, rfl⟩
section
variable {P : Program} {w : World} {K : PySem.W.Frag} {mg : Str -> Option Value} {base : Heap}
/-! ### _law_count -/
def R_count : Rel := fun ds o => ∃ r l, VR r ∧ l.length ≤ 1000 ∧ ds = [ruD r, .str (S l)] ∧ o = .ret (shD (after r l))
theorem can_count (T : Tp K mg) : Can P w K mg base 1 "_law_count" R_count := by
  obtain ⟨fd, F⟩ := T.fn_law_count
  refine can_of F T.gl_law_count sc_law_count (fun _ _ _ _ _ _ us hl => match us, hl with | [_, _], _ => rfl) (by rintro ds o ⟨_, _, _, _, rfl, rfl⟩; rfl) ?_
  rintro cdv A outer s H E N ds o hr ⟨r, l, v, hl, rfl, rfl⟩ hx
  have nd := sc_law_count.nd
  refine gs_cons (g1_asg (tg_tp (is := [2, 3, 4, 5, 6]) (tgs_cons 2 nd (tgs_cons 3 nd (tgs_cons 4 nd (tgs_cons 5 nd (tgs_cons 6 nd tgs_nil)))))) (gv 0) rfl ?_)
  refine gs_cons (g1_asg (tg_tp (is := [7, 8, 9, 10]) (tgs_cons 7 nd (tgs_cons 8 nd (tgs_cons 9 nd (tgs_cons 10 nd tgs_nil))))) (ge_tup (ga_cons ge_int (ga_cons ge_int (ga_cons ge_bl (ga_cons ge_int ga_nil))))) rfl ?_)
  refine gs_eq [.dat (ruD r), .dat (.str (S l)), .dat (.int r.st), .dat (.int r.pa), .dat (.int r.da), .dat (.int r.ni), .dat (.int r.sp), .dat (.int 0), .dat (.int 0), .dat (.bool false), .dat (.int 0), .any, .any] ?_
  refine gs_cons (g1_while (fun m ρ => ∃ (i : Nat) (x11 x12 : Cell), i + m = l.length ∧ (l[i]? = some 82 -> i = 0 ∨ l[i - 1]? ≠ some 82) ∧
    ρ = [.dat (ruD r), .dat (.str (S l)), .dat (.int r.st), .dat (.int r.pa), .dat (.int r.da), .dat (.int r.ni), .dat (.int r.sp), .dat (.int (after r (l.take i)).st), .dat (.int (after r (l.take i)).da), .dat (.bool (markAt r (after r (l.take i)) (decide (i < l.length)))), .dat (.int (i : Nat)), x11, x12]) l.length ⟨0, .any, .any, by omega, fun _ => .inl rfl, ?_⟩ ?_ (passes_of rfl))
  · have : markAt r (after r (l.take 0)) (decide (0 < l.length)) = false := by
      unfold markAt
      split
      · rw [endRun_mar0 (by rfl)]
        rfl
      · rfl
    rw [this]
    rfl
  rintro m ρ1 ⟨i, x11, x12, hi, hst, rfl⟩
  refine ⟨_, gt_cmp (gv 10) (ge_lenS T.fr_len (gv 1) (by omega)) c_lt, fun z => ?_, fun z => ?_⟩
  · have z : i < l.length := by have := of_decide_eq_true z; omega
    have hat : atI l ((i : Nat) : Int) = some l[i] := atI_nat (List.getElem?_eq_getElem z)
    have hg : l[i]? = some l[i] := List.getElem?_eq_getElem z
    have hmk : markAt r (after r (l.take i)) (decide (i < l.length)) = (endRun r (after r (l.take i))).mar := by
      unfold markAt
      rw [decide_eq_true z, if_pos rfl]
    rw [hmk]
    refine gs_cons (g1_if (gt_cmp (ge_ix (gv 1) (gv 10) (x_str (by omega) hat)) (gsS [82]) c_neSS) (fun y => ?_) fun y => ?_)
    · have hc : l[i] ≠ 82 := by simpa using y
      have hone : forall (a : Int), (if decide ([l[i]] = [68]) = true then PyData.int 1 else .int 0) = .int (if l[i] = 68 then 1 else 0) := fun a => by
        by_cases h : l[i] = 68 <;> simp [h]
      have e1 := after_take (r := r) hg
      refine gs_cons (g1_par 7 8 (ga_cons (ge_bin (gv 7) (ge_is (ge_ite (x := .Constant .none 0 ⟨0, 0, 0, 0⟩) (gt_cmp (ge_ix (gv 1) (gv 10) (x_str (by omega) hat)) (gsS [68]) c_eqSS) (fun _ => ge_int) fun _ => ge_int) (hone 0)) b_add) (ga_cons (ge_bin (gv 8) (ge_is (ge_ite (x := .Constant .none 0 ⟨0, 0, 0, 0⟩) (gt_cmp (ge_ix (gv 1) (gv 10) (x_str (by omega) hat)) (gsS [68]) c_eqSS) (fun _ => ge_int) fun _ => ge_int) (hone 0)) b_add) ga_nil)) ?_ nd)
      refine gs_cons (g1_set 10 (ge_bin (gv 10) ge_int b_add) (gs_nil (gs_nil ⟨m - 1, by omega, i + 1, x11, x12, by omega, fun h => .inr ?_, ?_⟩)) nd)
      · rw [Nat.add_sub_cancel, hg]
        exact fun h => hc (Option.some.inj h)
      · have k1 : (after r (l.take (i + 1))).st = (after r (l.take i)).st + (if l[i] = 68 then 1 else 0) ∧ (after r (l.take (i + 1))).da = (after r (l.take i)).da + (if l[i] = 68 then 1 else 0) := by
          rw [e1]
          by_cases h : l[i] = 68
          · rw [h, if_pos rfl]
            exact st_drive r _
          · have := st_work (r := r) (s := after r (l.take i)) h hc
            rw [this.1, this.2, if_neg h]
            omega
        have k2 : markAt r (after r (l.take (i + 1))) (decide (i + 1 < l.length)) = (endRun r (after r (l.take i))).mar := by
          have : (endRun r (after r (l.take (i + 1)))).mar = (after r (l.take (i + 1))).mar := endRun_mar0 (by rw [e1]; exact ru_other hc)
          unfold markAt
          rw [this, ite_self, e1, mark_end r _ hc]
        rw [k1.1, k1.2, k2]
        rfl
    · have hc : l[i] = 82 := by simpa using y
      rw [hc] at hg
      obtain ⟨r0, t0⟩ := run_start (r := r) (l := l) (s := i) (by omega) (hst hg)
      rw [endRun_mar0 r0]
      generalize hq : after r (l.take i) = q at *
      refine gs_cons (g1_set 11 ge_int ?_ nd)
      refine gs_cons (g1_while (fun m2 ρ => ∃ n : Nat, i + n + m2 = l.length ∧ (forall j, i ≤ j -> j < i + n -> l[j]? = some 82) ∧
        ρ = [.dat (ruD r), .dat (.str (S l)), .dat (.int r.st), .dat (.int r.pa), .dat (.int r.da), .dat (.int r.ni), .dat (.int r.sp), .dat (.int q.st), .dat (.int q.da), .dat (.bool q.mar), .dat (.int (i : Nat)), .dat (.int (n : Nat)), x12]) (l.length - i) ⟨0, by omega, fun j h1 h2 => by omega, rfl⟩ ?_ (passes_of rfl))
      rintro m2 ρ1 ⟨n, hn, hall, rfl⟩
      have hb : ∃ k, GT (cxD P w K mg base n_law_count "_law_count" s_law_count (He.ga K "_law_count") cdv A outer s H E) (match (defBody s_law_count) with | [_, _, .While _ [.If _ _ (_ :: .While c _ _ _ :: _) _] _ _, _] => c | _ => .Constant .none 0 ⟨0, 0, 0, 0⟩) [.dat (ruD r), .dat (.str (S l)), .dat (.int r.st), .dat (.int r.pa), .dat (.int r.da), .dat (.int r.ni), .dat (.int r.sp), .dat (.int q.st), .dat (.int q.da), .dat (.bool q.mar), .dat (.int (i : Nat)), .dat (.int (n : Nat)), x12] k ∧ k = decide (l[i + n]? = some 82) := by
        by_cases h : i + n < l.length
        · have hat2 : atI l (((i : Nat) : Int) + ((n : Nat) : Int)) = some l[i + n] := atI_z (by omega) (by
            have : (((i : Nat) : Int) + ((n : Nat) : Int)).toNat = i + n := by omega
            rw [this]
            exact List.getElem?_eq_getElem h)
          refine ⟨_, gt_w (gw_and (gt_cmp (ge_bin (gv 10) (gv 11) b_add) (ge_lenS T.fr_len (gv 1) (by omega)) c_lt) fun _ => gw_and1 (gt_cmp (ge_ix (gv 1) (ge_bin (gv 10) (gv 11) b_add) (x_str (by omega) hat2)) (gsS [82]) c_eqSS)), ?_⟩
          rw [decide_eq_true (by omega), List.getElem?_eq_getElem h]
          simp
        · refine ⟨_, gt_w (gw_and (c' := true) (gt_cmp (ge_bin (gv 10) (gv 11) b_add) (ge_lenS T.fr_len (gv 1) (by omega)) c_lt) fun z => ?_), ?_⟩
          · have := of_decide_eq_true z
            omega
          · rw [decide_eq_false (by omega), List.getElem?_eq_none (by omega)]
            rfl
      obtain ⟨kb, hb1, hb2⟩ := hb
      refine ⟨kb, hb1, fun u => ?_, fun u => ?_⟩
      · have u : l[i + n]? = some 82 := by rw [hb2] at u; exact of_decide_eq_true u
        have hlt := (List.getElem?_eq_some_iff.mp u).1
        refine gs_cons (g1_set 11 (ge_bin (gv 11) ge_int b_add) (gs_nil ⟨m2 - 1, by omega, n + 1, by omega, fun j h1 h2 => ?_, rfl⟩) nd)
        by_cases hj : j = i + n
        · rw [hj]; exact u
        · exact hall j h1 (by omega)
      have u : l[i + n]? ≠ some 82 := by rw [hb2] at u; exact of_decide_eq_false u
      have hn0 : 0 < n := by
        by_cases h : 0 < n
        · exact h
        · have : n = 0 := by omega
          subst this
          exact absurd hg u
      have hle : i + n ≤ l.length := by omega
      have hq' : after r (l.take (i + n)) = rests r q n := by rw [after_rests n hall, hq]
      obtain ⟨f1, f2, f3⟩ := rests_form v r0 t0 n
      have f4 := rests_daN v r0 n
      have f5 := mark_run v r0 t0 hn0
      refine gs_cons (g1_set 12 (ge_is (d1 := .bool (usedB r q.mar n)) (ge_and (ge_cmp (gv 6) ge_int c_gt) fun _ => ge_and (gv 9) fun _ => ge_one (ge_cmp (gv 11) (ge_bin (gv 3) (gv 6) b_sub) c_ge)) rfl) ?_ nd)
      refine gs_eq [.dat (ruD r), .dat (.str (S l)), .dat (.int r.st), .dat (.int r.pa), .dat (.int r.da), .dat (.int r.ni), .dat (.int r.sp), .dat (.int q.st), .dat (.int q.da), .dat (.bool q.mar), .dat (.int (i : Nat)), .dat (.int (n : Nat)), .dat (.bool (usedB r q.mar n))] ?_
      refine gs_cons (g1_ifJ [.dat (ruD r), .dat (.str (S l)), .dat (.int r.st), .dat (.int r.pa), .dat (.int r.da), .dat (.int r.ni), .dat (.int r.sp), .dat (.int (rests r q n).st), .dat (.int q.da), .dat (.bool (rests r q n).mar), .dat (.int (i : Nat)), .dat (.int (n : Nat)), .dat (.bool (usedB r q.mar n))] (gt_w (gw_or (gt_cmp (gv 11) (gv 3) c_ge) fun _ => gw_or1 (gt_val (gv 12)))) (fun y => ?_) (fun y => gs_nil ?_) ?_)
      · rw [f1, f2, y]
        exact gs_cons (g1_asg (tg_tp (is := [7, 9]) (tgs_cons 7 nd (tgs_cons 9 nd tgs_nil))) (ge_tup (ga_cons ge_int (ga_cons ge_bl ga_nil))) rfl (gs_nil rfl))
      · rw [f1, f2, y]
        rfl
      refine gs_cons (g1_ifJ [.dat (ruD r), .dat (.str (S l)), .dat (.int r.st), .dat (.int r.pa), .dat (.int r.da), .dat (.int r.ni), .dat (.int r.sp), .dat (.int (rests r q n).st), .dat (.int (rests r q n).da), .dat (.bool (rests r q n).mar), .dat (.int (i : Nat)), .dat (.int (n : Nat)), .dat (.bool (usedB r q.mar n))] (gt_cmp (gv 11) (gv 5) c_ge) (fun y => ?_) (fun y => gs_nil ?_) ?_)
      · rw [f4, if_pos (of_decide_eq_true y)]
        exact gs_cons (g1_set 8 ge_int (gs_nil rfl) nd)
      · rw [f4, if_neg (of_decide_eq_false y)]
      have eat : ((i : Nat) : Int) + ((n : Nat) : Int) = ((i + n : Nat) : Int) := by omega
      refine gs_cons (g1_set 10 (ge_is (ge_bin (gv 10) (gv 11) b_add) (congrArg PyData.int eat)) ?_ nd)
      have fin : forall (mk : Bool), mk = markAt r (rests r q n) (decide (i + n < l.length)) -> ∃ m', m' < m ∧ ∃ (j : Nat) (x11 x12 : Cell), j + m' = l.length ∧ (l[j]? = some 82 -> j = 0 ∨ l[j - 1]? ≠ some 82) ∧
          [Cell.dat (ruD r), .dat (.str (S l)), .dat (.int r.st), .dat (.int r.pa), .dat (.int r.da), .dat (.int r.ni), .dat (.int r.sp), .dat (.int (rests r q n).st), .dat (.int (rests r q n).da), .dat (.bool mk), .dat (.int ((i + n : Nat) : Int)), .dat (.int (n : Nat)), .dat (.bool (usedB r q.mar n))] = [.dat (ruD r), .dat (.str (S l)), .dat (.int r.st), .dat (.int r.pa), .dat (.int r.da), .dat (.int r.ni), .dat (.int r.sp), .dat (.int (after r (l.take j)).st), .dat (.int (after r (l.take j)).da), .dat (.bool (markAt r (after r (l.take j)) (decide (j < l.length)))), .dat (.int (j : Nat)), x11, x12] := fun mk hmk2 =>
        ⟨m - n, by omega, i + n, .dat (.int (n : Nat)), .dat (.bool (usedB r q.mar n)), by omega, fun h => absurd h u, by rw [hq', hmk2]⟩
      refine gs_cons (g1_if (gt_w (gw_and (gt_cmp (gv 10) (ge_lenS T.fr_len (gv 1) (by omega)) c_lt) fun _ => gw_and (gt_cmp (gv 6) ge_int c_gt) fun _ => gw_and (gt_not (gt_val (gv 12))) fun _ => gw_and (gt_cmp (gv 6) (gv 11) c_le) fun _ => gw_and1 (gt_cmp (gv 11) (gv 3) c_lt))) (fun y => ?_) fun y => gs_nil (gs_nil (gs_nil (fin _ ?_))))
      · refine gs_cons (g1_set 9 ge_bl (gs_nil (gs_nil (gs_nil (fin true ?_)))) nd)
        obtain ⟨y1, y2⟩ := Bool.and_eq_true_iff.mp y
        have y1 : i + n < l.length := by have := of_decide_eq_true y1; omega
        unfold markAt
        rw [decide_eq_true y1, if_pos rfl, f5, y2, if_pos rfl]
      · unfold markAt
        by_cases hlt : i + n < l.length
        · rw [decide_eq_true hlt, if_pos rfl, f5]
          have e2 : (decide (((i + n : Nat) : Int) < (l.length : Int))) = true := decide_eq_true (by omega)
          rw [e2, Bool.true_and] at y
          rw [y, if_neg Bool.false_ne_true]
        · rw [decide_eq_false hlt, if_neg Bool.false_ne_true]
  · have z : i = l.length := by have := of_decide_eq_false z; omega
    subst z
    have : markAt r (after r (l.take l.length)) (decide (l.length < l.length)) = (after r l).mar := by
      unfold markAt
      rw [decide_eq_false (by omega), if_neg Bool.false_ne_true, List.take_length]
    rw [this, List.take_length]
    exact gs_cons (g1_ret (ge_tup (ga_cons (gv 7) (ga_cons (gv 8) (ga_cons (gv 9) ga_nil)))) rfl)
/-! ### _law_bad -/
def R_bad : Rel := fun ds o => ∃ r l, VR r ∧ l.length ≤ 1000 ∧ ds = [ruD r, .str (S l)] ∧ o = .ret (intsD (faultsL r l))
theorem faults_upto {r : Ru} {l : List Nat} (i : Nat) : (List.range (i + 1)).filter (fun j => badAt r l j) = (List.range i).filter (fun j => badAt r l j) ++ (if badAt r l i = true then [i] else []) := by
  rw [List.range_succ, List.filter_append]
  cases h : badAt r l i <;> simp [h]
theorem can_bad (T : Tp K mg) : Can P w K mg base 2 "_law_bad" R_bad := by
  obtain ⟨fd, F⟩ := T.fn_law_bad
  refine can_of F T.gl_law_bad sc_law_bad (fun _ _ _ _ _ _ us hl => match us, hl with | [_, _], _ => rfl) (by rintro ds o ⟨_, _, _, _, rfl, rfl⟩; rfl) ?_
  rintro cdv A outer s H E N ds o hr ⟨r, l, v, hl, rfl, rfl⟩ hx
  have nd := sc_law_bad.nd
  refine gs_cons (g1_own 2 ga_nil ?_ nd)
  refine gs_cons (g1_for (List.range l.length) (fun i => .int (i : Nat)) (T := .nm 3) (gi_rng1 (n := (l.length : Nat)) T.fr_range (ga_cons (ge_lenS T.fr_len (gv 1) (by omega)) ga_nil) (by omega) (by omega)) (tg_nm 3 nd)
    (fun i ρ => ∃ x3 x4 x5 x6, ρ = [.dat (ruD r), .dat (.str (S l)), .own (((List.range i).filter fun j => badAt r l j).map fun j => .int (j : Nat)), x3, x4, x5, x6]) ⟨.any, .any, .any, .any, rfl⟩ ?_ ?_ (passes_of rfl))
  · rintro i j ρ1 hj ⟨x3, x4, x5, x6, rfl⟩
    obtain ⟨hlt, e⟩ := List.getElem?_eq_some_iff.mp hj
    rw [List.getElem_range] at e
    subst e
    rw [List.length_range] at hlt
    refine ⟨_, rfl, ?_⟩
    have et : (((i : Nat) : Int) + 1).toNat = i + 1 := by omega
    have hat : atI l ((i : Nat) : Int) = some l[i] := atI_nat (List.getElem?_eq_getElem hlt)
    have he := faults_upto (r := r) (l := l) i
    have hb : badAt r l i = (decide (l[i] = 68) && (decide (r.st < (after r (l.take (i + 1))).st) || decide (r.da < (after r (l.take (i + 1))).da))) := by
      unfold badAt isOver
      rw [List.getElem?_eq_getElem hlt]
      congr 1
      simp
    refine gs_cons (g1_if (gt_cmp (ge_ix (gv 1) (gv 3) (x_str (by omega) hat)) (gsS [68]) c_eqSS) (fun z => ?_) fun z => gs_nil (gs_nil ?_))
    · have z : l[i] = 68 := by simpa using z
      rw [decide_eq_true z, Bool.true_and] at hb
      refine gs_cons (g1_asg (tg_tp (is := [4, 5, 6]) (tgs_cons 4 nd (tgs_cons 5 nd (tgs_cons 6 nd tgs_nil)))) (ge_call (can_count T) hr (ga_cons (gv 0) (ga_cons (ge_toS (gv 1) (ge_bin (gv 3) ge_int b_add) (by omega) (by omega)) ga_nil)) ⟨r, l.take (((i : Nat) : Int) + 1).toNat, v, by rw [List.length_take]; omega, rfl, rfl⟩) rfl ?_)
      rw [et]
      refine gs_cons (g1_if (gt_w (gw_or (gt_cmp (gv 4) (ge_ix (gv 0) ge_int (x_tup rfl)) c_gt) fun _ => gw_or1 (gt_cmp (gv 5) (ge_ix (gv 0) ge_int (x_tup rfl)) c_gt))) (fun y => ?_) fun y => gs_nil (gs_nil (gs_nil ?_)))
      · rw [hb, y, if_pos rfl] at he
        refine gs_cons (g1_append 2 rfl (gv 3) ?_ (gs_nil (gs_nil (gs_nil ?_))))
        · rw [List.length_map]
          have := List.length_filter_le (fun j => badAt r l j) (List.range i)
          rw [List.length_range] at this
          omega
        · rw [he, List.map_append]
          exact ⟨_, _, _, _, rfl⟩
      · rw [hb, y, if_neg Bool.false_ne_true, List.append_nil] at he
        rw [he]
        exact ⟨_, _, _, _, rfl⟩
    · have z : ¬ l[i] = 68 := by simpa using z
      rw [hb, decide_eq_false z, Bool.false_and, if_neg Bool.false_ne_true, List.append_nil] at he
      rw [he]
      exact ⟨_, _, _, _, rfl⟩
  · rintro ρ1 ⟨x3, x4, x5, x6, rfl⟩
    rw [List.length_range]
    exact gs_freeze 2 rfl (gs_cons (g1_ret (gv 2) rfl))
/-! ### _law_rows -/
def rD (l : List Nat) : PyData := .str (S l)
theorem filterMap_ifs {α β : Type} (p : α -> Bool) (f : α -> β) : forall L : List α, L.filterMap (fun c => if p c = true then some (f c) else none) = (L.filter p).map f
  | [] => rfl
  | c :: L => by
    by_cases hc : p c = true
    · rw [List.filterMap_cons_some (b := f c) (by rw [if_pos hc]), filterMap_ifs p f L, List.filter_cons_of_pos hc, List.map_cons]
    · rw [List.filterMap_cons_none (by rw [if_neg hc]), filterMap_ifs p f L, List.filter_cons_of_neg hc]
def R_rows : Rel := fun ds o => ∃ r n, VR r ∧ n ≤ 8 ∧ ds = [ruD r, .int (n : Nat)] ∧ o = .ret (.list ((lawL r n).map rD))
end
end Lw

namespace Lw
open PySem PySem.Spec L2 Gd PySem.W
theorem rowSt_last (rs : List (Nat × Nat)) (c : Nat) : (rowSt rs c).getLast?.map (·.2) = some c := by
  unfold rowSt
  split
  · split
    · rw [List.getLast?_append]; rfl
    · rw [List.getLast?_append]; rfl
  · rw [List.getLast?_append]; rfl
theorem rows_last (l : List Nat) : (rowsL l).getLast?.map (·.2) = l.getLast? := by
  rcases List.eq_nil_or_concat l with rfl | ⟨a, c, rfl⟩
  · rfl
  · rw [List.concat_eq_append, rowsL_snoc, rowSt_last, List.getLast?_append]
    rfl
/-- a run behind another sign is a row of its own -/
theorem rows_run (a : List Nat) (c : Nat) (h : a.getLast? ≠ some c) : forall n : Nat, rowsL (a ++ List.replicate (n + 1) c) = rowsL a ++ [(n + 1, c)]
  | 0 => by
    show rowsL (a ++ [c]) = _
    rw [rowsL_snoc]
    have hl := rows_last a
    unfold rowSt
    cases e : (rowsL a).getLast? with
    | none => rfl
    | some x =>
      rw [e] at hl
      have : x.2 ≠ c := fun z => h (by rw [← hl, ← z]; rfl)
      show (if x.2 = c then _ else _) = _
      rw [if_neg this]
  | n + 1 => by
    rw [List.replicate_succ', ← List.append_assoc, rowsL_snoc, rows_run a c h n]
    unfold rowSt
    rw [List.getLast?_append]
    show (if c = c then (rowsL a ++ [(n + 1, c)]).dropLast ++ [(n + 1 + 1, c)] else _) = _
    rw [if_pos rfl, List.dropLast_concat]
/-- where the law's loop stands: the run that holds slot i begins at st -/
structure RunAt (l : List Nat) (i st : Nat) : Prop where
  le : st ≤ i
  end_ : i = l.length -> st = i
  same : forall j, st ≤ j -> j ≤ i -> j < l.length -> l[j]? = l[st]?
  new : st = 0 ∨ l[st - 1]? ≠ l[st]?
theorem run_start0 (l : List Nat) : RunAt l 0 0 := ⟨Nat.le_refl _, fun _ => rfl, fun j _ h _ => by rw [show j = 0 by omega], .inl rfl⟩
theorem run_take {l : List Nat} {i st c : Nat} (r : RunAt l i st) (hi : i < l.length) (hc : l[st]? = some c) : l.take (i + 1) = l.take st ++ List.replicate (i + 1 - st) c := by
  apply List.ext_getElem?
  intro j
  have hle := r.le
  by_cases h1 : j < st
  · rw [List.getElem?_take_of_lt (by omega), List.getElem?_append_left (by rw [List.length_take]; omega), List.getElem?_take_of_lt h1]
  · by_cases h2 : j < i + 1
    · rw [List.getElem?_take_of_lt h2, List.getElem?_append_right (by rw [List.length_take]; omega), List.length_take, List.getElem?_replicate, if_pos (by omega), r.same j (by omega) (by omega) (by omega), hc]
    · rw [List.getElem?_eq_none (by rw [List.length_take]; omega), List.getElem?_eq_none (by rw [List.length_append, List.length_take, List.length_replicate]; omega)]
theorem run_close {l : List Nat} {i st c : Nat} (r : RunAt l i st) (hi : i < l.length) (hc : l[st]? = some c) (h : i + 1 = l.length ∨ l[i + 1]? ≠ some c) : RunAt l (i + 1) (i + 1) ∧ rowsL (l.take (i + 1)) = rowsL (l.take st) ++ [(i + 1 - st, c)] := by
  have hle := r.le
  refine ⟨⟨Nat.le_refl _, fun _ => rfl, fun j h1 h2 _ => by rw [show j = i + 1 by omega], .inr ?_⟩, ?_⟩
  · rw [Nat.add_sub_cancel, r.same i hle (Nat.le_refl _) hi, hc]
    rcases h with h | h
    · rw [List.getElem?_eq_none (by omega)]
      exact fun z => nomatch z
    · exact fun z => h z.symm
  · rw [run_take r hi hc]
    obtain ⟨n, hn⟩ : ∃ n, i + 1 - st = n + 1 := ⟨i - st, by omega⟩
    rw [hn]
    refine rows_run _ c ?_ n
    rcases r.new with z | z
    · rw [z]
      exact fun y => nomatch y
    · intro y
      by_cases h0 : st = 0
      · rw [h0] at y; cases y
      · have e : (l.take st).getLast? = l[st - 1]? := by
          rw [List.getLast?_eq_getElem?, List.length_take, Nat.min_eq_left (by omega), List.getElem?_take_of_lt (by omega)]
        rw [e] at y
        exact z (y.trans hc.symm)
theorem run_on {l : List Nat} {i st : Nat} (r : RunAt l i st) (h1 : i + 1 ≠ l.length) (h : l[i + 1]? = l[st]?) : RunAt l (i + 1) st := by
  have hle := r.le
  refine ⟨by omega, fun z => absurd z h1, fun j a b d => ?_, r.new⟩
  by_cases hj : j = i + 1
  · rw [hj]; exact h
  · exact r.same j a (by omega) d
end Lw

namespace Gd
open PySem PySem.Spec L2
theorem gi_eqL {X : Cx} {tg iter : Expr} {ρ : Rho} {xs ys : List PyData} (h : GI X tg iter ρ xs) (e : xs = ys) : GI X tg iter ρ ys := e ▸ h
theorem gsl_freeze {X : Cx} {N : En} {T : List (Addr × Str)} {ss : List Stmt} {ρ : Rho} {Φ : Post} {ds : List PyData} (i : Nat) (hi : ρ[i]? = some (.own ds)) (h : GSL X N T ss (ρ.set i (.dat (.list ds))) Φ) : GSL X N T ss ρ Φ := fun P σ H ⟨Gp, f, r⟩ => h P σ H ⟨Gp, f.freeze hi, r⟩
end Gd
namespace Lw
open PySem PySem.Spec L2 Gd
def wr1 : List PyData := [.none, .int 5, .str (S [32]), .str (S [68]), .str (S [52]), .str (S [52, 68, 50, 82]), .str (S [52, 68, 32, 32, 50, 82]), .str (S [32, 52, 68]), .str (S [52, 68, 32]), .str (S [48, 52, 68]), .str (S [48, 68]), .str (S [52, 68, 32, 49, 68]), .str (S [52, 88]), .str (S [52, 100]), .str (S [54, 49, 68]), .str (S [51, 48, 68, 32, 51, 49, 82])]
def wr2 : List PyData := [.str (S [52, 68, 44, 50, 82]), .str (S [45, 52, 68]), .str (S [52, 68, 32, 50, 82, 10]), .str (S [49, 48, 48, 68]), .str (S [68, 52]), .str (S [52, 32, 68]), .str (S [49, 68, 32, 49, 68]), .str (S [52, 46, 48, 68]), .str (S [52, 68, 68])]
/-- the wrong texts -/
def wrS : List (List Nat) := [[32], [68], [52], [52, 68, 50, 82], [52, 68, 32, 32, 50, 82], [32, 52, 68], [52, 68, 32], [48, 52, 68], [48, 68], [52, 68, 32, 49, 68], [52, 88], [52, 100], [54, 49, 68], [51, 48, 68, 32, 51, 49, 82], [52, 68, 44, 50, 82], [45, 52, 68], [52, 68, 32, 50, 82, 10], [49, 48, 48, 68], [68, 52], [52, 32, 68], [49, 68, 32, 49, 68], [52, 46, 48, 68], [52, 68, 68]]
theorem wrS_bad : wrS.all (fun t => !prsOk t && decide (t.length ≤ 1000) && decide ((prsL t).length ≤ 1000)) = true := by decide +kernel
theorem wr_all (d : PyData) (h : d ∈ wr1 ++ wr2) : (∃ t, t ∈ wrS ∧ d = .str (S t)) ∨ d = .none ∨ d = .int 5 := by
  simp only [wr1, wr2, List.cons_append, List.nil_append, List.mem_cons, List.not_mem_nil, or_false] at h
  rcases h with rfl | rfl | rfl | rfl | rfl | rfl | rfl | rfl | rfl | rfl | rfl | rfl | rfl | rfl | rfl | rfl | rfl | rfl | rfl | rfl | rfl | rfl | rfl | rfl | rfl
  · exact .inr (.inl rfl)
  · exact .inr (.inr rfl)
  · exact .inl ⟨[32], by decide, rfl⟩
  · exact .inl ⟨[68], by decide, rfl⟩
  · exact .inl ⟨[52], by decide, rfl⟩
  · exact .inl ⟨[52, 68, 50, 82], by decide, rfl⟩
  · exact .inl ⟨[52, 68, 32, 32, 50, 82], by decide, rfl⟩
  · exact .inl ⟨[32, 52, 68], by decide, rfl⟩
  · exact .inl ⟨[52, 68, 32], by decide, rfl⟩
  · exact .inl ⟨[48, 52, 68], by decide, rfl⟩
  · exact .inl ⟨[48, 68], by decide, rfl⟩
  · exact .inl ⟨[52, 68, 32, 49, 68], by decide, rfl⟩
  · exact .inl ⟨[52, 88], by decide, rfl⟩
  · exact .inl ⟨[52, 100], by decide, rfl⟩
  · exact .inl ⟨[54, 49, 68], by decide, rfl⟩
  · exact .inl ⟨[51, 48, 68, 32, 51, 49, 82], by decide, rfl⟩
  · exact .inl ⟨[52, 68, 44, 50, 82], by decide, rfl⟩
  · exact .inl ⟨[45, 52, 68], by decide, rfl⟩
  · exact .inl ⟨[52, 68, 32, 50, 82, 10], by decide, rfl⟩
  · exact .inl ⟨[49, 48, 48, 68], by decide, rfl⟩
  · exact .inl ⟨[68, 52], by decide, rfl⟩
  · exact .inl ⟨[52, 32, 68], by decide, rfl⟩
  · exact .inl ⟨[49, 68, 32, 49, 68], by decide, rfl⟩
  · exact .inl ⟨[52, 46, 48, 68], by decide, rfl⟩
  · exact .inl ⟨[52, 68, 68], by decide, rfl⟩
section
variable {P : Program} {w : World} {K : PySem.W.Frag} {mg : Str -> Option Value} {base : Heap}
theorem wr_parse {d : PyData} (h : d ∈ wr1 ++ wr2) : R_parse_log K [d] (.exc (He.ga K "ParseError")) := by
  rcases wr_all d h with ⟨t, ht, rfl⟩ | rfl | rfl
  · have := List.all_eq_true.mp wrS_bad t ht
    rw [Bool.and_eq_true, Bool.and_eq_true, decide_eq_true_eq, decide_eq_true_eq] at this
    have e : prsOk t = false := by simpa using this.1.1
    exact .inl ⟨t, this.1.2, this.2, rfl, by rw [e]; rfl⟩
  · exact .inr ⟨.none, rfl, rfl, rfl, rfl⟩
  · exact .inr ⟨.int 5, rfl, rfl, rfl, rfl⟩
theorem parse_fix : prsOk [52, 68, 32, 50, 82, 32, 49, 68] = true ∧ prsL [52, 68, 32, 50, 82, 32, 49, 68] = [68, 68, 68, 68, 82, 82, 68] ∧ prsOk [] = true ∧ prsL [] = [] ∧ prsOk [54, 48, 87] = true ∧ prsL [54, 48, 87] = List.replicate 60 87 := by decide +kernel
theorem pic_eq (r : Ru) (l : List Nat) : picL r l = (List.range l.length).map fun k => if k ∈ faultsL r l then 33 else 46 := rfl
theorem ok_law (T : Tp K mg) {fd : FuncData} (F : FnP K "law" s_law (He.ga K "law") fd) (tb : forall p, p ∈ tfL.map (He.cT K) -> LamX.TabB base mg p.1 p.2) : FnOk P w K mg base (L2.CX P w) 7 (He.ga K "law") fd ["script"] (spL K (tabsN K tfL)) := by
  refine okL_of F sc_law ?_
  intro A outer s H E N ns hr hn h63
  have nd := sc_law.nd
  have hu := hr.units
  refine gsl_cons (g1_for (List.range 4) (fun i => .int (i : Nat)) (T := .nm 1) (gi_rng1 (n := 4) T.fr_range (ga_cons ge_int ga_nil) (by decide) (by decide)) (tg_nm 1 nd)
    (fun i ρ => ∃ x1 x2 x3 x4 x5 x6 x7 x8 x9 x10, ρ = [.dat (scrD ns), x1, x2, x3, x4, x5, x6, x7, x8, x9, x10]) ⟨_, _, _, _, _, _, _, _, _, _, rfl⟩ ?_ ?_ (passes_of rfl))
  · rintro i k ρ1 hj ⟨x1, x2, x3, x4, x5, x6, x7, x8, x9, x10, rfl⟩
    obtain ⟨hlt, e⟩ := List.getElem?_eq_some_iff.mp hj
    rw [List.getElem_range] at e
    subst e
    rw [List.length_range] at hlt
    refine ⟨_, rfl, ?_⟩
    have v := lawForm_vr ns (70 * ((i : Nat) : Int)) 4 (by decide) (by decide)
    have h2 := lawRow_isLog ns (70 * ((i : Nat) : Int) + 6) 40 (by decide) (by decide)
    have h7 := (lawRow_ok ns (70 * ((i : Nat) : Int) + 6) 40 (by decide)).1
    generalize hrr : lawForm ns (70 * ((i : Nat) : Int)) 4 = r at v
    generalize hll : lawRow ns (70 * ((i : Nat) : Int) + 6) 40 = l at h2 h7
    have h1 := (isRules_iff r).mpr v
    refine gs_cons (g1_par 2 3 (ga_cons (ge_call (can_form T) hr (ga_cons (gv 0) (ga_cons (ge_bin ge_int (gv 1) (b_mul (.inl ⟨by decide, by decide⟩))) (ga_cons ge_int ga_nil))) ⟨ns, 70 * ((i : Nat) : Int), 4, h63, by omega, by decide, rfl, by rw [hrr]⟩) (ga_cons (ge_call (can_lrow T) hr (ga_cons (gv 0) (ga_cons (ge_bin (ge_bin ge_int (gv 1) (b_mul (.inl ⟨by decide, by decide⟩))) ge_int b_add) (ga_cons ge_int ga_nil))) ⟨ns, 70 * ((i : Nat) : Int) + 6, 40, h63, by omega, by decide, by decide, rfl, by rw [hll]⟩) ga_nil)) ?_ nd)
    refine gs_cons (g1_parOwn 4 5 ga_nil ge_int ?_ nd)
    refine gs_cons (g1_for (List.range l.length) (fun i => .int (1 + (i : Nat))) (T := .nm 6) (gi_eqL (gi_rng2 (m := 1) (n := (l.length : Nat) + 1) T.fr_range (ga_cons ge_int (ga_cons (ge_bin (ge_lenS T.fr_len (gv 3) (by omega)) ge_int b_add) ga_nil)) (by decide) (by omega) (by decide) (by omega)) (by rw [show (((l.length : Nat) : Int) + 1 - 1).toNat = l.length by omega])) (tg_nm 6 nd)
      (fun m ρ => ∃ (st : Nat) (x6 : Cell), RunAt l m st ∧ ρ = [.dat (scrD ns), .dat (.int (i : Nat)), .dat (ruD r), .dat (.str (S l)), .own ((rowsL (l.take st)).map fun x => .str (S (wordR x))), .dat (.int (st : Nat)), x6, x7, x8, x9, x10]) ⟨0, _, run_start0 l, rfl⟩ ?_ ?_ (passes_of rfl))
    · rintro m j ρ1 hj ⟨st, x6, hrun, rfl⟩
      obtain ⟨hm, e⟩ := List.getElem?_eq_some_iff.mp hj
      rw [List.getElem_range] at e
      subst e
      rw [List.length_range] at hm
      refine ⟨_, rfl, ?_⟩
      have hle := hrun.le
      obtain ⟨c, hc⟩ : ∃ c, l[st]? = some c := ⟨l[st], List.getElem?_eq_getElem (by omega)⟩
      have hek : (decide ((1 : Int) + (m : Nat) = (l.length : Nat)) || !decide (l[m + 1]? = some c)) = decide (m + 1 = l.length ∨ l[m + 1]? ≠ some c) := by
        rw [Bool.eq_iff_iff]
        simp only [Bool.or_eq_true, decide_eq_true_eq, Bool.not_eq_true', decide_eq_false_iff_not]
        constructor
        · rintro (h | h)
          · exact .inl (by omega)
          · exact .inr h
        · rintro (h | h)
          · exact .inl (by omega)
          · exact .inr h
      refine gs_cons (g1_if (gt_is (gt_w (gw_or (gt_cmp (gv 6) (ge_lenS T.fr_len (gv 3) (by omega)) c_eqI) fun z => gw_or1 (c := !decide (l[m + 1]? = some c)) (by
        have z := of_decide_eq_false z
        have hlt : m + 1 < l.length := by omega
        obtain ⟨d, hd⟩ : ∃ d, l[m + 1]? = some d := ⟨l[m + 1], List.getElem?_eq_getElem hlt⟩
        refine gt_is (gt_cmp (ge_ix (gv 3) (gv 6) (x_str (c := d) (by omega) (atI_z (by omega) (by rw [show ((1 : Int) + (m : Nat)).toNat = m + 1 by omega]; exact hd)))) (ge_ix (gv 3) (gv 5) (x_str (c := c) (by omega) (atI_nat hc))) c_neSS) ?_
        rw [hd]
        simp))) hek) (fun z => ?_) fun z => gs_nil ?_)
      · obtain ⟨q1, q2⟩ := run_close hrun hm hc (of_decide_eq_true z)
        have hrl := (rows_le (l.take st)).1
        rw [List.length_take] at hrl
        refine gs_cons (g1_append 4 rfl (d := .str (S (wordR (m + 1 - st, c)))) ?_ (by rw [List.length_map]; omega) ?_)
        · have hn61 : m + 1 - st < 61 := by
            have : l.length ≤ 60 := by omega
            omega
          refine ge_bin (ge_is (d1 := .str (S (dg (m + 1 - st)))) (ge_cty T.fr_str bt_str (k_strI (n := 1 + ((m : Nat) : Int) - ((st : Nat) : Int)) ?_) (ga_cons (ge_bin (gv 6) (gv 5) b_sub) ga_nil)) ?_) (ge_ix (gv 3) (gv 5) (x_str (c := c) (by omega) (atI_nat hc))) (b_addS (by have := dg_len (m + 1 - st); simp; omega))
          · have e2 : (1 + ((m : Nat) : Int) - ((st : Nat) : Int)).natAbs = m + 1 - st := by omega
            rw [e2]
            have : (m + 1 - st).log2 ≤ m + 1 - st := Nat.log2_le_self _
            omega
          · have e2 : 1 + ((m : Nat) : Int) - ((st : Nat) : Int) = ((m + 1 - st : Nat) : Int) := by omega
            rw [e2]
            exact congrArg PyData.str (str_dg _ hn61)
        · refine gs_cons (g1_set 5 (gv 6) (gs_nil (gs_nil ⟨m + 1, .dat (.int (1 + (m : Nat))), q1, ?_⟩)) nd)
          rw [q2, List.map_append]
          have e2 : (1 : Int) + ((m : Nat) : Int) = ((m + 1 : Nat) : Int) := by omega
          rw [e2]
          rfl
      · have z := of_decide_eq_false z
        have z1 : m + 1 ≠ l.length := fun h => z (.inl h)
        have z2 : l[m + 1]? = some c := Decidable.byContradiction fun h => z (.inr h)
        exact gs_nil ⟨st, _, run_on hrun z1 (z2.trans hc.symm), rfl⟩
    · rintro ρ1 ⟨st, x6, hrun, rfl⟩
      rw [List.length_range] at hrun
      have est := hrun.end_ rfl
      subst est
      rw [List.take_length]
      obtain ⟨r1, r2⟩ := rows_le l
      have htl := text_len l
      have hsum : (((rowsL l).map wordR).map (·.length)).sum + ((rowsL l).map wordR).length * [32].length ≤ 100000 := by
        have key : forall L : List (Nat × Nat), ((L.map wordR).map (·.length)).sum ≤ 3 * L.length := fun L => by
          induction L with
          | nil => exact Nat.le_refl _
          | cons y L ih =>
            rw [List.map_cons, List.map_cons, List.sum_cons, List.length_cons]
            have := word_len y
            omega
        have := key (rowsL l)
        rw [List.length_map]
        show _ + (rowsL l).length * 1 ≤ _
        omega
      have hlen : (textR (rowsL l)).length ≤ 1000 := by omega
      refine gs_freeze 4 rfl ?_
      refine gs_cons (g1_set 7 (d := .str (S (textR (rowsL l)))) (ge_join (sep := [32]) (ys := (rowsL l).map wordR) (gsS [32]) (ge_is (gv 4) (by rw [List.map_map]; rfl)) hsum) ?_ nd)
      refine gs_cons (g1_if (k := false) (gt_is (gt_w (gw_or (gt_cmp (ge_call (can_format_log T) hr (ga_cons (gv 3) ga_nil) ⟨l, h2, rfl, rfl⟩) (gv 7) c_neSS) fun _ => gw_or1 (gt_cmp (ge_call (can_parse_log T) hr (ga_cons (gv 7) ga_nil) (.inl ⟨textR (rowsL l), hlen, by rw [prsL_text h2]; omega, rfl, by rw [prs_text h2, if_pos rfl, prsL_text h2]⟩)) (gv 3) c_neSS))) (by simp)) (fun z => by cases z) fun _ => gs_nil ?_)
      refine gs_cons (g1_set 8 (ge_call (can_bad T) hr (ga_cons (gv 2) (ga_cons (gv 3) ga_nil)) ⟨r, l, v, by omega, rfl, rfl⟩) ?_ nd)
      have sh : shap (.list [.str (S l), .str (S (picL r l))]) = true := shap_of 1 (by
        have e1 : forall c, c ∈ l -> c < 1114112 := fun c hc => by
          unfold isLogL at h2
          rw [Bool.and_eq_true, List.all_eq_true] at h2
          have := h2.2 c hc
          simp [isSg] at this
          omega
        have e2 : forall c, c ∈ picL r l -> c < 1114112 := fun c hc => by
          obtain ⟨k, _, rfl⟩ := List.mem_map.mp hc
          split <;> decide
        simp [shN, shAll, lay_str e1, lay_str e2])
      refine gs_cons (g1_if (k := false) (gt_is (gt_cmp (ge_call (can_picture T) hr (ga_cons (gv 2) (ga_cons (gv 3) ga_nil)) ⟨r, l, h1, h2, rfl, rfl⟩) (ge_lst (ga_cons (gv 3) (ga_cons (ge_joinC (l := picL r l) (gsS []) (ge_is (lc (List.range l.length) (fun i => .int (i : Nat)) (fun k => .str (S [if k ∈ faultsL r l then 33 else 46])) (T := .nm 6) [("k", 6)] (gi_rng1 (n := (l.length : Nat)) T.fr_range (ga_cons (ge_lenS T.fr_len (gv 3) (by omega)) ga_nil) (by omega) (by omega)) nd (by rw [List.length_range]; omega) (fun _ _ _ _ _ => tg_nm 6 nd) fun j x hx => ⟨_, rfl, fun _ _ _ _ _ => ge_if (gt_cmp (gv 6) (ge_is (gv 8) (ints_is3 _)) c_inL) (fun h => ?_) fun h => ?_⟩) (by unfold picL; rw [List.map_map]; rfl)) (by unfold picL; rw [List.length_map, List.length_range]; omega)) ga_nil))) (c_neD hu sh sh)) (by rw [eqv_same sh]; rfl)) (fun z => by cases z) fun _ => gs_nil (gs_nil ⟨_, _, _, _, _, _, _, _, _, _, rfl⟩))
      · have hm : x ∈ faultsL r l := by
          obtain ⟨y, hy, e⟩ := List.mem_map.mp (of_decide_eq_true h)
          have : y = x := by omega
          exact this ▸ hy
        rw [if_pos hm]
        exact gsS [33]
      · have hm : x ∉ faultsL r l := fun z => of_decide_eq_false h (List.mem_map.mpr ⟨x, z, rfl⟩)
        rw [if_neg hm]
        exact gsS [46]
  rintro ρ1 ⟨x1, x2, x3, x4, x5, x6, x7, x8, x9, x10, rfl⟩
  refine gsl_cons (g1_own 9 (ga_cons ge_non (ga_cons ge_int (ga_cons (gsS [32]) (ga_cons (gsS [68]) (ga_cons (gsS [52]) (ga_cons (gsS [52, 68, 50, 82]) (ga_cons (gsS [52, 68, 32, 32, 50, 82]) (ga_cons (gsS [32, 52, 68]) (ga_cons (gsS [52, 68, 32]) (ga_cons (gsS [48, 52, 68]) (ga_cons (gsS [48, 68]) (ga_cons (gsS [52, 68, 32, 49, 68]) (ga_cons (gsS [52, 88]) (ga_cons (gsS [52, 100]) (ga_cons (gsS [54, 49, 68]) (ga_cons (gsS [51, 48, 68, 32, 51, 49, 82]) ga_nil)))))))))))))))) ?_ nd)
  refine gsl_cons (g1_extend 9 rfl (ge_lst (ga_cons (gsS [52, 68, 44, 50, 82]) (ga_cons (gsS [45, 52, 68]) (ga_cons (gsS [52, 68, 32, 50, 82, 10]) (ga_cons (gsS [49, 48, 48, 68]) (ga_cons (gsS [68, 52]) (ga_cons (gsS [52, 32, 68]) (ga_cons (gsS [49, 68, 32, 49, 68]) (ga_cons (gsS [52, 46, 48, 68]) (ga_cons (gsS [52, 68, 68]) ga_nil)))))))))) (by show 16 + 9 ≤ 100000; decide) ?_)
  refine gsl_freeze 9 rfl ?_
  refine gsl_consL (g1l_for (wr1 ++ wr2) (fun d => d) (Tt := .nm 10) hn (gi_eqL (gi_lst (gv 9)) (by rw [List.map_id']; rfl)) (tg_nm 10 nd)
    (fun i ρ => ∃ x10, ρ = [.dat (scrD ns), x1, x2, x3, x4, x5, x6, x7, x8, .dat (.list (wr1 ++ wr2)), x10]) ⟨_, rfl⟩ ?_ ?_ (passes_of rfl))
  · rintro i d ρ1 hd ⟨x10, rfl⟩
    refine ⟨_, rfl, ?_⟩
    refine gsl_consL (g1l_if (k := false) (gtl_not (k := true) (gtl_val (gbl_lam1 (kt := 3) (fr := ["value"]) (js := [10]) (ds := [d]) (c := (He.cT K ("law", none)).1) (P := (He.cT K ("law", none)).2) (C := He.ga K "ParseError") hn (can_all T 3) hr ⟨tb _ (List.mem_map.mpr ⟨("law", none), by decide +kernel, rfl⟩), rfl, List.mem_map.mpr ⟨("law", none), by decide +kernel, rfl⟩, ?_, LamX.lamS_by (by kernel_rfl), rfl, NdefX.nscope_by (by kernel_rfl), rfl, fun _ => rfl⟩ rfl (fun _ _ _ _ _ => rfl) (fun q cl c' f A outer s H E N' hr' hx' => ?_) ⟨by decide +kernel, rfl⟩))) (fun z => by cases z) fun _ => gsl_nil (gsl_nil ⟨_, rfl⟩))
    · intro p hp _
      obtain ⟨d, hd, rfl⟩ := List.mem_map.mp hp
      have e : d = (("law" : Str), (none : Option Str)) := List.mem_singleton.mp hd
      rw [e]
      rfl
    · exact gx_call (can_parse_log T) hr' (ga_cons (gv 0) ga_nil) (wr_parse (List.mem_of_getElem? hd)) hx' trivial
  · rintro ρ1 ⟨x10, rfl⟩
    obtain ⟨p1, p2, p3, p4, p5, p6⟩ := parse_fix
    refine gsl_of (gs_cons (g1_ret (ge_and (ge_cmp (ge_call (can_parse_log T) hr (ga_cons (gsS [52, 68, 32, 50, 82, 32, 49, 68]) ga_nil) (.inl ⟨_, by decide, by rw [p2]; decide, rfl, by rw [p1, if_pos rfl, p2]⟩)) (gsS [68, 68, 68, 68, 82, 82, 68]) c_eqSS) fun _ => ge_and (ge_cmp (ge_call (can_parse_log T) hr (ga_cons (gsS []) ga_nil) (.inl ⟨_, by decide, by rw [p4]; decide, rfl, by rw [p3, if_pos rfl, p4]⟩)) (gsS []) c_eqSS) fun _ => ge_one (ge_cmp (ge_call (can_parse_log T) hr (ga_cons (gsS [54, 48, 87]) ga_nil) (.inl ⟨_, by decide, by rw [p6]; decide, rfl, by rw [p5, if_pos rfl, p6]⟩)) (ge_bin (gsS [87]) ge_int (b_mulS (by decide) (by decide) (by decide))) c_eqSS)) ?_))
    rfl
end
end Lw

namespace Lw
open PySem PySem.Spec L2 Gd
def looseL : List Str := (["RestError", "InvalidRules", "InvalidLog", "InvalidLength", "InvalidMany", "InvalidDuty", "InvalidPrices", "InvalidHours", "TooLong", "TooLarge", "NothingToUndo", "ParseError", "MAX_STINT", "MAX_PAUSE", "MAX_DAILY", "MAX_NIGHT", "MAX_LOG", "DRIVE", "REST", "SIGNS", "is_int", "is_rules", "is_log", "check_rules", "check_log", "check_both", "START", "rest_once", "end_run", "step"] : List Str) ++ (["all_states", "is_over", "find_faults", "BETWEEN", "DIGITS", "MAX_DIGITS", "log_text", "format_log", "read_row", "parse_log", "picture", "_law_pick", "_law_form", "_law_row", "_law_count", "_law_bad", "_law_class", "_law_result", "_law_all"] : List Str)
abbrev Rw : PySem.W.OpenRow := PySem.W.OpenLaw.row PySem.Challenge.rw_restrules_k64_formats
abbrev hkL : PySem.W.Hook := hookT 4 chkL fnL tfL
set_option maxHeartbeats 0 in
theorem runL (w : World) : HandSHeadRun.RunEq Rw (PySem.W.view Rw.prog [54]) hkL (obT 4 chkL fnL tfL) 4000 looseL w := by
  intro os
  kernel_rfl
theorem endL {w : World} {K : PySem.W.Frag} {h : Heap} {mg : Str -> Option Value} {f : Addr} (X : K.In h) (G : h.Ns mainGlobals mg) (hf : mg ("law" : Str) = some (.ref f)) (c : seenG chkL fnL K = He.valD fnL) :
    ∃ fd : FuncData, (forall (s : Shared) (v : Value), BindsTo s fd ⟨[v], []⟩ [("script", v)]) ∧ forall base : Heap, (forall p, p ∈ tfL.map (He.cT K) -> LamX.TabB base mg p.1 p.2) -> FnOk PySem.Challenge.rw_restrules_k64_formats.prog w K mg base (L2.CX PySem.Challenge.rw_restrules_k64_formats.prog w) 7 f fd ["script"] (spL K (tabsN K tfL)) := by
  have T : Tp K mg := ⟨c, h, X, G⟩
  obtain ⟨fd, F⟩ := T.fn_law
  have e := hf.symm.trans T.gl_law
  cases e
  exact ⟨fd, fun s v => F.bindsA (ps := ["script"]) (fun _ _ _ _ _ _ us hl => match us, hl with | [_], _ => rfl) s [v] rfl, fun base tb => ok_law T F tb⟩
end Lw
open PySem PySem.W PySem.Calls PyProof.Rows
set_option maxHeartbeats 0 in
theorem PySem.Challenge.cw_restrules_k64_formats_holds : PySem.Challenge.rw_restrules_k64_formats.Holds := by
  w_on; o_law
  refine HandSHeadRun.head_any (r := OpenLaw.row PySem.Challenge.rw_restrules_k64_formats) (q := view (OpenLaw.row PySem.Challenge.rw_restrules_k64_formats).prog [54]) (H := Lw.hkL) (ob := Gd.obT 4 Lw.chkL Lw.fnL Lw.tfL) (M := 4000) (loose := Lw.looseL) (d := HandSHeadRun.topDef (OpenLaw.row PySem.Challenge.rw_restrules_k64_formats).prog 54) (kwd := []) Gd.obT_eq
    (by kernel_rfl) (fun s => by kernel_rfl) Lw.runL (by kernel_rfl) (by kernel_rfl) (by kernel_rfl) (by rfl) (by first | assumption | decide +kernel) (by decide +kernel) ⟨rfl, rfl, rfl, rfl, rfl, by decide +kernel⟩ ?hw ?hc
  case hw => w_witness2
  case hc =>
    refine LamX.walk_ofTsE (l := PySem.Challenge.rw_restrules_k64_formats) (CX := fun w => L2.CX PySem.Challenge.rw_restrules_k64_formats.prog w) (n := 63) (k := 7) (x := "script") rfl (by decide) (by kernel_rfl) ⟨rfl, by decide, by decide⟩ ?F (fun w H s e s' h => Gd.no_out H s e s' h)
    intro w mg fa h Y G hmg0
    obtain ⟨K, KX, c, tf⟩ := Y
    have hmg : mg ("law" : PySem.Str) = some (.ref fa) := by
      have e : (HandSHeadRun.topDef (OpenLaw.row PySem.Challenge.rw_restrules_k64_formats).prog 54).name = ("law" : PySem.Str) := by kernel_rfl
      rw [← e]
      exact hmg0
    obtain ⟨fd, hb, hF⟩ := Lw.endL (w := w) KX G hmg c
    refine ⟨K, KX, fd, Lw.tfL.map (He.cT K), _, fun p hp => ?_, fun p hp => ?_, fun p hp => ?_, hb, fun H a ns hl _ hT hS => ⟨a, ns, rfl, hl, hS, fun p hp => ?_, fun _ => rfl⟩, fun base _ _ tb => hF base tb⟩
    · obtain ⟨d, hd, rfl⟩ := List.mem_map.mp hp
      exact tf.empty d hd
    · obtain ⟨d, hd, rfl⟩ := List.mem_map.mp hp
      exact tf.out d hd
    · obtain ⟨d, hd, rfl⟩ := List.mem_map.mp hp
      exact codeHd_of_K KX (tf.hd d hd)
    · obtain ⟨d, hd, rfl⟩ := List.mem_map.mp hp
      exact hT (He.cT K d) (List.mem_map.mpr ⟨d, hd, rfl⟩)
