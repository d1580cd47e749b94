import PyProof.Rows.All
import Wide.All
import OpenK.AllK
import Wide.FinOn
import HandS.ForMost
import HandS.Deep
import HandS.Style
import HandS.IsInst
import HandS.Ends
import HandS.TupAny
import HandS.Text
import HandS.GenList
import PySem.Challenge.RW_lyingstandins_k06_way
set_option Elab.async false
set_option linter.all false
set_option maxRecDepth 100000
set_option maxHeartbeats 4000000
/-! The layer Y: a def of the text read as a Lean function over plain data. -/
namespace Y
open PySem PySem.Spec PyProof.Rows L2
/-! ### data in a heap that is never written -/
section
variable (K : PySem.W.Frag) (H : Hp)
mutual
inductive Dq : V → PyData → Prop
  | non : Dq .non .none
  | bl (b : Bool) : Dq (.bl b) (.bool b)
  | int (i : Int) : Dq (.int i) (.int i)
  | str (x : Str) : Dq (.str x) (.str x)
  | lst {a : Addr} {xs : List V} {ds : List PyData} : H a = some (.lst xs) → DqAll xs ds → Dq (.ref a) (.list ds)
  | tup {a : Addr} {xs : List V} {ds : List PyData} : SqT K H a xs → DqAll xs ds → Dq (.ref a) (.tuple ds)
inductive DqAll : List V → List PyData → Prop
  | nil : DqAll [] []
  | cons {v : V} {vs : List V} {d : PyData} {ds : List PyData} : Dq v d → DqAll vs ds → DqAll (v :: vs) (d :: ds)
end
end
theorem sqT_mono {K : PySem.W.Frag} {H H' : Hp} {a : Addr} {xs : List V} (e : Same H H') (h : SqT K H a xs) : SqT K H' a xs := by
  rcases h with (h | ⟨o, h⟩) | h
  · exact .inl (.inl (e _ _ h))
  · exact .inl (.inr ⟨o, e _ _ h⟩)
  · exact .inr h
mutual
theorem Dq.mono {K : PySem.W.Frag} {H H' : Hp} (e : Same H H') : ∀ {v : V} {d : PyData}, Dq K H v d → Dq K H' v d
  | _, _, .non => .non
  | _, _, .bl b => .bl b
  | _, _, .int i => .int i
  | _, _, .str x => .str x
  | _, _, .lst h q => .lst (e _ _ h) (DqAll.mono e q)
  | _, _, .tup h q => .tup (sqT_mono e h) (DqAll.mono e q)
theorem DqAll.mono {K : PySem.W.Frag} {H H' : Hp} (e : Same H H') : ∀ {vs : List V} {ds : List PyData}, DqAll K H vs ds → DqAll K H' vs ds
  | _, _, .nil => .nil
  | _, _, .cons h q => .cons (Dq.mono e h) (DqAll.mono e q)
end
mutual
theorem Dq.dp {K : PySem.W.Frag} {H : Hp} : ∀ {v : V} {d : PyData}, Dq K H v d → Dp K H v d
  | _, _, .non => .non
  | _, _, .bl b => .bl b
  | _, _, .int i => .int i
  | _, _, .str x => .str x
  | _, _, .lst h q => .lst (SqL.of h) (DqAll.dp q)
  | _, _, .tup h q => .tup h (DqAll.dp q)
theorem DqAll.dp {K : PySem.W.Frag} {H : Hp} : ∀ {vs : List V} {ds : List PyData}, DqAll K H vs ds → DpAll K H vs ds
  | _, _, .nil => .nil
  | _, _, .cons h q => .cons (Dq.dp h) (DqAll.dp q)
end
theorem DqAll.length {K : PySem.W.Frag} {H : Hp} : ∀ {vs : List V} {ds : List PyData}, DqAll K H vs ds → vs.length = ds.length
  | _, _, .nil => rfl
  | _, _, .cons _ q => by rw [List.length_cons, List.length_cons, DqAll.length q]
theorem DqAll.get {K : PySem.W.Frag} {H : Hp} : ∀ {vs : List V} {ds : List PyData} {i : Nat} {d : PyData}, DqAll K H vs ds → ds[i]? = some d → ∃ v, vs[i]? = some v ∧ Dq K H v d
  | _, _, _, _, .nil, e => by simp at e
  | _, _, 0, _, .cons h _, e => by
    simp at e
    subst e
    exact ⟨_, rfl, h⟩
  | _, _, i + 1, _, .cons _ q, e => by
    obtain ⟨v, h1, h2⟩ := DqAll.get (i := i) q (by simpa using e)
    exact ⟨v, by simpa using h1, h2⟩
theorem DqAll.app {K : PySem.W.Frag} {H : Hp} : ∀ {vs : List V} {ds : List PyData} {vs' : List V} {ds' : List PyData}, DqAll K H vs ds → DqAll K H vs' ds' → DqAll K H (vs ++ vs') (ds ++ ds')
  | _, _, _, _, .nil, r => r
  | _, _, _, _, .cons h q, r => .cons h (DqAll.app q r)
theorem DqAll.take {K : PySem.W.Frag} {H : Hp} : ∀ {vs : List V} {ds : List PyData} (n : Nat), DqAll K H vs ds → DqAll K H (vs.take n) (ds.take n)
  | _, _, 0, _ => .nil
  | _, _, _ + 1, .nil => .nil
  | _, _, n + 1, .cons h q => .cons h (DqAll.take n q)
theorem DqAll.drop {K : PySem.W.Frag} {H : Hp} : ∀ {vs : List V} {ds : List PyData} (n : Nat), DqAll K H vs ds → DqAll K H (vs.drop n) (ds.drop n)
  | _, _, 0, r => r
  | _, _, _ + 1, .nil => .nil
  | _, _, n + 1, .cons _ q => DqAll.drop n q
theorem DqAll.reverse {K : PySem.W.Frag} {H : Hp} : ∀ {vs : List V} {ds : List PyData}, DqAll K H vs ds → DqAll K H vs.reverse ds.reverse
  | _, _, .nil => .nil
  | _, _, .cons h q => by
    rw [List.reverse_cons, List.reverse_cons]
    exact (DqAll.reverse q).app (.cons h .nil)
/-! ### values, cells, the state -/
inductive Vl where
  | dat (d : PyData)
  | obj (n : Nat)
  | scr (ns : List Int)
inductive Cell where
  | lst (xs : List Vl)
  | dct (kvs : List (Str × Vl))
  | ins (c : Nat) (fs : List (Str × Vl))
  | gone
abbrev Sto := List Cell
abbrev Ev := List (Option Vl)
structure Gs where
  Hf : Hp
  m : Nat → Addr
  S : Sto
  H : Hp
def RV (K : PySem.W.Frag) (g : Gs) : Vl → V → Prop
  | .dat d, v => Dq K g.Hf v d
  | .obj i, v => i < g.S.length ∧ v = .ref (g.m i)
  | .scr ns, v => ∃ a, v = .ref a ∧ SqL K g.Hf a (ns.map V.int)
abbrev RVs (K : PySem.W.Frag) (g : Gs) : List Vl → List V → Prop := Paired (RV K g)
def CellOk (K : PySem.W.Frag) (cm : Nat → Addr) (g : Gs) (a : Addr) : Cell → Prop
  | .lst xs => ∃ vs, g.H a = some (.lst vs) ∧ RVs K g xs vs
  | .dct kvs => ∃ us, g.H a = some (.dK us) ∧ Paired (fun (p : Str × Vl) (q : Key × V) => q.1 = .inr p.1 ∧ RV K g p.2 q.2) kvs us
  | .ins c fs => ∃ dx us, g.H a = some (.ins (cm c) dx us) ∧ Paired (fun (p : Str × Vl) (q : Str × V) => q.1 = p.1 ∧ RV K g p.2 q.2) fs us
  | .gone => ∃ o, g.H a = some o
theorem CellOk.there {K : PySem.W.Frag} {cm : Nat → Addr} {g : Gs} {a : Addr} {c : Cell} (h : CellOk K cm g a c) : ∃ o, g.H a = some o := by
  cases c with
  | lst xs => obtain ⟨vs, e, _⟩ := h; exact ⟨_, e⟩
  | dct kvs => obtain ⟨vs, e, _⟩ := h; exact ⟨_, e⟩
  | ins c fs => obtain ⟨dx, vs, e, _⟩ := h; exact ⟨_, e⟩
  | gone => exact h
structure Gs.ok (K : PySem.W.Frag) (cm : Nat → Addr) (g : Gs) : Prop where
  frz : Same g.Hf g.H
  live : ∀ i c, g.S[i]? = some c → c ≠ .gone → g.Hf (g.m i) = none
  inj : ∀ i j, i < g.S.length → j < g.S.length → g.m i = g.m j → i = j
  cell : ∀ i c, g.S[i]? = some c → CellOk K cm g (g.m i) c
theorem Gs.ok.has {K : PySem.W.Frag} {cm : Nat → Addr} {g : Gs} (h : g.ok K cm) {i : Nat} (hi : i < g.S.length) : ∃ o, g.H (g.m i) = some o :=
  (h.cell i _ (List.getElem?_eq_getElem hi)).there
/-- from g to g' -/
structure Stp (g g' : Gs) : Prop where
  mm : ∀ i, i < g.S.length → g'.m i = g.m i
  len : g.S.length ≤ g'.S.length
  hf : Same g.Hf g'.Hf
  new : ∀ a, g'.Hf a ≠ none → g.Hf a ≠ none ∨ g.H a = none ∨ ∃ i, i < g.S.length ∧ a = g.m i
  cel : ∀ i, g.S.length ≤ i → i < g'.S.length → g.H (g'.m i) = none
  oth : ∀ a o, g.H a = some o → (∀ i, i < g.S.length → a ≠ g.m i) → g'.H a = some o
theorem Stp.refl (g : Gs) : Stp g g := ⟨fun _ _ => rfl, Nat.le_refl _, Same.refl _, fun _ h => .inl h, fun i h h' => absurd h (Nat.not_le_of_lt h'), fun _ _ h _ => h⟩
theorem Stp.back {K : PySem.W.Frag} {cm : Nat → Addr} {g g1 : Gs} (k : g1.ok K cm) (a : Stp g g1) {b : Addr} (h : g1.H b = none) : g.H b = none := by
  cases q : g.H b with
  | none => rfl
  | some o =>
    by_cases hc : ∃ i, i < g.S.length ∧ b = g.m i
    · obtain ⟨i, hi, rfl⟩ := hc
      obtain ⟨o', e⟩ := k.has (Nat.lt_of_lt_of_le hi a.len)
      rw [a.mm i hi, h] at e
      cases e
    · have := a.oth b o q fun i hi e => hc ⟨i, hi, e⟩
      rw [h] at this
      cases this
theorem Stp.trans {K : PySem.W.Frag} {cm : Nat → Addr} {g g1 g2 : Gs} (k : g1.ok K cm) (a : Stp g g1) (b : Stp g1 g2) : Stp g g2 where
  mm := fun i hi => (b.mm i (Nat.lt_of_lt_of_le hi a.len)).trans (a.mm i hi)
  len := Nat.le_trans a.len b.len
  hf := a.hf.trans b.hf
  new := fun c h => by
    rcases b.new c h with h1 | h1 | ⟨i, hi, e⟩
    · exact a.new c h1
    · exact .inr (.inl (a.back k h1))
    · by_cases h0 : i < g.S.length
      · exact .inr (.inr ⟨i, h0, e.trans (a.mm i h0)⟩)
      · exact .inr (.inl (by rw [e]; exact a.cel i (Nat.le_of_not_lt h0) hi))
  cel := fun i h1 h2 => by
    by_cases hi : i < g1.S.length
    · rw [b.mm i hi]
      exact a.cel i h1 hi
    · exact a.back k (b.cel i (Nat.le_of_not_lt hi) h2)
  oth := fun c o h hn => by
    refine b.oth c o (a.oth c o h hn) fun i hi e => ?_
    by_cases h1 : i < g.S.length
    · exact hn i h1 (e.trans (a.mm i h1))
    · have := a.cel i (Nat.le_of_not_lt h1) hi
      rw [← e, h] at this
      cases this
/-- values keep their meaning -/
structure Wk (g g' : Gs) : Prop where
  mm : ∀ i, i < g.S.length → g'.m i = g.m i
  len : g.S.length ≤ g'.S.length
  hf : Same g.Hf g'.Hf
theorem Stp.wk {g g' : Gs} (s : Stp g g') : Wk g g' := ⟨s.mm, s.len, s.hf⟩
theorem Wk.refl (g : Gs) : Wk g g := ⟨fun _ _ => rfl, Nat.le_refl _, Same.refl _⟩
theorem Wk.trans {g g1 g2 : Gs} (a : Wk g g1) (b : Wk g1 g2) : Wk g g2 := ⟨fun i hi => (b.mm i (Nat.lt_of_lt_of_le hi a.len)).trans (a.mm i hi), Nat.le_trans a.len b.len, a.hf.trans b.hf⟩
theorem RV.wk {K : PySem.W.Frag} {g g' : Gs} (s : Wk g g') : ∀ {x : Vl} {v : V}, RV K g x v → RV K g' x v
  | .dat _, _, h => Dq.mono s.hf h
  | .obj i, _, ⟨h, e⟩ => ⟨Nat.lt_of_lt_of_le h s.len, by rw [s.mm i h]; exact e⟩
  | .scr _, _, ⟨a, e, h⟩ => ⟨a, e, s.hf.seq h⟩
theorem RVs.wk {K : PySem.W.Frag} {g g' : Gs} (s : Wk g g') {xs : List Vl} {vs : List V} (h : RVs K g xs vs) : RVs K g' xs vs := Paired.mapP h fun _ _ r => RV.wk s r
theorem RV.mono {K : PySem.W.Frag} {g g' : Gs} (s : Stp g g') : ∀ {x : Vl} {v : V}, RV K g x v → RV K g' x v
  | .dat _, _, h => Dq.mono s.hf h
  | .obj i, _, ⟨h, e⟩ => ⟨Nat.lt_of_lt_of_le h s.len, by rw [s.mm i h]; exact e⟩
  | .scr _, _, ⟨a, e, h⟩ => ⟨a, e, s.hf.seq h⟩
theorem RVs.mono {K : PySem.W.Frag} {g g' : Gs} (s : Stp g g') {xs : List Vl} {vs : List V} (h : RVs K g xs vs) : RVs K g' xs vs := Paired.mapP h fun _ _ r => RV.mono s r
theorem CellOk.mono {K : PySem.W.Frag} {cm : Nat → Addr} {g g' : Gs} (s : Stp g g') {a : Addr} (e : g'.H a = g.H a) : ∀ {c : Cell}, CellOk K cm g a c → CellOk K cm g' a c
  | .lst _, ⟨vs, h, r⟩ => ⟨vs, e.trans h, RVs.mono s r⟩
  | .dct _, ⟨us, h, r⟩ => ⟨us, e.trans h, Paired.mapP r fun _ _ q => ⟨q.1, RV.mono s q.2⟩⟩
  | .ins _ _, ⟨dx, us, h, r⟩ => ⟨dx, us, e.trans h, Paired.mapP r fun _ _ q => ⟨q.1, RV.mono s q.2⟩⟩
  | .gone, ⟨o, h⟩ => ⟨o, e.trans h⟩
theorem same_upd {H : Hp} {p : Addr} {o : HO} (h : H p = none) : Same H (upd H p o) := fun b x e => by
  rw [upd_ne (ne_of_none e h)]
  exact e
section
variable {K : PySem.W.Frag} {cm : Nat → Addr} {g : Gs} {p : Addr} {o : HO}
/-- new data that is never written -/
def Gs.frz (g : Gs) (p : Addr) (o : HO) : Gs := ⟨upd g.Hf p o, g.m, g.S, upd g.H p o⟩
theorem Gs.ok.hfn (k : g.ok K cm) (h : g.H p = none) : g.Hf p = none := k.frz.free h
theorem Gs.ok.frz_stp (k : g.ok K cm) (h : g.H p = none) : Stp g (g.frz p o) where
  mm := fun _ _ => rfl
  len := Nat.le_refl _
  hf := same_upd (k.hfn h)
  new := fun a ha => by
    by_cases e : a = p
    · exact .inr (.inl (e ▸ h))
    · have : upd g.Hf p o a ≠ none := ha
      rw [upd_ne e] at this
      exact .inl this
  cel := fun i h1 h2 => absurd h2 (Nat.not_lt_of_le h1)
  oth := fun a u e _ => same_upd h a u e
theorem Gs.ok.frz_ok (k : g.ok K cm) (h : g.H p = none) : (g.frz p o).ok K cm where
  frz := fun b x e => by
    have e' : upd g.Hf p o b = some x := e
    show upd g.H p o b = some x
    by_cases hb : b = p
    · rw [hb, upd_same] at e' ⊢
      exact e'
    · rw [upd_ne hb] at e' ⊢
      exact k.frz _ _ e'
  live := fun i c e hg => by
    obtain ⟨u, hu⟩ := (k.cell i c e).there
    show upd g.Hf p o (g.m i) = none
    rw [upd_ne (ne_of_none hu h)]
    exact k.live i c e hg
  inj := k.inj
  cell := fun i c e => by
    have hc := k.cell i c e
    obtain ⟨u, hu⟩ := hc.there
    refine hc.mono (k.frz_stp h) ?_
    show upd g.H p o (g.m i) = _
    rw [upd_ne (ne_of_none hu h)]
/-- a new cell -/
def Gs.alo (g : Gs) (p : Addr) (o : HO) (c : Cell) : Gs := ⟨g.Hf, fun i => if i = g.S.length then p else g.m i, g.S ++ [c], upd g.H p o⟩
theorem Gs.alo_m {c : Cell} {i : Nat} (hi : i < g.S.length) : (g.alo p o c).m i = g.m i := if_neg (Nat.ne_of_lt hi)
theorem Gs.alo_n {c : Cell} : (g.alo p o c).m g.S.length = p := if_pos rfl
theorem Gs.alo_stp {c : Cell} (h : g.H p = none) : Stp g (g.alo p o c) where
  mm := fun i hi => Gs.alo_m hi
  len := by show g.S.length ≤ (g.S ++ [c]).length; rw [List.length_append]; exact Nat.le_add_right _ _
  hf := Same.refl _
  new := fun _ h => .inl h
  cel := fun i h1 h2 => by
    have : i < (g.S ++ [c]).length := h2
    rw [List.length_append, List.length_singleton] at this
    have e : i = g.S.length := by omega
    rw [e, Gs.alo_n]
    exact h
  oth := fun a u e _ => same_upd h a u e
theorem Gs.ok.alo_ok {c : Cell} (k : g.ok K cm) (h : g.H p = none) (hc : CellOk K cm (g.alo p o c) p c) : (g.alo p o c).ok K cm := by
  have hl : ∀ i, i < (g.alo p o c).S.length → i < g.S.length ∨ i = g.S.length := fun i hi => by
    have : i < (g.S ++ [c]).length := hi
    rw [List.length_append, List.length_singleton] at this
    omega
  have ne : ∀ i, i < g.S.length → g.m i ≠ p := fun i hi => by
    obtain ⟨u, hu⟩ := k.has hi
    exact ne_of_none hu h
  refine ⟨fun b x e => same_upd h _ _ (k.frz _ _ e), fun i d e hg => ?_, fun i j hi hj e => ?_, fun i d e => ?_⟩
  · have e' : (g.S ++ [c])[i]? = some d := e
    rcases hl i (List.getElem?_eq_some_iff.mp e').1 with hi | rfl
    · rw [List.getElem?_append_left hi] at e'
      rw [Gs.alo_m hi]; exact k.live i d e' hg
    · rw [Gs.alo_n]; exact k.hfn h
  · rcases hl i hi with hi | rfl
    · rcases hl j hj with hj | rfl
      · rw [Gs.alo_m hi, Gs.alo_m hj] at e; exact k.inj i j hi hj e
      · rw [Gs.alo_m hi, Gs.alo_n] at e; exact absurd e (ne i hi)
    · rcases hl j hj with hj | rfl
      · rw [Gs.alo_m hj, Gs.alo_n] at e; exact absurd e.symm (ne j hj)
      · rfl
  · have e' : (g.S ++ [c])[i]? = some d := e
    by_cases hi : i < g.S.length
    · rw [List.getElem?_append_left hi] at e'
      rw [Gs.alo_m hi]
      refine (k.cell i d e').mono (Gs.alo_stp h) ?_
      show upd g.H p o (g.m i) = _
      rw [upd_ne (ne i hi)]
    · have hlt : i < (g.S ++ [c]).length := (List.getElem?_eq_some_iff.mp e').1
      rw [List.length_append, List.length_singleton] at hlt
      have ei : i = g.S.length := by omega
      subst ei
      rw [List.getElem?_append_right (Nat.le_refl _), Nat.sub_self] at e'
      cases e'
      rw [Gs.alo_n]
      exact hc
/-- a cell is written -/
def Gs.wri (g : Gs) (i : Nat) (o : HO) (c : Cell) : Gs := ⟨g.Hf, g.m, g.S.set i c, upd g.H (g.m i) o⟩
theorem Gs.ok.wri_stp {i : Nat} {c : Cell} (k : g.ok K cm) (hi : i < g.S.length) : Stp g (g.wri i o c) where
  mm := fun _ _ => rfl
  len := by show g.S.length ≤ (g.S.set i c).length; rw [List.length_set]; exact Nat.le_refl _
  hf := Same.refl _
  new := fun _ h => .inl h
  cel := fun j h1 h2 => by
    have : j < (g.S.set i c).length := h2
    rw [List.length_set] at this
    omega
  oth := fun a u e hn => by
    show upd g.H (g.m i) o a = _
    rw [upd_ne (hn i hi)]
    exact e
theorem Gs.ok.wri_ok {i : Nat} {c : Cell} (k : g.ok K cm) (hi : i < g.S.length) (hg : g.S[i]? ≠ some .gone) (hc : CellOk K cm (g.wri i o c) (g.m i) c) : (g.wri i o c).ok K cm := by
  have hl : ∀ j, j < (g.wri i o c).S.length → j < g.S.length := fun j hj => by
    have : j < (g.S.set i c).length := hj
    rwa [List.length_set] at this
  have hlv : g.Hf (g.m i) = none := k.live i _ (List.getElem?_eq_getElem hi) fun z => hg (by rw [List.getElem?_eq_getElem hi, z])
  refine ⟨fun b x e => ?_, fun j d e hd => ?_, fun j l hj hl' e => k.inj j l (hl j hj) (hl l hl') e, fun j d e => ?_⟩
  · have hb : b ≠ g.m i := fun z => by
      have := hlv
      rw [← z] at this
      have e' : g.Hf b = some x := e
      rw [this] at e'
      cases e'
    show upd g.H (g.m i) o b = some x
    rw [upd_ne hb]
    exact k.frz _ _ e
  · have e' : (g.S.set i c)[j]? = some d := e
    by_cases hj : j = i
    · rw [hj]; exact hlv
    · rw [List.getElem?_set_ne (Ne.symm hj)] at e'
      exact k.live j d e' hd
  · have e' : (g.S.set i c)[j]? = some d := e
    by_cases hj : j = i
    · subst hj
      rw [List.getElem?_set_self hi] at e'
      cases e'
      exact hc
    · rw [List.getElem?_set_ne (Ne.symm hj)] at e'
      have hjl : j < g.S.length := (List.getElem?_eq_some_iff.mp e').1
      refine (k.cell j d e').mono (k.wri_stp hi) ?_
      show upd g.H (g.m i) o (g.m j) = _
      rw [upd_ne fun z => hj (k.inj j i hjl hi z)]
/-- a list's cell becomes data that is never written again -/
def Gs.fre (g : Gs) (i : Nat) (o : HO) : Gs := ⟨upd g.Hf (g.m i) o, g.m, g.S.set i .gone, g.H⟩
theorem Gs.ok.fre_ok {i : Nat} {xs : List Vl} {vs : List V} (k : g.ok K cm) (e : g.S[i]? = some (.lst xs)) (hv : g.H (g.m i) = some (.lst vs)) : (g.fre i (.lst vs)).ok K cm ∧ Stp g (g.fre i (.lst vs)) := by
  have hi : i < g.S.length := (List.getElem?_eq_some_iff.mp e).1
  have hn : g.Hf (g.m i) = none := k.live i _ e (fun z => nomatch z)
  have st : Stp g (g.fre i (.lst vs)) := by
    refine ⟨fun _ _ => rfl, ?_, same_upd hn, fun a ha => ?_, fun j h1 h2 => ?_, fun _ _ h _ => h⟩
    · show g.S.length ≤ (g.S.set i .gone).length
      rw [List.length_set]
      exact Nat.le_refl _
    · by_cases ea : a = g.m i
      · exact .inr (.inr ⟨i, hi, ea⟩)
      · have : upd g.Hf (g.m i) (.lst vs) a ≠ none := ha
        rw [upd_ne ea] at this
        exact .inl this
    · have : j < (g.S.set i .gone).length := h2
      rw [List.length_set] at this
      omega
  refine ⟨⟨fun b o h => ?_, fun j c h hg => ?_, fun j l hj hl => ?_, fun j c h => ?_⟩, st⟩
  · have h' : upd g.Hf (g.m i) (.lst vs) b = some o := h
    by_cases eb : b = g.m i
    · rw [eb, upd_same] at h'
      cases h'
      rw [eb]
      exact hv
    · rw [upd_ne eb] at h'
      exact k.frz _ _ h'
  · have h' : (g.S.set i .gone)[j]? = some c := h
    by_cases ej : j = i
    · subst ej
      rw [List.getElem?_set_self hi] at h'
      cases h'
      exact absurd rfl hg
    · rw [List.getElem?_set_ne (Ne.symm ej)] at h'
      show upd g.Hf (g.m i) (.lst vs) (g.m j) = none
      rw [upd_ne fun z => ej (k.inj j i (List.getElem?_eq_some_iff.mp h').1 hi z)]
      exact k.live j c h' hg
  · have hj' : j < (g.S.set i .gone).length := hj
    have hl' : l < (g.S.set i .gone).length := hl
    rw [List.length_set] at hj' hl'
    exact k.inj j l hj' hl'
  · have h' : (g.S.set i .gone)[j]? = some c := h
    by_cases ej : j = i
    · subst ej
      rw [List.getElem?_set_self hi] at h'
      cases h'
      exact ⟨_, hv⟩
    · rw [List.getElem?_set_ne (Ne.symm ej)] at h'
      exact (k.cell j c h').mono st rfl
end
end Y
namespace Y
open PySem PySem.Spec PyProof.Rows L2
/-! ### what a piece of the text does, as a function -/
abbrev IE := Ev → Sto → Option (Vl × Sto)
abbrev IT := Ev → Sto → Option (Bool × Sto)
abbrev IA := Ev → Sto → Option (List Vl × Sto)
abbrev IG := Vl → Ev → Sto → Option (Ev × Sto)
inductive Fl where
  | nx (e : Ev)
  | rt (v : Vl)
  | bk (e : Ev)
  | ct (e : Ev)
abbrev IS := Ev → Sto → Option (Fl × Sto)
def EnvR (K : PySem.W.Frag) (g : Gs) (ε : Ev) (σ : L2.St) : Prop := ε.length = σ.length ∧ ∀ (i : Nat) (x : Vl), ε[i]? = some (some x) → ∃ v, σ[i]? = some (some v) ∧ RV K g x v
theorem EnvR.mono {K : PySem.W.Frag} {g g' : Gs} (s : Stp g g') {ε : Ev} {σ : L2.St} (h : EnvR K g ε σ) : EnvR K g' ε σ :=
  ⟨h.1, fun i x e => let ⟨v, e1, r⟩ := h.2 i x e; ⟨v, e1, r.mono s⟩⟩
theorem EnvR.wk {K : PySem.W.Frag} {g g' : Gs} (s : Wk g g') {ε : Ev} {σ : L2.St} (h : EnvR K g ε σ) : EnvR K g' ε σ :=
  ⟨h.1, fun i x e => let ⟨v, e1, r⟩ := h.2 i x e; ⟨v, e1, r.wk s⟩⟩
theorem EnvR.set {K : PySem.W.Frag} {g : Gs} {ε : Ev} {σ : L2.St} (h : EnvR K g ε σ) {x : Vl} {v : V} (r : RV K g x v) (i : Nat) : EnvR K g (ε.set i (some x)) (σ.set i (some v)) := by
  refine ⟨by rw [List.length_set, List.length_set, h.1], fun j y e => ?_⟩
  by_cases hj : i = j
  · subst hj
    have hi : i < ε.length := by
      have := (List.getElem?_eq_some_iff.mp e).1
      rwa [List.length_set] at this
    rw [List.getElem?_set_self hi] at e
    cases e
    exact ⟨v, List.getElem?_set_self (by rw [← h.1]; exact hi), r⟩
  · rw [List.getElem?_set_ne hj] at e
    obtain ⟨u, e1, r1⟩ := h.2 j y e
    exact ⟨u, by rw [List.getElem?_set_ne hj]; exact e1, r1⟩
section
variable (K : PySem.W.Frag) (cm : Nat → Addr)
def tE (f : IE) : TE := fun σ H Q => ∃ g ε x S', g.H = H ∧ g.ok K cm ∧ EnvR K g ε σ ∧ f ε g.S = some (x, S') ∧ ∀ g' v, g'.ok K cm → g'.S = S' → Stp g g' → RV K g' x v → Q v g'.H
def tT (f : IT) : TT := fun σ H Q => ∃ g ε x S', g.H = H ∧ g.ok K cm ∧ EnvR K g ε σ ∧ f ε g.S = some (x, S') ∧ ∀ g', g'.ok K cm → g'.S = S' → Stp g g' → Q x g'.H
def tA (f : IA) : TA := fun σ H Q => ∃ g ε x S', g.H = H ∧ g.ok K cm ∧ EnvR K g ε σ ∧ f ε g.S = some (x, S') ∧ ∀ g' v, g'.ok K cm → g'.S = S' → Stp g g' → RVs K g' x v → Q v g'.H
def tG (f : IG) : TG := fun v σ H Q => ∃ g ε x ε' S', g.H = H ∧ g.ok K cm ∧ EnvR K g ε σ ∧ RV K g x v ∧ f x ε g.S = some (ε', S') ∧ ∀ g' σ', g'.ok K cm → g'.S = S' → Stp g g' → EnvR K g' ε' σ' → Q σ' g'.H
def Post (D : Ends) (g' : Gs) : Fl → Prop
  | .nx ε' => ∀ σ', EnvR K g' ε' σ' → D.nx σ' g'.H
  | .bk ε' => ∀ σ', EnvR K g' ε' σ' → D.bk σ' g'.H
  | .ct ε' => ∀ σ', EnvR K g' ε' σ' → D.ct σ' g'.H
  | .rt x => ∀ v, RV K g' x v → D.rt v g'.H
def tS (f : IS) : TS := fun D σ H => ∃ g ε fl S', g.H = H ∧ g.ok K cm ∧ EnvR K g ε σ ∧ f ε g.S = some (fl, S') ∧ ∀ g', g'.ok K cm → g'.S = S' → Stp g g' → Post K D g' fl
end
abbrev XE (X : Cx) (cm : Nat → Addr) (e : Expr) (f : IE) : Prop := PE X e (tE X.K cm f)
abbrev XT (X : Cx) (cm : Nat → Addr) (e : Expr) (f : IT) : Prop := PT X e (tT X.K cm f)
abbrev XW (X : Cx) (cm : Nat → Addr) (e : Expr) (f : IT) : Prop := PW X e (tT X.K cm f)
structure XA (X : Cx) (cm : Nat → Addr) (es : List Expr) (f : IA) : Prop where
  run : PA X es (tA X.K cm f)
  len : ∀ ε S xs S', f ε S = some (xs, S') → xs.length = es.length
abbrev XG (X : Cx) (cm : Nat → Addr) (e : Expr) (f : IG) : Prop := PG X e (tG X.K cm f)
abbrev XS (X : Cx) (cm : Nat → Addr) (s : Stmt) (f : IS) : Prop := PS X s (tS X.K cm f)
abbrev XSs (X : Cx) (cm : Nat → Addr) (s : List Stmt) (f : IS) : Prop := PSs X s (tS X.K cm f)
theorem pe_weak {X : Cx} {e : Expr} {t t' : TE} (h : PE X e t) (w : ∀ σ H Q, t' σ H Q → t σ H Q) : PE X e t' := ⟨fun pins s σ H Q I q => h.run pins s σ H Q I (w σ H Q q)⟩
theorem pt_weak {X : Cx} {e : Expr} {t t' : TT} (h : PT X e t) (w : ∀ σ H Q, t' σ H Q → t σ H Q) : PT X e t' := ⟨fun pins s σ H Q I q => h.run pins s σ H Q I (w σ H Q q)⟩
theorem pw_weak {X : Cx} {e : Expr} {t t' : TT} (h : PW X e t) (w : ∀ σ H Q, t' σ H Q → t σ H Q) : PW X e t' := ⟨fun wh pins s σ H Q I q => h.run wh pins s σ H Q I (w σ H Q q)⟩
theorem pa_weak {X : Cx} {e : List Expr} {t t' : TA} (h : PA X e t) (w : ∀ σ H Q, t' σ H Q → t σ H Q) : PA X e t' := ⟨fun pos pins s σ H Q I q => h.run pos pins s σ H Q I (w σ H Q q)⟩
theorem pg_weak {X : Cx} {e : Expr} {t t' : TG} (h : PG X e t) (w : ∀ v σ H Q, t' v σ H Q → t v σ H Q) : PG X e t' := ⟨fun pins s σ H v u Q I r q => h.run pins s σ H v u Q I r (w v σ H Q q)⟩
theorem ps_weak {X : Cx} {e : Stmt} {t t' : TS} (h : PS X e t) (w : ∀ D σ H, t' D σ H → t D σ H) : PS X e t' := ⟨fun pins s σ H D I q => h.run pins s σ H D I (w D σ H q)⟩
theorem pss_weak {X : Cx} {e : List Stmt} {t t' : TS} (h : PSs X e t) (w : ∀ D σ H, t' D σ H → t D σ H) : PSs X e t' := ⟨fun pins s σ H D I q => h.run pins s σ H D I (w D σ H q)⟩
/-! ### names, constants, lists of expressions -/
@[simp] def gv : Ev → Nat → Option Vl
  | [], _ => none
  | x :: _, 0 => x
  | _ :: r, n + 1 => gv r n
theorem gv_get : ∀ {ε : Ev} {i : Nat} {x : Vl}, gv ε i = some x → ε[i]? = some (some x)
  | [], _, _, h => by cases h
  | _ :: _, 0, _, h => congrArg some h
  | _ :: r, n + 1, _, h => by
    have := gv_get (ε := r) (i := n) h
    simpa using this
@[simp] def iVar (i : Nat) : IE := fun ε S => (gv ε i).map fun x => (x, S)
@[simp] def iC (d : PyData) : IE := fun _ S => some (.dat d, S)
@[simp] def iNil : IA := fun _ S => some ([], S)
@[simp] def iCons (f : IE) (r : IA) : IA := fun ε S => (f ε S).bind fun a => (r ε a.2).map fun b => (a.1 :: b.1, b.2)
section
variable {X : Cx} {cm : Nat → Addr} {pos : Pos}
theorem xe_var (i : Nat) {x : Str} (hN : X.N[i]? = some x := by rfl) (hv : Vis X.env.scope x := by first | exact Or.inl rfl | exact Or.inr (Or.inl rfl) | exact Or.inr (Or.inr rfl)) (hd : (x == ("__debug__" : Str)) = false := by decide)
    (hcd : (x == ("__classdict__" : Str)) = false := by decide) : XE X cm (.Name x pos) (iVar i) :=
  pe_weak (pe_var hN hv hd hcd) fun σ H Q ⟨g, ε, x, S', e, k, env, h, q⟩ => by
    subst e
    cases z : gv ε i with
    | none => simp [iVar, z] at h
    | some y =>
      simp only [iVar, z, Option.map_some, Option.some.injEq, Prod.mk.injEq] at h
      obtain ⟨rfl, rfl⟩ := h
      obtain ⟨v, e1, r⟩ := env.2 i y (gv_get z)
      exact ⟨v, e1, q g v k rfl (Stp.refl g) r⟩
theorem xe_of_c {e : Expr} {v : V} {d : PyData} (h : PE X e (tC v)) (r : ∀ H : Hp, Dq X.K H v d) : XE X cm e (iC d) :=
  pe_weak h fun σ H Q ⟨g, ε, x, S', e, k, env, h, q⟩ => by
    subst e
    cases h
    exact q g v k rfl (Stp.refl g) (r _)
theorem xe_int {i j} : XE X cm (.Constant (.int i) j pos) (iC (.int i)) := xe_of_c pe_int fun _ => .int i
theorem xe_bl {b j} : XE X cm (.Constant (.bool b) j pos) (iC (.bool b)) := xe_of_c pe_bl fun _ => .bl b
theorem xe_non {j} : XE X cm (.Constant .none j pos) (iC .none) := xe_of_c pe_non fun _ => .non
theorem xe_str {x j} : XE X cm (.Constant (.str x) j pos) (iC (.str x)) := xe_of_c pe_str fun _ => .str x
theorem xa_nil : XA X cm [] iNil := ⟨pa_weak pa_nil fun σ H Q ⟨g, ε, x, S', e, k, env, h, q⟩ => by
    subst e
    cases h
    exact q g [] k rfl (Stp.refl g) .nil, fun _ _ _ _ h => by cases h; rfl⟩
theorem bind_some {α β : Type} {o : Option α} {f : α → Option β} {b : β} (h : o.bind f = some b) : ∃ a, o = some a ∧ f a = some b := Option.bind_eq_some_iff.mp h
theorem map_some' {α β : Type} {o : Option α} {f : α → β} {b : β} (h : o.map f = some b) : ∃ a, o = some a ∧ f a = b := Option.map_eq_some_iff.mp h
theorem xa_cons {e : Expr} {es : List Expr} {f : IE} {r : IA} (h1 : XE X cm e f) (h2 : XA X cm es r) (hs : starEach (e :: es) X.env = (false, eval e X.env) :: starEach es X.env := by rfl) : XA X cm (e :: es) (iCons f r) := by
  refine ⟨pa_weak (pa_cons h1 h2.run hs) fun σ H Q ⟨g, ε, x, S', e, k, env, h, q⟩ => ?_, fun ε S xs S' h => ?_⟩
  · subst e
    obtain ⟨⟨x1, S1⟩, e1, h⟩ := bind_some h
    obtain ⟨⟨x2, S2⟩, e2, h⟩ := map_some' h
    cases h
    refine ⟨g, ε, x1, S1, rfl, k, env, e1, fun g1 v1 k1 s1 st1 r1 => ?_⟩
    subst s1
    refine ⟨g1, ε, x2, S2, rfl, k1, env.mono st1, e2, fun g2 v2 k2 s2 st2 r2 => ?_⟩
    exact q g2 (v1 :: v2) k2 s2 (st1.trans k1 st2) (.cons (r1.mono st2) r2)
  · obtain ⟨⟨x1, S1⟩, e1, h⟩ := bind_some h
    obtain ⟨⟨x2, S2⟩, e2, h⟩ := map_some' h
    cases h
    simp only [List.length_cons, h2.len _ _ _ _ e2]
end
/-! ### operations -/
abbrev Sem1 := Sto → Vl → Option (Vl × Sto)
abbrev Sem2 := Sto → Vl → Vl → Option (Vl × Sto)
abbrev SemN := Sto → List Vl → Option (Vl × Sto)
def OpS (K : PySem.W.Frag) (cm : Nat → Addr) (r : R2) (sem : Sem2) : Prop :=
  ∀ (g : Gs) (x y z : Vl) (v w : V) (S' : Sto) (Q : VK), g.ok K cm → RV K g x v → RV K g y w → sem g.S x y = some (z, S') → (∀ g' u, g'.ok K cm → g'.S = S' → Stp g g' → RV K g' z u → Q u g'.H) → r v w g.H Q
def UnS (K : PySem.W.Frag) (cm : Nat → Addr) (r : V → Hp → VK → Prop) (sem : Sem1) : Prop :=
  ∀ (g : Gs) (x z : Vl) (v : V) (S' : Sto) (Q : VK), g.ok K cm → RV K g x v → sem g.S x = some (z, S') → (∀ g' u, g'.ok K cm → g'.S = S' → Stp g g' → RV K g' z u → Q u g'.H) → r v g.H Q
def CallS (K : PySem.W.Frag) (cm : Nat → Addr) (r : List V → Hp → VK → Prop) (sem : SemN) : Prop :=
  ∀ (g : Gs) (xs : List Vl) (z : Vl) (vs : List V) (S' : Sto) (Q : VK), g.ok K cm → RVs K g xs vs → sem g.S xs = some (z, S') → (∀ g' u, g'.ok K cm → g'.S = S' → Stp g g' → RV K g' z u → Q u g'.H) → r vs g.H Q
@[simp] def i2 (sem : Sem2) (f f' : IE) : IE := fun ε S => (f ε S).bind fun a => (f' ε a.2).bind fun b => sem b.2 a.1 b.1
@[simp] def i1 (sem : Sem1) (f : IE) : IE := fun ε S => (f ε S).bind fun a => sem a.2 a.1
@[simp] def iN (sem : SemN) (f : IA) : IE := fun ε S => (f ε S).bind fun a => sem a.2 a.1
section
variable {X : Cx} {cm : Nat → Addr} {pos : Pos} {a b : Expr} {fa fb : IE}
theorem top_of {r : R2} {sem : Sem2} (hs : OpS X.K cm r sem) {σ : L2.St} {H : Hp} {Q : VK} (h : tE X.K cm (i2 sem fa fb) σ H Q) : tOp r (tE X.K cm fa) (tE X.K cm fb) σ H Q := by
  obtain ⟨g, ε, x, S', e, k, env, h, q⟩ := h
  subst e
  obtain ⟨⟨x1, S1⟩, e1, h⟩ := bind_some h
  obtain ⟨⟨x2, S2⟩, e2, h⟩ := bind_some h
  refine ⟨g, ε, x1, S1, rfl, k, env, e1, fun g1 v1 k1 s1 st1 r1 => ?_⟩
  subst s1
  refine ⟨g1, ε, x2, S2, rfl, k1, env.mono st1, e2, fun g2 v2 k2 s2 st2 r2 => ?_⟩
  subst s2
  exact hs g2 x1 x2 x v1 v2 S' Q k2 (r1.mono st2) r2 h fun g' u k' s' st' r' => q g' u k' s' ((st1.trans k1 st2).trans k2 st') r'
theorem xe_op {op : Operator} {r : R2} {sem : Sem2} (ho : OpR X (binaryOp op) r) (hs : OpS X.K cm r sem) (ha : XE X cm a fa) (hb : XE X cm b fb) : XE X cm (.BinOp a op b pos) (i2 sem fa fb) :=
  pe_weak (pe_op ho ha hb) fun _ _ _ h => top_of hs h
theorem xe_cmp {op : CmpOp} {r : R2} {sem : Sem2} (ho : OpR X (compareOp op) r) (hs : OpS X.K cm r sem) (ha : XE X cm a fa) (hb : XE X cm b fb) (hm : behindInMarks op b = false) : XE X cm (.Compare a [op] [b] pos) (i2 sem fa fb) :=
  pe_weak (pe_cmpR ho ha hb hm) fun _ _ _ h => top_of hs h
@[simp] def tru1 (f : IE) : IT := fun ε S => (f ε S).bind fun a => match a.1 with
  | .dat (.bool b) => some (b, a.2)
  | _ => none
theorem xt_cmp {op : CmpOp} {r : R2} {sem : Sem2} (ho : OpR X (compareOp op) r) (hs : OpS X.K cm r sem) (ha : XE X cm a fa) (hb : XE X cm b fb) (hm : behindInMarks op b = false) : XT X cm (.Compare a [op] [b] pos) (tru1 (i2 sem fa fb)) :=
  pt_weak (pt_cmpR ho ha hb hm) fun σ H Q ⟨g, ε, x, S', e, k, env, h, q⟩ => by
    obtain ⟨⟨x1, S1⟩, e1, h⟩ := bind_some h
    refine top_of hs ⟨g, ε, x1, S1, e, k, env, e1, fun g' v k' s' st' r' => ?_⟩
    match x1, h, r' with
    | .dat (.bool b), h, r' =>
      cases h
      cases r'
      exact ⟨_, rfl, q g' k' s' st'⟩
theorem xe_ix {r : R2} {sem : Sem2} (ho : IxR X r) (hs : OpS X.K cm r sem) (ha : XE X cm a fa) (hb : XE X cm b fb) (hp : PlainIx b) : XE X cm (.Subscript a b pos) (i2 sem fa fb) :=
  pe_weak (pe_ix ho ha hb hp) fun _ _ _ h => top_of hs h
theorem xe_un {op : UnaryOp} {r : V → Hp → VK → Prop} {sem : Sem1} (ho : UnR X (unaryOp op) r) (hs : UnS X.K cm r sem) (ha : XE X cm a fa) : XE X cm (.UnaryOp op a pos) (i1 sem fa) :=
  pe_weak (pe_un ho ha) fun σ H Q ⟨g, ε, x, S', e, k, env, h, q⟩ => by
    subst e
    obtain ⟨⟨x1, S1⟩, e1, h⟩ := bind_some h
    refine ⟨g, ε, x1, S1, rfl, k, env, e1, fun g1 v1 k1 s1 st1 r1 => ?_⟩
    subst s1
    exact hs g1 x1 x v1 S' Q k1 r1 h fun g' u k' s' st' r' => q g' u k' s' (st1.trans k1 st') r'
/-- what is asked of a list of arguments -/
theorem tcb_of {r : List V → Hp → VK → Prop} {sem : SemN} {f : IA} (hs : CallS X.K cm r sem) {σ : L2.St} {H : Hp} {Q : VK} (h : tE X.K cm (iN sem f) σ H Q) : tCB r (tA X.K cm f) σ H Q := by
  obtain ⟨g, ε, x, S', e, k, env, h, q⟩ := h
  subst e
  obtain ⟨⟨x1, S1⟩, e1, h⟩ := bind_some h
  refine ⟨g, ε, x1, S1, rfl, k, env, e1, fun g1 v1 k1 s1 st1 r1 => ?_⟩
  subst s1
  exact hs g1 x1 x v1 S' Q k1 r1 h fun g' u k' s' st' r' => q g' u k' s' (st1.trans k1 st') r'
variable {x : Str} {p : Pos} {e : Expr} {es : List Expr} {f : IA} {id T : String}
theorem xe_callB {r : List V → Hp → VK → Prop} {sem : SemN} (hc : CallR X (.builtin id) r) (hs : CallS X.K cm r sem) (hg : Gl X x) (hm : X.mg x = none) (hv : bootBuiltins x = some (.builtin id)) (ha : XA X cm (e :: es) f) (hn : x ≠ "__name__" := by decide) (hdb : (x == ("__debug__" : Str)) = false := by decide)
    (he : starEach (e :: es) X.env = (false, eval e X.env) :: starEach es X.env := by rfl) (hpl : (backTo pos (starEach es X.env)).any (·.1) = false := by rfl) : XE X cm (.Call (.Name x p) (e :: es) [] pos) (iN sem f) :=
  pe_weak (pe_callB hc hg hm hv ha.run hn hdb he hpl) fun _ _ _ h => tcb_of hs h
theorem xe_callTy {r : List V → Hp → VK → Prop} {sem : SemN} (hc : CallR X (.type T) r) (hs : CallS X.K cm r sem) (hg : Gl X x) (hm : X.mg x = none) (hv : bootBuiltins x = some (.type T)) (ha : XA X cm (e :: es) f) (hn : x ≠ "__name__" := by decide) (hdb : (x == ("__debug__" : Str)) = false := by decide)
    (he : starEach (e :: es) X.env = (false, eval e X.env) :: starEach es X.env := by rfl) (hpl : (backTo pos (starEach es X.env)).any (·.1) = false := by rfl) : XE X cm (.Call (.Name x p) (e :: es) [] pos) (iN sem f) :=
  pe_weak (pe_callTy hc hg hm hv ha.run hn hdb he hpl) fun _ _ _ h => tcb_of hs h
end
/-! ### tuples and lists, written out -/
@[simp] def allD : List Vl → Option (List PyData)
  | [] => some []
  | .dat d :: r => (allD r).map (d :: ·)
  | _ :: _ => none
theorem allD_ok {K : PySem.W.Frag} {g : Gs} : ∀ {xs : List Vl} {vs : List V} {ds : List PyData}, RVs K g xs vs → allD xs = some ds → DqAll K g.Hf vs ds
  | [], _, _, .nil, h => by
    cases h
    exact .nil
  | .dat d :: r, _, _, .cons h1 h2, h => by
    obtain ⟨ds, e, rfl⟩ := map_some' h
    exact .cons h1 (allD_ok h2 e)
  | .obj _ :: _, _, _, _, h => by cases h
  | .scr _ :: _, _, _, _, h => by cases h
theorem allD_length : ∀ {xs : List Vl} {ds : List PyData}, allD xs = some ds → xs.length = ds.length
  | [], _, h => by
    cases h
    rfl
  | .dat d :: r, _, h => by
    obtain ⟨ds, e, rfl⟩ := map_some' h
    rw [List.length_cons, List.length_cons, allD_length e]
  | .obj _ :: _, _, h => by cases h
  | .scr _ :: _, _, h => by cases h
theorem allD_map : ∀ ds : List PyData, allD (ds.map .dat) = some ds
  | [] => rfl
  | d :: r => by
    show (allD (r.map .dat)).map (d :: ·) = _
    rw [allD_map r]
    rfl
theorem RVs.length {K : PySem.W.Frag} {g : Gs} {xs : List Vl} {vs : List V} (h : RVs K g xs vs) : xs.length = vs.length := Paired.length h
theorem RVs.ofD {K : PySem.W.Frag} {g : Gs} : ∀ {ds : List PyData} {vs : List V}, DqAll K g.Hf vs ds → RVs K g (ds.map .dat) vs
  | _, _, .nil => .nil
  | _, _, .cons h q => .cons h (RVs.ofD q)
theorem RVs.get {K : PySem.W.Frag} {g : Gs} : ∀ {xs : List Vl} {vs : List V} {i : Nat} {x : Vl}, RVs K g xs vs → xs[i]? = some x → ∃ v, vs[i]? = some v ∧ RV K g x v
  | _, _, _, _, .nil, e => by simp at e
  | _, _, 0, _, .cons r _, e => by simp at e; subst e; exact ⟨_, rfl, r⟩
  | _, _, i + 1, x, .cons _ t, e => by
    obtain ⟨u, h1, h2⟩ := RVs.get (i := i) (x := x) t (by simpa using e)
    exact ⟨u, by simpa using h1, h2⟩
@[simp] def iTpl (f : IA) : IE := fun ε S => (f ε S).bind fun a => (allD a.1).map fun ds => (.dat (.tuple ds), a.2)
@[simp] def iLst (f : IA) : IE := fun ε S => (f ε S).bind fun a => (allD a.1).map fun ds => (.dat (.list ds), a.2)
@[simp] def iLstC (f : IA) : IE := fun ε S => (f ε S).map fun a => (.obj a.2.length, a.2 ++ [.lst a.1])
theorem le_line {n : Nat} (h : n ≤ 1000) : n ≤ sizeLine := Nat.le_of_lt (small1000 h)
section
variable {X : Cx} {cm : Nat → Addr} {pos : Pos} {es : List Expr} {f : IA}
theorem xe_tup {x1} (h : XA X cm es f) (hl : es.length ≤ 1000 := by decide) : XE X cm (.Tuple es x1 pos) (iTpl f) :=
  pe_weak (pe_tup h.run) fun σ H Q ⟨g, ε, x, S', e, k, env, hf, q⟩ => by
    subst e
    obtain ⟨⟨x1, S1⟩, e1, hf⟩ := bind_some hf
    obtain ⟨ds, e2, hf⟩ := map_some' hf
    cases hf
    refine ⟨g, ε, x1, S1, rfl, k, env, e1, fun g1 v1 k1 s1 st1 r1 => ⟨?_, fun p hp => ?_⟩⟩
    · rw [← r1.length, h.len _ _ _ _ e1]; exact le_line hl
    · refine q (g1.frz p (.tup v1)) (.ref p) (k1.frz_ok hp) s1 (st1.trans k1 (k1.frz_stp hp)) ?_
      exact Dq.tup (.inl (.inl upd_same)) ((allD_ok r1 e2).mono (k1.frz_stp (o := .tup v1) hp).hf)
theorem xe_lst (h : XA X cm es f) (hl : es.length ≤ 1000 := by decide) : XE X cm (.List es pos) (iLst f) :=
  pe_weak (pe_lst h.run) fun σ H Q ⟨g, ε, x, S', e, k, env, hf, q⟩ => by
    subst e
    obtain ⟨⟨x1, S1⟩, e1, hf⟩ := bind_some hf
    obtain ⟨ds, e2, hf⟩ := map_some' hf
    cases hf
    refine ⟨g, ε, x1, S1, rfl, k, env, e1, fun g1 v1 k1 s1 st1 r1 => ⟨?_, fun p hp => ?_⟩⟩
    · rw [← r1.length, h.len _ _ _ _ e1]; exact le_line hl
    · refine q (g1.frz p (.lst v1)) (.ref p) (k1.frz_ok hp) s1 (st1.trans k1 (k1.frz_stp hp)) ?_
      exact Dq.lst upd_same ((allD_ok r1 e2).mono (k1.frz_stp (o := .lst v1) hp).hf)
/-- a new cell of a list -/
theorem new_cell {K : PySem.W.Frag} {cm : Nat → Addr} {g1 : Gs} (k1 : g1.ok K cm) {p : Addr} (hp : g1.H p = none) {xs : List Vl} {vs : List V} (r : RVs K g1 xs vs) :
    (g1.alo p (.lst vs) (.lst xs)).ok K cm ∧ Stp g1 (g1.alo p (.lst vs) (.lst xs)) ∧ RV K (g1.alo p (.lst vs) (.lst xs)) (.obj g1.S.length) (.ref p) := by
  have st := Gs.alo_stp (g := g1) (p := p) (o := .lst vs) (c := .lst xs) hp
  refine ⟨k1.alo_ok hp ⟨vs, upd_same, RVs.mono st r⟩, st, ?_, ?_⟩
  · show g1.S.length < (g1.S ++ [Cell.lst xs]).length
    rw [List.length_append]
    exact Nat.lt_succ_self _
  · rw [Gs.alo_n]
theorem xe_lstC (h : XA X cm es f) (hl : es.length ≤ 1000 := by decide) : XE X cm (.List es pos) (iLstC f) :=
  pe_weak (pe_lst h.run) fun σ H Q ⟨g, ε, x, S', e, k, env, hf, q⟩ => by
    subst e
    obtain ⟨⟨x1, S1⟩, e1, hf⟩ := map_some' hf
    cases hf
    refine ⟨g, ε, x1, S1, rfl, k, env, e1, fun g1 v1 k1 s1 st1 r1 => ⟨?_, fun p hp => ?_⟩⟩
    · rw [← r1.length, h.len _ _ _ _ e1]; exact le_line hl
    · subst s1
      obtain ⟨k2, st2, r2⟩ := new_cell k1 hp r1
      exact q _ (.ref p) k2 rfl (st1.trans k1 st2) r2
end
/-! ### tests -/
@[simp] def bAnd (f g : IT) : IT := fun ε S => (f ε S).bind fun a => if a.1 = true then g ε a.2 else some (false, a.2)
@[simp] def bOr (f g : IT) : IT := fun ε S => (f ε S).bind fun a => if a.1 = true then some (true, a.2) else g ε a.2
@[simp] def bNot (f : IT) : IT := fun ε S => (f ε S).map fun a => (!a.1, a.2)
@[simp] def vAnd (f g : IE) : IE := fun ε S => (f ε S).bind fun a => match a.1 with
  | .dat (.bool b) => if b = true then g ε a.2 else some (.dat (.bool false), a.2)
  | _ => none
@[simp] def vOr (f g : IE) : IE := fun ε S => (f ε S).bind fun a => match a.1 with
  | .dat (.bool b) => if b = true then some (.dat (.bool true), a.2) else g ε a.2
  | _ => none
@[simp] def vNot (f : IE) : IE := fun ε S => (f ε S).bind fun a => match a.1 with
  | .dat (.bool b) => some (.dat (.bool (!b)), a.2)
  | _ => none
@[simp] def iIf (c : IT) (f g : IE) : IE := fun ε S => (c ε S).bind fun a => if a.1 = true then f ε a.2 else g ε a.2
/-- the truth of a value -/
@[simp] def truV (S : Sto) : Vl → Option Bool
  | .dat .none => some false
  | .dat (.bool b) => some b
  | .dat (.int i) => some (i != 0)
  | .dat (.list ds) => some !ds.isEmpty
  | .dat (.tuple ds) => some !ds.isEmpty
  | .obj i => match S[i]? with
    | some (.lst xs) => some !xs.isEmpty
    | some (.dct xs) => some !xs.isEmpty
    | _ => none
  | _ => none
@[simp] def tru (f : IE) : IT := fun ε S => (f ε S).bind fun a => (truV a.2 a.1).map fun b => (b, a.2)
theorem isEmpty_p {α β : Type} {F : α → β → Prop} {xs : List α} {ys : List β} (r : Paired F xs ys) : xs.isEmpty = ys.isEmpty := by
  cases r <;> rfl
theorem truV_ok {K : PySem.W.Frag} {cm : Nat → Addr} {g : Gs} (k : g.ok K cm) {x : Vl} {v : V} {b : Bool} (r : RV K g x v) (h : truV g.S x = some b) : TruV K v g.H b := by
  cases x with
  | dat d =>
    have r' : Dq K g.Hf v d := r
    cases r' with
    | non => cases h; rfl
    | bl => cases h; rfl
    | int => cases h; rfl
    | str => cases h
    | lst h1 h2 =>
      cases h
      refine .inl ⟨_, SqL.of (k.frz _ _ h1), ?_⟩
      cases h2 <;> rfl
    | tup h1 h2 =>
      cases h
      refine .inr (.inl ⟨_, sqT_mono k.frz h1, ?_⟩)
      cases h2 <;> rfl
  | scr ns => cases h
  | obj i =>
    obtain ⟨hi, e⟩ := r
    subst e
    have hc := k.cell i _ (List.getElem?_eq_getElem hi)
    have h' : (match g.S[i]? with
      | some (.lst xs) => some !xs.isEmpty
      | some (.dct xs) => some !xs.isEmpty
      | _ => none) = some b := h
    rw [List.getElem?_eq_getElem hi] at h'
    cases e : g.S[i] with
    | lst xs =>
      rw [e] at h' hc
      cases h'
      obtain ⟨vs, h1, h2⟩ := hc
      exact .inl ⟨vs, SqL.of h1, by rw [isEmpty_p h2]⟩
    | dct xs =>
      rw [e] at h' hc
      cases h'
      obtain ⟨vs, h1, h2⟩ := hc
      exact .inr (.inr ⟨vs, h1, by rw [isEmpty_p h2]⟩)
    | ins c fs =>
      rw [e] at h'
      cases h'
    | gone =>
      rw [e] at h'
      cases h'
section
variable {X : Cx} {cm : Nat → Addr} {pos : Pos} {a b c : Expr} {rest : List Expr} {fa fb : IE} {ta tb tc : IT}
theorem xt_tru (ha : XE X cm a fa) (he : ∀ whole, isTrue a X.env whole = (do let v ← whole; standAt a.pos; holding [v] (truthy v)) := by intro _; rfl) : XT X cm a (tru fa) :=
  pt_weak (pt_truth ha he) fun σ H Q ⟨g, ε, x, S', e, k, env, h, q⟩ => by
    subst e
    obtain ⟨⟨x1, S1⟩, e1, h⟩ := bind_some h
    obtain ⟨bb, e2, h⟩ := map_some' h
    cases h
    refine ⟨g, ε, x1, S1, rfl, k, env, e1, fun g1 v1 k1 s1 st1 r1 => ?_⟩
    subst s1
    exact ⟨_, truV_ok k1 r1 e2, q g1 k1 rfl st1⟩
theorem xw_and1 (ha : XT X cm a ta) : XW X cm (.BoolOp .And [a] pos) ta := pw_and1 ha
theorem xw_or1 (ha : XT X cm a ta) : XW X cm (.BoolOp .Or [a] pos) ta := pw_or1 ha
theorem xw_and (ha : XT X cm a ta) (hb : XW X cm (.BoolOp .And (b :: rest) pos) tb) : XW X cm (.BoolOp .And (a :: b :: rest) pos) (bAnd ta tb) :=
  pw_weak (pw_and ha hb) fun σ H Q ⟨g, ε, x, S', e, k, env, h, q⟩ => by
    subst e
    obtain ⟨⟨x1, S1⟩, e1, h⟩ := bind_some h
    refine ⟨g, ε, x1, S1, rfl, k, env, e1, fun g1 k1 s1 st1 => ?_⟩
    subst s1
    cases x1 with
    | true => exact ⟨g1, ε, x, S', rfl, k1, env.mono st1, h, fun g' k' s' st' => q g' k' s' (st1.trans k1 st')⟩
    | false =>
      cases h
      exact q g1 k1 rfl st1
theorem xw_or (ha : XT X cm a ta) (hb : XW X cm (.BoolOp .Or (b :: rest) pos) tb) : XW X cm (.BoolOp .Or (a :: b :: rest) pos) (bOr ta tb) :=
  pw_weak (pw_or ha hb) fun σ H Q ⟨g, ε, x, S', e, k, env, h, q⟩ => by
    subst e
    obtain ⟨⟨x1, S1⟩, e1, h⟩ := bind_some h
    refine ⟨g, ε, x1, S1, rfl, k, env, e1, fun g1 k1 s1 st1 => ?_⟩
    subst s1
    cases x1 with
    | false => exact ⟨g1, ε, x, S', rfl, k1, env.mono st1, h, fun g' k' s' st' => q g' k' s' (st1.trans k1 st')⟩
    | true =>
      cases h
      exact q g1 k1 rfl st1
theorem xt_not (ha : XT X cm a ta) : XT X cm (.UnaryOp .Not a pos) (bNot ta) :=
  pt_weak (pt_not ha) fun σ H Q ⟨g, ε, x, S', e, k, env, h, q⟩ => by
    subst e
    obtain ⟨⟨x1, S1⟩, e1, h⟩ := map_some' h
    cases h
    exact ⟨g, ε, x1, S1, rfl, k, env, e1, fun g1 k1 s1 st1 => q g1 k1 s1 st1⟩
theorem xe_one {op} (ha : XE X cm a fa) : XE X cm (.BoolOp op [a] pos) fa := pe_one ha
theorem xe_and (ha : XE X cm a fa) (hb : XE X cm (.BoolOp .And (b :: rest) pos) fb) : XE X cm (.BoolOp .And (a :: b :: rest) pos) (vAnd fa fb) :=
  pe_weak (pe_and ha hb) fun σ H Q ⟨g, ε, x, S', e, k, env, h, q⟩ => by
    subst e
    obtain ⟨⟨x1, S1⟩, e1, h⟩ := bind_some h
    refine ⟨g, ε, x1, S1, rfl, k, env, e1, fun g1 v1 k1 s1 st1 r1 => ?_⟩
    subst s1
    match x1, h, r1 with
    | .dat (.bool true), h, r1 =>
      cases r1
      exact ⟨true, rfl, ⟨g1, ε, x, S', rfl, k1, env.mono st1, h, fun g' u k' s' st' r' => q g' u k' s' (st1.trans k1 st') r'⟩⟩
    | .dat (.bool false), h, r1 =>
      cases r1
      cases h
      exact ⟨false, rfl, q g1 _ k1 rfl st1 (.bl false)⟩
theorem xe_or (ha : XE X cm a fa) (hb : XE X cm (.BoolOp .Or (b :: rest) pos) fb) : XE X cm (.BoolOp .Or (a :: b :: rest) pos) (vOr fa fb) :=
  pe_weak (pe_or ha hb) fun σ H Q ⟨g, ε, x, S', e, k, env, h, q⟩ => by
    subst e
    obtain ⟨⟨x1, S1⟩, e1, h⟩ := bind_some h
    refine ⟨g, ε, x1, S1, rfl, k, env, e1, fun g1 v1 k1 s1 st1 r1 => ?_⟩
    subst s1
    match x1, h, r1 with
    | .dat (.bool false), h, r1 =>
      cases r1
      exact ⟨false, rfl, ⟨g1, ε, x, S', rfl, k1, env.mono st1, h, fun g' u k' s' st' r' => q g' u k' s' (st1.trans k1 st') r'⟩⟩
    | .dat (.bool true), h, r1 =>
      cases r1
      cases h
      exact ⟨true, rfl, q g1 _ k1 rfl st1 (.bl true)⟩
theorem xe_not (ha : XE X cm a fa) : XE X cm (.UnaryOp .Not a pos) (vNot fa) :=
  pe_weak (pe_not ha) fun σ H Q ⟨g, ε, x, S', e, k, env, h, q⟩ => by
    subst e
    obtain ⟨⟨x1, S1⟩, e1, h⟩ := bind_some h
    refine ⟨g, ε, x1, S1, rfl, k, env, e1, fun g1 v1 k1 s1 st1 r1 => ?_⟩
    subst s1
    match x1, h, r1 with
    | .dat (.bool b), h, r1 =>
      cases r1
      cases h
      exact ⟨b, rfl, q g1 _ k1 rfl st1 (.bl _)⟩
theorem xe_ifExp (hc : XT X cm c tc) (ha : XE X cm a fa) (hb : XE X cm b fb) : XE X cm (.IfExp c a b pos) (iIf tc fa fb) :=
  pe_weak (pe_ifExp hc ha hb) fun σ H Q ⟨g, ε, x, S', e, k, env, h, q⟩ => by
    subst e
    obtain ⟨⟨x1, S1⟩, e1, h⟩ := bind_some h
    refine ⟨g, ε, x1, S1, rfl, k, env, e1, fun g1 k1 s1 st1 => ?_⟩
    subst s1
    cases x1 with
    | true => exact ⟨g1, ε, x, S', rfl, k1, env.mono st1, h, fun g' u k' s' st' r' => q g' u k' s' (st1.trans k1 st') r'⟩
    | false => exact ⟨g1, ε, x, S', rfl, k1, env.mono st1, h, fun g' u k' s' st' r' => q g' u k' s' (st1.trans k1 st') r'⟩
end
/-! ### statements -/
@[simp] def sSeq (f g : IS) : IS := fun ε S => (f ε S).bind fun a => match a.1 with
  | .nx ε' => g ε' a.2
  | _ => some a
@[simp] def sPass : IS := fun ε S => some (.nx ε, S)
@[simp] def sBreak : IS := fun ε S => some (.bk ε, S)
@[simp] def sCont : IS := fun ε S => some (.ct ε, S)
@[simp] def sAsg (f : IE) (g : IG) : IS := fun ε S => (f ε S).bind fun a => (g a.1 ε a.2).map fun b => (.nx b.1, b.2)
@[simp] def sDrop (f : IE) : IS := fun ε S => (f ε S).map fun a => (.nx ε, a.2)
@[simp] def sRet (f : IE) : IS := fun ε S => (f ε S).map fun a => (.rt a.1, a.2)
@[simp] def sRetN : IS := fun _ S => some (.rt (.dat .none), S)
@[simp] def sIf (c : IT) (f g : IS) : IS := fun ε S => (c ε S).bind fun a => if a.1 = true then f ε a.2 else g ε a.2
@[simp] def gNm (i : Nat) : IG := fun x ε S => some (ε.set i (some x), S)
abbrev IGs := List Vl → Ev → Sto → Option (Ev × Sto)
@[simp] def gsNil : IGs := fun xs ε S => match xs with
  | [] => some (ε, S)
  | _ => none
@[simp] def gsCons (f : IG) (r : IGs) : IGs := fun xs ε S => match xs with
  | x :: xs => (f x ε S).bind fun a => r xs a.1 a.2
  | [] => none
@[simp] def gTp (n : Nat) (r : IGs) : IG := fun x ε S => match x with
  | .dat (.tuple ds) => if ds.length = n then r (ds.map .dat) ε S else none
  | _ => none
section
variable (K : PySem.W.Frag) (cm : Nat → Addr)
def tGs (f : IGs) : TGs := fun vs σ H Q => ∃ g ε xs ε' S', g.H = H ∧ g.ok K cm ∧ EnvR K g ε σ ∧ RVs K g xs vs ∧ f xs ε g.S = some (ε', S') ∧ ∀ g' σ', g'.ok K cm → g'.S = S' → Stp g g' → EnvR K g' ε' σ' → Q σ' g'.H
end
abbrev XGs (X : Cx) (cm : Nat → Addr) (es : List Expr) (f : IGs) : Prop := PGs X es (tGs X.K cm f)
theorem pgs_weak {X : Cx} {e : List Expr} {t t' : TGs} (h : PGs X e t) (w : ∀ v σ H Q, t' v σ H Q → t v σ H Q) : PGs X e t' := ⟨fun pins s σ H v u Q I r q => h.run pins s σ H v u Q I r (w v σ H Q q)⟩
theorem Post.mono {K : PySem.W.Frag} {cm : Nat → Addr} {D D' : Ends} {g : Gs} {fl : Fl} (h : Post K D g fl) (h1 : ∀ σ H, D.nx σ H → D'.nx σ H) (h2 : D'.rt = D.rt) (h3 : D'.bk = D.bk) (h4 : D'.ct = D.ct) : Post K D' g fl := by
  cases fl with
  | nx ε => exact fun σ r => h1 _ _ (h σ r)
  | rt v => exact fun σ r => by rw [h2]; exact h σ r
  | bk ε => exact fun σ r => by rw [h3]; exact h σ r
  | ct ε => exact fun σ r => by rw [h4]; exact h σ r
section
variable {X : Cx} {cm : Nat → Addr} {pos : Pos} {st : Stmt} {rest : List Stmt} {e c : Expr} {fe : IE} {fc : IT} {f g : IS}
theorem xss_nil : XSs X cm [] sPass := pss_weak pss_nil fun D σ H ⟨g, ε, x, S', e, k, env, h, q⟩ => by
  subst e
  cases h
  exact q g k rfl (Stp.refl g) σ env
theorem xss_cons (h1 : XS X cm st f) (h2 : XSs X cm rest g) : XSs X cm (st :: rest) (sSeq f g) :=
  pss_weak (pss_cons h1 h2) fun D σ H ⟨g0, ε, x, S', e, k, env, h, q⟩ => by
    subst e
    obtain ⟨⟨x1, S1⟩, e1, h⟩ := bind_some h
    refine ⟨g0, ε, x1, S1, rfl, k, env, e1, fun g1 k1 s1 st1 => ?_⟩
    cases x1 with
    | nx ε1 =>
      subst s1
      exact fun σ1 r1 => ⟨g1, ε1, x, S', rfl, k1, r1, h, fun g' k' s' st' => q g' k' s' (st1.trans k1 st')⟩
    | rt v =>
      cases h
      exact q g1 k1 s1 st1
    | bk ε1 =>
      cases h
      exact q g1 k1 s1 st1
    | ct ε1 =>
      cases h
      exact q g1 k1 s1 st1
theorem xss_one (h1 : XS X cm st f) : XSs X cm [st] f := pss_one h1
theorem xs_pass : XS X cm (.Pass pos) sPass := ps_weak ps_pass fun D σ H ⟨g, ε, x, S', e, k, env, h, q⟩ => by
  subst e
  cases h
  exact q g k rfl (Stp.refl g) σ env
theorem xs_break : XS X cm (.Break pos) sBreak := ps_weak ps_break fun D σ H ⟨g, ε, x, S', e, k, env, h, q⟩ => by
  subst e
  cases h
  exact q g k rfl (Stp.refl g) σ env
theorem xs_continue : XS X cm (.Continue pos) sCont := ps_weak ps_continue fun D σ H ⟨g, ε, x, S', e, k, env, h, q⟩ => by
  subst e
  cases h
  exact q g k rfl (Stp.refl g) σ env
theorem xs_expr (he : XE X cm e fe) (hs : swapsWith e none pos.line X.env = pure false := by rfl) : XS X cm (.Expr e pos) (sDrop fe) :=
  ps_weak (ps_expr he hs) fun D σ H ⟨g0, ε, x, S', e, k, env, h, q⟩ => by
    subst e
    obtain ⟨⟨x1, S1⟩, e1, h⟩ := map_some' h
    cases h
    exact ⟨g0, ε, x1, S1, rfl, k, env, e1, fun g1 v1 k1 s1 st1 r1 => q g1 k1 s1 st1 σ (env.mono st1)⟩
theorem xs_ret (he : XE X cm e fe) : XS X cm (.Return (some e) pos) (sRet fe) :=
  ps_weak (ps_ret he) fun D σ H ⟨g0, ε, x, S', e, k, env, h, q⟩ => by
    subst e
    obtain ⟨⟨x1, S1⟩, e1, h⟩ := map_some' h
    cases h
    exact ⟨g0, ε, x1, S1, rfl, k, env, e1, fun g1 v1 k1 s1 st1 r1 => q g1 k1 s1 st1 v1 r1⟩
theorem xs_retN : XS X cm (.Return none pos) sRetN :=
  ps_weak ps_retN fun D σ H ⟨g0, ε, x, S', e, k, env, h, q⟩ => by
    subst e
    cases h
    exact q g0 k rfl (Stp.refl g0) .non .non
theorem xs_if {a b : List Stmt} (hc : XT X cm c fc) (ha : XSs X cm a f) (hb : XSs X cm b g) : XS X cm (.If c a b pos) (sIf fc f g) :=
  ps_weak (ps_if hc ha hb) fun D σ H ⟨g0, ε, x, S', e, k, env, h, q⟩ => by
    subst e
    obtain ⟨⟨x1, S1⟩, e1, h⟩ := bind_some h
    refine ⟨g0, ε, x1, S1, rfl, k, env, e1, fun g1 k1 s1 st1 => ?_⟩
    subst s1
    cases x1 with
    | true => exact ⟨g1, ε, x, S', rfl, k1, env.mono st1, h, fun g' k' s' st' => q g' k' s' (st1.trans k1 st')⟩
    | false => exact ⟨g1, ε, x, S', rfl, k1, env.mono st1, h, fun g' k' s' st' => q g' k' s' (st1.trans k1 st')⟩
theorem xg_name (i : Nat) {x : Str} (hN : X.N.Nodup) (hi : X.N[i]? = some x) (hx : Loc X.env.scope x) (hf : X.fn x = true ∨ X.env.scope.names.lookup x = some .local := by first | exact .inl rfl | exact .inr rfl | assumption) : XG X cm (.Name x pos) (gNm i) :=
  pg_weak (pg_name hN hi hx hf) fun v σ H Q ⟨g0, ε, x, ε', S', e, k, env, r, h, q⟩ => by
    subst e
    cases h
    exact q g0 _ k rfl (Stp.refl g0) (env.set r i)
theorem xgs_nil : XGs X cm [] gsNil := pgs_weak pgs_nil fun v σ H Q ⟨g0, ε, xs, ε', S', e, k, env, r, h, q⟩ => by
  subst e
  cases r with
  | nil =>
    cases h
    exact ⟨rfl, q g0 σ k rfl (Stp.refl g0) env⟩
  | cons _ _ => cases h
theorem xgs_cons {t : Expr} {ts : List Expr} {f : IG} {r : IGs} (h1 : XG X cm t f) (h2 : XGs X cm ts r) (hs : (assignEach (t :: ts) X.env).map (·.2) = assign t X.env :: (assignEach ts X.env).map (·.2) := by rfl) : XGs X cm (t :: ts) (gsCons f r) :=
  pgs_weak (pgs_cons h1 h2 hs) fun v σ H Q ⟨g0, ε, xs, ε', S', e, k, env, rr, h, q⟩ => by
    subst e
    cases rr with
    | nil => cases h
    | cons r1 r2 =>
      obtain ⟨⟨ε1, S1⟩, e1, h⟩ := bind_some h
      refine ⟨_, _, rfl, g0, ε, _, ε1, S1, rfl, k, env, r1, e1, fun g1 σ1 k1 s1 st1 env1 => ?_⟩
      subst s1
      exact ⟨g1, ε1, _, ε', S', rfl, k1, env1, RVs.mono st1 r2, h, fun g' σ' k' s' st' r' => q g' σ' k' s' (st1.trans k1 st') r'⟩
theorem xg_tup {es : List Expr} {j n : Nat} {r : IGs} (hc : X.calm = true) (h : XGs X cm es r) (hn : (assignEach es X.env).length = n := by rfl) (hst : (assignEach es X.env).findIdx? (·.1) = none := by rfl) : XG X cm (.Tuple es j pos) (gTp n r) :=
  pg_weak (pg_tup hc h hn hst) fun v σ H Q ⟨g0, ε, x, ε', S', e, k, env, rr, h, q⟩ => by
    subst e
    match x, h, rr with
    | .dat (.tuple ds), h, .tup (a := a) (xs := xs) h1 h2 =>
      have h : (if ds.length = n then r (ds.map .dat) ε g0.S else none) = some (ε', S') := h
      by_cases hl : ds.length = n
      · rw [if_pos hl] at h
        exact ⟨a, xs, rfl, sqT_mono k.frz h1, h2.length.trans hl, g0, ε, _, ε', S', rfl, k, env, RVs.ofD h2, h, q⟩
      · rw [if_neg hl] at h
        cases h
theorem xs_asg {tg : Expr} {fg : IG} (he : XE X cm e fe) (hg : XG X cm tg fg) (hs : swapsWithSole [tg] e pos.line X.env = pure false := by rfl) (hw : swappedStores [tg] e X.env = pure none := by rfl)
    (h1 : (assignEach [tg] X.env).map (·.2) = [assign tg X.env] := by rfl) : XS X cm (.Assign [tg] e pos) (sAsg fe fg) :=
  ps_weak (ps_asg he hg hs hw h1) fun D σ H ⟨g0, ε, x, S', e, k, env, h, q⟩ => by
    subst e
    obtain ⟨⟨x1, S1⟩, e1, h⟩ := bind_some h
    obtain ⟨⟨ε2, S2⟩, e2, h⟩ := map_some' h
    cases h
    refine ⟨g0, ε, x1, S1, rfl, k, env, e1, fun g1 v1 k1 s1 st1 r1 => ?_⟩
    subst s1
    exact ⟨g1, ε, x1, ε2, S2, rfl, k1, env.mono st1, r1, e2, fun g' σ' k' s' st' r' => q g' k' s' (st1.trans k1 st') σ' r'⟩
theorem xs_set (i : Nat) {x : Str} {pos' : Pos} (hN : X.N.Nodup) (hi : X.N[i]? = some x) (hx : Loc X.env.scope x) (he : XE X cm e fe) (hs : swapsWith e (some (.Name x pos')) pos.line X.env = pure false := by rfl) (hf : X.fn x = true ∨ X.env.scope.names.lookup x = some .local := by first | exact .inl rfl | exact .inr rfl | assumption) :
    XS X cm (.Assign [.Name x pos'] e pos) (sAsg fe (gNm i)) :=
  ps_weak (ps_set hN hi hx he hs hf) fun D σ H ⟨g0, ε, x, S', e, k, env, h, q⟩ => by
    subst e
    obtain ⟨⟨x1, S1⟩, e1, h⟩ := bind_some h
    obtain ⟨⟨ε2, S2⟩, e2, h⟩ := map_some' h
    cases h
    cases e2
    refine ⟨g0, ε, x1, S1, rfl, k, env, e1, fun g1 v1 k1 s1 st1 r1 => ?_⟩
    exact q g1 k1 s1 st1 _ ((env.mono st1).set r1 i)
end
/-! ### loops -/
/-- the items of what is walked -/
structure ItR (K : PySem.W.Frag) (cm : Nat → Addr) (J : It) (g : Gs) (xs : List Vl) : Prop where
  go : ∀ g2 i x, Wk g g2 → g2.ok K cm → xs[i]? = some x → J.go i g2.H ∧ ∀ v H', J.yld i g2.H v H' → ∃ g3, g3.H = H' ∧ g3.ok K cm ∧ g3.S = g2.S ∧ Stp g2 g3 ∧ RV K g3 x v
  stop : ∀ g2, Wk g g2 → g2.ok K cm → J.stop xs.length g2.H
def tI (K : PySem.W.Frag) (cm : Nat → Addr) (f : IA) : TI := fun σ H R => ∃ g ε xs S', g.H = H ∧ g.ok K cm ∧ EnvR K g ε σ ∧ f ε g.S = some (xs, S') ∧ ∀ g' J, g'.ok K cm → g'.S = S' → Stp g g' → ItR K cm J g' xs → R J g'.H
abbrev XI (X : Cx) (cm : Nat → Addr) (tg iter : Expr) (f : IA) : Prop := PI X tg iter (tI X.K cm f)
theorem pi_weak {X : Cx} {tg e : Expr} {t t' : TI} (h : PI X tg e t) (w : ∀ σ H R, t' σ H R → t σ H R) : PI X tg e t' := ⟨fun pins s σ H R I q => h.run pins s σ H R I (w σ H R q)⟩
@[simp] def loop (g : IG) (body : IS) : List Vl → Ev → Sto → Option (Fl × Sto)
  | [], ε, S => some (.nx ε, S)
  | x :: r, ε, S => (g x ε S).bind fun a => (body a.1 a.2).bind fun b => match b.1 with
    | .nx ε' => loop g body r ε' b.2
    | .ct ε' => loop g body r ε' b.2
    | .bk ε' => some (.nx ε', b.2)
    | .rt v => some (.rt v, b.2)
@[simp] def sFor (f : IA) (g : IG) (body : IS) : IS := fun ε S => (f ε S).bind fun a => loop g body a.1 ε a.2
section
variable {X : Cx} {cm : Nat → Addr} {pos : Pos}
theorem xs_for {tg iter : Expr} {body : List Stmt} {f : IA} {g : IG} {fb : IS} (hp : PassesOwn (model X.prog X.w) X.A X.env X.xe) (hc : X.calm = true) (hi : XI X cm tg iter f) (hg : XG X cm tg g) (hb : XSs X cm body fb)
    (hs : ∀ x, foldedSetIterable iter X.env x = pure x := by intro _; rfl) : XS X cm (.For tg iter body [] pos) (sFor f g fb) :=
  ps_weak (ps_for hp hc hi hg hb hs) fun D σ H ⟨g0, ε, x, S', e, k, env, h, q⟩ => by
    subst e
    obtain ⟨⟨xs, S1⟩, e1, h⟩ := bind_some h
    refine ⟨g0, ε, xs, S1, rfl, k, env, e1, fun g1 J k1 s1 st1 it => ?_⟩
    subst s1
    refine ⟨fun i m σ H => m = xs.length - i ∧ i ≤ xs.length ∧ ∃ g2 ε2, g2.H = H ∧ g2.ok X.K cm ∧ EnvR X.K g2 ε2 σ ∧ Stp g1 g2 ∧ loop g fb (xs.drop i) ε2 g2.S = some (x, S'),
      ⟨xs.length, by omega, Nat.zero_le _, g1, ε, rfl, k1, env.mono st1, Stp.refl g1, h⟩, ?_⟩
    rintro i m σ H ⟨rfl, hil, g2, ε2, rfl, k2, env2, st2, h2⟩
    have st02 : Stp g0 g2 := st1.trans k1 st2
    by_cases hlt : i < xs.length
    · have hx : xs[i]? = some xs[i] := List.getElem?_eq_getElem hlt
      obtain ⟨hgo, hy⟩ := it.go g2 i _ st2.wk k2 hx
      rw [List.drop_eq_getElem_cons hlt] at h2
      obtain ⟨⟨ε3, S3⟩, e3, h2⟩ := bind_some h2
      obtain ⟨⟨fl, S4⟩, e4, h2⟩ := bind_some h2
      refine .inr ⟨hgo, fun σ' H' => ∃ g5 ε5, g5.H = H' ∧ g5.ok X.K cm ∧ EnvR X.K g5 ε5 σ' ∧ Stp g1 g5 ∧ loop g fb (xs.drop (i + 1)) ε5 g5.S = some (x, S'),
        fun σ' H' ⟨g5, ε5, a1, a2, a3, a4, a5⟩ => ⟨xs.length - (i + 1), by omega, rfl, hlt, g5, ε5, a1, a2, a3, a4, a5⟩, fun v H' y => ?_⟩
      obtain ⟨g3, rfl, k3, s3, st3, r3⟩ := hy v H' y
      refine ⟨g3, ε2, xs[i], ε3, S3, rfl, k3, env2.mono st3, r3, by rw [s3]; exact e3, fun g4 σ4 k4 s4 st4 env4 => ?_⟩
      subst s4
      refine ⟨g4, ε3, fl, S4, rfl, k4, env4, e4, fun g5 k5 s5 st5 => ?_⟩
      have st15 : Stp g1 g5 := ((st2.trans k2 st3).trans k3 st4).trans k4 st5
      subst s5
      cases fl with
      | nx ε5 => exact fun σ5 r5 => ⟨g5, ε5, rfl, k5, r5, st15, h2⟩
      | ct ε5 => exact fun σ5 r5 => ⟨g5, ε5, rfl, k5, r5, st15, h2⟩
      | bk ε5 =>
        cases h2
        exact q g5 k5 rfl (st1.trans k1 st15)
      | rt v =>
        cases h2
        exact q g5 k5 rfl (st1.trans k1 st15)
    · have e : i = xs.length := by omega
      subst e
      rw [List.drop_length] at h2
      cases h2
      exact .inl ⟨it.stop g2 st2.wk k2, q g2 k2 rfl st02 σ env2⟩
end
end Y
namespace Y
open PySem PySem.Spec PyProof.Rows L2
/-! ### lists of a cell, values as data -/
/-- the items of a list or a tuple -/
@[simp] def lOf (S : Sto) : Vl → Option (List Vl)
  | .dat (.list ds) => some (ds.map .dat)
  | .dat (.tuple ds) => some (ds.map .dat)
  | .obj i => match S[i]? with
    | some (.lst xs) => some xs
    | _ => none
  | .scr ns => some (ns.map fun n => .dat (.int n))
  | _ => none
/-- a value as data, a list's cell by what it holds now -/
@[simp] def dOf (S : Sto) : Vl → Option PyData
  | .dat d => some d
  | .obj i => match S[i]? with
    | some (.lst xs) => (allD xs).map .list
    | _ => none
  | .scr _ => none
section
variable {K : PySem.W.Frag} {cm : Nat → Addr} {g : Gs} {x y z : Vl} {v w : V}
theorem cell_lst (k : g.ok K cm) {i : Nat} {xs : List Vl} (h : g.S[i]? = some (.lst xs)) : ∃ vs, g.H (g.m i) = some (.lst vs) ∧ RVs K g xs vs := k.cell i _ h
theorem ints_rv : ∀ ns : List Int, RVs K g (ns.map fun n => .dat (.int n)) (ns.map V.int)
  | [] => .nil
  | n :: r => .cons (.int n) (ints_rv r)
theorem lOf_ok (k : g.ok K cm) (r : RV K g x v) {xs : List Vl} (h : lOf g.S x = some xs) : ∃ a vs, v = .ref a ∧ (SqL K g.H a vs ∨ SqT K g.H a vs) ∧ RVs K g xs vs := by
  cases x with
  | dat d =>
    have r' : Dq K g.Hf v d := r
    cases r' with
    | non => cases h
    | bl => cases h
    | int => cases h
    | str => cases h
    | lst h1 h2 =>
      cases h
      exact ⟨_, _, rfl, .inl (SqL.of (k.frz _ _ h1)), RVs.ofD h2⟩
    | tup h1 h2 =>
      cases h
      exact ⟨_, _, rfl, .inr (sqT_mono k.frz h1), RVs.ofD h2⟩
  | obj i =>
    obtain ⟨hi, rfl⟩ := r
    have h' : (match g.S[i]? with
      | some (.lst xs) => some xs
      | _ => none) = some xs := h
    cases e : g.S[i]? with
    | none => rw [e] at h'; cases h'
    | some c =>
      rw [e] at h'
      cases c with
      | lst ys =>
        cases h'
        obtain ⟨vs, h1, h2⟩ := cell_lst k e
        exact ⟨_, vs, rfl, .inl (SqL.of h1), h2⟩
      | dct _ => cases h'
      | ins _ _ => cases h'
      | gone => cases h'
  | scr ns =>
    obtain ⟨a, rfl, hq⟩ := r
    cases h
    exact ⟨a, _, rfl, .inl (k.frz.seq hq), ints_rv ns⟩
theorem dOf_ok (k : g.ok K cm) (r : RV K g x v) {d : PyData} (h : dOf g.S x = some d) : Dp K g.H v d := by
  cases x with
  | dat d =>
    cases h
    exact (Dq.mono k.frz r).dp
  | obj i =>
    obtain ⟨hi, rfl⟩ := r
    have h' : (match g.S[i]? with
      | some (.lst xs) => (allD xs).map PyData.list
      | _ => none) = some d := h
    cases e : g.S[i]? with
    | none => rw [e] at h'; cases h'
    | some c =>
      rw [e] at h'
      cases c with
      | lst ys =>
        obtain ⟨ds, e2, rfl⟩ := map_some' h'
        obtain ⟨vs, h1, h2⟩ := cell_lst k e
        exact .lst (SqL.of h1) ((allD_ok h2 e2).mono k.frz).dp
      | dct _ => cases h'
      | ins _ _ => cases h'
      | gone => cases h'
  | scr ns => cases h
theorem rv_fin {Q : VK} {S' : Sto} (k : g.ok K cm) (h : ∀ g' u, g'.ok K cm → g'.S = S' → Stp g g' → RV K g' z u → Q u g'.H) (e : g.S = S') (r : RV K g z v) : Q v g.H := h g v k e (Stp.refl g) r
end
/-! ### ints -/
@[simp] def semI (C : Int → Int → Bool) (f : Int → Int → PyData) : Sem2 := fun S x y => match x, y with
  | .dat (.int i), .dat (.int j) => if C i j = true then some (.dat (f i j), S) else none
  | _, _ => none
section
variable {K : PySem.W.Frag} {cm : Nat → Addr}
theorem semI_inv {C : Int → Int → Bool} {f : Int → Int → PyData} {g : Gs} {x y z : Vl} {v w : V} {S' : Sto} (hx : RV K g x v) (hy : RV K g y w) (h : semI C f g.S x y = some (z, S')) :
    ∃ i j, v = .int i ∧ w = .int j ∧ C i j = true ∧ z = .dat (f i j) ∧ g.S = S' := by
  unfold semI at h
  split at h
  · rename_i i j
    cases (show Dq K g.Hf v (.int i) from hx)
    cases (show Dq K g.Hf w (.int j) from hy)
    split at h
    · rename_i hc
      cases h
      exact ⟨i, j, rfl, rfl, hc, rfl, rfl⟩
    · cases h
  · cases h
theorem opS_I {C : Int → Int → Bool} {C' : Int → Int → Prop} {f : Int → Int → PyData} {fv : Int → Int → V} (hC : ∀ i j, C i j = true → C' i j) (hf : ∀ i j (H : Hp), Dq K H (fv i j) (f i j)) : OpS K cm (rI C' fv) (semI C f) := by
  intro g x y z v w S' Q k hx hy h q
  obtain ⟨i, j, rfl, rfl, hc, rfl, e⟩ := semI_inv hx hy h
  exact ⟨i, j, rfl, rfl, hC i j hc, rv_fin k q e (hf i j _)⟩
theorem opS_I0 {f : Int → Int → PyData} {fv : Int → Int → V} (hf : ∀ i j (H : Hp), Dq K H (fv i j) (f i j)) : OpS K cm (rI0 fv) (semI (fun _ _ => true) f) := by
  intro g x y z v w S' Q k hx hy h q
  obtain ⟨i, j, rfl, rfl, hc, rfl, e⟩ := semI_inv hx hy h
  exact ⟨i, j, rfl, rfl, rv_fin k q e (hf i j _)⟩
@[simp] def cTrue : Int → Int → Bool := fun _ _ => true
@[simp] def cPos : Int → Int → Bool := fun _ j => decide (0 < j)
@[simp] def cDiv : Int → Int → Bool := fun _ j => decide (0 < j) && decide (j < 1073741824)
@[simp] def cMul : Int → Int → Bool := fun i j => (decide (-18446744073709551616 < i) && decide (i < 18446744073709551616)) || (decide (-18446744073709551616 < j) && decide (j < 18446744073709551616))
@[simp] def cPow : Int → Int → Bool := fun i j => decide (0 ≤ j) && decide (j ≤ 1000000) && decide (i.natAbs < 18446744073709551616)
@[simp] def cNn : Int → Int → Bool := fun _ j => decide (0 ≤ j)
abbrev semSub : Sem2 := semI (fun _ _ => true) fun i j => .int (i - j)
abbrev semMul : Sem2 := semI cMul fun i j => .int (i * j)
abbrev semFdiv : Sem2 := semI cDiv fun i j => .int (i / j)
abbrev semMod : Sem2 := semI cPos fun i j => .int (i % j)
abbrev semPow : Sem2 := semI cPow fun i j => .int (i ^ j.toNat)
abbrev semShl : Sem2 := semI cPow fun i j => .int (i * 2 ^ j.toNat)
abbrev semShr : Sem2 := semI cNn fun i j => .int (i / 2 ^ j.toNat)
abbrev semAnd : Sem2 := semI (fun _ _ => true) fun i j => .int (Builtin.bitAnd i j)
abbrev semOr : Sem2 := semI (fun _ _ => true) fun i j => .int (Builtin.bitOr i j)
abbrev semLt : Sem2 := semI (fun _ _ => true) fun i j => .bool (decide (i < j))
abbrev semLe : Sem2 := semI (fun _ _ => true) fun i j => .bool (decide (i ≤ j))
abbrev semGt : Sem2 := semI (fun _ _ => true) fun i j => .bool (decide (j < i))
abbrev semGe : Sem2 := semI (fun _ _ => true) fun i j => .bool (decide (j ≤ i))
@[simp] def semNeg : Sem1 := fun S x => match x with
  | .dat (.int i) => some (.dat (.int (-i)), S)
  | _ => none
theorem s_sub : OpS K cm (rI0 fun i j => .int (i - j)) semSub := opS_I0 fun i j H => .int _
theorem s_mul : OpS K cm (rI CMul fun i j => .int (i * j)) semMul := opS_I (fun i j h => by
  unfold cMul at h
  simp only [Bool.or_eq_true, Bool.and_eq_true, decide_eq_true_eq] at h
  show (-(2 ^ 64) < i ∧ i < 2 ^ 64) ∨ (-(2 ^ 64) < j ∧ j < 2 ^ 64)
  omega) fun i j H => .int _
theorem s_fdiv : OpS K cm (rI CDiv fun i j => .int (i / j)) semFdiv := opS_I (fun i j h => by
  unfold cDiv at h
  simp only [Bool.and_eq_true, decide_eq_true_eq] at h
  exact h) fun i j H => .int _
theorem s_mod : OpS K cm (rI (fun _ j => 0 < j) fun i j => .int (i % j)) semMod := opS_I (fun i j h => of_decide_eq_true h) fun i j H => .int _
theorem s_pow : OpS K cm (rI CPow fun i j => .int (i ^ j.toNat)) semPow := opS_I (fun i j h => by
  unfold cPow at h
  simp only [Bool.and_eq_true, decide_eq_true_eq] at h
  exact ⟨h.1.1, h.1.2, by rw [show (2 : Nat) ^ 64 = 18446744073709551616 from rfl]; exact h.2⟩) fun i j H => .int _
theorem s_shl : OpS K cm (rI CPow fun i j => .int (i * 2 ^ j.toNat)) semShl := opS_I (fun i j h => by
  unfold cPow at h
  simp only [Bool.and_eq_true, decide_eq_true_eq] at h
  exact ⟨h.1.1, h.1.2, by rw [show (2 : Nat) ^ 64 = 18446744073709551616 from rfl]; exact h.2⟩) fun i j H => .int _
theorem s_shr : OpS K cm (rI (fun _ j => 0 ≤ j) fun i j => .int (i / 2 ^ j.toNat)) semShr := opS_I (fun i j h => of_decide_eq_true h) fun i j H => .int _
theorem s_and : OpS K cm (rI0 fun i j => .int (Builtin.bitAnd i j)) semAnd := opS_I0 fun i j H => .int _
theorem s_or : OpS K cm (rI0 fun i j => .int (Builtin.bitOr i j)) semOr := opS_I0 fun i j H => .int _
theorem s_lt : OpS K cm (rI0 fun i j => .bl (decide (i < j))) semLt := opS_I0 fun i j H => .bl _
theorem s_le : OpS K cm (rI0 fun i j => .bl (decide (i ≤ j))) semLe := opS_I0 fun i j H => .bl _
theorem s_gt : OpS K cm (rI0 fun i j => .bl (decide (j < i))) semGt := opS_I0 fun i j H => .bl _
theorem s_ge : OpS K cm (rI0 fun i j => .bl (decide (j ≤ i))) semGe := opS_I0 fun i j H => .bl _
theorem s_neg : UnS K cm (rU fun i => .int (-i)) semNeg := by
  intro g x z v S' Q k hx h q
  unfold semNeg at h
  split at h
  · rename_i i
    cases (show Dq K g.Hf v (.int i) from hx)
    cases h
    exact ⟨i, rfl, rv_fin k q rfl (.int _)⟩
  · cases h
/-! ### + -/
@[simp] def semAdd : Sem2 := fun S x y => match x, y with
  | .dat (.int i), .dat (.int j) => some (.dat (.int (i + j)), S)
  | .dat (.str i), .dat (.str j) => if i.length + j.length ≤ 100000 then some (.dat (.str (i ++ j)), S) else none
  | .dat (.list i), .dat (.list j) => if i.length + j.length ≤ 100000 then some (.dat (.list (i ++ j)), S) else none
  | _, _ => none
/-- + of lists, a cell among them; the answer is data -/
@[simp] def semCat : Sem2 := fun S x y => match dOf S x, dOf S y with
  | some (.list i), some (.list j) => if i.length + j.length ≤ 100000 then some (.dat (.list (i ++ j)), S) else none
  | _, _ => none
/-- + of lists, the answer a new cell -/
@[simp] def semCatC : Sem2 := fun S x y => match dOf S x, dOf S y with
  | some (.list i), some (.list j) => if i.length + j.length ≤ 100000 then some (.obj S.length, S ++ [.lst ((i ++ j).map .dat)]) else none
  | _, _ => none
theorem line100 {n : Nat} (h : n ≤ 100000) : n ≤ sizeLine := Nat.le_trans h (by rw [sizeLine_eq]; decide)
def rAddAll : R2 := fun x y H Q => rI0 (fun i j => .int (i + j)) x y H Q ∨ (∃ i j, x = .str i ∧ y = .str j ∧ i.length + j.length ≤ sizeLine ∧ Q (.str (i ++ j)) H) ∨ rCat x y H Q
theorem op_addAll {X : Cx} : OpR X (binaryOp .Add) rAddAll := op_add.or (op_add_str.or op_cat)
theorem s_add : OpS K cm rAddAll semAdd := by
  intro g x y z v w S' Q k hx hy h q
  unfold semAdd at h
  split at h
  · rename_i i j
    cases (show Dq K g.Hf v (.int i) from hx)
    cases (show Dq K g.Hf w (.int j) from hy)
    cases h
    exact .inl ⟨i, j, rfl, rfl, rv_fin k q rfl (.int _)⟩
  · rename_i i j
    cases (show Dq K g.Hf v (.str i) from hx)
    cases (show Dq K g.Hf w (.str j) from hy)
    split at h
    · rename_i hl
      cases h
      exact .inr (.inl ⟨i, j, rfl, rfl, line100 hl, rv_fin k q rfl (.str _)⟩)
    · cases h
  · rename_i i j
    cases (show Dq K g.Hf v (.list i) from hx) with
    | lst h1 h2 =>
      cases (show Dq K g.Hf w (.list j) from hy) with
      | lst h3 h4 =>
        split at h
        · rename_i hl
          cases h
          refine .inr (.inr ⟨_, _, _, _, rfl, rfl, k.frz _ _ h1, k.frz _ _ h3, by rw [h2.length, h4.length]; exact line100 hl, fun p hp => ?_⟩)
          refine q (g.frz p _) _ (k.frz_ok hp) rfl (k.frz_stp hp) ?_
          exact Dq.lst upd_same ((h2.app h4).mono (k.frz_stp hp).hf)
        · cases h
  · cases h
theorem dOf_lst {g : Gs} {x : Vl} {v : V} {ds : List PyData} (k : g.ok K cm) (r : RV K g x v) (h : dOf g.S x = some (.list ds)) : ∃ a vs, v = .ref a ∧ g.H a = some (.lst vs) ∧ DqAll K g.Hf vs ds := by
  cases x with
  | dat d =>
    cases h
    cases (show Dq K g.Hf v (.list ds) from r) with
    | lst h1 h2 => exact ⟨_, _, rfl, k.frz _ _ h1, h2⟩
  | obj i =>
    obtain ⟨hi, rfl⟩ := r
    have h' : (match g.S[i]? with
      | some (.lst xs) => (allD xs).map PyData.list
      | _ => none) = some (.list ds) := h
    cases e : g.S[i]? with
    | none => rw [e] at h'; cases h'
    | some c =>
      rw [e] at h'
      cases c with
      | lst ys =>
        obtain ⟨es, e2, e3⟩ := map_some' h'
        cases e3
        obtain ⟨vs, h1, h2⟩ := cell_lst k e
        exact ⟨_, vs, rfl, h1, allD_ok h2 e2⟩
      | dct _ => cases h'
      | ins _ _ => cases h'
      | gone => cases h'
  | scr ns => cases h
theorem s_cat : OpS K cm rCat semCat := by
  intro g x y z v w S' Q k hx hy h q
  unfold semCat at h
  split at h
  · rename_i i j ei ej
    obtain ⟨a, vs, rfl, h1, h2⟩ := dOf_lst k hx ei
    obtain ⟨b, ws, rfl, h3, h4⟩ := dOf_lst k hy ej
    split at h
    · rename_i hl
      cases h
      refine ⟨_, _, _, _, rfl, rfl, h1, h3, by rw [h2.length, h4.length]; exact line100 hl, fun p hp => ?_⟩
      refine q (g.frz p _) _ (k.frz_ok hp) rfl (k.frz_stp hp) ?_
      exact Dq.lst upd_same ((h2.app h4).mono (k.frz_stp hp).hf)
    · cases h
  · cases h
theorem s_catC : OpS K cm rCat semCatC := by
  intro g x y z v w S' Q k hx hy h q
  unfold semCatC at h
  split at h
  · rename_i i j ei ej
    obtain ⟨a, vs, rfl, h1, h2⟩ := dOf_lst k hx ei
    obtain ⟨b, ws, rfl, h3, h4⟩ := dOf_lst k hy ej
    split at h
    · rename_i hl
      cases h
      refine ⟨_, _, _, _, rfl, rfl, h1, h3, by rw [h2.length, h4.length]; exact line100 hl, fun p hp => ?_⟩
      obtain ⟨k2, st2, r2⟩ := new_cell k hp (RVs.ofD (g := g) (h2.app h4))
      exact q _ _ k2 rfl st2 r2
    · cases h
  · cases h
/-! ### == -/
@[simp] def scD : PyData → PyData → Bool
  | .none, .none => true | .none, .int _ => true | .int _, .none => true | .none, .bool _ => true | .bool _, .none => true | .none, .str _ => true | .str _, .none => true
  | .int _, .int _ => true | .bool _, .bool _ => true | .str _, .str _ => true
  | .int _, .str _ => true | .str _, .int _ => true | .bool _, .str _ => true | .str _, .bool _ => true
  | _, _ => false
theorem scD_ok {H : Hp} {v w : V} {d e : PyData} (h1 : Dp K H v d) (h2 : Dp K H w e) (h : scD d e = true) : scal v w = true ∧ decide (v = w) = PyData.eqv d e := by
  cases h1 <;> cases h2 <;> first
    | exact absurd h Bool.false_ne_true
    | (refine ⟨rfl, ?_⟩; simp [PyData.eqv]; done)
    | (refine ⟨rfl, ?_⟩; rw [Bool.eq_iff_iff]; simp [PyData.eqv])
@[simp] def eqOk (d e : PyData) : Bool := scD d e || (SeqAt.shaped d && SeqAt.shaped e)
@[simp] def semEq : Sem2 := fun S x y => match dOf S x, dOf S y with
  | some d, some e => if eqOk d e = true then some (.dat (.bool (PyData.eqv d e)), S) else none
  | _, _ => none
@[simp] def semNe : Sem2 := fun S x y => match dOf S x, dOf S y with
  | some d, some e => if eqOk d e = true then some (.dat (.bool (!PyData.eqv d e)), S) else none
  | _, _ => none
def rEqAll (K : PySem.W.Frag) : R2 := fun x y H Q => rEq x y H Q ∨ rEqD K x y H Q
def rNeAll (K : PySem.W.Frag) : R2 := fun x y H Q => rNe x y H Q ∨ rNeD K x y H Q
theorem op_eqAll {X : Cx} (hu : X.A.units + 64 < cLine) : OpR X (compareOp .Eq) (rEqAll X.K) := op_eq.or (op_eqD hu)
theorem op_neAll {X : Cx} (hu : X.A.units + 64 < cLine) : OpR X (compareOp .NotEq) (rNeAll X.K) := op_ne.or (op_neD hu)
theorem s_eq : OpS K cm (rEqAll K) semEq := by
  intro g x y z v w S' Q k hx hy h q
  unfold semEq at h
  split at h
  · rename_i d e ed ee
    have h1 := dOf_ok k hx ed
    have h2 := dOf_ok k hy ee
    split at h
    · rename_i hs
      cases h
      have fin : Q (.bl (PyData.eqv d e)) g.H := rv_fin k q rfl (.bl _)
      unfold eqOk at hs
      rw [Bool.or_eq_true] at hs
      rcases hs with hs | hs
      · obtain ⟨e1, e2⟩ := scD_ok h1 h2 hs
        exact .inl ⟨e1, by rw [e2]; exact fin⟩
      · rw [Bool.and_eq_true] at hs
        exact .inr ⟨d, e, h1, h2, hs.1, hs.2, fin⟩
    · cases h
  · cases h
theorem s_ne : OpS K cm (rNeAll K) semNe := by
  intro g x y z v w S' Q k hx hy h q
  unfold semNe at h
  split at h
  · rename_i d e ed ee
    have h1 := dOf_ok k hx ed
    have h2 := dOf_ok k hy ee
    split at h
    · rename_i hs
      cases h
      have fin : Q (.bl (!PyData.eqv d e)) g.H := rv_fin k q rfl (.bl _)
      unfold eqOk at hs
      rw [Bool.or_eq_true] at hs
      rcases hs with hs | hs
      · obtain ⟨e1, e2⟩ := scD_ok h1 h2 hs
        exact .inl ⟨e1, by rw [e2]; exact fin⟩
      · rw [Bool.and_eq_true] at hs
        exact .inr ⟨d, e, h1, h2, hs.1, hs.2, fin⟩
    · cases h
  · cases h
/-! ### is -/
@[simp] def isNone : Vl → Bool
  | .dat .none => true
  | _ => false
@[simp] def isBoolV (b : Bool) : Vl → Bool
  | .dat (.bool c) => c == b
  | _ => false
theorem isNone_ok {g : Gs} {x : Vl} {v : V} (r : RV K g x v) : decide (v = .non) = isNone x := by
  cases x with
  | dat d => cases (show Dq K g.Hf v d from r) <;> rfl
  | obj i => obtain ⟨_, rfl⟩ := r; rfl
  | scr ns => obtain ⟨_, rfl, _⟩ := r; rfl
/-- is of a bool, whatever stands on the left -/
def vIsB (b : Bool) : V → Bool
  | .bl c => c == b
  | _ => false
theorem isB_ok {g : Gs} {x : Vl} {v : V} (b : Bool) (r : RV K g x v) : vIsB b v = isBoolV b x := by
  cases x with
  | dat d => cases (show Dq K g.Hf v d from r) <;> rfl
  | obj i => obtain ⟨_, rfl⟩ := r; rfl
  | scr ns => obtain ⟨_, rfl, _⟩ := r; rfl
theorem is_bool_gen {M : Model} {A : Around} {E : Value → Shared → Prop} {s : Shared} {Q : Value → Shared → Prop} {x : V} {v : Value} {b : Bool} (r : RelV x v) (h : Q (.bool (v == .bool b)) s) : wpAny M A (compareOp .Is v (.bool b)) Q E s := by
  cases x with
  | bl c => cases (show v = Value.bool c from r); exact wpAny_pure h
  | non => cases (show v = Value.none from r); exact wpAny_pure h
  | int _ => obtain ⟨t, rfl⟩ := r; exact wpAny_pure h
  | str _ => obtain ⟨t, rfl⟩ := r; exact wpAny_pure h
  | byt _ => obtain ⟨t, rfl⟩ := r; exact wpAny_pure h
  | flt _ => obtain ⟨t, rfl⟩ := r; exact wpAny_pure h
  | ref _ => cases (show v = Value.ref _ from r); exact wpAny_pure h
  | ty _ => cases (show v = Value.type _ from r); exact wpAny_pure h
theorem isnot_bool_gen {M : Model} {A : Around} {E : Value → Shared → Prop} {s : Shared} {Q : Value → Shared → Prop} {x : V} {v : Value} {b : Bool} (r : RelV x v) (h : Q (.bool (!(v == .bool b))) s) : wpAny M A (compareOp .IsNot v (.bool b)) Q E s := by
  cases x with
  | bl c => cases (show v = Value.bool c from r); exact wpAny_pure h
  | non => cases (show v = Value.none from r); exact wpAny_pure h
  | int _ => obtain ⟨t, rfl⟩ := r; exact wpAny_pure h
  | str _ => obtain ⟨t, rfl⟩ := r; exact wpAny_pure h
  | byt _ => obtain ⟨t, rfl⟩ := r; exact wpAny_pure h
  | flt _ => obtain ⟨t, rfl⟩ := r; exact wpAny_pure h
  | ref _ => cases (show v = Value.ref _ from r); exact wpAny_pure h
  | ty _ => cases (show v = Value.type _ from r); exact wpAny_pure h
theorem relIsB {x : V} {u : Value} (b : Bool) (r : RelV x u) : (u == Value.bool b) = vIsB b x := by
  cases x with
  | bl c => cases (show u = Value.bool c from r); cases c <;> cases b <;> rfl
  | non => cases (show u = Value.none from r); rfl
  | int _ => obtain ⟨t, rfl⟩ := r; rfl
  | str _ => obtain ⟨t, rfl⟩ := r; rfl
  | byt _ => obtain ⟨t, rfl⟩ := r; rfl
  | flt _ => obtain ⟨t, rfl⟩ := r; rfl
  | ref _ => cases (show u = Value.ref _ from r); rfl
  | ty _ => cases (show u = Value.type _ from r); rfl
def rIsBB : R2 := fun x y H Q => ∃ b, y = .bl b ∧ Q (.bl (vIsB b x)) H
def rNotBB : R2 := fun x y H Q => ∃ b, y = .bl b ∧ Q (.bl (!vIsB b x)) H
def rIsNN : R2 := fun x y H Q => y = .non ∧ Q (.bl (decide (x = .non))) H
def rNotNN : R2 := fun x y H Q => y = .non ∧ Q (.bl (!decide (x = .non))) H
theorem op_isBB {X : Cx} : OpR X (compareOp .Is) rIsBB := by
  intro pins s σ H x y v u Q I rx ry h
  obtain ⟨b, rfl, q⟩ := h
  cases (show u = Value.bool b from ry)
  exact is_bool_gen rx (fin_bl I q (relIsB b rx).symm)
theorem op_notBB {X : Cx} : OpR X (compareOp .IsNot) rNotBB := by
  intro pins s σ H x y v u Q I rx ry h
  obtain ⟨b, rfl, q⟩ := h
  cases (show u = Value.bool b from ry)
  exact isnot_bool_gen rx (fin_bl I q (congrArg not (relIsB b rx).symm))
def rIsAll : R2 := fun x y H Q => rIsNN x y H Q ∨ rIsBB x y H Q
def rIsNotAll : R2 := fun x y H Q => rNotNN x y H Q ∨ rNotBB x y H Q
theorem op_isAll {X : Cx} : OpR X (compareOp .Is) rIsAll := OpR.or (r := rIsNN) op_isN op_isBB
theorem op_isNotAll {X : Cx} : OpR X (compareOp .IsNot) rIsNotAll := OpR.or (r := rNotNN) op_notN op_notBB
@[simp] def semIs : Sem2 := fun S x y => match y with
  | .dat .none => some (.dat (.bool (isNone x)), S)
  | .dat (.bool b) => some (.dat (.bool (isBoolV b x)), S)
  | _ => none
@[simp] def semIsNot : Sem2 := fun S x y => match y with
  | .dat .none => some (.dat (.bool (!isNone x)), S)
  | .dat (.bool b) => some (.dat (.bool (!isBoolV b x)), S)
  | _ => none
theorem s_is : OpS K cm rIsAll semIs := by
  intro g x y z v w S' Q k hx hy h q
  unfold semIs at h
  split at h
  · cases (show Dq K g.Hf w .none from hy)
    cases h
    exact .inl ⟨rfl, by rw [isNone_ok hx]; exact rv_fin k q rfl (.bl _)⟩
  · rename_i b
    cases (show Dq K g.Hf w (.bool b) from hy)
    cases h
    exact .inr ⟨b, rfl, by rw [isB_ok b hx]; exact rv_fin k q rfl (.bl _)⟩
  · cases h
theorem s_isNot : OpS K cm rIsNotAll semIsNot := by
  intro g x y z v w S' Q k hx hy h q
  unfold semIsNot at h
  split at h
  · cases (show Dq K g.Hf w .none from hy)
    cases h
    exact .inl ⟨rfl, by rw [isNone_ok hx]; exact rv_fin k q rfl (.bl _)⟩
  · rename_i b
    cases (show Dq K g.Hf w (.bool b) from hy)
    cases h
    exact .inr ⟨b, rfl, by rw [isB_ok b hx]; exact rv_fin k q rfl (.bl _)⟩
  · cases h
/-! ### subscripts -/
@[simp] def semIx : Sem2 := fun S x y => match y with
  | .dat (.int i) => match x with
    | .dat (.str z) => if z.length ≤ 100000 then (atI z.cps.toList i).map fun c => (.dat (.str ⟨#[c]⟩), S) else none
    | _ => (lOf S x).bind fun xs => (atI xs i).map fun u => (u, S)
  | _ => none
theorem atI_rv {g : Gs} {xs : List Vl} {vs : List V} {i : Int} {u : Vl} (r : RVs K g xs vs) (h : atI xs i = some u) : ∃ w, atI vs i = some w ∧ RV K g u w := by
  unfold atI at h ⊢
  rw [← r.length]
  obtain ⟨j, e1, e2⟩ := bind_some h
  obtain ⟨w, e3, r3⟩ := r.get e2
  exact ⟨w, by rw [e1]; exact e3, r3⟩
theorem s_ix : OpS K cm (rIx K) semIx := by
  intro g x y z v w S' Q k hx hy h q
  unfold semIx at h
  split at h
  · rename_i i
    cases (show Dq K g.Hf w (.int i) from hy)
    split at h
    · rename_i zz
      cases (show Dq K g.Hf v (.str zz) from hx)
      split at h
      · rename_i hl
        obtain ⟨c, e1, e2⟩ := map_some' h
        cases e2
        exact .inr (.inr ⟨zz, i, c, rfl, rfl, line100 hl, e1, rv_fin k q rfl (.str _)⟩)
      · cases h
    · obtain ⟨xs, e1, h⟩ := bind_some h
      obtain ⟨u, e2, h⟩ := map_some' h
      cases h
      obtain ⟨a, vs, rfl, hs, rr⟩ := lOf_ok k hx e1
      obtain ⟨w', e3, r3⟩ := atI_rv rr e2
      rcases hs with hs | hs
      · exact .inl ⟨a, vs, i, w', rfl, rfl, hs, e3, rv_fin k q rfl r3⟩
      · exact .inr (.inl ⟨a, vs, i, w', rfl, rfl, hs, e3, rv_fin k q rfl r3⟩)
  · cases h
/-! ### len, int -/
@[simp] def semLen : SemN := fun S xs => match xs with
  | [.dat (.str z)] => if z.length ≤ 100000 then some (.dat (.int z.length), S) else none
  | [x] => (lOf S x).map fun ys => (.dat (.int ys.length), S)
  | _ => none
def rLenAll (K : PySem.W.Frag) : List V → Hp → VK → Prop := fun xs H Q => (∃ p ys, xs = [.ref p] ∧ (SqL K H p ys ∨ SqT K H p ys) ∧ Q (.int ys.length) H) ∨ ∃ z, xs = [.str z] ∧ z.length ≤ sizeLine ∧ Q (.int z.length) H
theorem call_lenAll {X : Cx} : CallR X (.builtin "len") (rLenAll X.K) := call_len_seq.or call_len_str
theorem s_len : CallS K cm (rLenAll K) semLen := by
  intro g xs z vs S' Q k r h q
  unfold semLen at h
  split at h
  · rename_i zz
    cases r with
    | cons r1 r2 =>
      cases r2
      cases (show Dq K g.Hf _ (.str zz) from r1)
      split at h
      · rename_i hl
        cases h
        exact .inr ⟨zz, rfl, line100 hl, rv_fin k q rfl (.int _)⟩
      · cases h
  · cases r with
    | cons r1 r2 =>
      cases r2
      obtain ⟨ys, e1, h⟩ := map_some' h
      cases h
      obtain ⟨a, us, rfl, hs, rr⟩ := lOf_ok k r1 e1
      exact .inl ⟨a, us, rfl, hs, by rw [← rr.length]; exact rv_fin k q rfl (.int _)⟩
  · cases h
@[simp] def semInt : SemN := fun S xs => match xs with
  | [.dat (.int i)] => some (.dat (.int i), S)
  | [.dat (.bool b)] => some (.dat (.int (if b then 1 else 0)), S)
  | _ => none
def rIntAll : List V → Hp → VK → Prop := fun xs H Q => (∃ i, xs = [.int i] ∧ Q (.int i) H) ∨ ∃ k, xs = [.bl k] ∧ Q (.int (if k then 1 else 0)) H
theorem s_int : CallS K cm rIntAll semInt := by
  intro g xs z vs S' Q k r h q
  unfold semInt at h
  split at h
  · rename_i i
    cases r with
    | cons r1 r2 =>
      cases r2
      cases (show Dq K g.Hf _ (.int i) from r1)
      cases h
      exact .inl ⟨i, rfl, rv_fin k q rfl (.int _)⟩
  · rename_i b
    cases r with
    | cons r1 r2 =>
      cases r2
      cases (show Dq K g.Hf _ (.bool b) from r1)
      cases h
      exact .inr ⟨b, rfl, rv_fin k q rfl (.int _)⟩
  · cases h
end
/-! ### isinstance with a built-in type -/
inductive Ty where
  | tuple | list | bool | int | str
def Ty.nm : Ty → String
  | .tuple => "tuple" | .list => "list" | .bool => "bool" | .int => "int" | .str => "str"
@[simp] def isTy (t : Ty) : Vl → Bool
  | .dat (.none) => false
  | .dat (.bool _) => match t with
    | .bool => true
    | .int => true
    | _ => false
  | .dat (.int _) => match t with
    | .int => true
    | _ => false
  | .dat (.str _) => match t with
    | .str => true
    | _ => false
  | .dat (.list _) => match t with
    | .list => true
    | _ => false
  | .dat (.tuple _) => match t with
    | .tuple => true
    | _ => false
  | _ => false
@[simp] def iIsi (t : Ty) (f : IE) : IE := fun ε S => (f ε S).bind fun a => match a.1 with
  | .dat d => some (.dat (.bool (isTy t (.dat d))), a.2)
  | _ => none
theorem kitT (K : PySem.W.Frag) (t : Ty) : PySem.W.kitOne K (.type "tuple") (.type t.nm) = some (isTy t (.dat (.tuple []))) := by
  cases t <;> exact kit_ty (by decide +kernel)
theorem kitL (K : PySem.W.Frag) (t : Ty) : PySem.W.kitOne K (.type "list") (.type t.nm) = some (isTy t (.dat (.list []))) := by
  cases t <;> exact kit_ty (by decide +kernel)
theorem kitN (K : PySem.W.Frag) (t : Ty) : PySem.W.kitOne K (.type "NoneType") (.type t.nm) = some (isTy t (.dat .none)) := by
  cases t <;> exact kit_ty (by decide +kernel)
theorem kitBo (K : PySem.W.Frag) (t : Ty) : PySem.W.kitOne K (.type "bool") (.type t.nm) = some (isTy t (.dat (.bool true))) := by
  cases t <;> exact kit_ty (by decide +kernel)
theorem kitI (K : PySem.W.Frag) (t : Ty) : PySem.W.kitOne K (.type "int") (.type t.nm) = some (isTy t (.dat (.int 0))) := by
  cases t <;> exact kit_ty (by decide +kernel)
theorem kitS (K : PySem.W.Frag) (t : Ty) : PySem.W.kitOne K (.type "str") (.type t.nm) = some (isTy t (.dat (.str ⟨#[]⟩))) := by
  cases t <;> exact kit_ty (by decide +kernel)
theorem tyX_of {K : PySem.W.Frag} {H : Hp} {v : V} {d : PyData} (h : Dp K H v d) (t : Ty) : ∃ u, TyX K H v u ∧ PySem.W.kitOne K u (.type t.nm) = some (isTy t (.dat d)) := by
  cases h with
  | non => exact ⟨_, .base .non, kitN K t⟩
  | bl b => exact ⟨_, .base (.bl b), kitBo K t⟩
  | int i => exact ⟨_, .base (.int i), kitI K t⟩
  | str x => exact ⟨_, .base (.str x), kitS K t⟩
  | lst h1 h2 =>
    rcases h1 with (h1 | ⟨o, h1⟩) | ⟨o, its, n, h1, h3, _⟩
    · exact ⟨_, .base (.lst h1), kitL K t⟩
    · exact ⟨_, .base (.frz h1), kitL K t⟩
    · exact ⟨_, .kList h1 h3, kitL K t⟩
  | tup h1 h2 =>
    rcases h1 with (h1 | ⟨o, h1⟩) | ⟨o, its, n, h1, h3, _⟩
    · exact ⟨_, .base (.tup h1), kitT K t⟩
    · exact ⟨_, .fTuple h1, kitT K t⟩
    · exact ⟨_, .kTuple h1 h3, kitT K t⟩
theorem xe_isi {X : Cx} {cm : Nat → Addr} {pos p pt : Pos} {e : Expr} {f : IE} {T : Str} (t : Ty) (he : XE X cm e f) (hg : Gl X "isinstance") (hm : X.mg "isinstance" = none) (hgT : Gl X T) (hmT : X.mg T = none) (hT : bootBuiltins T = some (.type t.nm))
    (hn : T ≠ "__name__" := by decide) (hd : (T == ("__debug__" : Str)) = false := by decide) (h1 : starEach [e, .Name T pt] X.env = (false, eval e X.env) :: starEach [.Name T pt] X.env := by rfl) (h2 : starEach [.Name T pt] X.env = (false, eval (.Name T pt) X.env) :: starEach [] X.env := by rfl) (hpl : (backTo pos (starEach [.Name T pt] X.env)).any (·.1) = false := by rfl) :
    XE X cm (.Call (.Name "isinstance" p) [e, .Name T pt] [] pos) (iIsi t f) :=
  pe_weak (pe_callB call_isi hg hm (by decide +kernel) (pa_cons he (pa_cons (pe_bltn (v := .ty t.nm) hgT hmT hT rfl hn hd) pa_nil h2) h1) (by decide) (by decide) h1 hpl) fun σ H Q ⟨g, ε, x, S', e, k, env, h, q⟩ => by
    subst e
    obtain ⟨⟨x1, S1⟩, e1, h⟩ := bind_some h
    refine ⟨g, ε, x1, S1, rfl, k, env, e1, fun g1 v1 k1 s1 st1 r1 => ?_⟩
    subst s1
    match x1, h, r1 with
    | .dat d, h, r1 =>
      cases h
      obtain ⟨u, ty, kt⟩ := tyX_of (Dq.mono k1.frz r1).dp t
      exact ⟨v1, .ty t.nm, u, _, _, rfl, .ty _, ty, kt, q g1 _ k1 rfl st1 (.bl _)⟩
end Y
namespace Y
open PySem PySem.Spec PyProof.Rows L2
/-! ### what is walked: lists, tuples, ranges -/
/-- the list or tuple that e gives -/
@[simp] def iItems (f : IE) : IA := fun ε S => (f ε S).bind fun a => (lOfD a.1).map fun xs => (xs, a.2)
where lOfD : Vl → Option (List Vl)
  | .dat (.list ds) => some (ds.map .dat)
  | .scr ns => some (ns.map fun n => .dat (.int n))
  | _ => none
@[simp] def iItemsT (f : IE) : IA := fun ε S => (f ε S).bind fun a => match a.1 with
  | .dat (.tuple ds) => some (ds.map .dat, a.2)
  | _ => none
@[simp] def upTo : Nat → Int → List Vl
  | 0, _ => []
  | n + 1, i => .dat (.int i) :: upTo n (i + 1)
theorem upTo_length : ∀ (n : Nat) (i : Int), (upTo n i).length = n
  | 0, _ => rfl
  | n + 1, i => by
    show (upTo n (i + 1)).length + 1 = n + 1
    rw [upTo_length n]
theorem upTo_get : ∀ (n : Nat) (i : Int) (j : Nat) (x : Vl), (upTo n i)[j]? = some x → j < n ∧ x = .dat (.int (i + j))
  | 0, _, _, _, h => by cases h
  | n + 1, i, 0, x, h => by
    cases h
    exact ⟨Nat.zero_lt_succ _, by simp⟩
  | n + 1, i, j + 1, x, h => by
    obtain ⟨h1, h2⟩ := upTo_get n (i + 1) j x h
    refine ⟨Nat.succ_lt_succ h1, ?_⟩
    rw [h2]
    congr 2
    omega
@[simp] def rngOk (n : Int) : Bool := decide (-1000000 ≤ n) && decide (n ≤ 1000000)
@[simp] def iRng (f : IE) : IA := fun ε S => (f ε S).bind fun a => match a.1 with
  | .dat (.int n) => if rngOk n = true then some (upTo n.toNat 0, a.2) else none
  | _ => none
section
variable {K : PySem.W.Frag} {cm : Nat → Addr}
theorem itR_list {g : Gs} {a : Addr} {xs : List Vl} {vs : List V} (h : SqL K g.Hf a vs) (r : RVs K g xs vs) : ItR K cm (Itl K a) g xs where
  go := fun g2 i x st k2 hx => by
    obtain ⟨v, e, rv⟩ := r.get hx
    have hs : SqL K g2.H a vs := k2.frz.seq (st.hf.seq h)
    refine ⟨⟨vs, v, hs, e⟩, fun w H' y => ?_⟩
    obtain ⟨rfl, hy⟩ := y
    have ew := hy vs hs
    rw [e] at ew
    cases ew
    exact ⟨g2, rfl, k2, rfl, Stp.refl g2, rv.wk st⟩
  stop := fun g2 st k2 => ⟨vs, k2.frz.seq (st.hf.seq h), by rw [r.length]; exact Nat.le_refl _⟩
theorem itR_tup {g : Gs} {a : Addr} {xs : List Vl} {vs : List V} (h : SqT K g.Hf a vs) (r : RVs K g xs vs) : ItR K cm (Itt K a) g xs where
  go := fun g2 i x st k2 hx => by
    obtain ⟨v, e, rv⟩ := r.get hx
    have hs : SqT K g2.H a vs := sqT_mono k2.frz (sqT_mono st.hf h)
    refine ⟨⟨vs, v, hs, e⟩, fun w H' y => ?_⟩
    obtain ⟨rfl, hy⟩ := y
    have ew := hy vs hs
    rw [e] at ew
    cases ew
    exact ⟨g2, rfl, k2, rfl, Stp.refl g2, rv.wk st⟩
  stop := fun g2 st k2 => ⟨vs, sqT_mono k2.frz (sqT_mono st.hf h), by rw [r.length]; exact Nat.le_refl _⟩
theorem itR_rng {g : Gs} (n : Nat) : ItR K cm (Itr 0 n) g (upTo n 0) where
  go := fun g2 i x st k2 hx => by
    obtain ⟨h1, rfl⟩ := upTo_get n 0 i x hx
    refine ⟨h1, fun w H' y => ?_⟩
    obtain ⟨rfl, rfl⟩ := y
    exact ⟨g2, rfl, k2, rfl, Stp.refl g2, .int _⟩
  stop := fun g2 st k2 => by
    show n ≤ _
    rw [upTo_length]
    exact Nat.le_refl _
end
section
variable {X : Cx} {cm : Nat → Addr} {pos : Pos} {tg e : Expr} {f : IE}
theorem xi_list (he : XE X cm e f) : XI X cm tg e (iItems f) := pi_weak (pi_list he) fun σ H R ⟨g, ε, x, S', e, k, env, h, q⟩ => by
  subst e
  obtain ⟨⟨x1, S1⟩, e1, h⟩ := bind_some h
  obtain ⟨xs, e2, h⟩ := map_some' h
  cases h
  refine ⟨g, ε, x1, S1, rfl, k, env, e1, fun g1 v1 k1 s1 st1 r1 => ?_⟩
  cases x1 with
  | dat d =>
    cases (show Dq X.K g1.Hf v1 d from r1) with
    | lst h1 h2 =>
      cases e2
      exact ⟨_, rfl, ⟨_, SqL.of (k1.frz _ _ h1)⟩, q g1 _ k1 s1 st1 (itR_list (SqL.of h1) (RVs.ofD h2))⟩
    | non => cases e2
    | bl => cases e2
    | int => cases e2
    | str => cases e2
    | tup => cases e2
  | obj i => cases e2
  | scr ns =>
    cases e2
    obtain ⟨a, rfl, hq⟩ := r1
    exact ⟨a, rfl, ⟨_, k1.frz.seq hq⟩, q g1 _ k1 s1 st1 (itR_list hq (ints_rv ns))⟩
theorem xi_tup (he : XE X cm e f) : XI X cm tg e (iItemsT f) := pi_weak (pi_tup he) fun σ H R ⟨g, ε, x, S', e, k, env, h, q⟩ => by
  subst e
  obtain ⟨⟨x1, S1⟩, e1, h⟩ := bind_some h
  refine ⟨g, ε, x1, S1, rfl, k, env, e1, fun g1 v1 k1 s1 st1 r1 => ?_⟩
  match x1, h, r1 with
  | .dat (.tuple ds), h, .tup h1 h2 =>
    cases h
    exact ⟨_, rfl, ⟨_, sqT_mono k1.frz h1⟩, q g1 _ k1 s1 st1 (itR_tup h1 (RVs.ofD h2))⟩
theorem xi_range {a : Expr} {p : Pos} (hg : Gl X "range") (hm : X.mg "range" = none) (ha : XE X cm a f) (hs : starEach [a] X.env = [(false, eval a X.env)] := by rfl) : XI X cm tg (.Call (.Name "range" p) [a] [] pos) (iRng f) :=
  pi_weak (pi_range1 hg hm (pa_cons ha pa_nil hs) hs) fun σ H R ⟨g, ε, x, S', e, k, env, h, q⟩ => by
    subst e
    obtain ⟨⟨x1, S1⟩, e1, h⟩ := bind_some h
    refine ⟨g, ε, x1, S1, rfl, k, env, e1, fun g1 v1 k1 s1 st1 r1 => ?_⟩
    match x1, h, r1 with
    | .dat (.int n), h, .int _ =>
      have h' : (if rngOk n = true then some (upTo n.toNat 0, S1) else none) = some (x, S') := h
      by_cases hn : rngOk n = true
      · rw [if_pos hn] at h'
        cases h'
        unfold rngOk at hn
        simp only [Bool.and_eq_true, decide_eq_true_eq] at hn
        exact ⟨n, rfl, by omega, by omega, q g1 _ k1 s1 st1 (itR_rng _)⟩
      · rw [if_neg hn] at h'
        cases h'
end
/-! ### defs of plain data -/
abbrev FP := List Vl → Option PyData
@[simp] def noObj : Vl → Bool
  | .obj _ => false
  | _ => true
@[simp] def start' (n : Nat) (xs : List Vl) : Ev := xs.map some ++ List.replicate (n - xs.length) none
@[simp] def fin (S : Sto) : Vl → Option PyData
  | .dat d => some d
  | .obj i => match S[i]? with
    | some (.lst xs) => (allD xs).map .list
    | _ => none
  | .scr _ => none
@[simp] def runP (n : Nat) (b : IS) : FP := fun xs => (b (start' n xs) []).bind fun r => match r.1 with
  | .rt v => fin r.2 v
  | .nx _ => some .none
  | _ => none
def spP (K : PySem.W.Frag) (n : Nat) (F : FP) : Sp := fun vs H Q _ => ∃ (Hf : Hp) (xs : List Vl) (r : PyData), Same Hf H ∧ RVs K ⟨Hf, fun _ => 0, [], H⟩ xs vs ∧ vs.length = n ∧ F xs = some r ∧
  ∀ (Hf' H' : Hp) (v : V), Same H H' → Same Hf Hf' → Same Hf' H' → (∀ a, Hf' a ≠ none → Hf a ≠ none ∨ H a = none) → Dq K Hf' v r → Q v H'
@[simp] def iCall (F : FP) (f : IA) : IE := fun ε S => (f ε S).bind fun a => if a.1.all noObj = true then (F a.1).map fun r => (.dat r, a.2) else none
@[simp] def isSc : PyData → Bool
  | .list _ => false
  | .tuple _ => false
  | .dict _ => false
  | _ => true
/-- lists that a cell holds are lent -/
@[simp] def lend (S : Sto) : Vl → Option Vl
  | .obj i => (dOf S (.obj i)).map .dat
  | x => some x
@[simp] def lendAll (S : Sto) : List Vl → Option (List Vl)
  | [] => some []
  | x :: r => (lend S x).bind fun y => (lendAll S r).map (y :: ·)
@[simp] def iCallL (F : FP) (f : IA) : IE := fun ε S => (f ε S).bind fun a => (lendAll a.2 a.1).bind fun ys => (F ys).bind fun r => if isSc r = true then some (.dat r, a.2) else none
section
variable {K : PySem.W.Frag} {cm : Nat → Addr}
theorem rvs_noObj {g : Gs} {m : Nat → Addr} {H : Hp} : ∀ {xs : List Vl} {vs : List V}, RVs K g xs vs → xs.all noObj = true → RVs K ⟨g.Hf, m, [], H⟩ xs vs
  | _, _, .nil, _ => .nil
  | x :: r, _, .cons h1 h2, e => by
    rw [List.all_cons, Bool.and_eq_true] at e
    refine .cons ?_ (rvs_noObj h2 e.2)
    cases x with
    | dat d => exact h1
    | obj i => exact absurd e.1 Bool.false_ne_true
    | scr ns => exact h1
/-- behind the call of a def of plain data -/
theorem after_call {g : Gs} (k : g.ok K cm) {Hf' H' : Hp} (s1 : Same g.H H') (s2 : Same g.Hf Hf') (s3 : Same Hf' H') (nw : ∀ a, Hf' a ≠ none → g.Hf a ≠ none ∨ g.H a = none) :
    Gs.ok K cm ⟨Hf', g.m, g.S, H'⟩ ∧ Stp g ⟨Hf', g.m, g.S, H'⟩ := by
  have st : Stp g ⟨Hf', g.m, g.S, H'⟩ := ⟨fun _ _ => rfl, Nat.le_refl _, s2, fun a h => (nw a h).elim .inl fun z => .inr (.inl z), fun i h1 h2 => absurd h2 (Nat.not_lt_of_le h1), fun a o e _ => s1 a o e⟩
  refine ⟨⟨s3, fun i c e hg => ?_, k.inj, fun i c e => ?_⟩, st⟩
  · cases z : Hf' (g.m i) with
    | none => exact z
    | some o =>
      obtain ⟨u, hu⟩ := (k.cell i c e).there
      rcases nw (g.m i) (by rw [z]; exact fun q => nomatch q) with h | h
      · exact absurd (k.live i c e hg) h
      · rw [hu] at h; cases h
  · have hc := k.cell i c e
    obtain ⟨u, hu⟩ := hc.there
    refine hc.mono st ?_
    show H' (g.m i) = _
    rw [s1 _ _ hu, hu]
theorem lend_ok {g : Gs} {Hc : Hp} (k : g.ok K cm) (hc : ∀ a o, Hc a = some o ↔ g.Hf a = some o ∨ (g.H a = some o ∧ ∃ i c, g.S[i]? = some c ∧ c ≠ Cell.gone ∧ a = g.m i)) {x y : Vl} {v : V} (r : RV K g x v) (h : lend g.S x = some y) {m : Nat → Addr} : RV K ⟨Hc, m, [], g.H⟩ y v := by
  have sm : Same g.Hf Hc := fun a o e => (hc a o).mpr (.inl e)
  cases x with
  | dat d =>
    cases h
    exact Dq.mono sm r
  | scr ns =>
    cases h
    obtain ⟨a, e, hq⟩ := r
    exact ⟨a, e, sm.seq hq⟩
  | obj i =>
    obtain ⟨d, e1, rfl⟩ := map_some' h
    obtain ⟨hi, rfl⟩ := r
    have h' : (match g.S[i]? with
      | some (.lst xs) => (allD xs).map PyData.list
      | _ => none) = some d := e1
    cases e : g.S[i]? with
    | none => rw [e] at h'; cases h'
    | some c =>
      rw [e] at h'
      cases c with
      | lst ys =>
        obtain ⟨ds, e2, rfl⟩ := map_some' h'
        obtain ⟨vs, h1, h2⟩ := cell_lst k e
        exact Dq.lst ((hc _ _).mpr (.inr ⟨h1, i, _, e, (fun z => nomatch z), rfl⟩)) ((allD_ok h2 e2).mono sm)
      | dct _ => cases h'
      | ins _ _ => cases h'
      | gone => cases h'
theorem lendAll_ok {g : Gs} {Hc : Hp} (k : g.ok K cm) (hc : ∀ a o, Hc a = some o ↔ g.Hf a = some o ∨ (g.H a = some o ∧ ∃ i c, g.S[i]? = some c ∧ c ≠ Cell.gone ∧ a = g.m i)) {m : Nat → Addr} : ∀ {xs ys : List Vl} {vs : List V}, RVs K g xs vs → lendAll g.S xs = some ys → RVs K ⟨Hc, m, [], g.H⟩ ys vs
  | _, _, _, .nil, h => by
    cases h
    exact .nil
  | _ :: _, _, _, .cons r1 r2, h => by
    obtain ⟨y, e1, h⟩ := bind_some h
    obtain ⟨ys, e2, rfl⟩ := map_some' h
    exact .cons (lend_ok k hc r1 e1) (lendAll_ok k hc r2 e2)
theorem isSc_dq {H H' : Hp} {v : V} {d : PyData} (h : Dq K H v d) (e : isSc d = true) : Dq K H' v d := by
  cases h with
  | non => exact .non
  | bl b => exact .bl b
  | int i => exact .int i
  | str x => exact .str x
  | lst => exact absurd e Bool.false_ne_true
  | tup => exact absurd e Bool.false_ne_true
end
section
variable {X : Cx} {cm : Nat → Addr} {F : FP} {n k : Nat} {f : Addr} {fd : FuncData} {ps : List Str} {x : Str} {p pos : Pos} {e : Expr} {es : List Expr} {fa : IA}
theorem tcall_of {σ : L2.St} {H : Hp} {Q : VK} (hl : ∀ ε S xs S', fa ε S = some (xs, S') → xs.length = n) (h : tE X.K cm (iCall F fa) σ H Q) : tCall (spP X.K n F) [] E0 (tA X.K cm fa) σ H Q := by
  obtain ⟨g, ε, x, S', e, k, env, h, q⟩ := h
  subst e
  obtain ⟨⟨x1, S1⟩, e1, h⟩ := bind_some h
  refine ⟨g, ε, x1, S1, rfl, k, env, e1, fun g1 v1 k1 s1 st1 r1 => ?_⟩
  have h' : (if x1.all noObj = true then (F x1).map fun r => (Vl.dat r, S1) else none) = some (x, S') := h
  by_cases hn : x1.all noObj = true
  · rw [if_pos hn] at h'
    obtain ⟨r, e2, e3⟩ := map_some' h'
    cases e3
    show spP X.K n F (v1 ++ []) g1.H Q E0
    rw [List.append_nil]
    refine ⟨g1.Hf, x1, r, k1.frz, rvs_noObj r1 hn, by rw [← r1.length]; exact hl _ _ _ _ e1, e2, fun Hf' H' v a1 a2 a3 a4 a5 => ?_⟩
    obtain ⟨k2, st2⟩ := after_call k1 a1 a2 a3 a4
    exact q _ v k2 s1 (st1.trans k1 st2) a5
  · rw [if_neg hn] at h'
    cases h'
theorem tcallL_of {σ : L2.St} {H : Hp} {Q : VK} (hl : ∀ ε S xs S', fa ε S = some (xs, S') → xs.length = n) (h : tE X.K cm (iCallL F fa) σ H Q) : tCall (spP X.K n F) [] E0 (tA X.K cm fa) σ H Q := by
  obtain ⟨g, ε, x, S', e, k, env, h, q⟩ := h
  subst e
  obtain ⟨⟨x1, S1⟩, e1, h⟩ := bind_some h
  refine ⟨g, ε, x1, S1, rfl, k, env, e1, fun g1 v1 k1 s1 st1 r1 => ?_⟩
  subst s1
  obtain ⟨ys, e2, h⟩ := bind_some h
  obtain ⟨r, e3, h⟩ := bind_some h
  have h' : (if isSc r = true then some (Vl.dat r, g1.S) else none) = some (x, S') := h
  by_cases hn : isSc r = true
  · rw [if_pos hn] at h'
    cases h'
    show spP X.K n F (v1 ++ []) g1.H Q E0
    rw [List.append_nil]
    classical
    let Hc : Hp := fun a => if ∃ i c, g1.S[i]? = some c ∧ c ≠ Cell.gone ∧ a = g1.m i then g1.H a else g1.Hf a
    have hc : ∀ a o, Hc a = some o ↔ g1.Hf a = some o ∨ (g1.H a = some o ∧ ∃ i c, g1.S[i]? = some c ∧ c ≠ Cell.gone ∧ a = g1.m i) := fun a o => by
      show (if ∃ i c, g1.S[i]? = some c ∧ c ≠ Cell.gone ∧ a = g1.m i then g1.H a else g1.Hf a) = some o ↔ _
      by_cases hx : ∃ i c, g1.S[i]? = some c ∧ c ≠ Cell.gone ∧ a = g1.m i
      · rw [if_pos hx]
        refine ⟨fun z => .inr ⟨z, hx⟩, fun z => ?_⟩
        rcases z with z | z
        · exact k1.frz _ _ z
        · exact z.1
      · rw [if_neg hx]
        refine ⟨fun z => .inl z, fun z => ?_⟩
        rcases z with z | z
        · exact z
        · exact absurd z.2 hx
    refine ⟨Hc, ys, r, fun a o e => ?_, lendAll_ok k1 hc r1 e2, by rw [← r1.length]; exact hl _ _ _ _ e1, e3, fun Hf' H' v a1 a2 a3 a4 a5 => ?_⟩
    · rcases (hc a o).mp e with z | z
      · exact k1.frz _ _ z
      · exact z.1
    · let Hd : Hp := fun a => if ∃ i c, g1.S[i]? = some c ∧ c ≠ Cell.gone ∧ a = g1.m i then none else Hf' a
      have hd : ∀ a o, Hd a = some o → Hf' a = some o ∧ ¬ ∃ i c, g1.S[i]? = some c ∧ c ≠ Cell.gone ∧ a = g1.m i := fun a o z => by
        have z' : (if ∃ i c, g1.S[i]? = some c ∧ c ≠ Cell.gone ∧ a = g1.m i then none else Hf' a) = some o := z
        by_cases hx : ∃ i c, g1.S[i]? = some c ∧ c ≠ Cell.gone ∧ a = g1.m i
        · rw [if_pos hx] at z'; cases z'
        · rw [if_neg hx] at z'
          exact ⟨z', hx⟩
      obtain ⟨k2, st2⟩ := after_call (Hf' := Hd) k1 a1 (fun a o z => by
        have hx : ¬ ∃ i c, g1.S[i]? = some c ∧ c ≠ Cell.gone ∧ a = g1.m i := fun ⟨i, c, hi, hg, ea⟩ => by
          have := k1.live i c hi hg
          rw [← ea, z] at this
          cases this
        show (if ∃ i c, g1.S[i]? = some c ∧ c ≠ Cell.gone ∧ a = g1.m i then none else Hf' a) = some o
        rw [if_neg hx]
        exact a2 a o ((hc a o).mpr (.inl z))) (fun a o z => a3 a o (hd a o z).1) (fun a z => by
        cases y : Hd a with
        | none => exact absurd y z
        | some o =>
          obtain ⟨y1, y2⟩ := hd a o y
          rcases a4 a (by rw [y1]; exact fun q => nomatch q) with w | w
          · cases w' : Hc a with
            | none => exact absurd w' w
            | some u =>
              rcases (hc a u).mp w' with t | t
              · exact .inl (by rw [t]; exact fun q => nomatch q)
              · exact absurd t.2 y2
          · exact .inr w)
      exact q _ v k2 rfl (st1.trans k1 st2) (isSc_dq a5 hn)
  · rw [if_neg hn] at h'
    cases h'
theorem xe_call (hF : FnOk X.prog X.w X.K X.mg X.base CX0 k f fd ps (spP X.K ps.length F)) (hr : Room k X.A) (hg : Gl X x) (hm : X.mg x = some (.ref f)) (hk : PySem.W.keepIn X.K (.ref f) = true) (hb : Binds X.K fd ps []) (ha : XA X cm (e :: es) fa)
    (hl : ps.length = (e :: es).length := by rfl) (hdb : (x == ("__debug__" : Str)) = false := by decide) (he : starEach (e :: es) X.env = (false, eval e X.env) :: starEach es X.env := by rfl) (hpl : (backTo pos (starEach es X.env)).any (·.1) = false := by rfl) :
    XE X cm (.Call (.Name x p) (e :: es) [] pos) (iCall F fa) :=
  pe_weak (pe_call hF hr hg hm hk hb .nil pass0 ha.run hdb he hpl) fun _ _ _ h => tcall_of (fun _ _ _ _ z => (ha.len _ _ _ _ z).trans hl.symm) h
theorem xe_callL (hF : FnOk X.prog X.w X.K X.mg X.base CX0 k f fd ps (spP X.K ps.length F)) (hr : Room k X.A) (hg : Gl X x) (hm : X.mg x = some (.ref f)) (hk : PySem.W.keepIn X.K (.ref f) = true) (hb : Binds X.K fd ps []) (ha : XA X cm (e :: es) fa)
    (hl : ps.length = (e :: es).length := by rfl) (hdb : (x == ("__debug__" : Str)) = false := by decide) (he : starEach (e :: es) X.env = (false, eval e X.env) :: starEach es X.env := by rfl) (hpl : (backTo pos (starEach es X.env)).any (·.1) = false := by rfl) :
    XE X cm (.Call (.Name x p) (e :: es) [] pos) (iCallL F fa) :=
  pe_weak (pe_call hF hr hg hm hk hb .nil pass0 ha.run hdb he hpl) fun _ _ _ h => tcallL_of (fun _ _ _ _ z => (ha.len _ _ _ _ z).trans hl.symm) h
theorem xe_call0 (hF : FnOk X.prog X.w X.K X.mg X.base CX0 k f fd [] (spP X.K 0 F)) (hr : Room k X.A) (hg : Gl X x) (hm : X.mg x = some (.ref f)) (hk : PySem.W.keepIn X.K (.ref f) = true) (hb : Binds X.K fd [] []) (hdb : (x == ("__debug__" : Str)) = false := by decide) :
    XE X cm (.Call (.Name x p) [] [] pos) (iCall F iNil) :=
  pe_weak (pe_call0 hF hr hg hm hk hb .nil pass0 hdb) fun σ H Q h => by
    obtain ⟨g, ε, x, S', e, k, env, h, q⟩ := h
    subst e
    have h' : (if ([] : List Vl).all noObj = true then (F []).map fun r => (Vl.dat r, g.S) else none) = some (x, S') := h
    rw [if_pos (show ([] : List Vl).all noObj = true from rfl)] at h'
    obtain ⟨r, e2, e3⟩ := map_some' h'
    cases e3
    refine ⟨g.Hf, [], r, k.frz, .nil, rfl, e2, fun Hf' H' v a1 a2 a3 a4 a5 => ?_⟩
    obtain ⟨k2, st2⟩ := after_call k a1 a2 a3 a4
    exact q _ v k2 rfl st2 a5
end
/-! ### a def of plain data, by its body -/
theorem env_start {K : PySem.W.Frag} {g : Gs} {N : List Str} {xs : List Vl} {vs : List V} (r : RVs K g xs vs) : EnvR K g (start' N.length xs) (L2.start N vs) := by
  have hl := r.length
  refine ⟨?_, fun i x e => ?_⟩
  · unfold start' L2.start
    rw [List.length_append, List.length_append, List.length_map, List.length_map, List.length_replicate, List.length_replicate, hl]
  · unfold start' at e
    by_cases hi : i < xs.length
    · rw [List.getElem?_append_left (by rw [List.length_map]; exact hi), List.getElem?_map] at e
      obtain ⟨y, e1, e2⟩ := map_some' e
      cases e2
      obtain ⟨v, e3, r3⟩ := r.get e1
      refine ⟨v, ?_, r3⟩
      unfold L2.start
      rw [List.getElem?_append_left (by rw [List.length_map, ← hl]; exact hi), List.getElem?_map, e3]
      rfl
    · rw [List.getElem?_append_right (by rw [List.length_map]; exact Nat.le_of_not_lt hi), List.getElem?_replicate] at e
      split at e <;> cases e
section
variable {P : Program} {w : World} {K : PySem.W.Frag} {mg : Str → Option Value} {base : Heap} {cm : Nat → Addr}
theorem pure_body {N : List Str} {fb : IS} {n : Nat} {vs : List V} {H : Hp} {Q : VK} {E : XK} (h : spP K n (runP N.length fb) vs H Q E) : tS K cm fb { nx := fun _ H' => Q .non H', rt := Q } (L2.start N vs) H := by
  obtain ⟨Hf, xs, r, sm, rv, hl, hr, q⟩ := h
  obtain ⟨⟨fl, S'⟩, e1, h2⟩ := bind_some hr
  refine ⟨⟨Hf, fun _ => 0, [], H⟩, start' N.length xs, fl, S', rfl, ⟨sm, (fun i c e => by cases e), (fun i j hi => absurd hi (Nat.not_lt_zero _)), (fun i c e => by cases e)⟩, env_start rv, e1, fun g' k' s' st' => ?_⟩
  have all : ∀ Hf' v, Same g'.Hf Hf' → Same Hf' g'.H → (∀ a, Hf' a ≠ none → g'.Hf a ≠ none ∨ H a = none) → Dq K Hf' v r → Q v g'.H := fun Hf' v b1 b2 b3 b4 =>
    q Hf' g'.H v (fun a o e => st'.oth a o e fun i hi => absurd hi (Nat.not_lt_zero _)) (st'.hf.trans b1) b2 (fun a ha => (b3 a ha).elim (fun z => (st'.new a z).elim .inl fun w => w.elim .inr fun ⟨i, hi, _⟩ => absurd hi (Nat.not_lt_zero _)) .inr) b4
  cases fl with
  | nx ε =>
    cases h2
    exact fun σ' _ => all g'.Hf .non (Same.refl _) k'.frz (fun a ha => .inl ha) .non
  | bk ε => cases h2
  | ct ε => cases h2
  | rt x =>
    intro v r1
    subst s'
    cases x with
    | dat d =>
      cases h2
      exact all g'.Hf v (Same.refl _) k'.frz (fun a ha => .inl ha) r1
    | scr ns => cases h2
    | obj i =>
      obtain ⟨hi, rfl⟩ := r1
      have h' : (match g'.S[i]? with
        | some (.lst xs) => (allD xs).map PyData.list
        | _ => none) = some r := h2
      cases e : g'.S[i]? with
      | none => rw [e] at h'; cases h'
      | some c =>
        rw [e] at h'
        cases c with
        | lst ys =>
          obtain ⟨ds, e2, rfl⟩ := map_some' h'
          obtain ⟨us, h1, h3⟩ := cell_lst k' e
          have hn : g'.Hf (g'.m i) = none := k'.live i _ e (fun z => nomatch z)
          refine all (upd g'.Hf (g'.m i) (.lst us)) _ (same_upd hn) (fun a o z => ?_) (fun a z => ?_) (.lst upd_same ((allD_ok h3 e2).mono (same_upd hn)))
          · by_cases ha : a = g'.m i
            · subst ha
              rw [upd_same] at z
              cases z
              exact h1
            · rw [upd_ne ha] at z
              exact k'.frz _ _ z
          · by_cases ha : a = g'.m i
            · subst ha
              exact .inr (st'.cel i (Nat.zero_le _) hi)
            · rw [upd_ne ha] at z
              exact .inl z
        | dct _ => cases h'
        | ins _ _ => cases h'
        | gone => cases h'
theorem pure_ok {x qual : Str} {st : Stmt} {f : Addr} {fd : FuncData} {N ps : List Str} {k : Nat} {fb : IS} (F : Fun K x qual st f fd) (S : FnScope N ps (defScope st))
    (body : ∀ (cdv : Value) (A : Around) (outer : List Env) (s : Shared) (H : Hp) (E : XK), Room k (A.deeper (envOfC qual (defScope st) s.heap.objs.size f cdv)) → XSs (cxOf CX0 P w K mg base N qual (defScope st) f cdv A outer s H E).nox cm (defBody st) fb) :
    FnOk P w K mg base CX0 (k + 1) f fd ps (spP K ps.length (runP N.length fb)) :=
  F.ok S (fun vs H Q E ⟨_, _, _, _, _, hl, _⟩ => hl) fun cdv A outer s H vs Q E hr h => ⟨_, body cdv A outer s H E hr, pure_body h⟩
/-- a def that is never called with success -/
theorem pure_zero {f : Addr} {fd : FuncData} {ps : List Str} {k : Nat} : FnOk P w K mg base CX0 k f fd ps (spP K ps.length fun _ => none) :=
  ⟨fun vs H Q E ⟨_, _, _, _, _, hl, _⟩ => hl, fun A outer s H args us vs Q E hr e0 hb r ⟨_, _, _, _, _, _, h, _⟩ => by cases h⟩
end
end Y
namespace Y
open PySem PySem.Spec PyProof.Rows L2
/-- what is wanted of a law -/
def spLaw (K : PySem.W.Frag) : Sp := fun vs H Q _ => ∃ (a : Addr) (ns : List Int), vs = [.ref a] ∧ SqL K H a (ns.map V.int) ∧ ns.length ≤ 63 ∧ ∀ H', Q (.bl true) H'
theorem law_imp {P : Program} {w : World} {K : PySem.W.Frag} {mg : Str → Option Value} {base : Heap} {k : Nat} {f : Addr} {fd : FuncData} {x : Str} {F : FP} (h : FnOk P w K mg base CX0 k f fd [x] (spP K 1 F)) (main : ∀ ns : List Int, ns.length ≤ 63 → F [.scr ns] = some (.bool true)) :
    FnOk P w K mg base CX0 k f fd [x] (spLaw K) :=
  h.imp fun vs H Q E ⟨a, ns, e, hs, hl, q⟩ => ⟨H, [.scr ns], .bool true, Same.refl _, by rw [e]; exact .cons ⟨a, rfl, hs⟩ .nil, by rw [e]; rfl, main ns hl, fun Hf' H' v _ _ _ _ d => by
    cases d
    exact q H'⟩
end Y
namespace Y
open PySem PySem.Spec PyProof.Rows L2
/-! ### lists that are written -/
section
variable {K : PySem.W.Frag} {cm : Nat → Addr} {g : Gs}
theorem cell_wr (k : g.ok K cm) {i : Nat} {xs xs' : List Vl} {vs' : List V} (e : g.S[i]? = some (.lst xs)) (r : RVs K g xs' vs') :
    (g.wri i (.lst vs') (.lst xs')).ok K cm ∧ Stp g (g.wri i (.lst vs') (.lst xs')) := by
  have hi : i < g.S.length := (List.getElem?_eq_some_iff.mp e).1
  have st := k.wri_stp (o := .lst vs') (c := .lst xs') hi
  exact ⟨k.wri_ok hi (by rw [e]; exact fun z => nomatch z) ⟨vs', upd_same, RVs.mono st r⟩, st⟩
theorem RVs.app {xs ys : List Vl} {vs ws : List V} : RVs K g xs vs → RVs K g ys ws → RVs K g (xs ++ ys) (vs ++ ws) := fun h1 h2 => by
  induction h1 with
  | nil => exact h2
  | cons r _ ih => exact .cons r ih
theorem RVs.set {x : Vl} {v : V} (r : RV K g x v) : ∀ {xs : List Vl} {vs : List V} (n : Nat), RVs K g xs vs → RVs K g (xs.set n x) (vs.set n v)
  | _, _, _, .nil => .nil
  | _, _, 0, .cons _ t => .cons r t
  | _, _, n + 1, .cons q t => .cons q (RVs.set r n t)
theorem RVs.eraseIdx : ∀ {xs : List Vl} {vs : List V} (n : Nat), RVs K g xs vs → RVs K g (xs.eraseIdx n) (vs.eraseIdx n)
  | _, _, _, .nil => .nil
  | _, _, 0, .cons _ t => t
  | _, _, n + 1, .cons q t => .cons q (RVs.eraseIdx n t)
theorem RVs.dropLast {xs : List Vl} {vs : List V} (h : RVs K g xs vs) : RVs K g xs.dropLast vs.dropLast := by
  induction h with
  | nil => exact .nil
  | cons r t ih =>
    cases t with
    | nil => exact .nil
    | cons r2 t2 => exact .cons r ih
end
abbrev SemM := Sto → Vl → List Vl → Option (Vl × Sto)
def iM (sem : SemM) (f : IE) (fa : IA) : IE := fun ε S => (f ε S).bind fun a => (fa ε a.2).bind fun b => sem b.2 a.1 b.1
/-- a method of a list, by its values -/
def MtS' (K : PySem.W.Frag) (cm : Nat → Addr) (T : String) (r : V → List V → Hp → VK → Prop) (sem : SemM) : Prop :=
  ∀ (g : Gs) (x z : Vl) (xs : List Vl) (v : V) (vs : List V) (S' : Sto) (Q : VK), g.ok K cm → RV K g x v → RVs K g xs vs → sem g.S x xs = some (z, S') → (∀ g' u, g'.ok K cm → g'.S = S' → Stp g g' → RV K g' z u → Q u g'.H) → r v vs g.H Q
def isL (S : Sto) : Vl → Bool
  | .dat (.list _) => true
  | .obj i => match S[i]? with
    | some (.lst _) => true
    | _ => false
  | _ => false
@[simp] def iML (sem : SemM) (f : IE) (fa : IA) : IE := fun ε S => (f ε S).bind fun a => if isL a.2 a.1 = true then (fa ε a.2).bind fun b => sem b.2 a.1 b.1 else none
theorem isL_ok {K : PySem.W.Frag} {cm : Nat → Addr} {g : Gs} (k : g.ok K cm) {x : Vl} {v : V} (r : RV K g x v) (h : isL g.S x = true) : tyV K "list" v g.H := by
  cases x with
  | dat d =>
    cases (show Dq K g.Hf v d from r) with
    | lst h1 h2 => exact .inl ⟨rfl, _, SqL.of (k.frz _ _ h1)⟩
    | non => cases h
    | bl => cases h
    | int => cases h
    | str => cases h
    | tup => cases h
  | scr ns => cases h
  | obj i =>
    obtain ⟨hi, rfl⟩ := r
    have h' : (match g.S[i]? with
      | some (.lst _) => true
      | _ => false) = true := h
    cases e : g.S[i]? with
    | none => rw [e] at h'; cases h'
    | some c =>
      rw [e] at h'
      cases c with
      | lst xs =>
        obtain ⟨vs, h1, _⟩ := cell_lst k e
        exact .inl ⟨rfl, vs, SqL.of h1⟩
      | dct _ => cases h'
      | ins _ _ => cases h'
      | gone => cases h'
@[simp] def semApp : SemM := fun S x xs => match x, xs with
  | .obj i, [y] => match S[i]? with
    | some (.lst ys) => if ys.length < 100000 then some (.dat .none, S.set i (.lst (ys ++ [y]))) else none
    | _ => none
  | _, _ => none
@[simp] def semPop : SemM := fun S x xs => match x, xs with
  | .obj i, [] => match S[i]? with
    | some (.lst ys) => (ys[ys.length - 1]?).map fun y => (y, S.set i (.lst ys.dropLast))
    | _ => none
  | _, _ => none
@[simp] def semPopAt : SemM := fun S x xs => match x, xs with
  | .obj i, [.dat (.int n)] => match S[i]? with
    | some (.lst ys) => if 0 ≤ n ∧ n < ys.length ∧ ys.length ≤ 100000 then (ys[n.toNat]?).map fun y => (y, S.set i (.lst (ys.eraseIdx n.toNat))) else none
    | _ => none
  | _, _ => none
@[simp] def semClear : SemM := fun S x xs => match x, xs with
  | .obj i, [] => match S[i]? with
    | some (.lst ys) => some (.dat .none, S.set i (.lst []))
    | _ => none
  | _, _ => none
section
variable {K : PySem.W.Frag} {cm : Nat → Addr}
theorem lt100 {n : Nat} (h : n < 100000) : n < sizeLine := Nat.lt_of_lt_of_le h (by rw [sizeLine_eq]; decide)
theorem s_app : MtS' K cm "list" rAppend semApp := by
  intro g x z xs v vs S' Q k hx hxs h q
  unfold semApp at h
  split at h
  · rename_i i y
    obtain ⟨hi, rfl⟩ := hx
    cases hxs with
    | cons r1 r2 =>
      cases r2
      split at h
      · rename_i ys e
        obtain ⟨us, h1, h2⟩ := cell_lst k e
        split at h
        · rename_i hl
          cases h
          obtain ⟨k2, st2⟩ := cell_wr k e (h2.app (.cons r1 .nil))
          exact ⟨_, _, _, rfl, rfl, h1, by rw [← h2.length]; exact lt100 hl, q _ .non k2 rfl st2 .non⟩
        · cases h
      · cases h
  · cases h
theorem s_pop : MtS' K cm "list" rPop semPop := by
  intro g x z xs v vs S' Q k hx hxs h q
  unfold semPop at h
  split at h
  · rename_i i
    obtain ⟨hi, rfl⟩ := hx
    cases hxs
    split at h
    · rename_i ys e
      obtain ⟨us, h1, h2⟩ := cell_lst k e
      obtain ⟨y, e1, e2⟩ := map_some' h
      cases e2
      obtain ⟨w, e3, r3⟩ := h2.get e1
      obtain ⟨k2, st2⟩ := cell_wr k e h2.dropLast
      exact ⟨_, us, w, rfl, rfl, h1, by rw [← h2.length]; exact e3, q _ w k2 rfl st2 (r3.mono st2)⟩
    · cases h
  · cases h
theorem s_popAt : MtS' K cm "list" rPopAt semPopAt := by
  intro g x z xs v vs S' Q k hx hxs h q
  unfold semPopAt at h
  split at h
  · rename_i i n
    obtain ⟨hi, rfl⟩ := hx
    cases hxs with
    | cons r1 r2 =>
      cases r2
      cases (show Dq K g.Hf _ (.int n) from r1)
      split at h
      · rename_i ys e
        obtain ⟨us, h1, h2⟩ := cell_lst k e
        split at h
        · rename_i hn
          obtain ⟨y, e1, e2⟩ := map_some' h
          cases e2
          obtain ⟨w, e3, r3⟩ := h2.get e1
          obtain ⟨k2, st2⟩ := cell_wr k e (h2.eraseIdx n.toNat)
          have hz : us.length ≤ 100000 := by rw [← h2.length]; exact hn.2.2
          have hb : n < us.length := by rw [← h2.length]; exact hn.2.1
          exact ⟨_, us, n, n.toNat, w, rfl, rfl, h1, by omega, by omega, PySem.StrLaws.seqIndex_nonneg hn.1 hb, e3, q _ w k2 rfl st2 (r3.mono st2)⟩
        · cases h
      · cases h
  · cases h
theorem s_clear : MtS' K cm "list" rClear semClear := by
  intro g x z xs v vs S' Q k hx hxs h q
  unfold semClear at h
  split at h
  · rename_i i
    obtain ⟨hi, rfl⟩ := hx
    cases hxs
    split at h
    · rename_i ys e
      obtain ⟨us, h1, h2⟩ := cell_lst k e
      cases h
      obtain ⟨k2, st2⟩ := cell_wr (xs' := []) (vs' := []) k e .nil
      exact ⟨_, us, rfl, rfl, h1, q _ .non k2 rfl st2 .non⟩
    · cases h
  · cases h
end
section
variable {X : Cx} {cm : Nat → Addr} {pos : Pos}
theorem tbm_of {r : V → List V → Hp → VK → Prop} {sem : SemM} {f : IE} {fa : IA} (hs : MtS' X.K cm "list" r sem) {σ : L2.St} {H : Hp} {Q : VK} (h : tE X.K cm (iML sem f fa) σ H Q) : tBM X.K "list" r (tE X.K cm f) (tA X.K cm fa) σ H Q := by
  obtain ⟨g, ε, x, S', e, k, env, h, q⟩ := h
  subst e
  obtain ⟨⟨x1, S1⟩, e1, h⟩ := bind_some h
  have h' : (if isL S1 x1 = true then (fa ε S1).bind fun b => sem b.2 x1 b.1 else none) = some (x, S') := h
  by_cases hl : isL S1 x1 = true
  · rw [if_pos hl] at h'
    obtain ⟨⟨x2, S2⟩, e2, h'⟩ := bind_some h'
    refine ⟨g, ε, x1, S1, rfl, k, env, e1, fun g1 v1 k1 s1 st1 r1 => ?_⟩
    subst s1
    refine ⟨isL_ok k1 r1 hl, g1, ε, x2, S2, rfl, k1, env.mono st1, e2, fun g2 v2 k2 s2 st2 r2 => ?_⟩
    subst s2
    exact hs g2 x1 x x2 v1 v2 S' Q k2 (r1.mono st2) r2 h' fun g' u k' s' st' r' => q g' u k' s' ((st1.trans k1 st2).trans k2 st') r'
  · rw [if_neg hl] at h'
    cases h'
theorem tbm0_of {r : V → List V → Hp → VK → Prop} {sem : SemM} {f : IE} (hs : MtS' X.K cm "list" r sem) {σ : L2.St} {H : Hp} {Q : VK} (h : tE X.K cm (iML sem f iNil) σ H Q) : tBM0 X.K "list" r (tE X.K cm f) σ H Q := by
  obtain ⟨g, ε, x, S', e, k, env, h, q⟩ := h
  subst e
  obtain ⟨⟨x1, S1⟩, e1, h⟩ := bind_some h
  have h' : (if isL S1 x1 = true then sem S1 x1 [] else none) = some (x, S') := h
  by_cases hl : isL S1 x1 = true
  · rw [if_pos hl] at h'
    refine ⟨g, ε, x1, S1, rfl, k, env, e1, fun g1 v1 k1 s1 st1 r1 => ?_⟩
    subst s1
    exact ⟨isL_ok k1 r1 hl, hs g1 x1 x [] v1 [] S' Q k1 r1 .nil h' fun g' u k' s' st' r' => q g' u k' s' (st1.trans k1 st') r'⟩
  · rw [if_neg hl] at h'
    cases h'
end
/-! ### slices -/
abbrev IO := Ev → Sto → Option (Option Int × Sto)
@[simp] def oNone : IO := fun _ S => some (none, S)
@[simp] def oSome (f : IE) : IO := fun ε S => (f ε S).bind fun a => match a.1 with
  | .dat (.int i) => some (some i, a.2)
  | _ => none
def tO (K : PySem.W.Frag) (cm : Nat → Addr) (f : IO) : TO := fun σ H Q => ∃ g ε x S', g.H = H ∧ g.ok K cm ∧ EnvR K g ε σ ∧ f ε g.S = some (x, S') ∧ ∀ g', g'.ok K cm → g'.S = S' → Stp g g' → Q x g'.H
abbrev XO (X : Cx) (cm : Nat → Addr) (e : Option Expr) (f : IO) : Prop := PO X e (tO X.K cm f)
theorem po_weak {X : Cx} {e : Option Expr} {t t' : TO} (h : PO X e t) (w : ∀ σ H Q, t' σ H Q → t σ H Q) : PO X e t' := ⟨fun pins s σ H Q I q => h.run pins s σ H Q I (w σ H Q q)⟩
def cutL {α : Type} (xs : List α) (lo hi : Option Int) : List α := (xs.drop (HT.sIx xs.length 0 lo)).take (HT.sIx xs.length xs.length hi - HT.sIx xs.length 0 lo)
@[simp] def semSl (S : Sto) (x : Vl) (lo hi : Option Int) : Option (Vl × Sto) := match x with
  | .dat (.list ds) => some (.dat (.list (cutL ds lo hi)), S)
  | .dat (.tuple ds) => some (.dat (.tuple (cutL ds lo hi)), S)
  | .obj i => (dOf S (.obj i)).bind fun d => match d with
    | .list ds => some (.dat (.list (cutL ds lo hi)), S)
    | _ => none
  | _ => none
@[simp] def iSl (f : IE) (fl fh : IO) : IE := fun ε S => (f ε S).bind fun a => (fl ε a.2).bind fun b => (fh ε b.2).bind fun c => semSl c.2 a.1 b.1 c.1
def rSlAll (K : PySem.W.Frag) : V → Option Int → Option Int → Hp → VK → Prop := fun x lo hi H Q => rSlL K x lo hi H Q ∨ rSlA K x lo hi H Q
theorem sl_all {X : Cx} : SlR X (rSlAll X.K) := sl_list.or sl_tupA
theorem DqAll.cut {K : PySem.W.Frag} {H : Hp} {vs : List V} {ds : List PyData} (h : DqAll K H vs ds) (lo hi : Option Int) : DqAll K H (cutV vs lo hi) (cutL ds lo hi) := by
  unfold cutV cutL
  rw [h.length]
  exact (h.drop _).take _
theorem s_sl {K : PySem.W.Frag} {cm : Nat → Addr} {g : Gs} {x z : Vl} {v : V} {lo hi : Option Int} {S' : Sto} {Q : VK} (k : g.ok K cm) (hx : RV K g x v) (h : semSl g.S x lo hi = some (z, S')) (q : ∀ g' u, g'.ok K cm → g'.S = S' → Stp g g' → RV K g' z u → Q u g'.H) : rSlAll K v lo hi g.H Q := by
  cases x with
  | dat d =>
    cases (show Dq K g.Hf v d from hx) with
    | lst h1 h2 =>
      cases h
      exact .inl ⟨_, _, rfl, SqL.of (k.frz _ _ h1), fun p hp => q (g.frz p _) _ (k.frz_ok hp) rfl (k.frz_stp hp) (Dq.lst upd_same ((h2.cut lo hi).mono (k.frz_stp hp).hf))⟩
    | tup h1 h2 =>
      cases h
      refine .inr ⟨_, _, rfl, sqT_mono k.frz h1, fun hw => ?_, fun _ p hp => q (g.frz p _) _ (k.frz_ok hp) rfl (k.frz_stp hp) (Dq.tup (.inl (.inl upd_same)) ((h2.cut lo hi).mono (k.frz_stp hp).hf))⟩
      refine q g _ k rfl (Stp.refl g) ?_
      rename_i a xs ds
      have e : cutL ds lo hi = ds := by
        unfold cutL
        rw [h2.length] at hw
        rw [hw.1, hw.2]
        simp
      rw [e]
      exact Dq.tup h1 h2
    | non => cases h
    | bl => cases h
    | int => cases h
    | str => cases h
  | scr ns => cases h
  | obj i =>
    obtain ⟨d, e1, h⟩ := bind_some h
    cases d with
    | list ds =>
      cases h
      obtain ⟨a, vs, rfl, h1, h2⟩ := dOf_lst k hx e1
      exact .inl ⟨_, _, rfl, SqL.of h1, fun p hp => q (g.frz p _) _ (k.frz_ok hp) rfl (k.frz_stp hp) (Dq.lst upd_same ((h2.cut lo hi).mono (k.frz_stp hp).hf))⟩
    | none => cases h
    | bool _ => cases h
    | int _ => cases h
    | str _ => cases h
    | tuple _ => cases h
    | dict _ => cases h
section
variable {X : Cx} {cm : Nat → Addr} {pos p2 : Pos} {e : Expr} {f : IE}
theorem xo_none : XO X cm none oNone := po_weak po_none fun σ H Q ⟨g, ε, x, S', e, k, env, h, q⟩ => by
  subst e
  cases h
  exact q g k rfl (Stp.refl g)
theorem xo_some (he : XE X cm e f) : XO X cm (some e) (oSome f) := po_weak (po_some he) fun σ H Q ⟨g, ε, x, S', e, k, env, h, q⟩ => by
  subst e
  obtain ⟨⟨x1, S1⟩, e1, h⟩ := bind_some h
  refine ⟨g, ε, x1, S1, rfl, k, env, e1, fun g1 v1 k1 s1 st1 r1 => ?_⟩
  match x1, h, r1 with
  | .dat (.int i), h, .int _ =>
    cases h
    exact ⟨i, rfl, q g1 k1 s1 st1⟩
theorem xe_slice {lo hi : Option Expr} {fl fh : IO} (he : XE X cm e f) (hl : XO X cm lo fl) (hh : XO X cm hi fh) : XE X cm (.Subscript e (.Slice lo hi none p2) pos) (iSl f fl fh) :=
  pe_weak (pe_slice sl_all he hl hh) fun σ H Q ⟨g, ε, x, S', e, k, env, h, q⟩ => by
    subst e
    obtain ⟨⟨x1, S1⟩, e1, h⟩ := bind_some h
    obtain ⟨⟨x2, S2⟩, e2, h⟩ := bind_some h
    obtain ⟨⟨x3, S3⟩, e3, h⟩ := bind_some h
    refine ⟨g, ε, x1, S1, rfl, k, env, e1, fun g1 v1 k1 s1 st1 r1 => ?_⟩
    subst s1
    refine ⟨g1, ε, x2, S2, rfl, k1, env.mono st1, e2, fun g2 k2 s2 st2 => ?_⟩
    subst s2
    refine ⟨g2, ε, x3, S3, rfl, k2, (env.mono st1).mono st2, e3, fun g3 k3 s3 st3 => ?_⟩
    subst s3
    exact s_sl k3 ((r1.mono st2).mono st3) h fun g' u k' s' st' r' => q g' u k' s' (((st1.trans k1 st2).trans k2 st3).trans k3 st') r'
end
/-! ### in -/
def flatD : PyData → Bool
  | .none => true
  | .bool _ => true
  | .int _ => true
  | .str _ => true
  | _ => false
@[simp] def inOk (S : Sto) (y : Vl) (d : PyData) (ds : List PyData) : Bool := (flatD d && ds.all flatD) || ((match dOf S y with
  | some (.list _) => true
  | _ => false) && SeqAt.shaped d && SeqAt.shaped (.list ds))
@[simp] def inD (d : PyData) (ds : List PyData) : Bool := ds.any fun z => PyData.eqv z d
@[simp] def lD (S : Sto) (y : Vl) : Option (List PyData) := (lOf S y).bind allD
@[simp] def semIn : Sem2 := fun S x y => match x, y with
  | .dat (.str a), .dat (.str b) => some (.dat (.bool (!(Builtin.Str.occurrences b a 0 b.length 1).isEmpty)), S)
  | x, y => (dOf S x).bind fun d => (lD S y).bind fun ds => if inOk S y d ds = true then some (.dat (.bool (inD d ds)), S) else none
@[simp] def semNotIn : Sem2 := fun S x y => match x, y with
  | .dat (.str a), .dat (.str b) => some (.dat (.bool (!(!(Builtin.Str.occurrences b a 0 b.length 1).isEmpty))), S)
  | x, y => (dOf S x).bind fun d => (lD S y).bind fun ds => if inOk S y d ds = true then some (.dat (.bool (!inD d ds)), S) else none
def rInStr (neg : Bool) : R2 := fun x y H Q => ∃ i j, x = .str i ∧ y = .str j ∧ Q (.bl (if neg then !(!(Builtin.Str.occurrences j i 0 j.length 1).isEmpty) else !(Builtin.Str.occurrences j i 0 j.length 1).isEmpty)) H
def rInAll (K : PySem.W.Frag) : R2 := fun x y H Q => rInStr false x y H Q ∨ rIn K false x y H Q ∨ rInD K x y H Q
def rNotInAll (K : PySem.W.Frag) : R2 := fun x y H Q => rInStr true x y H Q ∨ rIn K true x y H Q ∨ rNotInD K x y H Q
theorem op_inAll {X : Cx} (hu : X.A.units + 65 < cLine) : OpR X (compareOp .In) (rInAll X.K) := OpR.or (r := rInStr false) op_in_str (op_in_seq.or (op_inD hu))
theorem op_notInAll {X : Cx} (hu : X.A.units + 65 < cLine) : OpR X (compareOp .NotIn) (rNotInAll X.K) := OpR.or (r := rInStr true) op_notin_str (op_notIn_seq.or (op_notInD hu))
section
variable {K : PySem.W.Frag} {cm : Nat → Addr}
theorem flat_ok {H : Hp} {v : V} {d : PyData} (h : Dp K H v d) (e : flatD d = true) : flatV v = true := by
  cases h <;> first | rfl | exact absurd e Bool.false_ne_true
theorem flat_all {H : Hp} : ∀ {vs : List V} {ds : List PyData}, DpAll K H vs ds → ds.all flatD = true → vs.all flatV = true
  | _, _, .nil, _ => rfl
  | _, _, .cons h1 h2, e => by
    rw [List.all_cons, Bool.and_eq_true] at e ⊢
    exact ⟨flat_ok h1 e.1, flat_all h2 e.2⟩
theorem eqV_ok {H : Hp} {v w : V} {d e : PyData} (h1 : Dp K H v d) (h2 : Dp K H w e) (f1 : flatD d = true) (f2 : flatD e = true) : eqV v w = PyData.eqv d e := by
  cases h1 <;> cases h2 <;> first
    | rfl
    | exact absurd f1 Bool.false_ne_true
    | exact absurd f2 Bool.false_ne_true
    | simp [eqV, PyData.eqv]
theorem inV_ok {H : Hp} {w : V} {e : PyData} (h2 : Dp K H w e) (f2 : flatD e = true) : ∀ {vs : List V} {ds : List PyData}, DpAll K H vs ds → ds.all flatD = true → inV w vs = inD e ds
  | _, _, .nil, _ => rfl
  | _, _, .cons h1 h3, f => by
    rw [List.all_cons, Bool.and_eq_true] at f
    have ih := inV_ok h2 f2 h3 f.2
    unfold inV inD at ih ⊢
    rw [List.any_cons, List.any_cons, eqV_ok h1 h2 f.1 f2, ih]
theorem in_core {g : Gs} {x y : Vl} {v w : V} {d : PyData} {ds : List PyData} (k : g.ok K cm) (hx : RV K g x v) (hy : RV K g y w) (e1 : dOf g.S x = some d) (e2 : lD g.S y = some ds) (ok : inOk g.S y d ds = true) :
    (∃ p xs, w = .ref p ∧ (SqL K g.H p xs ∨ SqT K g.H p xs) ∧ flatV v = true ∧ xs.all flatV = true ∧ inV v xs = inD d ds) ∨ (Dp K g.H v d ∧ Dp K g.H w (.list ds) ∧ SeqAt.shaped d = true ∧ SeqAt.shaped (.list ds) = true) := by
  have hd := dOf_ok k hx e1
  obtain ⟨xs, e3, e4⟩ := bind_some e2
  obtain ⟨p, vs, rfl, hs, hr⟩ := lOf_ok k hy e3
  have hall := ((allD_ok hr e4).mono k.frz).dp
  unfold inOk at ok
  rw [Bool.or_eq_true] at ok
  rcases ok with ok | ok
  · rw [Bool.and_eq_true] at ok
    exact .inl ⟨p, vs, rfl, hs, flat_ok hd ok.1, flat_all hall ok.2, inV_ok hd ok.1 hall ok.2⟩
  · rw [Bool.and_eq_true, Bool.and_eq_true] at ok
    refine .inr ⟨hd, ?_, ok.1.2, ok.2⟩
    cases e5 : dOf g.S y with
    | none => rw [e5] at ok; exact absurd ok.1.1 Bool.false_ne_true
    | some dd =>
      rw [e5] at ok
      have hdd := dOf_ok k hy e5
      cases hdd with
      | lst h1 h2 =>
        have : ∃ vs', SqL K g.H p vs' := ⟨_, h1⟩
        rcases hs with hs | hs
        · exact .lst hs hall
        · cases y with
          | dat d0 =>
            cases e5
            cases e3
            cases (show Dq K g.Hf _ (.list _) from hy) with
            | lst h3 h4 =>
              rw [allD_map] at e4
              cases e4
              exact .lst (SqL.of (k.frz _ _ h3)) (h4.mono k.frz).dp
          | obj i =>
            obtain ⟨hi, e6⟩ := hy
            cases e6
            have e3' : (match g.S[i]? with
              | some (.lst xs) => some xs
              | _ => none) = some xs := e3
            cases e7 : g.S[i]? with
            | none => rw [e7] at e3'; cases e3'
            | some c =>
              rw [e7] at e3'
              cases c with
              | lst ys =>
                cases e3'
                obtain ⟨us, h3, h4⟩ := cell_lst k e7
                exact .lst (SqL.of h3) ((allD_ok h4 e4).mono k.frz).dp
              | dct _ => cases e3'
              | ins _ _ => cases e3'
              | gone => cases e3'
          | scr ns => cases e5
      | tup => exact absurd ok.1.1 Bool.false_ne_true
theorem s_in : OpS K cm (rInAll K) semIn := by
  intro g x y z v w S' Q k hx hy h q
  unfold semIn at h
  split at h
  · rename_i a b
    cases (show Dq K g.Hf v (.str a) from hx)
    cases (show Dq K g.Hf w (.str b) from hy)
    cases h
    exact .inl ⟨a, b, rfl, rfl, rv_fin k q rfl (.bl _)⟩
  · obtain ⟨d, e1, h⟩ := bind_some h
    obtain ⟨ds, e2, h⟩ := bind_some h
    split at h
    · rename_i ok
      cases h
      have fn : Q (.bl (inD d ds)) g.H := rv_fin k q rfl (.bl _)
      rcases in_core k hx hy e1 e2 ok with ⟨p, xs, rfl, hs, f1, f2, e⟩ | ⟨h1, h2, h3, h4⟩
      · exact .inr (.inl ⟨p, xs, rfl, hs, f1, f2, by rw [e]; exact fn⟩)
      · exact .inr (.inr ⟨d, ds, h1, h2, h3, h4, fn⟩)
    · cases h
theorem s_notIn : OpS K cm (rNotInAll K) semNotIn := by
  intro g x y z v w S' Q k hx hy h q
  unfold semNotIn at h
  split at h
  · rename_i a b
    cases (show Dq K g.Hf v (.str a) from hx)
    cases (show Dq K g.Hf w (.str b) from hy)
    cases h
    exact .inl ⟨a, b, rfl, rfl, rv_fin k q rfl (.bl _)⟩
  · obtain ⟨d, e1, h⟩ := bind_some h
    obtain ⟨ds, e2, h⟩ := bind_some h
    split at h
    · rename_i ok
      cases h
      have fn : Q (.bl (!inD d ds)) g.H := rv_fin k q rfl (.bl _)
      rcases in_core k hx hy e1 e2 ok with ⟨p, xs, rfl, hs, f1, f2, e⟩ | ⟨h1, h2, h3, h4⟩
      · exact .inr (.inl ⟨p, xs, rfl, hs, f1, f2, by rw [e]; exact fn⟩)
      · exact .inr (.inr ⟨d, ds, h1, h2, h3, h4, fn⟩)
    · cases h
/-! ### tuple(x), list(x) -/
@[simp] def semTuple : SemN := fun S xs => match xs with
  | [.dat (.tuple ds)] => some (.dat (.tuple ds), S)
  | [x] => (dOf S x).bind fun d => match d with
    | .list ds => some (.dat (.tuple ds), S)
    | _ => none
  | _ => none
@[simp] def semList : SemN := fun S xs => match xs with
  | [x] => (lOf S x).bind fun ys => (allD ys).map fun ds => (.dat (.list ds), S)
  | _ => none
@[simp] def semListC : SemN := fun S xs => match xs with
  | [x] => (lOf S x).map fun ys => (.obj S.length, S ++ [.lst ys])
  | _ => none
def rTuple (K : PySem.W.Frag) : List V → Hp → VK → Prop := fun xs H Q => ∃ p ys, xs = [.ref p] ∧ ((SqL K H p ys ∧ ∀ l, H l = none → Q (.ref l) (upd H l (.tup ys))) ∨ (SqT K H p ys ∧ Q (.ref p) H))
def rListO (K : PySem.W.Frag) : List V → Hp → VK → Prop := fun xs H Q => ∃ p ys, xs = [.ref p] ∧ (SqL K H p ys ∨ SqT K H p ys) ∧ ∀ l, H l = none → Q (.ref l) (upd H l (.lst ys))
theorem s_tuple : CallS K cm (rTuple K) semTuple := by
  intro g xs z vs S' Q k r h q
  unfold semTuple at h
  split at h
  · rename_i ds
    cases r with
    | cons r1 r2 =>
      cases r2
      cases h
      cases (show Dq K g.Hf _ (.tuple ds) from r1) with
      | tup h1 h2 => exact ⟨_, _, rfl, .inr ⟨sqT_mono k.frz h1, rv_fin k q rfl (Dq.tup h1 h2)⟩⟩
  · cases r with
    | cons r1 r2 =>
      cases r2
      obtain ⟨d, e1, h⟩ := bind_some h
      cases d with
      | list ds =>
        cases h
        obtain ⟨a, us, rfl, h1, h2⟩ := dOf_lst k r1 e1
        exact ⟨_, _, rfl, .inl ⟨SqL.of h1, fun p hp => q (g.frz p _) _ (k.frz_ok hp) rfl (k.frz_stp hp) (Dq.tup (.inl (.inl upd_same)) (h2.mono (k.frz_stp hp).hf))⟩⟩
      | none => cases h
      | bool _ => cases h
      | int _ => cases h
      | str _ => cases h
      | tuple _ => cases h
      | dict _ => cases h
  · cases h
theorem s_list : CallS K cm (rListO K) semList := by
  intro g xs z vs S' Q k r h q
  unfold semList at h
  split at h
  · cases r with
    | cons r1 r2 =>
      cases r2
      obtain ⟨ys, e1, h⟩ := bind_some h
      obtain ⟨ds, e2, h⟩ := map_some' h
      cases h
      obtain ⟨a, us, rfl, hs, rr⟩ := lOf_ok k r1 e1
      exact ⟨_, _, rfl, hs, fun p hp => q (g.frz p _) _ (k.frz_ok hp) rfl (k.frz_stp hp) (Dq.lst upd_same ((allD_ok rr e2).mono (k.frz_stp hp).hf))⟩
  · cases h
theorem s_listC : CallS K cm (rListO K) semListC := by
  intro g xs z vs S' Q k r h q
  unfold semListC at h
  split at h
  · cases r with
    | cons r1 r2 =>
      cases r2
      obtain ⟨ys, e1, h⟩ := map_some' h
      cases h
      obtain ⟨a, us, rfl, hs, rr⟩ := lOf_ok k r1 e1
      refine ⟨_, _, rfl, hs, fun p hp => ?_⟩
      obtain ⟨k2, st2, r2⟩ := new_cell k hp rr
      exact q _ _ k2 rfl st2 r2
  · cases h
end
end Y
namespace Y
open PySem PySem.Spec PyProof.Rows L2
/-! ### list comprehensions -/
/-- the target of a clause: a name's slot, or a tuple of names -/
inductive Tg where
  | one (i : Nat)
  | tup (is : List Nat)
def Tg.vs : Tg → List Nat
  | .one i => [i]
  | .tup is => is
@[simp] def setAll : List Nat → List Vl → Ev → Option Ev
  | [], [], ε => some ε
  | i :: is, x :: xs, ε => setAll is xs (ε.set i (some x))
  | _, _, _ => none
@[simp] def bindT : Tg → Vl → Ev → Option Ev
  | .one i, x, ε => some (ε.set i (some x))
  | .tup is, .dat (.tuple ds), ε => setAll is (ds.map .dat) ε
  | _, _, _ => none
def gNms : List Nat → TGs
  | [] => gNil
  | i :: is => gCons (gName i) (gNms is)
def gT (K : PySem.W.Frag) : Tg → TG
  | .one i => gName i
  | .tup is => gTup K is.length (gNms is)
@[simp] def wipeE (ε : Ev) : List Nat → Ev
  | [] => ε
  | v :: vs => (wipeE ε vs).set v none
theorem wipe_get {σ : L2.St} : ∀ {vs : List Nat} {j : Nat}, j ∉ vs → (wipe σ vs)[j]? = σ[j]?
  | [], _, _ => rfl
  | v :: vs, j, h => by
    rw [List.mem_cons, not_or] at h
    unfold wipe
    rw [List.getElem?_set_ne (Ne.symm h.1)]
    exact wipe_get h.2
theorem wipe_in {σ : L2.St} : ∀ {vs : List Nat} {j : Nat}, j ∈ vs → (wipe σ vs)[j]? = if j < σ.length then some none else none
  | v :: vs, j, h => by
    unfold wipe
    by_cases e : v = j
    · subst e
      by_cases hv : v < σ.length
      · rw [List.getElem?_set_self (by rw [wipe_length]; exact hv), if_pos hv]
      · rw [if_neg hv, List.getElem?_eq_none (by rw [List.length_set, wipe_length]; omega)]
    · rw [List.getElem?_set_ne e]
      exact wipe_in (List.mem_of_ne_of_mem (Ne.symm e) h)
theorem wipe_same {σ : L2.St} {vs : List Nat} {i : Nat} {x : Option V} (h : i ∈ vs) : wipe (σ.set i x) vs = wipe σ vs := by
  apply List.ext_getElem?
  intro j
  by_cases hj : j ∈ vs
  · rw [wipe_in hj, wipe_in hj, List.length_set]
  · rw [wipe_get hj, wipe_get hj, List.getElem?_set_ne]
    rintro rfl
    exact hj h
theorem wipe_idem (σ : L2.St) (vs : List Nat) : wipe (wipe σ vs) vs = wipe σ vs := by
  apply List.ext_getElem?
  intro j
  by_cases hj : j ∈ vs
  · rw [wipe_in hj, wipe_in hj, wipe_length]
  · rw [wipe_get hj]
theorem wipe_env {K : PySem.W.Frag} {g : Gs} {ε : Ev} {σ : L2.St} (h : EnvR K g ε σ) : ∀ vs : List Nat, EnvR K g (wipeE ε vs) (wipe σ vs)
  | [] => h
  | v :: vs => by
    obtain ⟨h1, h2⟩ := wipe_env h vs
    refine ⟨by show ((wipeE ε vs).set v none).length = ((wipe σ vs).set v none).length; rw [List.length_set, List.length_set, h1], fun i x e => ?_⟩
    have e' : ((wipeE ε vs).set v none)[i]? = some (some x) := e
    by_cases hi : v = i
    · subst hi
      by_cases hv : v < (wipeE ε vs).length
      · rw [List.getElem?_set_self hv] at e'; cases e'
      · rw [List.getElem?_eq_none (by rw [List.length_set]; omega)] at e'; cases e'
    · rw [List.getElem?_set_ne hi] at e'
      obtain ⟨v', e1, r1⟩ := h2 i x e'
      exact ⟨v', by show ((wipe σ vs).set v none)[i]? = _; rw [List.getElem?_set_ne hi]; exact e1, r1⟩
theorem setAll_ok {K : PySem.W.Frag} {g : Gs} {vs : List Nat} : ∀ {is : List Nat} {xs : List Vl} {us : List V} {ε ε' : Ev} {σ : L2.St} {H : Hp} {Q : L2.St → Hp → Prop}, (∀ i ∈ is, i ∈ vs) → EnvR K g ε σ → RVs K g xs us → setAll is xs ε = some ε' →
    (∀ σ', EnvR K g ε' σ' → wipe σ' vs = wipe σ vs → Q σ' H) → gNms is us σ H Q
  | [], _, _, _, _, _, _, _, _, env, .nil, h, q => by
    cases h
    exact ⟨rfl, q _ env rfl⟩
  | i :: is, _, _, _, _, _, _, _, hv, env, .cons r1 r2, h, q => by
    refine ⟨_, _, rfl, setAll_ok (fun j hj => hv j (List.mem_cons_of_mem _ hj)) (env.set r1 i) r2 h fun σ' e1 e2 => q σ' e1 ?_⟩
    rw [e2]
    exact wipe_same (hv i List.mem_cons_self)
  | [], _, _, _, _, _, _, _, _, _, .cons _ _, h, _ => by cases h
  | _ :: _, _, _, _, _, _, _, _, _, _, .nil, h, _ => by cases h
theorem setAll_len : ∀ {is : List Nat} {xs : List Vl} {ε ε' : Ev}, setAll is xs ε = some ε' → xs.length = is.length
  | [], [], _, _, _ => rfl
  | _ :: is, _ :: xs, ε, ε', h => by
    rw [List.length_cons, List.length_cons, setAll_len (is := is) (xs := xs) h]
  | [], _ :: _, _, _, h => by cases h
  | _ :: _, [], _, _, h => by cases h
theorem bindT_ok {K : PySem.W.Frag} {cm : Nat → Addr} {g : Gs} {t : Tg} {vs : List Nat} {x : Vl} {v : V} {ε ε' : Ev} {σ : L2.St} {Q : L2.St → Hp → Prop} (k : g.ok K cm) (hv : ∀ i ∈ t.vs, i ∈ vs) (env : EnvR K g ε σ) (r : RV K g x v) (h : bindT t x ε = some ε')
    (q : ∀ σ', EnvR K g ε' σ' → wipe σ' vs = wipe σ vs → Q σ' g.H) : gT K t v σ g.H Q := by
  cases t with
  | one i =>
    cases h
    exact q _ (env.set r i) (wipe_same (hv i List.mem_cons_self))
  | tup is =>
    cases x with
    | obj _ => cases h
    | scr _ => cases h
    | dat d =>
      cases d with
      | tuple ds =>
        cases (show Dq K g.Hf v (.tuple ds) from r) with
        | tup h1 h2 =>
          have hl := setAll_len (is := is) (xs := ds.map .dat) h
          rw [List.length_map] at hl
          exact ⟨_, _, rfl, sqT_mono k.frz h1, h2.length.trans hl, setAll_ok hv env (RVs.ofD h2) h q⟩
      | none => cases h
      | bool _ => cases h
      | int _ => cases h
      | str _ => cases h
      | list _ => cases h
      | dict _ => cases h
/-- one clause: the items, the test, the element -/
@[simp] def comp (t : Tg) (ft : IT) (fe : IE) : List Vl → Ev → Sto → Option (List Vl × Sto)
  | [], _, S => some ([], S)
  | x :: r, ε, S => (bindT t x ε).bind fun ε' => (ft ε' S).bind fun b => if b.1 = true then (fe ε' b.2).bind fun y => (comp t ft fe r ε y.2).map fun z => (y.1 :: z.1, z.2) else comp t ft fe r ε b.2
/-- two clauses -/
@[simp] def comp2 (t : Tg) (ft : IT) (fi1 : IA) (t1 : Tg) (vs1 : List Nat) (ft1 : IT) (fe : IE) : List Vl → Ev → Sto → Option (List Vl × Sto)
  | [], _, S => some ([], S)
  | x :: r, ε, S => (bindT t x ε).bind fun ε' => (ft ε' S).bind fun b => if b.1 = true then (fi1 ε' b.2).bind fun ys => (comp t1 ft1 fe ys.1 (wipeE ε' vs1) ys.2).bind fun y => (comp2 t ft fi1 t1 vs1 ft1 fe r ε y.2).map fun z => (y.1 ++ z.1, z.2) else comp2 t ft fi1 t1 vs1 ft1 fe r ε b.2
@[simp] def iYes : IT := fun _ S => some (true, S)
@[simp] def iLcG (fi : IA) (vs : List Nat) (cp : List Vl → Ev → Sto → Option (List Vl × Sto)) : IA := fun ε S => (fi ε S).bind fun a => (cp a.1 (wipeE ε vs) a.2).bind fun b => if b.1.length ≤ 100000 then some b else none
@[simp] def toF (f : IA) : IE := fun ε S => (f ε S).bind fun b => (allD b.1).map fun ds => (.dat (.list ds), b.2)
@[simp] def toC (f : IA) : IE := fun ε S => (f ε S).map fun b => (.obj b.2.length, b.2 ++ [.lst b.1])
theorem paired_app {α β : Type} {F : α → β → Prop} : ∀ {xs xs' : List α} {ys ys' : List β}, Paired F xs ys → Paired F xs' ys' → Paired F (xs ++ xs') (ys ++ ys')
  | _, _, _, _, .nil, s => s
  | _, _, _, _, .cons r t, s => .cons r (paired_app t s)
/-- while the new list D grows: it is no cell and not frozen -/
structure Gro (K : PySem.W.Frag) (cm : Nat → Addr) (g1 g : Gs) (D : Addr) (acc : List V) (ac : List Vl) : Prop where
  ok : g.ok K cm
  st : Stp g1 g
  at_ : g.H D = some (.lst acc)
  hf : g.Hf D = none
  ne : ∀ i, i < g.S.length → g.m i ≠ D
  rel : RVs K g ac acc
theorem Gro.step {K : PySem.W.Frag} {cm : Nat → Addr} {g1 g g' : Gs} {D : Addr} {acc : List V} {ac : List Vl} (a : Gro K cm g1 g D acc ac) (k : g'.ok K cm) (s : Stp g g') : Gro K cm g1 g' D acc ac where
  ok := k
  st := a.st.trans a.ok s
  at_ := s.oth _ _ a.at_ fun i hi e => a.ne i hi e.symm
  hf := by
    cases z : g'.Hf D with
    | none => rfl
    | some o =>
      rcases s.new D (by rw [z]; exact fun q => nomatch q) with h | h | ⟨i, hi, e⟩
      · exact absurd a.hf h
      · rw [a.at_] at h; cases h
      · exact absurd e.symm (a.ne i hi)
  ne := fun i hi e => by
    by_cases h : i < g.S.length
    · exact a.ne i h ((s.mm i h).symm.trans e)
    · have := s.cel i (Nat.le_of_not_lt h) hi
      rw [e, a.at_] at this
      cases this
  rel := RVs.mono s a.rel
/-- the same store, frozen part and places -/
theorem RV.re {K : PySem.W.Frag} {g : Gs} {H : Hp} : ∀ {x : Vl} {v : V}, RV K g x v → RV K ⟨g.Hf, g.m, g.S, H⟩ x v
  | .dat _, _, h => h
  | .obj _, _, h => h
  | .scr _, _, h => h
theorem CellOk.re {K : PySem.W.Frag} {cm : Nat → Addr} {g : Gs} {H : Hp} {a : Addr} (e : H a = g.H a) : ∀ {c : Cell}, CellOk K cm g a c → CellOk K cm ⟨g.Hf, g.m, g.S, H⟩ a c
  | .lst _, ⟨vs, h, r⟩ => ⟨vs, e.trans h, Paired.mapP r fun _ _ q => RV.re q⟩
  | .dct _, ⟨us, h, r⟩ => ⟨us, e.trans h, Paired.mapP r fun _ _ q => ⟨q.1, RV.re q.2⟩⟩
  | .ins _ _, ⟨dx, us, h, r⟩ => ⟨dx, us, e.trans h, Paired.mapP r fun _ _ q => ⟨q.1, RV.re q.2⟩⟩
  | .gone, ⟨o, h⟩ => ⟨o, e.trans h⟩
theorem Gro.push {K : PySem.W.Frag} {cm : Nat → Addr} {g1 g : Gs} {D : Addr} {acc : List V} {ac : List Vl} (a : Gro K cm g1 g D acc ac) (h1 : g1.H D = none) {x : Vl} {v : V} (r : RV K g x v) : Gro K cm g1 ⟨g.Hf, g.m, g.S, upd g.H D (.lst (acc ++ [v]))⟩ D (acc ++ [v]) (ac ++ [x]) where
  ok := ⟨fun b o e => by
      have hb : b ≠ D := fun z => by rw [z, a.hf] at e; cases e
      show upd g.H D _ b = some o
      rw [upd_ne hb]
      exact a.ok.frz _ _ e, a.ok.live, a.ok.inj, fun i c e => (a.ok.cell i c e).re (by
      show upd g.H D _ (g.m i) = _
      rw [upd_ne (a.ne i (List.getElem?_eq_some_iff.mp e).1)])⟩
  st := ⟨a.st.mm, a.st.len, a.st.hf, a.st.new, a.st.cel, fun b o e hn => by
    show upd g.H D _ b = some o
    rw [upd_ne (ne_of_none e h1)]
    exact a.st.oth b o e hn⟩
  at_ := upd_same
  hf := a.hf
  ne := a.ne
  rel := paired_app (Paired.mapP a.rel fun _ _ q => RV.re q) (.cons (RV.re r) .nil)
section
variable {K : PySem.W.Frag} {cm : Nat → Addr}
/-- the walk of a clause that makes elements -/
theorem lc_walk {J : It} {g1 gb : Gs} {D : Addr} {acc0 : List V} {ac0 ys xs : List Vl} {t : Tg} {vs : List Nat} {ft : IT} {fe : IE} {εw : Ev} {σw : L2.St} {S' : Sto} {N : Hp → Prop} (hv : ∀ i ∈ t.vs, i ∈ vs) (it : ItR K cm J gb xs) (g0 : Gro K cm g1 gb D acc0 ac0) (h1 : g1.H D = none) (env : EnvR K gb εw σw)
    (h : comp t ft fe xs εw gb.S = some (ys, S')) (hl : (ac0 ++ ys).length ≤ 100000) (fin : ∀ g' acc, Wk gb g' → Gro K cm g1 g' D acc (ac0 ++ ys) → g'.S = S' → N g'.H) :
    ∃ W : Nat → Nat → Hp → Prop, (∃ m, W 0 m gb.H) ∧ ∀ i m H, W i m H → (J.stop i H ∧ N H) ∨ (J.go i H ∧ ∃ Nx : Hp → Prop, (∀ H', Nx H' → ∃ m', m' < m ∧ W (i + 1) m' H') ∧ ∀ x H', J.yld i H x H' → gT K t x σw H' fun σ2 H2 => wipe σ2 vs = wipe σw vs ∧ tT K cm ft σ2 H2 fun b H3 =>
      if b = true then tE K cm fe σ2 H3 fun y H4 => ∃ acc, H4 D = some (.lst acc) ∧ acc.length < sizeLine ∧ Nx (upd H4 D (.lst (acc ++ [y]))) else Nx H3) := by
  let St (i : Nat) (H : Hp) : Prop := ∃ g acc ac zs, g.H = H ∧ Wk gb g ∧ Gro K cm g1 g D acc ac ∧ comp t ft fe (xs.drop i) εw g.S = some (zs, S') ∧ ac ++ zs = ac0 ++ ys
  refine ⟨fun i m H => m = xs.length - i ∧ i ≤ xs.length ∧ St i H, ⟨xs.length, by omega, Nat.zero_le _, gb, acc0, ac0, ys, rfl, Wk.refl gb, g0, h, rfl⟩, ?_⟩
  rintro i m H ⟨rfl, hil, g, acc, ac, zs, rfl, wk, gr, hc, e⟩
  by_cases hlt : i < xs.length
  · have hx : xs[i]? = some xs[i] := List.getElem?_eq_getElem hlt
    obtain ⟨hgo, hy⟩ := it.go g i _ wk gr.ok hx
    rw [List.drop_eq_getElem_cons hlt] at hc
    obtain ⟨ε2, e2, hc⟩ := bind_some hc
    obtain ⟨⟨b, S3⟩, e3, hc⟩ := bind_some hc
    refine .inr ⟨hgo, St (i + 1), fun H' s => ⟨xs.length - (i + 1), by omega, rfl, hlt, s⟩, fun v H' y => ?_⟩
    obtain ⟨g3, rfl, k3, s3, st3, r3⟩ := hy v H' y
    refine bindT_ok k3 hv ((env.wk wk).mono st3) r3 e2 fun σ2 env2 hw => ⟨hw, ?_⟩
    refine ⟨g3, ε2, b, S3, rfl, k3, env2, by rw [s3]; exact e3, fun g4 k4 s4 st4 => ?_⟩
    subst s4
    have gr4 : Gro K cm g1 g4 D acc ac := (gr.step k3 st3).step k4 st4
    have wk4 : Wk gb g4 := (wk.trans st3.wk).trans st4.wk
    cases b with
    | true =>
      rw [if_pos rfl]
      obtain ⟨⟨y, S5⟩, e5, hc⟩ := bind_some hc
      obtain ⟨⟨z, S6⟩, e6, hc⟩ := map_some' hc
      cases hc
      refine ⟨g4, ε2, y, S5, rfl, k4, env2.mono st4, e5, fun g5 v5 k5 s5 st5 r5 => ?_⟩
      subst s5
      have gr5 := gr4.step k5 st5
      refine ⟨acc, gr5.at_, ?_, ?_⟩
      · have hz : (ac ++ y :: z).length ≤ 100000 := by rw [e]; exact hl
        rw [List.length_append, List.length_cons, gr5.rel.length] at hz
        exact lt100 (by omega)
      · refine ⟨⟨g5.Hf, g5.m, g5.S, upd g5.H D (.lst (acc ++ [v5]))⟩, acc ++ [v5], ac ++ [y], z, rfl, ⟨(wk4.trans st5.wk).mm, (wk4.trans st5.wk).len, (wk4.trans st5.wk).hf⟩, gr5.push h1 r5, e6, ?_⟩
        rw [List.append_assoc]
        exact e
    | false =>
      rw [if_neg Bool.false_ne_true]
      exact ⟨g4, acc, ac, zs, rfl, wk4, gr4, hc, e⟩
  · have ei : i = xs.length := by omega
    subst ei
    rw [List.drop_length] at hc
    cases hc
    rw [List.append_nil] at e
    subst e
    exact .inl ⟨it.stop g wk gr.ok, fin g acc wk gr rfl⟩
/-- the walk of the outer one of two clauses -/
theorem lc_walk2 {J : It} {g1 : Gs} {D : Addr} {ys xs : List Vl} {t t1 : Tg} {vs vs1 : List Nat} {ft ft1 : IT} {fi1 : IA} {fe : IE} {εw : Ev} {σw : L2.St} {S' : Sto} {N : Hp → Prop} (hv : ∀ i ∈ t.vs, i ∈ vs) (hv1 : ∀ i ∈ t1.vs, i ∈ vs1) (it : ItR K cm J g1 xs) (k1 : g1.ok K cm) (h1 : g1.H D = none) (env : EnvR K g1 εw σw)
    (h : comp2 t ft fi1 t1 vs1 ft1 fe xs εw g1.S = some (ys, S')) (hl : ys.length ≤ 100000) (fin : ∀ g' acc, Gro K cm g1 g' D acc ys → g'.S = S' → N g'.H) :
    ∃ W : Nat → Nat → Hp → Prop, (∃ m, W 0 m (upd g1.H D (.lst []))) ∧ ∀ i m H, W i m H → (J.stop i H ∧ N H) ∨ (J.go i H ∧ ∃ Nx : Hp → Prop, (∀ H', Nx H' → ∃ m', m' < m ∧ W (i + 1) m' H') ∧ ∀ x H', J.yld i H x H' → gT K t x σw H' fun σ2 H2 => wipe σ2 vs = wipe σw vs ∧ tT K cm ft σ2 H2 fun b H3 =>
      if b = true then tI K cm fi1 σ2 H3 fun J1 H4 => ∃ W1 : Nat → Nat → Hp → Prop, (∃ m, W1 0 m H4) ∧ ∀ j k H, W1 j k H → (J1.stop j H ∧ Nx H) ∨ (J1.go j H ∧ ∃ Nx1 : Hp → Prop, (∀ H', Nx1 H' → ∃ k', k' < k ∧ W1 (j + 1) k' H') ∧ ∀ x H', J1.yld j H x H' → gT K t1 x (wipe σ2 vs1) H' fun σ3 H5 => wipe σ3 vs1 = wipe σ2 vs1 ∧ tT K cm ft1 σ3 H5 fun b H6 =>
        if b = true then tE K cm fe σ3 H6 fun y H7 => ∃ acc, H7 D = some (.lst acc) ∧ acc.length < sizeLine ∧ Nx1 (upd H7 D (.lst (acc ++ [y]))) else Nx1 H6)
      else Nx H3) := by
  let St (i : Nat) (H : Hp) : Prop := ∃ g acc ac zs, g.H = H ∧ Gro K cm g1 g D acc ac ∧ comp2 t ft fi1 t1 vs1 ft1 fe (xs.drop i) εw g.S = some (zs, S') ∧ ac ++ zs = ys
  have start0 : Gro K cm g1 ⟨g1.Hf, g1.m, g1.S, upd g1.H D (.lst [])⟩ D [] [] := by
    refine ⟨⟨fun b o e => same_upd h1 _ _ (k1.frz _ _ e), k1.live, k1.inj, fun i c e => (k1.cell i c e).re ?_⟩, ⟨fun _ _ => rfl, Nat.le_refl _, Same.refl _, fun _ z => .inl z, fun i z z' => absurd z' (Nat.not_lt_of_le z), fun a o e _ => same_upd h1 a o e⟩, upd_same, k1.hfn h1, fun i hi e => ?_, .nil⟩
    · obtain ⟨u, hu⟩ := (k1.cell i c e).there
      show upd g1.H D _ (g1.m i) = _
      rw [upd_ne (ne_of_none hu h1)]
    · obtain ⟨u, hu⟩ := k1.has hi
      exact ne_of_none hu h1 e
  refine ⟨fun i m H => m = xs.length - i ∧ i ≤ xs.length ∧ St i H, ⟨xs.length, by omega, Nat.zero_le _, _, [], [], ys, rfl, start0, h, rfl⟩, ?_⟩
  rintro i m H ⟨rfl, hil, g, acc, ac, zs, rfl, gr, hc, e⟩
  by_cases hlt : i < xs.length
  · have hx : xs[i]? = some xs[i] := List.getElem?_eq_getElem hlt
    obtain ⟨hgo, hy⟩ := it.go g i _ gr.st.wk gr.ok hx
    rw [List.drop_eq_getElem_cons hlt] at hc
    obtain ⟨ε2, e2, hc⟩ := bind_some hc
    obtain ⟨⟨b, S3⟩, e3, hc⟩ := bind_some hc
    refine .inr ⟨hgo, St (i + 1), fun H' s => ⟨xs.length - (i + 1), by omega, rfl, hlt, s⟩, fun v H' y => ?_⟩
    obtain ⟨g3, rfl, k3, s3, st3, r3⟩ := hy v H' y
    refine bindT_ok k3 hv ((env.wk gr.st.wk).mono st3) r3 e2 fun σ2 env2 hw => ⟨hw, ?_⟩
    refine ⟨g3, ε2, b, S3, rfl, k3, env2, by rw [s3]; exact e3, fun g4 k4 s4 st4 => ?_⟩
    subst s4
    have gr4 : Gro K cm g1 g4 D acc ac := (gr.step k3 st3).step k4 st4
    cases b with
    | true =>
      rw [if_pos rfl]
      obtain ⟨⟨is, S5⟩, e5, hc⟩ := bind_some hc
      obtain ⟨⟨y, S6⟩, e6, hc⟩ := bind_some hc
      obtain ⟨⟨z, S7⟩, e7, hc⟩ := map_some' hc
      cases hc
      refine ⟨g4, ε2, is, S5, rfl, k4, env2.mono st4, e5, fun g5 J1 k5 s5 st5 it5 => ?_⟩
      subst s5
      have gr5 := gr4.step k5 st5
      have e0 : ac ++ (y ++ z) = ys := e
      have hz : (ac ++ y).length ≤ 100000 := by
        have := hl
        rw [← e0, List.length_append, List.length_append] at this
        rw [List.length_append]
        omega
      have wz := lc_walk (vs := vs1) (N := St (i + 1)) hv1 it5 gr5 h1 (wipe_env ((env2.mono st4).mono st5) vs1) e6 hz fun g' acc' _ gr' s' => by
        subst s'
        exact ⟨g', acc', ac ++ y, z, rfl, gr', e7, by rw [List.append_assoc]; exact e⟩
      rw [wipe_idem] at wz
      exact wz
    | false =>
      rw [if_neg Bool.false_ne_true]
      exact ⟨g4, acc, ac, zs, rfl, gr4, hc, e⟩
  · have ei : i = xs.length := by omega
    subst ei
    rw [List.drop_length] at hc
    cases hc
    rw [List.append_nil] at e
    subst e
    exact .inl ⟨it.stop g gr.st.wk gr.ok, fin g acc gr rfl⟩
/-- the new list is made: as data, or as a cell -/
theorem Gro.toF {g1 g : Gs} {D : Addr} {acc : List V} {ac : List Vl} {ds : List PyData} (a : Gro K cm g1 g D acc ac) (h1 : g1.H D = none) (h : allD ac = some ds) :
    Gs.ok K cm ⟨upd g.Hf D (.lst acc), g.m, g.S, g.H⟩ ∧ Stp g1 ⟨upd g.Hf D (.lst acc), g.m, g.S, g.H⟩ ∧ RV K ⟨upd g.Hf D (.lst acc), g.m, g.S, g.H⟩ (.dat (.list ds)) (.ref D) := by
  have sm : Same g.Hf (upd g.Hf D (.lst acc)) := same_upd a.hf
  have wk : Wk g ⟨upd g.Hf D (.lst acc), g.m, g.S, g.H⟩ := ⟨fun _ _ => rfl, Nat.le_refl _, sm⟩
  have cw : ∀ {b : Addr} {c : Cell}, CellOk K cm g b c → CellOk K cm ⟨upd g.Hf D (.lst acc), g.m, g.S, g.H⟩ b c := fun {b c} h => by
    cases c with
    | lst xs => obtain ⟨vs, e, r⟩ := h; exact ⟨vs, e, RVs.wk wk r⟩
    | dct kvs => obtain ⟨us, e, r⟩ := h; exact ⟨us, e, Paired.mapP r fun _ _ q => ⟨q.1, RV.wk wk q.2⟩⟩
    | ins c fs => obtain ⟨dx, us, e, r⟩ := h; exact ⟨dx, us, e, Paired.mapP r fun _ _ q => ⟨q.1, RV.wk wk q.2⟩⟩
    | gone => exact h
  refine ⟨⟨fun b o e => ?_, fun i c hi hg => ?_, a.ok.inj, fun i c e => cw (a.ok.cell i c e)⟩, ⟨a.st.mm, a.st.len, a.st.hf.trans sm, fun b hb => ?_, a.st.cel, a.st.oth⟩, Dq.lst upd_same ((allD_ok a.rel h).mono sm)⟩
  · have e' : upd g.Hf D (.lst acc) b = some o := e
    by_cases hb : b = D
    · rw [hb, upd_same] at e'
      cases e'
      rw [hb]
      exact a.at_
    · rw [upd_ne hb] at e'
      exact a.ok.frz _ _ e'
  · show upd g.Hf D (.lst acc) (g.m i) = none
    rw [upd_ne (a.ne i (List.getElem?_eq_some_iff.mp hi).1)]
    exact a.ok.live i c hi hg
  · have hb' : upd g.Hf D (.lst acc) b ≠ none := hb
    by_cases e : b = D
    · exact .inr (.inl (e ▸ h1))
    · rw [upd_ne e] at hb'
      exact a.st.new b hb'
theorem Gro.toC {g1 g : Gs} {D : Addr} {acc : List V} {ac : List Vl} (a : Gro K cm g1 g D acc ac) (h1 : g1.H D = none) :
    Gs.ok K cm ⟨g.Hf, fun i => if i = g.S.length then D else g.m i, g.S ++ [.lst ac], g.H⟩ ∧ Stp g1 ⟨g.Hf, fun i => if i = g.S.length then D else g.m i, g.S ++ [.lst ac], g.H⟩ ∧ RV K ⟨g.Hf, fun i => if i = g.S.length then D else g.m i, g.S ++ [.lst ac], g.H⟩ (.obj g.S.length) (.ref D) := by
  have hm : ∀ i, i < g.S.length → (if i = g.S.length then D else g.m i) = g.m i := fun i hi => if_neg (Nat.ne_of_lt hi)
  have hln : (g.S ++ [Cell.lst ac]).length = g.S.length + 1 := by rw [List.length_append, List.length_singleton]
  have wk : Wk g ⟨g.Hf, fun i => if i = g.S.length then D else g.m i, g.S ++ [.lst ac], g.H⟩ := ⟨hm, by show g.S.length ≤ (g.S ++ [Cell.lst ac]).length; omega, Same.refl _⟩
  have cw : ∀ {b : Addr} {c : Cell}, CellOk K cm g b c → CellOk K cm ⟨g.Hf, fun i => if i = g.S.length then D else g.m i, g.S ++ [.lst ac], g.H⟩ b c := fun {b c} h => by
    cases c with
    | lst xs => obtain ⟨vs, e, r⟩ := h; exact ⟨vs, e, RVs.wk wk r⟩
    | dct kvs => obtain ⟨us, e, r⟩ := h; exact ⟨us, e, Paired.mapP r fun _ _ q => ⟨q.1, RV.wk wk q.2⟩⟩
    | ins c fs => obtain ⟨dx, us, e, r⟩ := h; exact ⟨dx, us, e, Paired.mapP r fun _ _ q => ⟨q.1, RV.wk wk q.2⟩⟩
    | gone => exact h
  have hl : ∀ i, i < (g.S ++ [Cell.lst ac]).length → i < g.S.length ∨ i = g.S.length := fun i hi => by omega
  refine ⟨⟨a.ok.frz, fun i c e hg => ?_, fun i j hi hj e => ?_, fun i c e => ?_⟩, ⟨fun i hi => ?_, ?_, a.st.hf, a.st.new, fun i hi hi' => ?_, a.st.oth⟩, ?_, ?_⟩
  · show g.Hf (if i = g.S.length then D else g.m i) = none
    have e' : (g.S ++ [Cell.lst ac])[i]? = some c := e
    rcases hl i (List.getElem?_eq_some_iff.mp e').1 with hi | rfl
    · rw [List.getElem?_append_left hi] at e'
      rw [hm i hi]; exact a.ok.live i c e' hg
    · rw [if_pos rfl]; exact a.hf
  · have e' : (if i = g.S.length then D else g.m i) = (if j = g.S.length then D else g.m j) := e
    rcases hl i hi with hi | rfl
    · rcases hl j hj with hj | rfl
      · rw [hm i hi, hm j hj] at e'; exact a.ok.inj i j hi hj e'
      · rw [hm i hi, if_pos rfl] at e'; exact absurd e' (a.ne i hi)
    · rcases hl j hj with hj | rfl
      · rw [hm j hj, if_pos rfl] at e'; exact absurd e'.symm (a.ne j hj)
      · rfl
  · have e' : (g.S ++ [Cell.lst ac])[i]? = some c := e
    by_cases hi : i < g.S.length
    · rw [List.getElem?_append_left hi] at e'
      show CellOk K cm _ (if i = g.S.length then D else g.m i) c
      rw [hm i hi]
      exact cw (a.ok.cell i c e')
    · have hlt : i < (g.S ++ [Cell.lst ac]).length := (List.getElem?_eq_some_iff.mp e').1
      have ei : i = g.S.length := by omega
      subst ei
      rw [List.getElem?_append_right (Nat.le_refl _), Nat.sub_self] at e'
      cases e'
      show CellOk K cm _ (if g.S.length = g.S.length then D else _) _
      rw [if_pos rfl]
      exact ⟨acc, a.at_, RVs.wk wk a.rel⟩
  · show (if i = g.S.length then D else g.m i) = _
    rw [hm i (Nat.lt_of_lt_of_le hi a.st.len)]
    exact a.st.mm i hi
  · show g1.S.length ≤ (g.S ++ [Cell.lst ac]).length
    have := a.st.len
    omega
  · show g1.H (if i = g.S.length then D else g.m i) = none
    rcases hl i hi' with hi2 | rfl
    · rw [hm i hi2]; exact a.st.cel i hi hi2
    · rw [if_pos rfl]; exact h1
  · show g.S.length < (g.S ++ [Cell.lst ac]).length
    omega
  · show V.ref D = .ref (if g.S.length = g.S.length then D else _)
    rw [if_pos rfl]
end
/-! ### the rules -/
section
variable {X : Cx} {cm : Nat → Addr} {pos : Pos}
theorem xts_nil : PTs X [] (tT X.K cm iYes) := ⟨fun pins s σ H Q I ⟨g, ε, x, S', e, k, env, h, q⟩ => by
  subst e
  cases h
  exact pts_nil.run pins s σ _ Q I (q g k rfl (Stp.refl g))⟩
theorem xts_one {c : Expr} {f : IT} (h : XT X cm c f) : PTs X [c] (tT X.K cm f) := pts_one h
theorem xq_one {i : Nat} {x : Str} (hN : X.N.Nodup) (hi : X.N[i]? = some x) (hx : Loc X.env.scope x) (hf : X.fn x = true ∨ X.env.scope.names.lookup x = some .local := by first | exact .inl rfl | exact .inr rfl | assumption) : PG X (.Name x pos) (gT X.K (.one i)) := pg_name hN hi hx hf
/-- the names of a tuple that is a target -/
theorem xqs_nil : PGs X [] (gNms []) := pgs_nil
theorem xqs_cons {i : Nat} {is : List Nat} {e : Expr} {es : List Expr} (h1 : PG X e (gT X.K (.one i))) (h2 : PGs X es (gNms is)) (hs : (assignEach (e :: es) X.env).map (·.2) = assign e X.env :: (assignEach es X.env).map (·.2) := by rfl) : PGs X (e :: es) (gNms (i :: is)) := pgs_cons h1 h2 hs
theorem xq_tup {is : List Nat} {es : List Expr} {j : Nat} (hc : X.calm = true) (h : PGs X es (gNms is)) (hn : (assignEach es X.env).length = is.length := by rfl) (hst : (assignEach es X.env).findIdx? (·.1) = none := by rfl) : PG X (.Tuple es j pos) (gT X.K (.tup is)) := pg_tup hc h hn hst
theorem tlc_of {fi : IA} {t : Tg} {vs : List Nat} {ft : IT} {fe : IE} (hv : ∀ i ∈ t.vs, i ∈ vs) {σ : L2.St} {H : Hp} {R : V → Hp → Prop} {Fin : IA → IE}
    (hF : ∀ (g1 g : Gs) (D : Addr) (acc : List V) (ac : List Vl) (x : Vl) (S' : Sto), Gro X.K cm g1 g D acc ac → g1.H D = none → Fin (fun _ _ => some (ac, g.S)) [] [] = some (x, S') → ∃ g', g'.H = g.H ∧ g'.ok X.K cm ∧ g'.S = S' ∧ Stp g1 g' ∧ RV X.K g' x (.ref D))
    (hF2 : ∀ (f : IA) (ε : Ev) (S : Sto) (r : Vl × Sto), Fin f ε S = some r → ∃ b, f ε S = some b ∧ Fin (fun _ _ => some b) [] [] = some r)
    (h : tE X.K cm (Fin (iLcG fi vs (comp t ft fe))) σ H R) : tLc (tI X.K cm fi) (gT X.K t) (tT X.K cm ft) (tE X.K cm fe) vs σ H R := by
  obtain ⟨g, ε, x, S', e, k, env, h, q⟩ := h
  subst e
  obtain ⟨⟨ys, S2⟩, e1, h2⟩ := hF2 _ _ _ _ h
  obtain ⟨⟨xs, S1⟩, e3, e1⟩ := bind_some e1
  obtain ⟨⟨ys', S2'⟩, e4, e1⟩ := bind_some e1
  have e5 : (if ys'.length ≤ 100000 then some (ys', S2') else none) = some (ys, S2) := e1
  by_cases hl : ys'.length ≤ 100000
  · rw [if_pos hl] at e5
    cases e5
    refine ⟨g, ε, xs, S1, rfl, k, env, e3, fun g1 J k1 s1 st1 it D hD => ?_⟩
    subst s1
    have start0 : Gro X.K cm g1 ⟨g1.Hf, g1.m, g1.S, upd g1.H D (.lst [])⟩ D [] [] := by
      refine ⟨⟨fun b o e => same_upd hD _ _ (k1.frz _ _ e), k1.live, k1.inj, fun i c e => (k1.cell i c e).re ?_⟩, ⟨fun _ _ => rfl, Nat.le_refl _, Same.refl _, fun _ z => .inl z, fun i z z' => absurd z' (Nat.not_lt_of_le z), fun a o e _ => same_upd hD a o e⟩, upd_same, k1.hfn hD, fun i hi e => ?_, .nil⟩
      · obtain ⟨u, hu⟩ := (k1.cell i c e).there
        show upd g1.H D _ (g1.m i) = _
        rw [upd_ne (ne_of_none hu hD)]
      · obtain ⟨u, hu⟩ := k1.has hi
        exact ne_of_none hu hD e
    have it' : ItR X.K cm J ⟨g1.Hf, g1.m, g1.S, upd g1.H D (.lst [])⟩ xs := ⟨fun g2 i x w => it.go g2 i x ⟨w.mm, w.len, w.hf⟩, fun g2 w => it.stop g2 ⟨w.mm, w.len, w.hf⟩⟩
    have wz := lc_walk (σw := wipe σ vs) (vs := vs) (N := fun H => R (.ref D) H) hv it' start0 hD ((wipe_env (env.mono st1) vs).wk ⟨fun _ _ => rfl, Nat.le_refl _, Same.refl _⟩) e4 (by simpa using hl) fun g' acc _ gr s' => by
      subst s'
      obtain ⟨g5, e6, k5, s5, st5, r5⟩ := hF g1 g' D acc _ x S' gr hD h2
      show R (.ref D) g'.H
      rw [← e6]
      exact q g5 _ k5 s5 (st1.trans k1 st5) r5
    rw [wipe_idem] at wz
    exact wz
  · rw [if_neg hl] at e5
    cases e5
theorem tlc2_of {fi fi1 : IA} {t t1 : Tg} {vs vs1 : List Nat} {ft ft1 : IT} {fe : IE} (hv : ∀ i ∈ t.vs, i ∈ vs) (hv1 : ∀ i ∈ t1.vs, i ∈ vs1) {σ : L2.St} {H : Hp} {R : V → Hp → Prop} {Fin : IA → IE}
    (hF : ∀ (g1 g : Gs) (D : Addr) (acc : List V) (ac : List Vl) (x : Vl) (S' : Sto), Gro X.K cm g1 g D acc ac → g1.H D = none → Fin (fun _ _ => some (ac, g.S)) [] [] = some (x, S') → ∃ g', g'.H = g.H ∧ g'.ok X.K cm ∧ g'.S = S' ∧ Stp g1 g' ∧ RV X.K g' x (.ref D))
    (hF2 : ∀ (f : IA) (ε : Ev) (S : Sto) (r : Vl × Sto), Fin f ε S = some r → ∃ b, f ε S = some b ∧ Fin (fun _ _ => some b) [] [] = some r)
    (h : tE X.K cm (Fin (iLcG fi vs (comp2 t ft fi1 t1 vs1 ft1 fe))) σ H R) : tLc2 (tI X.K cm fi) (gT X.K t) (tT X.K cm ft) (tI X.K cm fi1) (gT X.K t1) (tT X.K cm ft1) (tE X.K cm fe) vs vs1 σ H R := by
  obtain ⟨g, ε, x, S', e, k, env, h, q⟩ := h
  subst e
  obtain ⟨⟨ys, S2⟩, e1, h2⟩ := hF2 _ _ _ _ h
  obtain ⟨⟨xs, S1⟩, e3, e1⟩ := bind_some e1
  obtain ⟨⟨ys', S2'⟩, e4, e1⟩ := bind_some e1
  have e5 : (if ys'.length ≤ 100000 then some (ys', S2') else none) = some (ys, S2) := e1
  by_cases hl : ys'.length ≤ 100000
  · rw [if_pos hl] at e5
    cases e5
    refine ⟨g, ε, xs, S1, rfl, k, env, e3, fun g1 J k1 s1 st1 it D hD => ?_⟩
    subst s1
    have wz := lc_walk2 (σw := wipe σ vs) (vs := vs) (N := fun H => R (.ref D) H) hv hv1 it k1 hD (wipe_env (env.mono st1) vs) e4 hl fun g' acc gr s' => by
      subst s'
      obtain ⟨g5, e6, k5, s5, st5, r5⟩ := hF g1 g' D acc _ x S' gr hD h2
      show R (.ref D) g'.H
      rw [← e6]
      exact q g5 _ k5 s5 (st1.trans k1 st5) r5
    rw [wipe_idem] at wz
    exact wz
  · rw [if_neg hl] at e5
    cases e5
theorem finF (g1 g : Gs) (D : Addr) (acc : List V) (ac : List Vl) (x : Vl) (S' : Sto) (a : Gro X.K cm g1 g D acc ac) (h1 : g1.H D = none) (h : toF (fun _ _ => some (ac, g.S)) [] [] = some (x, S')) : ∃ g', g'.H = g.H ∧ g'.ok X.K cm ∧ g'.S = S' ∧ Stp g1 g' ∧ RV X.K g' x (.ref D) := by
  have h' : (allD ac).map (fun ds => (Vl.dat (.list ds), g.S)) = some (x, S') := h
  obtain ⟨ds, e, h'⟩ := map_some' h'
  cases h'
  obtain ⟨k, st, r⟩ := a.toF h1 e
  exact ⟨⟨upd g.Hf D (.lst acc), g.m, g.S, g.H⟩, rfl, k, rfl, st, r⟩
theorem finC (g1 g : Gs) (D : Addr) (acc : List V) (ac : List Vl) (x : Vl) (S' : Sto) (a : Gro X.K cm g1 g D acc ac) (h1 : g1.H D = none) (h : toC (fun _ _ => some (ac, g.S)) [] [] = some (x, S')) : ∃ g', g'.H = g.H ∧ g'.ok X.K cm ∧ g'.S = S' ∧ Stp g1 g' ∧ RV X.K g' x (.ref D) := by
  cases h
  obtain ⟨k, st, r⟩ := a.toC h1
  exact ⟨⟨g.Hf, fun i => if i = g.S.length then D else g.m i, g.S ++ [.lst ac], g.H⟩, rfl, k, rfl, st, r⟩
theorem finF2 (f : IA) (ε : Ev) (S : Sto) (r : Vl × Sto) (h : toF f ε S = some r) : ∃ b, f ε S = some b ∧ toF (fun _ _ => some b) [] [] = some r := bind_some h
theorem finC2 (f : IA) (ε : Ev) (S : Sto) (r : Vl × Sto) (h : toC f ε S = some r) : ∃ b, f ε S = some b ∧ toC (fun _ _ => some b) [] [] = some r := by
  obtain ⟨b, e, h⟩ := map_some' h
  exact ⟨b, e, congrArg some h⟩
variable {elt tg iter tg1 iter1 : Expr} {ifs ifs1 : List Expr} {scope : Scope} {own : List (Str × Nat)} {fi fi1 : IA} {t t1 : Tg} {ft ft1 : IT} {fe : IE} {vs vs1 : List Nat}
theorem xe_lc (hc : X.calm = true) (hN : X.N.Nodup) (hi : XI X cm tg iter fi) (ok : BlkOk X.N X.env.scope scope own) (hvs : own.map (·.2) = vs) (hv : ∀ i ∈ t.vs, i ∈ vs)
    (hg : ∀ (s : Shared) (H : Hp) (C : Addr) (cl : List (Str × Addr)) (fp : List Addr), PG (X.blk s H scope (compEnvC scope cl C X.env) fp) tg (gT X.K t)) (ht : ∀ (s : Shared) (H : Hp) (C : Addr) (cl : List (Str × Addr)) (fp : List Addr), PTs (X.blk s H scope (compEnvC scope cl C X.env) fp) ifs (tT X.K cm ft))
    (he : ∀ (s : Shared) (H : Hp) (C : Addr) (cl : List (Str × Addr)) (fp : List Addr), PE (X.blk s H scope (compEnvC scope cl C X.env) fp) elt (tE X.K cm fe)) (hs : ∀ x, foldedSetIterable iter X.env x = pure x := by intro _; rfl) :
    XE X cm (.ListComp elt [⟨tg, iter, ifs, 0⟩] scope pos) (toF (iLcG fi vs (comp t ft fe))) :=
  by subst hvs; exact pe_weak (pe_lc hc hN hi ok hg ht he hs) fun _ _ _ h => tlc_of hv finF finF2 h
theorem xe_lcC (hc : X.calm = true) (hN : X.N.Nodup) (hi : XI X cm tg iter fi) (ok : BlkOk X.N X.env.scope scope own) (hvs : own.map (·.2) = vs) (hv : ∀ i ∈ t.vs, i ∈ vs)
    (hg : ∀ (s : Shared) (H : Hp) (C : Addr) (cl : List (Str × Addr)) (fp : List Addr), PG (X.blk s H scope (compEnvC scope cl C X.env) fp) tg (gT X.K t)) (ht : ∀ (s : Shared) (H : Hp) (C : Addr) (cl : List (Str × Addr)) (fp : List Addr), PTs (X.blk s H scope (compEnvC scope cl C X.env) fp) ifs (tT X.K cm ft))
    (he : ∀ (s : Shared) (H : Hp) (C : Addr) (cl : List (Str × Addr)) (fp : List Addr), PE (X.blk s H scope (compEnvC scope cl C X.env) fp) elt (tE X.K cm fe)) (hs : ∀ x, foldedSetIterable iter X.env x = pure x := by intro _; rfl) :
    XE X cm (.ListComp elt [⟨tg, iter, ifs, 0⟩] scope pos) (toC (iLcG fi vs (comp t ft fe))) :=
  by subst hvs; exact pe_weak (pe_lc hc hN hi ok hg ht he hs) fun _ _ _ h => tlc_of hv finC finC2 h
theorem asg_of {f : IE} {i : Nat} {D : Ends} {σ : L2.St} {H : Hp} (h : tS X.K cm (sAsg f (gNm i)) D σ H) : tE X.K cm f σ H fun x H1 => gName i x σ H1 D.nx := by
  obtain ⟨g0, ε, x, S', e, k, env, h, q⟩ := h
  subst e
  obtain ⟨⟨x1, S1⟩, e1, h⟩ := bind_some h
  obtain ⟨⟨ε2, S2⟩, e2, h⟩ := map_some' h
  cases h
  cases e2
  exact ⟨g0, ε, x1, S1, rfl, k, env, e1, fun g1 v1 k1 s1 st1 r1 => q g1 k1 s1 st1 _ ((env.mono st1).set r1 i)⟩
theorem xs_setLc (i : Nat) {y : Str} {py spos : Pos} (hc : X.calm = true) (hN : X.N.Nodup) (hy : X.N[i]? = some y) (hyl : X.env.scope.names.lookup y = some .local) (hsw : swapsWith (.ListComp elt [⟨tg, iter, ifs, 0⟩] scope pos) (some (.Name y py)) spos.line X.env = pure true) (hi : XI X cm tg iter fi) (ok : BlkOk X.N X.env.scope scope own) (hvs : own.map (·.2) = vs) (hv : ∀ i ∈ t.vs, i ∈ vs)
    (hg : ∀ (s : Shared) (H : Hp) (C : Addr) (cl : List (Str × Addr)) (fp : List Addr), PG (X.blk s H scope (compEnvC scope cl C X.env) fp) tg (gT X.K t)) (ht : ∀ (s : Shared) (H : Hp) (C : Addr) (cl : List (Str × Addr)) (fp : List Addr), PTs (X.blk s H scope (compEnvC scope cl C X.env) fp) ifs (tT X.K cm ft))
    (he : ∀ (s : Shared) (H : Hp) (C : Addr) (cl : List (Str × Addr)) (fp : List Addr), PE (X.blk s H scope (compEnvC scope cl C X.env) fp) elt (tE X.K cm fe)) (hs : ∀ x, foldedSetIterable iter X.env x = pure x := by intro _; rfl) :
    XS X cm (.Assign [.Name y py] (.ListComp elt [⟨tg, iter, ifs, 0⟩] scope pos) spos) (sAsg (toF (iLcG fi vs (comp t ft fe))) (gNm i)) :=
  by subst hvs; exact ps_weak (ps_setLc hc hN hy hyl hsw hi ok hg ht he hs) fun D σ H h => tlc_of hv finF finF2 (asg_of h)
theorem xs_setLcC (i : Nat) {y : Str} {py spos : Pos} (hc : X.calm = true) (hN : X.N.Nodup) (hy : X.N[i]? = some y) (hyl : X.env.scope.names.lookup y = some .local) (hsw : swapsWith (.ListComp elt [⟨tg, iter, ifs, 0⟩] scope pos) (some (.Name y py)) spos.line X.env = pure true) (hi : XI X cm tg iter fi) (ok : BlkOk X.N X.env.scope scope own) (hvs : own.map (·.2) = vs) (hv : ∀ i ∈ t.vs, i ∈ vs)
    (hg : ∀ (s : Shared) (H : Hp) (C : Addr) (cl : List (Str × Addr)) (fp : List Addr), PG (X.blk s H scope (compEnvC scope cl C X.env) fp) tg (gT X.K t)) (ht : ∀ (s : Shared) (H : Hp) (C : Addr) (cl : List (Str × Addr)) (fp : List Addr), PTs (X.blk s H scope (compEnvC scope cl C X.env) fp) ifs (tT X.K cm ft))
    (he : ∀ (s : Shared) (H : Hp) (C : Addr) (cl : List (Str × Addr)) (fp : List Addr), PE (X.blk s H scope (compEnvC scope cl C X.env) fp) elt (tE X.K cm fe)) (hs : ∀ x, foldedSetIterable iter X.env x = pure x := by intro _; rfl) :
    XS X cm (.Assign [.Name y py] (.ListComp elt [⟨tg, iter, ifs, 0⟩] scope pos) spos) (sAsg (toC (iLcG fi vs (comp t ft fe))) (gNm i)) :=
  by subst hvs; exact ps_weak (ps_setLc hc hN hy hyl hsw hi ok hg ht he hs) fun D σ H h => tlc_of hv finC finC2 (asg_of h)
theorem xe_lc2 (hc : X.calm = true) (hN : X.N.Nodup) (hi : XI X cm tg iter fi) (ok : BlkOk X.N X.env.scope scope own) (hvs : own.map (·.2) = vs) (hv : ∀ i ∈ t.vs, i ∈ vs) (hv1 : ∀ i ∈ t1.vs, i ∈ vs1) (hvv : ∀ i ∈ vs1, i ∈ vs)
    (hg : ∀ (s : Shared) (H : Hp) (C : Addr) (cl : List (Str × Addr)) (fp : List Addr), PG (X.blk s H scope (compEnvC scope cl C X.env) fp) tg (gT X.K t)) (ht : ∀ (s : Shared) (H : Hp) (C : Addr) (cl : List (Str × Addr)) (fp : List Addr), PTs (X.blk s H scope (compEnvC scope cl C X.env) fp) ifs (tT X.K cm ft))
    (hi1 : ∀ (s : Shared) (H : Hp) (C : Addr) (cl : List (Str × Addr)) (fp : List Addr), PI (X.blk s H scope (compEnvC scope cl C X.env) fp) tg1 iter1 (tI X.K cm fi1))
    (hg1 : ∀ (s : Shared) (H : Hp) (C : Addr) (cl : List (Str × Addr)) (fp : List Addr), PG (X.blk s H scope (compEnvC scope cl C X.env) fp) tg1 (gT X.K t1)) (ht1 : ∀ (s : Shared) (H : Hp) (C : Addr) (cl : List (Str × Addr)) (fp : List Addr), PTs (X.blk s H scope (compEnvC scope cl C X.env) fp) ifs1 (tT X.K cm ft1))
    (he : ∀ (s : Shared) (H : Hp) (C : Addr) (cl : List (Str × Addr)) (fp : List Addr), PE (X.blk s H scope (compEnvC scope cl C X.env) fp) elt (tE X.K cm fe)) (hs : ∀ x, foldedSetIterable iter X.env x = pure x := by intro _; rfl) (hs1 : ∀ env x, foldedSetIterable iter1 env x = pure x := by intro _ _; rfl) :
    XE X cm (.ListComp elt [⟨tg, iter, ifs, 0⟩, ⟨tg1, iter1, ifs1, 0⟩] scope pos) (toF (iLcG fi vs (comp2 t ft fi1 t1 vs1 ft1 fe))) :=
  by subst hvs; exact pe_weak (pe_lc2 hc hN hi ok hvv hg ht hi1 hg1 ht1 he hs hs1) fun _ _ _ h => tlc2_of hv hv1 finF finF2 h
theorem xs_setLc2 (i : Nat) {y : Str} {py spos : Pos} (hc : X.calm = true) (hN : X.N.Nodup) (hy : X.N[i]? = some y) (hyl : X.env.scope.names.lookup y = some .local) (hsw : swapsWith (.ListComp elt [⟨tg, iter, ifs, 0⟩, ⟨tg1, iter1, ifs1, 0⟩] scope pos) (some (.Name y py)) spos.line X.env = pure true) (hi : XI X cm tg iter fi) (ok : BlkOk X.N X.env.scope scope own) (hvs : own.map (·.2) = vs) (hv : ∀ i ∈ t.vs, i ∈ vs) (hv1 : ∀ i ∈ t1.vs, i ∈ vs1) (hvv : ∀ i ∈ vs1, i ∈ vs)
    (hg : ∀ (s : Shared) (H : Hp) (C : Addr) (cl : List (Str × Addr)) (fp : List Addr), PG (X.blk s H scope (compEnvC scope cl C X.env) fp) tg (gT X.K t)) (ht : ∀ (s : Shared) (H : Hp) (C : Addr) (cl : List (Str × Addr)) (fp : List Addr), PTs (X.blk s H scope (compEnvC scope cl C X.env) fp) ifs (tT X.K cm ft))
    (hi1 : ∀ (s : Shared) (H : Hp) (C : Addr) (cl : List (Str × Addr)) (fp : List Addr), PI (X.blk s H scope (compEnvC scope cl C X.env) fp) tg1 iter1 (tI X.K cm fi1))
    (hg1 : ∀ (s : Shared) (H : Hp) (C : Addr) (cl : List (Str × Addr)) (fp : List Addr), PG (X.blk s H scope (compEnvC scope cl C X.env) fp) tg1 (gT X.K t1)) (ht1 : ∀ (s : Shared) (H : Hp) (C : Addr) (cl : List (Str × Addr)) (fp : List Addr), PTs (X.blk s H scope (compEnvC scope cl C X.env) fp) ifs1 (tT X.K cm ft1))
    (he : ∀ (s : Shared) (H : Hp) (C : Addr) (cl : List (Str × Addr)) (fp : List Addr), PE (X.blk s H scope (compEnvC scope cl C X.env) fp) elt (tE X.K cm fe)) (hs : ∀ x, foldedSetIterable iter X.env x = pure x := by intro _; rfl) (hs1 : ∀ env x, foldedSetIterable iter1 env x = pure x := by intro _ _; rfl) :
    XS X cm (.Assign [.Name y py] (.ListComp elt [⟨tg, iter, ifs, 0⟩, ⟨tg1, iter1, ifs1, 0⟩] scope pos) spos) (sAsg (toF (iLcG fi vs (comp2 t ft fi1 t1 vs1 ft1 fe))) (gNm i)) :=
  by subst hvs; exact ps_weak (ps_setLc2 hc hN hy hyl hsw hi ok hvv hg ht hi1 hg1 ht1 he hs hs1) fun D σ H h => tlc2_of hv hv1 finF finF2 (asg_of h)
theorem xe_lc2C (hc : X.calm = true) (hN : X.N.Nodup) (hi : XI X cm tg iter fi) (ok : BlkOk X.N X.env.scope scope own) (hvs : own.map (·.2) = vs) (hv : ∀ i ∈ t.vs, i ∈ vs) (hv1 : ∀ i ∈ t1.vs, i ∈ vs1) (hvv : ∀ i ∈ vs1, i ∈ vs)
    (hg : ∀ (s : Shared) (H : Hp) (C : Addr) (cl : List (Str × Addr)) (fp : List Addr), PG (X.blk s H scope (compEnvC scope cl C X.env) fp) tg (gT X.K t)) (ht : ∀ (s : Shared) (H : Hp) (C : Addr) (cl : List (Str × Addr)) (fp : List Addr), PTs (X.blk s H scope (compEnvC scope cl C X.env) fp) ifs (tT X.K cm ft))
    (hi1 : ∀ (s : Shared) (H : Hp) (C : Addr) (cl : List (Str × Addr)) (fp : List Addr), PI (X.blk s H scope (compEnvC scope cl C X.env) fp) tg1 iter1 (tI X.K cm fi1))
    (hg1 : ∀ (s : Shared) (H : Hp) (C : Addr) (cl : List (Str × Addr)) (fp : List Addr), PG (X.blk s H scope (compEnvC scope cl C X.env) fp) tg1 (gT X.K t1)) (ht1 : ∀ (s : Shared) (H : Hp) (C : Addr) (cl : List (Str × Addr)) (fp : List Addr), PTs (X.blk s H scope (compEnvC scope cl C X.env) fp) ifs1 (tT X.K cm ft1))
    (he : ∀ (s : Shared) (H : Hp) (C : Addr) (cl : List (Str × Addr)) (fp : List Addr), PE (X.blk s H scope (compEnvC scope cl C X.env) fp) elt (tE X.K cm fe)) (hs : ∀ x, foldedSetIterable iter X.env x = pure x := by intro _; rfl) (hs1 : ∀ env x, foldedSetIterable iter1 env x = pure x := by intro _ _; rfl) :
    XE X cm (.ListComp elt [⟨tg, iter, ifs, 0⟩, ⟨tg1, iter1, ifs1, 0⟩] scope pos) (toC (iLcG fi vs (comp2 t ft fi1 t1 vs1 ft1 fe))) :=
  by subst hvs; exact pe_weak (pe_lc2 hc hN hi ok hvv hg ht hi1 hg1 ht1 he hs hs1) fun _ _ _ h => tlc2_of hv hv1 finC finC2 h
theorem xs_setLc2C (i : Nat) {y : Str} {py spos : Pos} (hc : X.calm = true) (hN : X.N.Nodup) (hy : X.N[i]? = some y) (hyl : X.env.scope.names.lookup y = some .local) (hsw : swapsWith (.ListComp elt [⟨tg, iter, ifs, 0⟩, ⟨tg1, iter1, ifs1, 0⟩] scope pos) (some (.Name y py)) spos.line X.env = pure true) (hi : XI X cm tg iter fi) (ok : BlkOk X.N X.env.scope scope own) (hvs : own.map (·.2) = vs) (hv : ∀ i ∈ t.vs, i ∈ vs) (hv1 : ∀ i ∈ t1.vs, i ∈ vs1) (hvv : ∀ i ∈ vs1, i ∈ vs)
    (hg : ∀ (s : Shared) (H : Hp) (C : Addr) (cl : List (Str × Addr)) (fp : List Addr), PG (X.blk s H scope (compEnvC scope cl C X.env) fp) tg (gT X.K t)) (ht : ∀ (s : Shared) (H : Hp) (C : Addr) (cl : List (Str × Addr)) (fp : List Addr), PTs (X.blk s H scope (compEnvC scope cl C X.env) fp) ifs (tT X.K cm ft))
    (hi1 : ∀ (s : Shared) (H : Hp) (C : Addr) (cl : List (Str × Addr)) (fp : List Addr), PI (X.blk s H scope (compEnvC scope cl C X.env) fp) tg1 iter1 (tI X.K cm fi1))
    (hg1 : ∀ (s : Shared) (H : Hp) (C : Addr) (cl : List (Str × Addr)) (fp : List Addr), PG (X.blk s H scope (compEnvC scope cl C X.env) fp) tg1 (gT X.K t1)) (ht1 : ∀ (s : Shared) (H : Hp) (C : Addr) (cl : List (Str × Addr)) (fp : List Addr), PTs (X.blk s H scope (compEnvC scope cl C X.env) fp) ifs1 (tT X.K cm ft1))
    (he : ∀ (s : Shared) (H : Hp) (C : Addr) (cl : List (Str × Addr)) (fp : List Addr), PE (X.blk s H scope (compEnvC scope cl C X.env) fp) elt (tE X.K cm fe)) (hs : ∀ x, foldedSetIterable iter X.env x = pure x := by intro _; rfl) (hs1 : ∀ env x, foldedSetIterable iter1 env x = pure x := by intro _ _; rfl) :
    XS X cm (.Assign [.Name y py] (.ListComp elt [⟨tg, iter, ifs, 0⟩, ⟨tg1, iter1, ifs1, 0⟩] scope pos) spos) (sAsg (toC (iLcG fi vs (comp2 t ft fi1 t1 vs1 ft1 fe))) (gNm i)) :=
  by subst hvs; exact ps_weak (ps_setLc2 hc hN hy hyl hsw hi ok hvv hg ht hi1 hg1 ht1 he hs hs1) fun D σ H h => tlc2_of hv hv1 finC finC2 (asg_of h)
end
end Y
namespace Y
open PySem PySem.Spec PyProof.Rows L2
/-! ### a list's cell is frozen -/
@[simp] def iFrz (f : IE) : IE := fun ε S => (f ε S).bind fun a => match a.1 with
  | .obj i => match a.2[i]? with
    | some (.lst xs) => (allD xs).map fun ds => (.dat (.list ds), a.2.set i .gone)
    | _ => none
  | x => some (x, a.2)
section
variable {X : Cx} {cm : Nat → Addr} {pos : Pos} {e : Expr} {f : IE}
theorem xe_frz (he : XE X cm e f) : XE X cm e (iFrz f) := pe_weak he fun σ H Q ⟨g, ε, x, S', e, k, env, h, q⟩ => by
  subst e
  obtain ⟨⟨x1, S1⟩, e1, h⟩ := bind_some h
  refine ⟨g, ε, x1, S1, rfl, k, env, e1, fun g1 v1 k1 s1 st1 r1 => ?_⟩
  subst s1
  cases x1 with
  | dat d =>
    cases h
    exact q g1 v1 k1 rfl st1 r1
  | scr ns =>
    cases h
    exact q g1 v1 k1 rfl st1 r1
  | obj i =>
    obtain ⟨hi, rfl⟩ := r1
    have h' : (match g1.S[i]? with
      | some (.lst xs) => (allD xs).map fun ds => (Vl.dat (.list ds), g1.S.set i .gone)
      | _ => none) = some (x, S') := h
    cases e : g1.S[i]? with
    | none => rw [e] at h'; cases h'
    | some c =>
      rw [e] at h'
      cases c with
      | lst xs =>
        obtain ⟨ds, e2, h'⟩ := map_some' h'
        cases h'
        obtain ⟨vs, h1, h2⟩ := cell_lst k1 e
        obtain ⟨k2, st2⟩ := k1.fre_ok e h1
        exact q (g1.fre i (.lst vs)) _ k2 rfl (st1.trans k1 st2) (Dq.lst upd_same ((allD_ok h2 e2).mono st2.hf))
      | dct _ => cases h'
      | ins _ _ => cases h'
      | gone => cases h'
/-! ### constants of the module -/
def Cst (K : PySem.W.Frag) (mg : Str → Option Value) (x : Str) (d : PyData) : Prop := ∃ u v, mg x = some u ∧ RelV v u ∧ ∀ H : Hp, Dq K H v d
theorem xe_cst {x : Str} {d : PyData} (h : Cst X.K X.mg x d) (hg : Gl X x) (hd : (x == ("__debug__" : Str)) = false := by decide) : XE X cm (.Name x pos) (iC d) :=
  let ⟨_, _, h1, h2, h3⟩ := h
  xe_of_c (pe_glob hg h1 h2 hd) h3
theorem dq_flat {K : PySem.W.Frag} {H : Hp} : ∀ {vs : List V} {ds : List PyData}, Paired (fun v d => ∀ H : Hp, Dq K H v d) vs ds → DqAll K H vs ds
  | _, _, .nil => .nil
  | _, _, .cons h q => .cons (h _) (dq_flat q)
theorem cst_tup {K : PySem.W.Frag} {h : Heap} {mg : Str → Option Value} {x : Str} {a : Addr} {o : Obj} {its : List Value} {n : Nat} {vs : List V} {ds : List PyData} (KX : K.In h) (G : h.Ns mainGlobals mg) (h1 : PySem.W.nsIn K mainGlobals x = some (some (.ref a))) (h2 : K.lookup a = some o) (hc : o.cls = .type "tuple") (hd : o.data = .seq its.toArray n)
    (hl : its.length ≤ 1000) (hv : Vals vs its) (hr : Paired (fun v d => ∀ H : Hp, Dq K H v d) vs ds) : Cst K mg x (.tuple ds) :=
  ⟨_, .ref a, PySem.W.mg_of KX G h1, rfl, fun H => .tup (.inr ⟨o, its.toArray, n, h2, hc, hd, by simpa using le_line hl, by simpa using hv⟩) (dq_flat hr)⟩
theorem cst_str {K : PySem.W.Frag} {h : Heap} {mg : Str → Option Value} {x z : Str} {t : Tok} (KX : K.In h) (G : h.Ns mainGlobals mg) (h1 : PySem.W.nsIn K mainGlobals x = some (some (.str z t))) : Cst K mg x (.str z) :=
  ⟨_, .str z, PySem.W.mg_of KX G h1, ⟨t, rfl⟩, fun H => .str z⟩
/-! ### a, b = x, y -/
@[simp] def sPar (i j : Nat) (f : IA) : IS := fun ε S => (f ε S).bind fun a => match a.1 with
  | [x, y] => some (.nx ((ε.set i (some x)).set j (some y)), a.2)
  | _ => none
theorem xs_par (i j : Nat) {x y : Str} {a b : Expr} {fa : IA} {px py pt : Pos} {kt k2 pt2} (hc : X.calm = true) (hN : X.N.Nodup) (hi : X.N[i]? = some x) (hj : X.N[j]? = some y) (hij : i ≠ j)
    (hx : X.env.scope.names.lookup x = some .local) (hy : X.env.scope.names.lookup y = some .local) (ha : XA X cm [a, b] fa)
    (hw : swappedStores [.Tuple [.Name x px, .Name y py] kt pt] (.Tuple [a, b] k2 pt2) X.env = pure (some [x, y]))
    (hs : swapsWithSole [.Tuple [.Name x px, .Name y py] kt pt] (.Tuple [a, b] k2 pt2) pos.line X.env = pure false := by rfl) :
    XS X cm (.Assign [.Tuple [.Name x px, .Name y py] kt pt] (.Tuple [a, b] k2 pt2) pos) (sPar i j fa) :=
  ps_weak (ps_par hc hN hi hj hij hx hy ha.run hw hs) fun D σ H ⟨g0, ε, x, S', e, k, env, h, q⟩ => by
    subst e
    obtain ⟨⟨x1, S1⟩, e1, h⟩ := bind_some h
    refine ⟨g0, ε, x1, S1, rfl, k, env, e1, fun g1 v1 k1 s1 st1 r1 => ?_⟩
    match x1, h, r1 with
    | [x, y], h, .cons r1 (.cons r2 .nil) =>
      cases h
      exact ⟨_, _, rfl, q g1 k1 s1 st1 _ (((env.mono st1).set r1 i).set r2 j)⟩
/-! ### o[i] = v -/
@[simp] def gIx (fo fi : IE) : IG := fun x ε S => (fo ε S).bind fun a => (fi ε a.2).bind fun b => match a.1, b.1 with
  | .obj j, .dat (.int n) => match b.2[j]? with
    | some (.lst xs) => (ixN xs.length n).map fun p => (ε, b.2.set j (.lst (xs.set p x)))
    | _ => none
  | _, _ => none
theorem xg_sub {o i : Expr} {fo fi : IE} (ho : XE X cm o fo) (hi : XE X cm i fi) (ha : ∀ v, assign (.Subscript o i pos) X.env v = (do
      let ov ← holding [v] (eval o X.env)
      let iv ← holding [v, ov] (eval i X.env)
      standAt pos
      holding [v, ov, iv] (setItem ov iv v)
      release [v, ov, iv] []) := by intro _; rfl) : XG X cm (.Subscript o i pos) (gIx fo fi) :=
  pg_weak (pg_sub ho hi set_list ha) fun v σ H Q ⟨g0, ε, x, ε', S', e, k, env, rr, h, q⟩ => by
    subst e
    obtain ⟨⟨x1, S1⟩, e1, h⟩ := bind_some h
    obtain ⟨⟨x2, S2⟩, e2, h⟩ := bind_some h
    refine ⟨g0, ε, x1, S1, rfl, k, env, e1, fun g1 v1 k1 s1 st1 r1 => ?_⟩
    subst s1
    refine ⟨g1, ε, x2, S2, rfl, k1, env.mono st1, e2, fun g2 v2 k2 s2 st2 r2 => ?_⟩
    subst s2
    match x1, x2, h, r1, r2 with
    | .obj j, .dat (.int n), h, ⟨hj, ej⟩, .int _ =>
      subst ej
      have h' : (match g2.S[j]? with
        | some (.lst xs) => (ixN xs.length n).map fun p => (ε, g2.S.set j (.lst (xs.set p x)))
        | _ => none) = some (ε', S') := h
      cases e : g2.S[j]? with
      | none => rw [e] at h'; cases h'
      | some c =>
        rw [e] at h'
        cases c with
        | lst xs =>
          obtain ⟨p, e3, h'⟩ := map_some' h'
          cases h'
          obtain ⟨us, h1, h2⟩ := cell_lst k2 e
          have rx : RV X.K g2 x v := (rr.mono st1).mono st2
          obtain ⟨k3, st3⟩ := cell_wr k2 e (RVs.set rx p h2)
          refine ⟨g1.m j, us, n, p, rfl, rfl, by rw [← st2.mm j hj]; exact h1, by rw [← h2.length]; exact e3, ?_⟩
          rw [← st2.mm j hj]
          exact q _ σ k3 rfl ((st1.trans k1 st2).trans k2 st3) (((env.mono st1).mono st2).mono st3)
        | dct _ => cases h'
        | ins _ _ => cases h'
        | gone => cases h'
/-! ### methods of lists -/
theorem xe_ml {id : String} {name : Str} {r : V → List V → Hp → VK → Prop} {sem : SemM} {o : Expr} {a : Expr} {as : List Expr} {fo : IE} {fa : IA} {apos cpos : Pos} (slot : Slot "list" name id) (hty : typeOf (.builtin id) = pure (.type "method_descriptor")) (hm : MtR X id r) (hs : MtS' X.K cm "list" r sem) (ho : XE X cm o fo) (ha : XA X cm (a :: as) fa)
    (hbase : attributeBase o name X.env (eval o X.env) = eval o X.env := by rfl)
    (hfew : ((backTo cpos (starEach (a :: as) X.env)).all (fun x => !x.1) && (backToKw cpos (keywordEach [] X.env)).all (fun x => x.1.isSome)
      && decide ((a :: as).length + ([] : List Keyword).length + (if ([] : List Keyword).isEmpty then 0 else 1) < 30)) = true := by rfl)
    (hline : (apos.endLine == cpos.line) = true := by rfl) (hst : starEach (a :: as) X.env = (false, eval a X.env) :: starEach as X.env := by rfl) (hplain : (backTo cpos (starEach as X.env)).any (·.1) = false := by rfl) :
    XE X cm (.Call (.Attribute o name apos) (a :: as) [] cpos) (iML sem fo fa) :=
  pe_weak (pe_bm PySem.F.plainAttrs_list slot hty hm ho ha.run hbase hfew hline hst hplain) fun _ _ _ h => tbm_of hs h
theorem xe_ml0 {id : String} {name : Str} {r : V → List V → Hp → VK → Prop} {sem : SemM} {o : Expr} {fo : IE} {apos cpos : Pos} (slot : Slot "list" name id) (hty : typeOf (.builtin id) = pure (.type "method_descriptor")) (hm : MtR X id r) (hs : MtS' X.K cm "list" r sem) (ho : XE X cm o fo)
    (hbase : attributeBase o name X.env (eval o X.env) = eval o X.env := by rfl) (hline : (apos.endLine == cpos.line) = true := by rfl) : XE X cm (.Call (.Attribute o name apos) [] [] cpos) (iML sem fo iNil) :=
  pe_weak (pe_bm0 PySem.F.plainAttrs_list slot hty hm ho hbase hline) fun _ _ _ h => tbm0_of hs h
/-! ### texts: for, enumerate, zip, ord, split, join -/
@[simp] def iStrIt (f : IE) : IA := fun ε S => (f ε S).bind fun a => match a.1 with
  | .dat (.str z) => some (z.cps.toList.map fun c => .dat (.str ⟨#[c]⟩), a.2)
  | _ => none
theorem xi_str {tg : Expr} (he : XE X cm e f) : XI X cm tg e (iStrIt f) := pi_weak (pi_str he) fun σ H R ⟨g, ε, x, S', e, k, env, h, q⟩ => by
  subst e
  obtain ⟨⟨x1, S1⟩, e1, h⟩ := bind_some h
  refine ⟨g, ε, x1, S1, rfl, k, env, e1, fun g1 v1 k1 s1 st1 r1 => ?_⟩
  match x1, h, r1 with
  | .dat (.str z), h, .str _ =>
    cases h
    refine ⟨z, rfl, q g1 _ k1 s1 st1 ⟨fun g2 i x w k2 hx => ?_, fun g2 w k2 => ?_⟩⟩
    · rw [List.getElem?_map] at hx
      obtain ⟨c, e3, rfl⟩ := map_some' hx
      have hc : z.cps[i]? = some c := by rw [← e3]; simp
      refine ⟨(Array.getElem?_eq_some_iff.mp hc).1, fun v H' y => ?_⟩
      obtain ⟨rfl, c', e4, rfl⟩ := y
      rw [hc] at e4
      cases e4
      exact ⟨g2, rfl, k2, rfl, Stp.refl g2, .str _⟩
    · show z.cps.size ≤ _
      rw [List.length_map]
      simp
/-- i, x of each item -/
def numb : Nat → List PyData → List Vl
  | _, [] => []
  | n, d :: r => .dat (.tuple [.int n, d]) :: numb (n + 1) r
theorem numb_get : ∀ {ds : List PyData} {n i : Nat} {x : Vl}, (numb n ds)[i]? = some x → ∃ d, ds[i]? = some d ∧ x = .dat (.tuple [.int ((n + i : Nat) : Int), d])
  | [], _, _, _, h => by cases h
  | d :: r, n, 0, x, h => by
    cases h
    exact ⟨d, rfl, rfl⟩
  | d :: r, n, i + 1, x, h => by
    obtain ⟨d', h1, h2⟩ := numb_get (ds := r) (n := n + 1) (i := i) h
    exact ⟨d', h1, by rw [h2]; congr 4; omega⟩
theorem numb_length : ∀ (ds : List PyData) (n : Nat), (numb n ds).length = ds.length
  | [], _ => rfl
  | d :: r, n => by
    show (numb (n + 1) r).length + 1 = _
    rw [numb_length r]
    rfl
@[simp] def iEnu (f : IE) : IA := fun ε S => (f ε S).bind fun a => match a.1 with
  | .dat (.list ds) => some (numb 0 ds, a.2)
  | _ => none
theorem xi_enum {elts : List Expr} {kk : Nat} {p tpos : Pos} (hg : Gl X "enumerate") (hm : X.mg "enumerate" = none) (he : XE X cm e f) (hs : starEach [e] X.env = [(false, eval e X.env)] := by rfl) : XI X cm (.Tuple elts kk tpos) (.Call (.Name "enumerate" p) [e] [] pos) (iEnu f) :=
  pi_weak (pi_enum hg hm (pa_cons he pa_nil hs) hs) fun σ H R ⟨g, ε, x, S', e, k, env, h, q⟩ => by
    subst e
    obtain ⟨⟨x1, S1⟩, e1, h⟩ := bind_some h
    refine ⟨g, ε, x1, S1, rfl, k, env, e1, fun g1 v1 k1 s1 st1 r1 => ?_⟩
    match x1, h, r1 with
    | .dat (.list ds), h, .lst (a := a) (xs := us) h1 h2 =>
      cases h
      refine ⟨a, us, rfl, SqL.of (k1.frz _ _ h1), q g1 _ k1 s1 st1 ⟨fun g2 i x w k2 hx => ?_, fun g2 w k2 => ?_⟩⟩
      · obtain ⟨d, e3, rfl⟩ := numb_get hx
        obtain ⟨v, e4, r4⟩ := h2.get e3
        have hq : SqL X.K g2.H a us := SqL.of (k2.frz _ _ (w.hf _ _ h1))
        refine ⟨⟨us, v, hq, e4⟩, fun v' H' y => ?_⟩
        obtain ⟨T, y1, rfl, hT, rfl, hy⟩ := y
        have ey := hy us hq
        rw [e4] at ey
        cases ey
        refine ⟨g2.frz T _, rfl, k2.frz_ok hT, rfl, k2.frz_stp hT, Dq.tup (.inl (.inl upd_same)) (.cons ?_ (.cons ((Dq.mono w.hf r4).mono (k2.frz_stp hT).hf) .nil))⟩
        rw [Nat.zero_add]
        exact .int _
      · exact ⟨us, SqL.of (k2.frz _ _ (w.hf _ _ h1)), by rw [numb_length, h2.length]; exact Nat.le_refl _⟩
def zipD : List PyData → List PyData → List Vl
  | d :: r, e :: s => .dat (.tuple [d, e]) :: zipD r s
  | _, _ => []
theorem zipD_get : ∀ {ds es : List PyData} {i : Nat} {x : Vl}, (zipD ds es)[i]? = some x → ∃ d e, ds[i]? = some d ∧ es[i]? = some e ∧ x = .dat (.tuple [d, e])
  | d :: r, e :: s, 0, x, h => by
    cases h
    exact ⟨d, e, rfl, rfl, rfl⟩
  | d :: r, e :: s, i + 1, x, h => by
    obtain ⟨d', e', h1, h2, h3⟩ := zipD_get (ds := r) (es := s) (i := i) h
    exact ⟨d', e', h1, h2, h3⟩
  | [], _, _, _, h => by cases h
  | _ :: _, [], _, _, h => by cases h
theorem zipD_length : ∀ (ds es : List PyData), ds.length ≤ (zipD ds es).length ∨ es.length ≤ (zipD ds es).length
  | [], _ => .inl (Nat.zero_le _)
  | _ :: _, [] => .inr (Nat.zero_le _)
  | d :: r, e :: s => by
    show _ ≤ (zipD r s).length + 1 ∨ _ ≤ (zipD r s).length + 1
    rcases zipD_length r s with h | h
    · exact .inl (Nat.succ_le_succ h)
    · exact .inr (Nat.succ_le_succ h)
@[simp] def iZp (f : IA) : IA := fun ε S => (f ε S).bind fun a => match a.1 with
  | [.dat (.list ds), .dat (.list es)] => some (zipD ds es, a.2)
  | _ => none
theorem xi_zip {elts : List Expr} {kk : Nat} {p tpos : Pos} {e1 e2 : Expr} {fa : IA} (hg : Gl X "zip") (hm : X.mg "zip" = none) (ha : XA X cm [e1, e2] fa) (hs : starEach [e1, e2] X.env = (false, eval e1 X.env) :: starEach [e2] X.env := by rfl) (hpl : (backTo pos (starEach [e2] X.env)).any (·.1) = false := by rfl) :
    XI X cm (.Tuple elts kk tpos) (.Call (.Name "zip" p) [e1, e2] [] pos) (iZp fa) :=
  pi_weak (pi_zip hg hm ha.run hs hpl) fun σ H R ⟨g, ε, x, S', e, k, env, h, q⟩ => by
    subst e
    obtain ⟨⟨x1, S1⟩, e1, h⟩ := bind_some h
    refine ⟨g, ε, x1, S1, rfl, k, env, e1, fun g1 v1 k1 s1 st1 r1 => ?_⟩
    match x1, h with
    | [.dat (.list ds), .dat (.list es)], h =>
      cases h
      cases r1 with
      | cons q1 q2 =>
      cases q2 with
      | cons q2 q3 =>
      cases q3
      rename_i va vb
      obtain ⟨a, us, rfl, h1, h2⟩ : ∃ a us, va = .ref a ∧ g1.Hf a = some (.lst us) ∧ DqAll X.K g1.Hf us ds := by
        cases (show Dq X.K g1.Hf va (.list ds) from q1) with
        | lst h1 h2 => exact ⟨_, _, rfl, h1, h2⟩
      obtain ⟨b, ws, rfl, h3, h4⟩ : ∃ a us, vb = .ref a ∧ g1.Hf a = some (.lst us) ∧ DqAll X.K g1.Hf us es := by
        cases (show Dq X.K g1.Hf vb (.list es) from q2) with
        | lst h1 h2 => exact ⟨_, _, rfl, h1, h2⟩
      refine ⟨a, b, us, ws, rfl, SqL.of (k1.frz _ _ h1), SqL.of (k1.frz _ _ h3), q g1 _ k1 s1 st1 ⟨fun g2 i x w k2 hx => ?_, fun g2 w k2 => ?_⟩⟩
      · obtain ⟨d, e', e3, e5, rfl⟩ := zipD_get hx
        obtain ⟨v, e4, r4⟩ := h2.get e3
        obtain ⟨v2, e6, r6⟩ := h4.get e5
        have hq : SqL X.K g2.H a us := SqL.of (k2.frz _ _ (w.hf _ _ h1))
        have hq2 : SqL X.K g2.H b ws := SqL.of (k2.frz _ _ (w.hf _ _ h3))
        refine ⟨⟨us, ws, v, v2, hq, hq2, e4, e6⟩, fun v' H' y => ?_⟩
        obtain ⟨T, y1, y2, rfl, hT, rfl, hy, hy2⟩ := y
        have ey := hy us hq
        rw [e4] at ey
        cases ey
        have ey2 := hy2 ws hq2
        rw [e6] at ey2
        cases ey2
        exact ⟨g2.frz T _, rfl, k2.frz_ok hT, rfl, k2.frz_stp hT, Dq.tup (.inl (.inl upd_same)) (.cons ((Dq.mono w.hf r4).mono (k2.frz_stp hT).hf) (.cons ((Dq.mono w.hf r6).mono (k2.frz_stp hT).hf) .nil))⟩
      · refine ⟨us, ws, SqL.of (k2.frz _ _ (w.hf _ _ h1)), SqL.of (k2.frz _ _ (w.hf _ _ h3)), ?_⟩
        rw [h2.length, h4.length]
        exact zipD_length ds es
end
section
variable {K : PySem.W.Frag} {cm : Nat → Addr}
@[simp] def semOrd : SemN := fun S xs => match xs with
  | [.dat (.str z)] => if z.length = 1 then some (.dat (.int (z.cps.getD 0 0 : Nat)), S) else none
  | _ => none
def rOrd : List V → Hp → VK → Prop := fun xs H Q => ∃ x : Str, xs = [.str x] ∧ x.length = 1 ∧ Q (.int (x.cps.getD 0 0 : Nat)) H
theorem s_ord : CallS K cm rOrd semOrd := by
  intro g xs z vs S' Q k r h q
  unfold semOrd at h
  split at h
  · rename_i zz
    cases r with
    | cons r1 r2 =>
      cases r2
      cases (show Dq K g.Hf _ (.str zz) from r1)
      split at h
      · rename_i hl
        cases h
        exact ⟨zz, rfl, hl, rv_fin k q rfl (.int _)⟩
      · cases h
  · cases h
@[simp] def iMS (sem : SemM) (f : IE) (fa : IA) : IE := fun ε S => (f ε S).bind fun a => match a.1 with
  | .dat (.str z) => (fa ε a.2).bind fun b => sem b.2 (.dat (.str z)) b.1
  | _ => none
@[simp] def semSplit : SemM := fun S x xs => match x, xs with
  | .dat (.str a), [.dat (.str b)] => if (b.length == 0) = false ∧ a.length ≤ 100000 then some (.dat (.list ((Txt.split a b).map .str)), S) else none
  | _, _ => none
def strsOf : List PyData → Option (List Str)
  | [] => some []
  | .str x :: r => (strsOf r).map (x :: ·)
  | _ :: _ => none
@[simp] def semJoin : SemM := fun S x xs => match x, xs with
  | .dat (.str a), [y] => (lOf S y).bind fun ys => (allD ys).bind fun ds => (strsOf ds).bind fun zs => if (zs.map (·.length)).sum + zs.length * a.length ≤ 16777216 then some (.dat (.str (Txt.join a zs)), S) else none
  | _, _ => none
theorem dq_strs {H : Hp} : ∀ xs : List Str, DqAll K H (xs.map V.str) (xs.map PyData.str)
  | [] => .nil
  | x :: r => .cons (.str x) (dq_strs r)
theorem strsOf_ok {H : Hp} : ∀ {ds : List PyData} {vs : List V} {zs : List Str}, DqAll K H vs ds → strsOf ds = some zs → vs = zs.map V.str
  | _, _, _, .nil, h => by
    cases h
    rfl
  | _, _, _, .cons h1 h2, h => by
    cases h1 with
    | str x =>
      obtain ⟨zs, e, rfl⟩ := map_some' h
      rw [strsOf_ok h2 e]
      rfl
    | non => cases h
    | bl => cases h
    | int => cases h
    | lst => cases h
    | tup => cases h
def rSplit : V → List V → Hp → VK → Prop := fun x xs H Q => ∃ a b, x = .str a ∧ xs = [.str b] ∧ (b.length == 0) = false ∧ a.length + 2 ≤ sizeLine ∧ rNewStrs (Txt.split a b) H Q
def rJoin (K : PySem.W.Frag) : V → List V → Hp → VK → Prop := fun x xs H Q => ∃ a p, ∃ ys : List Str, x = .str a ∧ xs = [.ref p] ∧ (SqL K H p (ys.map V.str) ∨ SqT K H p (ys.map V.str)) ∧ (ys.map (·.length)).sum + ys.length * a.length ≤ 16777216 ∧ Q (.str (Txt.join a ys)) H
theorem s_split : MtS' K cm "str" rSplit semSplit := by
  intro g x z xs v vs S' Q k hx hxs h q
  unfold semSplit at h
  split at h
  · rename_i a b
    cases (show Dq K g.Hf v (.str a) from hx)
    cases hxs with
    | cons r1 r2 =>
      cases r2
      cases (show Dq K g.Hf _ (.str b) from r1)
      split at h
      · rename_i hl
        cases h
        refine ⟨a, b, rfl, rfl, hl.1, Nat.le_trans (Nat.add_le_add_right hl.2 2) (by rw [sizeLine_eq]; decide), fun p hp => ?_⟩
        exact q (g.frz p _) _ (k.frz_ok hp) rfl (k.frz_stp hp) (Dq.lst upd_same (dq_strs _))
      · cases h
  · cases h
theorem s_join : MtS' K cm "str" (rJoin K) semJoin := by
  intro g x z xs v vs S' Q k hx hxs h q
  unfold semJoin at h
  split at h
  · rename_i a y
    cases (show Dq K g.Hf v (.str a) from hx)
    cases hxs with
    | cons r1 r2 =>
      cases r2
      obtain ⟨ys, e1, h⟩ := bind_some h
      obtain ⟨ds, e2, h⟩ := bind_some h
      obtain ⟨zs, e3, h⟩ := bind_some h
      split at h
      · rename_i hl
        cases h
        obtain ⟨p, us, rfl, hs, rr⟩ := lOf_ok k r1 e1
        have eu := strsOf_ok (allD_ok rr e2) e3
        subst eu
        exact ⟨a, p, zs, rfl, rfl, hs, hl, rv_fin k q rfl (.str _)⟩
      · cases h
  · cases h
end
section
variable {X : Cx} {cm : Nat → Addr} {pos : Pos} {e : Expr} {f : IE}
theorem tbms_of {r : V → List V → Hp → VK → Prop} {sem : SemM} {f : IE} {fa : IA} (hs : MtS' X.K cm "str" r sem) {σ : L2.St} {H : Hp} {Q : VK} (h : tE X.K cm (iMS sem f fa) σ H Q) : tBM X.K "str" r (tE X.K cm f) (tA X.K cm fa) σ H Q := by
  obtain ⟨g, ε, x, S', e, k, env, h, q⟩ := h
  subst e
  obtain ⟨⟨x1, S1⟩, e1, h⟩ := bind_some h
  refine ⟨g, ε, x1, S1, rfl, k, env, e1, fun g1 v1 k1 s1 st1 r1 => ?_⟩
  subst s1
  match x1, h, r1 with
  | .dat (.str z), h, .str _ =>
    obtain ⟨⟨x2, S2⟩, e2, h⟩ := bind_some h
    refine ⟨rfl, g1, ε, x2, S2, rfl, k1, env.mono st1, e2, fun g2 v2 k2 s2 st2 r2 => ?_⟩
    subst s2
    exact hs g2 (.dat (.str z)) x x2 (.str z) v2 S' Q k2 (.str z) r2 h fun g' u k' s' st' r' => q g' u k' s' ((st1.trans k1 st2).trans k2 st') r'
theorem xe_ms {id : String} {name : Str} {r : V → List V → Hp → VK → Prop} {sem : SemM} {o : Expr} {a : Expr} {as : List Expr} {fo : IE} {fa : IA} {apos cpos : Pos} (slot : Slot "str" name id) (hty : typeOf (.builtin id) = pure (.type "method_descriptor")) (hm : MtR X id r) (hs : MtS' X.K cm "str" r sem) (ho : XE X cm o fo) (ha : XA X cm (a :: as) fa)
    (hbase : attributeBase o name X.env (eval o X.env) = eval o X.env := by rfl)
    (hfew : ((backTo cpos (starEach (a :: as) X.env)).all (fun x => !x.1) && (backToKw cpos (keywordEach [] X.env)).all (fun x => x.1.isSome)
      && decide ((a :: as).length + ([] : List Keyword).length + (if ([] : List Keyword).isEmpty then 0 else 1) < 30)) = true := by rfl)
    (hline : (apos.endLine == cpos.line) = true := by rfl) (hst : starEach (a :: as) X.env = (false, eval a X.env) :: starEach as X.env := by rfl) (hplain : (backTo cpos (starEach as X.env)).any (·.1) = false := by rfl) :
    XE X cm (.Call (.Attribute o name apos) (a :: as) [] cpos) (iMS sem fo fa) :=
  pe_weak (pe_bm PySem.F.plainAttrs_str slot hty hm ho ha.run hbase hfew hline hst hplain) fun _ _ _ h => tbms_of hs h
/-! ### list.index -/
@[simp] def fndIx (d : PyData) : Nat → List PyData → Option Nat
  | _, [] => none
  | n, z :: r => if PyData.eqv z d = true then some n else fndIx d (n + 1) r
theorem fndIx_ok {d : PyData} : ∀ {ds : List PyData} {n j : Nat}, fndIx d n ds = some j → n ≤ j ∧ (∃ z, ds[j - n]? = some z ∧ PyData.eqv z d = true) ∧ ∀ m z', m < j - n → ds[m]? = some z' → PyData.eqv z' d = false
  | [], _, _, h => by cases h
  | z :: r, n, j, h => by
    unfold fndIx at h
    split at h
    · rename_i hz
      cases h
      exact ⟨Nat.le_refl _, ⟨z, by simp, hz⟩, fun m z' hm => absurd hm (by omega)⟩
    · rename_i hz
      obtain ⟨h1, ⟨z1, h2, h3⟩, h4⟩ := fndIx_ok h
      refine ⟨by omega, ⟨z1, ?_, h3⟩, fun m z' hm hz' => ?_⟩
      · rw [show j - n = (j - (n + 1)) + 1 by omega]
        simpa using h2
      · cases m with
        | zero =>
          simp at hz'
          subst hz'
          simpa using hz
        | succ m => exact h4 m z' (by omega) (by simpa using hz')
@[simp] def semIndex : SemM := fun S x xs => match xs with
  | [y] => (dOf S x).bind fun l => (dOf S y).bind fun d => match l with
    | .list ds => if SeqAt.shaped (.list ds) = true ∧ SeqAt.shaped d = true then (fndIx d 0 ds).map fun (j : Nat) => (.dat (.int (j : Int)), S) else none
    | _ => none
  | _ => none
theorem s_index {K : PySem.W.Frag} : MtS' K cm "list" (rIndexD K) semIndex := by
  intro g x z xs v vs S' Q k hx hxs h q
  unfold semIndex at h
  split at h
  · cases hxs with
    | cons r1 r2 =>
      cases r2
      obtain ⟨l, e1, h⟩ := bind_some h
      obtain ⟨d, e2, h⟩ := bind_some h
      cases l with
      | list ds =>
        have h' : (if SeqAt.shaped (.list ds) = true ∧ SeqAt.shaped d = true then (fndIx d 0 ds).map fun (j : Nat) => (Vl.dat (.int (j : Int)), g.S) else none) = some (z, S') := h
        split at h'
        · rename_i hs
          obtain ⟨j, e3, h'⟩ := map_some' h'
          cases h'
          have hl := dOf_ok k hx e1
          obtain ⟨a, us, rfl, _, _⟩ := dOf_lst k hx e1
          obtain ⟨_, ⟨z1, h2, h3⟩, h4⟩ := fndIx_ok e3
          exact ⟨a, _, d, ds, j, z1, rfl, rfl, hl, dOf_ok k r1 e2, hs.1, hs.2, h2, h3, h4, rv_fin k q rfl (.int _)⟩
        · cases h'
      | none => cases h
      | bool _ => cases h
      | int _ => cases h
      | str _ => cases h
      | tuple _ => cases h
      | dict _ => cases h
  · cases h
end
end Y
namespace Y
open PySem PySem.Spec PyProof.Rows L2
/-! ### whatever is walked -/
@[simp] def itemsOf : Vl → Option (List Vl)
  | .dat (.list ds) => some (ds.map .dat)
  | .dat (.tuple ds) => some (ds.map .dat)
  | .dat (.str z) => some (z.cps.toList.map fun c => .dat (.str ⟨#[c]⟩))
  | .scr ns => some (ns.map fun n => .dat (.int n))
  | _ => none
@[simp] def iAny (f : IE) : IA := fun ε S => (f ε S).bind fun a => (itemsOf a.1).map fun xs => (xs, a.2)
section
variable {X : Cx} {cm : Nat → Addr} {pos : Pos} {tg e : Expr} {f : IE}
theorem xi_any (he : XE X cm e f) : XI X cm tg e (iAny f) := ⟨fun pins s σ H R I h => by
  obtain ⟨g, ε, xs, S', e1, k, env, h, q⟩ := h
  obtain ⟨⟨x1, S1⟩, e2, h⟩ := bind_some h
  obtain ⟨ys, e3, h⟩ := map_some' h
  cases h
  cases x1 with
  | dat d =>
    cases d with
    | list ds => exact (xi_list he).run pins s σ H R I ⟨g, ε, _, _, e1, k, env, by simp only [iItems, e2, Option.bind_some]; cases e3; rfl, q⟩
    | tuple ds => exact (xi_tup he).run pins s σ H R I ⟨g, ε, _, _, e1, k, env, by simp only [iItemsT, e2, Option.bind_some]; cases e3; rfl, q⟩
    | str z => exact (xi_str he).run pins s σ H R I ⟨g, ε, _, _, e1, k, env, by simp only [iStrIt, e2, Option.bind_some]; cases e3; rfl, q⟩
    | none => cases e3
    | bool _ => cases e3
    | int _ => cases e3
    | dict _ => cases e3
  | obj i => cases e3
  | scr ns => exact (xi_list he).run pins s σ H R I ⟨g, ε, _, _, e1, k, env, by simp only [iItems, e2, Option.bind_some]; cases e3; rfl, q⟩⟩
/-! ### a op b op c -/
@[simp] def iChain (s1 s2 : Sem2) (fa fb fc : IE) : IE := fun ε S => (fa ε S).bind fun a => (fb ε a.2).bind fun b => (s1 b.2 a.1 b.1).bind fun r => match r.1 with
  | .dat (.bool true) => (fc ε r.2).bind fun c => s2 c.2 b.1 c.1
  | .dat (.bool false) => some (.dat (.bool false), r.2)
  | _ => none
theorem xe_chain {op op' : CmpOp} {r r' : R2} {s1 s2 : Sem2} {a b c : Expr} {fa fb fc : IE} (ho : OpR X (compareOp op) r) (hs : OpS X.K cm r s1) (ho' : OpR X (compareOp op') r') (hs' : OpS X.K cm r' s2) (ha : XE X cm a fa) (hb : XE X cm b fb) (hc : XE X cm c fc)
    (hm : lastMarks [op, op'] [b, c] = false := by with_unfolding_all rfl) : XE X cm (.Compare a [op, op'] [b, c] pos) (iChain s1 s2 fa fb fc) :=
  pe_weak (pe_chain ho ho' ha hb hc hm) fun σ H Q ⟨g, ε, x, S', e, k, env, h, q⟩ => by
    subst e
    obtain ⟨⟨x1, S1⟩, e1, h⟩ := bind_some h
    obtain ⟨⟨x2, S2⟩, e2, h⟩ := bind_some h
    obtain ⟨⟨x3, S3⟩, e3, h⟩ := bind_some h
    refine ⟨g, ε, x1, S1, rfl, k, env, e1, fun g1 v1 k1 s1' st1 r1 => ?_⟩
    subst s1'
    refine ⟨g1, ε, x2, S2, rfl, k1, env.mono st1, e2, fun g2 v2 k2 s2' st2 r2 => ?_⟩
    subst s2'
    refine hs g2 x1 x2 x3 v1 v2 S3 _ k2 (r1.mono st2) r2 e3 fun g3 u k3 s3 st3 r3 => ?_
    subst s3
    match x3, h, r3 with
    | .dat (.bool true), h, .bl _ =>
      refine ⟨true, rfl, ?_⟩
      rw [if_pos rfl]
      obtain ⟨⟨x4, S4⟩, e4, h⟩ := bind_some h
      refine ⟨g3, ε, x4, S4, rfl, k3, ((env.mono st1).mono st2).mono st3, e4, fun g4 v4 k4 s4 st4 r4 => ?_⟩
      subst s4
      exact hs' g4 x2 x4 x v2 v4 S' Q k4 ((r2.mono st3).mono st4) r4 h fun g' u k' s' st' r' => q g' u k' s' ((((st1.trans k1 st2).trans k2 st3).trans k3 st4).trans k4 st') r'
    | .dat (.bool false), h, .bl _ =>
      cases h
      refine ⟨false, rfl, ?_⟩
      rw [if_neg Bool.false_ne_true]
      exact q g3 _ k3 rfl ((st1.trans k1 st2).trans k2 st3) (.bl _)
end
theorem u65 {k : Nat} {A : Around} (r : Room k A) : A.units + 65 < cLine := by
  have := r.un
  omega
section
variable {X : Cx} {cm : Nat → Addr} {pos p1 p2 p3 : Pos} {e : Expr} {f : IE}
@[simp] def iRevL (f : IE) : IE := fun ε S => (f ε S).bind fun a => (dOf a.2 a.1).bind fun d => match d with
  | .list ds => some (.dat (.list ds.reverse), a.2)
  | _ => none
theorem xe_revL {k : Nat} (he : XE X cm e f) : XE X cm (.Subscript e (.Slice none none (some (.UnaryOp .USub (.Constant (.int 1) k p1) p2)) p3) pos) (iRevL f) :=
  pe_weak (pe_revL he) fun σ H Q ⟨g, ε, x, S', e, k, env, h, q⟩ => by
    subst e
    obtain ⟨⟨x1, S1⟩, e1, h⟩ := bind_some h
    obtain ⟨d, e2, h⟩ := bind_some h
    refine ⟨g, ε, x1, S1, rfl, k, env, e1, fun g1 v1 k1 s1 st1 r1 => ?_⟩
    subst s1
    match d, e2, h with
    | .list ds, e2, h =>
      cases h
      obtain ⟨a, vs, rfl, h1, h2⟩ := dOf_lst k1 r1 e2
      exact ⟨a, vs, rfl, SqL.of h1, fun p hp => q (g1.frz p _) _ (k1.frz_ok hp) rfl (st1.trans k1 (k1.frz_stp hp)) (Dq.lst upd_same (h2.reverse.mono (k1.frz_stp hp).hf))⟩
end
end Y
namespace Y
open PySem PySem.Spec PyProof.Rows L2
/-! ### a def whose list is new, for a caller that writes it -/
def spPC (K : PySem.W.Frag) (n : Nat) (F : FP) : Sp := fun vs H Q _ => ∃ (Hf : Hp) (xs : List Vl) (ds : List PyData), Same Hf H ∧ RVs K ⟨Hf, fun _ => 0, [], H⟩ xs vs ∧ vs.length = n ∧ F xs = some (.list ds) ∧
  ∀ (Hf' H' : Hp) (p : Addr) (us : List V), Same H H' → Same Hf Hf' → Same Hf' H' → (∀ a, Hf' a ≠ none → Hf a ≠ none ∨ H a = none) → H p = none → Hf' p = none → H' p = some (.lst us) → DqAll K Hf' us ds → Q (.ref p) H'
@[simp] def finC' (S : Sto) : Vl → Option PyData
  | .obj i => match S[i]? with
    | some (.lst xs) => (allD xs).map .list
    | _ => none
  | _ => none
@[simp] def runPC (n : Nat) (b : IS) : FP := fun xs => (b (start' n xs) []).bind fun r => match r.1 with
  | .rt v => finC' r.2 v
  | _ => none
@[simp] def iCallC (F : FP) (f : IA) : IE := fun ε S => (f ε S).bind fun a => if a.1.all noObj = true then (F a.1).bind fun r => match r with
  | .list ds => some (.obj a.2.length, a.2 ++ [.lst (ds.map .dat)])
  | _ => none else none
section
variable {K : PySem.W.Frag} {cm : Nat → Addr}
theorem after_callC {g : Gs} (k : g.ok K cm) {Hf' H' : Hp} {p : Addr} {us : List V} {ds : List PyData} (s1 : Same g.H H') (s2 : Same g.Hf Hf') (s3 : Same Hf' H') (nw : ∀ a, Hf' a ≠ none → g.Hf a ≠ none ∨ g.H a = none) (h1 : g.H p = none) (h2 : Hf' p = none) (h3 : H' p = some (.lst us)) (h4 : DqAll K Hf' us ds) :
    ∃ g', g'.H = H' ∧ g'.ok K cm ∧ g'.S = g.S ++ [.lst (ds.map .dat)] ∧ Stp g g' ∧ RV K g' (.obj g.S.length) (.ref p) := by
  obtain ⟨k2, st2⟩ := after_call k s1 s2 s3 nw
  have ne : ∀ i, i < g.S.length → g.m i ≠ p := fun i hi e => by
    obtain ⟨u, hu⟩ := k.has hi
    rw [e, h1] at hu
    cases hu
  have gr : Gro K cm g ⟨Hf', g.m, g.S, H'⟩ p us (ds.map .dat) := ⟨k2, st2, h3, h2, ne, RVs.ofD (g := ⟨Hf', g.m, g.S, H'⟩) h4⟩
  obtain ⟨k3, st3, r3⟩ := gr.toC h1
  exact ⟨_, rfl, k3, rfl, st3, r3⟩
end
section
variable {X : Cx} {cm : Nat → Addr} {F : FP} {k : Nat} {f : Addr} {fd : FuncData} {ps : List Str} {x : Str} {p pos : Pos} {e : Expr} {es : List Expr} {fa : IA}
theorem xe_callC0 (hF : FnOk X.prog X.w X.K X.mg X.base CX0 k f fd [] (spPC X.K 0 F)) (hr : Room k X.A) (hg : Gl X x) (hm : X.mg x = some (.ref f)) (hk : PySem.W.keepIn X.K (.ref f) = true) (hb : Binds X.K fd [] []) (hdb : (x == ("__debug__" : Str)) = false := by decide) :
    XE X cm (.Call (.Name x p) [] [] pos) (iCallC F iNil) :=
  pe_weak (pe_call0 hF hr hg hm hk hb .nil pass0 hdb) fun σ H Q h => by
    obtain ⟨g, ε, x, S', e, k, env, h, q⟩ := h
    subst e
    have h' : (if ([] : List Vl).all noObj = true then (F []).bind fun r => match r with
      | .list ds => some (Vl.obj g.S.length, g.S ++ [.lst (ds.map .dat)])
      | _ => none else none) = some (x, S') := h
    rw [if_pos (show ([] : List Vl).all noObj = true from rfl)] at h'
    obtain ⟨r, e2, e3⟩ := bind_some h'
    match r, e2, e3 with
    | .list ds, e2, e3 =>
      cases e3
      refine ⟨g.Hf, [], ds, k.frz, .nil, rfl, e2, fun Hf' H' p us a1 a2 a3 a4 a5 a6 a7 a8 => ?_⟩
      obtain ⟨g', e4, k', s', st', r'⟩ := after_callC k a1 a2 a3 a4 a5 a6 a7 a8
      subst e4
      exact q g' _ k' s' st' r'
theorem xe_callC (hF : FnOk X.prog X.w X.K X.mg X.base CX0 k f fd ps (spPC X.K ps.length F)) (hr : Room k X.A) (hg : Gl X x) (hm : X.mg x = some (.ref f)) (hk : PySem.W.keepIn X.K (.ref f) = true) (hb : Binds X.K fd ps []) (ha : XA X cm (e :: es) fa)
    (hl : ps.length = (e :: es).length := by rfl) (hdb : (x == ("__debug__" : Str)) = false := by decide) (he : starEach (e :: es) X.env = (false, eval e X.env) :: starEach es X.env := by rfl) (hpl : (backTo pos (starEach es X.env)).any (·.1) = false := by rfl) :
    XE X cm (.Call (.Name x p) (e :: es) [] pos) (iCallC F fa) :=
  pe_weak (pe_call hF hr hg hm hk hb .nil pass0 ha.run hdb he hpl) fun σ H Q h => by
    obtain ⟨g, ε, x, S', e0, k, env, h, q⟩ := h
    subst e0
    obtain ⟨⟨x1, S1⟩, e1, h⟩ := bind_some h
    refine ⟨g, ε, x1, S1, rfl, k, env, e1, fun g1 v1 k1 s1 st1 r1 => ?_⟩
    subst s1
    have h' : (if x1.all noObj = true then (F x1).bind fun r => match r with
      | .list ds => some (Vl.obj g1.S.length, g1.S ++ [.lst (ds.map .dat)])
      | _ => none else none) = some (x, S') := h
    by_cases hn : x1.all noObj = true
    · rw [if_pos hn] at h'
      obtain ⟨r, e2, e3⟩ := bind_some h'
      match r, e2, e3 with
      | .list ds, e2, e3 =>
        cases e3
        show spPC X.K ps.length F (v1 ++ []) g1.H Q E0
        rw [List.append_nil]
        refine ⟨g1.Hf, x1, ds, k1.frz, rvs_noObj r1 hn, by rw [← r1.length]; exact (ha.len _ _ _ _ e1).trans hl.symm, e2, fun Hf' H' p us a1 a2 a3 a4 a5 a6 a7 a8 => ?_⟩
        obtain ⟨g', e4, k', s', st', r'⟩ := after_callC k1 a1 a2 a3 a4 a5 a6 a7 a8
        subst e4
        exact q g' _ k' s' (st1.trans k1 st') r'
    · rw [if_neg hn] at h'
      cases h'
end
section
variable {P : Program} {w : World} {K : PySem.W.Frag} {mg : Str → Option Value} {base : Heap} {cm : Nat → Addr}
theorem pureC_body {N : List Str} {fb : IS} {n : Nat} {vs : List V} {H : Hp} {Q : VK} {E : XK} (h : spPC K n (runPC N.length fb) vs H Q E) : tS K cm fb { nx := fun _ H' => Q .non H', rt := Q } (L2.start N vs) H := by
  obtain ⟨Hf, xs, ds, sm, rv, hl, hr, q⟩ := h
  obtain ⟨⟨fl, S'⟩, e1, h2⟩ := bind_some hr
  refine ⟨⟨Hf, fun _ => 0, [], H⟩, start' N.length xs, fl, S', rfl, ⟨sm, (fun i c e => by cases e), (fun i j hi => absurd hi (Nat.not_lt_zero _)), (fun i c e => by cases e)⟩, env_start rv, e1, fun g' k' s' st' => ?_⟩
  cases fl with
  | nx ε => cases h2
  | bk ε => cases h2
  | ct ε => cases h2
  | rt x =>
    intro v r1
    subst s'
    cases x with
    | dat d => cases h2
    | scr ns => cases h2
    | obj i =>
      obtain ⟨hi, rfl⟩ := r1
      have h' : (match g'.S[i]? with
        | some (.lst xs) => (allD xs).map PyData.list
        | _ => none) = some (.list ds) := h2
      cases e : g'.S[i]? with
      | none => rw [e] at h'; cases h'
      | some c =>
        rw [e] at h'
        cases c with
        | lst ys =>
          obtain ⟨es, e2, e3⟩ := map_some' h'
          cases e3
          obtain ⟨us, h1, h3⟩ := cell_lst k' e
          have hn : g'.Hf (g'.m i) = none := k'.live i _ e (fun z => nomatch z)
          exact q g'.Hf g'.H (g'.m i) us (fun a o e => st'.oth a o e fun i hi => absurd hi (Nat.not_lt_zero _)) st'.hf k'.frz (fun a ha => (st'.new a ha).elim .inl fun w => w.elim .inr fun ⟨i, hi, _⟩ => absurd hi (Nat.not_lt_zero _)) (st'.cel i (Nat.zero_le _) hi) hn h1 (allD_ok h3 e2)
        | dct _ => cases h'
        | ins _ _ => cases h'
        | gone => cases h'
theorem pureC_ok {x qual : Str} {st : Stmt} {f : Addr} {fd : FuncData} {N ps : List Str} {k : Nat} {fb : IS} (F : Fun K x qual st f fd) (S : FnScope N ps (defScope st))
    (body : ∀ (cdv : Value) (A : Around) (outer : List Env) (s : Shared) (H : Hp) (E : XK), Room k (A.deeper (envOfC qual (defScope st) s.heap.objs.size f cdv)) → XSs (cxOf CX0 P w K mg base N qual (defScope st) f cdv A outer s H E).nox cm (defBody st) fb) :
    FnOk P w K mg base CX0 (k + 1) f fd ps (spPC K ps.length (runPC N.length fb)) :=
  F.ok S (fun vs H Q E ⟨_, _, _, _, _, hl, _⟩ => hl) fun cdv A outer s H vs Q E hr h => ⟨_, body cdv A outer s H E hr, pureC_body h⟩
end
end Y
namespace Y
open PySem PySem.Spec PyProof.Rows L2
/-! ### a list that is written no more: the name has it as plain data -/
@[simp] def sFrzV (i : Nat) (f : IS) : IS := fun ε S => match gv ε i with
  | some (.obj n) => (match S[n]? with
    | some (.lst xs) => (allD xs).bind fun ds => f (ε.set i (some (.dat (.list ds)))) (S.set n .gone)
    | _ => none)
  | _ => f ε S
theorem xs_frzV {X : Cx} {cm : Nat → Addr} {st : Stmt} {f : IS} (i : Nat) (he : XS X cm st f) : XS X cm st (sFrzV i f) := ps_weak he fun D σ H ⟨g, ε, fl, S', e, k, env, h, q⟩ => by
  subst e
  cases z : gv ε i with
  | none =>
    simp only [sFrzV, z] at h
    exact ⟨g, ε, fl, S', rfl, k, env, h, q⟩
  | some x =>
    cases x with
    | dat d =>
      simp only [sFrzV, z] at h
      exact ⟨g, ε, fl, S', rfl, k, env, h, q⟩
    | scr ns =>
      simp only [sFrzV, z] at h
      exact ⟨g, ε, fl, S', rfl, k, env, h, q⟩
    | obj n =>
      simp only [sFrzV, z] at h
      cases e : g.S[n]? with
      | none => rw [e] at h; cases h
      | some c =>
        rw [e] at h
        cases c with
        | lst xs =>
          obtain ⟨ds, e2, h⟩ := bind_some h
          obtain ⟨vs, h1, h2⟩ := cell_lst k e
          obtain ⟨k2, st2⟩ := k.fre_ok e h1
          obtain ⟨v, e3, r3⟩ := env.2 i _ (gv_get z)
          obtain ⟨hn, rfl⟩ := r3
          have env2 : EnvR X.K (g.fre n (.lst vs)) (ε.set i (some (.dat (.list ds)))) σ := by
            have hs : σ.set i (some (.ref (g.m n))) = σ := by
              apply List.ext_getElem?
              intro j
              by_cases hj : i = j
              · subst hj
                rw [List.getElem?_set_self (List.getElem?_eq_some_iff.mp e3).1, e3]
              · rw [List.getElem?_set_ne hj]
            rw [← hs]
            exact (env.mono st2).set (x := .dat (.list ds)) (v := .ref (g.m n)) (show Dq _ _ _ _ from Dq.lst upd_same ((allD_ok h2 e2).mono st2.hf)) i
          exact ⟨g.fre n (.lst vs), _, fl, S', rfl, k2, env2, h, fun g' k' s' st' => q g' k' s' (st2.trans k2 st')⟩
        | dct _ => cases h
        | ins _ _ => cases h
        | gone => cases h
/-! ### generators -/
theorem gs_weak {X : Cx} {st : Stmt} {t t' : TGn} (h : GS X st t) (w : ∀ D ys σ H, t' D ys σ H → t D ys σ H) : GS X st t' :=
  ⟨fun A S ip R n ys s₀ c fs K J gd lv s σ H D g hn k hI ht => h.run A S ip R n ys s₀ c fs K J gd lv s σ H D g hn k hI (w _ _ _ _ ht)⟩
theorem gss_weak {X : Cx} {st : List Stmt} {t t' : TGn} (h : GSs X st t) (w : ∀ D ys σ H, t' D ys σ H → t D ys σ H) : GSs X st t' :=
  ⟨fun A S ip R n ys s₀ c fs K J gd lv s σ H D g hn k hI ht => h.run A S ip R n ys s₀ c fs K J gd lv s σ H D g hn k hI (w _ _ _ _ ht)⟩
def tGIf (c : TT) (t u : TGn) : TGn := fun D ys σ H => c σ H fun b H1 => if b = true then t D ys σ H1 else u D ys σ H1
theorem gs_if {X : Cx} {c : Expr} {a b : List Stmt} {pos : Pos} {tc : TT} {t u : TGn} (hc : PT X c tc) (ha : GSs X a t) (hb : GSs X b u) : GS X (.If c a b pos) (tGIf tc t u) := by
  refine ⟨fun A S ip R n ys s₀ cd fs K J gd lv s σ H D g hn k hI ht => ?_⟩
  rw [exec_If]
  refine seg_at ?_
  show Seg _ _ _ _ _ _ _ (((isTrue c X.env (eval c X.env)) >>= fun d => if d = true then execs a X.env else execs b X.env).wrap K J gd lv) _ _
  rw [Sem.bind_eq_wrap', Sem.wrap_wrap]
  obtain ⟨acc, cc, r, I⟩ := hI
  refine seg_wrap ?_
  rw [g.over]
  refine wpAny_mono (hc.run _ s σ H _ I ht) (fun d s' hb' => ?_) fun x s' hx => k.exc n s₀ x s' hx
  obtain ⟨H2, I2, q2⟩ := hb'
  cases d with
  | true => exact ha.run A S ip R n ys s₀ cd fs K J gd lv s' σ H2 D g hn k ⟨acc, cc, r, I2⟩ q2
  | false => exact hb.run A S ip R n ys s₀ cd fs K J gd lv s' σ H2 D g hn k ⟨acc, cc, r, I2⟩ q2
abbrev IGn := Ev → Sto → Option (Fl × Sto × List PyData)
def tGn (K : PySem.W.Frag) (cm : Nat → Addr) (f : IGn) : TGn := fun D ys σ H => ∃ g ε us fl S' out, g.H = H ∧ g.ok K cm ∧ EnvR K g ε σ ∧ DqAll K g.Hf ys us ∧ f ε g.S = some (fl, S', out) ∧ us.length + out.length ≤ 100000 ∧
  ∀ g' ys', g'.ok K cm → g'.S = S' → Stp g g' → DqAll K g'.Hf ys' (us ++ out) → Post K (D.at ys') g' fl
abbrev XY (X : Cx) (cm : Nat → Addr) (s : Stmt) (f : IGn) : Prop := GS X s (tGn X.K cm f)
abbrev XYs (X : Cx) (cm : Nat → Addr) (s : List Stmt) (f : IGn) : Prop := GSs X s (tGn X.K cm f)
@[simp] def yPl (f : IS) : IGn := fun ε S => (f ε S).map fun a => (a.1, a.2, [])
@[simp] def yOut (f : IE) : IGn := fun ε S => (f ε S).bind fun a => match a.1 with
  | .dat d => some (.nx ε, a.2, [d])
  | _ => none
@[simp] def ySeq (f g : IGn) : IGn := fun ε S => (f ε S).bind fun a => match a.1 with
  | .nx ε' => (g ε' a.2.1).map fun b => (b.1, b.2.1, a.2.2 ++ b.2.2)
  | _ => some a
@[simp] def yIf (c : IT) (f g : IGn) : IGn := fun ε S => (c ε S).bind fun a => if a.1 = true then f ε a.2 else g ε a.2
section
variable {X : Cx} {cm : Nat → Addr} {st : Stmt} {rest : List Stmt} {pos yp : Pos}
theorem plain_of {f : IS} {D : GEnds} {ys : List V} {σ : L2.St} {H : Hp} (h : tGn X.K cm (yPl f) D ys σ H) : tPlain (tS X.K cm f) D ys σ H := by
  obtain ⟨g, ε, us, fl, S', out, e, k, env, hd, h, hl, q⟩ := h
  obtain ⟨⟨x1, S1⟩, e1, h⟩ := map_some' h
  cases h
  refine ⟨g, ε, x1, S1, e, k, env, e1, fun g' k' s' st' => q g' ys k' s' st' ?_⟩
  rw [List.append_nil]
  exact hd.mono st'.hf
theorem xy_pl {f : IS} (h : XS X cm st f) : XY X cm st (yPl f) := gs_weak (gs_ps h) fun _ _ _ _ z => plain_of z
theorem xys_pl {f : IS} (h : XSs X cm rest f) : XYs X cm rest (yPl f) := gss_weak (gss_pss h) fun _ _ _ _ z => plain_of z
theorem xys_cons {f g : IGn} (h1 : XY X cm st f) (h2 : XYs X cm rest g) : XYs X cm (st :: rest) (ySeq f g) :=
  gss_weak (gss_cons h1 h2) fun D ys σ H ⟨g0, ε, us, fl, S', out, e, k, env, hd, h, hl, q⟩ => by
    subst e
    obtain ⟨⟨x1, S1, o1⟩, e1, h⟩ := bind_some h
    cases x1 with
    | nx ε1 =>
      obtain ⟨⟨x2, S2, o2⟩, e2, h⟩ := map_some' h
      cases h
      have hl' : us.length + (o1 ++ o2).length ≤ 100000 := hl
      rw [List.length_append] at hl'
      refine ⟨g0, ε, us, .nx ε1, S1, o1, rfl, k, env, hd, e1, by omega, fun g1 ys1 k1 s1 st1 d1 => ?_⟩
      subst s1
      refine fun σ1 r1 => ⟨g1, ε1, us ++ o1, x2, S2, o2, rfl, k1, r1, d1, e2, by rw [List.length_append]; omega, fun g' ys' k' s' st' d' => q g' ys' k' s' (st1.trans k1 st') ?_⟩
      rw [← List.append_assoc]
      exact d'
    | rt v =>
      cases h
      exact ⟨g0, ε, us, _, _, _, rfl, k, env, hd, e1, hl, fun g1 ys1 k1 s1 st1 d1 => q g1 ys1 k1 s1 st1 d1⟩
    | bk ε1 =>
      cases h
      exact ⟨g0, ε, us, _, _, _, rfl, k, env, hd, e1, hl, fun g1 ys1 k1 s1 st1 d1 => q g1 ys1 k1 s1 st1 d1⟩
    | ct ε1 =>
      cases h
      exact ⟨g0, ε, us, _, _, _, rfl, k, env, hd, e1, hl, fun g1 ys1 k1 s1 st1 d1 => q g1 ys1 k1 s1 st1 d1⟩
theorem xy_if {c : Expr} {fc : IT} {a b : List Stmt} {f g : IGn} (hc : XT X cm c fc) (ha : XYs X cm a f) (hb : XYs X cm b g) : XY X cm (.If c a b pos) (yIf fc f g) :=
  gs_weak (gs_if hc ha hb) fun D ys σ H ⟨g0, ε, us, fl, S', out, e, k, env, hd, h, hl, q⟩ => by
    subst e
    obtain ⟨⟨x1, S1⟩, e1, h⟩ := bind_some h
    refine ⟨g0, ε, x1, S1, rfl, k, env, e1, fun g1 k1 s1 st1 => ?_⟩
    subst s1
    cases x1 with
    | true => exact ⟨g1, ε, us, fl, S', out, rfl, k1, env.mono st1, hd.mono st1.hf, h, hl, fun g' ys' k' s' st' d' => q g' ys' k' s' (st1.trans k1 st') d'⟩
    | false => exact ⟨g1, ε, us, fl, S', out, rfl, k1, env.mono st1, hd.mono st1.hf, h, hl, fun g' ys' k' s' st' d' => q g' ys' k' s' (st1.trans k1 st') d'⟩
theorem line_100k : 100000 < sizeLine := by decide
theorem xy_yield {e : Expr} {f : IE} (he : XE X cm e f) (hco : X.env.scope.isCoroutine = false := by rfl) (hi : interactive X.env = false := by rfl) : XY X cm (.Expr (.Yield (some e) yp) pos) (yOut f) :=
  gs_weak (gs_yield he hco hi) fun D ys σ H ⟨g0, ε, us, fl, S', out, e, k, env, hd, h, hl, q⟩ => by
    subst e
    obtain ⟨⟨x1, S1⟩, e1, h⟩ := bind_some h
    match x1, e1, h with
    | .dat d, e1, h =>
      cases h
      have hl' : us.length + 1 ≤ 100000 := hl
      refine ⟨?_, g0, ε, _, S1, rfl, k, env, e1, fun g1 v1 k1 s1 st1 r1 => ?_⟩
      · rw [hd.length]
        exact Nat.lt_trans (by omega) line_100k
      · exact q g1 (ys ++ [v1]) k1 s1 st1 ((hd.mono st1.hf).app (.cons r1 .nil)) σ (env.mono st1)
end
/-! ### a generator def, its call in list(..) -/
abbrev FG := List Vl → Option (List PyData)
@[simp] def runG (n : Nat) (b : IGn) : FG := fun xs => (b (start' n xs) []).bind fun r => if r.2.2.length ≤ 100000 then match r.1 with
  | .rt (.dat .none) => some r.2.2
  | .nx _ => some r.2.2
  | _ => none else none
def spG (K : PySem.W.Frag) (n : Nat) (F : FG) : SpG := fun vs H Q _ => ∃ (Hf : Hp) (xs : List Vl) (ds : List PyData), Same Hf H ∧ RVs K ⟨Hf, fun _ => 0, [], H⟩ xs vs ∧ vs.length = n ∧ F xs = some ds ∧
  ∀ (Hf' H' : Hp) (us : List V), Same H H' → Same Hf Hf' → Same Hf' H' → (∀ a, Hf' a ≠ none → Hf a ≠ none ∨ H a = none) → DqAll K Hf' us ds → Q us H'
@[simp] def iListG (F : FG) (f : IA) : IE := fun ε S => (f ε S).bind fun a => if a.1.all noObj = true then (F a.1).map fun ds => (.dat (.list ds), a.2) else none
@[simp] def iListGC (F : FG) (f : IA) : IE := fun ε S => (f ε S).bind fun a => if a.1.all noObj = true then (F a.1).map fun ds => (.obj a.2.length, a.2 ++ [.lst (ds.map .dat)]) else none
section
variable {P : Program} {w : World} {K : PySem.W.Frag} {mg : Str → Option Value} {base : Heap} {cm : Nat → Addr}
theorem gen_body {N : List Str} {fb : IGn} {n : Nat} {vs : List V} {H : Hp} {Q : List V → Hp → Prop} {E : XK} (h : spG K n (runG N.length fb) vs H Q E) :
    tGn K cm fb { nx := fun ys _ H' => Q ys H', rt := fun ys v H' => v = .non ∧ Q ys H' } [] (L2.start N vs) H := by
  obtain ⟨Hf, xs, ds, sm, rv, hl, hr, q⟩ := h
  obtain ⟨⟨fl, S', out⟩, e1, h2⟩ := bind_some hr
  have h2' : (if out.length ≤ 100000 then match fl with
    | .rt (.dat .none) => some out
    | .nx _ => some out
    | _ => none else none) = some ds := h2
  by_cases ho : out.length ≤ 100000
  · rw [if_pos ho] at h2'
    refine ⟨⟨Hf, fun _ => 0, [], H⟩, start' N.length xs, [], fl, S', out, rfl, ⟨sm, (fun i c e => by cases e), (fun i j hi => absurd hi (Nat.not_lt_zero _)), (fun i c e => by cases e)⟩, env_start rv, .nil, e1, by simpa using ho, fun g' ys' k' s' st' d' => ?_⟩
    rw [List.nil_append] at d'
    have all : out = ds → Q ys' g'.H := fun e => by
      subst e
      exact q g'.Hf g'.H ys' (fun a o e => st'.oth a o e fun i hi => absurd hi (Nat.not_lt_zero _)) st'.hf k'.frz (fun a ha => (st'.new a ha).elim .inl fun w => w.elim .inr fun ⟨i, hi, _⟩ => absurd hi (Nat.not_lt_zero _)) d'
    match fl, h2' with
    | .nx ε, h2' =>
      cases h2'
      exact fun σ' _ => all rfl
    | .rt (.dat .none), h2' =>
      cases h2'
      intro v r1
      cases (show Dq K g'.Hf v .none from r1) with
      | non => exact ⟨rfl, all rfl⟩
  · rw [if_neg ho] at h2'
    cases h2'
theorem gen_ok {x qual : Str} {st : Stmt} {f : Addr} {fd : FuncData} {N ps : List Str} {k : Nat} {fb : IGn} (F : Fun K x qual st f fd) (S : GScope N ps (defScope st))
    (body : ∀ (cdv : Value) (A : Around) (outer : List Env) (s : Shared) (H : Hp) (E : XK) (pn : List (Addr × Obj)), Room k (A.deeper (envOfC qual (defScope st) s.heap.objs.size f cdv)) → XYs (gcxOf P w K mg base N qual (defScope st) f cdv A outer s H E pn) cm (defBody st) fb) :
    GFn P w K mg base (k + 1) f fd ps (spG K ps.length (runG N.length fb)) := by
  obtain ⟨oc, od, kV, doc, pm, an, cdv, ct, osl, rfl, lk, hcd⟩ := F.ex
  exact gfn_of lk hcd S (fun vs H Q E ⟨_, _, _, _, _, hl, _⟩ => hl) fun A outer s H vs Q E pn hr h => ⟨_, body cdv A outer s H E pn hr, gen_body h⟩
end
section
variable {X : Cx} {cm : Nat → Addr} {F : FG} {k : Nat} {f : Addr} {fd : FuncData} {ps : List Str} {x : Str} {p p2 pos pos2 : Pos} {e : Expr} {es : List Expr} {fa : IA}
theorem passG : Passes (CX X.prog X.w) X E0 := fun _ _ _ _ _ _ _ ⟨_, _, _, _, _, _, _, _, _, _, _, _, h⟩ => h.elim
theorem nostop0 {K : PySem.W.Frag} : NoStop K E0 := fun _ _ _ h => h.elim
theorem tlist_of {σ : L2.St} {H : Hp} {Q : VK} (hl : ∀ ε S xs S', fa ε S = some (xs, S') → xs.length = ps.length) (h : tE X.K cm (iListG F fa) σ H Q) : tListG (tCallG (spG X.K ps.length F) [] E0 (tA X.K cm fa)) σ H Q := by
  obtain ⟨g, ε, x, S', e, k, env, h, q⟩ := h
  subst e
  obtain ⟨⟨x1, S1⟩, e1, h⟩ := bind_some h
  refine ⟨g, ε, x1, S1, rfl, k, env, e1, fun g1 v1 k1 s1 st1 r1 => ?_⟩
  have h' : (if x1.all noObj = true then (F x1).map fun ds => (Vl.dat (.list ds), S1) else none) = some (x, S') := h
  by_cases hn : x1.all noObj = true
  · rw [if_pos hn] at h'
    obtain ⟨ds, e2, e3⟩ := map_some' h'
    cases e3
    show spG X.K ps.length F (v1 ++ []) g1.H _ E0
    rw [List.append_nil]
    refine ⟨g1.Hf, x1, ds, k1.frz, rvs_noObj r1 hn, by rw [← r1.length]; exact hl _ _ _ _ e1, e2, fun Hf' H' us a1 a2 a3 a4 a5 p hp => ?_⟩
    obtain ⟨k2, st2⟩ := after_call k1 a1 a2 a3 a4
    refine q (Gs.frz ⟨Hf', g1.m, g1.S, H'⟩ p (.lst us)) (.ref p) (k2.frz_ok hp) s1 ((st1.trans k1 st2).trans k2 (k2.frz_stp hp)) ?_
    exact Dq.lst upd_same (a5.mono (k2.frz_stp (o := .lst us) hp).hf)
  · rw [if_neg hn] at h'
    cases h'
theorem xe_listG (hF : GFn X.prog X.w X.K X.mg X.base k f fd ps (spG X.K ps.length F)) (hr : Room k X.A) (hr3 : Room (k + 3) X.A) (hg : Gl X x) (hm : X.mg x = some (.ref f)) (hk : PySem.W.keepIn X.K (.ref f) = true) (hb : Binds X.K fd ps []) (ha : XA X cm (e :: es) fa) (hgl : Gl X "list") (hml : X.mg "list" = none)
    (hl : ps.length = (e :: es).length := by rfl) (hdb : (x == ("__debug__" : Str)) = false := by decide) (he : starEach (e :: es) X.env = (false, eval e X.env) :: starEach es X.env := by rfl) (hpl : (backTo pos2 (starEach es X.env)).any (·.1) = false := by rfl)
    (he2 : starEach [.Call (.Name x p2) (e :: es) [] pos2] X.env = (false, eval (.Call (.Name x p2) (e :: es) [] pos2) X.env) :: starEach [] X.env := by rfl) :
    XE X cm (.Call (.Name "list" p) [.Call (.Name x p2) (e :: es) [] pos2] [] pos) (iListG F fa) :=
  pe_weak (pe_listG (E := E0) (pgen_call hF hr hg hm hk hb .nil ha.run hdb he hpl) passG nostop0 hr3 hgl hml rfl (by decide) (by decide) he2) fun _ _ _ h => tlist_of (fun _ _ _ _ z => (ha.len _ _ _ _ z).trans hl.symm) h
end
end Y
namespace Z
open PySem PySem.Spec PyProof.Rows L2 Y
def topS (i : Nat) : Stmt := PySem.Challenge.pw_lyingstandins_k06_way.main.body.getD i (.Pass ⟨0, 0, 0, 0⟩)
abbrev s__law_spot : Stmt := topS 9
abbrev s__law_cell : Stmt := topS 5
abbrev s_lets_define : Stmt := topS 1
abbrev s_can_pass : Stmt := topS 2
abbrev s_way : Stmt := topS 3
abbrev s__law_defines : Stmt := topS 6
abbrev s__law_passes : Stmt := topS 8
abbrev s__law_act : Stmt := topS 7
abbrev s__law_is_same : Stmt := topS 10
abbrev s_law : Stmt := topS 11
structure Tx (K : PySem.W.Frag) (mg : Str → Option Value) where
  f__law_spot : Addr
  d__law_spot : FuncData
  F__law_spot : Fun K "_law_spot" "_law_spot" s__law_spot f__law_spot d__law_spot
  g__law_spot : mg "_law_spot" = some (.ref f__law_spot)
  f__law_cell : Addr
  d__law_cell : FuncData
  F__law_cell : Fun K "_law_cell" "_law_cell" s__law_cell f__law_cell d__law_cell
  g__law_cell : mg "_law_cell" = some (.ref f__law_cell)
  f_lets_define : Addr
  d_lets_define : FuncData
  F_lets_define : Fun K "lets_define" "lets_define" s_lets_define f_lets_define d_lets_define
  g_lets_define : mg "lets_define" = some (.ref f_lets_define)
  f_can_pass : Addr
  d_can_pass : FuncData
  F_can_pass : Fun K "can_pass" "can_pass" s_can_pass f_can_pass d_can_pass
  g_can_pass : mg "can_pass" = some (.ref f_can_pass)
  f_way : Addr
  d_way : FuncData
  F_way : Fun K "way" "way" s_way f_way d_way
  g_way : mg "way" = some (.ref f_way)
  f__law_defines : Addr
  d__law_defines : FuncData
  F__law_defines : Fun K "_law_defines" "_law_defines" s__law_defines f__law_defines d__law_defines
  g__law_defines : mg "_law_defines" = some (.ref f__law_defines)
  f__law_passes : Addr
  d__law_passes : FuncData
  F__law_passes : Fun K "_law_passes" "_law_passes" s__law_passes f__law_passes d__law_passes
  g__law_passes : mg "_law_passes" = some (.ref f__law_passes)
  f__law_act : Addr
  d__law_act : FuncData
  F__law_act : Fun K "_law_act" "_law_act" s__law_act f__law_act d__law_act
  g__law_act : mg "_law_act" = some (.ref f__law_act)
  f__law_is_same : Addr
  d__law_is_same : FuncData
  F__law_is_same : Fun K "_law_is_same" "_law_is_same" s__law_is_same f__law_is_same d__law_is_same
  g__law_is_same : mg "_law_is_same" = some (.ref f__law_is_same)
  f_law : Addr
  d_law : FuncData
  F_law : Fun K "law" "law" s_law f_law d_law
  g_law : mg "law" = some (.ref f_law)
  z_int : mg "int" = none
  z_len : mg "len" = none
  z_isinstance : mg "isinstance" = none
  z_tuple : mg "tuple" = none
  z_list : mg "list" = none
  z_range : mg "range" = none
  z_bool : mg "bool" = none
  z_str : mg "str" = none
section
variable {P : Program} {w : World} {K : PySem.W.Frag} {mg : Str → Option Value} {base : Heap}
def cm : Nat → Addr := fun _ => 0
theorem sc__law_spot : FnScope ["_law_draw", "_law_part", "_law_field"] ["_law_draw"] (defScope s__law_spot) := ⟨rfl, rfl, rfl, by decide +kernel, rfl, by decide +kernel, by decide +kernel⟩
theorem b__law_spot (t : Tx K mg) : L2.Binds K t.d__law_spot ["_law_draw"] [] := t.F__law_spot.binds fun _ _ _ _ _ _ us hl => match us, hl with | [_], _ => rfl
def B__law_spot : IS :=
    (sSeq (sAsg (i2 semMod (iN semInt (iCons (iVar 0) iNil)) (iC (.int 200))) (gNm 1))
    (sSeq (sAsg (iTpl (iCons (i2 semMod (i2 semFdiv (iVar 1) (iC (.int 2))) (iC (.int 10))) (iCons (i2 semEq (i2 semMod (i2 semFdiv (iVar 1) (iC (.int 20))) (iC (.int 2))) (iC (.int 1))) (iCons (i2 semEq (i2 semMod (i2 semFdiv (iVar 1) (iC (.int 40))) (iC (.int 2))) (iC (.int 1))) iNil)))) (gNm 2))
    (sSeq (sIf (tru1 (i2 semEq (i2 semFdiv (iVar 1) (iC (.int 80))) (iC (.int 2)))) (sAsg (iC .none) (gNm 2)) sPass)
    (sRet (iTpl (iCons (iVar 2) (iCons (i2 semEq (i2 semMod (iVar 1) (iC (.int 2))) (iC (.int 1))) iNil)))))))
def F__law_spot : FP := runP 3 B__law_spot
theorem ok__law_spot (t : Tx K mg) : FnOk P w K mg base CX0 1 t.f__law_spot t.d__law_spot ["_law_draw"] (spP K 1 F__law_spot) :=
  pure_ok (N := ["_law_draw", "_law_part", "_law_field"]) (cm := cm) (k := 0) (fb := B__law_spot) t.F__law_spot sc__law_spot fun cdv A outer s H E hr =>
    (xss_cons (xs_set 1 sc__law_spot.nd rfl (.inl rfl) (xe_op op_mod s_mod (xe_callTy call_int1 s_int rfl t.z_int boot_int (xa_cons (xe_var 0) xa_nil)) xe_int))
    (xss_cons (xs_set 2 sc__law_spot.nd rfl (.inl rfl) (xe_tup (xa_cons (xe_op op_mod s_mod (xe_op op_fdiv s_fdiv (xe_var 1) xe_int) xe_int) (xa_cons (xe_cmp (op_eqAll hr.units) s_eq (xe_op op_mod s_mod (xe_op op_fdiv s_fdiv (xe_var 1) xe_int) xe_int) xe_int (nomark _)) (xa_cons (xe_cmp (op_eqAll hr.units) s_eq (xe_op op_mod s_mod (xe_op op_fdiv s_fdiv (xe_var 1) xe_int) xe_int) xe_int (nomark _)) xa_nil)))))
    (xss_cons (xs_if (xt_cmp (op_eqAll hr.units) s_eq (xe_op op_fdiv s_fdiv (xe_var 1) xe_int) xe_int (nomark _)) (xss_one (xs_set 2 sc__law_spot.nd rfl (.inl rfl) xe_non)) xss_nil)
    (xss_one (xs_ret (xe_tup (xa_cons (xe_var 2) (xa_cons (xe_cmp (op_eqAll hr.units) s_eq (xe_op op_mod s_mod (xe_var 1) xe_int) xe_int (nomark _)) xa_nil))))))))
theorem sc__law_cell : FnScope ["_law_script", "_law_k"] ["_law_script", "_law_k"] (defScope s__law_cell) := ⟨rfl, rfl, rfl, by decide +kernel, rfl, by decide +kernel, by decide +kernel⟩
theorem b__law_cell (t : Tx K mg) : L2.Binds K t.d__law_cell ["_law_script", "_law_k"] [] := t.F__law_cell.binds fun _ _ _ _ _ _ us hl => match us, hl with | [_, _], _ => rfl
def B__law_cell : IS :=
    (sSeq (sIf (tru1 (i2 semLt (iVar 1) (iN semLen (iCons (iVar 0) iNil)))) (sRet (iN semInt (iCons (i2 semIx (iVar 0) (iVar 1)) iNil))) sPass)
    (sRet (iC (.int 0))))
def F__law_cell : FP := runP 2 B__law_cell
theorem ok__law_cell (t : Tx K mg) : FnOk P w K mg base CX0 1 t.f__law_cell t.d__law_cell ["_law_script", "_law_k"] (spP K 2 F__law_cell) :=
  pure_ok (N := ["_law_script", "_law_k"]) (cm := cm) (k := 0) (fb := B__law_cell) t.F__law_cell sc__law_cell fun cdv A outer s H E hr =>
    (xss_cons (xs_if (xt_cmp op_lt s_lt (xe_var 1) (xe_callB call_lenAll s_len rfl t.z_len boot_len (xa_cons (xe_var 0) xa_nil)) (nomark _)) (xss_one (xs_ret (xe_callTy call_int1 s_int rfl t.z_int boot_int (xa_cons (xe_ix ix_seq s_ix (xe_var 0) (xe_var 1) (fun _ _ => rfl)) xa_nil)))) xss_nil)
    (xss_one (xs_ret xe_int)))
theorem sc_lets_define : FnScope ["field", "shut", "new"] ["field", "shut", "new"] (defScope s_lets_define) := ⟨rfl, rfl, rfl, by decide +kernel, rfl, by decide +kernel, by decide +kernel⟩
theorem b_lets_define (t : Tx K mg) : L2.Binds K t.d_lets_define ["field", "shut", "new"] [] := t.F_lets_define.binds fun _ _ _ _ _ _ us hl => match us, hl with | [_, _, _], _ => rfl
def B_lets_define : IS :=
    (sSeq (sIf (tru1 (i2 semIs (iVar 0) (iC .none))) (sRet (vNot (iVar 1))) sPass)
    (sSeq (sIf (tru (i2 semIx (iVar 0) (iC (.int 2)))) (sRet (iC (.bool true))) sPass)
    (sRet (vAnd (vNot (i2 semIx (iVar 2) (iC (.int 2)))) (vOr (i2 semIx (iVar 0) (iC (.int 1))) (i2 semEq (iVar 0) (iVar 2)))))))
def F_lets_define : FP := runP 3 B_lets_define
theorem ok_lets_define (t : Tx K mg) : FnOk P w K mg base CX0 1 t.f_lets_define t.d_lets_define ["field", "shut", "new"] (spP K 3 F_lets_define) :=
  pure_ok (N := ["field", "shut", "new"]) (cm := cm) (k := 0) (fb := B_lets_define) t.F_lets_define sc_lets_define fun cdv A outer s H E hr =>
    (xss_cons (xs_if (xt_cmp op_isAll s_is (xe_var 0) xe_non (nomark _)) (xss_one (xs_ret (xe_not (xe_var 1)))) xss_nil)
    (xss_cons (xs_if (xt_tru (xe_ix ix_seq s_ix (xe_var 0) xe_int (fun _ _ => rfl))) (xss_one (xs_ret xe_bl)) xss_nil)
    (xss_one (xs_ret (xe_and (xe_not (xe_ix ix_seq s_ix (xe_var 2) xe_int (fun _ _ => rfl))) (xe_one (xe_or (xe_ix ix_seq s_ix (xe_var 0) xe_int (fun _ _ => rfl)) (xe_one (xe_cmp (op_eqAll hr.units) s_eq (xe_var 0) (xe_var 2) (nomark _))))))))))
theorem sc_can_pass : FnScope ["before", "after", "old", "new"] ["before", "after"] (defScope s_can_pass) := ⟨rfl, rfl, rfl, by decide +kernel, rfl, by decide +kernel, by decide +kernel⟩
theorem b_can_pass (t : Tx K mg) : L2.Binds K t.d_can_pass ["before", "after"] [] := t.F_can_pass.binds fun _ _ _ _ _ _ us hl => match us, hl with | [_, _], _ => rfl
def B_can_pass : IS :=
    (sSeq (sIf (bAnd (tru (i2 semIx (iVar 0) (iC (.int 1)))) (bNot (tru (i2 semIx (iVar 1) (iC (.int 1)))))) (sRet (iC (.bool false))) sPass)
    (sSeq (sPar 2 3 (iCons (i2 semIx (iVar 0) (iC (.int 0))) (iCons (i2 semIx (iVar 1) (iC (.int 0))) iNil)))
    (sSeq (sIf (tru1 (i2 semEq (iVar 2) (iVar 3))) (sRet (iC (.bool true))) sPass)
    (sSeq (sIf (tru1 (i2 semIs (iVar 3) (iC .none))) (sRet (i2 semIx (iVar 2) (iC (.int 2)))) sPass)
    (sRet (iCall F_lets_define (iCons (iVar 2) (iCons (i2 semIx (iVar 0) (iC (.int 1))) (iCons (iVar 3) iNil)))))))))
def F_can_pass : FP := runP 4 B_can_pass
theorem ok_can_pass (t : Tx K mg) : FnOk P w K mg base CX0 2 t.f_can_pass t.d_can_pass ["before", "after"] (spP K 2 F_can_pass) :=
  pure_ok (N := ["before", "after", "old", "new"]) (cm := cm) (k := 1) (fb := B_can_pass) t.F_can_pass sc_can_pass fun cdv A outer s H E hr =>
    (xss_cons (xs_if (PW.pt (xw_and (xt_tru (xe_ix ix_seq s_ix (xe_var 0) xe_int (fun _ _ => rfl))) (xw_and1 (xt_not (xt_tru (xe_ix ix_seq s_ix (xe_var 1) xe_int (fun _ _ => rfl))))))) (xss_one (xs_ret xe_bl)) xss_nil)
    (xss_cons (xs_par 2 3 rfl sc_can_pass.nd rfl rfl (by decide) rfl rfl (xa_cons (xe_ix ix_seq s_ix (xe_var 0) xe_int (fun _ _ => rfl)) (xa_cons (xe_ix ix_seq s_ix (xe_var 1) xe_int (fun _ _ => rfl)) xa_nil)) rfl)
    (xss_cons (xs_if (xt_cmp (op_eqAll hr.units) s_eq (xe_var 2) (xe_var 3) (nomark _)) (xss_one (xs_ret xe_bl)) xss_nil)
    (xss_cons (xs_if (xt_cmp op_isAll s_is (xe_var 3) xe_non (nomark _)) (xss_one (xs_ret (xe_ix ix_seq s_ix (xe_var 2) xe_int (fun _ _ => rfl)))) xss_nil)
    (xss_one (xs_ret (xe_call (ok_lets_define t) (hr.mono (by decide)) rfl t.g_lets_define t.F_lets_define.kp (b_lets_define t) (xa_cons (xe_var 2) (xa_cons (xe_ix ix_seq s_ix (xe_var 0) xe_int (fun _ _ => rfl)) (xa_cons (xe_var 3) xa_nil))))))))))
theorem sc_way : GScope ["before", "after"] ["before", "after"] (defScope s_way) := ⟨rfl, rfl, rfl, by decide +kernel, rfl, by decide +kernel, by decide +kernel⟩
theorem b_way (t : Tx K mg) : L2.Binds K t.d_way ["before", "after"] [] := t.F_way.binds fun _ _ _ _ _ _ us hl => match us, hl with | [_, _], _ => rfl
def B_way : IGn :=
    (ySeq (yIf (tru (iCall F_can_pass (iCons (iVar 0) (iCons (iVar 1) iNil)))) (ySeq (yIf (tru1 (i2 semNe (i2 semIx (iVar 0) (iC (.int 0))) (i2 semIx (iVar 1) (iC (.int 0))))) (ySeq (yIf (tru1 (i2 semIs (i2 semIx (iVar 1) (iC (.int 0))) (iC .none))) (ySeq (yOut (iTpl (iCons (iC (.str "take")) (iCons (iC (.str "a")) iNil))))
    (yPl sPass)) (ySeq (yOut (iTpl (iCons (iC (.str "define")) (iCons (iC (.str "a")) (iCons (i2 semIx (i2 semIx (iVar 1) (iC (.int 0))) (iC (.int 0))) (iCons (i2 semIx (i2 semIx (iVar 1) (iC (.int 0))) (iC (.int 1))) (iCons (i2 semIx (i2 semIx (iVar 1) (iC (.int 0))) (iC (.int 2))) iNil)))))))
    (yPl sPass)))
    (yPl sPass)) (yPl sPass))
    (ySeq (yIf (bAnd (tru (i2 semIx (iVar 1) (iC (.int 1)))) (bNot (tru (i2 semIx (iVar 0) (iC (.int 1)))))) (ySeq (yOut (iTpl (iCons (iC (.str "shut")) iNil)))
    (yPl sPass)) (yPl sPass))
    (yPl sPass))) (yPl sPass))
    (yPl sPass))
def F_way : FG := runG 2 B_way
theorem ok_way (t : Tx K mg) : GFn P w K mg base 3 t.f_way t.d_way ["before", "after"] (spG K 2 F_way) :=
  gen_ok (N := ["before", "after"]) (cm := cm) (k := 2) (fb := B_way) t.F_way sc_way fun cdv A outer s H E pn hr =>
    (xys_cons (xy_if (xt_tru (xe_call (ok_can_pass t) (hr.mono (by decide)) rfl t.g_can_pass t.F_can_pass.kp (b_can_pass t) (xa_cons (xe_var 0) (xa_cons (xe_var 1) xa_nil)))) (xys_cons (xy_if (xt_cmp (op_neAll hr.units) s_ne (xe_ix ix_seq s_ix (xe_var 0) xe_int (fun _ _ => rfl)) (xe_ix ix_seq s_ix (xe_var 1) xe_int (fun _ _ => rfl)) (nomark _)) (xys_cons (xy_if (xt_cmp op_isAll s_is (xe_ix ix_seq s_ix (xe_var 1) xe_int (fun _ _ => rfl)) xe_non (nomark _)) (xys_cons (xy_yield (xe_tup (xa_cons xe_str (xa_cons xe_str xa_nil))))
    (xys_pl xss_nil)) (xys_cons (xy_yield (xe_tup (xa_cons xe_str (xa_cons xe_str (xa_cons (xe_ix ix_seq s_ix (xe_ix ix_seq s_ix (xe_var 1) xe_int (fun _ _ => rfl)) xe_int (fun _ _ => rfl)) (xa_cons (xe_ix ix_seq s_ix (xe_ix ix_seq s_ix (xe_var 1) xe_int (fun _ _ => rfl)) xe_int (fun _ _ => rfl)) (xa_cons (xe_ix ix_seq s_ix (xe_ix ix_seq s_ix (xe_var 1) xe_int (fun _ _ => rfl)) xe_int (fun _ _ => rfl)) xa_nil)))))))
    (xys_pl xss_nil)))
    (xys_pl xss_nil)) (xys_pl xss_nil))
    (xys_cons (xy_if (PW.pt (xw_and (xt_tru (xe_ix ix_seq s_ix (xe_var 1) xe_int (fun _ _ => rfl))) (xw_and1 (xt_not (xt_tru (xe_ix ix_seq s_ix (xe_var 0) xe_int (fun _ _ => rfl))))))) (xys_cons (xy_yield (xe_tup (xa_cons xe_str xa_nil)))
    (xys_pl xss_nil)) (xys_pl xss_nil))
    (xys_pl xss_nil))) (xys_pl xss_nil))
    (xys_pl xss_nil))
theorem sc__law_defines : FnScope ["_law_old", "_law_shut", "_law_new"] ["_law_old", "_law_shut", "_law_new"] (defScope s__law_defines) := ⟨rfl, rfl, rfl, by decide +kernel, rfl, by decide +kernel, by decide +kernel⟩
theorem b__law_defines (t : Tx K mg) : L2.Binds K t.d__law_defines ["_law_old", "_law_shut", "_law_new"] [] := t.F__law_defines.binds fun _ _ _ _ _ _ us hl => match us, hl with | [_, _, _], _ => rfl
def B__law_defines : IS :=
    (sSeq (sIf (tru1 (i2 semIs (iVar 0) (iC .none))) (sRet (vNot (iVar 1))) sPass)
    (sSeq (sIf (tru (i2 semIx (iVar 0) (iC (.int 2)))) (sRet (iC (.bool true))) sPass)
    (sRet (vAnd (vNot (i2 semIx (iVar 2) (iC (.int 2)))) (vOr (i2 semIx (iVar 0) (iC (.int 1))) (i2 semEq (iVar 0) (iVar 2)))))))
def F__law_defines : FP := runP 3 B__law_defines
theorem ok__law_defines (t : Tx K mg) : FnOk P w K mg base CX0 1 t.f__law_defines t.d__law_defines ["_law_old", "_law_shut", "_law_new"] (spP K 3 F__law_defines) :=
  pure_ok (N := ["_law_old", "_law_shut", "_law_new"]) (cm := cm) (k := 0) (fb := B__law_defines) t.F__law_defines sc__law_defines fun cdv A outer s H E hr =>
    (xss_cons (xs_if (xt_cmp op_isAll s_is (xe_var 0) xe_non (nomark _)) (xss_one (xs_ret (xe_not (xe_var 1)))) xss_nil)
    (xss_cons (xs_if (xt_tru (xe_ix ix_seq s_ix (xe_var 0) xe_int (fun _ _ => rfl))) (xss_one (xs_ret xe_bl)) xss_nil)
    (xss_one (xs_ret (xe_and (xe_not (xe_ix ix_seq s_ix (xe_var 2) xe_int (fun _ _ => rfl))) (xe_one (xe_or (xe_ix ix_seq s_ix (xe_var 0) xe_int (fun _ _ => rfl)) (xe_one (xe_cmp (op_eqAll hr.units) s_eq (xe_var 0) (xe_var 2) (nomark _))))))))))
theorem sc__law_passes : FnScope ["_law_before", "_law_after"] ["_law_before", "_law_after"] (defScope s__law_passes) := ⟨rfl, rfl, rfl, by decide +kernel, rfl, by decide +kernel, by decide +kernel⟩
theorem b__law_passes (t : Tx K mg) : L2.Binds K t.d__law_passes ["_law_before", "_law_after"] [] := t.F__law_passes.binds fun _ _ _ _ _ _ us hl => match us, hl with | [_, _], _ => rfl
def B__law_passes : IS :=
    (sSeq (sIf (bAnd (tru (i2 semIx (iVar 0) (iC (.int 1)))) (bNot (tru (i2 semIx (iVar 1) (iC (.int 1)))))) (sRet (iC (.bool false))) sPass)
    (sSeq (sIf (tru1 (i2 semEq (i2 semIx (iVar 0) (iC (.int 0))) (i2 semIx (iVar 1) (iC (.int 0))))) (sRet (iC (.bool true))) sPass)
    (sSeq (sIf (tru1 (i2 semIs (i2 semIx (iVar 1) (iC (.int 0))) (iC .none))) (sRet (i2 semIx (i2 semIx (iVar 0) (iC (.int 0))) (iC (.int 2)))) sPass)
    (sRet (iCall F__law_defines (iCons (i2 semIx (iVar 0) (iC (.int 0))) (iCons (i2 semIx (iVar 0) (iC (.int 1))) (iCons (i2 semIx (iVar 1) (iC (.int 0))) iNil))))))))
def F__law_passes : FP := runP 2 B__law_passes
theorem ok__law_passes (t : Tx K mg) : FnOk P w K mg base CX0 2 t.f__law_passes t.d__law_passes ["_law_before", "_law_after"] (spP K 2 F__law_passes) :=
  pure_ok (N := ["_law_before", "_law_after"]) (cm := cm) (k := 1) (fb := B__law_passes) t.F__law_passes sc__law_passes fun cdv A outer s H E hr =>
    (xss_cons (xs_if (PW.pt (xw_and (xt_tru (xe_ix ix_seq s_ix (xe_var 0) xe_int (fun _ _ => rfl))) (xw_and1 (xt_not (xt_tru (xe_ix ix_seq s_ix (xe_var 1) xe_int (fun _ _ => rfl))))))) (xss_one (xs_ret xe_bl)) xss_nil)
    (xss_cons (xs_if (xt_cmp (op_eqAll hr.units) s_eq (xe_ix ix_seq s_ix (xe_var 0) xe_int (fun _ _ => rfl)) (xe_ix ix_seq s_ix (xe_var 1) xe_int (fun _ _ => rfl)) (nomark _)) (xss_one (xs_ret xe_bl)) xss_nil)
    (xss_cons (xs_if (xt_cmp op_isAll s_is (xe_ix ix_seq s_ix (xe_var 1) xe_int (fun _ _ => rfl)) xe_non (nomark _)) (xss_one (xs_ret (xe_ix ix_seq s_ix (xe_ix ix_seq s_ix (xe_var 0) xe_int (fun _ _ => rfl)) xe_int (fun _ _ => rfl)))) xss_nil)
    (xss_one (xs_ret (xe_call (ok__law_defines t) (hr.mono (by decide)) rfl t.g__law_defines t.F__law_defines.kp (b__law_defines t) (xa_cons (xe_ix ix_seq s_ix (xe_var 0) xe_int (fun _ _ => rfl)) (xa_cons (xe_ix ix_seq s_ix (xe_var 0) xe_int (fun _ _ => rfl)) (xa_cons (xe_ix ix_seq s_ix (xe_var 1) xe_int (fun _ _ => rfl)) xa_nil)))))))))
theorem sc__law_act : FnScope ["_law_field", "_law_shut", "_law_request", "_law_kind", "_law_new"] ["_law_field", "_law_shut", "_law_request"] (defScope s__law_act) := ⟨rfl, rfl, rfl, by decide +kernel, rfl, by decide +kernel, by decide +kernel⟩
theorem b__law_act (t : Tx K mg) : L2.Binds K t.d__law_act ["_law_field", "_law_shut", "_law_request"] [] := t.F__law_act.binds fun _ _ _ _ _ _ us hl => match us, hl with | [_, _, _], _ => rfl
def B__law_act : IS :=
    (sSeq (sAsg (i2 semIx (iVar 2) (iC (.int 0))) (gNm 3))
    (sSeq (sIf (tru1 (i2 semEq (iVar 3) (iC (.str "look")))) (sRet (iLst (iCons (iVar 0) (iCons (iVar 0) (iCons (iVar 1) iNil))))) sPass)
    (sSeq (sIf (tru1 (i2 semEq (iVar 3) (iC (.str "has")))) (sRet (iLst (iCons (i2 semIsNot (iVar 0) (iC .none)) (iCons (iVar 0) (iCons (iVar 1) iNil))))) sPass)
    (sSeq (sIf (tru1 (i2 semEq (iVar 3) (iC (.str "get")))) (sSeq (sIf (tru1 (i2 semIs (iVar 0) (iC .none))) (sRet (iLst (iCons (iC .none) (iCons (iVar 0) (iCons (iVar 1) iNil))))) sPass)
    (sRet (iLst (iCons (i2 semIx (iVar 0) (iC (.int 0))) (iCons (iVar 0) (iCons (iVar 1) iNil)))))) sPass)
    (sSeq (sIf (tru1 (i2 semEq (iVar 3) (iC (.str "shut")))) (sRet (iLst (iCons (iC (.bool true)) (iCons (iVar 0) (iCons (iC (.bool true)) iNil))))) sPass)
    (sSeq (sIf (tru1 (i2 semEq (iVar 3) (iC (.str "isshut")))) (sRet (iLst (iCons (iVar 1) (iCons (iVar 0) (iCons (iVar 1) iNil))))) sPass)
    (sSeq (sIf (tru1 (i2 semEq (iVar 3) (iC (.str "take")))) (sSeq (sIf (bAnd (tru1 (i2 semIsNot (iVar 0) (iC .none))) (bNot (tru (i2 semIx (iVar 0) (iC (.int 2)))))) (sRet (iLst (iCons (iC (.bool false)) (iCons (iVar 0) (iCons (iVar 1) iNil))))) sPass)
    (sRet (iLst (iCons (iC (.bool true)) (iCons (iC .none) (iCons (iVar 1) iNil)))))) sPass)
    (sSeq (sIf (tru1 (i2 semEq (iVar 3) (iC (.str "set")))) (sSeq (sIf (bAnd (tru1 (i2 semIs (iVar 0) (iC .none))) (bNot (tru (iVar 1)))) (sRet (iLst (iCons (iC (.bool true)) (iCons (iTpl (iCons (i2 semIx (iVar 2) (iC (.int 2))) (iCons (iC (.bool true)) (iCons (iC (.bool true)) iNil)))) (iCons (iVar 1) iNil))))) sPass)
    (sSeq (sIf (bAnd (tru1 (i2 semIsNot (iVar 0) (iC .none))) (tru (i2 semIx (iVar 0) (iC (.int 1))))) (sRet (iLst (iCons (iC (.bool true)) (iCons (iTpl (iCons (i2 semIx (iVar 2) (iC (.int 2))) (iCons (iC (.bool true)) (iCons (i2 semIx (iVar 0) (iC (.int 2))) iNil)))) (iCons (iVar 1) iNil))))) sPass)
    (sRet (iLst (iCons (iC (.bool false)) (iCons (iVar 0) (iCons (iVar 1) iNil))))))) sPass)
    (sSeq (sAsg (iTpl (iCons (i2 semIx (iVar 2) (iC (.int 2))) (iCons (i2 semIx (iVar 2) (iC (.int 3))) (iCons (i2 semIx (iVar 2) (iC (.int 4))) iNil)))) (gNm 4))
    (sSeq (sIf (tru (iCall F__law_defines (iCons (iVar 0) (iCons (iVar 1) (iCons (iVar 4) iNil))))) (sRet (iLst (iCons (iC (.bool true)) (iCons (iVar 4) (iCons (iVar 1) iNil))))) sPass)
    (sRet (iLst (iCons (iC (.bool false)) (iCons (iVar 0) (iCons (iVar 1) iNil)))))))))))))))
def F__law_act : FP := runP 5 B__law_act
theorem ok__law_act (t : Tx K mg) : FnOk P w K mg base CX0 2 t.f__law_act t.d__law_act ["_law_field", "_law_shut", "_law_request"] (spP K 3 F__law_act) :=
  pure_ok (N := ["_law_field", "_law_shut", "_law_request", "_law_kind", "_law_new"]) (cm := cm) (k := 1) (fb := B__law_act) t.F__law_act sc__law_act fun cdv A outer s H E hr =>
    (xss_cons (xs_set 3 sc__law_act.nd rfl (.inl rfl) (xe_ix ix_seq s_ix (xe_var 2) xe_int (fun _ _ => rfl)))
    (xss_cons (xs_if (xt_cmp (op_eqAll hr.units) s_eq (xe_var 3) xe_str (nomark _)) (xss_one (xs_ret (xe_lst (xa_cons (xe_var 0) (xa_cons (xe_var 0) (xa_cons (xe_var 1) xa_nil)))))) xss_nil)
    (xss_cons (xs_if (xt_cmp (op_eqAll hr.units) s_eq (xe_var 3) xe_str (nomark _)) (xss_one (xs_ret (xe_lst (xa_cons (xe_cmp op_isNotAll s_isNot (xe_var 0) xe_non (nomark _)) (xa_cons (xe_var 0) (xa_cons (xe_var 1) xa_nil)))))) xss_nil)
    (xss_cons (xs_if (xt_cmp (op_eqAll hr.units) s_eq (xe_var 3) xe_str (nomark _)) (xss_cons (xs_if (xt_cmp op_isAll s_is (xe_var 0) xe_non (nomark _)) (xss_one (xs_ret (xe_lst (xa_cons xe_non (xa_cons (xe_var 0) (xa_cons (xe_var 1) xa_nil)))))) xss_nil)
    (xss_one (xs_ret (xe_lst (xa_cons (xe_ix ix_seq s_ix (xe_var 0) xe_int (fun _ _ => rfl)) (xa_cons (xe_var 0) (xa_cons (xe_var 1) xa_nil))))))) xss_nil)
    (xss_cons (xs_if (xt_cmp (op_eqAll hr.units) s_eq (xe_var 3) xe_str (nomark _)) (xss_one (xs_ret (xe_lst (xa_cons xe_bl (xa_cons (xe_var 0) (xa_cons xe_bl xa_nil)))))) xss_nil)
    (xss_cons (xs_if (xt_cmp (op_eqAll hr.units) s_eq (xe_var 3) xe_str (nomark _)) (xss_one (xs_ret (xe_lst (xa_cons (xe_var 1) (xa_cons (xe_var 0) (xa_cons (xe_var 1) xa_nil)))))) xss_nil)
    (xss_cons (xs_if (xt_cmp (op_eqAll hr.units) s_eq (xe_var 3) xe_str (nomark _)) (xss_cons (xs_if (PW.pt (xw_and (xt_cmp op_isNotAll s_isNot (xe_var 0) xe_non (nomark _)) (xw_and1 (xt_not (xt_tru (xe_ix ix_seq s_ix (xe_var 0) xe_int (fun _ _ => rfl))))))) (xss_one (xs_ret (xe_lst (xa_cons xe_bl (xa_cons (xe_var 0) (xa_cons (xe_var 1) xa_nil)))))) xss_nil)
    (xss_one (xs_ret (xe_lst (xa_cons xe_bl (xa_cons xe_non (xa_cons (xe_var 1) xa_nil))))))) xss_nil)
    (xss_cons (xs_if (xt_cmp (op_eqAll hr.units) s_eq (xe_var 3) xe_str (nomark _)) (xss_cons (xs_if (PW.pt (xw_and (xt_cmp op_isAll s_is (xe_var 0) xe_non (nomark _)) (xw_and1 (xt_not (xt_tru (xe_var 1)))))) (xss_one (xs_ret (xe_lst (xa_cons xe_bl (xa_cons (xe_tup (xa_cons (xe_ix ix_seq s_ix (xe_var 2) xe_int (fun _ _ => rfl)) (xa_cons xe_bl (xa_cons xe_bl xa_nil)))) (xa_cons (xe_var 1) xa_nil)))))) xss_nil)
    (xss_cons (xs_if (PW.pt (xw_and (xt_cmp op_isNotAll s_isNot (xe_var 0) xe_non (nomark _)) (xw_and1 (xt_tru (xe_ix ix_seq s_ix (xe_var 0) xe_int (fun _ _ => rfl)))))) (xss_one (xs_ret (xe_lst (xa_cons xe_bl (xa_cons (xe_tup (xa_cons (xe_ix ix_seq s_ix (xe_var 2) xe_int (fun _ _ => rfl)) (xa_cons xe_bl (xa_cons (xe_ix ix_seq s_ix (xe_var 0) xe_int (fun _ _ => rfl)) xa_nil)))) (xa_cons (xe_var 1) xa_nil)))))) xss_nil)
    (xss_one (xs_ret (xe_lst (xa_cons xe_bl (xa_cons (xe_var 0) (xa_cons (xe_var 1) xa_nil)))))))) xss_nil)
    (xss_cons (xs_set 4 sc__law_act.nd rfl (.inl rfl) (xe_tup (xa_cons (xe_ix ix_seq s_ix (xe_var 2) xe_int (fun _ _ => rfl)) (xa_cons (xe_ix ix_seq s_ix (xe_var 2) xe_int (fun _ _ => rfl)) (xa_cons (xe_ix ix_seq s_ix (xe_var 2) xe_int (fun _ _ => rfl)) xa_nil)))))
    (xss_cons (xs_if (xt_tru (xe_call (ok__law_defines t) (hr.mono (by decide)) rfl t.g__law_defines t.F__law_defines.kp (b__law_defines t) (xa_cons (xe_var 0) (xa_cons (xe_var 1) (xa_cons (xe_var 4) xa_nil))))) (xss_one (xs_ret (xe_lst (xa_cons xe_bl (xa_cons (xe_var 4) (xa_cons (xe_var 1) xa_nil)))))) xss_nil)
    (xss_one (xs_ret (xe_lst (xa_cons xe_bl (xa_cons (xe_var 0) (xa_cons (xe_var 1) xa_nil))))))))))))))))
theorem sc__law_is_same : FnScope ["_law_got", "_law_due", "_law_k"] ["_law_got", "_law_due"] (defScope s__law_is_same) := ⟨rfl, rfl, rfl, by decide +kernel, rfl, by decide +kernel, by decide +kernel⟩
theorem b__law_is_same (t : Tx K mg) : L2.Binds K t.d__law_is_same ["_law_got", "_law_due"] [] := t.F__law_is_same.binds fun _ _ _ _ _ _ us hl => match us, hl with | [_, _], _ => rfl
def L__law_is_same_1 (G : FP) : IS :=
    (sIf (bNot (tru (iCall G (iCons (i2 semIx (iVar 0) (iVar 2)) (iCons (i2 semIx (iVar 1) (iVar 2)) iNil))))) (sRet (iC (.bool false))) sPass)
def B__law_is_same (G : FP) : IS :=
    (sSeq (sIf (bOr (tru (iIsi .tuple (iVar 1))) (tru (iIsi .list (iVar 1)))) (sSeq (sIf (bAnd (tru (iIsi .tuple (iVar 1))) (bNot (tru (iIsi .tuple (iVar 0))))) (sRet (iC (.bool false))) sPass)
    (sSeq (sIf (bAnd (tru (iIsi .list (iVar 1))) (bNot (tru (iIsi .list (iVar 0))))) (sRet (iC (.bool false))) sPass)
    (sSeq (sIf (tru1 (i2 semNe (iN semLen (iCons (iVar 0) iNil)) (iN semLen (iCons (iVar 1) iNil)))) (sRet (iC (.bool false))) sPass)
    (sSeq (sFor (iRng (iN semLen (iCons (iVar 1) iNil))) (gNm 2) (L__law_is_same_1 G))
    (sRet (iC (.bool true))))))) sPass)
    (sSeq (sIf (tru1 (i2 semIs (iVar 1) (iC .none))) (sRet (i2 semIs (iVar 0) (iC .none))) sPass)
    (sSeq (sIf (tru (iIsi .bool (iVar 1))) (sRet (vAnd (iIsi .bool (iVar 0)) (i2 semEq (iVar 0) (iVar 1)))) sPass)
    (sSeq (sIf (tru (iIsi .int (iVar 1))) (sRet (vAnd (iIsi .int (iVar 0)) (vAnd (vNot (iIsi .bool (iVar 0))) (i2 semEq (iVar 0) (iVar 1))))) sPass)
    (sRet (vAnd (iIsi .str (iVar 0)) (i2 semEq (iVar 0) (iVar 1))))))))
def F__law_is_same : Nat → FP
  | 0 => fun _ => none
  | n + 1 => runP 3 (B__law_is_same (F__law_is_same n))
theorem ok__law_is_same (t : Tx K mg) : ∀ n, FnOk P w K mg base CX0 (n + 0) t.f__law_is_same t.d__law_is_same ["_law_got", "_law_due"] (spP K 2 (F__law_is_same n))
  | 0 => pure_zero
  | n + 1 => (pure_ok (N := ["_law_got", "_law_due", "_law_k"]) (cm := cm) (k := n + 0) (fb := B__law_is_same (F__law_is_same n)) t.F__law_is_same sc__law_is_same fun cdv A outer s H E hr =>
    (xss_cons (xs_if (PW.pt (xw_or (xt_tru (xe_isi .tuple (xe_var 1) rfl t.z_isinstance rfl t.z_tuple boot_tuple)) (xw_or1 (xt_tru (xe_isi .list (xe_var 1) rfl t.z_isinstance rfl t.z_list boot_list))))) (xss_cons (xs_if (PW.pt (xw_and (xt_tru (xe_isi .tuple (xe_var 1) rfl t.z_isinstance rfl t.z_tuple boot_tuple)) (xw_and1 (xt_not (xt_tru (xe_isi .tuple (xe_var 0) rfl t.z_isinstance rfl t.z_tuple boot_tuple)))))) (xss_one (xs_ret xe_bl)) xss_nil)
    (xss_cons (xs_if (PW.pt (xw_and (xt_tru (xe_isi .list (xe_var 1) rfl t.z_isinstance rfl t.z_list boot_list)) (xw_and1 (xt_not (xt_tru (xe_isi .list (xe_var 0) rfl t.z_isinstance rfl t.z_list boot_list)))))) (xss_one (xs_ret xe_bl)) xss_nil)
    (xss_cons (xs_if (xt_cmp (op_neAll hr.units) s_ne (xe_callB call_lenAll s_len rfl t.z_len boot_len (xa_cons (xe_var 0) xa_nil)) (xe_callB call_lenAll s_len rfl t.z_len boot_len (xa_cons (xe_var 1) xa_nil)) (nomark _)) (xss_one (xs_ret xe_bl)) xss_nil)
    (xss_cons (xs_for PassesOwn.never rfl (xi_range rfl t.z_range (xe_callB call_lenAll s_len rfl t.z_len boot_len (xa_cons (xe_var 1) xa_nil))) (xg_name 2 sc__law_is_same.nd rfl (.inl rfl)) (xss_one (xs_if (xt_not (xt_tru (xe_call (ok__law_is_same t n) hr rfl t.g__law_is_same t.F__law_is_same.kp (b__law_is_same t) (xa_cons (xe_ix ix_seq s_ix (xe_var 0) (xe_var 2) (fun _ _ => rfl)) (xa_cons (xe_ix ix_seq s_ix (xe_var 1) (xe_var 2) (fun _ _ => rfl)) xa_nil))))) (xss_one (xs_ret xe_bl)) xss_nil)))
    (xss_one (xs_ret xe_bl)))))) xss_nil)
    (xss_cons (xs_if (xt_cmp op_isAll s_is (xe_var 1) xe_non (nomark _)) (xss_one (xs_ret (xe_cmp op_isAll s_is (xe_var 0) xe_non (nomark _)))) xss_nil)
    (xss_cons (xs_if (xt_tru (xe_isi .bool (xe_var 1) rfl t.z_isinstance rfl t.z_bool boot_bool)) (xss_one (xs_ret (xe_and (xe_isi .bool (xe_var 0) rfl t.z_isinstance rfl t.z_bool boot_bool) (xe_one (xe_cmp (op_eqAll hr.units) s_eq (xe_var 0) (xe_var 1) (nomark _)))))) xss_nil)
    (xss_cons (xs_if (xt_tru (xe_isi .int (xe_var 1) rfl t.z_isinstance rfl t.z_int boot_int)) (xss_one (xs_ret (xe_and (xe_isi .int (xe_var 0) rfl t.z_isinstance rfl t.z_int boot_int) (xe_and (xe_not (xe_isi .bool (xe_var 0) rfl t.z_isinstance rfl t.z_bool boot_bool)) (xe_one (xe_cmp (op_eqAll hr.units) s_eq (xe_var 0) (xe_var 1) (nomark _))))))) xss_nil)
    (xss_one (xs_ret (xe_and (xe_isi .str (xe_var 0) rfl t.z_isinstance rfl t.z_str boot_str) (xe_one (xe_cmp (op_eqAll hr.units) s_eq (xe_var 0) (xe_var 1) (nomark _))))))))))).mono (by omega)
theorem sc_law : FnScope ["_law_script", "_law_place", "_law_other", "_law_choice", "_law_requests", "_law_due", "_law_end", "_law_request", "_law_done"] ["_law_script"] (defScope s_law) := ⟨rfl, rfl, rfl, by decide +kernel, rfl, by decide +kernel, by decide +kernel⟩
theorem b_law (t : Tx K mg) : L2.Binds K t.d_law ["_law_script"] [] := t.F_law.binds fun _ _ _ _ _ _ us hl => match us, hl with | [_], _ => rfl
def L_law_1 : IS :=
    (sSeq (sAsg (iCall F__law_act (iCons (i2 semIx (iVar 6) (iC (.int 0))) (iCons (i2 semIx (iVar 6) (iC (.int 1))) (iCons (iVar 7) iNil)))) (gNm 8))
    (sSeq (sAsg (iTpl (iCons (i2 semIx (iVar 8) (iC (.int 1))) (iCons (i2 semIx (iVar 8) (iC (.int 2))) iNil))) (gNm 6))
    (sIf (tru1 (i2 semIsNot (i2 semIx (iVar 8) (iC (.int 0))) (iC (.bool true)))) (sRet (iC (.bool false))) sPass)))
def B_law : IS :=
    (sSeq (sAsg (iCall F__law_spot (iCons (iCall F__law_cell (iCons (iVar 0) (iCons (iC (.int 0)) iNil))) iNil)) (gNm 1))
    (sSeq (sAsg (iCall F__law_spot (iCons (iCall F__law_cell (iCons (iVar 0) (iCons (iC (.int 1)) iNil))) iNil)) (gNm 2))
    (sSeq (sAsg (i2 semMod (iCall F__law_cell (iCons (iVar 0) (iCons (iC (.int 2)) iNil))) (iC (.int 4))) (gNm 3))
    (sSeq (sIf (bAnd (tru1 (i2 semIsNot (i2 semIx (iVar 1) (iC (.int 0))) (iC .none))) (bAnd (tru1 (i2 semIsNot (i2 semIx (iVar 2) (iC (.int 0))) (iC .none))) (tru1 (i2 semGt (iVar 3) (iC (.int 1)))))) (sAsg (iTpl (iCons (iTpl (iCons (i2 semIx (i2 semIx (iVar 1) (iC (.int 0))) (iC (.int 0))) (iCons (i2 semIx (i2 semIx (iVar 2) (iC (.int 0))) (iC (.int 1))) (iCons (i2 semIx (i2 semIx (iVar 2) (iC (.int 0))) (iC (.int 2))) iNil)))) (iCons (i2 semIx (iVar 2) (iC (.int 1))) iNil))) (gNm 2)) sPass)
    (sSeq (sIf (tru1 (i2 semEq (iVar 3) (iC (.int 3)))) (sAsg (iTpl (iCons (i2 semIx (iVar 1) (iC (.int 0))) (iCons (i2 semIx (iVar 2) (iC (.int 1))) iNil))) (gNm 2)) sPass)
    (sSeq (sAsg (iListG F_way (iCons (iVar 1) (iCons (iVar 2) iNil))) (gNm 4))
    (sSeq (sIf (bNot (tru (iCall F__law_passes (iCons (iVar 1) (iCons (iVar 2) iNil))))) (sRet (i2 semEq (iVar 4) (iLst iNil))) sPass)
    (sSeq (sAsg (iLstC iNil) (gNm 5))
    (sSeq (sIf (tru1 (i2 semNe (i2 semIx (iVar 1) (iC (.int 0))) (i2 semIx (iVar 2) (iC (.int 0))))) (sSeq (sAsg (iLstC (iCons (iTpl (iCons (iC (.str "take")) (iCons (iC (.str "a")) iNil))) iNil)) (gNm 5))
    (sIf (tru1 (i2 semIsNot (i2 semIx (iVar 2) (iC (.int 0))) (iC .none))) (sAsg (iLstC (iCons (iTpl (iCons (iC (.str "define")) (iCons (iC (.str "a")) (iCons (i2 semIx (i2 semIx (iVar 2) (iC (.int 0))) (iC (.int 0))) (iCons (i2 semIx (i2 semIx (iVar 2) (iC (.int 0))) (iC (.int 1))) (iCons (i2 semIx (i2 semIx (iVar 2) (iC (.int 0))) (iC (.int 2))) iNil)))))) iNil)) (gNm 5)) sPass)) sPass)
    (sSeq (sIf (bAnd (tru (i2 semIx (iVar 2) (iC (.int 1)))) (bNot (tru (i2 semIx (iVar 1) (iC (.int 1)))))) (sDrop (iML semApp (iVar 5) (iCons (iTpl (iCons (iC (.str "shut")) iNil)) iNil))) sPass)
    (sSeq (sAsg (iVar 1) (gNm 6))
    (sSeq (sFrzV 5 (sFor (iAny (iVar 5)) (gNm 7) L_law_1))
    (sRet (vAnd (i2 semEq (iVar 6) (iVar 2)) (vAnd (iCallL (F__law_is_same 8) (iCons (iVar 4) (iCons (iVar 5) iNil))) (iCallL (F__law_is_same 8) (iCons (iListG F_way (iCons (iVar 1) (iCons (iVar 2) iNil))) (iCons (iVar 5) iNil))))))))))))))))))
def F_law : FP := runP 9 B_law
theorem ok_law (t : Tx K mg) : FnOk P w K mg base CX0 10 t.f_law t.d_law ["_law_script"] (spP K 1 F_law) :=
  pure_ok (N := ["_law_script", "_law_place", "_law_other", "_law_choice", "_law_requests", "_law_due", "_law_end", "_law_request", "_law_done"]) (cm := cm) (k := 9) (fb := B_law) t.F_law sc_law fun cdv A outer s H E hr =>
    (xss_cons (xs_set 1 sc_law.nd rfl (.inl rfl) (xe_call (ok__law_spot t) (hr.mono (by decide)) rfl t.g__law_spot t.F__law_spot.kp (b__law_spot t) (xa_cons (xe_call (ok__law_cell t) (hr.mono (by decide)) rfl t.g__law_cell t.F__law_cell.kp (b__law_cell t) (xa_cons (xe_var 0) (xa_cons xe_int xa_nil))) xa_nil)))
    (xss_cons (xs_set 2 sc_law.nd rfl (.inl rfl) (xe_call (ok__law_spot t) (hr.mono (by decide)) rfl t.g__law_spot t.F__law_spot.kp (b__law_spot t) (xa_cons (xe_call (ok__law_cell t) (hr.mono (by decide)) rfl t.g__law_cell t.F__law_cell.kp (b__law_cell t) (xa_cons (xe_var 0) (xa_cons xe_int xa_nil))) xa_nil)))
    (xss_cons (xs_set 3 sc_law.nd rfl (.inl rfl) (xe_op op_mod s_mod (xe_call (ok__law_cell t) (hr.mono (by decide)) rfl t.g__law_cell t.F__law_cell.kp (b__law_cell t) (xa_cons (xe_var 0) (xa_cons xe_int xa_nil))) xe_int))
    (xss_cons (xs_if (PW.pt (xw_and (xt_cmp op_isNotAll s_isNot (xe_ix ix_seq s_ix (xe_var 1) xe_int (fun _ _ => rfl)) xe_non (nomark _)) (xw_and (xt_cmp op_isNotAll s_isNot (xe_ix ix_seq s_ix (xe_var 2) xe_int (fun _ _ => rfl)) xe_non (nomark _)) (xw_and1 (xt_cmp op_gt s_gt (xe_var 3) xe_int (nomark _)))))) (xss_one (xs_set 2 sc_law.nd rfl (.inl rfl) (xe_tup (xa_cons (xe_tup (xa_cons (xe_ix ix_seq s_ix (xe_ix ix_seq s_ix (xe_var 1) xe_int (fun _ _ => rfl)) xe_int (fun _ _ => rfl)) (xa_cons (xe_ix ix_seq s_ix (xe_ix ix_seq s_ix (xe_var 2) xe_int (fun _ _ => rfl)) xe_int (fun _ _ => rfl)) (xa_cons (xe_ix ix_seq s_ix (xe_ix ix_seq s_ix (xe_var 2) xe_int (fun _ _ => rfl)) xe_int (fun _ _ => rfl)) xa_nil)))) (xa_cons (xe_ix ix_seq s_ix (xe_var 2) xe_int (fun _ _ => rfl)) xa_nil))))) xss_nil)
    (xss_cons (xs_if (xt_cmp (op_eqAll hr.units) s_eq (xe_var 3) xe_int (nomark _)) (xss_one (xs_set 2 sc_law.nd rfl (.inl rfl) (xe_tup (xa_cons (xe_ix ix_seq s_ix (xe_var 1) xe_int (fun _ _ => rfl)) (xa_cons (xe_ix ix_seq s_ix (xe_var 2) xe_int (fun _ _ => rfl)) xa_nil))))) xss_nil)
    (xss_cons (xs_set 4 sc_law.nd rfl (.inl rfl) (xe_listG (ok_way t) (hr.mono (by decide)) (hr.mono (by decide)) rfl t.g_way t.F_way.kp (b_way t) (xa_cons (xe_var 1) (xa_cons (xe_var 2) xa_nil)) rfl t.z_list))
    (xss_cons (xs_if (xt_not (xt_tru (xe_call (ok__law_passes t) (hr.mono (by decide)) rfl t.g__law_passes t.F__law_passes.kp (b__law_passes t) (xa_cons (xe_var 1) (xa_cons (xe_var 2) xa_nil))))) (xss_one (xs_ret (xe_cmp (op_eqAll hr.units) s_eq (xe_var 4) (xe_lst xa_nil) (nomark _)))) xss_nil)
    (xss_cons (xs_set 5 sc_law.nd rfl (.inl rfl) (xe_lstC xa_nil))
    (xss_cons (xs_if (xt_cmp (op_neAll hr.units) s_ne (xe_ix ix_seq s_ix (xe_var 1) xe_int (fun _ _ => rfl)) (xe_ix ix_seq s_ix (xe_var 2) xe_int (fun _ _ => rfl)) (nomark _)) (xss_cons (xs_set 5 sc_law.nd rfl (.inl rfl) (xe_lstC (xa_cons (xe_tup (xa_cons xe_str (xa_cons xe_str xa_nil))) xa_nil)))
    (xss_one (xs_if (xt_cmp op_isNotAll s_isNot (xe_ix ix_seq s_ix (xe_var 2) xe_int (fun _ _ => rfl)) xe_non (nomark _)) (xss_one (xs_set 5 sc_law.nd rfl (.inl rfl) (xe_lstC (xa_cons (xe_tup (xa_cons xe_str (xa_cons xe_str (xa_cons (xe_ix ix_seq s_ix (xe_ix ix_seq s_ix (xe_var 2) xe_int (fun _ _ => rfl)) xe_int (fun _ _ => rfl)) (xa_cons (xe_ix ix_seq s_ix (xe_ix ix_seq s_ix (xe_var 2) xe_int (fun _ _ => rfl)) xe_int (fun _ _ => rfl)) (xa_cons (xe_ix ix_seq s_ix (xe_ix ix_seq s_ix (xe_var 2) xe_int (fun _ _ => rfl)) xe_int (fun _ _ => rfl)) xa_nil)))))) xa_nil)))) xss_nil))) xss_nil)
    (xss_cons (xs_if (PW.pt (xw_and (xt_tru (xe_ix ix_seq s_ix (xe_var 2) xe_int (fun _ _ => rfl))) (xw_and1 (xt_not (xt_tru (xe_ix ix_seq s_ix (xe_var 1) xe_int (fun _ _ => rfl))))))) (xss_one (xs_expr (xe_ml PySem.F.slot_list_append PySem.F.type_list_append mt_append s_app (xe_var 5) (xa_cons (xe_tup (xa_cons xe_str xa_nil)) xa_nil)))) xss_nil)
    (xss_cons (xs_set 6 sc_law.nd rfl (.inl rfl) (xe_var 1))
    (xss_cons (xs_frzV 5 (xs_for PassesOwn.never rfl (xi_any (xe_var 5)) (xg_name 7 sc_law.nd rfl (.inl rfl)) (xss_cons (xs_set 8 sc_law.nd rfl (.inl rfl) (xe_call (ok__law_act t) (hr.mono (by decide)) rfl t.g__law_act t.F__law_act.kp (b__law_act t) (xa_cons (xe_ix ix_seq s_ix (xe_var 6) xe_int (fun _ _ => rfl)) (xa_cons (xe_ix ix_seq s_ix (xe_var 6) xe_int (fun _ _ => rfl)) (xa_cons (xe_var 7) xa_nil)))))
    (xss_cons (xs_set 6 sc_law.nd rfl (.inl rfl) (xe_tup (xa_cons (xe_ix ix_seq s_ix (xe_var 8) xe_int (fun _ _ => rfl)) (xa_cons (xe_ix ix_seq s_ix (xe_var 8) xe_int (fun _ _ => rfl)) xa_nil))))
    (xss_one (xs_if (xt_cmp op_isNotAll s_isNot (xe_ix ix_seq s_ix (xe_var 8) xe_int (fun _ _ => rfl)) xe_bl (nomark _)) (xss_one (xs_ret xe_bl)) xss_nil))))))
    (xss_one (xs_ret (xe_and (xe_cmp (op_eqAll hr.units) s_eq (xe_var 6) (xe_var 2) (nomark _)) (xe_and (xe_callL (ok__law_is_same t 8) (hr.mono (by decide)) rfl t.g__law_is_same t.F__law_is_same.kp (b__law_is_same t) (xa_cons (xe_var 4) (xa_cons (xe_var 5) xa_nil))) (xe_one (xe_callL (ok__law_is_same t 8) (hr.mono (by decide)) rfl t.g__law_is_same t.F__law_is_same.kp (b__law_is_same t) (xa_cons (xe_listG (ok_way t) (hr.mono (by decide)) (hr.mono (by decide)) rfl t.g_way t.F_way.kp (b_way t) (xa_cons (xe_var 1) (xa_cons (xe_var 2) xa_nil)) rfl t.z_list) (xa_cons (xe_var 5) xa_nil))))))))))))))))))))
end
end Z
namespace Z
open PySem PySem.Spec PyProof.Rows L2 Y
/-! ### plain data: fields, standings, deeds, what a plain thing does -/
structure Fd where
  v : Int
  c : Bool
  g : Bool
  deriving DecidableEq
abbrev Fo := Option Fd
def fdD (f : Fd) : PyData := .tuple [.int f.v, .bool f.c, .bool f.g]
def foD : Fo → PyData
  | none => .none
  | some f => fdD f
theorem foD_some (f : Fd) : foD (some f) = fdD f := rfl
theorem foD_none : foD none = .none := rfl
structure Sg where
  f : Fo
  s : Bool
  deriving DecidableEq
def sgD (p : Sg) : PyData := .tuple [foD p.f, .bool p.s]
inductive Dd where
  | look (x : Str) | has (x : Str) | get (x : Str) | set (x : Str) (v : Int) | define (x : Str) (n : Fd) | take (x : Str) | shut | isshut
def ddD : Dd → PyData
  | .look x => .tuple [.str "look", .str x]
  | .has x => .tuple [.str "has", .str x]
  | .get x => .tuple [.str "get", .str x]
  | .set x v => .tuple [.str "set", .str x, .int v]
  | .define x n => .tuple [.str "define", .str x, .int n.v, .bool n.c, .bool n.g]
  | .take x => .tuple [.str "take", .str x]
  | .shut => .tuple [.str "shut"]
  | .isshut => .tuple [.str "isshut"]
def letsM (f : Fo) (s : Bool) (n : Fd) : Bool := match f with
  | none => !s
  | some o => if o.g = true then true else !n.g && (o.c || decide (o = n))
def actM (p : Sg) : Dd → PyData × Sg
  | .look _ => (foD p.f, p)
  | .has _ => (.bool p.f.isSome, p)
  | .get _ => (match p.f with | none => .none | some f => .int f.v, p)
  | .set _ v => match p.f with
    | none => if p.s = true then (.bool false, p) else (.bool true, ⟨some ⟨v, true, true⟩, p.s⟩)
    | some f => if f.c = true then (.bool true, ⟨some ⟨v, true, f.g⟩, p.s⟩) else (.bool false, p)
  | .define _ n => if letsM p.f p.s n = true then (.bool true, ⟨some n, p.s⟩) else (.bool false, p)
  | .take _ => match p.f with
    | none => (.bool true, ⟨none, p.s⟩)
    | some f => if f.g = true then (.bool true, ⟨none, p.s⟩) else (.bool false, p)
  | .shut => (.bool true, ⟨p.f, true⟩)
  | .isshut => (.bool p.s, p)
theorem eqv_fd (a b : Fd) : PyData.eqv (fdD a) (fdD b) = decide (a = b) := by
  obtain ⟨v, c, g⟩ := a
  obtain ⟨v', c', g'⟩ := b
  simp only [fdD, PyData.eqv, PyData.eqvAll]
  rw [Bool.eq_iff_iff]
  simp
theorem shaped_fd (a : Fd) : SeqAt.shaped (fdD a) = true := by kernel_rfl
/-! ### data without dicts, of bounded depth -/
inductive Gd : Nat → PyData → Prop
  | non {n} : Gd n .none
  | bl {n b} : Gd n (.bool b)
  | int {n i} : Gd n (.int i)
  | str {n x} : Gd n (.str x)
  | lst {n ds} : (∀ d ∈ ds, Gd n d) → ds.length ≤ 1000000 → Gd (n + 1) (.list ds)
  | tup {n ds} : (∀ d ∈ ds, Gd n d) → ds.length ≤ 1000000 → Gd (n + 1) (.tuple ds)
theorem Gd.up {n m : Nat} (h : n ≤ m) {d : PyData} (g : Gd n d) : Gd m d := by
  induction g generalizing m with
  | non => exact .non
  | bl => exact .bl
  | int => exact .int
  | str => exact .str
  | lst _ hl ih =>
    obtain ⟨m, rfl⟩ : ∃ j, m = j + 1 := ⟨m - 1, by omega⟩
    exact .lst (fun d hd => ih d hd (by omega)) hl
  | tup _ hl ih =>
    obtain ⟨m, rfl⟩ : ∃ j, m = j + 1 := ⟨m - 1, by omega⟩
    exact .tup (fun d hd => ih d hd (by omega)) hl
theorem pair_gd {n : Nat} {a b : PyData} (h1 : Gd n a) (h2 : Gd n b) : Gd (n + 1) (.tuple [a, b]) := by
  refine .tup (fun d hd => ?_) (by simp)
  simp only [List.mem_cons, List.not_mem_nil, or_false] at hd
  rcases hd with rfl | rfl
  · exact h1
  · exact h2
theorem foD_gd (f : Fo) : Gd 1 (foD f) := by
  match f with
  | none => exact .non
  | some ⟨v, c, g⟩ =>
    refine .tup (fun d hd => ?_) (by simp)
    simp only [List.mem_cons, List.not_mem_nil, or_false] at hd
    rcases hd with rfl | rfl | rfl
    · exact .int
    · exact .bl
    · exact .bl
theorem sgD_gd (p : Sg) : Gd 2 (sgD p) := pair_gd (foD_gd p.f) .bl
theorem actM_gd (p : Sg) (d : Dd) : Gd 1 (actM p d).1 := by
  cases d with
  | look x => exact foD_gd p.f
  | has x => exact .bl
  | get x =>
    show Gd 1 (match p.f with | none => PyData.none | some f => .int f.v)
    cases p.f with
    | none => exact .non
    | some f => exact .int
  | set x v =>
    show Gd 1 (match p.f with
      | none => if p.s = true then (PyData.bool false, p) else (.bool true, ⟨some ⟨v, true, true⟩, p.s⟩)
      | some f => if f.c = true then (.bool true, ⟨some ⟨v, true, f.g⟩, p.s⟩) else (.bool false, p)).1
    cases p.f with
    | none => cases p.s <;> exact .bl
    | some f =>
      show Gd 1 (if f.c = true then (PyData.bool true, (⟨some ⟨v, true, f.g⟩, p.s⟩ : Sg)) else (.bool false, p)).1
      cases f.c <;> exact .bl
  | define x n =>
    show Gd 1 (if letsM p.f p.s n = true then (PyData.bool true, (⟨some n, p.s⟩ : Sg)) else (.bool false, p)).1
    cases letsM p.f p.s n <;> exact .bl
  | take x =>
    show Gd 1 (match p.f with
      | none => (PyData.bool true, (⟨none, p.s⟩ : Sg))
      | some f => if f.g = true then (.bool true, ⟨none, p.s⟩) else (.bool false, p)).1
    cases p.f with
    | none => exact .bl
    | some f =>
      show Gd 1 (if f.g = true then (PyData.bool true, (⟨none, p.s⟩ : Sg)) else (.bool false, p)).1
      cases f.g <;> exact .bl
  | shut => exact .bl
  | isshut => exact .bl
theorem eqv_ss (a b : Str) : PyData.eqv (.str a) (.str b) = (a == b) := rfl
theorem eqv_ii (a b : Int) : PyData.eqv (.int a) (.int b) = (a == b) := rfl
theorem eqv_bb (a b : Bool) : PyData.eqv (.bool a) (.bool b) = (a == b) := rfl
/-! ### subscripts -/
theorem atI_at {α : Type} {xs : List α} {i : Int} {k : Nat} (h : i = (k : Int)) (hk : k < xs.length) : atI xs i = some xs[k] := by
  subst h
  exact atI_nat (List.getElem?_eq_getElem hk)
theorem ix_l (S : Sto) (ds : List PyData) (i : Int) : semIx S (.dat (.list ds)) (.dat (.int i)) = (atI (ds.map .dat) i).map fun u => (u, S) := rfl
theorem ix_t (S : Sto) (ds : List PyData) (i : Int) : semIx S (.dat (.tuple ds)) (.dat (.int i)) = (atI (ds.map .dat) i).map fun u => (u, S) := rfl
theorem at_0 {α : Type} (x : α) (r : List α) : atI (x :: r) 0 = some x := atI_nat (j := 0) rfl
theorem at_1 {α : Type} (x y : α) (r : List α) : atI (x :: y :: r) 1 = some y := atI_nat (j := 1) rfl
theorem at_2 {α : Type} (x y z : α) (r : List α) : atI (x :: y :: z :: r) 2 = some z := atI_nat (j := 2) rfl
theorem at_3 {α : Type} (x y z u : α) (r : List α) : atI (x :: y :: z :: u :: r) 3 = some u := atI_nat (j := 3) rfl
theorem at_4 {α : Type} (x y z u w : α) (r : List α) : atI (x :: y :: z :: u :: w :: r) 4 = some w := atI_nat (j := 4) rfl
/-- one of the eight names -/
def IsNm (x : Str) : Prop := x = "a" ∨ x = "b" ∨ x = "c" ∨ x = "d" ∨ x = "e" ∨ x = "f" ∨ x = "g" ∨ x = "h"
theorem label_eq (c : Int) : ∃ x, IsNm x ∧ ∀ S : Sto, semIx S (.dat (.str "abcdefgh")) (.dat (.int (c % 8))) = some (.dat (.str x), S) := by
  have h1 : 0 ≤ c % 8 := Int.emod_nonneg _ (by decide)
  have h2 : c % 8 < 8 := Int.emod_lt_of_pos _ (by decide)
  generalize c % 8 = r at h1 h2
  have : r = 0 ∨ r = 1 ∨ r = 2 ∨ r = 3 ∨ r = 4 ∨ r = 5 ∨ r = 6 ∨ r = 7 := by omega
  rcases this with rfl | rfl | rfl | rfl | rfl | rfl | rfl | rfl
  · exact ⟨"a", .inl rfl, fun S => by kernel_rfl⟩
  · exact ⟨"b", .inr (.inl rfl), fun S => by kernel_rfl⟩
  · exact ⟨"c", .inr (.inr (.inl rfl)), fun S => by kernel_rfl⟩
  · exact ⟨"d", .inr (.inr (.inr (.inl rfl))), fun S => by kernel_rfl⟩
  · exact ⟨"e", .inr (.inr (.inr (.inr (.inl rfl)))), fun S => by kernel_rfl⟩
  · exact ⟨"f", .inr (.inr (.inr (.inr (.inr (.inl rfl))))), fun S => by kernel_rfl⟩
  · exact ⟨"g", .inr (.inr (.inr (.inr (.inr (.inr (.inl rfl)))))), fun S => by kernel_rfl⟩
  · exact ⟨"h", .inr (.inr (.inr (.inr (.inr (.inr (.inr rfl)))))), fun S => by kernel_rfl⟩
end Z
namespace Z
open PySem PySem.Spec PyProof.Rows L2 Y
abbrev sameBody (G : FP) : IS := L__law_is_same_1 G
theorem same_loop {G : FP} {X : PyData} {ds : List PyData} (hX : X = .list ds ∨ X = .tuple ds) (h : ∀ d ∈ ds, G [.dat d, .dat d] = some (.bool true)) :
    ∀ (m : Nat) (i : Nat) (z : Option Vl), i + m = ds.length → ∃ z', loop (gNm 2) (sameBody G) (upTo m i) [some (.dat X), some (.dat X), z] [] = some (.nx [some (.dat X), some (.dat X), z'], [])
  | 0, i, z, _ => ⟨z, rfl⟩
  | m + 1, i, z, e => by
    obtain ⟨z', hz⟩ := same_loop hX h m (i + 1) (some (.dat (.int i))) (by omega)
    refine ⟨z', ?_⟩
    have hi : i < ds.length := by omega
    have hat : atI (ds.map Vl.dat) (i : Int) = some (.dat ds[i]) := by
      rw [atI_at rfl (by simpa using hi), List.getElem_map]
    have e1 : semIx [] (.dat X) (.dat (.int i)) = some (.dat ds[i], []) := by
      rcases hX with rfl | rfl <;> simp [hat]
    have e2 : sameBody G [some (.dat X), some (.dat X), some (.dat (.int i))] [] = some (.nx [some (.dat X), some (.dat X), some (.dat (.int i))], []) := by
      simp only [sameBody, L__law_is_same_1, sIf, bNot, tru, iCall, iCons, i2, iVar, gv, iNil, Option.map_some, Option.bind_some, e1, List.all_cons, noObj, List.all_nil, Bool.and_self, if_true, h _ (List.getElem_mem hi), truV, Bool.not_true, sPass]
      rfl
    show ((gNm 2 (.dat (.int i)) [some (.dat X), some (.dat X), z] []).bind fun a => (sameBody G a.1 a.2).bind fun b => match b.1 with
      | .nx ε' => loop (gNm 2) (sameBody G) (upTo m (i + 1)) ε' b.2
      | .ct ε' => loop (gNm 2) (sameBody G) (upTo m (i + 1)) ε' b.2
      | .bk ε' => some (.nx ε', b.2)
      | .rt v => some (.rt v, b.2)) = _
    show ((sameBody G [some (.dat X), some (.dat X), some (.dat (.int i))] []).bind fun b => match b.1 with
      | .nx ε' => loop (gNm 2) (sameBody G) (upTo m (i + 1)) ε' b.2
      | .ct ε' => loop (gNm 2) (sameBody G) (upTo m (i + 1)) ε' b.2
      | .bk ε' => some (.nx ε', b.2)
      | .rt v => some (.rt v, b.2)) = _
    rw [e2]
    exact hz
theorem same_refl : ∀ (n : Nat) (d : PyData), Gd n d → F__law_is_same (n + 1) [.dat d, .dat d] = some (.bool true) := by
  intro n
  induction n with
  | zero =>
    intro d h
    cases h with
    | non => kernel_rfl
    | @bl _ b => cases b <;> kernel_rfl
    | @int _ i => simp [F__law_is_same, B__law_is_same, PyData.eqv]
    | @str _ x => simp [F__law_is_same, B__law_is_same, PyData.eqv]
  | succ n ih =>
    intro d h
    cases h with
    | non => kernel_rfl
    | @bl _ b => cases b <;> kernel_rfl
    | @int _ i => simp [F__law_is_same, B__law_is_same, PyData.eqv]
    | @str _ x => simp [F__law_is_same, B__law_is_same, PyData.eqv]
    | @lst _ ds hd hl =>
      obtain ⟨z', hz⟩ := same_loop (G := F__law_is_same (n + 1)) (X := .list ds) (ds := ds) (.inl rfl) (fun d hd' => ih d (hd d hd')) ds.length 0 none (by omega)
      have hr : rngOk (ds.length : Int) = true := by simp; omega
      rw [show ((0 : Nat) : Int) = 0 from rfl] at hz
      show runP 3 (B__law_is_same (F__law_is_same (n + 1))) _ = _
      unfold B__law_is_same
      simp [hr, hz, PyData.eqv, -rngOk, -Y.loop, -Y.upTo]
    | @tup _ ds hd hl =>
      obtain ⟨z', hz⟩ := same_loop (G := F__law_is_same (n + 1)) (X := .tuple ds) (ds := ds) (.inr rfl) (fun d hd' => ih d (hd d hd')) ds.length 0 none (by omega)
      have hr : rngOk (ds.length : Int) = true := by simp; omega
      rw [show ((0 : Nat) : Int) = 0 from rfl] at hz
      show runP 3 (B__law_is_same (F__law_is_same (n + 1))) _ = _
      unfold B__law_is_same
      simp [hr, hz, PyData.eqv, -rngOk, -Y.loop, -Y.upTo]
end Z
namespace Z
open PySem PySem.Spec PyProof.Rows L2 Y
theorem cell_eq (ns : List Int) (k : Nat) : F__law_cell [.scr ns, .dat (.int k)] = some (.int (ns.getD k 0)) := by
  by_cases h : k < ns.length
  · have h2 : ((k : Int) < (ns.length : Int)) := by omega
    simp [F__law_cell, B__law_cell, h2, atI, ixN, h]
  · have h2 : ¬ ((k : Int) < (ns.length : Int)) := by omega
    simp [F__law_cell, B__law_cell, h2, h]
theorem cell0 (ns : List Int) : F__law_cell [.scr ns, .dat (.int 0)] = some (.int (ns.getD 0 0)) := cell_eq ns 0
theorem cell1 (ns : List Int) : F__law_cell [.scr ns, .dat (.int 1)] = some (.int (ns.getD 1 0)) := cell_eq ns 1
theorem cell2 (ns : List Int) : F__law_cell [.scr ns, .dat (.int 2)] = some (.int (ns.getD 2 0)) := cell_eq ns 2
theorem cell3 (ns : List Int) : F__law_cell [.scr ns, .dat (.int 3)] = some (.int (ns.getD 3 0)) := cell_eq ns 3
theorem cell4 (ns : List Int) : F__law_cell [.scr ns, .dat (.int 4)] = some (.int (ns.getD 4 0)) := cell_eq ns 4
end Z
namespace Z
open PySem PySem.Spec PyProof.Rows L2 Y
theorem spot_eq (c : Int) : ∃ p : Sg, F__law_spot [.dat (.int c)] = some (sgD p) := by
  by_cases h : c % 200 / 80 = 2
  · exact ⟨⟨none, c % 200 % 2 == 1⟩, by simp [F__law_spot, B__law_spot, sgD, foD, PyData.eqv, h]⟩
  · exact ⟨⟨some ⟨c % 200 / 2 % 10, c % 200 / 20 % 2 == 1, c % 200 / 40 % 2 == 1⟩, c % 200 % 2 == 1⟩, by simp [F__law_spot, B__law_spot, sgD, foD, fdD, PyData.eqv, h]⟩
end Z
namespace Z
open PySem PySem.Spec PyProof.Rows L2 Y
theorem ldef_eq (f : Fo) (s : Bool) (n : Fd) : F__law_defines [.dat (foD f), .dat (.bool s), .dat (fdD n)] = some (.bool (letsM f s n)) := by
  match f, s, n with
  | none, true, n => kernel_rfl
  | none, false, n => kernel_rfl
  | some ⟨v, c, true⟩, s, n => kernel_rfl
  | some ⟨v, c, false⟩, s, ⟨v', c', true⟩ => kernel_rfl
  | some ⟨v, true, false⟩, s, ⟨v', c', false⟩ => kernel_rfl
  | some ⟨v, false, false⟩, s, ⟨v', c', false⟩ =>
    have e : F__law_defines [.dat (foD (some ⟨v, false, false⟩)), .dat (.bool s), .dat (fdD ⟨v', c', false⟩)] = some (.bool (PyData.eqv (fdD ⟨v, false, false⟩) (fdD ⟨v', c', false⟩))) := by kernel_rfl
    rw [e, eqv_fd]
    rfl
theorem lact_eq (p : Sg) (d : Dd) : F__law_act [.dat (foD p.f), .dat (.bool p.s), .dat (ddD d)] = some (.list [(actM p d).1, foD (actM p d).2.f, .bool (actM p d).2.s]) := by
  match p, d with
  | ⟨none, s⟩, .look x => kernel_rfl
  | ⟨some f, s⟩, .look x => kernel_rfl
  | ⟨none, s⟩, .has x => kernel_rfl
  | ⟨some f, s⟩, .has x => kernel_rfl
  | ⟨none, s⟩, .get x => kernel_rfl
  | ⟨some f, s⟩, .get x => kernel_rfl
  | ⟨none, true⟩, .set x v => kernel_rfl
  | ⟨none, false⟩, .set x v => kernel_rfl
  | ⟨some ⟨v', true, g⟩, s⟩, .set x v => kernel_rfl
  | ⟨some ⟨v', false, g⟩, s⟩, .set x v => kernel_rfl
  | ⟨none, s⟩, .take x => kernel_rfl
  | ⟨some ⟨v', c, true⟩, s⟩, .take x => kernel_rfl
  | ⟨some ⟨v', c, false⟩, s⟩, .take x => kernel_rfl
  | ⟨f, s⟩, .shut => kernel_rfl
  | ⟨f, s⟩, .isshut => kernel_rfl
  | ⟨f, s⟩, .define x n =>
    have h2 : F__law_defines [.dat (foD f), .dat (.bool s), .dat (.tuple [.int n.v, .bool n.c, .bool n.g])] = some (.bool (letsM f s n)) := ldef_eq f s n
    simp only [actM]
    cases q : letsM f s n <;> rw [q] at h2 <;> simp (decide := true) [F__law_act, B__law_act, ddD, PyData.eqv, at_0, at_2, at_3, at_4, ix_t, h2, -semIx, foD_some, fdD]
end Z
namespace Z
open PySem PySem.Spec PyProof.Rows L2 Y
theorem lets_eq (f : Fo) (s : Bool) (n : Fd) : F_lets_define [.dat (foD f), .dat (.bool s), .dat (fdD n)] = some (.bool (letsM f s n)) := by
  match f, s, n with
  | none, true, n => kernel_rfl
  | none, false, n => kernel_rfl
  | some ⟨v, c, true⟩, s, n => kernel_rfl
  | some ⟨v, c, false⟩, s, ⟨v', c', true⟩ => kernel_rfl
  | some ⟨v, true, false⟩, s, ⟨v', c', false⟩ => kernel_rfl
  | some ⟨v, false, false⟩, s, ⟨v', c', false⟩ =>
    have e : F_lets_define [.dat (foD (some ⟨v, false, false⟩)), .dat (.bool s), .dat (fdD ⟨v', c', false⟩)] = some (.bool (PyData.eqv (fdD ⟨v, false, false⟩) (fdD ⟨v', c', false⟩))) := by kernel_rfl
    rw [e, eqv_fd]
    rfl
end Z
namespace Z
open PySem PySem.Spec PyProof.Rows L2 Y
def passM (p q : Sg) : Bool := if (p.s && !q.s) = true then false else if p.f = q.f then true else match q.f with
  | none => (match p.f with | none => false | some o => o.g)
  | some n => letsM p.f p.s n
theorem isN_fo (n : Fd) : isNone (.dat (foD (some n))) = false := rfl
theorem eqv_fo (a b : Fo) : PyData.eqv (foD a) (foD b) = decide (a = b) := by
  match a, b with
  | none, none => rfl
  | none, some ⟨v, c, g⟩ => rfl
  | some ⟨v, c, g⟩, none => rfl
  | some f, some h =>
    show PyData.eqv (fdD f) (fdD h) = _
    rw [eqv_fd]
    simp
theorem eqOk_fo (a b : Fo) : eqOk (foD a) (foD b) = true := by
  match a, b with
  | none, none => rfl
  | none, some ⟨v, c, g⟩ => kernel_rfl
  | some ⟨v, c, g⟩, none => kernel_rfl
  | some ⟨v, c, g⟩, some ⟨v', c', g'⟩ => kernel_rfl
theorem passM_act (p q : Sg) (d : Dd) (h : passM p q = true) : passM p (actM q d).2 = true := by
  obtain ⟨pf, ps⟩ := p
  obtain ⟨qf, qs⟩ := q
  cases d with
  | look x => exact h
  | has x => exact h
  | get x => exact h
  | isshut => exact h
  | shut =>
    simp only [actM, passM] at h ⊢
    grind
  | set x v =>
    simp only [actM, passM, letsM] at h ⊢
    cases pf <;> cases qf <;> cases ps <;> cases qs <;> grind
  | define x n =>
    simp only [actM, passM, letsM] at h ⊢
    cases pf <;> cases qf <;> cases ps <;> cases qs <;> grind
  | take x =>
    simp only [actM, passM, letsM] at h ⊢
    cases pf <;> cases qf <;> cases ps <;> cases qs <;> grind
theorem passM_refl (p : Sg) : passM p p = true := by
  obtain ⟨f, s⟩ := p
  cases s <;> simp [passM]
end Z
namespace Z
open PySem PySem.Spec PyProof.Rows L2 Y
theorem can_pass_eq (p q : Sg) : F_can_pass [.dat (sgD p), .dat (sgD q)] = some (.bool (passM p q)) := by
  obtain ⟨pf, ps⟩ := p
  obtain ⟨qf, qs⟩ := q
  match ps, qs with
  | true, false => kernel_rfl
  | true, true =>
    by_cases h : pf = qf
    · simp [F_can_pass, B_can_pass, sgD, at_0, at_1, ix_t, eqOk_fo, eqv_fo, h, passM, -semIx, -eqOk]
    · cases qf with
      | none =>
        cases pf with
        | none => exact absurd rfl h
        | some o => cases qs <;> kernel_rfl
      | some n =>
        have hl := lets_eq pf true n
        rw [← foD_some] at hl
        cases q : letsM pf true n <;> rw [q] at hl <;> simp [F_can_pass, B_can_pass, sgD, at_0, at_1, ix_t, eqOk_fo, eqv_fo, h, passM, hl, q, -semIx, -eqOk, -isNone, isN_fo]
  | false, qs =>
    by_cases h : pf = qf
    · cases qs <;> simp [F_can_pass, B_can_pass, sgD, at_0, at_1, ix_t, eqOk_fo, eqv_fo, h, passM, -semIx, -eqOk]
    · cases qf with
      | none =>
        cases pf with
        | none => exact absurd rfl h
        | some o => cases qs <;> kernel_rfl
      | some n =>
        have hl := lets_eq pf false n
        rw [← foD_some] at hl
        cases q : letsM pf false n <;> rw [q] at hl <;> cases qs <;> simp [F_can_pass, B_can_pass, sgD, at_0, at_1, ix_t, eqOk_fo, eqv_fo, h, passM, hl, q, -semIx, -eqOk, -isNone, isN_fo]
theorem law_pass_eq (p q : Sg) : F__law_passes [.dat (sgD p), .dat (sgD q)] = some (.bool (passM p q)) := by
  obtain ⟨pf, ps⟩ := p
  obtain ⟨qf, qs⟩ := q
  match ps, qs with
  | true, false => kernel_rfl
  | true, true =>
    by_cases h : pf = qf
    · simp [F__law_passes, B__law_passes, sgD, at_0, at_1, ix_t, eqOk_fo, eqv_fo, h, passM, -semIx, -eqOk]
    · cases qf with
      | none =>
        cases pf with
        | none => exact absurd rfl h
        | some o => cases qs <;> kernel_rfl
      | some n =>
        have hl := ldef_eq pf true n
        rw [← foD_some] at hl
        cases q : letsM pf true n <;> rw [q] at hl <;> simp [F__law_passes, B__law_passes, sgD, at_0, at_1, ix_t, eqOk_fo, eqv_fo, h, passM, hl, q, -semIx, -eqOk, -isNone, isN_fo]
  | false, qs =>
    by_cases h : pf = qf
    · cases qs <;> simp [F__law_passes, B__law_passes, sgD, at_0, at_1, ix_t, eqOk_fo, eqv_fo, h, passM, -semIx, -eqOk]
    · cases qf with
      | none =>
        cases pf with
        | none => exact absurd rfl h
        | some o => cases qs <;> kernel_rfl
      | some n =>
        have hl := ldef_eq pf false n
        rw [← foD_some] at hl
        cases q : letsM pf false n <;> rw [q] at hl <;> cases qs <;> simp [F__law_passes, B__law_passes, sgD, at_0, at_1, ix_t, eqOk_fo, eqv_fo, h, passM, hl, q, -semIx, -eqOk, -isNone, isN_fo]
end Z
namespace Z
open PySem PySem.Spec PyProof.Rows L2 Y
def T_law : IS :=
    (sSeq (sAsg (iListG F_way (iCons (iVar 1) (iCons (iVar 2) iNil))) (gNm 4))
    (sSeq (sIf (bNot (tru (iCall F__law_passes (iCons (iVar 1) (iCons (iVar 2) iNil))))) (sRet (i2 semEq (iVar 4) (iLst iNil))) sPass)
    (sSeq (sAsg (iLstC iNil) (gNm 5))
    (sSeq (sIf (tru1 (i2 semNe (i2 semIx (iVar 1) (iC (.int 0))) (i2 semIx (iVar 2) (iC (.int 0))))) (sSeq (sAsg (iLstC (iCons (iTpl (iCons (iC (.str "take")) (iCons (iC (.str "a")) iNil))) iNil)) (gNm 5))
    (sIf (tru1 (i2 semIsNot (i2 semIx (iVar 2) (iC (.int 0))) (iC .none))) (sAsg (iLstC (iCons (iTpl (iCons (iC (.str "define")) (iCons (iC (.str "a")) (iCons (i2 semIx (i2 semIx (iVar 2) (iC (.int 0))) (iC (.int 0))) (iCons (i2 semIx (i2 semIx (iVar 2) (iC (.int 0))) (iC (.int 1))) (iCons (i2 semIx (i2 semIx (iVar 2) (iC (.int 0))) (iC (.int 2))) iNil)))))) iNil)) (gNm 5)) sPass)) sPass)
    (sSeq (sIf (bAnd (tru (i2 semIx (iVar 2) (iC (.int 1)))) (bNot (tru (i2 semIx (iVar 1) (iC (.int 1)))))) (sDrop (iML semApp (iVar 5) (iCons (iTpl (iCons (iC (.str "shut")) iNil)) iNil))) sPass)
    (sSeq (sAsg (iVar 1) (gNm 6))
    (sSeq (sFrzV 5 (sFor (iAny (iVar 5)) (gNm 7) L_law_1))
    (sRet (vAnd (i2 semEq (iVar 6) (iVar 2)) (vAnd (iCallL (F__law_is_same 8) (iCons (iVar 4) (iCons (iVar 5) iNil))) (iCallL (F__law_is_same 8) (iCons (iListG F_way (iCons (iVar 1) (iCons (iVar 2) iNil))) (iCons (iVar 5) iNil)))))))))))))
theorem B_split : B_law = (sSeq (sAsg (iCall F__law_spot (iCons (iCall F__law_cell (iCons (iVar 0) (iCons (iC (.int 0)) iNil))) iNil)) (gNm 1))
    (sSeq (sAsg (iCall F__law_spot (iCons (iCall F__law_cell (iCons (iVar 0) (iCons (iC (.int 1)) iNil))) iNil)) (gNm 2))
    (sSeq (sAsg (i2 semMod (iCall F__law_cell (iCons (iVar 0) (iCons (iC (.int 2)) iNil))) (iC (.int 4))) (gNm 3))
    (sSeq (sIf (bAnd (tru1 (i2 semIsNot (i2 semIx (iVar 1) (iC (.int 0))) (iC .none))) (bAnd (tru1 (i2 semIsNot (i2 semIx (iVar 2) (iC (.int 0))) (iC .none))) (tru1 (i2 semGt (iVar 3) (iC (.int 1)))))) (sAsg (iTpl (iCons (iTpl (iCons (i2 semIx (i2 semIx (iVar 1) (iC (.int 0))) (iC (.int 0))) (iCons (i2 semIx (i2 semIx (iVar 2) (iC (.int 0))) (iC (.int 1))) (iCons (i2 semIx (i2 semIx (iVar 2) (iC (.int 0))) (iC (.int 2))) iNil)))) (iCons (i2 semIx (iVar 2) (iC (.int 1))) iNil))) (gNm 2)) sPass)
    (sSeq (sIf (tru1 (i2 semEq (iVar 3) (iC (.int 3)))) (sAsg (iTpl (iCons (i2 semIx (iVar 1) (iC (.int 0))) (iCons (i2 semIx (iVar 2) (iC (.int 1))) iNil))) (gNm 2)) sPass)
    T_law))))) := rfl
def wayM (p q : Sg) : List PyData := if passM p q = true then (if p.f = q.f then [] else [match q.f with
    | none => ddD (.take "a")
    | some n => ddD (.define "a" n)]) ++ (if (q.s && !p.s) = true then [ddD .shut] else []) else []
theorem ne_fo (S : Sto) (a b : Fo) : semNe S (.dat (foD a)) (.dat (foD b)) = some (.dat (.bool (!decide (a = b))), S) := by
  simp [eqOk_fo, eqv_fo, -eqOk]
theorem eq_sg (S : Sto) (f : Fo) (s : Bool) : semEq S (.dat (.tuple [foD f, .bool s])) (.dat (.tuple [foD f, .bool s])) = some (.dat (.bool true), S) := by
  match f with
  | none => cases s <;> kernel_rfl
  | some ⟨v, c, g⟩ =>
    have h := eqv_fd ⟨v, c, g⟩ ⟨v, c, g⟩
    simp only [fdD] at h
    simp [foD, fdD, PyData.eqv, PyData.eqvAll] at h ⊢
    kernel_rfl
theorem way_eq (p q : Sg) : F_way [.dat (sgD p), .dat (sgD q)] = some (wayM p q) := by
  have hc := can_pass_eq p q
  obtain ⟨pf, ps⟩ := p
  obtain ⟨qf, qs⟩ := q
  cases h : passM ⟨pf, ps⟩ ⟨qf, qs⟩ with
  | false =>
    rw [h] at hc
    simp only [sgD] at hc
    simp [F_way, B_way, sgD, hc, wayM, h, -semIx]
  | true =>
    rw [h] at hc
    simp only [sgD] at hc
    by_cases e : pf = qf
    · subst e
      cases ps <;> cases qs <;> simp [F_way, B_way, sgD, hc, wayM, h, ddD, at_0, at_1, ix_t, ne_fo, -semIx, -semNe]
    · cases qf with
      | none =>
        simp only [foD_none] at hc
        cases ps <;> cases qs <;> simp [F_way, B_way, sgD, hc, wayM, h, ddD, at_0, at_1, ix_t, foD_none, e, -semIx, -semNe, show ∀ S, semNe S (.dat (foD pf)) (.dat .none) = some (.dat (.bool true), S) from fun S => (ne_fo S pf none).trans (by simp [e])]
      | some n =>
        simp only [foD_some, fdD] at hc
        cases ps <;> cases qs <;> simp [F_way, B_way, sgD, hc, wayM, h, ddD, at_0, at_1, at_2, ix_t, foD_some, fdD, e, -semIx, -semNe, show ∀ S, semNe S (.dat (foD pf)) (.dat (.tuple [.int n.v, .bool n.c, .bool n.g])) = some (.dat (.bool true), S) from fun S => (ne_fo S pf (some n)).trans (by simp [e])]
end Z
namespace Z
open PySem PySem.Spec PyProof.Rows L2 Y
theorem dds_gd (l : List Dd) (h : l.length ≤ 5) : Gd 2 (.list (l.map ddD)) := by
  refine .lst (fun d hd => ?_) (by rw [List.length_map]; omega)
  obtain ⟨e, he, rfl⟩ := List.mem_map.mp hd
  cases e <;> refine .tup (fun d hd => ?_) (by simp) <;> simp only [List.mem_cons, List.not_mem_nil, or_false] at hd
  · rcases hd with rfl | rfl <;> exact .str
  · rcases hd with rfl | rfl <;> exact .str
  · rcases hd with rfl | rfl <;> exact .str
  · rcases hd with rfl | rfl | rfl <;> first | exact .str | exact .int
  · rcases hd with rfl | rfl | rfl | rfl | rfl <;> first | exact .str | exact .int | exact .bl
  · rcases hd with rfl | rfl <;> exact .str
  · subst hd; exact .str
  · subst hd; exact .str
theorem same_dds (l : List Dd) (h : l.length ≤ 5) : F__law_is_same 8 [.dat (.list (l.map ddD)), .dat (.list (l.map ddD))] = some (.bool true) := same_refl 7 _ ((dds_gd l h).up (by decide))
theorem tail_eq (ns : List Int) (c : Int) (p q : Sg) : (T_law [some (.scr ns), some (.dat (sgD p)), some (.dat (sgD q)), some (.dat (.int c)), none, none, none, none, none] []).map (·.1) = some (.rt (.dat (.bool true))) := by
  have hw := way_eq p q
  have hl := law_pass_eq p q
  have s0 := same_dds [] (by decide)
  have s1 := same_dds [.shut] (by decide)
  have s2 := same_dds [.take "a"] (by decide)
  have s3 := same_dds [.take "a", .shut] (by decide)
  obtain ⟨pf, ps⟩ := p
  obtain ⟨qf, qs⟩ := q
  cases h : passM ⟨pf, ps⟩ ⟨qf, qs⟩ with
  | false =>
    rw [h] at hl
    simp only [sgD, wayM, h, Bool.false_eq_true, if_false] at hl hw
    simp [T_law, sgD, hl, hw, -semIx]; kernel_rfl
  | true =>
    rw [h] at hl
    by_cases e : pf = qf
    · subst e
      have la := lact_eq ⟨pf, ps⟩ .shut
      simp only [sgD, wayM, h, if_true, actM, ddD] at hl hw la s0 s1 s2 s3
      cases ps <;> cases qs <;> simp [passM] at h
      · simp [ddD] at hw s0
        simp [T_law, sgD, hl, hw, at_0, at_1, ix_t, ne_fo, eq_sg, s0, -semIx, -semNe, -semEq]
      · simp [ddD] at hw s1
        simp [T_law, L_law_1, sgD, hl, hw, la, at_0, at_1, at_2, ix_t, ix_l, ne_fo, eq_sg, s1, isL, -semIx, -semNe, -semEq]
      · simp [ddD] at hw s0
        simp [T_law, sgD, hl, hw, at_0, at_1, ix_t, ne_fo, eq_sg, s0, -semIx, -semNe, -semEq]
    · cases qf with
      | none =>
        have hne : ∀ S, semNe S (.dat (foD pf)) (.dat .none) = some (.dat (.bool true), S) := fun S => (ne_fo S pf none).trans (by simp [e])
        have e0 : ∀ S s, semEq S (.dat (.tuple [.none, .bool s])) (.dat (.tuple [.none, .bool s])) = some (.dat (.bool true), S) := fun S s => eq_sg S none s
        cases pf with
        | none => exact absurd rfl e
        | some o =>
          have hg : o.g = true := by
            simp only [passM] at h
            cases ps <;> cases qs <;> simp at h <;> exact h
          have la := lact_eq ⟨some o, ps⟩ (.take "a")
          have lb := lact_eq ⟨none, ps⟩ .shut
          simp only [sgD, wayM, h, if_true, actM, ddD, hg, e, if_false, foD_none] at hl hw la lb
          have hps : ps = false ∨ qs = true := by
            cases ps <;> cases qs <;> simp [passM] at h ⊢
          cases ps <;> cases qs
          · simp [ddD] at hw s2
            simp [T_law, L_law_1, sgD, hl, hw, la, at_0, at_1, at_2, ix_t, ix_l, hne, e0, foD_none, s2, isL, -semIx, -semNe, -semEq]
          · simp [ddD] at hw s3
            simp [T_law, L_law_1, sgD, hl, hw, la, lb, at_0, at_1, at_2, ix_t, ix_l, hne, e0, foD_none, s3, isL, -semIx, -semNe, -semEq]
          · simp at hps
          · simp [ddD] at hw s2
            simp [T_law, L_law_1, sgD, hl, hw, la, at_0, at_1, at_2, ix_t, ix_l, hne, e0, foD_none, s2, isL, -semIx, -semNe, -semEq]
      | some n =>
        have s4 := same_dds [.define "a" n] (by simp)
        have s5 := same_dds [.define "a" n, .shut] (by simp)
        have hne : ∀ S, semNe S (.dat (foD pf)) (.dat (.tuple [.int n.v, .bool n.c, .bool n.g])) = some (.dat (.bool true), S) := fun S => (ne_fo S pf (some n)).trans (by simp [e])
        have e0 : ∀ S s, semEq S (.dat (.tuple [.tuple [.int n.v, .bool n.c, .bool n.g], .bool s])) (.dat (.tuple [.tuple [.int n.v, .bool n.c, .bool n.g], .bool s])) = some (.dat (.bool true), S) := fun S s => eq_sg S (some n) s
        have hg : letsM pf ps n = true := by
          simp only [passM, e, if_false] at h
          cases ps <;> cases qs <;> simp at h <;> exact h
        have la := lact_eq ⟨pf, ps⟩ (.define "a" n)
        have lb := lact_eq ⟨some n, ps⟩ .shut
        simp only [sgD, wayM, h, if_true, actM, ddD, hg, e, if_false, foD_some, fdD] at hl hw la lb
        have hps : ps = false ∨ qs = true := by
          cases ps <;> cases qs <;> simp [passM] at h ⊢
        cases ps <;> cases qs
        · simp [ddD] at hw s4
          simp [T_law, L_law_1, sgD, hl, hw, la, at_0, at_1, at_2, ix_t, ix_l, hne, e0, foD_some, fdD, s4, isL, -semIx, -semNe, -semEq]
        · simp [ddD] at hw s5
          simp [T_law, L_law_1, sgD, hl, hw, la, lb, at_0, at_1, at_2, ix_t, ix_l, hne, e0, foD_some, fdD, s5, isL, -semIx, -semNe, -semEq]
        · simp at hps
        · simp [ddD] at hw s4
          simp [T_law, L_law_1, sgD, hl, hw, la, at_0, at_1, at_2, ix_t, ix_l, hne, e0, foD_some, fdD, s4, isL, -semIx, -semNe, -semEq]
theorem main_law (ns : List Int) (_ : ns.length ≤ 63) : F_law [.scr ns] = some (.bool true) := by
  obtain ⟨p, hs⟩ := spot_eq (ns.getD 0 0)
  obtain ⟨o, ho⟩ := spot_eq (ns.getD 1 0)
  have key : ∀ q : Sg, ∃ S', T_law [some (.scr ns), some (.dat (sgD p)), some (.dat (sgD q)), some (.dat (.int (ns.getD 2 0 % 4))), none, none, none, none, none] [] = some (.rt (.dat (.bool true)), S') := fun q => by
    obtain ⟨⟨fl, S'⟩, e1, e2⟩ := map_some' (tail_eq ns (ns.getD 2 0 % 4) p q)
    cases e2
    exact ⟨S', e1⟩
  have hF : F_law = runP 9 B_law := rfl
  rw [hF, B_split]
  generalize T_law = T at key
  obtain ⟨pf, ps⟩ := p
  obtain ⟨of, os⟩ := o
  by_cases h3 : ns.getD 2 0 % 4 = 3
  · obtain ⟨S', k1⟩ := key ⟨pf, os⟩
    rw [h3] at k1
    cases pf with
    | none =>
      simp only [sgD, foD_none] at hs ho k1
      simp [cell0, cell1, cell2, hs, ho, h3, at_0, at_1, ix_t, eqv_ii, k1, -semIx, -List.getD_eq_getElem?_getD]
    | some a =>
      cases of with
      | none =>
        simp only [sgD, foD_none, foD_some, fdD] at hs ho k1
        simp [cell0, cell1, cell2, hs, ho, h3, at_0, at_1, ix_t, eqv_ii, k1, -semIx, -List.getD_eq_getElem?_getD]
      | some b =>
        simp only [sgD, foD_none, foD_some, fdD] at hs ho k1
        simp [cell0, cell1, cell2, hs, ho, h3, at_0, at_1, at_2, ix_t, eqv_ii, k1, -semIx, -List.getD_eq_getElem?_getD]
  · cases pf with
    | none =>
      obtain ⟨S', k1⟩ := key ⟨of, os⟩
      simp only [sgD, foD_none] at hs ho k1
      simp [cell0, cell1, cell2, hs, ho, h3, at_0, at_1, ix_t, eqv_ii, k1, -semIx, -List.getD_eq_getElem?_getD]
    | some a =>
      cases of with
      | none =>
        obtain ⟨S', k1⟩ := key ⟨none, os⟩
        simp only [sgD, foD_none, foD_some, fdD] at hs ho k1
        simp [cell0, cell1, cell2, hs, ho, h3, at_0, at_1, ix_t, eqv_ii, k1, -semIx, -List.getD_eq_getElem?_getD]
      | some b =>
        by_cases h2 : ns.getD 2 0 % 4 > 1
        · obtain ⟨S', k1⟩ := key ⟨some ⟨a.v, b.c, b.g⟩, os⟩
          simp only [sgD, foD_none, foD_some, fdD] at hs ho k1
          simp [cell0, cell1, cell2, hs, ho, h3, h2, at_0, at_1, at_2, ix_t, eqv_ii, k1, -semIx, -List.getD_eq_getElem?_getD]
        · obtain ⟨S', k1⟩ := key ⟨some b, os⟩
          simp only [sgD, foD_none, foD_some, fdD] at hs ho k1
          simp [cell0, cell1, cell2, hs, ho, h3, h2, at_0, at_1, at_2, ix_t, eqv_ii, k1, -semIx, -List.getD_eq_getElem?_getD]
end Z
namespace Z
open PySem PySem.Spec PyProof.Rows L2 Y
theorem all_mk {l : PySem.W.OpenLaw} {w : World} {K : PySem.W.Frag} {h : Heap} {mg : Str → Option Value} {fa : Addr} (X : K.In h) (G : h.Ns mainGlobals mg) (hfa : mg "law" = some (.ref fa))
    {f0 : Addr} {od0 an0 : Option Addr} {sl0 : Array (Option Value)} {oc0 kV0 dc0 pm0 cd0 ct0 : Value}
    (a0 : PySem.W.nsIn K mainGlobals "_law_spot" = some (some (.ref f0))) (l0 : K.lookup f0 = some ⟨oc0, od0, .func (PySem.W.fnOf "_law_spot" "_law_spot" (defArgs s__law_spot) (defBody s__law_spot) (defScope s__law_spot) .none kV0 dc0 pm0 an0 cd0 ct0), sl0⟩) (c0 : PySem.W.codeIn K cd0 "_law_spot" = true) (k0 : PySem.W.keepIn K (.ref f0) = true)
    {f1 : Addr} {od1 an1 : Option Addr} {sl1 : Array (Option Value)} {oc1 kV1 dc1 pm1 cd1 ct1 : Value}
    (a1 : PySem.W.nsIn K mainGlobals "_law_cell" = some (some (.ref f1))) (l1 : K.lookup f1 = some ⟨oc1, od1, .func (PySem.W.fnOf "_law_cell" "_law_cell" (defArgs s__law_cell) (defBody s__law_cell) (defScope s__law_cell) .none kV1 dc1 pm1 an1 cd1 ct1), sl1⟩) (c1 : PySem.W.codeIn K cd1 "_law_cell" = true) (k1 : PySem.W.keepIn K (.ref f1) = true)
    {f2 : Addr} {od2 an2 : Option Addr} {sl2 : Array (Option Value)} {oc2 kV2 dc2 pm2 cd2 ct2 : Value}
    (a2 : PySem.W.nsIn K mainGlobals "lets_define" = some (some (.ref f2))) (l2 : K.lookup f2 = some ⟨oc2, od2, .func (PySem.W.fnOf "lets_define" "lets_define" (defArgs s_lets_define) (defBody s_lets_define) (defScope s_lets_define) .none kV2 dc2 pm2 an2 cd2 ct2), sl2⟩) (c2 : PySem.W.codeIn K cd2 "lets_define" = true) (k2 : PySem.W.keepIn K (.ref f2) = true)
    {f3 : Addr} {od3 an3 : Option Addr} {sl3 : Array (Option Value)} {oc3 kV3 dc3 pm3 cd3 ct3 : Value}
    (a3 : PySem.W.nsIn K mainGlobals "can_pass" = some (some (.ref f3))) (l3 : K.lookup f3 = some ⟨oc3, od3, .func (PySem.W.fnOf "can_pass" "can_pass" (defArgs s_can_pass) (defBody s_can_pass) (defScope s_can_pass) .none kV3 dc3 pm3 an3 cd3 ct3), sl3⟩) (c3 : PySem.W.codeIn K cd3 "can_pass" = true) (k3 : PySem.W.keepIn K (.ref f3) = true)
    {f4 : Addr} {od4 an4 : Option Addr} {sl4 : Array (Option Value)} {oc4 kV4 dc4 pm4 cd4 ct4 : Value}
    (a4 : PySem.W.nsIn K mainGlobals "way" = some (some (.ref f4))) (l4 : K.lookup f4 = some ⟨oc4, od4, .func (PySem.W.fnOf "way" "way" (defArgs s_way) (defBody s_way) (defScope s_way) .none kV4 dc4 pm4 an4 cd4 ct4), sl4⟩) (c4 : PySem.W.codeIn K cd4 "way" = true) (k4 : PySem.W.keepIn K (.ref f4) = true)
    {f5 : Addr} {od5 an5 : Option Addr} {sl5 : Array (Option Value)} {oc5 kV5 dc5 pm5 cd5 ct5 : Value}
    (a5 : PySem.W.nsIn K mainGlobals "_law_defines" = some (some (.ref f5))) (l5 : K.lookup f5 = some ⟨oc5, od5, .func (PySem.W.fnOf "_law_defines" "_law_defines" (defArgs s__law_defines) (defBody s__law_defines) (defScope s__law_defines) .none kV5 dc5 pm5 an5 cd5 ct5), sl5⟩) (c5 : PySem.W.codeIn K cd5 "_law_defines" = true) (k5 : PySem.W.keepIn K (.ref f5) = true)
    {f6 : Addr} {od6 an6 : Option Addr} {sl6 : Array (Option Value)} {oc6 kV6 dc6 pm6 cd6 ct6 : Value}
    (a6 : PySem.W.nsIn K mainGlobals "_law_passes" = some (some (.ref f6))) (l6 : K.lookup f6 = some ⟨oc6, od6, .func (PySem.W.fnOf "_law_passes" "_law_passes" (defArgs s__law_passes) (defBody s__law_passes) (defScope s__law_passes) .none kV6 dc6 pm6 an6 cd6 ct6), sl6⟩) (c6 : PySem.W.codeIn K cd6 "_law_passes" = true) (k6 : PySem.W.keepIn K (.ref f6) = true)
    {f7 : Addr} {od7 an7 : Option Addr} {sl7 : Array (Option Value)} {oc7 kV7 dc7 pm7 cd7 ct7 : Value}
    (a7 : PySem.W.nsIn K mainGlobals "_law_act" = some (some (.ref f7))) (l7 : K.lookup f7 = some ⟨oc7, od7, .func (PySem.W.fnOf "_law_act" "_law_act" (defArgs s__law_act) (defBody s__law_act) (defScope s__law_act) .none kV7 dc7 pm7 an7 cd7 ct7), sl7⟩) (c7 : PySem.W.codeIn K cd7 "_law_act" = true) (k7 : PySem.W.keepIn K (.ref f7) = true)
    {f8 : Addr} {od8 an8 : Option Addr} {sl8 : Array (Option Value)} {oc8 kV8 dc8 pm8 cd8 ct8 : Value}
    (a8 : PySem.W.nsIn K mainGlobals "_law_is_same" = some (some (.ref f8))) (l8 : K.lookup f8 = some ⟨oc8, od8, .func (PySem.W.fnOf "_law_is_same" "_law_is_same" (defArgs s__law_is_same) (defBody s__law_is_same) (defScope s__law_is_same) .none kV8 dc8 pm8 an8 cd8 ct8), sl8⟩) (c8 : PySem.W.codeIn K cd8 "_law_is_same" = true) (k8 : PySem.W.keepIn K (.ref f8) = true)
    {f9 : Addr} {od9 an9 : Option Addr} {sl9 : Array (Option Value)} {oc9 kV9 dc9 pm9 cd9 ct9 : Value}
    (a9 : PySem.W.nsIn K mainGlobals "law" = some (some (.ref f9))) (l9 : K.lookup f9 = some ⟨oc9, od9, .func (PySem.W.fnOf "law" "law" (defArgs s_law) (defBody s_law) (defScope s_law) .none kV9 dc9 pm9 an9 cd9 ct9), sl9⟩) (c9 : PySem.W.codeIn K cd9 "law" = true) (k9 : PySem.W.keepIn K (.ref f9) = true)
    (z0 : PySem.W.nsIn K mainGlobals "int" = some none)
    (z1 : PySem.W.nsIn K mainGlobals "len" = some none)
    (z2 : PySem.W.nsIn K mainGlobals "isinstance" = some none)
    (z3 : PySem.W.nsIn K mainGlobals "tuple" = some none)
    (z4 : PySem.W.nsIn K mainGlobals "list" = some none)
    (z5 : PySem.W.nsIn K mainGlobals "range" = some none)
    (z6 : PySem.W.nsIn K mainGlobals "bool" = some none)
    (z7 : PySem.W.nsIn K mainGlobals "str" = some none)
    (main : ∀ ns : List Int, ns.length ≤ 63 → F_law [.scr ns] = some (.bool true)) :
    ∃ fd : FuncData, (∀ (s : Shared) (v : Value), BindsTo s fd ⟨[v], []⟩ [("_law_script", v)]) ∧ ∀ base : Heap, K.In base → base.Ns mainGlobals mg → FnOk l.prog w K mg base CX0 10 fa fd ["_law_script"] (spLaw K) := by
  have e := hfa.symm.trans (PySem.W.mg_of X G a9)
  cases e
  let t : Tx K mg := {
    f__law_spot := _, d__law_spot := _, F__law_spot := fun_mk (st := s__law_spot) l0 c0 k0, g__law_spot := PySem.W.mg_of X G a0,
    f__law_cell := _, d__law_cell := _, F__law_cell := fun_mk (st := s__law_cell) l1 c1 k1, g__law_cell := PySem.W.mg_of X G a1,
    f_lets_define := _, d_lets_define := _, F_lets_define := fun_mk (st := s_lets_define) l2 c2 k2, g_lets_define := PySem.W.mg_of X G a2,
    f_can_pass := _, d_can_pass := _, F_can_pass := fun_mk (st := s_can_pass) l3 c3 k3, g_can_pass := PySem.W.mg_of X G a3,
    f_way := _, d_way := _, F_way := fun_mk (st := s_way) l4 c4 k4, g_way := PySem.W.mg_of X G a4,
    f__law_defines := _, d__law_defines := _, F__law_defines := fun_mk (st := s__law_defines) l5 c5 k5, g__law_defines := PySem.W.mg_of X G a5,
    f__law_passes := _, d__law_passes := _, F__law_passes := fun_mk (st := s__law_passes) l6 c6 k6, g__law_passes := PySem.W.mg_of X G a6,
    f__law_act := _, d__law_act := _, F__law_act := fun_mk (st := s__law_act) l7 c7 k7, g__law_act := PySem.W.mg_of X G a7,
    f__law_is_same := _, d__law_is_same := _, F__law_is_same := fun_mk (st := s__law_is_same) l8 c8 k8, g__law_is_same := PySem.W.mg_of X G a8,
    f_law := _, d_law := _, F_law := fun_mk (st := s_law) l9 c9 k9, g_law := PySem.W.mg_of X G a9,
    z_int := PySem.W.mg_none_of X G z0, z_len := PySem.W.mg_none_of X G z1, z_isinstance := PySem.W.mg_none_of X G z2, z_tuple := PySem.W.mg_none_of X G z3, z_list := PySem.W.mg_none_of X G z4, z_range := PySem.W.mg_none_of X G z5, z_bool := PySem.W.mg_none_of X G z6, z_str := PySem.W.mg_none_of X G z7 }
  exact ⟨t.d_law, fun s v => .of_eq rfl, fun base _ _ => law_imp (ok_law t) main⟩
end Z
open PySem PySem.W PyProof.Rows
set_option maxHeartbeats 0 in
theorem PySem.Challenge.cw_lyingstandins_k06_way_holds : PySem.Challenge.rw_lyingstandins_k06_way.Holds := by
  w_on; o_law; k_head; (case hw => w_witness2)
  k_fill
  refine L2.walk_of (l := PySem.Challenge.rw_lyingstandins_k06_way) (n := 63) (k := 10) (x := "_law_script") (CX := fun _ => L2.CX0) (sp := fun w => Y.spLaw _) rfl (by decide) rfl ⟨rfl, by decide, by decide⟩ (fun w h Y => PySem.W.kIn_of Y) ?F (fun _ _ a ns hl _ hS => ⟨a, ns, rfl, hS, hl, fun _ => rfl⟩) (fun _ _ _ _ _ h => h)
  case F =>
    intro w mg fa h KX G hmg
    refine' Z.all_mk KX G hmg ?a0 ?l0 ?c0 ?k0 ?a1 ?l1 ?c1 ?k1 ?a2 ?l2 ?c2 ?k2 ?a3 ?l3 ?c3 ?k3 ?a4 ?l4 ?c4 ?k4 ?a5 ?l5 ?c5 ?k5 ?a6 ?l6 ?c6 ?k6 ?a7 ?l7 ?c7 ?k7 ?a8 ?l8 ?c8 ?k8 ?a9 ?l9 ?c9 ?k9 ?z0 ?z1 ?z2 ?z3 ?z4 ?z5 ?z6 ?z7 Z.main_law
    (case a0 => k_is)
    (case l0 => k_is)
    (case c0 => k_is)
    (case k0 => k_is)
    (case a1 => k_is)
    (case l1 => k_is)
    (case c1 => k_is)
    (case k1 => k_is)
    (case a2 => k_is)
    (case l2 => k_is)
    (case c2 => k_is)
    (case k2 => k_is)
    (case a3 => k_is)
    (case l3 => k_is)
    (case c3 => k_is)
    (case k3 => k_is)
    (case a4 => k_is)
    (case l4 => k_is)
    (case c4 => k_is)
    (case k4 => k_is)
    (case a5 => k_is)
    (case l5 => k_is)
    (case c5 => k_is)
    (case k5 => k_is)
    (case a6 => k_is)
    (case l6 => k_is)
    (case c6 => k_is)
    (case k6 => k_is)
    (case a7 => k_is)
    (case l7 => k_is)
    (case c7 => k_is)
    (case k7 => k_is)
    (case a8 => k_is)
    (case l8 => k_is)
    (case c8 => k_is)
    (case k8 => k_is)
    (case a9 => k_is)
    (case l9 => k_is)
    (case c9 => k_is)
    (case k9 => k_is)
    (case z0 => k_is)
    (case z1 => k_is)
    (case z2 => k_is)
    (case z3 => k_is)
    (case z4 => k_is)
    (case z5 => k_is)
    (case z6 => k_is)
    (case z7 => k_is)
