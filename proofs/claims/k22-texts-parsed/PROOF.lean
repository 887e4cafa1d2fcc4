import PyProof.Rows.All
import Wide.All
import OpenK.AllK
import Wide.FinOn
import PyProof.EqAt
import PyProof.EqKinds
import PyProof.TupleCall
import HandS.ForMost
import HandS.ForExc
import HandS.Wide
import HandS.WideBits
import HandS.Defaults
import PyProof.NeData
import HandS.Style
import HandS.IsInst
import HandS.Strs
import HandS.SortInts
import PyProof.StrBlock2
import PyProof.Rows.BitMore
import HandS.More
import HandS.ClsMeth
import KE.RegKIsAll
import PySem.Challenge.RW_limbmap_k22_texts_parsed
set_option Elab.async false
set_option linter.all false
set_option maxRecDepth 100000
set_option maxHeartbeats 4000000
namespace DL
open PySem L2

/-! ### data -/
inductive D where
  | non | bl (b : Bool) | int (i : Int) | str (x : Str) | ty (n : String) | ref (a : Addr)
  | tup (ds : List D) | lst (ds : List D)
  /-- the law's script -/
  | scr (ns : List Int)
  | obj (C : Addr) (ns : List Str) (ds : List D)
  | dK (ks : List Key) (ds : List D)
  | dT (ks : List (List Key)) (ds : List D)

mutual
inductive Rp (K : PySem.W.Frag) (G : Hp) : V → D → Prop
  | non : Rp K G .non .non
  | bl (b : Bool) : Rp K G (.bl b) (.bl b)
  | int (i : Int) : Rp K G (.int i) (.int i)
  | str (x : Str) : Rp K G (.str x) (.str x)
  | ty (n : String) : Rp K G (.ty n) (.ty n)
  | ref (a : Addr) : Rp K G (.ref a) (.ref a)
  | tup {a : Addr} {xs : List V} {ds : List D} : SqT K G a xs → Rps K G xs ds → Rp K G (.ref a) (.tup ds)
  | lst {a : Addr} {xs : List V} {ds : List D} : G a = some (.lst xs) → Rps K G xs ds → Rp K G (.ref a) (.lst ds)
  | scr {a : Addr} {ns : List Int} : SqL K G a (ns.map V.int) → Rp K G (.ref a) (.scr ns)
  | obj {a C dx : Addr} {fs : List (Str × V)} {ns : List Str} {ds : List D} : G a = some (.ins C dx fs) → fs.map (·.1) = ns → Rps K G (fs.map (·.2)) ds → Rp K G (.ref a) (.obj C ns ds)
  | dK {a : Addr} {kvs : List (Key × V)} {ks : List Key} {ds : List D} : G a = some (.dK kvs) → kvs.map (·.1) = ks → Rps K G (kvs.map (·.2)) ds → Rp K G (.ref a) (.dK ks ds)
  | dT {a : Addr} {kvs : List (List Key × V)} {ks : List (List Key)} {ds : List D} : G a = some (.dT kvs) → kvs.map (·.1) = ks → Rps K G (kvs.map (·.2)) ds → Rp K G (.ref a) (.dT ks ds)
inductive Rps (K : PySem.W.Frag) (G : Hp) : List V → List D → Prop
  | nil : Rps K G [] []
  | cons {v : V} {vs : List V} {d : D} {ds : List D} : Rp K G v d → Rps K G vs ds → Rps K G (v :: vs) (d :: ds)
end

theorem same_seqT {K : PySem.W.Frag} {H H' : Hp} {a : Addr} {xs : List V} (e : Same H H') (h : SqT K H a xs) : SqT K H' a xs := by
  rcases h with (h | ⟨o, h⟩) | h
  · exact .inl (.inl (e _ _ h))
  · exact .inl (.inr ⟨o, e _ _ h⟩)
  · exact .inr h

mutual
theorem Rp.mono {K : PySem.W.Frag} {G G' : Hp} (e : Same G G') : ∀ {d : D} {v : V}, Rp K G v d → Rp K G' v d
  | .non, _, h => by cases h; exact .non
  | .bl _, _, h => by cases h; exact .bl _
  | .int _, _, h => by cases h; exact .int _
  | .str _, _, h => by cases h; exact .str _
  | .ty _, _, h => by cases h; exact .ty _
  | .ref _, _, h => by cases h; exact .ref _
  | .tup _, _, h => by cases h with | tup h1 h2 => exact .tup (same_seqT e h1) (Rps.mono e h2)
  | .lst _, _, h => by cases h with | lst h1 h2 => exact .lst (e _ _ h1) (Rps.mono e h2)
  | .scr _, _, h => by cases h with | scr h1 => exact .scr (e.seq h1)
  | .obj _ _ _, _, h => by cases h with | obj h1 h2 h3 => exact .obj (e _ _ h1) h2 (Rps.mono e h3)
  | .dK _ _, _, h => by cases h with | dK h1 h2 h3 => exact .dK (e _ _ h1) h2 (Rps.mono e h3)
  | .dT _ _, _, h => by cases h with | dT h1 h2 h3 => exact .dT (e _ _ h1) h2 (Rps.mono e h3)
theorem Rps.mono {K : PySem.W.Frag} {G G' : Hp} (e : Same G G') : ∀ {ds : List D} {vs : List V}, Rps K G vs ds → Rps K G' vs ds
  | [], _, h => by cases h; exact .nil
  | _ :: _, _, h => by cases h with | cons h1 h2 => exact .cons (Rp.mono e h1) (Rps.mono e h2)
end

section
variable {K : PySem.W.Frag} {G : Hp}
theorem Rps.length : ∀ {ds : List D} {vs : List V}, Rps K G vs ds → vs.length = ds.length
  | [], _, h => by cases h; rfl
  | _ :: _, _, h => by cases h with | cons h1 h2 => simp [Rps.length h2]
theorem Rps.get : ∀ {ds : List D} {vs : List V} {i : Nat} {d : D}, Rps K G vs ds → ds[i]? = some d → ∃ v, vs[i]? = some v ∧ Rp K G v d
  | [], _, _, _, _, e => by simp at e
  | _ :: _, _, 0, _, h, e => by
    cases h with | cons h1 h2 => simp at e; subst e; exact ⟨_, rfl, h1⟩
  | _ :: _, _, i + 1, _, h, e => by
    cases h with | cons h1 h2 =>
      obtain ⟨v, e1, r⟩ := Rps.get (i := i) h2 (by simpa using e)
      exact ⟨v, by simpa using e1, r⟩
theorem Rps.get' : ∀ {ds : List D} {vs : List V} {i : Nat} {v : V}, Rps K G vs ds → vs[i]? = some v → ∃ d, ds[i]? = some d ∧ Rp K G v d := by
  intro ds vs i v h e
  have hl := h.length
  have hi : i < ds.length := by rw [← hl]; exact (List.getElem?_eq_some_iff.mp e).1
  obtain ⟨v', e1, r⟩ := h.get (List.getElem?_eq_getElem hi)
  rw [e] at e1; cases e1
  exact ⟨_, List.getElem?_eq_getElem hi, r⟩
theorem Rps.append : ∀ {ds es : List D} {vs us : List V}, Rps K G vs ds → Rps K G us es → Rps K G (vs ++ us) (ds ++ es)
  | [], _, _, _, h, k => by cases h; exact k
  | _ :: _, _, _, _, h, k => by cases h with | cons h1 h2 => exact .cons h1 (Rps.append h2 k)
theorem Rps.one {v : V} {d : D} (h : Rp K G v d) : Rps K G [v] [d] := .cons h .nil
theorem Rps.set : ∀ {ds : List D} {vs : List V} {v : V} {d : D} (i : Nat), Rps K G vs ds → Rp K G v d → Rps K G (vs.set i v) (ds.set i d)
  | [], _, _, _, _, h, _ => by cases h; exact .nil
  | _ :: _, _, _, _, 0, h, k => by cases h with | cons h1 h2 => exact .cons k h2
  | _ :: _, _, _, _, i + 1, h, k => by cases h with | cons h1 h2 => exact .cons h1 (Rps.set i h2 k)
theorem Rps.take : ∀ {ds : List D} {vs : List V} (n : Nat), Rps K G vs ds → Rps K G (vs.take n) (ds.take n)
  | _, _, 0, _ => by rw [List.take_zero, List.take_zero]; exact .nil
  | [], _, _ + 1, h => by cases h; exact .nil
  | _ :: _, _, n + 1, h => by cases h with | cons h1 h2 => exact .cons h1 (Rps.take n h2)
theorem Rps.drop : ∀ {ds : List D} {vs : List V} (n : Nat), Rps K G vs ds → Rps K G (vs.drop n) (ds.drop n)
  | _, _, 0, h => h
  | [], _, _ + 1, h => by cases h; exact .nil
  | _ :: _, _, n + 1, h => by cases h with | cons h1 h2 => exact Rps.drop n h2
theorem Rps.reverse : ∀ {ds : List D} {vs : List V}, Rps K G vs ds → Rps K G vs.reverse ds.reverse
  | [], _, h => by cases h; exact .nil
  | _ :: _, _, h => by cases h with | cons h1 h2 => rw [List.reverse_cons, List.reverse_cons]; exact (Rps.reverse h2).append (.one h1)
theorem Rps.map_int : ∀ (ns : List Int), Rps K G (ns.map V.int) (ns.map D.int)
  | [] => .nil
  | _ :: r => .cons (.int _) (Rps.map_int r)
theorem Rps.map_str : ∀ (ns : List Str), Rps K G (ns.map V.str) (ns.map D.str)
  | [] => .nil
  | _ :: r => .cons (.str _) (Rps.map_str r)
/-- lists of texts, of ints: which values -/
theorem Rps.of_str : ∀ {ns : List Str} {vs : List V}, Rps K G vs (ns.map D.str) → vs = ns.map V.str
  | [], _, h => by cases h; rfl
  | _ :: _, _, h => by cases h with | cons h1 h2 => cases h1; rw [Rps.of_str h2]; rfl
theorem Rps.of_int : ∀ {ns : List Int} {vs : List V}, Rps K G vs (ns.map D.int) → vs = ns.map V.int
  | [], _, h => by cases h; rfl
  | _ :: _, _, h => by cases h with | cons h1 h2 => cases h1; rw [Rps.of_int h2]; rfl
theorem Rps.of_bl : ∀ {ns : List Bool} {vs : List V}, Rps K G vs (ns.map D.bl) → vs = ns.map V.bl
  | [], _, h => by cases h; rfl
  | _ :: _, _, h => by cases h with | cons h1 h2 => cases h1; rw [Rps.of_bl h2]; rfl
end

/-! ### what may change: own objects -/
inductive MO where
  | lst (ds : List D) | dK (ks : List Key) (ds : List D) | dT (ks : List (List Key)) (ds : List D) | ins (C : Addr) (ns : List Str) (ds : List D)
abbrev MS := Addr → Option MO
def updM (M : MS) (a : Addr) (o : MO) : MS := fun b => if b = a then some o else M b
def delM (M : MS) (a : Addr) : MS := fun b => if b = a then none else M b
abbrev M0 : MS := fun _ => none
theorem updM_same {M : MS} {a : Addr} {o : MO} : updM M a o a = some o := by unfold updM; rw [if_pos rfl]
theorem updM_ne {M : MS} {a b : Addr} {o : MO} (h : b ≠ a) : updM M a o b = M b := by unfold updM; rw [if_neg h]
theorem delM_same {M : MS} {a : Addr} : delM M a a = none := by unfold delM; rw [if_pos rfl]
theorem delM_ne {M : MS} {a b : Addr} (h : b ≠ a) : delM M a b = M b := by unfold delM; rw [if_neg h]
theorem updM_updM {M : MS} {a : Addr} {o u : MO} : updM (updM M a o) a u = updM M a u := by funext b; unfold updM; split <;> rfl
theorem delM_updM {M : MS} {a : Addr} {o : MO} (h : M a = none) : delM (updM M a o) a = M := by
  funext b; unfold delM updM
  by_cases e : b = a
  · rw [if_pos e, e, h]
  · rw [if_neg e, if_neg e]
theorem updM_comm {M : MS} {a b : Addr} {o u : MO} (h : a ≠ b) : updM (updM M a o) b u = updM (updM M b u) a o := by
  funext c; unfold updM
  by_cases e : c = b
  · rw [if_pos e, if_neg (by rw [e]; exact Ne.symm h), if_pos e]
  · rw [if_neg e, if_neg e]

def RepO (K : PySem.W.Frag) (G : Hp) : HO → MO → Prop
  | .lst xs, .lst ds => Rps K G xs ds
  | .dK kvs, .dK ks ds => kvs.map (·.1) = ks ∧ Rps K G (kvs.map (·.2)) ds
  | .dT kvs, .dT ks ds => kvs.map (·.1) = ks ∧ Rps K G (kvs.map (·.2)) ds
  | .ins C _ fs, .ins C' ns ds => C = C' ∧ fs.map (·.1) = ns ∧ Rps K G (fs.map (·.2)) ds
  | _, _ => False
theorem RepO.mono {K : PySem.W.Frag} {G G' : Hp} (e : Same G G') {o : HO} {m : MO} (h : RepO K G o m) : RepO K G' o m := by
  cases o <;> cases m <;> first
    | exact (show False from h).elim
    | exact Rps.mono e (show Rps _ _ _ _ from h)
    | (obtain ⟨h1, h2⟩ := h; exact ⟨h1, h2.mono e⟩)
    | (obtain ⟨h1, h2, h3⟩ := h; exact ⟨h1, h2, h3.mono e⟩)

/-- a world: what stands for good (G), what may change (M), all that is tracked (H) -/
structure Wo (K : PySem.W.Frag) where
  G : Hp
  M : MS
  H : Hp
  gh : Same G H
  gm : ∀ a, M a ≠ none → G a = none
  mh : ∀ a mo, M a = some mo → ∃ ho, H a = some ho ∧ RepO K G ho mo
structure Stp {K : PySem.W.Frag} (w w' : Wo K) : Prop where
  gg : Same w.G w'.G
  hh : ∀ a o, w.H a = some o → w.M a = none → w'.H a = some o
  al : ∀ a o, w.H a = some o → w'.H a ≠ none
  gn : ∀ a o, w'.G a = some o → w.G a = some o ∨ w.H a = none ∨ w.M a ≠ none
  mn : ∀ a, w'.M a ≠ none → w.M a ≠ none ∨ w.H a = none
section
variable {K : PySem.W.Frag} {w w1 w2 : Wo K}
theorem Stp.refl (w : Wo K) : Stp w w := ⟨Same.refl _, fun _ _ h _ => h, fun _ _ h z => (by rw [h] at z; cases z), fun _ _ h => .inl h, fun _ h => .inl h⟩
theorem Stp.trans (a : Stp w w1) (b : Stp w1 w2) : Stp w w2 where
  gg := a.gg.trans b.gg
  hh := fun x o h m => b.hh x o (a.hh x o h m) (by
    cases e : w1.M x with
    | none => rfl
    | some mo =>
      rcases a.mn x (by rw [e]; exact fun z => by cases z) with q | q
      · exact absurd m q
      · rw [h] at q; cases q)
  al := fun x o h => by
    cases e : w1.H x with
    | none => exact absurd e (a.al x o h)
    | some o' => exact b.al x o' e
  gn := fun x o h => by
    rcases b.gn x o h with q | q | q
    · exact a.gn x o q
    · refine .inr (.inl ?_)
      cases e : w.H x with
      | none => rfl
      | some o' => exact absurd q (a.al x o' e)
    · rcases a.mn x q with r | r
      · exact .inr (.inr r)
      · exact .inr (.inl r)
  mn := fun x h => by
    rcases b.mn x h with q | q
    · exact a.mn x q
    · refine .inr ?_
      cases e : w.H x with
      | none => rfl
      | some o' => exact absurd q (a.al x o' e)
theorem Wo.m_none (w : Wo K) {a : Addr} (h : w.H a = none) : w.M a = none := by
  cases e : w.M a with
  | none => rfl
  | some mo =>
    obtain ⟨ho, q, _⟩ := w.mh a mo e
    rw [h] at q; cases q
theorem Wo.g_none (w : Wo K) {a : Addr} (h : w.H a = none) : w.G a = none := w.gh.free h
/-- a new thing that stands for good -/
def Wo.newD (w : Wo K) (a : Addr) (o : HO) (h : w.H a = none) : Wo K where
  G := upd w.G a o
  M := w.M
  H := upd w.H a o
  gh := fun b u e => by
    by_cases hb : b = a
    · subst hb; rw [upd_same] at e ⊢; exact e
    · rw [upd_ne hb] at e ⊢; exact w.gh b u e
  gm := fun b hb => by
    have : b ≠ a := fun z => by subst z; exact hb (w.m_none h)
    rw [upd_ne this]; exact w.gm b hb
  mh := fun b mo hb => by
    have n : b ≠ a := fun z => by subst z; rw [w.m_none h] at hb; cases hb
    obtain ⟨ho, e, r⟩ := w.mh b mo hb
    exact ⟨ho, by rw [upd_ne n]; exact e, r.mono fun c u q => by
      have : c ≠ a := fun z => by subst z; rw [w.g_none h] at q; cases q
      rw [upd_ne this]; exact q⟩
theorem Wo.newD_stp (w : Wo K) (a : Addr) (o : HO) (h : w.H a = none) : Stp w (w.newD a o h) where
  gg := fun c u q => by
    have : c ≠ a := fun z => by subst z; rw [w.g_none h] at q; cases q
    show upd w.G a o c = _
    rw [upd_ne this]; exact q
  hh := fun c u q _ => by
    have : c ≠ a := fun z => by subst z; rw [h] at q; cases q
    show upd w.H a o c = _
    rw [upd_ne this]; exact q
  al := fun c u q z => by
    have : c ≠ a := fun z => by subst z; rw [h] at q; cases q
    have z' : upd w.H a o c = none := z
    rw [upd_ne this, q] at z'; cases z'
  gn := fun c u q => by
    by_cases hc : c = a
    · exact .inr (.inl (by rw [hc]; exact h))
    · have q' : upd w.G a o c = some u := q
      rw [upd_ne hc] at q'; exact .inl q'
  mn := fun c q => .inl q
/-- a new thing that may change -/
def Wo.newM (w : Wo K) (a : Addr) (o : HO) (mo : MO) (h : w.H a = none) (r : RepO K w.G o mo) : Wo K where
  G := w.G
  M := updM w.M a mo
  H := upd w.H a o
  gh := fun b u e => by
    have : b ≠ a := fun z => by subst z; rw [w.g_none h] at e; cases e
    rw [upd_ne this]; exact w.gh b u e
  gm := fun b hb => by
    by_cases e : b = a
    · rw [e]; exact w.g_none h
    · rw [updM_ne e] at hb; exact w.gm b hb
  mh := fun b m hb => by
    by_cases e : b = a
    · subst e; rw [updM_same] at hb; cases hb; exact ⟨o, upd_same, r⟩
    · rw [updM_ne e] at hb
      obtain ⟨ho, e1, r1⟩ := w.mh b m hb
      exact ⟨ho, by rw [upd_ne e]; exact e1, r1⟩
theorem Wo.newM_stp (w : Wo K) (a : Addr) (o : HO) (mo : MO) (h : w.H a = none) (r : RepO K w.G o mo) : Stp w (w.newM a o mo h r) where
  gg := Same.refl _
  hh := fun c u q _ => by
    have : c ≠ a := fun z => by subst z; rw [h] at q; cases q
    show upd w.H a o c = _
    rw [upd_ne this]; exact q
  al := fun c u q z => by
    have : c ≠ a := fun z => by subst z; rw [h] at q; cases q
    have z' : upd w.H a o c = none := z
    rw [upd_ne this, q] at z'; cases z'
  gn := fun c u q => .inl q
  mn := fun c q => by
    by_cases hc : c = a
    · exact .inr (by rw [hc]; exact h)
    · have q' : updM w.M a mo c ≠ none := q
      rw [updM_ne hc] at q'; exact .inl q'
/-- an own thing is changed -/
def Wo.setM (w : Wo K) (a : Addr) (o : HO) (mo : MO) (h : w.M a ≠ none) (r : RepO K w.G o mo) : Wo K where
  G := w.G
  M := updM w.M a mo
  H := upd w.H a o
  gh := fun b u e => by
    have : b ≠ a := fun z => by subst z; rw [w.gm b h] at e; cases e
    rw [upd_ne this]; exact w.gh b u e
  gm := fun b hb => by
    by_cases e : b = a
    · rw [e]; exact w.gm a h
    · rw [updM_ne e] at hb; exact w.gm b hb
  mh := fun b m hb => by
    by_cases e : b = a
    · subst e; rw [updM_same] at hb; cases hb; exact ⟨o, upd_same, r⟩
    · rw [updM_ne e] at hb
      obtain ⟨ho, e1, r1⟩ := w.mh b m hb
      exact ⟨ho, by rw [upd_ne e]; exact e1, r1⟩
theorem Wo.setM_stp (w : Wo K) (a : Addr) (o : HO) (mo : MO) (h : w.M a ≠ none) (r : RepO K w.G o mo) : Stp w (w.setM a o mo h r) where
  gg := Same.refl _
  hh := fun c u q m => by
    have : c ≠ a := fun z => by subst z; exact h m
    show upd w.H a o c = _
    rw [upd_ne this]; exact q
  al := fun c u q z => by
    have z' : upd w.H a o c = none := z
    by_cases hc : c = a
    · subst hc; rw [upd_same] at z'; cases z'
    · rw [upd_ne hc, q] at z'; cases z'
  gn := fun c u q => .inl q
  mn := fun c q => by
    by_cases hc : c = a
    · exact .inl (by rw [hc]; exact h)
    · have q' : updM w.M a mo c ≠ none := q
      rw [updM_ne hc] at q'; exact .inl q'
/-- an own thing stands for good from here on -/
def Wo.frz (w : Wo K) (a : Addr) (o : HO) (h : w.H a = some o) (hm : w.M a ≠ none) : Wo K where
  G := upd w.G a o
  M := delM w.M a
  H := w.H
  gh := fun b u e => by
    by_cases hb : b = a
    · subst hb; rw [upd_same] at e; cases e; exact h
    · rw [upd_ne hb] at e; exact w.gh b u e
  gm := fun b hb => by
    by_cases e : b = a
    · subst e; exact absurd delM_same hb
    · rw [delM_ne e] at hb; rw [upd_ne e]; exact w.gm b hb
  mh := fun b m hb => by
    by_cases e : b = a
    · subst e; rw [delM_same] at hb; cases hb
    · rw [delM_ne e] at hb
      obtain ⟨ho, e1, r1⟩ := w.mh b m hb
      exact ⟨ho, e1, r1.mono fun c u q => by
        have : c ≠ a := fun z => by subst z; rw [w.gm c hm] at q; cases q
        rw [upd_ne this]; exact q⟩
theorem Wo.frz_stp (w : Wo K) (a : Addr) (o : HO) (h : w.H a = some o) (hm : w.M a ≠ none) : Stp w (w.frz a o h hm) where
  gg := fun c u q => by
    have : c ≠ a := fun z => by subst z; rw [w.gm c hm] at q; cases q
    show upd w.G a o c = _
    rw [upd_ne this]; exact q
  hh := fun c u q m => q
  al := fun c u q z => by
    have z' : w.H c = none := z
    rw [q] at z'; cases z'
  gn := fun c u q => by
    by_cases hc : c = a
    · exact .inr (.inr (by rw [hc]; exact hm))
    · have q' : upd w.G a o c = some u := q
      rw [upd_ne hc] at q'; exact .inl q'
  mn := fun c q => by
    by_cases hc : c = a
    · exact .inl (by rw [hc]; exact hm)
    · have q' : delM w.M a c ≠ none := q
      rw [delM_ne hc] at q'; exact .inl q'
/-- own things are forgotten -/
def Wo.cutM (w : Wo K) (N : MS) (h : ∀ a mo, N a = some mo → w.M a = some mo) : Wo K where
  G := w.G
  M := N
  H := w.H
  gh := w.gh
  gm := fun a ha => w.gm a (by
    cases e : N a with
    | none => exact absurd e ha
    | some mo => rw [h a mo e]; exact fun z => by cases z)
  mh := fun a mo ha => w.mh a mo (h a mo ha)
end
end DL
namespace DL
open PySem L2

/-! ### readings over data -/
abbrev Ro := List (Option D)
abbrev QX := D → MS → Prop
abbrev EX := Addr → MS → Prop
abbrev PX := Ro → MS → QX → EX → Prop
abbrev PXt := Ro → MS → (Bool → MS → Prop) → EX → Prop
abbrev PXa := Ro → MS → (List D → MS → Prop) → EX → Prop
structure De where
  nx : Ro → MS → Prop
  rt : D → MS → Prop
  bk : Ro → MS → Prop
  ct : Ro → MS → Prop
  ex : EX
abbrev PY := De → Ro → MS → Prop

/-- the slots: what the reading knows of them -/
def Sl (K : PySem.W.Frag) (G : Hp) (σ : St) (ρ : Ro) : Prop := σ.length = ρ.length ∧ ∀ (i : Nat) (d : D), ρ[i]? = some (some d) → ∃ v, σ[i]? = some (some v) ∧ Rp K G v d
theorem Sl.mono {K : PySem.W.Frag} {G G' : Hp} {σ : St} {ρ : Ro} (h : Sl K G σ ρ) (e : Same G G') : Sl K G' σ ρ := ⟨h.1, fun i d q => let ⟨v, a, r⟩ := h.2 i d q; ⟨v, a, r.mono e⟩⟩
theorem Sl.set {K : PySem.W.Frag} {G : Hp} {σ : St} {ρ : Ro} {v : V} {d : D} (h : Sl K G σ ρ) (i : Nat) (r : Rp K G v d) : Sl K G (σ.set i (some v)) (ρ.set i (some d)) := by
  refine ⟨by simp [h.1], fun j e q => ?_⟩
  by_cases hj : i = j
  · subst hj
    have hi : i < ρ.length := by
      have := (List.getElem?_eq_some_iff.mp q).1
      simpa using this
    rw [List.getElem?_set_self hi] at q
    cases q
    exact ⟨v, List.getElem?_set_self (by rw [h.1]; exact hi), r⟩
  · rw [List.getElem?_set_ne hj] at q
    obtain ⟨u, a, r'⟩ := h.2 j e q
    exact ⟨u, by rw [List.getElem?_set_ne hj]; exact a, r'⟩
theorem Sl.setN {K : PySem.W.Frag} {G : Hp} {σ : St} {ρ : Ro} (h : Sl K G σ ρ) (i : Nat) : Sl K G (σ.set i none) (ρ.set i none) := by
  refine ⟨by simp [h.1], fun j e q => ?_⟩
  by_cases hj : i = j
  · subst hj
    have hi : i < ρ.length := by
      have := (List.getElem?_eq_some_iff.mp q).1
      simpa using this
    rw [List.getElem?_set_self hi] at q
    cases q
  · rw [List.getElem?_set_ne hj] at q
    obtain ⟨u, a, r'⟩ := h.2 j e q
    exact ⟨u, by rw [List.getElem?_set_ne hj]; exact a, r'⟩
/-- what is known may be read otherwise -/
theorem Sl.change {K : PySem.W.Frag} {G : Hp} {σ : St} {ρ : Ro} {d : D} (h : Sl K G σ ρ) (i : Nat) (r : ∀ v, σ[i]? = some (some v) → Rp K G v d) (hd : ∃ d0, ρ[i]? = some (some d0)) : Sl K G σ (ρ.set i (some d)) := by
  refine ⟨by simp [h.1], fun j e q => ?_⟩
  by_cases hj : i = j
  · subst hj
    obtain ⟨d0, q0⟩ := hd
    obtain ⟨v, a, _⟩ := h.2 i d0 q0
    have hi : i < ρ.length := by
      have := (List.getElem?_eq_some_iff.mp q).1
      simpa using this
    rw [List.getElem?_set_self hi] at q
    cases q
    exact ⟨v, a, r v a⟩
  · rw [List.getElem?_set_ne hj] at q
    exact h.2 j e q
def wipeR (ρ : Ro) : List Nat → Ro
  | [] => ρ
  | v :: vs => (wipeR ρ vs).set v none
theorem Sl.wipe {K : PySem.W.Frag} {G : Hp} {σ : St} {ρ : Ro} (h : Sl K G σ ρ) : ∀ vs : List Nat, Sl K G (L2.wipe σ vs) (wipeR ρ vs)
  | [] => h
  | v :: vs => (Sl.wipe h vs).setN v

section
variable {K : PySem.W.Frag}
def ExOk (E : XK) (w : Wo K) (Ex : EX) : Prop := ∀ c w', Ex c w'.M → Stp w w' → E (.ref c) none w'.H
theorem ExOk.step {E : XK} {w w1 : Wo K} {Ex : EX} (h : ExOk E w Ex) (s : Stp w w1) : ExOk E w1 Ex := fun c w' q s' => h c w' q (s.trans s')

def Snd (K : PySem.W.Frag) (E : XK) (t : TE) (p : PX) : Prop := ∀ (w : Wo K) (σ : St) (ρ : Ro) (R : VK) (Q : QX) (Ex : EX), Sl K w.G σ ρ → ExOk E w Ex →
  (∀ x v w', Q x w'.M → Stp w w' → Rp K w'.G v x → R v w'.H) → p ρ w.M Q Ex → t σ w.H R
def SndT (K : PySem.W.Frag) (E : XK) (t : TT) (p : PXt) : Prop := ∀ (w : Wo K) (σ : St) (ρ : Ro) (R : Bool → Hp → Prop) (Q : Bool → MS → Prop) (Ex : EX), Sl K w.G σ ρ → ExOk E w Ex →
  (∀ b w', Q b w'.M → Stp w w' → R b w'.H) → p ρ w.M Q Ex → t σ w.H R
def SndA (K : PySem.W.Frag) (E : XK) (t : TA) (p : PXa) : Prop := ∀ (w : Wo K) (σ : St) (ρ : Ro) (R : List V → Hp → Prop) (Q : List D → MS → Prop) (Ex : EX), Sl K w.G σ ρ → ExOk E w Ex →
  (∀ xs vs w', Q xs w'.M → Stp w w' → Rps K w'.G vs xs → R vs w'.H) → p ρ w.M Q Ex → t σ w.H R
structure EndsOk (E : XK) (w0 : Wo K) (Dh : Ends) (D : De) : Prop where
  nx : ∀ σ ρ w', D.nx ρ w'.M → Stp w0 w' → Sl K w'.G σ ρ → Dh.nx σ w'.H
  rt : ∀ x v w', D.rt x w'.M → Stp w0 w' → Rp K w'.G v x → Dh.rt v w'.H
  bk : ∀ σ ρ w', D.bk ρ w'.M → Stp w0 w' → Sl K w'.G σ ρ → Dh.bk σ w'.H
  ct : ∀ σ ρ w', D.ct ρ w'.M → Stp w0 w' → Sl K w'.G σ ρ → Dh.ct σ w'.H
  ex : ExOk E w0 D.ex
theorem EndsOk.step {E : XK} {w w1 : Wo K} {Dh : Ends} {D : De} (h : EndsOk E w Dh D) (s : Stp w w1) : EndsOk E w1 Dh D :=
  ⟨fun σ ρ w' q s' => h.nx σ ρ w' q (s.trans s'), fun x v w' q s' => h.rt x v w' q (s.trans s'), fun σ ρ w' q s' => h.bk σ ρ w' q (s.trans s'), fun σ ρ w' q s' => h.ct σ ρ w' q (s.trans s'), h.ex.step s⟩
def SndS (K : PySem.W.Frag) (E : XK) (t : TS) (p : PY) : Prop := ∀ (w : Wo K) (σ : St) (ρ : Ro) (Dh : Ends) (D : De), Sl K w.G σ ρ → EndsOk E w Dh D → p D ρ w.M → t Dh σ w.H
abbrev PGt := D → Ro → MS → (Ro → MS → Prop) → EX → Prop
def SndG (K : PySem.W.Frag) (E : XK) (g : TG) (q : PGt) : Prop := ∀ (w : Wo K) (σ : St) (ρ : Ro) (v : V) (d : D) (R : St → Hp → Prop) (Q : Ro → MS → Prop) (Ex : EX), Sl K w.G σ ρ → ExOk E w Ex → Rp K w.G v d →
  (∀ σ' ρ' w', Q ρ' w'.M → Stp w w' → Sl K w'.G σ' ρ' → R σ' w'.H) → q d ρ w.M Q Ex → g v σ w.H R
abbrev PGts := List D → Ro → MS → (Ro → MS → Prop) → EX → Prop
def SndGs (K : PySem.W.Frag) (E : XK) (g : TGs) (q : PGts) : Prop := ∀ (w : Wo K) (σ : St) (ρ : Ro) (vs : List V) (ds : List D) (R : St → Hp → Prop) (Q : Ro → MS → Prop) (Ex : EX), Sl K w.G σ ρ → ExOk E w Ex → Rps K w.G vs ds →
  (∀ σ' ρ' w', Q ρ' w'.M → Stp w w' → Sl K w'.G σ' ρ' → R σ' w'.H) → q ds ρ w.M Q Ex → g vs σ w.H R
/-- an iterator yields just these -/
def ItOk (K : PySem.W.Frag) (w0 : Wo K) (J : It) (ds : List D) : Prop := ∀ w, Stp w0 w → ∀ i,
  (∀ d, ds[i]? = some d → J.go i w.H ∧ ∀ x H', J.yld i w.H x H' → ∃ w', w'.H = H' ∧ w'.M = w.M ∧ Stp w w' ∧ Rp K w'.G x d) ∧ (ds.length ≤ i → J.stop i w.H)
def SndI (K : PySem.W.Frag) (E : XK) (wi : TI) (p : PXa) : Prop := ∀ (w : Wo K) (σ : St) (ρ : Ro) (R : It → Hp → Prop) (Q : List D → MS → Prop) (Ex : EX), Sl K w.G σ ρ → ExOk E w Ex →
  (∀ ds J w', Q ds w'.M → Stp w w' → ItOk K w' J ds → R J w'.H) → p ρ w.M Q Ex → wi σ w.H R
def RSnd (K : PySem.W.Frag) (r : R2) (rr : D → D → MS → QX → Prop) : Prop := ∀ (w : Wo K) (x y : V) (dx dy : D) (R : VK) (Q : QX), Rp K w.G x dx → Rp K w.G y dy →
  (∀ z v w', Q z w'.M → Stp w w' → Rp K w'.G v z → R v w'.H) → rr dx dy w.M Q → r x y w.H R
def USnd (K : PySem.W.Frag) (r : V → Hp → VK → Prop) (rr : D → MS → QX → Prop) : Prop := ∀ (w : Wo K) (x : V) (dx : D) (R : VK) (Q : QX), Rp K w.G x dx →
  (∀ z v w', Q z w'.M → Stp w w' → Rp K w'.G v z → R v w'.H) → rr dx w.M Q → r x w.H R
def CSnd (K : PySem.W.Frag) (r : List V → Hp → VK → Prop) (rr : List D → MS → QX → Prop) : Prop := ∀ (w : Wo K) (xs : List V) (dxs : List D) (R : VK) (Q : QX), Rps K w.G xs dxs →
  (∀ z v w', Q z w'.M → Stp w w' → Rp K w'.G v z → R v w'.H) → rr dxs w.M Q → r xs w.H R
/-- a method's: receiver, arguments -/
def MSnd (K : PySem.W.Frag) (r : V → List V → Hp → VK → Prop) (rr : D → List D → MS → QX → Prop) : Prop := ∀ (w : Wo K) (x : V) (xs : List V) (dx : D) (dxs : List D) (R : VK) (Q : QX), Rp K w.G x dx → Rps K w.G xs dxs →
  (∀ z v w', Q z w'.M → Stp w w' → Rp K w'.G v z → R v w'.H) → rr dx dxs w.M Q → r x xs w.H R
end

structure DE (X : Cx) (E : XK) (e : Expr) (p : PX) : Prop where
  ex : ∃ t, PE X e t ∧ Snd X.K E t p
structure DT (X : Cx) (E : XK) (e : Expr) (p : PXt) : Prop where
  ex : ∃ t, PT X e t ∧ SndT X.K E t p
structure DW (X : Cx) (E : XK) (e : Expr) (p : PXt) : Prop where
  ex : ∃ t, PW X e t ∧ SndT X.K E t p
structure DA (X : Cx) (E : XK) (es : List Expr) (p : PXa) : Prop where
  ex : ∃ t, PA X es t ∧ SndA X.K E t p
structure DS (X : Cx) (E : XK) (st : Stmt) (p : PY) : Prop where
  ex : ∃ t, PS X st t ∧ SndS X.K E t p
structure DSs (X : Cx) (E : XK) (st : List Stmt) (p : PY) : Prop where
  ex : ∃ t, PSs X st t ∧ SndS X.K E t p
structure DG (X : Cx) (E : XK) (tg : Expr) (p : PGt) : Prop where
  ex : ∃ t, PG X tg t ∧ SndG X.K E t p
structure DGs (X : Cx) (E : XK) (tg : List Expr) (p : PGts) : Prop where
  ex : ∃ t, PGs X tg t ∧ SndGs X.K E t p
structure DI (X : Cx) (E : XK) (tg iter : Expr) (p : PXa) : Prop where
  ex : ∃ t, PI X tg iter t ∧ SndI X.K E t p
structure DTs (X : Cx) (E : XK) (es : List Expr) (p : PXt) : Prop where
  ex : ∃ t, PTs X es t ∧ SndT X.K E t p

section
variable {X : Cx} {E : XK} {a b e : Expr} {es : List Expr} {pos : Pos} {pa pb : PX}

/-! ### names, constants -/
def dV (i : Nat) : PX := fun ρ M Q _ => match ρ[i]? with
  | some (some d) => Q d M
  | _ => False
theorem dv (i : Nat) {x : Str} {pos : Pos} (hN : X.N[i]? = some x := by rfl) (hv : Vis X.env.scope x := by first | exact Or.inl rfl | exact Or.inr (Or.inl rfl) | exact Or.inr (Or.inr rfl)) (hd : (x == ("__debug__" : Str)) = false := by decide)
    (hcd : (x == ("__classdict__" : Str)) = false := by decide) : DE X E (.Name x pos) (dV i) := by
  refine ⟨_, pe_var hN hv hd hcd, fun w σ ρ R Q Ex hS _ hR h => ?_⟩
  unfold dV at h
  cases e : ρ[i]? with
  | none => rw [e] at h; exact h.elim
  | some o =>
    cases o with
    | none => rw [e] at h; exact h.elim
    | some d =>
      rw [e] at h
      obtain ⟨v, q, r⟩ := hS.2 i d e
      exact ⟨v, q, hR d v w h (Stp.refl w) r⟩
def dC (d : D) : PX := fun _ M Q _ => Q d M
theorem snd_c {v : V} {d : D} (hr : ∀ G : Hp, Rp X.K G v d) : Snd X.K E (tC v) (dC d) := fun w σ ρ R Q Ex _ _ hR h => hR d v w h (Stp.refl w) (hr _)
theorem d_int {i j pos} : DE X E (.Constant (.int i) j pos) (dC (.int i)) := ⟨_, pe_int, snd_c fun _ => .int _⟩
theorem d_bl {b j pos} : DE X E (.Constant (.bool b) j pos) (dC (.bl b)) := ⟨_, pe_bl, snd_c fun _ => .bl _⟩
theorem d_non {j pos} : DE X E (.Constant .none j pos) (dC .non) := ⟨_, pe_non, snd_c fun _ => .non⟩
theorem d_str {x j pos} : DE X E (.Constant (.str x) j pos) (dC (.str x)) := ⟨_, pe_str, snd_c fun _ => .str _⟩
/-- a module's constant, class, def -/
theorem d_glob {x : Str} {v : V} {u : Value} {d : D} (hg : Gl X x) (hm : X.mg x = some u) (r : RelV v u) (hr : ∀ G : Hp, Rp X.K G v d) (hd : (x == ("__debug__" : Str)) = false := by decide) : DE X E (.Name x pos) (dC d) := ⟨_, pe_glob hg hm r hd, snd_c hr⟩
theorem d_bltn {x : Str} {v : V} {u : Value} {d : D} (hg : Gl X x) (hm : X.mg x = none) (hv : bootBuiltins x = some u) (r : RelV v u) (hr : ∀ G : Hp, Rp X.K G v d) (hn : x ≠ "__name__" := by decide) (hd : (x == ("__debug__" : Str)) = false := by decide) : DE X E (.Name x pos) (dC d) :=
  ⟨_, pe_bltn hg hm hv r hn hd, snd_c hr⟩

/-! ### operators -/
def dOp (rr : D → D → MS → QX → Prop) (pa pb : PX) : PX := fun ρ M Q Ex => pa ρ M (fun x M1 => pb ρ M1 (fun y M2 => rr x y M2 Q) Ex) Ex
theorem snd_op {ta tb : TE} {r : R2} {rr : D → D → MS → QX → Prop} (hr : RSnd X.K r rr) (ha : Snd X.K E ta pa) (hb : Snd X.K E tb pb) : Snd X.K E (tOp r ta tb) (dOp rr pa pb) := by
  intro w σ ρ R Q Ex hS hE hR h
  refine ha w σ ρ _ _ Ex hS hE (fun x v w1 h1 s1 r1 => ?_) h
  refine hb w1 σ ρ _ _ Ex (hS.mono s1.gg) (hE.step s1) (fun y u w2 h2 s2 r2 => ?_) h1
  exact hr w2 v u x y R Q (r1.mono s2.gg) r2 (fun z vz w' q s rz => hR z vz w' q ((s1.trans s2).trans s) rz) h2
theorem d_op {op : Operator} {r : R2} {rr : D → D → MS → QX → Prop} (ho : OpR X (binaryOp op) r) (hr : RSnd X.K r rr) (ha : DE X E a pa) (hb : DE X E b pb) : DE X E (.BinOp a op b pos) (dOp rr pa pb) := by
  obtain ⟨ta, ha, sa⟩ := ha
  obtain ⟨tb, hb, sb⟩ := hb
  exact ⟨_, pe_op ho ha hb, snd_op hr sa sb⟩
theorem d_cmp {op : CmpOp} {r : R2} {rr : D → D → MS → QX → Prop} (ho : OpR X (compareOp op) r) (hr : RSnd X.K r rr) (ha : DE X E a pa) (hb : DE X E b pb) (hm : behindInMarks op b = false) : DE X E (.Compare a [op] [b] pos) (dOp rr pa pb) := by
  obtain ⟨ta, ha, sa⟩ := ha
  obtain ⟨tb, hb, sb⟩ := hb
  exact ⟨_, pe_cmpR ho ha hb hm, snd_op hr sa sb⟩
def dTest (p : PX) : PXt := fun ρ M Q Ex => p ρ M (fun x M1 => match x with | .bl k => Q k M1 | _ => False) Ex
theorem snd_test {t : TE} {p : PX} (h : Snd X.K E t p) : SndT X.K E (tTest t) (dTest p) := by
  intro w σ ρ R Q Ex hS hE hR hp
  refine h w σ ρ _ _ Ex hS hE (fun x v w1 h1 s1 r1 => ?_) hp
  cases x <;> first
    | exact h1.elim
    | (cases r1; exact ⟨_, rfl, hR _ w1 h1 s1⟩)
theorem dt_cmp {op : CmpOp} {r : R2} {rr : D → D → MS → QX → Prop} (ho : OpR X (compareOp op) r) (hr : RSnd X.K r rr) (ha : DE X E a pa) (hb : DE X E b pb) (hm : behindInMarks op b = false) : DT X E (.Compare a [op] [b] pos) (dTest (dOp rr pa pb)) := by
  obtain ⟨ta, ha, sa⟩ := ha
  obtain ⟨tb, hb, sb⟩ := hb
  exact ⟨_, pt_cmpR ho ha hb hm, snd_test (snd_op hr sa sb)⟩
/-- a test that is a value's bool -/
theorem dt_val (ha : DE X E a pa) (he : ∀ whole, isTrue a X.env whole = (do let v ← whole; standAt a.pos; holding [v] (truthy v)) := by intro _; rfl) : DT X E a (dTest pa) := by
  obtain ⟨ta, ha, sa⟩ := ha
  exact ⟨_, pt_val ha he, snd_test sa⟩
def dUn (rr : D → MS → QX → Prop) (pa : PX) : PX := fun ρ M Q Ex => pa ρ M (fun x M1 => rr x M1 Q) Ex
theorem d_un {op : UnaryOp} {r : V → Hp → VK → Prop} {rr : D → MS → QX → Prop} (ho : UnR X (unaryOp op) r) (hr : USnd X.K r rr) (ha : DE X E a pa) : DE X E (.UnaryOp op a pos) (dUn rr pa) := by
  obtain ⟨ta, ha, sa⟩ := ha
  refine ⟨_, pe_un ho ha, fun w σ ρ R Q Ex hS hE hR h => ?_⟩
  refine sa w σ ρ _ _ Ex hS hE (fun x v w1 h1 s1 r1 => ?_) h
  exact hr w1 v x R Q r1 (fun z vz w' q s rz => hR z vz w' q (s1.trans s) rz) h1
/-- chains a < b < c -/
def dChain (rr rr' : D → D → MS → QX → Prop) (pa pb pc : PX) : PX := fun ρ M Q Ex => pa ρ M (fun x M1 => pb ρ M1 (fun y M2 => rr x y M2 fun z M3 => match z with
  | .bl true => pc ρ M3 (fun u M4 => rr' y u M4 Q) Ex
  | .bl false => Q (.bl false) M3
  | _ => False) Ex) Ex

/-! ### tests -/
section
variable {pt pu : PXt}
def dAnd (p u : PXt) : PXt := fun ρ M Q Ex => p ρ M (fun c M1 => if c = true then u ρ M1 Q Ex else Q false M1) Ex
def dOr (p u : PXt) : PXt := fun ρ M Q Ex => p ρ M (fun c M1 => if c = true then Q true M1 else u ρ M1 Q Ex) Ex
def dNot (p : PXt) : PXt := fun ρ M Q Ex => p ρ M (fun c M1 => Q (!c) M1) Ex
theorem dw_and1 (h : DT X E a pt) : DW X E (.BoolOp .And [a] pos) pt := by
  obtain ⟨t, h, s⟩ := h
  exact ⟨_, pw_and1 h, s⟩
theorem dw_or1 (h : DT X E a pt) : DW X E (.BoolOp .Or [a] pos) pt := by
  obtain ⟨t, h, s⟩ := h
  exact ⟨_, pw_or1 h, s⟩
theorem dw_and {rest : List Expr} (h : DT X E a pt) (k : DW X E (.BoolOp .And (b :: rest) pos) pu) : DW X E (.BoolOp .And (a :: b :: rest) pos) (dAnd pt pu) := by
  obtain ⟨t, h, s⟩ := h
  obtain ⟨u, k, su⟩ := k
  refine ⟨_, pw_and h k, fun w σ ρ R Q Ex hS hE hR hp => ?_⟩
  refine s w σ ρ _ _ Ex hS hE (fun c w1 h1 s1 => ?_) hp
  cases c with
  | true => exact su w1 σ ρ R Q Ex (hS.mono s1.gg) (hE.step s1) (fun b w' q s' => hR b w' q (s1.trans s')) h1
  | false => exact hR false w1 h1 s1
theorem dw_or {rest : List Expr} (h : DT X E a pt) (k : DW X E (.BoolOp .Or (b :: rest) pos) pu) : DW X E (.BoolOp .Or (a :: b :: rest) pos) (dOr pt pu) := by
  obtain ⟨t, h, s⟩ := h
  obtain ⟨u, k, su⟩ := k
  refine ⟨_, pw_or h k, fun w σ ρ R Q Ex hS hE hR hp => ?_⟩
  refine s w σ ρ _ _ Ex hS hE (fun c w1 h1 s1 => ?_) hp
  cases c with
  | true => exact hR true w1 h1 s1
  | false => exact su w1 σ ρ R Q Ex (hS.mono s1.gg) (hE.step s1) (fun b w' q s' => hR b w' q (s1.trans s')) h1
theorem dt_w (h : DW X E a pt) : DT X E a pt := by
  obtain ⟨t, h, s⟩ := h
  exact ⟨_, h.pt, s⟩
theorem dt_not (h : DT X E a pt) : DT X E (.UnaryOp .Not a pos) (dNot pt) := by
  obtain ⟨t, h, s⟩ := h
  refine ⟨_, pt_not h, fun w σ ρ R Q Ex hS hE hR hp => ?_⟩
  exact s w σ ρ _ _ Ex hS hE (fun c w1 h1 s1 => hR (!c) w1 h1 s1) hp
def dIf (p : PXt) (pa pb : PX) : PX := fun ρ M Q Ex => p ρ M (fun c M1 => if c = true then pa ρ M1 Q Ex else pb ρ M1 Q Ex) Ex
theorem d_ifExp {c : Expr} (hc : DT X E c pt) (ha : DE X E a pa) (hb : DE X E b pb) : DE X E (.IfExp c a b pos) (dIf pt pa pb) := by
  obtain ⟨t, hc, sc⟩ := hc
  obtain ⟨ta, ha, sa⟩ := ha
  obtain ⟨tb, hb, sb⟩ := hb
  refine ⟨_, pe_ifExp hc ha hb, fun w σ ρ R Q Ex hS hE hR hp => ?_⟩
  refine sc w σ ρ _ _ Ex hS hE (fun c w1 h1 s1 => ?_) hp
  cases c with
  | true => exact sa w1 σ ρ R Q Ex (hS.mono s1.gg) (hE.step s1) (fun z v w' q s' r => hR z v w' q (s1.trans s') r) h1
  | false => exact sb w1 σ ρ R Q Ex (hS.mono s1.gg) (hE.step s1) (fun z v w' q s' r => hR z v w' q (s1.trans s') r) h1
/-- and, or as values of bools -/
def dAndV (pa pb : PX) : PX := fun ρ M Q Ex => pa ρ M (fun x M1 => match x with | .bl true => pb ρ M1 Q Ex | .bl false => Q (.bl false) M1 | _ => False) Ex
def dOrV (pa pb : PX) : PX := fun ρ M Q Ex => pa ρ M (fun x M1 => match x with | .bl false => pb ρ M1 Q Ex | .bl true => Q (.bl true) M1 | _ => False) Ex
def dNotV (pa : PX) : PX := fun ρ M Q Ex => pa ρ M (fun x M1 => match x with | .bl c => Q (.bl (!c)) M1 | _ => False) Ex
theorem d_one {op : BoolOp} (h : DE X E a pa) : DE X E (.BoolOp op [a] pos) pa := by
  obtain ⟨t, h, s⟩ := h
  exact ⟨_, pe_one h, s⟩
theorem d_and {rest : List Expr} (ha : DE X E a pa) (hb : DE X E (.BoolOp .And (b :: rest) pos) pb) : DE X E (.BoolOp .And (a :: b :: rest) pos) (dAndV pa pb) := by
  obtain ⟨ta, ha, sa⟩ := ha
  obtain ⟨tb, hb, sb⟩ := hb
  refine ⟨_, pe_and ha hb, fun w σ ρ R Q Ex hS hE hR hp => ?_⟩
  refine sa w σ ρ _ _ Ex hS hE (fun x v w1 h1 s1 r1 => ?_) hp
  cases x <;> first | exact h1.elim | skip
  rename_i c
  cases r1
  refine ⟨c, rfl, ?_⟩
  cases c with
  | true => exact sb w1 σ ρ R Q Ex (hS.mono s1.gg) (hE.step s1) (fun z v w' q s' r => hR z v w' q (s1.trans s') r) h1
  | false => exact hR (.bl false) _ w1 h1 s1 (.bl _)
theorem d_or {rest : List Expr} (ha : DE X E a pa) (hb : DE X E (.BoolOp .Or (b :: rest) pos) pb) : DE X E (.BoolOp .Or (a :: b :: rest) pos) (dOrV pa pb) := by
  obtain ⟨ta, ha, sa⟩ := ha
  obtain ⟨tb, hb, sb⟩ := hb
  refine ⟨_, pe_or ha hb, fun w σ ρ R Q Ex hS hE hR hp => ?_⟩
  refine sa w σ ρ _ _ Ex hS hE (fun x v w1 h1 s1 r1 => ?_) hp
  cases x <;> first | exact h1.elim | skip
  rename_i c
  cases r1
  refine ⟨c, rfl, ?_⟩
  cases c with
  | true => exact hR (.bl true) _ w1 h1 s1 (.bl _)
  | false => exact sb w1 σ ρ R Q Ex (hS.mono s1.gg) (hE.step s1) (fun z v w' q s' r => hR z v w' q (s1.trans s') r) h1
theorem d_not (ha : DE X E a pa) : DE X E (.UnaryOp .Not a pos) (dNotV pa) := by
  obtain ⟨ta, ha, sa⟩ := ha
  refine ⟨_, pe_not ha, fun w σ ρ R Q Ex hS hE hR hp => ?_⟩
  refine sa w σ ρ _ _ Ex hS hE (fun x v w1 h1 s1 r1 => ?_) hp
  cases x <;> first | exact h1.elim | skip
  cases r1
  exact ⟨_, rfl, hR _ _ w1 h1 s1 (.bl _)⟩
end

/-! ### argument lists, displays -/
def dNil : PXa := fun _ M Q _ => Q [] M
def dCons (pa : PX) (pr : PXa) : PXa := fun ρ M Q Ex => pa ρ M (fun x M1 => pr ρ M1 (fun xs M2 => Q (x :: xs) M2) Ex) Ex
theorem da_nil : DA X E [] dNil := ⟨_, pa_nil, fun w σ ρ R Q Ex _ _ hR h => hR [] [] w h (Stp.refl w) .nil⟩
theorem da_cons {pr : PXa} (ha : DE X E a pa) (hr : DA X E es pr) (hs : starEach (a :: es) X.env = (false, eval a X.env) :: starEach es X.env := by rfl) : DA X E (a :: es) (dCons pa pr) := by
  obtain ⟨ta, ha, sa⟩ := ha
  obtain ⟨tr, hr, sr⟩ := hr
  refine ⟨_, pa_cons ha hr hs, fun w σ ρ R Q Ex hS hE hR h => ?_⟩
  refine sa w σ ρ _ _ Ex hS hE (fun x v w1 h1 s1 r1 => ?_) h
  exact sr w1 σ ρ _ _ Ex (hS.mono s1.gg) (hE.step s1) (fun xs vs w2 h2 s2 r2 => hR (x :: xs) (v :: vs) w2 h2 (s1.trans s2) (.cons (r1.mono s2.gg) r2)) h1
/-- (a, b, ..) -/
def dTup (p : PXa) : PX := fun ρ M Q Ex => p ρ M (fun xs M1 => xs.length ≤ sizeLine ∧ Q (.tup xs) M1) Ex
/-- [a, b, ..] that stays as it is -/
def dLst (p : PXa) : PX := fun ρ M Q Ex => p ρ M (fun xs M1 => xs.length ≤ sizeLine ∧ Q (.lst xs) M1) Ex
/-- [a, b, ..] that may change -/
def dLstM (p : PXa) : PX := fun ρ M Q Ex => p ρ M (fun xs M1 => xs.length ≤ sizeLine ∧ ∀ l, M1 l = none → Q (.ref l) (updM M1 l (.lst xs))) Ex
theorem d_tup {x1} {p : PXa} (h : DA X E es p) : DE X E (.Tuple es x1 pos) (dTup p) := by
  obtain ⟨t, h, s⟩ := h
  refine ⟨_, pe_tup h, fun w σ ρ R Q Ex hS hE hR hp => ?_⟩
  refine s w σ ρ _ _ Ex hS hE (fun xs vs w1 h1 s1 r1 => ?_) hp
  refine ⟨by rw [r1.length]; exact h1.1, fun p hp => ?_⟩
  have st := w1.newD_stp p (.tup vs) hp
  exact hR (.tup xs) _ (w1.newD p (.tup vs) hp) h1.2 (s1.trans st) (.tup (SqT.of upd_same) (r1.mono st.gg))
theorem d_lst {p : PXa} (h : DA X E es p) : DE X E (.List es pos) (dLst p) := by
  obtain ⟨t, h, s⟩ := h
  refine ⟨_, pe_lst h, fun w σ ρ R Q Ex hS hE hR hp => ?_⟩
  refine s w σ ρ _ _ Ex hS hE (fun xs vs w1 h1 s1 r1 => ?_) hp
  refine ⟨by rw [r1.length]; exact h1.1, fun p hp => ?_⟩
  have st := w1.newD_stp p (.lst vs) hp
  exact hR (.lst xs) _ (w1.newD p (.lst vs) hp) h1.2 (s1.trans st) (.lst upd_same (r1.mono st.gg))
theorem d_lstM {p : PXa} (h : DA X E es p) : DE X E (.List es pos) (dLstM p) := by
  obtain ⟨t, h, s⟩ := h
  refine ⟨_, pe_lst h, fun w σ ρ R Q Ex hS hE hR hp => ?_⟩
  refine s w σ ρ _ _ Ex hS hE (fun xs vs w1 h1 s1 r1 => ?_) hp
  refine ⟨by rw [r1.length]; exact h1.1, fun p hp => ?_⟩
  have st := w1.newM_stp p (.lst vs) (.lst xs) hp r1
  exact hR (.ref p) _ (w1.newM p (.lst vs) (.lst xs) hp r1) (h1.2 p (w1.m_none hp)) (s1.trans st) (.ref _)

/-! ### calls of built-ins by name -/
def dCB (rr : List D → MS → QX → Prop) (p : PXa) : PX := fun ρ M Q Ex => p ρ M (fun xs M1 => rr xs M1 Q) Ex
theorem snd_cb {t : TA} {p : PXa} {r : List V → Hp → VK → Prop} {rr : List D → MS → QX → Prop} (hr : CSnd X.K r rr) (s : SndA X.K E t p) : Snd X.K E (tCB r t) (dCB rr p) := by
  intro w σ ρ R Q Ex hS hE hR hp
  refine s w σ ρ _ _ Ex hS hE (fun xs vs w1 h1 s1 r1 => ?_) hp
  exact hr w1 vs xs R Q r1 (fun z v w' q s' r => hR z v w' q (s1.trans s') r) h1
theorem d_callB {x : Str} {p : Pos} {id : String} {pp : PXa} {r : List V → Hp → VK → Prop} {rr : List D → MS → QX → Prop} (hc : CallR X (.builtin id) r) (hr : CSnd X.K r rr) (hg : Gl X x) (hm : X.mg x = none) (hv : bootBuiltins x = some (.builtin id)) (ha : DA X E (e :: es) pp)
    (hn : x ≠ "__name__" := by decide) (hdb : (x == ("__debug__" : Str)) = false := by decide) (he : starEach (e :: es) X.env = (false, eval e X.env) :: starEach es X.env := by rfl) (hpl : (backTo pos (starEach es X.env)).any (·.1) = false := by rfl) : DE X E (.Call (.Name x p) (e :: es) [] pos) (dCB rr pp) := by
  obtain ⟨t, ha, s⟩ := ha
  exact ⟨_, pe_callB hc hg hm hv ha hn hdb he hpl, snd_cb hr s⟩
theorem d_callTy {x : Str} {p : Pos} {T : String} {pp : PXa} {r : List V → Hp → VK → Prop} {rr : List D → MS → QX → Prop} (hc : CallR X (.type T) r) (hr : CSnd X.K r rr) (hg : Gl X x) (hm : X.mg x = none) (hv : bootBuiltins x = some (.type T)) (ha : DA X E (e :: es) pp)
    (hn : x ≠ "__name__" := by decide) (hdb : (x == ("__debug__" : Str)) = false := by decide) (he : starEach (e :: es) X.env = (false, eval e X.env) :: starEach es X.env := by rfl) (hpl : (backTo pos (starEach es X.env)).any (·.1) = false := by rfl) : DE X E (.Call (.Name x p) (e :: es) [] pos) (dCB rr pp) := by
  obtain ⟨t, ha, s⟩ := ha
  exact ⟨_, pe_callTy hc hg hm hv ha hn hdb he hpl, snd_cb hr s⟩
/-! ### methods of built-in types -/
def dBM (rr : D → List D → MS → QX → Prop) (po : PX) (p : PXa) : PX := fun ρ M Q Ex => po ρ M (fun x M1 => p ρ M1 (fun xs M2 => rr x xs M2 Q) Ex) Ex
/-! ### subscripts -/
theorem d_ix {r : R2} {rr : D → D → MS → QX → Prop} (hi : IxR X r) (hr : RSnd X.K r rr) (ha : DE X E a pa) (hb : DE X E b pb) (hs : PlainIx b := by exact fun _ _ => rfl) : DE X E (.Subscript a b pos) (dOp rr pa pb) := by
  obtain ⟨ta, ha, sa⟩ := ha
  obtain ⟨tb, hb, sb⟩ := hb
  exact ⟨_, pe_ix hi ha hb hs, snd_op hr sa sb⟩
end

/-! ### statements -/
section
variable {X : Cx} {E : XK} {e : Expr} {st : Stmt} {rest : List Stmt} {pos : Pos} {p u : PY} {pa : PX}
def dNext : PY := fun D ρ M => D.nx ρ M
def dSeq (p u : PY) : PY := fun D ρ M => p { D with nx := u D } ρ M
theorem dss_nil : DSs X E [] dNext := ⟨_, pss_nil, fun w σ ρ Dh D hS hD h => hD.nx σ ρ w h (Stp.refl w) hS⟩
theorem dss_cons (h1 : DS X E st p) (h2 : DSs X E rest u) : DSs X E (st :: rest) (dSeq p u) := by
  obtain ⟨t, h1, s1⟩ := h1
  obtain ⟨t2, h2, s2⟩ := h2
  refine ⟨_, pss_cons h1 h2, fun w σ ρ Dh D hS hD h => ?_⟩
  refine s1 w σ ρ _ { D with nx := u D } hS ⟨fun σ' ρ' w' q s' hS' => ?_, hD.rt, hD.bk, hD.ct, hD.ex⟩ h
  exact s2 w' σ' ρ' Dh D hS' (hD.step s') q
theorem dss_one (h1 : DS X E st p) : DSs X E [st] p := by
  obtain ⟨t, h1, s1⟩ := h1
  exact ⟨_, pss_one h1, s1⟩
def dBreak : PY := fun D ρ M => D.bk ρ M
def dCont : PY := fun D ρ M => D.ct ρ M
theorem ds_pass : DS X E (.Pass pos) dNext := ⟨_, ps_pass, fun w σ ρ Dh D hS hD h => hD.nx σ ρ w h (Stp.refl w) hS⟩
theorem ds_break : DS X E (.Break pos) dBreak := ⟨_, ps_break, fun w σ ρ Dh D hS hD h => hD.bk σ ρ w h (Stp.refl w) hS⟩
theorem ds_continue : DS X E (.Continue pos) dCont := ⟨_, ps_continue, fun w σ ρ Dh D hS hD h => hD.ct σ ρ w h (Stp.refl w) hS⟩
def dDrop (pa : PX) : PY := fun D ρ M => pa ρ M (fun _ M1 => D.nx ρ M1) D.ex
theorem ds_expr (he : DE X E e pa) (hs : swapsWith e none pos.line X.env = pure false := by rfl) : DS X E (.Expr e pos) (dDrop pa) := by
  obtain ⟨t, he, s⟩ := he
  refine ⟨_, ps_expr he hs, fun w σ ρ Dh D hS hD h => ?_⟩
  exact s w σ ρ _ _ D.ex hS hD.ex (fun x v w1 h1 s1 r1 => hD.nx σ ρ w1 h1 s1 (hS.mono s1.gg)) h
def dRet (pa : PX) : PY := fun D ρ M => pa ρ M D.rt D.ex
theorem ds_ret (he : DE X E e pa) : DS X E (.Return (some e) pos) (dRet pa) := by
  obtain ⟨t, he, s⟩ := he
  refine ⟨_, ps_ret he, fun w σ ρ Dh D hS hD h => ?_⟩
  exact s w σ ρ _ _ D.ex hS hD.ex (fun x v w1 h1 s1 r1 => hD.rt x v w1 h1 s1 r1) h
def dRetN : PY := fun D _ M => D.rt .non M
theorem ds_retN : DS X E (.Return none pos) dRetN := ⟨_, ps_retN, fun w σ ρ Dh D hS hD h => hD.rt .non _ w h (Stp.refl w) .non⟩
def dIfS (c : PXt) (p u : PY) : PY := fun D ρ M => c ρ M (fun b M1 => if b = true then p D ρ M1 else u D ρ M1) D.ex
theorem ds_if {c : Expr} {A B : List Stmt} {pc : PXt} (hc : DT X E c pc) (ha : DSs X E A p) (hb : DSs X E B u) : DS X E (.If c A B pos) (dIfS pc p u) := by
  obtain ⟨t, hc, sc⟩ := hc
  obtain ⟨t1, h1, s1⟩ := ha
  obtain ⟨t2, h2, s2⟩ := hb
  refine ⟨_, ps_if hc h1 h2, fun w σ ρ Dh D hS hD h => ?_⟩
  refine sc w σ ρ _ _ D.ex hS hD.ex (fun b w1 q1 st1 => ?_) h
  cases b with
  | true => exact s1 w1 σ ρ Dh D (hS.mono st1.gg) (hD.step st1) q1
  | false => exact s2 w1 σ ρ Dh D (hS.mono st1.gg) (hD.step st1) q1
def dNever : PY := fun _ _ _ => False
theorem ds_never : DS X E st dNever := ⟨_, ps_never, fun _ _ _ _ _ _ _ h => h.elim⟩
theorem dss_never {sts : List Stmt} : DSs X E sts dNever := ⟨_, pss_never, fun _ _ _ _ _ _ _ h => h.elim⟩
/-! targets -/
def qName (i : Nat) : PGt := fun d ρ M Q _ => Q (ρ.set i (some d)) M
theorem dg_name {x : Str} {i : Nat} (hN : X.N.Nodup) (hi : X.N[i]? = some x) (hx : Loc X.env.scope x) (hf : X.fn x = true ∨ X.env.scope.names.lookup x = some .local := by first | exact .inl rfl | exact .inr rfl | assumption) : DG X E (.Name x pos) (qName i) :=
  ⟨_, pg_name hN hi hx hf, fun w σ ρ v d R Q Ex hS _ r hR h => hR _ _ w h (Stp.refl w) (hS.set i r)⟩
def qNil : PGts := fun vs ρ M Q _ => vs = [] ∧ Q ρ M
def qCons (q : PGt) (r : PGts) : PGts := fun vs ρ M Q Ex => match vs with
  | v :: vs => q v ρ M (fun ρ1 M1 => r vs ρ1 M1 Q Ex) Ex
  | [] => False
theorem dgs_nil : DGs X E [] qNil := by
  refine ⟨_, pgs_nil, fun w σ ρ vs ds R Q Ex hS _ r hR h => ?_⟩
  obtain ⟨rfl, h⟩ := h
  cases r
  exact ⟨rfl, hR _ _ w h (Stp.refl w) hS⟩
theorem dgs_cons {e : Expr} {es : List Expr} {q : PGt} {qs : PGts} (h1 : DG X E e q) (h2 : DGs X E es qs) (hs : (assignEach (e :: es) X.env).map (·.2) = assign e X.env :: (assignEach es X.env).map (·.2) := by rfl) : DGs X E (e :: es) (qCons q qs) := by
  obtain ⟨t, h1, s1⟩ := h1
  obtain ⟨t2, h2, s2⟩ := h2
  refine ⟨_, pgs_cons h1 h2 hs, fun w σ ρ vs ds R Q Ex hS hE r hR h => ?_⟩
  cases ds with
  | nil => exact h.elim
  | cons d ds =>
    cases r with
    | cons r rs =>
      refine ⟨_, _, rfl, ?_⟩
      refine s1 w σ ρ _ d _ _ Ex hS hE r (fun σ' ρ' w' q st' hS' => ?_) h
      exact s2 w' σ' ρ' _ ds R Q Ex hS' (hE.step st') (rs.mono st'.gg) (fun σ2 ρ2 w2 q2 st2 hS2 => hR σ2 ρ2 w2 q2 (st'.trans st2) hS2) q
def qTup (n : Nat) (q : PGts) : PGt := fun d ρ M Q Ex => match d with
  | .tup ds => ds.length = n ∧ q ds ρ M Q Ex
  | _ => False
theorem dg_tup {es : List Expr} {k : Nat} {q : PGts} {n : Nat} (hc : X.calm = true) (h : DGs X E es q) (hn : (assignEach es X.env).length = n := by rfl) (hst : (assignEach es X.env).findIdx? (·.1) = none := by rfl) : DG X E (.Tuple es k pos) (qTup n q) := by
  obtain ⟨t, h, s⟩ := h
  refine ⟨_, pg_tup hc h hn hst, fun w σ ρ v d R Q Ex hS hE r hR hq => ?_⟩
  cases d <;> first | exact hq.elim | skip
  rename_i ds
  cases r with
  | tup h1 h2 =>
    exact ⟨_, _, rfl, same_seqT w.gh h1, by rw [h2.length]; exact hq.1, s w σ ρ _ ds R Q Ex hS hE h2 hR hq.2⟩
def dAsg (pa : PX) (q : PGt) : PY := fun D ρ M => pa ρ M (fun x M1 => q x ρ M1 D.nx D.ex) D.ex
theorem snd_asg {te : TE} {g : TG} {q : PGt} (sa : Snd X.K E te pa) (sg : SndG X.K E g q) : SndS X.K E (tAsg te g) (dAsg pa q) := by
  intro w σ ρ Dh D hS hD h
  refine sa w σ ρ _ _ D.ex hS hD.ex (fun x v w1 h1 s1 r1 => ?_) h
  exact sg w1 σ ρ v x _ D.nx D.ex (hS.mono s1.gg) (hD.ex.step s1) r1 (fun σ' ρ' w' q' s' hS' => hD.nx σ' ρ' w' q' (s1.trans s') hS') h1
theorem ds_asg {tg : Expr} {q : PGt} (he : DE X E e pa) (hg : DG X E tg q) (hs : swapsWithSole [tg] e pos.line X.env = pure false := by rfl) (hw : swappedStores [tg] e X.env = pure none := by rfl)
    (h1 : (assignEach [tg] X.env).map (·.2) = [assign tg X.env] := by rfl) : DS X E (.Assign [tg] e pos) (dAsg pa q) := by
  obtain ⟨t, he, sa⟩ := he
  obtain ⟨g, hg, sg⟩ := hg
  exact ⟨_, ps_asg he hg hs hw h1, snd_asg sa sg⟩
theorem ds_set {x : Str} {i : Nat} {p2 : Pos} (hN : X.N.Nodup) (hi : X.N[i]? = some x) (hx : Loc X.env.scope x) (he : DE X E e pa) (hs : swapsWithSole [.Name x p2] e pos.line X.env = pure false := by rfl) (hw : swappedStores [.Name x p2] e X.env = pure none := by rfl)
    (h1 : (assignEach [.Name x p2] X.env).map (·.2) = [assign (.Name x p2) X.env] := by rfl) (hf : X.fn x = true ∨ X.env.scope.names.lookup x = some .local := by first | exact .inl rfl | exact .inr rfl | assumption) : DS X E (.Assign [.Name x p2] e pos) (dAsg pa (qName i)) :=
  ds_asg he (dg_name hN hi hx hf) hs hw h1
/-- a, b = e, f -/
def dPar (i j : Nat) (pp : PXa) : PY := fun D ρ M => pp ρ M (fun xs M1 => match xs with
  | [v, w] => D.nx ((ρ.set i (some v)).set j (some w)) M1
  | _ => False) D.ex
/-- a op= e, a name -/
def dAug (i : Nat) (pa : PX) (rr : D → D → MS → QX → Prop) : PY := fun D ρ M => match ρ[i]? with
  | some (some x) => pa ρ M (fun y M1 => rr x y M1 (fun z M2 => D.nx (ρ.set i (some z)) M2)) D.ex
  | _ => False
end
end DL
namespace DL
open PySem L2

/-! ### for -/
section
variable {X : Cx} {E : XK} {e tg iter : Expr} {body : List Stmt} {pos : Pos} {pa : PX} {pi : PXa} {q : PGt} {b : PY}
def dEach (g : PGt) (b : PY) : List D → PY
  | [], D, ρ, M => D.nx ρ M
  | x :: xs, D, ρ, M => g x ρ M (fun ρ1 M1 => b { D with nx := dEach g b xs D, ct := dEach g b xs D, bk := D.nx } ρ1 M1) D.ex
def dFor (pi : PXa) (g : PGt) (b : PY) : PY := fun D ρ M => pi ρ M (fun ds M1 => dEach g b ds D ρ M1) D.ex
theorem drop_at {α : Type} {l : List α} {i : Nat} (h : i < l.length) : l.drop i = l[i] :: l.drop (i + 1) := List.drop_eq_getElem_cons h
theorem snd_for {wi : TI} {g : TG} {tb : TS} (si : SndI X.K E wi pi) (sg : SndG X.K E g q) (sb : SndS X.K E tb b) : SndS X.K E (tFor wi g tb) (dFor pi q b) := by
  intro w σ ρ Dh D hS hD h
  refine si w σ ρ _ _ D.ex hS hD.ex (fun ds J w1 h1 s1 it => ?_) h
  refine ⟨fun i m σ' H' => m = ds.length - i ∧ i ≤ ds.length ∧ ∃ (w' : Wo X.K) (ρ' : Ro), w'.H = H' ∧ Stp w1 w' ∧ Sl X.K w'.G σ' ρ' ∧ dEach q b (ds.drop i) D ρ' w'.M,
    ⟨_, rfl, Nat.zero_le _, w1, ρ, rfl, Stp.refl _, hS.mono s1.gg, h1⟩, ?_⟩
  rintro i m σ' H' ⟨rfl, hi, w', ρ', rfl, st, hS', hp⟩
  by_cases hlt : i < ds.length
  · rw [drop_at hlt] at hp
    obtain ⟨go, yl⟩ := (it w' st i).1 _ (List.getElem?_eq_getElem hlt)
    refine .inr ⟨go, fun σ2 H2 => ∃ (w2 : Wo X.K) (ρ2 : Ro), w2.H = H2 ∧ Stp w1 w2 ∧ Sl X.K w2.G σ2 ρ2 ∧ dEach q b (ds.drop (i + 1)) D ρ2 w2.M, fun σ2 H2 ⟨w2, ρ2, e2, st2, hS2, hp2⟩ => ⟨_, by omega, rfl, hlt, w2, ρ2, e2, st2, hS2, hp2⟩, fun x H2 y => ?_⟩
    obtain ⟨w2, rfl, em, st2, rx⟩ := yl x H2 y
    have stw2 := (s1.trans st).trans st2
    refine sg w2 σ' ρ' x _ _ _ D.ex (hS'.mono st2.gg) (hD.ex.step stw2) rx (fun σ3 ρ3 w3 q3 st3 hS3 => ?_) (by rw [em]; exact hp)
    have stw3 := stw2.trans st3
    refine sb w3 σ3 ρ3 _ _ hS3 ?_ q3
    exact ⟨fun σ4 ρ4 w4 q4 st4 hS4 => ⟨w4, ρ4, rfl, ((st.trans st2).trans st3).trans st4, hS4, q4⟩, fun x v w' q s' => hD.rt x v w' q (stw3.trans s'), fun σ4 ρ4 w4 q4 st4 hS4 => hD.nx σ4 ρ4 w4 q4 (stw3.trans st4) hS4,
      fun σ4 ρ4 w4 q4 st4 hS4 => ⟨w4, ρ4, rfl, ((st.trans st2).trans st3).trans st4, hS4, q4⟩, hD.ex.step stw3⟩
  · have e : i = ds.length := by omega
    subst e
    rw [List.drop_length] at hp
    exact .inl ⟨(it w' st _).2 (Nat.le_refl _), hD.nx σ' ρ' w' hp (s1.trans st) hS'⟩
theorem ds_for (hp : PassesOwn (model X.prog X.w) X.A X.env X.xe) (hc : X.calm = true) (hi : DI X E tg iter pi) (hg : DG X E tg q) (hb : DSs X E body b) (hs : ∀ x, foldedSetIterable iter X.env x = pure x := by intro _; rfl) : DS X E (.For tg iter body [] pos) (dFor pi q b) := by
  obtain ⟨wi, hi, si⟩ := hi
  obtain ⟨g, hg, sg⟩ := hg
  obtain ⟨tb, hb, sb⟩ := hb
  exact ⟨_, ps_for hp hc hi hg hb hs, snd_for si sg sb⟩

/-! ### what is walked -/
def dSq (pa : PX) : PXa := fun ρ M Q Ex => pa ρ M (fun x M1 => match x with | .lst ds => Q ds M1 | .scr ns => Q (ns.map D.int) M1 | _ => False) Ex
def dSqT (pa : PX) : PXa := fun ρ M Q Ex => pa ρ M (fun x M1 => match x with | .tup ds => Q ds M1 | _ => False) Ex
theorem itOk_list {K : PySem.W.Frag} {w0 : Wo K} {a : Addr} {xs : List V} {ds : List D} (h : SqL K w0.G a xs) (r : Rps K w0.G xs ds) : ItOk K w0 (Itl K a) ds := fun w st i => by
  have hH : SqL K w.H a xs := (st.gg.trans w.gh).seq h
  refine ⟨fun d hd => ?_, fun hi => ⟨xs, hH, by rw [r.length]; exact hi⟩⟩
  obtain ⟨v, e, rv⟩ := r.get hd
  refine ⟨⟨xs, v, hH, e⟩, fun x H' y => ?_⟩
  obtain ⟨rfl, y⟩ := y
  have e' := y xs hH
  rw [e] at e'; cases e'
  exact ⟨w, rfl, rfl, Stp.refl w, rv.mono st.gg⟩
theorem itOk_tup {K : PySem.W.Frag} {w0 : Wo K} {a : Addr} {xs : List V} {ds : List D} (h : SqT K w0.G a xs) (r : Rps K w0.G xs ds) : ItOk K w0 (Itt K a) ds := fun w st i => by
  have hH : SqT K w.H a xs := same_seqT (st.gg.trans w.gh) h
  refine ⟨fun d hd => ?_, fun hi => ⟨xs, hH, by rw [r.length]; exact hi⟩⟩
  obtain ⟨v, e, rv⟩ := r.get hd
  refine ⟨⟨xs, v, hH, e⟩, fun x H' y => ?_⟩
  obtain ⟨rfl, y⟩ := y
  have e' := y xs hH
  rw [e] at e'; cases e'
  exact ⟨w, rfl, rfl, Stp.refl w, rv.mono st.gg⟩
theorem di_list (he : DE X E e pa) : DI X E tg e (dSq pa) := by
  obtain ⟨t, he, s⟩ := he
  refine ⟨_, pi_list he, fun w σ ρ R Q Ex hS hE hR h => ?_⟩
  refine s w σ ρ _ _ Ex hS hE (fun x v w1 h1 s1 r1 => ?_) h
  cases x <;> first | exact h1.elim | skip
  · cases r1 with
    | lst a1 a2 => exact ⟨_, rfl, ⟨_, w1.gh.seq (SqL.of a1)⟩, hR _ _ w1 h1 s1 (itOk_list (SqL.of a1) a2)⟩
  · cases r1 with
    | scr a1 => exact ⟨_, rfl, ⟨_, w1.gh.seq a1⟩, hR _ _ w1 h1 s1 (itOk_list a1 (Rps.map_int _))⟩
theorem di_tup (he : DE X E e pa) : DI X E tg e (dSqT pa) := by
  obtain ⟨t, he, s⟩ := he
  refine ⟨_, pi_tup he, fun w σ ρ R Q Ex hS hE hR h => ?_⟩
  refine s w σ ρ _ _ Ex hS hE (fun x v w1 h1 s1 r1 => ?_) h
  cases x <;> first | exact h1.elim | skip
  cases r1 with
  | tup a1 a2 => exact ⟨_, rfl, ⟨_, same_seqT w1.gh a1⟩, hR _ _ w1 h1 s1 (itOk_tup a1 a2)⟩
/-- intsD lo, lo + c, .. (n of them) -/
def intsD (lo c : Int) (n : Nat) : List D := (List.range n).map fun (i : Nat) => D.int (lo + (i : Int) * c)
theorem intsD_len (lo c : Int) (n : Nat) : (intsD lo c n).length = n := by simp [intsD]
theorem intsD_get {lo c : Int} {n i : Nat} {d : D} (h : (intsD lo c n)[i]? = some d) : i < n ∧ d = .int (lo + (i : Int) * c) := by
  have hi : i < n := by
    have := (List.getElem?_eq_some_iff.mp h).1
    rwa [intsD_len] at this
  refine ⟨hi, ?_⟩
  unfold intsD at h
  rw [List.getElem?_map, List.getElem?_range hi] at h
  exact (Option.some.inj h).symm
theorem itOk_range {K : PySem.W.Frag} {w0 : Wo K} {lo : Int} {n : Nat} : ItOk K w0 (Itr lo n) (intsD lo 1 n) := fun w st i => by
  refine ⟨fun d hd => ?_, fun hi => by rw [intsD_len] at hi; exact hi⟩
  obtain ⟨hi, rfl⟩ := intsD_get hd
  refine ⟨hi, fun x H' y => ?_⟩
  obtain ⟨rfl, rfl⟩ := y
  exact ⟨w, rfl, rfl, Stp.refl w, by rw [Int.mul_one]; exact .int _⟩
theorem itOk_rangeC {K : PySem.W.Frag} {w0 : Wo K} {lo c : Int} {n : Nat} : ItOk K w0 (Itc lo c n) (intsD lo c n) := fun w st i => by
  refine ⟨fun d hd => ?_, fun hi => by rw [intsD_len] at hi; exact hi⟩
  obtain ⟨hi, rfl⟩ := intsD_get hd
  refine ⟨hi, fun x H' y => ?_⟩
  obtain ⟨rfl, rfl⟩ := y
  exact ⟨w, rfl, rfl, Stp.refl w, .int _⟩
def Small (i : Int) : Prop := -(2 ^ 62) ≤ i ∧ i < 2 ^ 62
def dRng1 (p : PXa) : PXa := fun ρ M Q Ex => p ρ M (fun xs M1 => match xs with | [.int j] => Small j ∧ Q (intsD 0 1 j.toNat) M1 | _ => False) Ex
def dRng2 (p : PXa) : PXa := fun ρ M Q Ex => p ρ M (fun xs M1 => match xs with | [.int i, .int j] => (Small i ∧ Small j) ∧ Q (intsD i 1 (j - i).toNat) M1 | _ => False) Ex
def dRng3 (p : PXa) : PXa := fun ρ M Q Ex => p ρ M (fun xs M1 => match xs with | [.int i, .int j, .int c] => ∃ n, RgC i j c n ∧ Q (intsD i c n) M1 | _ => False) Ex
theorem di_range1 {a : Expr} {p : Pos} {pp : PXa} (hg : Gl X "range") (hm : X.mg "range" = none) (ha : DA X E [a] pp) (hs : starEach [a] X.env = [(false, eval a X.env)] := by rfl) : DI X E tg (.Call (.Name "range" p) [a] [] pos) (dRng1 pp) := by
  obtain ⟨t, ha, s⟩ := ha
  refine ⟨_, pi_range1 hg hm ha hs, fun w σ ρ R Q Ex hS hE hR h => ?_⟩
  refine s w σ ρ _ _ Ex hS hE (fun xs vs w1 h1 s1 r1 => ?_) h
  match xs, h1, r1 with
  | [.int j], h1, .cons (.int _) .nil => exact ⟨j, rfl, h1.1.1, h1.1.2, hR _ _ w1 h1.2 s1 itOk_range⟩
theorem di_range2 {a b : Expr} {p : Pos} {pp : PXa} (hg : Gl X "range") (hm : X.mg "range" = none) (ha : DA X E [a, b] pp) (hs : starEach [a, b] X.env = [(false, eval a X.env), (false, eval b X.env)] := by rfl) (hs2 : starEach [b] X.env = [(false, eval b X.env)] := by rfl) : DI X E tg (.Call (.Name "range" p) [a, b] [] pos) (dRng2 pp) := by
  obtain ⟨t, ha, s⟩ := ha
  refine ⟨_, pi_range2 hg hm ha hs hs2, fun w σ ρ R Q Ex hS hE hR h => ?_⟩
  refine s w σ ρ _ _ Ex hS hE (fun xs vs w1 h1 s1 r1 => ?_) h
  match xs, h1, r1 with
  | [.int i, .int j], h1, .cons (.int _) (.cons (.int _) .nil) => exact ⟨i, j, rfl, ⟨h1.1.1.1, h1.1.1.2, h1.1.2.1, h1.1.2.2⟩, hR _ _ w1 h1.2 s1 itOk_range⟩
theorem di_range3 {a b c : Expr} {p : Pos} {pp : PXa} (hg : Gl X "range") (hm : X.mg "range" = none) (ha : DA X E [a, b, c] pp) (hs : starEach [a, b, c] X.env = (false, eval a X.env) :: starEach [b, c] X.env := by rfl) (hpl : (backTo pos (starEach [b, c] X.env)).any (·.1) = false := by rfl) : DI X E tg (.Call (.Name "range" p) [a, b, c] [] pos) (dRng3 pp) := by
  obtain ⟨t, ha, s⟩ := ha
  refine ⟨_, pi_range3 hg hm ha hs hpl, fun w σ ρ R Q Ex hS hE hR h => ?_⟩
  refine s w σ ρ _ _ Ex hS hE (fun xs vs w1 h1 s1 r1 => ?_) h
  match xs, h1, r1 with
  | [.int i, .int j, .int c], ⟨n, h1, h2⟩, .cons (.int _) (.cons (.int _) (.cons (.int _) .nil)) => exact ⟨i, j, c, n, rfl, h1, hR _ _ w1 h2 s1 itOk_rangeC⟩
/-- a text, sign by sign -/
def dStrI (pa : PX) : PXa := fun ρ M Q Ex => pa ρ M (fun x M1 => match x with | .str z => Q (z.cps.toList.map fun c => D.str ⟨#[c]⟩) M1 | _ => False) Ex
theorem itOk_str {K : PySem.W.Frag} {w0 : Wo K} {z : Str} : ItOk K w0 (Its z) (z.cps.toList.map fun c => D.str ⟨#[c]⟩) := fun w st i => by
  refine ⟨fun d hd => ?_, fun hi => (by rw [List.length_map, Array.length_toList] at hi; exact hi)⟩
  rw [List.getElem?_map] at hd
  cases hc : z.cps.toList[i]? with
  | none => rw [hc] at hd; cases hd
  | some c =>
    rw [hc] at hd; cases hd
    have hi : i < z.cps.size := by
      have := (List.getElem?_eq_some_iff.mp hc).1
      simpa using this
    refine ⟨hi, fun x H' y => ?_⟩
    obtain ⟨rfl, c', e, rfl⟩ := y
    have e2 : z.cps[i]? = some c := by simpa using hc
    rw [e2] at e; cases e
    exact ⟨w, rfl, rfl, Stp.refl w, .str _⟩
theorem di_str (he : DE X E e pa) : DI X E tg e (dStrI pa) := by
  obtain ⟨t, he, s⟩ := he
  refine ⟨_, pi_str he, fun w σ ρ R Q Ex hS hE hR h => ?_⟩
  refine s w σ ρ _ _ Ex hS hE (fun x v w1 h1 s1 r1 => ?_) h
  cases x <;> first | exact h1.elim | skip
  cases r1
  exact ⟨_, rfl, hR _ _ w1 h1 s1 itOk_str⟩

/-! ### while -/
/-- I: the invariant with its measure -/
def dWhile (c : PXt) (b : PY) : PY := fun D ρ M => ∃ I : Nat → Ro → MS → Prop, (∃ m, I m ρ M) ∧ ∀ m ρ M, I m ρ M →
  c ρ M (fun k M1 => if k = true then b { D with nx := fun ρ' M' => ∃ m', m' < m ∧ I m' ρ' M', ct := fun ρ' M' => ∃ m', m' < m ∧ I m' ρ' M', bk := D.nx } ρ M1 else D.nx ρ M1) D.ex
theorem ds_while {c : Expr} {pc : PXt} (hp : PassesOwn (model X.prog X.w) X.A X.env X.xe) (hc : DT X E c pc) (hb : DSs X E body b) : DS X E (.While c body [] pos) (dWhile pc b) := by
  obtain ⟨tc, hc, sc⟩ := hc
  obtain ⟨tb, hb, sb⟩ := hb
  refine ⟨_, ps_while hp hc hb, fun w σ ρ Dh D hS hD h => ?_⟩
  obtain ⟨I, ⟨m0, i0⟩, turn⟩ := h
  refine ⟨fun m σ' H' => ∃ (w' : Wo X.K) (ρ' : Ro), w'.H = H' ∧ Stp w w' ∧ Sl X.K w'.G σ' ρ' ∧ I m ρ' w'.M, ⟨m0, w, ρ, rfl, Stp.refl _, hS, i0⟩, ?_⟩
  rintro m σ' H' ⟨w', ρ', rfl, st, hS', hi⟩
  refine sc w' σ' ρ' _ _ D.ex hS' (hD.ex.step st) (fun k w2 q2 s2 => ?_) (turn m ρ' w'.M hi)
  have st2 := st.trans s2
  cases k with
  | true =>
    refine ⟨fun σ3 H3 => ∃ m', m' < m ∧ ∃ (w3 : Wo X.K) (ρ3 : Ro), w3.H = H3 ∧ Stp w w3 ∧ Sl X.K w3.G σ3 ρ3 ∧ I m' ρ3 w3.M, fun σ3 H3 ⟨m', hm, q⟩ => ⟨m', hm, q⟩, ?_⟩
    refine sb w2 σ' ρ' _ _ (hS'.mono s2.gg) ?_ q2
    exact ⟨fun σ4 ρ4 w4 ⟨m', hm, q4⟩ st4 hS4 => ⟨m', hm, w4, ρ4, rfl, st2.trans st4, hS4, q4⟩, fun x v w' q s' => hD.rt x v w' q (st2.trans s'), fun σ4 ρ4 w4 q4 st4 hS4 => hD.nx σ4 ρ4 w4 q4 (st2.trans st4) hS4,
      fun σ4 ρ4 w4 ⟨m', hm, q4⟩ st4 hS4 => ⟨m', hm, w4, ρ4, rfl, st2.trans st4, hS4, q4⟩, hD.ex.step st2⟩
  | false => exact hD.nx σ' ρ' w2 q2 st2 (hS'.mono s2.gg)
end

/-! ### comprehensions -/
section
variable {X : Cx} {E : XK}
theorem wipe_get (σ : St) : ∀ (vs : List Nat) (j : Nat), (L2.wipe σ vs)[j]? = if j ∈ vs then (if j < σ.length then some none else none) else σ[j]?
  | [], j => by simp [L2.wipe]
  | v :: vs, j => by
    show ((L2.wipe σ vs).set v none)[j]? = _
    by_cases hj : v = j
    · subst hj
      rw [if_pos List.mem_cons_self]
      by_cases hl : v < σ.length
      · rw [if_pos hl, List.getElem?_set_self (by rw [wipe_length]; exact hl)]
      · rw [if_neg hl, List.getElem?_eq_none]
        rw [List.length_set, wipe_length]; omega
    · rw [List.getElem?_set_ne hj, wipe_get σ vs j]
      have e : (j ∈ v :: vs) ↔ j ∈ vs := by
        rw [List.mem_cons]
        exact ⟨fun z => z.resolve_left (fun q => hj q.symm), .inr⟩
      by_cases hm : j ∈ vs
      · rw [if_pos hm, if_pos (e.mpr hm)]
      · rw [if_neg hm, if_neg (fun z => hm (e.mp z))]
theorem wipe_set {σ : St} {vs : List Nat} {i : Nat} {x : Option V} (h : i ∈ vs) : L2.wipe (σ.set i x) vs = L2.wipe σ vs := by
  apply List.ext_getElem?
  intro j
  rw [wipe_get, wipe_get, List.length_set]
  by_cases hj : j ∈ vs
  · rw [if_pos hj, if_pos hj]
  · rw [if_neg hj, if_neg hj, List.getElem?_set_ne (fun z => hj (by rw [← z]; exact h))]
/-- a target that stores in the comprehension's own slots alone -/
def SndGW (K : PySem.W.Frag) (vs : List Nat) (g : TG) (q : PGt) : Prop := ∀ (w : Wo K) (σ : St) (ρ : Ro) (v : V) (d : D) (R : St → Hp → Prop) (Q : Ro → MS → Prop), Sl K w.G σ ρ → Rp K w.G v d →
  (∀ σ' ρ' w', Q ρ' w'.M → Stp w w' → Sl K w'.G σ' ρ' → L2.wipe σ' vs = L2.wipe σ vs → R σ' w'.H) → q d ρ w.M Q (fun _ _ => False) → g v σ w.H R
def SndGWs (K : PySem.W.Frag) (vs : List Nat) (g : TGs) (q : PGts) : Prop := ∀ (w : Wo K) (σ : St) (ρ : Ro) (us : List V) (ds : List D) (R : St → Hp → Prop) (Q : Ro → MS → Prop), Sl K w.G σ ρ → Rps K w.G us ds →
  (∀ σ' ρ' w', Q ρ' w'.M → Stp w w' → Sl K w'.G σ' ρ' → L2.wipe σ' vs = L2.wipe σ vs → R σ' w'.H) → q ds ρ w.M Q (fun _ _ => False) → g us σ w.H R
structure DGW (X : Cx) (vs : List Nat) (tg : Expr) (g : TG) (p : PGt) : Prop where
  ok : PG X tg g
  snd : SndGW X.K vs g p
structure DGWs (X : Cx) (vs : List Nat) (tg : List Expr) (g : TGs) (p : PGts) : Prop where
  ok : PGs X tg g
  snd : SndGWs X.K vs g p
theorem gw_name {vs : List Nat} {x : Str} {i : Nat} {pos : Pos} (hN : X.N.Nodup) (hi : X.N[i]? = some x) (hx : Loc X.env.scope x) (hv : i ∈ vs) (hf : X.fn x = true ∨ X.env.scope.names.lookup x = some .local := by first | exact .inl rfl | exact .inr rfl | assumption) : DGW X vs (.Name x pos) (gName i) (qName i) :=
  ⟨pg_name hN hi hx hf, fun w σ ρ v d R Q hS r hR h => hR _ _ w h (Stp.refl w) (hS.set i r) (wipe_set hv)⟩
theorem gw_nil {vs : List Nat} : DGWs X vs [] gNil qNil := by
  refine ⟨pgs_nil, fun w σ ρ us ds R Q hS r hR h => ?_⟩
  obtain ⟨rfl, h⟩ := h
  cases r
  exact ⟨rfl, hR _ _ w h (Stp.refl w) hS rfl⟩
theorem gw_cons {vs : List Nat} {e : Expr} {es : List Expr} {g : TG} {gs : TGs} {q : PGt} {qs : PGts} (h1 : DGW X vs e g q) (h2 : DGWs X vs es gs qs) (hs : (assignEach (e :: es) X.env).map (·.2) = assign e X.env :: (assignEach es X.env).map (·.2) := by rfl) : DGWs X vs (e :: es) (gCons g gs) (qCons q qs) := by
  obtain ⟨h1, s1⟩ := h1
  obtain ⟨h2, s2⟩ := h2
  refine ⟨pgs_cons h1 h2 hs, fun w σ ρ us ds R Q hS r hR h => ?_⟩
  cases ds with
  | nil => exact h.elim
  | cons d ds =>
    cases r with
    | cons r rs =>
      refine ⟨_, _, rfl, ?_⟩
      refine s1 w σ ρ _ d _ _ hS r (fun σ' ρ' w' q st' hS' hw' => ?_) h
      exact s2 w' σ' ρ' _ ds R Q hS' (rs.mono st'.gg) (fun σ2 ρ2 w2 q2 st2 hS2 hw2 => hR σ2 ρ2 w2 q2 (st'.trans st2) hS2 (hw2.trans hw')) q
theorem gw_tup {vs : List Nat} {es : List Expr} {k : Nat} {g : TGs} {q : PGts} {n : Nat} {pos : Pos} (hc : X.calm = true) (h : DGWs X vs es g q) (hn : (assignEach es X.env).length = n := by rfl) (hst : (assignEach es X.env).findIdx? (·.1) = none := by rfl) : DGW X vs (.Tuple es k pos) (gTup X.K n g) (qTup n q) := by
  obtain ⟨h, s⟩ := h
  refine ⟨pg_tup hc h hn hst, fun w σ ρ v d R Q hS r hR hq => ?_⟩
  cases d <;> first | exact hq.elim | skip
  rename_i ds
  cases r with
  | tup h1 h2 =>
    exact ⟨_, _, rfl, same_seqT w.gh h1, by rw [h2.length]; exact hq.1, s w σ ρ _ ds R Q hS h2 hR hq.2⟩

abbrev Ex0 : EX := fun _ _ => False
theorem exOk0 {K : PySem.W.Frag} {E : XK} {w : Wo K} : ExOk E w Ex0 := fun _ _ h => h.elim
def dYes : PXt := fun _ M Q _ => Q true M
/-- the turns of a comprehension -/
def dLcGo (g : PGt) (tt : PXt) (te : PX) (ρ0 : Ro) (k : List D → MS → Prop) : List D → List D → MS → Prop
  | [], acc, M => k acc M
  | x :: xs, acc, M => g x ρ0 M (fun ρ2 M2 => tt ρ2 M2 (fun b M3 => if b = true then te ρ2 M3 (fun y M4 => acc.length < sizeLine ∧ dLcGo g tt te ρ0 k xs (acc ++ [y]) M4) Ex0 else dLcGo g tt te ρ0 k xs acc M3) Ex0) Ex0
/-- [..] that stays as it is; that may change -/
def dLc (pi : PXa) (g : PGt) (tt : PXt) (te : PX) (vs : List Nat) : PX := fun ρ M Q Ex => pi ρ M (fun ds M1 => dLcGo g tt te (wipeR ρ vs) (fun acc M2 => Q (.lst acc) M2) ds [] M1) Ex
def dLcM (pi : PXa) (g : PGt) (tt : PXt) (te : PX) (vs : List Nat) : PX := fun ρ M Q Ex => pi ρ M (fun ds M1 => dLcGo g tt te (wipeR ρ vs) (fun acc M2 => ∀ l, M2 l = none → Q (.ref l) (updM M2 l (.lst acc))) ds [] M1) Ex

/-- tracked, but neither for good nor own: what the machine is making -/
def Wo.newX {K : PySem.W.Frag} (w : Wo K) (a : Addr) (o : HO) (hg : w.G a = none) (hm : w.M a = none) : Wo K where
  G := w.G
  M := w.M
  H := upd w.H a o
  gh := fun b u e => by
    have : b ≠ a := fun z => by subst z; rw [hg] at e; cases e
    rw [upd_ne this]; exact w.gh b u e
  gm := w.gm
  mh := fun b mo hb => by
    have : b ≠ a := fun z => by subst z; rw [hm] at hb; cases hb
    obtain ⟨ho, e, r⟩ := w.mh b mo hb
    exact ⟨ho, by rw [upd_ne this]; exact e, r⟩
theorem stp_newX {K : PySem.W.Frag} {w1 w : Wo K} {a : Addr} {o : HO} {hg : w.G a = none} {hm : w.M a = none} (st : Stp w1 w) (h1 : w1.H a = none) : Stp w1 (w.newX a o hg hm) where
  gg := st.gg
  hh := fun c u q m => by
    have : c ≠ a := fun z => by subst z; rw [h1] at q; cases q
    show upd w.H a o c = _
    rw [upd_ne this]; exact st.hh c u q m
  al := fun c u q z => by
    have : c ≠ a := fun z => by subst z; rw [h1] at q; cases q
    have z' : upd w.H a o c = none := z
    rw [upd_ne this] at z'
    exact st.al c u q z'
  gn := st.gn
  mn := st.mn
/-- what was being made stands for good -/
def Wo.setG {K : PySem.W.Frag} (w : Wo K) (a : Addr) (o : HO) (h : w.H a = some o) (hg : w.G a = none) (hm : w.M a = none) : Wo K where
  G := upd w.G a o
  M := w.M
  H := w.H
  gh := fun b u e => by
    by_cases hb : b = a
    · subst hb; rw [upd_same] at e; cases e; exact h
    · rw [upd_ne hb] at e; exact w.gh b u e
  gm := fun b hb => by
    have : b ≠ a := fun z => by subst z; exact hb hm
    rw [upd_ne this]; exact w.gm b hb
  mh := fun b mo hb => by
    obtain ⟨ho, e, r⟩ := w.mh b mo hb
    exact ⟨ho, e, r.mono fun c u q => by
      have : c ≠ a := fun z => by subst z; rw [hg] at q; cases q
      rw [upd_ne this]; exact q⟩
theorem setG_same {K : PySem.W.Frag} {w : Wo K} {a : Addr} {o : HO} {h : w.H a = some o} {hg : w.G a = none} {hm : w.M a = none} : Same w.G (w.setG a o h hg hm).G := fun c u q => by
  have : c ≠ a := fun z => by subst z; rw [hg] at q; cases q
  show upd w.G a o c = _
  rw [upd_ne this]; exact q
theorem stp_setG {K : PySem.W.Frag} {w1 w : Wo K} {a : Addr} {o : HO} {h : w.H a = some o} {hg : w.G a = none} {hm : w.M a = none} (st : Stp w1 w) (h1 : w1.H a = none) : Stp w1 (w.setG a o h hg hm) where
  gg := st.gg.trans setG_same
  hh := st.hh
  al := st.al
  gn := fun c u q => by
    by_cases hc : c = a
    · exact .inr (.inl (by rw [hc]; exact h1))
    · have q' : upd w.G a o c = some u := q
      rw [upd_ne hc] at q'; exact st.gn c u q'
  mn := st.mn
/-- .. or is an own thing -/
def Wo.setO {K : PySem.W.Frag} (w : Wo K) (a : Addr) (o : HO) (mo : MO) (h : w.H a = some o) (hg : w.G a = none) (r : RepO K w.G o mo) : Wo K where
  G := w.G
  M := updM w.M a mo
  H := w.H
  gh := w.gh
  gm := fun b hb => by
    by_cases e : b = a
    · rw [e]; exact hg
    · rw [updM_ne e] at hb; exact w.gm b hb
  mh := fun b m hb => by
    by_cases e : b = a
    · subst e; rw [updM_same] at hb; cases hb; exact ⟨o, h, r⟩
    · rw [updM_ne e] at hb; exact w.mh b m hb
theorem stp_setO {K : PySem.W.Frag} {w1 w : Wo K} {a : Addr} {o : HO} {mo : MO} {h : w.H a = some o} {hg : w.G a = none} {r : RepO K w.G o mo} (st : Stp w1 w) (h1 : w1.H a = none) : Stp w1 (w.setO a o mo h hg r) where
  gg := st.gg
  hh := st.hh
  al := st.al
  gn := st.gn
  mn := fun c q => by
    by_cases hc : c = a
    · exact .inr (by rw [hc]; exact h1)
    · have q' : updM w.M a mo c ≠ none := q
      rw [updM_ne hc] at q'; exact st.mn c q'
theorem Stp.g_none {K : PySem.W.Frag} {w w' : Wo K} (st : Stp w w') {a : Addr} {o : HO} (h : w.H a = some o) (hg : w.G a = none) (hm : w.M a = none) : w'.G a = none := by
  cases e : w'.G a with
  | none => rfl
  | some u =>
    rcases st.gn a u e with q | q | q
    · rw [hg] at q; cases q
    · rw [h] at q; cases q
    · exact absurd hm q
theorem Stp.m_none {K : PySem.W.Frag} {w w' : Wo K} (st : Stp w w') {a : Addr} {o : HO} (h : w.H a = some o) (hm : w.M a = none) : w'.M a = none := by
  cases e : w'.M a with
  | none => rfl
  | some u =>
    rcases st.mn a (by rw [e]; exact fun z => by cases z) with q | q
    · exact absurd hm q
    · rw [h] at q; cases q
theorem snd_lc {wi : TI} {g : TG} {tt : TT} {te : TE} {vs : List Nat} {pi : PXa} {q : PGt} {pt : PXt} {pe : PX} {K : PySem.W.Frag} (k : (Q : QX) → List D → MS → Prop)
    (hk : ∀ (Q : QX) (w1 w : Wo K) (acc : List D) (vacc : List V) (a : Addr) (R : VK), Stp w1 w → w1.H a = none → w.H a = some (.lst vacc) → w.G a = none → w.M a = none → Rps K w.G vacc acc → (∀ x v w', Q x w'.M → Stp w1 w' → Rp K w'.G v x → R v w'.H) → k Q acc w.M → R (.ref a) w.H)
    (si : SndI K E wi pi) (sg : SndGW K vs g q) (st : SndT K E0 tt pt) (se : Snd K E0 te pe) : Snd K E (tLc wi g tt te vs) (fun ρ M Q Ex => pi ρ M (fun ds M1 => dLcGo q pt pe (wipeR ρ vs) (k Q) ds [] M1) Ex) := by
  intro w σ ρ R Q Ex hS hE hR h
  refine si w σ ρ _ _ Ex hS hE (fun ds J w1 h1 s1 it a ha => ?_) h
  refine ⟨fun i m H' => m = ds.length - i ∧ i ≤ ds.length ∧ ∃ (w' : Wo K) (vacc : List V) (acc : List D), w'.H = H' ∧ Stp w1 w' ∧ w'.H a = some (.lst vacc) ∧ w'.G a = none ∧ w'.M a = none ∧ Rps K w'.G vacc acc ∧ dLcGo q pt pe (wipeR ρ vs) (k Q) (ds.drop i) acc w'.M,
    ⟨_, rfl, Nat.zero_le _, w1.newX a (.lst []) (w1.g_none ha) (w1.m_none ha), [], [], rfl, stp_newX (Stp.refl _) ha, upd_same, w1.g_none ha, w1.m_none ha, .nil, h1⟩, ?_⟩
  rintro i m H' ⟨rfl, hi, w', vacc, acc, rfl, stw, hH, hG, hM, hr, hp⟩
  by_cases hlt : i < ds.length
  · rw [drop_at hlt] at hp
    obtain ⟨go, yl⟩ := (it w' stw i).1 _ (List.getElem?_eq_getElem hlt)
    refine .inr ⟨go, fun H2 => ∃ (w2 : Wo K) (vacc : List V) (acc : List D), w2.H = H2 ∧ Stp w1 w2 ∧ w2.H a = some (.lst vacc) ∧ w2.G a = none ∧ w2.M a = none ∧ Rps K w2.G vacc acc ∧ dLcGo q pt pe (wipeR ρ vs) (k Q) (ds.drop (i + 1)) acc w2.M,
      fun H2 ⟨w2, vacc, acc, e2, z⟩ => ⟨_, by omega, rfl, hlt, w2, vacc, acc, e2, z⟩, fun x H2 y => ?_⟩
    obtain ⟨w2, rfl, em, st2, rx⟩ := yl x H2 y
    have s02 := (s1.trans stw).trans st2
    refine sg w2 (L2.wipe σ vs) (wipeR ρ vs) x _ _ _ ((hS.wipe vs).mono s02.gg) rx (fun σ3 ρ3 w3 q3 st3 hS3 hw3 => ⟨?_, ?_⟩) (by rw [em]; exact hp)
    · rw [hw3]
      apply List.ext_getElem?
      intro j
      rw [wipe_get, wipe_get, wipe_length]
      by_cases hj : j ∈ vs
      · rw [if_pos hj, if_pos hj]
      · simp only [if_neg hj, wipe_get]
    · refine st w3 σ3 ρ3 _ _ Ex0 hS3 exOk0 (fun b w4 q4 st4 => ?_) q3
      have t14 := ((stw.trans st2).trans st3).trans st4
      have t4 := (st2.trans st3).trans st4
      cases b with
      | true =>
        rw [if_pos rfl]
        refine se w4 σ3 ρ3 _ (fun y M4 => acc.length < sizeLine ∧ dLcGo q pt pe (wipeR ρ vs) (k Q) (ds.drop (i + 1)) (acc ++ [y]) M4) Ex0 (hS3.mono st4.gg) exOk0 (fun y u w5 h5 s5 r5 => ?_) q4
        have t5 := t4.trans s5
        have t15 := t14.trans s5
        obtain ⟨hl, hp5⟩ := h5
        have hH5 : w5.H a = some (.lst vacc) := t5.hh a _ hH hM
        have hG5 : w5.G a = none := t5.g_none hH hG hM
        have hM5 : w5.M a = none := t5.m_none hH hM
        exact ⟨vacc, hH5, by rw [hr.length]; exact hl, w5.newX a (.lst (vacc ++ [u])) hG5 hM5, vacc ++ [u], _, rfl, stp_newX t15 ha, upd_same, hG5, hM5, (hr.mono t5.gg).append (.one r5), hp5⟩
      | false =>
        rw [if_neg Bool.false_ne_true]
        exact ⟨w4, vacc, acc, rfl, t14, t4.hh a _ hH hM, t4.g_none hH hG hM, t4.m_none hH hM, hr.mono t4.gg, q4⟩
  · have e : i = ds.length := by omega
    subst e
    rw [List.drop_length] at hp
    refine .inl ⟨(it w' stw _).2 (Nat.le_refl _), ?_⟩
    exact hk Q w1 w' acc vacc a R stw ha hH hG hM hr (fun x v w2 q2 s2 r2 => hR x v w2 q2 (s1.trans s2) r2) hp
end
end DL
namespace DL
open PySem L2 PySem.Spec PyProof.Rows

/-! ### the reading that a data reading gives -/
def tD (K : PySem.W.Frag) (E : XK) (p : PX) : TE := fun σ H R => ∃ (w : Wo K) (ρ : Ro) (Q : QX) (Ex : EX), w.H = H ∧ Sl K w.G σ ρ ∧ ExOk E w Ex ∧ (∀ x v w', Q x w'.M → Stp w w' → Rp K w'.G v x → R v w'.H) ∧ p ρ w.M Q Ex
def tDT (K : PySem.W.Frag) (E : XK) (p : PXt) : TT := fun σ H R => ∃ (w : Wo K) (ρ : Ro) (Q : Bool → MS → Prop) (Ex : EX), w.H = H ∧ Sl K w.G σ ρ ∧ ExOk E w Ex ∧ (∀ b w', Q b w'.M → Stp w w' → R b w'.H) ∧ p ρ w.M Q Ex
theorem snd_tD {K : PySem.W.Frag} {E : XK} {p : PX} : Snd K E (tD K E p) p := fun w σ ρ R Q Ex hS hE hR h => ⟨w, ρ, Q, Ex, rfl, hS, hE, hR, h⟩
theorem snd_tDT {K : PySem.W.Frag} {E : XK} {p : PXt} : SndT K E (tDT K E p) p := fun w σ ρ R Q Ex hS hE hR h => ⟨w, ρ, Q, Ex, rfl, hS, hE, hR, h⟩
theorem DE.can {X : Cx} {E : XK} {e : Expr} {p : PX} (h : DE X E e p) : PE X e (tD X.K E p) := by
  obtain ⟨t, h, s⟩ := h
  refine ⟨fun pins s0 σ H Q I ht => ?_⟩
  obtain ⟨w, ρ, Q', Ex, rfl, hS, hE, hR, hp⟩ := ht
  exact h.run pins s0 σ w.H Q I (s w σ ρ Q Q' Ex hS hE hR hp)
theorem DT.can {X : Cx} {E : XK} {e : Expr} {p : PXt} (h : DT X E e p) : PT X e (tDT X.K E p) := by
  obtain ⟨t, h, s⟩ := h
  refine ⟨fun pins s0 σ H Q I ht => ?_⟩
  obtain ⟨w, ρ, Q', Ex, rfl, hS, hE, hR, hp⟩ := ht
  exact h.run pins s0 σ w.H Q I (s w σ ρ Q Q' Ex hS hE hR hp)

section
variable {X : Cx} {E : XK} {elt tg iter : Expr} {ifs : List Expr} {scope : Scope} {own : List (Str × Nat)} {pos : Pos} {pi : PXa} {g : TG} {q : PGt} {pt : PXt} {pe : PX}
theorem hk_lst {K : PySem.W.Frag} : ∀ (Q : QX) (w1 w : Wo K) (acc : List D) (vacc : List V) (a : Addr) (R : VK), Stp w1 w → w1.H a = none → w.H a = some (.lst vacc) → w.G a = none → w.M a = none → Rps K w.G vacc acc → (∀ x v w', Q x w'.M → Stp w1 w' → Rp K w'.G v x → R v w'.H) → Q (.lst acc) w.M → R (.ref a) w.H :=
  fun Q w1 w acc vacc a R st h1 hH hG hM r hR h => hR (.lst acc) _ (w.setG a _ hH hG hM) h (stp_setG st h1) (.lst upd_same (r.mono setG_same))
theorem hk_lstM {K : PySem.W.Frag} : ∀ (Q : QX) (w1 w : Wo K) (acc : List D) (vacc : List V) (a : Addr) (R : VK), Stp w1 w → w1.H a = none → w.H a = some (.lst vacc) → w.G a = none → w.M a = none → Rps K w.G vacc acc → (∀ x v w', Q x w'.M → Stp w1 w' → Rp K w'.G v x → R v w'.H) → (∀ l, w.M l = none → Q (.ref l) (updM w.M l (.lst acc))) → R (.ref a) w.H :=
  fun Q w1 w acc vacc a R st h1 hH hG hM r hR h => hR (.ref a) _ (w.setO a _ (.lst acc) hH hG r) (h a hM) (stp_setO st h1) (.ref _)
theorem d_lc_k {k : QX → List D → MS → Prop} (hc : X.calm = true) (hN : X.N.Nodup) (hi : DI X E tg iter pi) (ok : BlkOk X.N X.env.scope scope own)
    (hg : ∀ (s : Shared) (H : Hp) (C : Addr) (cl : List (Str × Addr)) (fp : List Addr), DGW (X.blk s H scope (compEnvC scope cl C X.env) fp) (own.map (·.2)) tg g q)
    (ht : ∃ tt, SndT X.K E0 tt pt ∧ ∀ (s : Shared) (H : Hp) (C : Addr) (cl : List (Str × Addr)) (fp : List Addr), PTs (X.blk s H scope (compEnvC scope cl C X.env) fp) ifs tt)
    (he : ∀ (s : Shared) (H : Hp) (C : Addr) (cl : List (Str × Addr)) (fp : List Addr), DE (X.blk s H scope (compEnvC scope cl C X.env) fp) E0 elt pe) (hs : ∀ x, foldedSetIterable iter X.env x = pure x)
    (hk : ∀ (Q : QX) (w1 w : Wo X.K) (acc : List D) (vacc : List V) (a : Addr) (R : VK), Stp w1 w → w1.H a = none → w.H a = some (.lst vacc) → w.G a = none → w.M a = none → Rps X.K w.G vacc acc → (∀ x v w', Q x w'.M → Stp w1 w' → Rp X.K w'.G v x → R v w'.H) → k Q acc w.M → R (.ref a) w.H) :
    ∃ t, PE X (.ListComp elt [⟨tg, iter, ifs, 0⟩] scope pos) t ∧ Snd X.K E t (fun ρ M Q Ex => pi ρ M (fun ds M1 => dLcGo q pt pe (wipeR ρ (own.map (·.2))) (k Q) ds [] M1) Ex) := by
  obtain ⟨wi, hi, si⟩ := hi
  obtain ⟨tt, stt, ptt⟩ := ht
  exact ⟨_, pe_lc hc hN hi ok (fun s H C cl fp => (hg s H C cl fp).ok) ptt (fun s H C cl fp => (he s H C cl fp).can) hs, snd_lc k hk si (hg X.s_0 (fun _ => none) 0 [] []).snd stt snd_tD⟩
theorem ts_nil {K : PySem.W.Frag} {X : Cx} : ∃ tt, SndT K E0 tt dYes ∧ ∀ (s : Shared) (H : Hp) (C : Addr) (cl : List (Str × Addr)) (fp : List Addr), PTs (X.blk s H scope (compEnvC scope cl C X.env) fp) [] tt :=
  ⟨_, fun w σ ρ R Q Ex _ _ hR h => hR true w h (Stp.refl w), fun _ _ _ _ _ => pts_nil⟩
theorem ts_one {c : Expr} (h : ∀ (s : Shared) (H : Hp) (C : Addr) (cl : List (Str × Addr)) (fp : List Addr), DT (X.blk s H scope (compEnvC scope cl C X.env) fp) E0 c pt) :
    ∃ tt, SndT X.K E0 tt pt ∧ ∀ (s : Shared) (H : Hp) (C : Addr) (cl : List (Str × Addr)) (fp : List Addr), PTs (X.blk s H scope (compEnvC scope cl C X.env) fp) [c] tt :=
  ⟨tDT X.K E0 pt, snd_tDT, fun s H C cl fp => pts_one (h s H C cl fp).can⟩
theorem d_lc (hc : X.calm = true) (hN : X.N.Nodup) (hi : DI X E tg iter pi) (ok : BlkOk X.N X.env.scope scope own)
    (hg : ∀ (s : Shared) (H : Hp) (C : Addr) (cl : List (Str × Addr)) (fp : List Addr), DGW (X.blk s H scope (compEnvC scope cl C X.env) fp) (own.map (·.2)) tg g q)
    (ht : ∃ tt, SndT X.K E0 tt pt ∧ ∀ (s : Shared) (H : Hp) (C : Addr) (cl : List (Str × Addr)) (fp : List Addr), PTs (X.blk s H scope (compEnvC scope cl C X.env) fp) ifs tt)
    (he : ∀ (s : Shared) (H : Hp) (C : Addr) (cl : List (Str × Addr)) (fp : List Addr), DE (X.blk s H scope (compEnvC scope cl C X.env) fp) E0 elt pe) (hs : ∀ x, foldedSetIterable iter X.env x = pure x := by intro _; rfl) :
    DE X E (.ListComp elt [⟨tg, iter, ifs, 0⟩] scope pos) (dLc pi q pt pe (own.map (·.2))) := ⟨d_lc_k (k := fun Q acc M => Q (.lst acc) M) hc hN hi ok hg ht he hs hk_lst⟩
theorem d_lcM (hc : X.calm = true) (hN : X.N.Nodup) (hi : DI X E tg iter pi) (ok : BlkOk X.N X.env.scope scope own)
    (hg : ∀ (s : Shared) (H : Hp) (C : Addr) (cl : List (Str × Addr)) (fp : List Addr), DGW (X.blk s H scope (compEnvC scope cl C X.env) fp) (own.map (·.2)) tg g q)
    (ht : ∃ tt, SndT X.K E0 tt pt ∧ ∀ (s : Shared) (H : Hp) (C : Addr) (cl : List (Str × Addr)) (fp : List Addr), PTs (X.blk s H scope (compEnvC scope cl C X.env) fp) ifs tt)
    (he : ∀ (s : Shared) (H : Hp) (C : Addr) (cl : List (Str × Addr)) (fp : List Addr), DE (X.blk s H scope (compEnvC scope cl C X.env) fp) E0 elt pe) (hs : ∀ x, foldedSetIterable iter X.env x = pure x := by intro _; rfl) :
    DE X E (.ListComp elt [⟨tg, iter, ifs, 0⟩] scope pos) (dLcM pi q pt pe (own.map (·.2))) := ⟨d_lc_k (k := fun Q acc M => ∀ l, M l = none → Q (.ref l) (updM M l (.lst acc))) hc hN hi ok hg ht he hs hk_lstM⟩
/-- name = [..] on one line -/
theorem ds_setLc_k {k : QX → List D → MS → Prop} {i : Nat} {y : Str} {py spos : Pos} (hc : X.calm = true) (hN : X.N.Nodup) (hy : X.N[i]? = some y) (hyl : X.env.scope.names.lookup y = some .local)
    (hsw : swapsWith (.ListComp elt [⟨tg, iter, ifs, 0⟩] scope pos) (some (.Name y py)) spos.line X.env = pure true) (hi : DI X E tg iter pi) (ok : BlkOk X.N X.env.scope scope own)
    (hg : ∀ (s : Shared) (H : Hp) (C : Addr) (cl : List (Str × Addr)) (fp : List Addr), DGW (X.blk s H scope (compEnvC scope cl C X.env) fp) (own.map (·.2)) tg g q)
    (ht : ∃ tt, SndT X.K E0 tt pt ∧ ∀ (s : Shared) (H : Hp) (C : Addr) (cl : List (Str × Addr)) (fp : List Addr), PTs (X.blk s H scope (compEnvC scope cl C X.env) fp) ifs tt)
    (he : ∀ (s : Shared) (H : Hp) (C : Addr) (cl : List (Str × Addr)) (fp : List Addr), DE (X.blk s H scope (compEnvC scope cl C X.env) fp) E0 elt pe) (hs : ∀ x, foldedSetIterable iter X.env x = pure x)
    (hk : ∀ (Q : QX) (w1 w : Wo X.K) (acc : List D) (vacc : List V) (a : Addr) (R : VK), Stp w1 w → w1.H a = none → w.H a = some (.lst vacc) → w.G a = none → w.M a = none → Rps X.K w.G vacc acc → (∀ x v w', Q x w'.M → Stp w1 w' → Rp X.K w'.G v x → R v w'.H) → k Q acc w.M → R (.ref a) w.H) :
    ∃ t, PS X (.Assign [.Name y py] (.ListComp elt [⟨tg, iter, ifs, 0⟩] scope pos) spos) t ∧ SndS X.K E t (dAsg (fun ρ M Q Ex => pi ρ M (fun ds M1 => dLcGo q pt pe (wipeR ρ (own.map (·.2))) (k Q) ds [] M1) Ex) (qName i)) := by
  obtain ⟨wi, hi, si⟩ := hi
  obtain ⟨tt, stt, ptt⟩ := ht
  exact ⟨_, ps_setLc hc hN hy hyl hsw hi ok (fun s H C cl fp => (hg s H C cl fp).ok) ptt (fun s H C cl fp => (he s H C cl fp).can) hs,
    snd_asg (snd_lc k hk si (hg X.s_0 (fun _ => none) 0 [] []).snd stt snd_tD) (fun w σ ρ v d R Q Ex hS _ r hR h => hR _ _ w h (Stp.refl w) (hS.set i r))⟩
theorem ds_setLc {i : Nat} {y : Str} {py spos : Pos} (hc : X.calm = true) (hN : X.N.Nodup) (hy : X.N[i]? = some y) (hyl : X.env.scope.names.lookup y = some .local)
    (hsw : swapsWith (.ListComp elt [⟨tg, iter, ifs, 0⟩] scope pos) (some (.Name y py)) spos.line X.env = pure true) (hi : DI X E tg iter pi) (ok : BlkOk X.N X.env.scope scope own)
    (hg : ∀ (s : Shared) (H : Hp) (C : Addr) (cl : List (Str × Addr)) (fp : List Addr), DGW (X.blk s H scope (compEnvC scope cl C X.env) fp) (own.map (·.2)) tg g q)
    (ht : ∃ tt, SndT X.K E0 tt pt ∧ ∀ (s : Shared) (H : Hp) (C : Addr) (cl : List (Str × Addr)) (fp : List Addr), PTs (X.blk s H scope (compEnvC scope cl C X.env) fp) ifs tt)
    (he : ∀ (s : Shared) (H : Hp) (C : Addr) (cl : List (Str × Addr)) (fp : List Addr), DE (X.blk s H scope (compEnvC scope cl C X.env) fp) E0 elt pe) (hs : ∀ x, foldedSetIterable iter X.env x = pure x := by intro _; rfl) :
    DS X E (.Assign [.Name y py] (.ListComp elt [⟨tg, iter, ifs, 0⟩] scope pos) spos) (dAsg (dLc pi q pt pe (own.map (·.2))) (qName i)) := ⟨ds_setLc_k (k := fun Q acc M => Q (.lst acc) M) hc hN hy hyl hsw hi ok hg ht he hs hk_lst⟩
theorem ds_setLcM {i : Nat} {y : Str} {py spos : Pos} (hc : X.calm = true) (hN : X.N.Nodup) (hy : X.N[i]? = some y) (hyl : X.env.scope.names.lookup y = some .local)
    (hsw : swapsWith (.ListComp elt [⟨tg, iter, ifs, 0⟩] scope pos) (some (.Name y py)) spos.line X.env = pure true) (hi : DI X E tg iter pi) (ok : BlkOk X.N X.env.scope scope own)
    (hg : ∀ (s : Shared) (H : Hp) (C : Addr) (cl : List (Str × Addr)) (fp : List Addr), DGW (X.blk s H scope (compEnvC scope cl C X.env) fp) (own.map (·.2)) tg g q)
    (ht : ∃ tt, SndT X.K E0 tt pt ∧ ∀ (s : Shared) (H : Hp) (C : Addr) (cl : List (Str × Addr)) (fp : List Addr), PTs (X.blk s H scope (compEnvC scope cl C X.env) fp) ifs tt)
    (he : ∀ (s : Shared) (H : Hp) (C : Addr) (cl : List (Str × Addr)) (fp : List Addr), DE (X.blk s H scope (compEnvC scope cl C X.env) fp) E0 elt pe) (hs : ∀ x, foldedSetIterable iter X.env x = pure x := by intro _; rfl) :
    DS X E (.Assign [.Name y py] (.ListComp elt [⟨tg, iter, ifs, 0⟩] scope pos) spos) (dAsg (dLcM pi q pt pe (own.map (·.2))) (qName i)) := ⟨ds_setLc_k (k := fun Q acc M => ∀ l, M l = none → Q (.ref l) (updM M l (.lst acc))) hc hN hy hyl hsw hi ok hg ht he hs hk_lstM⟩
end

/-! ### what comes to stand for good -/
def subM (N M : MS) : Prop := ∀ a mo, N a = some mo → M a = some mo
def lessM (M N : MS) : MS := fun a => match N a with | some _ => none | none => M a
mutual
/-- what a datum is, once the own things of M stand for good -/
inductive Fz (M : MS) : D → D → Prop
  | same (d : D) : Fz M d d
  | lst {l : Addr} {ds es : List D} : M l = some (.lst ds) → Fzs M ds es → Fz M (.ref l) (.lst es)
  | dK {l : Addr} {ks : List Key} {ds es : List D} : M l = some (.dK ks ds) → Fzs M ds es → Fz M (.ref l) (.dK ks es)
  | dT {l : Addr} {ks : List (List Key)} {ds es : List D} : M l = some (.dT ks ds) → Fzs M ds es → Fz M (.ref l) (.dT ks es)
  | obj {l C : Addr} {ns : List Str} {ds es : List D} : M l = some (.ins C ns ds) → Fzs M ds es → Fz M (.ref l) (.obj C ns es)
  | tupI {ds es : List D} : Fzs M ds es → Fz M (.tup ds) (.tup es)
  | lstI {ds es : List D} : Fzs M ds es → Fz M (.lst ds) (.lst es)
inductive Fzs (M : MS) : List D → List D → Prop
  | nil : Fzs M [] []
  | cons {d e : D} {ds es : List D} : Fz M d e → Fzs M ds es → Fzs M (d :: ds) (e :: es)
end
theorem Fzs.refl (M : MS) : ∀ ds : List D, Fzs M ds ds
  | [] => .nil
  | d :: ds => .cons (.same d) (Fzs.refl M ds)
def Wo.frzS {K : PySem.W.Frag} (w : Wo K) (N : MS) (h : subM N w.M) : Wo K where
  G := fun a => match lessM w.M N a with | some _ => w.H a | none => w.G a
  M := N
  H := w.H
  gh := fun b u e0 => by
    have e : (match lessM w.M N b with | some _ => w.H b | none => w.G b) = some u := e0
    cases q : lessM w.M N b with
    | none => rw [q] at e; exact w.gh b u e
    | some _ => rw [q] at e; exact e
  gm := fun a ha => by
    have q : lessM w.M N a = none := by
      unfold lessM
      cases e : N a with
      | none => exact absurd e ha
      | some _ => rfl
    show (match lessM w.M N a with | some _ => w.H a | none => w.G a) = none
    rw [q]
    refine w.gm a (fun z => ?_)
    cases e : N a with
    | none => exact ha e
    | some mo => rw [h a mo e] at z; cases z
  mh := fun a mo ha => by
    obtain ⟨ho, e, r⟩ := w.mh a mo (h a mo ha)
    refine ⟨ho, e, r.mono fun b u q => ?_⟩
    show (match lessM w.M N b with | some _ => w.H b | none => w.G b) = some u
    cases z : lessM w.M N b with
    | none => exact q
    | some _ => exact w.gh b u q
theorem Wo.frzS_same {K : PySem.W.Frag} (w : Wo K) (N : MS) (h : subM N w.M) : Same w.G (w.frzS N h).G := fun b u q => by
  show (match lessM w.M N b with | some _ => w.H b | none => w.G b) = some u
  cases z : lessM w.M N b with
  | none => exact q
  | some _ => exact w.gh b u q
theorem Wo.frzS_stp {K : PySem.W.Frag} (w : Wo K) (N : MS) (h : subM N w.M) : Stp w (w.frzS N h) where
  gg := w.frzS_same N h
  hh := fun _ _ q _ => q
  al := fun a o q z => by
    have z' : w.H a = none := z
    rw [q] at z'; cases z'
  gn := fun a o q => by
    have q' : (match lessM w.M N a with | some _ => w.H a | none => w.G a) = some o := q
    cases z : lessM w.M N a with
    | none => rw [z] at q'; exact .inl q'
    | some mo =>
      refine .inr (.inr fun e => ?_)
      unfold lessM at z
      cases y : N a with
      | none => rw [y, e] at z; cases z
      | some _ => rw [y] at z; cases z
  mn := fun a q => .inl (fun z => by
    have q' : N a ≠ none := q
    cases e : N a with
    | none => exact q' e
    | some mo => rw [h a mo e] at z; cases z)
section
variable {K : PySem.W.Frag} {w : Wo K} {N : MS} {h : subM N w.M}
theorem Wo.frz_at {a : Addr} {mo : MO} (q : lessM w.M N a = some mo) : ∃ ho, (w.frzS N h).G a = some ho ∧ RepO K w.G ho mo := by
  have e : w.M a = some mo := by
    unfold lessM at q
    cases y : N a with
    | none => rw [y] at q; exact q
    | some _ => rw [y] at q; cases q
  obtain ⟨ho, e1, r⟩ := w.mh a mo e
  refine ⟨ho, ?_, r⟩
  show (match lessM w.M N a with | some _ => w.H a | none => w.G a) = some ho
  rw [q]; exact e1
mutual
theorem Fz.rep : ∀ {d e : D} {v : V}, Fz (lessM w.M N) d e → Rp K w.G v d → Rp K (w.frzS N h).G v e := by
  intro d e v f r
  match f with
  | .same _ => exact r.mono (w.frzS_same N h)
  | .lst q fs =>
    cases r
    obtain ⟨ho, e1, r1⟩ := Wo.frz_at (h := h) q
    cases ho <;> first | exact (show False from r1).elim | skip
    exact .lst e1 (Fzs.rep fs r1)
  | .dK q fs =>
    cases r
    obtain ⟨ho, e1, r1⟩ := Wo.frz_at (h := h) q
    cases ho <;> first | exact (show False from r1).elim | skip
    exact .dK e1 r1.1 (Fzs.rep fs r1.2)
  | .dT q fs =>
    cases r
    obtain ⟨ho, e1, r1⟩ := Wo.frz_at (h := h) q
    cases ho <;> first | exact (show False from r1).elim | skip
    exact .dT e1 r1.1 (Fzs.rep fs r1.2)
  | .obj q fs =>
    cases r
    obtain ⟨ho, e1, r1⟩ := Wo.frz_at (h := h) q
    cases ho <;> first | exact (show False from r1).elim | skip
    obtain ⟨rfl, r2, r3⟩ := r1
    exact .obj e1 r2 (Fzs.rep fs r3)
  | .tupI fs =>
    cases r with
    | tup a b => exact .tup (same_seqT (w.frzS_same N h) a) (Fzs.rep fs b)
  | .lstI fs =>
    cases r with
    | lst a b => exact .lst (w.frzS_same N h _ _ a) (Fzs.rep fs b)
theorem Fzs.rep : ∀ {ds es : List D} {vs : List V}, Fzs (lessM w.M N) ds es → Rps K w.G vs ds → Rps K (w.frzS N h).G vs es := by
  intro ds es vs f r
  match f with
  | .nil => cases r; exact .nil
  | .cons f fs =>
    cases r with
    | cons r rs => exact .cons (Fz.rep f r) (Fzs.rep fs rs)
end
end
/-- slot by slot -/
def FzR (M : MS) (ρ ρ' : Ro) : Prop := ρ.length = ρ'.length ∧ ∀ (i : Nat) (e : D), ρ'[i]? = some (some e) → ∃ d, ρ[i]? = some (some d) ∧ Fz M d e
theorem FzR.refl (M : MS) (ρ : Ro) : FzR M ρ ρ := ⟨rfl, fun i e h => ⟨e, h, .same e⟩⟩
theorem FzR.set {M : MS} {ρ : Ro} {i : Nat} {d e : D} (h : ρ[i]? = some (some d)) (f : Fz M d e) : FzR M ρ (ρ.set i (some e)) := by
  refine ⟨by simp, fun j x q => ?_⟩
  by_cases hj : i = j
  · subst hj
    rw [List.getElem?_set_self (List.getElem?_eq_some_iff.mp h).1] at q
    cases q
    exact ⟨d, h, f⟩
  · rw [List.getElem?_set_ne hj] at q
    exact ⟨x, q, .same x⟩
/-- ahead of these statements some own things come to stand for good -/
def dGh (p : PY) : PY := fun D ρ M => ∃ N ρ', subM N M ∧ FzR (lessM M N) ρ ρ' ∧ p D ρ' N
theorem dss_gh {X : Cx} {E : XK} {sts : List Stmt} {p : PY} (h : DSs X E sts p) : DSs X E sts (dGh p) := by
  obtain ⟨t, h, s⟩ := h
  refine ⟨t, h, fun w σ ρ Dh D hS hD hp => ?_⟩
  obtain ⟨N, ρ', sub, fz, hp⟩ := hp
  exact s (w.frzS N sub) σ ρ' Dh D ⟨hS.1.trans fz.1, fun i e q => by
    obtain ⟨d, e1, f⟩ := fz.2 i e q
    obtain ⟨v, e2, r⟩ := hS.2 i d e1
    exact ⟨v, e2, f.rep r⟩⟩ (hD.step (w.frzS_stp N sub)) hp

/-! ### defs -/
abbrev Fs := List D → MS → QX → EX → Prop
def toSp (K : PySem.W.Frag) (fs : Fs) : Sp := fun vs H Q E => ∃ (w : Wo K) (ds : List D) (q : QX) (ex : EX), w.H = H ∧ Rps K w.G vs ds ∧ ExOk E w ex ∧ (∀ x v w', q x w'.M → Stp w w' → Rp K w'.G v x → Q v w'.H) ∧ fs ds w.M q ex
abbrev Ps := List D → (D → Prop) → (Addr → Prop) → Prop
/-- a def that changes nothing -/
def fsP (P : Ps) : Fs := fun ds M q ex => M = M0 ∧ P ds (fun x => q x M0) (fun c => ex c M0)
def joinM (M Mc M' : MS) : MS := fun a => match M' a with
  | some o => some o
  | none => match Mc a with
    | some _ => none
    | none => M a
theorem joinM_0 (M : MS) : joinM M M0 M0 = M := rfl
/-- the caller's world behind a call that was handed Mc -/
def Wo.after {K : PySem.W.Frag} (w : Wo K) (Mc : MS) (hs : subM Mc w.M) (w' : Wo K) (st : Stp (w.cutM Mc hs) w') : Wo K where
  G := w'.G
  M := joinM w.M Mc w'.M
  H := w'.H
  gh := w'.gh
  gm := fun a ha => by
    unfold joinM at ha
    cases e : w'.M a with
    | some o => exact w'.gm a (by rw [e]; exact fun z => by cases z)
    | none =>
      rw [e] at ha
      cases ec : Mc a with
      | some _ => rw [ec] at ha; exact absurd rfl ha
      | none =>
        rw [ec] at ha
        cases em : w.M a with
        | none => exact absurd em ha
        | some mo =>
          cases eg : w'.G a with
          | none => rfl
          | some u =>
            obtain ⟨ho, eh, _⟩ := w.mh a mo em
            rcases st.gn a u eg with q | q | q
            · have q' : w.G a = some u := q
              rw [w.gm a (by rw [em]; exact fun z => by cases z)] at q'; cases q'
            · have q' : w.H a = none := q
              rw [eh] at q'; cases q'
            · exact absurd (show Mc a = none from ec) q
  mh := fun a mo ha => by
    unfold joinM at ha
    cases e : w'.M a with
    | some o =>
      rw [e] at ha; cases ha
      exact w'.mh a mo e
    | none =>
      rw [e] at ha
      cases ec : Mc a with
      | some _ => rw [ec] at ha; cases ha
      | none =>
        rw [ec] at ha
        obtain ⟨ho, eh, r⟩ := w.mh a mo ha
        exact ⟨ho, st.hh a ho eh ec, r.mono st.gg⟩
theorem Wo.after_stp {K : PySem.W.Frag} (w : Wo K) (Mc : MS) (hs : subM Mc w.M) (w' : Wo K) (st : Stp (w.cutM Mc hs) w') : Stp w (w.after Mc hs w' st) where
  gg := st.gg
  hh := fun a o h m => st.hh a o h (by
    show Mc a = none
    cases e : Mc a with
    | none => rfl
    | some mo => rw [hs a mo e] at m; cases m)
  al := st.al
  gn := fun a o h => by
    rcases st.gn a o h with q | q | q
    · exact .inl q
    · exact .inr (.inl q)
    · refine .inr (.inr fun z => q ?_)
      show Mc a = none
      cases e : Mc a with
      | none => rfl
      | some mo => rw [hs a mo e] at z; cases z
  mn := fun a h => by
    have h' : joinM w.M Mc w'.M a ≠ none := h
    unfold joinM at h'
    cases e : w'.M a with
    | some o =>
      rcases st.mn a (by rw [e]; exact fun z => by cases z) with q | q
      · refine .inl fun z => q ?_
        show Mc a = none
        cases e : Mc a with
        | none => rfl
        | some mo => rw [hs a mo e] at z; cases z
      · exact .inr q
    | none =>
      rw [e] at h'
      cases ec : Mc a with
      | some _ => rw [ec] at h'; exact absurd rfl h'
      | none => rw [ec] at h'; exact .inl h'
def dCall (fs : Fs) (dds : List D) (pp : PXa) : PX := fun ρ M Q Ex => pp ρ M (fun ds M1 => ∃ Mc, subM Mc M1 ∧ fs (ds ++ dds) Mc (fun x M' => Q x (joinM M1 Mc M')) (fun c M' => Ex c (joinM M1 Mc M'))) Ex
def dCallP (P : Ps) (dds : List D) (pp : PXa) : PX := fun ρ M Q Ex => pp ρ M (fun ds M1 => P (ds ++ dds) (fun x => Q x M1) (fun c => Ex c M1)) Ex
theorem sp_of {K : PySem.W.Frag} {E : XK} {fs : Fs} {w : Wo K} {vs : List V} {ds : List D} {R : VK} {Q : QX} {Ex : EX} (hE : ExOk E w Ex) (hR : ∀ x v w', Q x w'.M → Stp w w' → Rp K w'.G v x → R v w'.H) (r : Rps K w.G vs ds)
    (h : ∃ Mc, subM Mc w.M ∧ fs ds Mc (fun x M' => Q x (joinM w.M Mc M')) (fun c M' => Ex c (joinM w.M Mc M'))) : toSp K fs vs w.H R E := by
  obtain ⟨Mc, hs, h⟩ := h
  refine ⟨w.cutM Mc hs, ds, _, _, rfl, r, fun c w' q st => ?_, fun x v w' q st rv => ?_, h⟩
  · exact hE c (w.after Mc hs w' st) q (w.after_stp Mc hs w' st)
  · exact hR x v (w.after Mc hs w' st) q (w.after_stp Mc hs w' st) rv
theorem snd_call {K : PySem.W.Frag} {E : XK} {fs : Fs} {dvs : List V} {dds : List D} {ta : TA} {pp : PXa} (sa : SndA K E ta pp) (hd : ∀ G : Hp, Rps K G dvs dds) : Snd K E (tCall (toSp K fs) dvs E ta) (dCall fs dds pp) := by
  intro w σ ρ R Q Ex hS hE hR h
  refine sa w σ ρ _ _ Ex hS hE (fun ds vs w1 h1 s1 r1 => ?_) h
  exact sp_of (hE.step s1) (fun x v w' q st r => hR x v w' q (s1.trans st) r) (r1.append (hd _)) h1
theorem Snd.imp {K : PySem.W.Frag} {E : XK} {t : TE} {p p' : PX} (h : Snd K E t p) (i : ∀ ρ M Q Ex, p' ρ M Q Ex → p ρ M Q Ex) : Snd K E t p' := fun w σ ρ R Q Ex hS hE hR hp => h w σ ρ R Q Ex hS hE hR (i _ _ _ _ hp)

/-- a def of the module by its name -/
structure FnG (P : Program) (w : World) (K : PySem.W.Frag) (mg : Str → Option Value) (base : Heap) (k : Nat) (x : Str) (n : Nat) (dds : List D) (fs : Fs) : Prop where
  ex : ∃ (f : Addr) (fd : FuncData) (ps : List Str) (ds : List Value) (dvs : List V), mg x = some (.ref f) ∧ PySem.W.keepIn K (.ref f) = true ∧ FnOk P w K mg base (L2.CX P w) k f fd ps (toSp K fs) ∧ Binds K fd ps ds ∧ Vals dvs ds ∧ (∀ G : Hp, Rps K G dvs dds)
theorem FnG.mono {P : Program} {w : World} {K : PySem.W.Frag} {mg : Str → Option Value} {base : Heap} {j k : Nat} {x : Str} {n : Nat} {dds : List D} {fs : Fs} (h : FnG P w K mg base j x n dds fs) (l : j ≤ k) : FnG P w K mg base k x n dds fs := by
  obtain ⟨f, fd, ps, ds, dvs, h1, h2, h3, h4, h5, h6⟩ := h
  exact ⟨f, fd, ps, ds, dvs, h1, h2, h3.mono l, h4, h5, h6⟩
section
variable {X : Cx} {E : XK} {k n : Nat} {x : Str} {fs : Fs} {P : Ps} {dds : List D} {e : Expr} {es : List Expr} {p pos : Pos} {pp : PXa}
theorem d_call (F : FnG X.prog X.w X.K X.mg X.base k x n dds fs) (hr : Room k X.A) (hx : Passes (L2.CX X.prog X.w) X E) (ha : DA X E (e :: es) pp) (hg : Gl X x := by rfl) (hdb : (x == ("__debug__" : Str)) = false := by decide)
    (he : starEach (e :: es) X.env = (false, eval e X.env) :: starEach es X.env := by rfl) (hpl : (backTo pos (starEach es X.env)).any (·.1) = false := by rfl) : DE X E (.Call (.Name x p) (e :: es) [] pos) (dCall fs dds pp) := by
  obtain ⟨f, fd, ps, ds, dvs, h1, h2, h3, h4, h5, h6⟩ := F
  obtain ⟨t, ha, sa⟩ := ha
  exact ⟨_, pe_call h3 hr hg h1 h2 h4 h5 hx ha hdb he hpl, snd_call sa h6⟩
theorem call_pure {ρ : Ro} {M : MS} {Q : QX} {Ex : EX} (hm : ∀ A B Exx, (∀ ds M', A ds M' → B ds M') → pp ρ M A Exx → pp ρ M B Exx) (h : dCallP P dds pp ρ M Q Ex) : dCall (fsP P) dds pp ρ M Q Ex :=
  hm _ _ _ (fun ds M1 h => ⟨M0, (fun a mo z => by cases z), rfl, h⟩) h
theorem snd_callP {K : PySem.W.Frag} {dvs : List V} {ta : TA} (sa : SndA K E ta pp) (hd : ∀ G : Hp, Rps K G dvs dds) : Snd K E (tCall (toSp K (fsP P)) dvs E ta) (dCallP P dds pp) := by
  intro w σ ρ R Q Ex hS hE hR h
  refine sa w σ ρ _ _ Ex hS hE (fun ds vs w1 h1 s1 r1 => ?_) h
  exact sp_of (Q := Q) (Ex := Ex) (hE.step s1) (fun x v w' q st r => hR x v w' q (s1.trans st) r) (r1.append (hd _)) ⟨M0, (fun a mo z => by cases z), rfl, h1⟩
theorem d_callP (F : FnG X.prog X.w X.K X.mg X.base k x n dds (fsP P)) (hr : Room k X.A) (hx : Passes (L2.CX X.prog X.w) X E) (ha : DA X E (e :: es) pp) (hg : Gl X x := by rfl) (hdb : (x == ("__debug__" : Str)) = false := by decide)
    (he : starEach (e :: es) X.env = (false, eval e X.env) :: starEach es X.env := by rfl) (hpl : (backTo pos (starEach es X.env)).any (·.1) = false := by rfl) : DE X E (.Call (.Name x p) (e :: es) [] pos) (dCallP P dds pp) := by
  obtain ⟨f, fd, ps, ds, dvs, h1, h2, h3, h4, h5, h6⟩ := F
  obtain ⟨t, ha, sa⟩ := ha
  exact ⟨_, pe_call h3 hr hg h1 h2 h4 h5 hx ha hdb he hpl, snd_callP sa h6⟩
end

/-! ### the rule for a def -/
abbrev cxD (P : Program) (w : World) (K : PySem.W.Frag) (mg : Str → Option Value) (base : Heap) (N : List Str) (qual : Str) (st : Stmt) (f : Addr) (cdv : Value) (A : Around) (outer : List Env) (s : Shared) (H : Hp) (E : XK) : Cx :=
  cxOf (L2.CX P w) P w K mg base N qual (defScope st) f cdv A outer s H E
def startR (N : List Str) (ds : List D) : Ro := ds.map some ++ List.replicate (N.length - ds.length) none
theorem sl_start {K : PySem.W.Frag} {G : Hp} {N : List Str} {vs : List V} {ds : List D} (r : Rps K G vs ds) : Sl K G (L2.start N vs) (startR N ds) := by
  have hl := r.length
  refine ⟨by unfold L2.start startR; simp [hl], fun i d h => ?_⟩
  unfold startR at h
  by_cases hi : i < ds.length
  · rw [List.getElem?_append_left (by simpa using hi), List.getElem?_map] at h
    cases q : ds[i]? with
    | none => rw [q] at h; cases h
    | some d' =>
      rw [q] at h; cases h
      obtain ⟨v, e, rv⟩ := r.get q
      refine ⟨v, ?_, rv⟩
      unfold L2.start
      rw [List.getElem?_append_left (by simpa [hl] using hi), List.getElem?_map, e] <;> rfl
  · rw [List.getElem?_append_right (by simpa using (by omega : ds.length ≤ i))] at h
    have := List.mem_of_getElem? h
    have := List.eq_of_mem_replicate this
    cases this
section
variable {P : Program} {w : World} {K : PySem.W.Frag} {mg : Str → Option Value} {base : Heap}
/-- a def as it stands behind the top, with defaults or without -/
structure FunX (K : PySem.W.Frag) (x qual : Str) (st : Stmt) (f : Addr) (fd : FuncData) : Prop where
  ex : ∃ (oc : Value) (od : Option Addr) (dV kV doc pm : Value) (an : Option Addr) (cdv ct : Value) (osl : Array (Option Value)),
    fd = PySem.W.fnOf x qual (defArgs st) (defBody st) (defScope st) dV kV doc pm an cdv ct ∧ K.lookup f = some ⟨oc, od, .func fd, osl⟩ ∧ PySem.W.codeIn K cdv qual = true
theorem FunX.okX {x qual : Str} {st : Stmt} {f : Addr} {fd : FuncData} {N ps : List Str} {k : Nat} {sp : Sp} (F : FunX K x qual st f fd) (S : FnScope N ps (defScope st)) (len : ∀ vs H Q E, sp vs H Q E → vs.length = ps.length)
    (hbody : ∀ (cdv : Value) (A : Around) (outer : List Env) (s : Shared) (H : Hp) (vs : List V) (Q : VK) (E : XK), Room k (A.deeper (envOfC qual (defScope st) s.heap.objs.size f cdv)) → sp vs H Q E →
      ∃ t, PSs (cxOf (L2.CX P w) P w K mg base N qual (defScope st) f cdv A outer s H E) (defBody st) t ∧ t { nx := fun _ H' => Q .non H', rt := Q } (start N vs) H) : FnOk P w K mg base (L2.CX P w) (k + 1) f fd ps sp := by
  obtain ⟨oc, od, dV, kV, doc, pm, an, cdv, ct, osl, rfl, lk, hcd⟩ := F.ex
  exact fn_of lk hcd S len fun A outer s H vs Q E hr hsp => hbody cdv A outer s H vs Q E hr hsp
theorem funX {x qual : Str} {st : Stmt} {f : Addr} {fd : FuncData} (F : Fun K x qual st f fd) : FunX K x qual st f fd := by
  obtain ⟨oc, od, kV, doc, pm, an, cdv, ct, osl, e, lk, hcd⟩ := F.ex
  exact ⟨oc, od, _, kV, doc, pm, an, cdv, ct, osl, e, lk, hcd⟩
theorem funX_D {x qual : Str} {st : Stmt} {f : Addr} {fd : FuncData} {dvs : List V} {kws : List (Str × V)} (F : FunD K x qual (defArgs st) (defBody st) (defScope st) dvs kws f fd) : FunX K x qual st f fd := by
  obtain ⟨oc, od, dV, kV, doc, pm, an, cdv, ct, osl, e, lk, hcd, _⟩ := F.ex
  exact ⟨oc, od, dV, kV, doc, pm, an, cdv, ct, osl, e, lk, hcd⟩
/-- at the end of a def's body what is left behind comes to stand for good, or is kept -/
def retD (q : QX) : QX := fun x M' => ∃ N x', subM N M' ∧ Fz (lessM M' N) x x' ∧ q x' N
theorem okD {x qual : Str} {st : Stmt} {f : Addr} {fd : FuncData} {N ps : List Str} {k : Nat} {fs : Fs} (F : FunX K x qual st f fd) (S : FnScope N ps (defScope st)) (len : ∀ ds M q ex, fs ds M q ex → ds.length = ps.length)
    (hbody : ∀ (cdv : Value) (A : Around) (outer : List Env) (s : Shared) (H : Hp) (E : XK) (ds : List D), Room k (A.deeper (envOfC qual (defScope st) s.heap.objs.size f cdv)) → Passes (L2.CX P w) (cxD P w K mg base N qual st f cdv A outer s H E) E →
      ∃ p, DSs (cxD P w K mg base N qual st f cdv A outer s H E) E (defBody st) p ∧ ∀ M q ex, fs ds M q ex → p ⟨fun _ M' => retD q .non M', retD q, fun _ _ => False, fun _ _ => False, fun c M' => ∃ N, subM N M' ∧ ex c N⟩ (startR N ds) M) :
    FnOk P w K mg base (L2.CX P w) (k + 1) f fd ps (toSp K fs) := by
  refine F.okX S (fun vs H Q E h => ?_) (fun cdv A outer s H vs Q E hr h => ?_)
  · obtain ⟨w0, ds, q, ex, _, r, _, _, h⟩ := h
    rw [r.length]; exact len ds _ _ _ h
  · obtain ⟨w0, ds, q, ex, rfl, r, hE, hR, h⟩ := h
    obtain ⟨p, ⟨t, ht, st⟩, hp⟩ := hbody cdv A outer s w0.H E ds hr (passes_call (takes_of rfl rfl rfl rfl) fun _ _ _ _ z => z)
    refine ⟨t, ht, st w0 _ _ _ _ (sl_start r) ?_ (hp _ _ _ h)⟩
    refine ⟨fun σ ρ w' q' s' hS' => ?_, fun x v w' q' s' rv => ?_, fun _ _ _ z => z.elim, fun _ _ _ z => z.elim, fun c w' q' s' => ?_⟩
    · obtain ⟨N', x', sub, fz, q'⟩ := q'
      exact hR x' _ (w'.frzS N' sub) q' (s'.trans (w'.frzS_stp N' sub)) (fz.rep .non)
    · obtain ⟨N', x', sub, fz, q'⟩ := q'
      exact hR x' v (w'.frzS N' sub) q' (s'.trans (w'.frzS_stp N' sub)) (fz.rep rv)
    · obtain ⟨N', sub, q'⟩ := q'
      exact hE c (w'.frzS N' sub) q' (s'.trans (w'.frzS_stp N' sub))
/-- the end of a def that changes nothing -/
def retP (q : D → Prop) : QX := fun x M' => ∃ x', Fz M' x x' ∧ q x'
theorem okP {x qual : Str} {st : Stmt} {f : Addr} {fd : FuncData} {N ps : List Str} {k : Nat} {Pp : Ps} (F : FunX K x qual st f fd) (S : FnScope N ps (defScope st)) (len : ∀ ds q ex, Pp ds q ex → ds.length = ps.length)
    (hbody : ∀ (cdv : Value) (A : Around) (outer : List Env) (s : Shared) (H : Hp) (E : XK) (ds : List D), Room k (A.deeper (envOfC qual (defScope st) s.heap.objs.size f cdv)) → Passes (L2.CX P w) (cxD P w K mg base N qual st f cdv A outer s H E) E →
      ∃ p, DSs (cxD P w K mg base N qual st f cdv A outer s H E) E (defBody st) p ∧ ∀ q ex, Pp ds q ex → p ⟨fun _ _ => q .non, retP q, fun _ _ => False, fun _ _ => False, fun c _ => ex c⟩ (startR N ds) M0) :
    FnOk P w K mg base (L2.CX P w) (k + 1) f fd ps (toSp K (fsP Pp)) := by
  refine F.okX S (fun vs H Q E h => ?_) (fun cdv A outer s H vs Q E hr h => ?_)
  · obtain ⟨w0, ds, q, ex, _, r, _, _, _, h⟩ := h
    rw [r.length]; exact len ds _ _ h
  · obtain ⟨w0, ds, q, ex, rfl, r, hE, hR, hM, h⟩ := h
    obtain ⟨p, ⟨t, ht, st⟩, hp⟩ := hbody cdv A outer s w0.H E ds hr (passes_call (takes_of rfl rfl rfl rfl) fun _ _ _ _ z => z)
    have sub : ∀ w' : Wo K, subM M0 w'.M := fun w' a mo z => by cases z
    have hp' : p ⟨fun _ _ => q .non M0, retP fun x => q x M0, fun _ _ => False, fun _ _ => False, fun c _ => ex c M0⟩ (startR N ds) w0.M := by
      rw [hM]
      exact hp _ _ h
    refine ⟨t, ht, st w0 _ _ _ _ (sl_start r) ?_ hp'⟩
    refine ⟨fun σ ρ w' q' s' hS' => ?_, fun x v w' q' s' rv => ?_, fun _ _ _ z => z.elim, fun _ _ _ z => z.elim, fun c w' q' s' => ?_⟩
    · exact hR .non _ (w'.frzS M0 (sub w')) q' (s'.trans (w'.frzS_stp M0 (sub w'))) .non
    · obtain ⟨x', fz, q'⟩ := q'
      exact hR x' v (w'.frzS M0 (sub w')) q' (s'.trans (w'.frzS_stp M0 (sub w'))) (Fz.rep (h := sub w') fz rv)
    · exact hE c (w'.frzS M0 (sub w')) q' (s'.trans (w'.frzS_stp M0 (sub w')))
end
end DL
namespace DL
open PySem L2 PySem.Spec PyProof.Rows

/-! ### == over data -/
def eqAll (f : D → D → Option Bool) : List D → List D → Option Bool
  | x :: xs, y :: ys => match f x y, eqAll f xs ys with
    | some p, some q => some (p && q)
    | _, _ => none
  | _, _ => some true
def eqF : D → D → Option Bool
  | .non, .non => some true
  | .bl a, .bl b => some (a == b)
  | .int a, .int b => some (a == b)
  | .str a, .str b => some (a == b)
  | .bl a, .int b => some ((if a then 1 else 0) == b)
  | .int a, .bl b => some (a == (if b then 1 else 0))
  | .lst _, .tup _ | .tup _, .lst _ => some false
  | .non, .bl _ | .non, .int _ | .non, .str _ | .non, .lst _ | .non, .tup _ => some false
  | .bl _, .non | .bl _, .str _ | .bl _, .lst _ | .bl _, .tup _ => some false
  | .int _, .non | .int _, .str _ | .int _, .lst _ | .int _, .tup _ => some false
  | .str _, .non | .str _, .bl _ | .str _, .int _ | .str _, .lst _ | .str _, .tup _ => some false
  | .lst _, .non | .lst _, .bl _ | .lst _, .int _ | .lst _, .str _ => some false
  | .tup _, .non | .tup _, .bl _ | .tup _, .int _ | .tup _, .str _ => some false
  | _, _ => none
def eqD : Nat → D → D → Option Bool
  | 0, d, e => eqF d e
  | n + 1, d, e => match d, e with
    | .lst a, .lst b => if a.length = b.length then eqAll (eqD n) a b else some false
    | .tup a, .tup b => (eqAll (eqD n) a b).map fun k => k && a.length == b.length
    | d, e => eqF d e
theorem eqD_F {n : Nat} {d e : D} (hs : ∀ xs ys, ¬ (d = .lst xs ∧ e = .lst ys)) (ht : ∀ xs ys, ¬ (d = .tup xs ∧ e = .tup ys)) : eqD n d e = eqF d e := by
  cases n with
  | zero => rfl
  | succ n =>
    cases d <;> cases e <;> first
      | rfl
      | exact absurd ⟨rfl, rfl⟩ (hs _ _)
      | exact absurd ⟨rfl, rfl⟩ (ht _ _)

section
variable {X : Cx} {pins : List (Addr × Obj)} {σ : L2.St} {H G : Hp} {s : Shared}
theorem eqAll_at {f : D → D → Option Bool} {xs ys : List D} {b : Bool} (h : eqAll f xs ys = some b) : ∃ e : Nat → Bool, (∀ (j : Nat) (x y : D), xs[j]? = some x → ys[j]? = some y → f x y = some (e j)) ∧ b = (List.range (min xs.length ys.length)).all e := by
  induction xs generalizing ys b with
  | nil => cases h; exact ⟨fun _ => true, fun j x y q => by simp at q, by simp⟩
  | cons x xs ih =>
    cases ys with
    | nil => cases h; exact ⟨fun _ => true, fun j x y _ q => by simp at q, by simp⟩
    | cons y ys =>
      unfold eqAll at h
      cases hp : f x y with
      | none => rw [hp] at h; cases h
      | some p =>
        cases hq : eqAll f xs ys with
        | none => rw [hp, hq] at h; cases h
        | some q =>
          rw [hp, hq] at h
          cases h
          obtain ⟨e, h1, h2⟩ := ih hq
          refine ⟨fun j => match j with | 0 => p | j + 1 => e j, fun j x' y' a b => ?_, ?_⟩
          · cases j with
            | zero => simp at a b; subst a b; exact hp
            | succ j => exact h1 j x' y' (by simpa using a) (by simpa using b)
          · rw [h2, List.length_cons, List.length_cons, Nat.succ_min_succ, List.range_succ_eq_map, List.all_cons, List.all_map]
            rfl
theorem Rps.v_get {K : PySem.W.Frag} {vs : List V} {ds : List D} {us : List Value} (r : Rps K G vs ds) (q : Vals vs us) {j : Nat} {u : Value} (h : us[j]? = some u) : ∃ v d, vs[j]? = some v ∧ ds[j]? = some d ∧ RelV v u ∧ Rp K G v d := by
  have hl := q.length
  have hj : j < vs.length := by rw [hl]; exact (List.getElem?_eq_some_iff.mp h).1
  obtain ⟨u', e, rv⟩ := q.get (List.getElem?_eq_getElem hj)
  rw [h] at e; cases e
  obtain ⟨d, e2, r2⟩ := r.get' (List.getElem?_eq_getElem hj)
  exact ⟨_, d, List.getElem?_eq_getElem hj, e2, rv, r2⟩
theorem no_both (I : Inv X pins σ H s) (gh : Same G H) {a : Addr} {xs ys : List V} (h3 : SqT X.K G a xs) (h4 : G a = some (.lst ys)) : False := by
  obtain ⟨its, _, ⟨o, e1, c1, _⟩, _⟩ := I.tuple (same_seqT gh h3)
  obtain ⟨its', _, ⟨o', n', e1', c1', _⟩, _⟩ := I.list (SqL.of (gh _ _ h4))
  rw [e1] at e1'; cases e1'
  rw [c1] at c1'
  exact absurd (Value.type.inj c1') (by decide)
/-- the same thing read twice is equal -/
theorem eq_same (I : Inv X pins σ H s) (gh : Same G H) : ∀ (n : Nat) {v : V} {d e : D} {b : Bool}, Rp X.K G v d → Rp X.K G v e → eqD n d e = some b → b = true := by
  intro n
  induction n with
  | zero =>
    intro v d e b h1 h2 h
    cases h1 <;> cases h2 <;> first | (exfalso; exact no_both I gh (by assumption) (by assumption)) | simp_all [eqD, eqF]
  | succ n ih =>
    have all : ∀ {xs ys : List D} {vs : List V} {b : Bool}, Rps X.K G vs xs → Rps X.K G vs ys → eqAll (eqD n) xs ys = some b → b = true := by
      intro xs ys vs b h1 h2 h
      obtain ⟨e, q1, q2⟩ := eqAll_at h
      rw [q2, List.all_eq_true]
      intro j hj
      have hj' : j < min xs.length ys.length := List.mem_range.mp hj
      have l1 := h1.length
      obtain ⟨v, ev, r1⟩ := h1.get (List.getElem?_eq_getElem (show j < xs.length by omega))
      obtain ⟨v', ev', r2⟩ := h2.get (List.getElem?_eq_getElem (show j < ys.length by omega))
      rw [ev] at ev'; cases ev'
      exact ih r1 r2 (q1 j _ _ (List.getElem?_eq_getElem (show j < xs.length by omega)) (List.getElem?_eq_getElem (show j < ys.length by omega)))
    intro v d e b h1 h2 h
    cases h1 with
    | tup h3 r3 =>
      cases h2 with
      | tup h4 r4 =>
        have e := I.tuple_inj (same_seqT gh h3) (same_seqT gh h4)
        subst e
        have l1 := r3.length
        have l2 := r4.length
        simp only [eqD, Option.map_eq_some_iff] at h
        obtain ⟨k, h, hb⟩ := h
        have := all r3 r4 h
        rw [← hb, this]
        simp; omega
      | lst h4 r4 =>
        obtain ⟨its, _, ⟨o, e1, c1, _⟩, _⟩ := I.tuple (same_seqT gh h3)
        obtain ⟨its', _, ⟨o', n', e1', c1', _⟩, _⟩ := I.list (SqL.of (gh _ _ h4))
        rw [e1] at e1'; cases e1'
        rw [c1] at c1'
        exact absurd (Value.type.inj c1') (by decide)
      | _ => exact absurd h (by simp [eqD, eqF])
    | lst h3 r3 =>
      cases h2 with
      | tup h4 r4 =>
        obtain ⟨its, _, ⟨o, e1, c1, _⟩, _⟩ := I.tuple (same_seqT gh h4)
        obtain ⟨its', _, ⟨o', n', e1', c1', _⟩, _⟩ := I.list (SqL.of (gh _ _ h3))
        rw [e1] at e1'; cases e1'
        rw [c1] at c1'
        exact absurd (Value.type.inj c1') (by decide)
      | lst h4 r4 =>
        have e := I.list_inj (SqL.of (gh _ _ h3)) (SqL.of (gh _ _ h4))
        subst e
        have l1 := r3.length
        have l2 := r4.length
        simp only [eqD] at h
        rw [if_pos (by omega)] at h
        exact all r3 r4 h
      | _ => exact absurd h (by simp [eqD, eqF])
    | _ => cases h2 <;> simp_all [eqD, eqF]
/-- what stands there, by kind -/
inductive Kd (s : Shared) : D → Value → Prop
  | non : Kd s .non .none
  | bl (b : Bool) : Kd s (.bl b) (.bool b)
  | int (i : Int) (t : Tok) : Kd s (.int i) (.int i t)
  | str (x : Str) (t : Tok) : Kd s (.str x) (.str x t)
  | lst (l : Addr) (ds : List D) (its : Array Value) : s.heap.IsList l its → Kd s (.lst ds) (.ref l)
  | tup (l : Addr) (ds : List D) (its : Array Value) : s.heap.IsTuple l its → Kd s (.tup ds) (.ref l)
theorem eq_kd {A : Around} (hu : A.units < cLine) {d e : D} {a c : Value} {b : Bool} (k1 : Kd s d a) (k2 : Kd s e c) (h : eqF d e = some b) :
    SeqAt.RcAt A s a c b ∧ SeqAt.RcNeAt A s a c (!b) ∧ SeqAt.EqAt A s a c b := by
  cases k1 with
  | non =>
    cases k2 with
    | non => cases h; exact ⟨.none_none, .none_none, .same _⟩
    | bl x2 => cases h; exact ⟨.none_bool x2, .none_bool x2, .none_bool x2⟩
    | int x2 t2 => cases h; exact ⟨.none_int x2 t2, .none_int x2 t2, .none_int x2 t2⟩
    | str x2 t2 => cases h; exact ⟨.none_str x2 t2, .none_str x2 t2, .none_str x2 t2⟩
    | lst l2 s2 i2 p2 => cases h; exact ⟨.none_list p2 hu, .none_list p2 hu, .none_list p2 hu⟩
    | tup l2 s2 i2 p2 => cases h; exact ⟨.none_tuple p2 hu, .none_tuple p2 hu, .none_tuple p2 hu⟩
  | bl x1 =>
    cases k2 with
    | non => cases h; exact ⟨.bool_none x1, .bool_none x1, .bool_none x1⟩
    | bl x2 => cases h; exact ⟨.bool_bool x1 x2, .bool_bool x1 x2, .bool_bool x1 x2⟩
    | int x2 t2 => cases h; exact ⟨.bool_int x1 x2 t2, .bool_int x1 x2 t2, .bool_int x1 x2 t2⟩
    | str x2 t2 => cases h; exact ⟨.bool_str x1 x2 t2, .bool_str x1 x2 t2, .bool_str x1 x2 t2⟩
    | lst l2 s2 i2 p2 => cases h; exact ⟨.bool_list x1 p2 hu, .bool_list x1 p2 hu, .bool_list x1 p2 hu⟩
    | tup l2 s2 i2 p2 => cases h; exact ⟨.bool_tuple x1 p2 hu, .bool_tuple x1 p2 hu, .bool_tuple x1 p2 hu⟩
  | int x1 t1 =>
    cases k2 with
    | non => cases h; exact ⟨.int_none x1 t1, .int_none x1 t1, .int_none x1 t1⟩
    | bl x2 => cases h; exact ⟨.int_bool x1 t1 x2, .int_bool x1 t1 x2, .int_bool x1 t1 x2⟩
    | int x2 t2 => cases h; exact ⟨.int_int x1 t1 x2 t2, .int_int x1 t1 x2 t2, .int_int x1 t1 x2 t2⟩
    | str x2 t2 => cases h; exact ⟨.int_str x1 t1 x2 t2, .int_str x1 t1 x2 t2, .int_str x1 t1 x2 t2⟩
    | lst l2 s2 i2 p2 => cases h; exact ⟨.int_list x1 t1 p2 hu, .int_list x1 t1 p2 hu, .int_list x1 t1 p2 hu⟩
    | tup l2 s2 i2 p2 => cases h; exact ⟨.int_tuple x1 t1 p2 hu, .int_tuple x1 t1 p2 hu, .int_tuple x1 t1 p2 hu⟩
  | str x1 t1 =>
    cases k2 with
    | non => cases h; exact ⟨.str_none x1 t1, .str_none x1 t1, .str_none x1 t1⟩
    | bl x2 => cases h; exact ⟨.str_bool x1 t1 x2, .str_bool x1 t1 x2, .str_bool x1 t1 x2⟩
    | int x2 t2 => cases h; exact ⟨.str_int x1 t1 x2 t2, .str_int x1 t1 x2 t2, .str_int x1 t1 x2 t2⟩
    | str x2 t2 => cases h; exact ⟨.str_str x1 t1 x2 t2, .str_str x1 t1 x2 t2, .str_str x1 t1 x2 t2⟩
    | lst l2 s2 i2 p2 => cases h; exact ⟨.str_list x1 t1 p2 hu, .str_list x1 t1 p2 hu, .str_list x1 t1 p2 hu⟩
    | tup l2 s2 i2 p2 => cases h; exact ⟨.str_tuple x1 t1 p2 hu, .str_tuple x1 t1 p2 hu, .str_tuple x1 t1 p2 hu⟩
  | lst l1 s1 i1 p1 =>
    cases k2 with
    | non => cases h; exact ⟨.list_none p1 hu, .list_none p1 hu, .list_none p1 hu⟩
    | bl x2 => cases h; exact ⟨.list_bool x2 p1 hu, .list_bool x2 p1 hu, .list_bool x2 p1 hu⟩
    | int x2 t2 => cases h; exact ⟨.list_int x2 t2 p1 hu, .list_int x2 t2 p1 hu, .list_int x2 t2 p1 hu⟩
    | str x2 t2 => cases h; exact ⟨.list_str x2 t2 p1 hu, .list_str x2 t2 p1 hu, .list_str x2 t2 p1 hu⟩
    | lst l2 s2 i2 p2 => cases (show none = some b from h)
    | tup l2 s2 i2 p2 => cases h; exact ⟨.list_tuple p1 p2 hu, .list_tuple p1 p2 hu, .list_tuple p1 p2 hu⟩
  | tup l1 s1 i1 p1 =>
    cases k2 with
    | non => cases h; exact ⟨.tuple_none p1 hu, .tuple_none p1 hu, .tuple_none p1 hu⟩
    | bl x2 => cases h; exact ⟨.tuple_bool x2 p1 hu, .tuple_bool x2 p1 hu, .tuple_bool x2 p1 hu⟩
    | int x2 t2 => cases h; exact ⟨.tuple_int x2 t2 p1 hu, .tuple_int x2 t2 p1 hu, .tuple_int x2 t2 p1 hu⟩
    | str x2 t2 => cases h; exact ⟨.tuple_str x2 t2 p1 hu, .tuple_str x2 t2 p1 hu, .tuple_str x2 t2 p1 hu⟩
    | lst l2 s2 i2 p2 => cases h; exact ⟨.tuple_list p1 p2 hu, .tuple_list p1 p2 hu, .tuple_list p1 p2 hu⟩
    | tup l2 s2 i2 p2 => cases (show none = some b from h)
theorem kd_of (I : Inv X pins σ H s) (gh : Same G H) {v : V} {d : D} {a : Value} (h : Rp X.K G v d) (r : RelV v a) {e : D} {b : Bool} (hd : eqF d e = some b ∨ eqF e d = some b) : Kd s d a := by
  cases h with
  | non => cases r; exact .non
  | bl b => cases r; exact .bl b
  | int i => obtain ⟨t, rfl⟩ := r; exact .int i t
  | str x => obtain ⟨t, rfl⟩ := r; exact .str x t
  | lst h1 h2 =>
    cases r
    obtain ⟨its, _, pl, _⟩ := I.list (SqL.of (gh _ _ h1))
    exact .lst _ _ _ pl.isList
  | tup h1 h2 =>
    cases r
    obtain ⟨its, _, pl, _⟩ := I.tuple (same_seqT gh h1)
    exact .tup _ _ _ pl
  | _ => exact absurd hd (by cases e <;> simp [eqF])
theorem eq_rc (I : Inv X pins σ H s) (gh : Same G H) : ∀ (n : Nat) {A : Around}, A.units + n < cLine → ∀ {v u : V} {d e : D} {a c : Value} {b : Bool}, Rp X.K G v d → Rp X.K G u e → RelV v a → RelV u c → eqD n d e = some b → SeqAt.RcAt A s a c b ∧ SeqAt.RcNeAt A s a c (!b) ∧ SeqAt.EqAt A s a c b := by
  intro n
  induction n with
  | zero =>
    intro A hA v u d e a c b h1 h2 r1 r2 h
    exact eq_kd (by omega) (kd_of I gh h1 r1 (.inl h)) (kd_of I gh h2 r2 (.inr h)) h
  | succ n ih =>
    intro A hA v u d e a c b h1 h2 r1 r2 h
    have hu : A.units < cLine := by omega
    have hin : A.in1.units + n < cLine := by show A.units + 1 + n < cLine; omega
    -- item by item
    have items : ∀ {xs ys : List D} {vs us : List V} {as cs : List Value} {e : Nat → Bool}, Rps X.K G vs xs → Rps X.K G us ys → Vals vs as → Vals us cs → (∀ (j : Nat) (x y : D), xs[j]? = some x → ys[j]? = some y → eqD n x y = some (e j)) →
        ∀ j (j1 : j < as.toArray.size) (j2 : j < cs.toArray.size), SeqAt.EqAt A.in1 s as.toArray[j] cs.toArray[j] (e j) := by
      intro xs ys vs us as cs e ra rb qa qb he j j1 j2
      have j1' : j < as.length := by simpa using j1
      have j2' : j < cs.length := by simpa using j2
      obtain ⟨v', x, _, ex, rv, rx⟩ := ra.v_get qa (List.getElem?_eq_getElem j1')
      obtain ⟨u', y, _, ey, ru, ry⟩ := rb.v_get qb (List.getElem?_eq_getElem j2')
      have := (ih hin rx ry rv ru (he j x y ex ey)).2.2
      simpa using this
    by_cases hl : ∃ xs ys, d = .lst xs ∧ e = .lst ys
    · obtain ⟨xs, ys, rfl, rfl⟩ := hl
      cases h1 with
      | @lst l vs _ h3 r3 =>
        cases h2 with
        | @lst l' us _ h4 r4 =>
          cases r1
          cases r2
          obtain ⟨as, qa, pa, _⟩ := I.list (SqL.of (gh _ _ h3))
          obtain ⟨cs, qc, pc, _⟩ := I.list (SqL.of (gh _ _ h4))
          have la := qa.length
          have lc := qc.length
          have l3 := r3.length
          have l4 := r4.length
          have pair : SeqAt.RcAt A s (.ref l) (.ref l') b ∧ SeqAt.RcNeAt A s (.ref l) (.ref l') (!b) := by
            simp only [eqD] at h
            by_cases hz : xs.length = ys.length
            · rw [if_pos hz] at h
              obtain ⟨e, q1, q2⟩ := eqAll_at h
              have hsz : as.toArray.size = cs.toArray.size := by simp only [List.size_toArray]; omega
              have hb : b = (List.range as.toArray.size).all e := by rw [q2, List.size_toArray]; congr 2; omega
              rw [hb]
              exact ⟨.lists pa.isList pc.isList hsz hu (items r3 r4 qa qc q1), .lists pa.isList pc.isList hsz hu (items r3 r4 qa qc q1)⟩
            · rw [if_neg hz] at h
              cases h
              have hsz : (as.toArray.size != cs.toArray.size) = true := by simp only [List.size_toArray, bne_iff_ne]; omega
              exact ⟨.lists_lengths pa.isList pc.isList hsz hu, .lists_lengths pa.isList pc.isList hsz hu⟩
          refine ⟨pair.1, pair.2, ?_⟩
          by_cases hne : l = l'
          · subst hne
            rw [eq_same I gh _ (.lst h3 r3) (.lst h4 r4) h]
            exact .same _
          · exact .of_refs hne pair.1
    · by_cases ht : ∃ xs ys, d = .tup xs ∧ e = .tup ys
      · obtain ⟨xs, ys, rfl, rfl⟩ := ht
        cases h1 with
        | @tup l vs _ h3 r3 =>
          cases h2 with
          | @tup l' us _ h4 r4 =>
            cases r1
            cases r2
            obtain ⟨as, qa, pa, _⟩ := I.tuple (same_seqT gh h3)
            obtain ⟨cs, qc, pc, _⟩ := I.tuple (same_seqT gh h4)
            have la := qa.length
            have lc := qc.length
            have l3 := r3.length
            have l4 := r4.length
            have pair : SeqAt.RcAt A s (.ref l) (.ref l') b ∧ SeqAt.RcNeAt A s (.ref l) (.ref l') (!b) := by
              have h' := h
              simp only [eqD, Option.map_eq_some_iff] at h'
              obtain ⟨k, h', hb⟩ := h'
              obtain ⟨e, q1, q2⟩ := eqAll_at h'
              have hb' : b = ((List.range (min as.toArray.size cs.toArray.size)).all e && as.toArray.size == cs.toArray.size) := by
                rw [← hb, q2]
                simp only [List.size_toArray, ← la, ← lc, l3, l4]
              rw [hb']
              exact ⟨.tuples pa pc hu (items r3 r4 qa qc q1), .tuples pa pc hu (items r3 r4 qa qc q1)⟩
            refine ⟨pair.1, pair.2, ?_⟩
            by_cases hne : l = l'
            · subst hne
              rw [eq_same I gh _ (.tup h3 r3) (.tup h4 r4) h]
              exact .same _
            · exact .of_refs hne pair.1
      · have h' : eqF d e = some b := by
          rw [← eqD_F (n := n + 1) (fun xs ys q => hl ⟨xs, ys, q⟩) (fun xs ys q => ht ⟨xs, ys, q⟩)]
          exact h
        exact eq_kd hu (kd_of I gh h1 r1 (.inl h')) (kd_of I gh h2 r2 (.inr h')) h'
end
end DL
namespace DL
open PySem L2 PySem.Spec PyProof.Rows

/-! ### lists, own or for good -/
def sqL (M : MS) : D → Option (List D)
  | .lst ds => some ds
  | .ref l => match M l with
    | some (.lst ds) => some ds
    | _ => none
  | _ => none
def sqR (M : MS) : D → Option (List D)
  | .tup ds => some ds
  | .scr ns => some (ns.map D.int)
  | x => sqL M x
section
variable {K : PySem.W.Frag}
theorem sqL_ok {w : Wo K} {v : V} {x : D} {ds : List D} (r : Rp K w.G v x) (h : sqL w.M x = some ds) : ∃ a xs, v = .ref a ∧ w.H a = some (.lst xs) ∧ Rps K w.G xs ds := by
  cases r with
  | ref l =>
    have h' : (match w.M l with | some (.lst ds) => some ds | _ => none) = some ds := h
    cases e : w.M l with
    | none => rw [e] at h'; cases h'
    | some mo =>
      rw [e] at h'
      cases mo <;> first | (cases h'; done) | skip
      cases h'
      obtain ⟨ho, e1, r1⟩ := w.mh l _ e
      cases ho <;> first | exact (show False from r1).elim | skip
      exact ⟨l, _, rfl, e1, r1⟩
  | lst a b => cases h; exact ⟨_, _, rfl, w.gh _ _ a, b⟩
  | _ => cases h
theorem sqR_L {M : MS} {x : D} (h1 : ∀ ds, x ≠ .tup ds) (h2 : ∀ ns, x ≠ .scr ns) : sqR M x = sqL M x := by
  cases x <;> first | rfl | exact absurd rfl (h1 _) | exact absurd rfl (h2 _)
theorem sqR_ok {w : Wo K} {v : V} {x : D} {ds : List D} (r : Rp K w.G v x) (h : sqR w.M x = some ds) : ∃ a xs, v = .ref a ∧ (SqL K w.H a xs ∨ SqT K w.H a xs) ∧ Rps K w.G xs ds := by
  by_cases ht : ∃ ds, x = .tup ds
  · obtain ⟨es, rfl⟩ := ht
    cases h
    cases r with
    | tup a b => exact ⟨_, _, rfl, .inr (same_seqT w.gh a), b⟩
  · by_cases hs : ∃ ns, x = .scr ns
    · obtain ⟨ns, rfl⟩ := hs
      cases h
      cases r with
      | scr a => exact ⟨_, _, rfl, .inl (w.gh.seq a), Rps.map_int _⟩
    · rw [sqR_L (fun ds e => ht ⟨ds, e⟩) (fun ns e => hs ⟨ns, e⟩)] at h
      obtain ⟨a, xs, e, q, s⟩ := sqL_ok r h
      exact ⟨a, xs, e, .inl (SqL.of q), s⟩
end

/-! ### operators -/
def dAdd : D → D → MS → QX → Prop := fun x y M Q => match x, y with
  | .int i, .int j => Q (.int (i + j)) M
  | .str a, .str b => a.length + b.length ≤ sizeLine ∧ Q (.str (a ++ b)) M
  | x, y => match sqL M x, sqL M y with
    | some a, some b => a.length + b.length ≤ sizeLine ∧ Q (.lst (a ++ b)) M
    | _, _ => False
def dSub : D → D → MS → QX → Prop := fun x y M Q => match x, y with
  | .int i, .int j => Q (.int (i - j)) M
  | _, _ => False
def strRep (x : Str) (n : Nat) : Str := ⟨((List.replicate n x.cps.toList).flatten).toArray⟩
def MulOk (i j : Int) : Prop := i.natAbs.log2 + j.natAbs.log2 < 1000000
def dMul : D → D → MS → QX → Prop := fun x y M Q => match x, y with
  | .int i, .int j => MulOk i j ∧ Q (.int (i * j)) M
  | .str a, .int n => (0 < n ∧ n ≤ 1000 ∧ a.length ≤ 1000) ∧ Q (.str (strRep a n.toNat)) M
  | _, _ => False
def DivOk (j : Int) : Prop := 0 < j ∧ j.natAbs.log2 < 9000
def dMod : D → D → MS → QX → Prop := fun x y M Q => match x, y with
  | .int i, .int j => 0 < j ∧ Q (.int (i % j)) M
  | _, _ => False
def dFdv : D → D → MS → QX → Prop := fun x y M Q => match x, y with
  | .int i, .int j => DivOk j ∧ Q (.int (i / j)) M
  | _, _ => False
def PowOk (i j : Int) : Prop := 0 ≤ j ∧ (i.natAbs.log2 + 1) * j.toNat ≤ 1000000
def dPow : D → D → MS → QX → Prop := fun x y M Q => match x, y with
  | .int i, .int j => PowOk i j ∧ Q (.int (i ^ j.toNat)) M
  | _, _ => False
def dShl : D → D → MS → QX → Prop := fun x y M Q => match x, y with
  | .int i, .int j => (0 ≤ j ∧ i.natAbs.log2 + 1 + j.toNat ≤ 1000000) ∧ Q (.int (i * 2 ^ j.toNat)) M
  | _, _ => False
def dShr : D → D → MS → QX → Prop := fun x y M Q => match x, y with
  | .int i, .int j => 0 ≤ j ∧ Q (.int (i / 2 ^ j.toNat)) M
  | _, _ => False
/-- on naturals -/
def dBit (f : Nat → Nat → Nat) : D → D → MS → QX → Prop := fun x y M Q => match x, y with
  | .int i, .int j => (0 ≤ i ∧ 0 ≤ j) ∧ Q (.int (f i.toNat j.toNat : Nat)) M
  | _, _ => False
def dLt : D → D → MS → QX → Prop := fun x y M Q => match x, y with
  | .int i, .int j => Q (.bl (decide (i < j))) M
  | .str i, .str j => Q (.bl (decide (i.cps.toList < j.cps.toList))) M
  | _, _ => False
def dCmp (p : Int → Int → Bool) : D → D → MS → QX → Prop := fun x y M Q => match x, y with
  | .int i, .int j => Q (.bl (p i j)) M
  | _, _ => False
/-- ==, != of data -/
def dEq (neg : Bool) : D → D → MS → QX → Prop := fun x y M Q => match eqD 8 x y with
  | some b => Q (.bl (if neg then !b else b)) M
  | none => match sqL M x, sqL M y with
    | some [], some ys => Q (.bl (if neg then !ys.isEmpty else ys.isEmpty)) M
    | some xs, some [] => Q (.bl (if neg then !xs.isEmpty else xs.isEmpty)) M
    | some xs, some ys => match eqD 8 (.lst xs) (.lst ys) with
      | some b => Q (.bl (if neg then !b else b)) M
      | none => False
    | _, _ => False
def isNon : D → Bool
  | .non => true
  | _ => false
def dIs (neg : Bool) : D → D → MS → QX → Prop := fun x y M Q => match x, y with
  | x, .non => Q (.bl (if neg then !isNon x else isNon x)) M
  | .bl a, .bl b => Q (.bl (if neg then !decide (a = b) else decide (a = b))) M
  | _, _ => False
def flatD : D → Bool
  | .non => true | .bl _ => true | .int _ => true | .str _ => true
  | _ => false
def inD (x : D) (ds : List D) : Bool := ds.any fun y => eqF y x == some true
/-- in, not in: a sign in a text; a flat thing in a list or tuple of flat things -/
def dIn (neg : Bool) : D → D → MS → QX → Prop := fun x y M Q => match x, y with
  | .str a, .str b => match a.cps.toList with
    | [c] => Q (.bl (if neg then !decide (c ∈ b.cps.toList) else decide (c ∈ b.cps.toList))) M
    | _ => False
  | x, y => match sqR M y with
    | some ds => (flatD x = true ∧ ds.all flatD = true) ∧ Q (.bl (if neg then !inD x ds else inD x ds)) M
    | none => False

section
variable {X : Cx}
abbrev rOr (r r' : R2) : R2 := fun x y H Q => r x y H Q ∨ r' x y H Q
theorem opOr {f : Value → Value → Sem Value} {r r' : R2} (h : OpR X f r) (h' : OpR X f r') : OpR X f (rOr r r') := by
  intro pins s σ H x y v u Q I rx ry q
  rcases q with q | q
  · exact h pins s σ H x y v u Q I rx ry q
  · exact h' pins s σ H x y v u Q I rx ry q
def rAddStr : R2 := fun x y H Q => ∃ i j, x = .str i ∧ y = .str j ∧ i.length + j.length ≤ sizeLine ∧ Q (.str (i ++ j)) H
theorem o_add : OpR X (binaryOp .Add) (rOr (rI0 fun i j => .int (i + j)) (rOr rAddStr rCat)) := opOr op_add (opOr op_add_str op_cat)
theorem s_add : RSnd X.K (rOr (rI0 fun i j => .int (i + j)) (rOr rAddStr rCat)) dAdd := by
  intro w x y dx dy R Q rx ry hR h
  unfold dAdd at h
  split at h
  · cases rx; cases ry; exact .inl ⟨_, _, rfl, rfl, hR _ _ w h (Stp.refl w) (.int _)⟩
  · cases rx; cases ry; exact .inr (.inl ⟨_, _, rfl, rfl, h.1, hR _ _ w h.2 (Stp.refl w) (.str _)⟩)
  · split at h
    · rename_i a b ha hb
      obtain ⟨l, xs, rfl, hl, rl⟩ := sqL_ok rx ha
      obtain ⟨l', ys, rfl, hl', rl'⟩ := sqL_ok ry hb
      refine .inr (.inr ⟨l, l', xs, ys, rfl, rfl, hl, hl', by rw [rl.length, rl'.length]; exact h.1, fun p hp => ?_⟩)
      exact hR _ _ (w.newD p _ hp) h.2 (w.newD_stp p _ hp) (.lst upd_same ((rl.append rl').mono (w.newD_stp p _ hp).gg))
    · exact h.elim
theorem o_sub : OpR X (binaryOp .Sub) (rI0 fun i j => .int (i - j)) := op_sub
theorem s_int0 {g : Int → Int → Int} {rr : D → D → MS → QX → Prop} (e : ∀ x y M Q, rr x y M Q → ∃ i j, x = .int i ∧ y = .int j ∧ Q (.int (g i j)) M) : RSnd X.K (rI0 fun i j => .int (g i j)) rr := by
  intro w x y dx dy R Q rx ry hR h
  obtain ⟨i, j, rfl, rfl, q⟩ := e _ _ _ _ h
  cases rx; cases ry; exact ⟨_, _, rfl, rfl, hR _ _ w q (Stp.refl w) (.int _)⟩
theorem s_intC {C : Int → Int → Prop} {g : Int → Int → Int} {rr : D → D → MS → QX → Prop} (e : ∀ x y M Q, rr x y M Q → ∃ i j, x = .int i ∧ y = .int j ∧ C i j ∧ Q (.int (g i j)) M) : RSnd X.K (rI C fun i j => .int (g i j)) rr := by
  intro w x y dx dy R Q rx ry hR h
  obtain ⟨i, j, rfl, rfl, c, q⟩ := e _ _ _ _ h
  cases rx; cases ry; exact ⟨_, _, rfl, rfl, c, hR _ _ w q (Stp.refl w) (.int _)⟩
theorem s_sub : RSnd X.K (rI0 fun i j => .int (i - j)) dSub := s_int0 fun x y M Q h => by
  unfold dSub at h
  split at h
  · exact ⟨_, _, rfl, rfl, h⟩
  · exact h.elim
/-- a text times an int -/
def rStrMul : R2 := fun x y H Q => ∃ a n, x = .str a ∧ y = .int n ∧ (0 < n ∧ n ≤ 1000 ∧ a.length ≤ 1000) ∧ Q (.str (strRep a n.toNat)) H
theorem foldl_app (z : Array Nat) : ∀ (n : Nat) (acc : Array Nat), ((List.replicate n z).foldl (· ++ ·) acc).toList = acc.toList ++ (List.replicate n z.toList).flatten
  | 0, acc => by simp
  | n + 1, acc => by
    rw [List.replicate_succ, List.foldl_cons, foldl_app z n, Array.toList_append, List.replicate_succ, List.flatten_cons, List.append_assoc]
theorem o_strMul : OpR X (binaryOp .Mult) rStrMul := by
  intro pins s σ H x y v u Q I rx ry h
  obtain ⟨a, n, rfl, rfl, ⟨h0, h1, h2⟩, q⟩ := h
  obtain ⟨t, rfl⟩ := rx
  obtain ⟨t', rfl⟩ := ry
  have fin : ∀ (t k : Nat) (z : Str), z = strRep a n.toNat → EP X pins σ Q (.str z t) { s with toks := k } := fun t k z e => ⟨.str _, H, I.tok k, ⟨t, by rw [e]⟩, q⟩
  have hn : ∃ m : Nat, n = (m : Int) ∧ 0 < m ∧ m ≤ 1000 := ⟨n.toNat, by omega, by omega, by omega⟩
  obtain ⟨m, rfl, m0, m1⟩ := hn
  have hm : ((m : Int)).toNat = m := by omega
  have hmul : a.length * m ≤ 1000 * 1000 := Nat.mul_le_mul h2 m1
  refine P.mul_str ?_ (fun _ _ hc => ?_) (fun _ _ => ?_) ?_
  · rw [decide_eq_false (by omega), decide_eq_false (by omega)]; rfl
  · have : (2 ^ 63 - 1 : Int) / (m : Int) ≥ 1000 := by
      rw [ge_iff_le, Int.le_ediv_iff_mul_le (by omega)]
      have : (1000 : Int) * (m : Int) ≤ 1000 * 1000 := by omega
      omega
    omega
  · rw [hm]
    have : sizeLine = 16777216 := sizeLine_eq
    refine decide_eq_false ?_
    omega
  · rw [if_neg (by omega)]
    split
    · rename_i hz
      refine fin t s.toks a ?_
      rw [Bool.or_eq_true] at hz
      rcases hz with hz | hz
      · have : m = 1 := by
          have := beq_iff_eq.mp hz
          omega
        subst this
        show a = strRep a 1
        unfold strRep
        simp
      · have : a.cps.toList = [] := by
          have := beq_iff_eq.mp hz
          exact List.eq_nil_of_length_eq_zero (by rw [Array.length_toList]; exact this)
        unfold strRep
        rw [this]
        have e2 : (List.replicate ((m : Int)).toNat ([] : List Nat)).flatten = [] := by
          induction ((m : Int)).toNat with
          | zero => rfl
          | succ k ih => rw [List.replicate_succ, List.flatten_cons, ih] <;> rfl
        rw [e2]
        cases a with
        | mk c =>
          have : c.toList = [] := this
          have : c = #[] := Array.toList_inj.mp this
          rw [this]
    · refine ⟨by
        show (Str.mk _).cps.size ≤ _
        have e := congrArg List.length (foldl_app a.cps ((m : Int)).toNat #[])
        have e3 : ∀ (k : Nat) (l : List Nat), ((List.replicate k l).flatten).length = k * l.length := fun k l => by
          induction k with
          | zero => simp
          | succ k ih => rw [List.replicate_succ, List.flatten_cons, List.length_append, ih, Nat.succ_mul, Nat.add_comm]
        rw [Array.length_toList, hm] at e
        rw [hm, e, List.length_append, e3]
        have : sizeLine = 16777216 := sizeLine_eq
        have l0 : a.cps.toList.length = a.length := by simp [Str.length]
        rw [l0, Nat.mul_comm]
        simp
        omega, ?_⟩
      refine fin s.toks (s.toks + 1) _ ?_
      unfold strRep
      congr 1
      apply Array.toList_inj.mp
      rw [foldl_app a.cps ((m : Int)).toNat #[]]
      simp
end
end DL
namespace DL
open PySem L2 PySem.Spec PyProof.Rows
section
variable {X : Cx}
/-! ### operators, further -/
theorem bits_le (i : Int) : Builtin.Int.intBits i ≤ i.natAbs.log2 + 1 := by
  unfold Builtin.Int.intBits
  split <;> omega
theorem o_mul : OpR X (binaryOp .Mult) (rOr (rI CMulW fun i j => .int (i * j)) rStrMul) := opOr op_mulW o_strMul
theorem s_mul : RSnd X.K (rOr (rI CMulW fun i j => .int (i * j)) rStrMul) dMul := by
  intro w x y dx dy R Q rx ry hR h
  unfold dMul at h
  split at h
  · cases rx; cases ry; exact .inl ⟨_, _, rfl, rfl, h.1, hR _ _ w h.2 (Stp.refl w) (.int _)⟩
  · cases rx; cases ry; exact .inr ⟨_, _, rfl, rfl, h.1, hR _ _ w h.2 (Stp.refl w) (.str _)⟩
  · exact h.elim
theorem o_mod : OpR X (binaryOp .Mod) (rI (fun _ j => 0 < j) fun i j => .int (i % j)) := op_mod
theorem s_mod : RSnd X.K (rI (fun _ j => 0 < j) fun i j => .int (i % j)) dMod := s_intC fun x y M Q h => by
  unfold dMod at h
  split at h
  · exact ⟨_, _, rfl, rfl, h.1, h.2⟩
  · exact h.elim
theorem o_fdv : OpR X (binaryOp .FloorDiv) (rI CDivW fun i j => .int (i / j)) := op_fdivW
theorem s_fdv : RSnd X.K (rI CDivW fun i j => .int (i / j)) dFdv := s_intC fun x y M Q h => by
  unfold dFdv at h
  split at h
  · exact ⟨_, _, rfl, rfl, h.1, h.2⟩
  · exact h.elim
theorem o_pow : OpR X (binaryOp .Pow) (rI PowOk fun i j => .int (i ^ j.toNat)) := opI fun i j _ _ _ _ _ hc q => pow_int hc.1 (by
  have h1 := bits_le i
  have h2 := hc.2
  have h3 : Builtin.Int.intBits i * j.toNat ≤ (i.natAbs.log2 + 1) * j.toNat := Nat.mul_le_mul_right _ h1
  have h4 : ((j.toNat : Nat) : Int) = j := Int.toNat_of_nonneg hc.1
  have h5 : ((Builtin.Int.intBits i * j.toNat : Nat) : Int) = (Builtin.Int.intBits i : Int) * j := by rw [Int.natCast_mul, h4]
  rw [← h5]
  have e : (2 : Int) ^ 27 = 134217728 := by decide
  rw [e]
  omega) q
theorem s_pow : RSnd X.K (rI PowOk fun i j => .int (i ^ j.toNat)) dPow := s_intC fun x y M Q h => by
  unfold dPow at h
  split at h
  · exact ⟨_, _, rfl, rfl, h.1, h.2⟩
  · exact h.elim
theorem o_shl : OpR X (binaryOp .LShift) (rI CShl fun i j => .int (i * 2 ^ j.toNat)) := op_shlW
theorem s_shl : RSnd X.K (rI CShl fun i j => .int (i * 2 ^ j.toNat)) dShl := s_intC fun x y M Q h => by
  unfold dShl at h
  split at h
  · rename_i i j
    refine ⟨_, _, rfl, rfl, ⟨h.1.1, ?_⟩, h.2⟩
    have h1 := bits_le i
    have e : (2 : Int) ^ 27 = 134217728 := by decide
    rw [e]
    have := h.1.2
    have := h.1.1
    omega
  · exact h.elim
theorem o_shr : OpR X (binaryOp .RShift) (rI (fun _ j => 0 ≤ j) fun i j => .int (i / 2 ^ j.toNat)) := op_shr
theorem s_shr : RSnd X.K (rI (fun _ j => 0 ≤ j) fun i j => .int (i / 2 ^ j.toNat)) dShr := s_intC fun x y M Q h => by
  unfold dShr at h
  split at h
  · exact ⟨_, _, rfl, rfl, h.1, h.2⟩
  · exact h.elim
theorem s_bit {g : Int → Int → Int} {f : Nat → Nat → Nat} (hg : ∀ i j : Int, 0 ≤ i → 0 ≤ j → g i j = (f i.toNat j.toNat : Nat)) : RSnd X.K (rI0 fun i j => .int (g i j)) (dBit f) := s_int0 fun x y M Q h => by
  unfold dBit at h
  split at h
  · refine ⟨_, _, rfl, rfl, ?_⟩
    rw [hg _ _ h.1.1 h.1.2]
    exact h.2
  · exact h.elim
theorem o_and : OpR X (binaryOp .BitAnd) (rI0 fun i j => .int (Builtin.bitAnd i j)) := op_and
theorem s_and : RSnd X.K (rI0 fun i j => .int (Builtin.bitAnd i j)) (dBit fun a b => a &&& b) := s_bit fun i j h1 h2 => bitAnd_pp h1 h2
theorem o_or : OpR X (binaryOp .BitOr) (rI0 fun i j => .int (Builtin.bitOr i j)) := op_or
theorem s_or : RSnd X.K (rI0 fun i j => .int (Builtin.bitOr i j)) (dBit fun a b => a ||| b) := s_bit fun i j h1 h2 => bitOr_nn h1 h2
theorem nat_xor (a b : Nat) : ((a ||| b : Nat) : Int) - ((a &&& b : Nat) : Int) = ((a ^^^ b : Nat) : Int) := by
  have h : a ||| b = (a &&& b) + (a ^^^ b) := by
    have hd : (a &&& b) &&& (a ^^^ b) = 0 := by
      apply Nat.eq_of_testBit_eq
      intro i
      simp only [Nat.testBit_and, Nat.testBit_xor, Nat.zero_testBit]
      cases a.testBit i <;> cases b.testBit i <;> rfl
    have ho : (a &&& b) ||| (a ^^^ b) = a ||| b := by
      apply Nat.eq_of_testBit_eq
      intro i
      simp only [Nat.testBit_or, Nat.testBit_and, Nat.testBit_xor]
      cases a.testBit i <;> cases b.testBit i <;> rfl
    have : ∀ x y : Nat, x &&& y = 0 → x ||| y = x + y := by
      intro x
      induction x using Nat.strongRecOn with
      | _ x ih =>
        intro y hxy
        by_cases hx : x = 0
        · subst hx; simp
        · have e1 : x / 2 &&& y / 2 = 0 := by
            have := congrArg (· / 2) hxy
            simpa [Nat.and_div_two] using this
          have e2 := ih (x / 2) (by omega) (y / 2) e1
          have e3 : (x ||| y) / 2 = x / 2 ||| y / 2 := Nat.or_div_two
          have e4 : (x ||| y) % 2 = x % 2 + y % 2 := by
            have h0 : (x &&& y) % 2 = 0 := by rw [hxy]
            have h1 := Nat.testBit_or x y 0
            have h2 := Nat.testBit_and x y 0
            have h1' : ((x ||| y) % 2 = 1) ↔ (x % 2 = 1 ∨ y % 2 = 1) := by
              rw [Bool.eq_iff_iff] at h1
              simpa only [Nat.testBit_zero, decide_eq_true_eq, Bool.or_eq_true] using h1
            have h2' : ((x &&& y) % 2 = 1) ↔ (x % 2 = 1 ∧ y % 2 = 1) := by
              rw [Bool.eq_iff_iff] at h2
              simpa only [Nat.testBit_zero, decide_eq_true_eq, Bool.and_eq_true] using h2
            have h3 := Nat.mod_two_eq_zero_or_one (x ||| y)
            have h4 := Nat.mod_two_eq_zero_or_one x
            have h5 := Nat.mod_two_eq_zero_or_one y
            generalize (x ||| y) % 2 = A at *
            generalize (x &&& y) % 2 = B at *
            omega
          have e5 := Nat.div_add_mod (x ||| y) 2
          have e6 := Nat.div_add_mod x 2
          have e7 := Nat.div_add_mod y 2
          rw [e3, e2, e4] at e5
          omega
    rw [← ho]
    exact this _ _ hd
  omega
theorem o_xor : OpR X (binaryOp .BitXor) (rI0 fun i j => .int (Builtin.bitXor i j)) := op_xor
theorem s_xor : RSnd X.K (rI0 fun i j => .int (Builtin.bitXor i j)) (dBit fun a b => a ^^^ b) := s_bit fun i j h1 h2 => by
  show Builtin.bitOr i j - Builtin.bitAnd i j = _
  rw [bitOr_nn h1 h2, bitAnd_pp h1 h2]
  exact nat_xor _ _
def rLtS : R2 := fun x y H Q => ∃ i j, x = .str i ∧ y = .str j ∧ Q (.bl (decide (i.cps.toList < j.cps.toList))) H
theorem o_lt : OpR X (compareOp .Lt) (rOr (rI0 fun i j => .bl (decide (i < j))) rLtS) := opOr op_lt op_lt_str
theorem s_lt : RSnd X.K (rOr (rI0 fun i j => .bl (decide (i < j))) rLtS) dLt := by
  intro w x y dx dy R Q rx ry hR h
  unfold dLt at h
  split at h
  · cases rx; cases ry; exact .inl ⟨_, _, rfl, rfl, hR _ _ w h (Stp.refl w) (.bl _)⟩
  · cases rx; cases ry; exact .inr ⟨_, _, rfl, rfl, hR _ _ w h (Stp.refl w) (.bl _)⟩
  · exact h.elim
theorem s_cmp {p : Int → Int → Bool} : RSnd X.K (rI0 fun i j => .bl (p i j)) (dCmp p) := by
  intro w x y dx dy R Q rx ry hR h
  unfold dCmp at h
  split at h
  · cases rx; cases ry; exact ⟨_, _, rfl, rfl, hR _ _ w h (Stp.refl w) (.bl _)⟩
  · exact h.elim
theorem o_le : OpR X (compareOp .LtE) (rI0 fun i j => .bl (decide (i ≤ j))) := op_le
theorem o_gt : OpR X (compareOp .Gt) (rI0 fun i j => .bl (decide (j < i))) := op_gt
theorem o_ge : OpR X (compareOp .GtE) (rI0 fun i j => .bl (decide (j ≤ i))) := op_ge

/-! == -/
/-- two values that == tells apart by what stands at them -/
def rEqW (K : PySem.W.Frag) (neg : Bool) : R2 := fun x y H Q => ∃ b, (∃ (G : Hp) (d e : D), Same G H ∧ Rp K G x d ∧ Rp K G y e ∧ eqD 9 d e = some b) ∧ Q (.bl (if neg then !b else b)) H
theorem o_eq (hu : X.A.units + 64 < cLine) : OpR X (compareOp .Eq) (rEqW X.K false) := by
  intro pins s σ H x y v u Q I rx ry h
  obtain ⟨b, ⟨G, d, e, gh, hd, he, hb⟩, q⟩ := h
  exact (eq_rc I gh 9 (by omega) hd he rx ry hb).1 _ _ _ _ ⟨.bl b, H, I, rfl, q⟩
theorem o_ne (hu : X.A.units + 64 < cLine) : OpR X (compareOp .NotEq) (rEqW X.K true) := by
  intro pins s σ H x y v u Q I rx ry h
  obtain ⟨b, ⟨G, d, e, gh, hd, he, hb⟩, q⟩ := h
  exact (eq_rc I gh 9 (by omega) hd he rx ry hb).2.1 _ _ _ _ ⟨.bl (!b), H, I, rfl, q⟩
theorem eqAll_mono {f g : D → D → Option Bool} (h : ∀ x y b, f x y = some b → g x y = some b) : ∀ {xs ys : List D} {b : Bool}, eqAll f xs ys = some b → eqAll g xs ys = some b
  | [], _, _, e => e
  | _ :: _, [], _, e => e
  | x :: xs, y :: ys, b, e => by
    unfold eqAll at e ⊢
    cases hp : f x y with
    | none => rw [hp] at e; cases e
    | some p =>
      cases hq : eqAll f xs ys with
      | none => rw [hp, hq] at e; cases e
      | some q =>
        rw [hp, hq] at e
        rw [h _ _ _ hp, eqAll_mono h hq]
        exact e
theorem eqD_succ : ∀ (n : Nat) {d e : D} {b : Bool}, eqD n d e = some b → eqD (n + 1) d e = some b
  | 0, d, e, b, h => by
    have hs : ∀ xs ys, ¬ (d = .lst xs ∧ e = .lst ys) := fun xs ys ⟨e1, e2⟩ => by subst e1 e2; cases h
    have ht : ∀ xs ys, ¬ (d = .tup xs ∧ e = .tup ys) := fun xs ys ⟨e1, e2⟩ => by subst e1 e2; cases h
    rw [eqD_F hs ht]
    exact h
  | n + 1, d, e, b, h => by
    by_cases hl : ∃ xs ys, d = .lst xs ∧ e = .lst ys
    · obtain ⟨xs, ys, rfl, rfl⟩ := hl
      show (if xs.length = ys.length then eqAll (eqD (n + 1)) xs ys else some false) = some b
      have h' : (if xs.length = ys.length then eqAll (eqD n) xs ys else some false) = some b := h
      by_cases hz : xs.length = ys.length
      · rw [if_pos hz] at h' ⊢
        exact eqAll_mono (fun x y b q => eqD_succ n q) h'
      · rw [if_neg hz] at h' ⊢
        exact h'
    · by_cases ht : ∃ xs ys, d = .tup xs ∧ e = .tup ys
      · obtain ⟨xs, ys, rfl, rfl⟩ := ht
        show (eqAll (eqD (n + 1)) xs ys).map (fun k => k && xs.length == ys.length) = some b
        have h' : (eqAll (eqD n) xs ys).map (fun k => k && xs.length == ys.length) = some b := h
        rw [Option.map_eq_some_iff] at h' ⊢
        obtain ⟨k, h1, h2⟩ := h'
        exact ⟨k, eqAll_mono (fun x y b q => eqD_succ n q) h1, h2⟩
      · rw [eqD_F (fun xs ys q => hl ⟨xs, ys, q⟩) (fun xs ys q => ht ⟨xs, ys, q⟩)]
        rw [eqD_F (fun xs ys q => hl ⟨xs, ys, q⟩) (fun xs ys q => ht ⟨xs, ys, q⟩)] at h
        exact h
/-- a world that knows the own lists as they stand now -/
theorem eq_own {K : PySem.W.Frag} {w : Wo K} {v u : V} {d e : D} {xs ys : List D} {b : Bool} (r1 : Rp K w.G v d) (r2 : Rp K w.G u e) (h1 : sqL w.M d = some xs) (h2 : sqL w.M e = some ys) (h : eqD 9 (.lst xs) (.lst ys) = some b) :
    ∃ (G : Hp) (d e : D), Same G w.H ∧ Rp K G v d ∧ Rp K G u e ∧ eqD 9 d e = some b := by
  obtain ⟨a, vs, rfl, ha, ra⟩ := sqL_ok r1 h1
  obtain ⟨a', us, rfl, ha', ra'⟩ := sqL_ok r2 h2
  exact ⟨w.H, .lst xs, .lst ys, Same.refl _, .lst ha (ra.mono w.gh), .lst ha' (ra'.mono w.gh), h⟩
theorem eq_nil {ys : List D} : eqD 9 (.lst []) (.lst ys) = some ys.isEmpty := by
  cases ys <;> rfl
theorem eq_nil' {ys : List D} : eqD 9 (.lst ys) (.lst []) = some ys.isEmpty := by
  cases ys <;> rfl
theorem s_eq (neg : Bool) : RSnd X.K (rEqW X.K neg) (dEq neg) := by
  intro w x y dx dy R Q rx ry hR h
  have fin : ∀ b, Q (.bl b) w.M → R (.bl b) w.H := fun b q => hR _ _ w q (Stp.refl w) (.bl _)
  unfold dEq at h
  split at h
  · rename_i b hb
    exact ⟨b, ⟨w.G, dx, dy, w.gh, rx, ry, eqD_succ 8 hb⟩, fin _ h⟩
  · split at h
    · rename_i ys h1 h2
      exact ⟨_, eq_own rx ry h1 h2 eq_nil, fin _ h⟩
    · rename_i xs _ h1 h2
      exact ⟨_, eq_own rx ry h1 h2 eq_nil', fin _ h⟩
    · rename_i xs ys _ _ h1 h2
      split at h
      · rename_i b hb
        exact ⟨b, eq_own rx ry h1 h2 (eqD_succ 8 hb), fin _ h⟩
      · exact h.elim
    · exact h.elim

/-! is, in -/
def rIsNn (neg : Bool) : R2 := fun x y H Q => y = .non ∧ Q (.bl (if neg then !decide (x = .non) else decide (x = .non))) H
def rIsBb (neg : Bool) : R2 := fun x y H Q => ∃ a b : Bool, x = .bl a ∧ y = .bl b ∧ Q (.bl (if neg then !decide (a = b) else decide (a = b))) H
theorem o_is : OpR X (compareOp .Is) (rOr (rIsNn false) (rIsBb false)) := opOr op_isN op_isBl
theorem o_isnot : OpR X (compareOp .IsNot) (rOr (rIsNn true) (rIsBb true)) := opOr op_notN op_notBl
theorem non_of {K : PySem.W.Frag} {G : Hp} {v : V} {d : D} (r : Rp K G v d) : decide (v = .non) = isNon d := by
  cases r <;> rfl
theorem s_is (neg : Bool) : RSnd X.K (rOr (rIsNn neg) (rIsBb neg)) (dIs neg) := by
  intro w x y dx dy R Q rx ry hR h
  have fin : ∀ b, Q (.bl b) w.M → R (.bl b) w.H := fun b q => hR _ _ w q (Stp.refl w) (.bl _)
  unfold dIs at h
  split at h
  · cases ry
    refine .inl ⟨rfl, ?_⟩
    rw [non_of rx]
    exact fin _ h
  · cases rx; cases ry
    exact .inr ⟨_, _, rfl, rfl, fin _ h⟩
  · exact h.elim
theorem flat_of {K : PySem.W.Frag} {G : Hp} {v : V} {d : D} (r : Rp K G v d) (h : flatD d = true) : flatV v = true := by
  cases r <;> first | rfl | (cases h; done)
theorem flats_of {K : PySem.W.Frag} {G : Hp} : ∀ {ds : List D} {vs : List V}, Rps K G vs ds → ds.all flatD = true → vs.all flatV = true
  | [], _, r, _ => by cases r; rfl
  | d :: ds, _, r, h => by
    cases r with
    | cons r rs =>
      rw [List.all_cons, Bool.and_eq_true] at h ⊢
      exact ⟨flat_of r h.1, flats_of rs h.2⟩
theorem eqV_of {K : PySem.W.Frag} {G : Hp} {v u : V} {d e : D} (r : Rp K G v d) (q : Rp K G u e) (h : flatD d = true) (k : flatD e = true) : eqV v u = (eqF d e == some true) := by
  cases r <;> first | (cases h; done) | skip
  all_goals (cases q <;> first | (cases k; done) | skip)
  all_goals first
    | rfl
    | (show (_ == _) = (some (_ == _) == some true); rw [Bool.eq_iff_iff]; simp)
theorem inV_of {K : PySem.W.Frag} {G : Hp} {v : V} {d : D} (r : Rp K G v d) (h : flatD d = true) : ∀ {ds : List D} {vs : List V}, Rps K G vs ds → ds.all flatD = true → inV v vs = inD d ds
  | [], _, q, _ => by cases q; rfl
  | e :: ds, _, q, k => by
    cases q with
    | cons q qs =>
      rw [List.all_cons, Bool.and_eq_true] at k
      have e1 := eqV_of q r k.1 h
      have e2 := inV_of r h qs k.2
      unfold inV inD at e2 ⊢
      rw [List.any_cons, List.any_cons, e2]
      simp only [e1]
def rInC (neg : Bool) : R2 := fun x y H Q => ∃ (c : Nat) (z : Str), x = .str ⟨#[c]⟩ ∧ y = .str z ∧ Q (.bl (if neg then !decide (c ∈ z.cps.toList) else decide (c ∈ z.cps.toList))) H
theorem o_in : OpR X (compareOp .In) (rOr (rInC false) (rIn X.K false)) := opOr op_in_sign op_in_seq
theorem o_notin : OpR X (compareOp .NotIn) (rOr (rInC true) (rIn X.K true)) := opOr op_notIn_sign op_notIn_seq
theorem s_in (neg : Bool) : RSnd X.K (rOr (rInC neg) (rIn X.K neg)) (dIn neg) := by
  intro w x y dx dy R Q rx ry hR h
  have fin : ∀ b, Q (.bl b) w.M → R (.bl b) w.H := fun b q => hR _ _ w q (Stp.refl w) (.bl _)
  unfold dIn at h
  split at h
  · rename_i a b
    cases rx; cases ry
    split at h
    · rename_i c hc
      refine .inl ⟨c, b, ?_, rfl, fin _ h⟩
      cases a with
      | mk z =>
        have : z = #[c] := Array.toList_inj.mp hc
        rw [this]
    · exact h.elim
  · split at h
    · rename_i ds hd
      obtain ⟨a, xs, rfl, hs, rs⟩ := sqR_ok ry hd
      refine .inr ⟨a, xs, rfl, hs, flat_of rx h.1.1, flats_of rs h.1.2, ?_⟩
      rw [inV_of rx h.1.1 rs h.1.2]
      exact fin _ h.2
    · exact h.elim

/-! ### subscripts -/
def dIx : D → D → MS → QX → Prop := fun x y M Q => match y with
  | .int i => match x with
    | .str z => z.length ≤ sizeLine ∧ match atI z.cps.toList i with
      | some c => Q (.str ⟨#[c]⟩) M
      | none => False
    | x => match sqR M x with
      | some ds => match atI ds i with
        | some d => Q d M
        | none => False
      | none => False
  | _ => False
theorem ix_any : IxR X (fun x y H Q => rIxL X.K x y H Q ∨ (fun x y H Q => rIxT X.K x y H Q ∨ rIxS x y H Q) x y H Q) := IxR.or ix_list (IxR.or ix_tup ix_str)
theorem atI_rep {K : PySem.W.Frag} {G : Hp} {vs : List V} {ds : List D} {i : Int} {d : D} (r : Rps K G vs ds) (h : atI ds i = some d) : ∃ v, atI vs i = some v ∧ Rp K G v d := by
  unfold atI at h ⊢
  rw [r.length]
  cases e : ixN ds.length i with
  | none => rw [e] at h; cases h
  | some j =>
    rw [e] at h
    exact r.get (show ds[j]? = some d from h)
theorem s_ix : RSnd X.K (fun x y H Q => rIxL X.K x y H Q ∨ (fun x y H Q => rIxT X.K x y H Q ∨ rIxS x y H Q) x y H Q) dIx := by
  intro w x y dx dy R Q rx ry hR h
  unfold dIx at h
  split at h
  · cases ry
    split at h
    · cases rx
      obtain ⟨hz, h⟩ := h
      split at h
      · rename_i c hc
        exact .inr (.inr ⟨_, _, c, rfl, rfl, hz, hc, hR _ _ w h (Stp.refl w) (.str _)⟩)
      · exact h.elim
    · split at h
      · rename_i ds hd
        split at h
        · rename_i d hat
          obtain ⟨a, xs, rfl, hs, rs⟩ := sqR_ok rx hd
          obtain ⟨v, hv, rv⟩ := atI_rep rs hat
          rcases hs with hs | hs
          · exact .inl ⟨a, xs, _, v, rfl, rfl, hs, hv, hR _ _ w h (Stp.refl w) rv⟩
          · exact .inr (.inl ⟨a, xs, _, v, rfl, rfl, hs, hv, hR _ _ w h (Stp.refl w) rv⟩)
        · exact h.elim
      · exact h.elim
  · exact h.elim
/-! slices -/
abbrev PXo := Ro → MS → (Option Int → MS → Prop) → EX → Prop
def SndO (K : PySem.W.Frag) (E : XK) (t : TO) (p : PXo) : Prop := ∀ (w : Wo K) (σ : L2.St) (ρ : Ro) (R : Option Int → Hp → Prop) (Q : Option Int → MS → Prop) (Ex : EX), Sl K w.G σ ρ → ExOk E w Ex →
  (∀ b w', Q b w'.M → Stp w w' → R b w'.H) → p ρ w.M Q Ex → t σ w.H R
structure DO (X : Cx) (E : XK) (e : Option Expr) (p : PXo) : Prop where
  ex : ∃ t, PO X e t ∧ SndO X.K E t p
def dNoPart : PXo := fun _ M Q _ => Q none M
def dPart (pa : PX) : PXo := fun ρ M Q Ex => pa ρ M (fun x M1 => match x with | .int i => Q (some i) M1 | _ => False) Ex
theorem do_none {E : XK} : DO X E none dNoPart := ⟨_, po_none, fun w σ ρ R Q Ex _ _ hR h => hR none w h (Stp.refl w)⟩
theorem do_some {E : XK} {e : Expr} {pa : PX} (he : DE X E e pa) : DO X E (some e) (dPart pa) := by
  obtain ⟨t, he, s⟩ := he
  refine ⟨_, po_some he, fun w σ ρ R Q Ex hS hE hR h => ?_⟩
  refine s w σ ρ _ _ Ex hS hE (fun x v w1 h1 s1 r1 => ?_) h
  cases r1 <;> first | exact h1.elim | exact ⟨_, rfl, hR _ w1 h1 s1⟩
def cutD (xs : List D) (lo hi : Option Int) : List D := (xs.drop (HT.sIx xs.length 0 lo)).take (HT.sIx xs.length xs.length hi - HT.sIx xs.length 0 lo)
theorem cut_rep {K : PySem.W.Frag} {G : Hp} {vs : List V} {ds : List D} {lo hi : Option Int} (r : Rps K G vs ds) : Rps K G (cutV vs lo hi) (cutD ds lo hi) := by
  unfold cutV cutD
  rw [r.length]
  exact (r.drop _).take _
def sqN (M : MS) : D → Option (List D)
  | .scr ns => some (ns.map D.int)
  | x => sqL M x
theorem sqN_ok {K : PySem.W.Frag} {w : Wo K} {v : V} {x : D} {ds : List D} (r : Rp K w.G v x) (h : sqN w.M x = some ds) : ∃ a xs, v = .ref a ∧ SqL K w.H a xs ∧ Rps K w.G xs ds := by
  by_cases hs : ∃ ns, x = .scr ns
  · obtain ⟨ns, rfl⟩ := hs
    cases h
    cases r with
    | scr a => exact ⟨_, _, rfl, w.gh.seq a, Rps.map_int _⟩
  · have e : sqN w.M x = sqL w.M x := by cases x <;> first | rfl | exact absurd ⟨_, rfl⟩ hs
    rw [e] at h
    obtain ⟨a, xs, e, q, s⟩ := sqL_ok r h
    exact ⟨a, xs, e, SqL.of q, s⟩
/-- a[lo:hi] of a text or a list -/
def dSl (pa : PX) (pl ph : PXo) : PX := fun ρ M Q Ex => pa ρ M (fun x M1 => pl ρ M1 (fun lo M2 => ph ρ M2 (fun hi M3 => match x with
  | .str z => z.length ≤ sizeLine ∧ Q (.str (cutS z lo hi)) M3
  | x => match sqN M3 x with
    | some ds => Q (.lst (cutD ds lo hi)) M3
    | none => False) Ex) Ex) Ex
theorem d_slice {E : XK} {e : Expr} {lo hi : Option Expr} {p2 pos : Pos} {pa : PX} {pl ph : PXo} (he : DE X E e pa) (hl : DO X E lo pl) (hh : DO X E hi ph) : DE X E (.Subscript e (.Slice lo hi none p2) pos) (dSl pa pl ph) := by
  obtain ⟨te, he, se⟩ := he
  obtain ⟨tl, hl, sl⟩ := hl
  obtain ⟨th, hh, sh⟩ := hh
  refine ⟨_, pe_slice (SlR.or sl_str sl_list) he hl hh, fun w σ ρ R Q Ex hS hE hR h => ?_⟩
  refine se w σ ρ _ _ Ex hS hE (fun x v w1 h1 s1 r1 => ?_) h
  refine sl w1 σ ρ _ _ Ex (hS.mono s1.gg) (hE.step s1) (fun lo w2 h2 s2 => ?_) h1
  refine sh w2 σ ρ _ _ Ex (hS.mono (s1.gg.trans s2.gg)) (hE.step (s1.trans s2)) (fun hi w3 h3 s3 => ?_) h2
  have s13 := (s1.trans s2).trans s3
  have r3 := r1.mono (s2.gg.trans s3.gg)
  split at h3
  · cases r3
    exact .inl ⟨_, rfl, h3.1, hR _ _ w3 h3.2 s13 (.str _)⟩
  · split at h3
    · rename_i ds hd
      obtain ⟨a, xs, rfl, hs, rs⟩ := sqN_ok r3 hd
      refine .inr ⟨a, xs, rfl, hs, fun p hp => ?_⟩
      exact hR _ _ (w3.newD p _ hp) h3 (s13.trans (w3.newD_stp p _ hp)) (.lst upd_same ((cut_rep rs).mono (w3.newD_stp p _ hp).gg))
    · exact h3.elim
/-- xs[::-1] -/
def dRev (pa : PX) : PX := fun ρ M Q Ex => pa ρ M (fun x M1 => match sqN M1 x with
  | some ds => Q (.lst ds.reverse) M1
  | none => False) Ex
theorem d_rev {E : XK} {e : Expr} {pa : PX} {k : Nat} {p1 p2 p3 pos : Pos} (he : DE X E e pa) : DE X E (.Subscript e (.Slice none none (some (.UnaryOp .USub (.Constant (.int 1) k p1) p2)) p3) pos) (dRev pa) := by
  obtain ⟨te, he, se⟩ := he
  refine ⟨_, pe_revL he, fun w σ ρ R Q Ex hS hE hR h => ?_⟩
  refine se w σ ρ _ _ Ex hS hE (fun x v w1 h1 s1 r1 => ?_) h
  split at h1
  · rename_i ds hd
    obtain ⟨a, xs, rfl, hs, rs⟩ := sqN_ok r1 hd
    refine ⟨a, xs, rfl, hs, fun p hp => ?_⟩
    exact hR _ _ (w1.newD p _ hp) h1 (s1.trans (w1.newD_stp p _ hp)) (.lst upd_same (rs.reverse.mono (w1.newD_stp p _ hp).gg))
  · exact h1.elim

/-! ### built-ins -/
def dLen : List D → MS → QX → Prop := fun xs M Q => match xs with
  | [.str z] => z.length ≤ sizeLine ∧ Q (.int z.length) M
  | [x] => match sqR M x with
    | some ds => Q (.int ds.length) M
    | none => False
  | _ => False
abbrev cOr (r r' : List V → Hp → VK → Prop) : List V → Hp → VK → Prop := fun xs H Q => r xs H Q ∨ r' xs H Q
def rLenStr : List V → Hp → VK → Prop := fun xs H Q => ∃ z, xs = [.str z] ∧ z.length ≤ sizeLine ∧ Q (.int z.length) H
def rLenSq (K : PySem.W.Frag) : List V → Hp → VK → Prop := fun xs H Q => ∃ p ys, xs = [.ref p] ∧ (SqL K H p ys ∨ SqT K H p ys) ∧ Q (.int ys.length) H
theorem c_len : CallR X (.builtin "len") (cOr rLenStr (rLenSq X.K)) := CallR.or call_len_str call_len_seq
theorem s_len : CSnd X.K (cOr rLenStr (rLenSq X.K)) dLen := by
  intro w xs dxs R Q r hR h
  unfold dLen at h
  split at h
  · cases r with
    | cons r rs => cases rs; cases r; exact .inl ⟨_, rfl, h.1, hR _ _ w h.2 (Stp.refl w) (.int _)⟩
  · cases r with
    | cons r rs =>
      cases rs
      split at h
      · rename_i ds hd
        obtain ⟨a, xs, rfl, hs, rs⟩ := sqR_ok r hd
        refine .inr ⟨a, xs, rfl, hs, ?_⟩
        rw [rs.length]
        exact hR _ _ w h (Stp.refl w) (.int _)
      · exact h.elim
  · exact h.elim
/-- the figures of an int -/
def dStr : List D → MS → QX → Prop := fun xs M Q => match xs with
  | [.int i] => i.natAbs.log2 < 1920 ∧ Q (.str (toString i)) M
  | _ => False
def rStrI : List V → Hp → VK → Prop := fun xs H Q => ∃ i, xs = [.int i] ∧ i.natAbs.log2 < 1920 ∧ Q (.str (toString i)) H
theorem c_str : CallR X (.type "str") rStrI := call_str_int
theorem s_str : CSnd X.K rStrI dStr := by
  intro w xs dxs R Q r hR h
  unfold dStr at h
  split at h
  · cases r with
    | cons r rs => cases rs; cases r; exact ⟨_, rfl, h.1, hR _ _ w h.2 (Stp.refl w) (.str _)⟩
  · exact h.elim
def dInt : List D → MS → QX → Prop := fun xs M Q => match xs with
  | [.int i] => Q (.int i) M
  | [.bl k] => Q (.int (if k then 1 else 0)) M
  | [.str z] => z.length ≤ 640 ∧ match PySem.intText? z with
    | some n => Q (.int n) M
    | none => False
  | _ => False
def rInt1 : List V → Hp → VK → Prop := fun xs H Q => (∃ i, xs = [.int i] ∧ Q (.int i) H) ∨ ∃ k, xs = [.bl k] ∧ Q (.int (if k then 1 else 0)) H
def rIntS : List V → Hp → VK → Prop := fun xs H Q => ∃ a n, xs = [.str a] ∧ PySem.intText? a = some n ∧ a.length ≤ 640 ∧ Q (.int n) H
theorem c_int : CallR X (.type "int") (cOr rInt1 rIntS) := CallR.or call_int1 call_int_str
theorem s_int : CSnd X.K (cOr rInt1 rIntS) dInt := by
  intro w xs dxs R Q r hR h
  unfold dInt at h
  split at h
  · cases r with
    | cons r rs => cases rs; cases r; exact .inl (.inl ⟨_, rfl, hR _ _ w h (Stp.refl w) (.int _)⟩)
  · cases r with
    | cons r rs => cases rs; cases r; exact .inl (.inr ⟨_, rfl, hR _ _ w h (Stp.refl w) (.int _)⟩)
  · cases r with
    | cons r rs =>
      cases rs; cases r
      obtain ⟨h1, h2⟩ := h
      split at h2
      · rename_i n hn
        exact .inr ⟨_, n, rfl, hn, h1, hR _ _ w h2 (Stp.refl w) (.int _)⟩
      · exact h2.elim
  · exact h.elim
/-- list(x): a new one, for good or own -/
def dList : List D → MS → QX → Prop := fun xs M Q => match xs with
  | [x] => match sqR M x with
    | some ds => Q (.lst ds) M
    | none => False
  | _ => False
def dListM : List D → MS → QX → Prop := fun xs M Q => match xs with
  | [x] => match sqR M x with
    | some ds => ∀ l, M l = none → Q (.ref l) (updM M l (.lst ds))
    | none => False
  | _ => False
def rListQ (K : PySem.W.Frag) : List V → Hp → VK → Prop := fun xs H Q => ∃ p ys, xs = [.ref p] ∧ (SqL K H p ys ∨ SqT K H p ys) ∧ ∀ l, H l = none → Q (.ref l) (upd H l (.lst ys))
theorem c_list : CallR X (.type "list") (rListQ X.K) := call_list_of
theorem s_list : CSnd X.K (rListQ X.K) dList := by
  intro w xs dxs R Q r hR h
  unfold dList at h
  split at h
  · cases r with
    | cons r rs =>
      cases rs
      split at h
      · rename_i ds hd
        obtain ⟨a, xs, rfl, hs, rs⟩ := sqR_ok r hd
        exact ⟨a, xs, rfl, hs, fun p hp => hR _ _ (w.newD p _ hp) h (w.newD_stp p _ hp) (.lst upd_same (rs.mono (w.newD_stp p _ hp).gg))⟩
      · exact h.elim
  · exact h.elim
theorem s_listM : CSnd X.K (rListQ X.K) dListM := by
  intro w xs dxs R Q r hR h
  unfold dListM at h
  split at h
  · cases r with
    | cons r rs =>
      cases rs
      split at h
      · rename_i ds hd
        obtain ⟨a, xs, rfl, hs, rs⟩ := sqR_ok r hd
        exact ⟨a, xs, rfl, hs, fun p hp => hR _ _ (w.newM p (.lst xs) (.lst ds) hp rs) (h p (w.m_none hp)) (w.newM_stp p (.lst xs) (.lst ds) hp rs) (.ref _)⟩
      · exact h.elim
  · exact h.elim
def dTuple : List D → MS → QX → Prop := fun xs M Q => match xs with
  | [.tup ds] => Q (.tup ds) M
  | [x] => match sqN M x with
    | some ds => Q (.tup ds) M
    | none => False
  | _ => False
def rTupQ (K : PySem.W.Frag) : List V → Hp → VK → Prop := fun xs H Q => ∃ p ys, xs = [.ref p] ∧ ((SqL K H p ys ∧ ∀ l, H l = none → Q (.ref l) (upd H l (.tup ys))) ∨ (SqT K H p ys ∧ Q (.ref p) H))
theorem c_tuple : CallR X (.type "tuple") (rTupQ X.K) := call_tuple_of
theorem s_tuple : CSnd X.K (rTupQ X.K) dTuple := by
  intro w xs dxs R Q r hR h
  unfold dTuple at h
  split at h
  · cases r with
    | cons r rs =>
      cases rs
      cases r with
      | tup a b => exact ⟨_, _, rfl, .inr ⟨same_seqT w.gh a, hR _ _ w h (Stp.refl w) (.tup a b)⟩⟩
  · cases r with
    | cons r rs =>
      cases rs
      split at h
      · rename_i ds hd
        obtain ⟨a, xs, rfl, hs, rs⟩ := sqN_ok r hd
        exact ⟨a, xs, rfl, .inl ⟨hs, fun p hp => hR _ _ (w.newD p _ hp) h (w.newD_stp p _ hp) (.tup (SqT.of upd_same) (rs.mono (w.newD_stp p _ hp).gg))⟩⟩
      · exact h.elim
  · exact h.elim
def intsOf : List D → Option (List Int)
  | [] => some []
  | .int i :: r => (intsOf r).map (i :: ·)
  | _ => none
def strsOf : List D → Option (List Str)
  | [] => some []
  | .str i :: r => (strsOf r).map (i :: ·)
  | _ => none
def blsOf : List D → Option (List Bool)
  | [] => some []
  | .bl i :: r => (blsOf r).map (i :: ·)
  | _ => none
theorem intsOf_eq : ∀ {ds : List D} {ns : List Int}, intsOf ds = some ns → ds = ns.map D.int
  | [], _, h => by cases h; rfl
  | .int i :: r, ns, h => by
    have h' : (intsOf r).map (i :: ·) = some ns := h
    rw [Option.map_eq_some_iff] at h'
    obtain ⟨ms, h1, rfl⟩ := h'
    rw [intsOf_eq h1]; rfl
theorem strsOf_eq : ∀ {ds : List D} {ns : List Str}, strsOf ds = some ns → ds = ns.map D.str
  | [], _, h => by cases h; rfl
  | .str i :: r, ns, h => by
    have h' : (strsOf r).map (i :: ·) = some ns := h
    rw [Option.map_eq_some_iff] at h'
    obtain ⟨ms, h1, rfl⟩ := h'
    rw [strsOf_eq h1]; rfl
theorem blsOf_eq : ∀ {ds : List D} {ns : List Bool}, blsOf ds = some ns → ds = ns.map D.bl
  | [], _, h => by cases h; rfl
  | .bl i :: r, ns, h => by
    have h' : (blsOf r).map (i :: ·) = some ns := h
    rw [Option.map_eq_some_iff] at h'
    obtain ⟨ms, h1, rfl⟩ := h'
    rw [blsOf_eq h1]; rfl
theorem intsOf_map : ∀ ns : List Int, intsOf (ns.map D.int) = some ns
  | [] => rfl
  | n :: r => by show (intsOf (r.map D.int)).map (n :: ·) = _; rw [intsOf_map r]; rfl
theorem strsOf_map : ∀ ns : List Str, strsOf (ns.map D.str) = some ns
  | [] => rfl
  | n :: r => by show (strsOf (r.map D.str)).map (n :: ·) = _; rw [strsOf_map r]; rfl
theorem blsOf_map : ∀ ns : List Bool, blsOf (ns.map D.bl) = some ns
  | [] => rfl
  | n :: r => by show (blsOf (r.map D.bl)).map (n :: ·) = _; rw [blsOf_map r]; rfl
/-- sum, min, max, any, all of a list -/
def dSum : List D → MS → QX → Prop := fun xs M Q => match xs with
  | [x] => match (sqN M x).bind intsOf with
    | some ns => Q (.int ns.sum) M
    | none => False
  | _ => False
def dMinL : List D → MS → QX → Prop := fun xs M Q => match xs with
  | [x] => match (sqN M x).bind intsOf with
    | some ns => 0 < ns.length ∧ ∀ m, m ∈ ns → (∀ y, y ∈ ns → m ≤ y) → Q (.int m) M
    | none => False
  | _ => False
def dMaxL : List D → MS → QX → Prop := fun xs M Q => match xs with
  | [x] => match (sqN M x).bind intsOf with
    | some ns => 0 < ns.length ∧ ∀ m, m ∈ ns → (∀ y, y ∈ ns → y ≤ m) → Q (.int m) M
    | none => False
  | _ => False
def dAnyL : List D → MS → QX → Prop := fun xs M Q => match xs with
  | [x] => match (sqN M x).bind blsOf with
    | some ns => Q (.bl (ns.any id)) M
    | none => False
  | _ => False
def dAllL : List D → MS → QX → Prop := fun xs M Q => match xs with
  | [x] => match (sqN M x).bind blsOf with
    | some ns => Q (.bl (ns.all id)) M
    | none => False
  | _ => False
theorem seq_ints {K : PySem.W.Frag} {w : Wo K} {v : V} {x : D} {ns : List Int} (r : Rp K w.G v x) (h : (sqN w.M x).bind intsOf = some ns) : ∃ a, v = .ref a ∧ SqL K w.H a (ns.map V.int) := by
  rw [Option.bind_eq_some_iff] at h
  obtain ⟨ds, h1, h2⟩ := h
  obtain ⟨a, xs, rfl, hs, rs⟩ := sqN_ok r h1
  rw [intsOf_eq h2] at rs
  rw [rs.of_int] at hs
  exact ⟨a, rfl, hs⟩
theorem seq_bls {K : PySem.W.Frag} {w : Wo K} {v : V} {x : D} {ns : List Bool} (r : Rp K w.G v x) (h : (sqN w.M x).bind blsOf = some ns) : ∃ a, v = .ref a ∧ SqL K w.H a (ns.map V.bl) := by
  rw [Option.bind_eq_some_iff] at h
  obtain ⟨ds, h1, h2⟩ := h
  obtain ⟨a, xs, rfl, hs, rs⟩ := sqN_ok r h1
  rw [blsOf_eq h2] at rs
  rw [rs.of_bl] at hs
  exact ⟨a, rfl, hs⟩
theorem seq_strs {K : PySem.W.Frag} {w : Wo K} {v : V} {x : D} {ns : List Str} (r : Rp K w.G v x) (h : (sqN w.M x).bind strsOf = some ns) : ∃ a, v = .ref a ∧ SqL K w.H a (ns.map V.str) := by
  rw [Option.bind_eq_some_iff] at h
  obtain ⟨ds, h1, h2⟩ := h
  obtain ⟨a, xs, rfl, hs, rs⟩ := sqN_ok r h1
  rw [strsOf_eq h2] at rs
  rw [rs.of_str] at hs
  exact ⟨a, rfl, hs⟩
theorem s_sum : CSnd X.K (rSum X.K) dSum := by
  intro w xs dxs R Q r hR h
  unfold dSum at h
  split at h
  · cases r with
    | cons r rs =>
      cases rs
      split at h
      · rename_i ns hn
        obtain ⟨a, rfl, hs⟩ := seq_ints r hn
        exact ⟨a, ns, rfl, hs, hR _ _ w h (Stp.refl w) (.int _)⟩
      · exact h.elim
  · exact h.elim
theorem s_minL : CSnd X.K (rMin X.K) dMinL := by
  intro w xs dxs R Q r hR h
  unfold dMinL at h
  split at h
  · cases r with
    | cons r rs =>
      cases rs
      split at h
      · rename_i ns hn
        obtain ⟨a, rfl, hs⟩ := seq_ints r hn
        exact ⟨a, ns, rfl, hs, h.1, fun m h1 h2 => hR _ _ w (h.2 m h1 h2) (Stp.refl w) (.int _)⟩
      · exact h.elim
  · exact h.elim
theorem s_maxL : CSnd X.K (rMax X.K) dMaxL := by
  intro w xs dxs R Q r hR h
  unfold dMaxL at h
  split at h
  · cases r with
    | cons r rs =>
      cases rs
      split at h
      · rename_i ns hn
        obtain ⟨a, rfl, hs⟩ := seq_ints r hn
        exact ⟨a, ns, rfl, hs, h.1, fun m h1 h2 => hR _ _ w (h.2 m h1 h2) (Stp.refl w) (.int _)⟩
      · exact h.elim
  · exact h.elim
theorem s_anyL : CSnd X.K (rAny X.K) dAnyL := by
  intro w xs dxs R Q r hR h
  unfold dAnyL at h
  split at h
  · cases r with
    | cons r rs =>
      cases rs
      split at h
      · rename_i ns hn
        obtain ⟨a, rfl, hs⟩ := seq_bls r hn
        exact ⟨a, ns, rfl, hs, hR _ _ w h (Stp.refl w) (.bl _)⟩
      · exact h.elim
  · exact h.elim
theorem s_allL : CSnd X.K (rAll X.K) dAllL := by
  intro w xs dxs R Q r hR h
  unfold dAllL at h
  split at h
  · cases r with
    | cons r rs =>
      cases rs
      split at h
      · rename_i ns hn
        obtain ⟨a, rfl, hs⟩ := seq_bls r hn
        exact ⟨a, ns, rfl, hs, hR _ _ w h (Stp.refl w) (.bl _)⟩
      · exact h.elim
  · exact h.elim
/-- sorted of texts, of ints -/
def dSortS : List D → MS → QX → Prop := fun xs M Q => match xs with
  | [x] => match (sqN M x).bind strsOf with
    | some ss => ss.length < 64 ∧ ∀ ys : List Str, ys.Perm ss → sortedS ys = true → Q (.lst (ys.map D.str)) M
    | none => False
  | _ => False
def dSortI : List D → MS → QX → Prop := fun xs M Q => match xs with
  | [x] => match (sqN M x).bind intsOf with
    | some ns => ∀ ms : List Int, ms.Perm ns → ms.Pairwise (· ≤ ·) → Q (.lst (ms.map D.int)) M
    | none => False
  | _ => False
theorem s_sortS : CSnd X.K (rSortedS X.K) dSortS := by
  intro w xs dxs R Q r hR h
  unfold dSortS at h
  split at h
  · cases r with
    | cons r rs =>
      cases rs
      split at h
      · rename_i ns hn
        obtain ⟨a, rfl, hs⟩ := seq_strs r hn
        exact ⟨a, ns, rfl, hs, h.1, fun ys p h1 h2 hp => hR _ _ (w.newD p _ hp) (h.2 ys h1 h2) (w.newD_stp p _ hp) (.lst upd_same (Rps.map_str _))⟩
      · exact h.elim
  · exact h.elim
theorem s_sortI : CSnd X.K (rSortedI X.K) dSortI := by
  intro w xs dxs R Q r hR h
  unfold dSortI at h
  split at h
  · cases r with
    | cons r rs =>
      cases rs
      split at h
      · rename_i ns hn
        obtain ⟨a, rfl, hs⟩ := seq_ints r hn
        exact ⟨a, ns, rfl, hs, fun ys p h1 h2 hp => hR _ _ (w.newD p _ hp) (h ys h1 h2) (w.newD_stp p _ hp) (.lst upd_same (Rps.map_int _))⟩
      · exact h.elim
  · exact h.elim
end
end DL
namespace DL
open PySem L2 PySem.Spec PyProof.Rows
section
variable {X : Cx} {E : XK} {o e : Expr} {es : List Expr} {pos apos cpos : Pos} {po pa : PX} {pp : PXa}
/-! ### methods of lists -/
/-- own list at l -/
def ownL (M : MS) : D → Option (Addr × List D)
  | .ref l => match M l with
    | some (.lst ds) => some (l, ds)
    | _ => none
  | _ => none
theorem ownL_ok {K : PySem.W.Frag} {w : Wo K} {v : V} {x : D} {l : Addr} {ds : List D} (r : Rp K w.G v x) (h : ownL w.M x = some (l, ds)) : ∃ xs, v = .ref l ∧ w.M l = some (.lst ds) ∧ w.H l = some (.lst xs) ∧ Rps K w.G xs ds := by
  cases r with
  | ref a =>
    have h' : (match w.M a with | some (.lst ds) => some (a, ds) | _ => none) = some (l, ds) := h
    cases e : w.M a with
    | none => rw [e] at h'; cases h'
    | some mo =>
      rw [e] at h'
      cases mo <;> first | (cases h'; done) | skip
      cases h'
      obtain ⟨ho, e1, r1⟩ := w.mh _ _ e
      cases ho <;> first | exact (show False from r1).elim | skip
      exact ⟨_, rfl, e, e1, r1⟩
  | _ => cases h
def dMth (isT : MS → D → Prop) (rr : D → List D → MS → QX → Prop) (po : PX) (p : PXa) : PX := fun ρ M Q Ex => po ρ M (fun x M1 => isT M1 x ∧ p ρ M1 (fun xs M2 => rr x xs M2 Q) Ex) Ex
def isL (M : MS) (x : D) : Prop := (sqN M x).isSome = true
def isS (_ : MS) : D → Prop
  | .str _ => True
  | _ => False
theorem tyV_L {K : PySem.W.Frag} {w : Wo K} {v : V} {x : D} (r : Rp K w.G v x) (h : isL w.M x) : tyV K "list" v w.H := by
  unfold isL at h
  cases e : sqN w.M x with
  | none => rw [e] at h; cases h
  | some ds =>
    obtain ⟨a, xs, rfl, hs, _⟩ := sqN_ok r e
    exact Or.inl ⟨rfl, xs, hs⟩
theorem tyV_S {K : PySem.W.Frag} {w : Wo K} {v : V} {x : D} (r : Rp K w.G v x) (h : isS w.M x) : tyV K "str" v w.H := by
  cases r <;> first | exact h.elim | rfl
theorem d_bm {T id : String} {name : Str} {r : V → List V → Hp → VK → Prop} {rr : D → List D → MS → QX → Prop} {isT : MS → D → Prop} (pl : PlainAttrs T) (slot : Slot T name id) (hty : typeOf (.builtin id) = pure (.type "method_descriptor")) (hm : MtR X id r) (hr : MSnd X.K r rr)
    (hT : ∀ (w : Wo X.K) v x, Rp X.K w.G v x → isT w.M x → tyV X.K T v w.H) (ho : DE X E o po) (ha : DA X E (e :: es) pp)
    (hbase : attributeBase o name X.env (eval o X.env) = eval o X.env := by rfl)
    (hfew : ((backTo cpos (starEach (e :: es) X.env)).all (fun x => !x.1) && (backToKw cpos (keywordEach [] X.env)).all (fun x => x.1.isSome)
      && decide ((e :: es).length + ([] : List Keyword).length + (if ([] : List Keyword).isEmpty then 0 else 1) < 30)) = true := by rfl)
    (hline : (apos.endLine == cpos.line) = true := by rfl) (hs : starEach (e :: es) X.env = (false, eval e X.env) :: starEach es X.env := by rfl) (hplain : (backTo cpos (starEach es X.env)).any (·.1) = false := by rfl) :
    DE X E (.Call (.Attribute o name apos) (e :: es) [] cpos) (dMth isT rr po pp) := by
  obtain ⟨to, ho, so⟩ := ho
  obtain ⟨ta, ha, sa⟩ := ha
  refine ⟨_, pe_bm pl slot hty hm ho ha hbase hfew hline hs hplain, fun w σ ρ R Q Ex hS hE hR h => ?_⟩
  refine so w σ ρ _ _ Ex hS hE (fun x v w1 h1 s1 r1 => ⟨hT w1 v x r1 h1.1, ?_⟩) h
  refine sa w1 σ ρ _ _ Ex (hS.mono s1.gg) (hE.step s1) (fun xs vs w2 h2 s2 r2 => ?_) h1.2
  exact hr w2 v vs x xs R Q (r1.mono s2.gg) r2 (fun z u w' q s rz => hR z u w' q ((s1.trans s2).trans s) rz) h2
theorem d_bm0 {T id : String} {name : Str} {r : V → List V → Hp → VK → Prop} {rr : D → List D → MS → QX → Prop} {isT : MS → D → Prop} (pl : PlainAttrs T) (slot : Slot T name id) (hty : typeOf (.builtin id) = pure (.type "method_descriptor")) (hm : MtR X id r) (hr : MSnd X.K r rr)
    (hT : ∀ (w : Wo X.K) v x, Rp X.K w.G v x → isT w.M x → tyV X.K T v w.H) (ho : DE X E o po)
    (hbase : attributeBase o name X.env (eval o X.env) = eval o X.env := by rfl) (hline : (apos.endLine == cpos.line) = true := by rfl) : DE X E (.Call (.Attribute o name apos) [] [] cpos) (dMth isT rr po dNil) := by
  obtain ⟨to, ho, so⟩ := ho
  refine ⟨_, pe_bm0 pl slot hty hm ho hbase hline, fun w σ ρ R Q Ex hS hE hR h => ?_⟩
  refine so w σ ρ _ _ Ex hS hE (fun x v w1 h1 s1 r1 => ⟨hT w1 v x r1 h1.1, ?_⟩) h
  exact hr w1 v [] x [] R Q r1 .nil (fun z u w' q s rz => hR z u w' q (s1.trans s) rz) h1.2
theorem m_ne {M : MS} {l : Addr} {mo : MO} (h : M l = some mo) : M l ≠ none := by rw [h]; exact fun z => by cases z
theorem set_fin {K : PySem.W.Frag} {w : Wo K} {l : Addr} {vs : List V} {ds : List D} {R : VK} {Q : QX} {v : V} {d : D} (hm : w.M l ≠ none) (rr : Rps K w.G vs ds) (hR : ∀ z v w', Q z w'.M → Stp w w' → Rp K w'.G v z → R v w'.H) (rv : Rp K w.G v d) (h : Q d (updM w.M l (.lst ds))) : R v (upd w.H l (.lst vs)) :=
  hR d v (w.setM l (.lst vs) (.lst ds) hm rr) h (w.setM_stp l (.lst vs) (.lst ds) hm rr) rv
def mAppend : D → List D → MS → QX → Prop := fun x xs M Q => match ownL M x, xs with
  | some (l, ds), [y] => ds.length < sizeLine ∧ Q .non (updM M l (.lst (ds ++ [y])))
  | _, _ => False
theorem s_append : MSnd X.K rAppend mAppend := by
  intro w x xs dx dxs R Q rx rxs hR h
  unfold mAppend at h
  split at h
  · rename_i l ds y hl
    obtain ⟨vs, rfl, hm, hH, rs⟩ := ownL_ok rx hl
    cases rxs with
    | cons ry rn =>
      cases rn
      refine ⟨l, vs, _, rfl, rfl, hH, by rw [rs.length]; exact h.1, ?_⟩
      exact set_fin (m_ne hm) (rs.append (.one ry)) hR .non h.2
  · exact h.elim
def mExtend : D → List D → MS → QX → Prop := fun x xs M Q => match ownL M x, xs with
  | some (l, ds), [y] => match sqL M y with
    | some es => ds.length + es.length ≤ sizeLine ∧ Q .non (updM M l (.lst (ds ++ es)))
    | none => False
  | _, _ => False
theorem s_extend : MSnd X.K rExtend mExtend := by
  intro w x xs dx dxs R Q rx rxs hR h
  unfold mExtend at h
  split at h
  · rename_i l ds y hl
    obtain ⟨vs, rfl, hm, hH, rs⟩ := ownL_ok rx hl
    cases rxs with
    | cons ry rn =>
      cases rn
      split at h
      · rename_i es he
        obtain ⟨b, us, rfl, hb, rb⟩ := sqL_ok ry he
        refine ⟨l, b, vs, us, rfl, rfl, hH, hb, by rw [rs.length, rb.length]; exact h.1, ?_⟩
        exact set_fin (m_ne hm) (rs.append rb) hR .non h.2
      · exact h.elim
  · exact h.elim
def mInsert : D → List D → MS → QX → Prop := fun x xs M Q => match ownL M x, xs with
  | some (l, ds), [.int i, y] => (ds.length < sizeLine ∧ 0 ≤ i ∧ i < 2 ^ 63) ∧ Q .non (updM M l (.lst (ds.take i.toNat ++ [y] ++ ds.drop i.toNat)))
  | _, _ => False
def rInsert : V → List V → Hp → VK → Prop := fun x vs H Q => ∃ (l : Addr) (xs : List V) (i : Int) (y : V), x = .ref l ∧ vs = [.int i, y] ∧ H l = some (.lst xs) ∧ xs.length < sizeLine ∧ 0 ≤ i ∧ i < 2 ^ 63 ∧ Q .non (upd H l (.lst (xs.take i.toNat ++ [y] ++ xs.drop i.toNat)))
theorem mt_ins : MtR X "list.insert" rInsert := mt_insert
theorem s_insert : MSnd X.K rInsert mInsert := by
  intro w x xs dx dxs R Q rx rxs hR h
  unfold mInsert at h
  split at h
  · rename_i l ds i y hl
    obtain ⟨vs, rfl, hm, hH, rs⟩ := ownL_ok rx hl
    cases rxs with
    | cons ri rn =>
      cases ri
      cases rn with
      | cons ry rn =>
        cases rn
        have rr := ((rs.take i.toNat).append (.one ry)).append (rs.drop i.toNat)
        refine ⟨l, vs, i, _, rfl, rfl, hH, by rw [rs.length]; exact h.1.1, h.1.2.1, h.1.2.2, ?_⟩
        exact set_fin (m_ne hm) rr hR .non h.2
  · exact h.elim
def mPop : D → List D → MS → QX → Prop := fun x xs M Q => match ownL M x, xs with
  | some (l, ds), [] => match ds[ds.length - 1]? with
    | some y => Q y (updM M l (.lst ds.dropLast))
    | none => False
  | _, _ => False
theorem Rps.dropLast {K : PySem.W.Frag} {G : Hp} {vs : List V} {ds : List D} (r : Rps K G vs ds) : Rps K G vs.dropLast ds.dropLast := by
  rw [List.dropLast_eq_take, List.dropLast_eq_take, r.length]
  exact r.take _
theorem s_pop : MSnd X.K rPop mPop := by
  intro w x xs dx dxs R Q rx rxs hR h
  unfold mPop at h
  split at h
  · rename_i l ds hl
    obtain ⟨vs, rfl, hm, hH, rs⟩ := ownL_ok rx hl
    cases rxs
    split at h
    · rename_i y hy
      obtain ⟨v, hv, rv⟩ := rs.get hy
      refine ⟨l, vs, v, rfl, rfl, hH, by rw [rs.length]; exact hv, ?_⟩
      exact set_fin (m_ne hm) rs.dropLast hR rv h
    · exact h.elim
  · exact h.elim
def mReverse : D → List D → MS → QX → Prop := fun x xs M Q => match ownL M x, xs with
  | some (l, ds), [] => Q .non (updM M l (.lst ds.reverse))
  | _, _ => False
theorem s_reverse : MSnd X.K rReverse mReverse := by
  intro w x xs dx dxs R Q rx rxs hR h
  unfold mReverse at h
  split at h
  · rename_i l ds hl
    obtain ⟨vs, rfl, hm, hH, rs⟩ := ownL_ok rx hl
    cases rxs
    exact ⟨l, vs, rfl, rfl, hH, set_fin (m_ne hm) rs.reverse hR .non h⟩
  · exact h.elim
def mClear : D → List D → MS → QX → Prop := fun x xs M Q => match ownL M x, xs with
  | some (l, ds), [] => Q .non (updM M l (.lst []))
  | _, _ => False
theorem s_clear : MSnd X.K rClear mClear := by
  intro w x xs dx dxs R Q rx rxs hR h
  unfold mClear at h
  split at h
  · rename_i l ds hl
    obtain ⟨vs, rfl, hm, hH, rs⟩ := ownL_ok rx hl
    cases rxs
    exact ⟨l, vs, rfl, rfl, hH, set_fin (ds := []) (m_ne hm) .nil hR .non h⟩
  · exact h.elim
/-- the place of the first thing equal to it -/
def idxD (x : D) : List D → Option Nat
  | [] => none
  | y :: ys => if eqF y x == some true then some 0 else (idxD x ys).map (· + 1)
theorem idxD_at {x : D} : ∀ {ds : List D} {j : Nat}, idxD x ds = some j → ∃ z, ds[j]? = some z ∧ (eqF z x == some true) = true ∧ ∀ (m : Nat) (z' : D), m < j → ds[m]? = some z' → (eqF z' x == some true) = false
  | [], _, h => by cases h
  | y :: ys, j, h => by
    unfold idxD at h
    split at h
    · rename_i hy
      cases h
      exact ⟨y, rfl, hy, fun m z' hm => absurd hm (Nat.not_lt_zero m)⟩
    · rename_i hy
      rw [Option.map_eq_some_iff] at h
      obtain ⟨i, h1, rfl⟩ := h
      obtain ⟨z, e1, e2, e3⟩ := idxD_at h1
      refine ⟨z, by simpa using e1, e2, fun m z' hm hz => ?_⟩
      cases m with
      | zero => simp at hz; subst hz; simpa using hy
      | succ m => exact e3 m z' (by omega) (by simpa using hz)
def mIndex : D → List D → MS → QX → Prop := fun x xs M Q => match sqN M x, xs with
  | some ds, [y] => (flatD y = true ∧ ds.all flatD = true) ∧ match idxD y ds with
    | some j => Q (.int (j : Nat)) M
    | none => False
  | _, _ => False
theorem s_index : MSnd X.K (rIndex X.K) mIndex := by
  intro w x xs dx dxs R Q rx rxs hR h
  unfold mIndex at h
  split at h
  · rename_i ds y hl
    obtain ⟨a, vs, rfl, hs, rs⟩ := sqN_ok rx hl
    cases rxs with
    | cons ry rn =>
      cases rn
      obtain ⟨⟨f1, f2⟩, h⟩ := h
      split at h
      · rename_i j hj
        obtain ⟨z, e1, e2, e3⟩ := idxD_at hj
        obtain ⟨v, ev, rv⟩ := rs.get e1
        have fz : ∀ (m : Nat) (z : D), ds[m]? = some z → flatD z = true := fun m z hz => List.all_eq_true.mp f2 z (List.mem_of_getElem? hz)
        refine ⟨a, vs, _, j, v, rfl, rfl, hs, flat_of ry f1, flats_of rs f2, ev, by rw [eqV_of rv ry (fz _ _ e1) f1]; exact e2, fun m z' hm hz => ?_, hR _ _ w h (Stp.refl w) (.int _)⟩
        obtain ⟨d, ed, rd⟩ := rs.get' hz
        rw [eqV_of rd ry (fz _ _ ed) f1]
        exact e3 m d hm ed
      · exact h.elim
  · exact h.elim
/-! tuple.index of a text -/
def isTS (_ : MS) : D → Prop
  | .tup _ => True
  | _ => False
def mTIndex : D → List D → MS → QX → Prop := fun x xs M Q => match x, xs with
  | .tup ds, [.str z] => match strsOf ds with
    | some ss => match ss.idxOf? z with
      | some j => Q (.int (j : Nat)) M
      | none => False
    | none => False
  | _, _ => False

/-! ### methods of texts -/
def dM1 (rr : D → List D → MS → QX → Prop) (po pa : PX) : PX := fun ρ M Q Ex => po ρ M (fun x M1 => isS M1 x ∧ pa ρ M1 (fun y M2 => rr x [y] M2 Q) Ex) Ex
theorem d_m1 {id : String} {name : Str} {r : V → List V → Hp → VK → Prop} {rr : D → List D → MS → QX → Prop} (slot : Slot "str" name id) (ty : typeOf (.builtin id) = pure (.type "method_descriptor")) (rule : MtR X id r) (hr : MSnd X.K r rr) (ho : DE X E o po) (he : DE X E e pa)
    (hs : starEach [e] X.env = [(false, eval e X.env)] := by rfl) (hbase : attributeBase o name X.env (eval o X.env) = eval o X.env := by rfl) (hline : (apos.endLine == pos.line) = true := by rfl) : DE X E (.Call (.Attribute o name apos) [e] [] pos) (dM1 rr po pa) := by
  obtain ⟨to, ho, so⟩ := ho
  obtain ⟨ta, he, sa⟩ := he
  refine ⟨_, pe_m1 slot ty rule ho he hs hbase hline, fun w σ ρ R Q Ex hS hE hR h => ?_⟩
  refine so w σ ρ _ _ Ex hS hE (fun x v w1 h1 s1 r1 => ?_) h
  refine ⟨by cases r1 <;> first | exact h1.1.elim | exact ⟨_, rfl⟩, ?_⟩
  refine sa w1 σ ρ _ _ Ex (hS.mono s1.gg) (hE.step s1) (fun y u w2 h2 s2 r2 => ?_) h1.2
  exact hr w2 v [u] x [y] R Q (r1.mono s2.gg) (.one r2) (fun z u w' q s rz => hR z u w' q ((s1.trans s2).trans s) rz) h2
def rJoin (K : PySem.W.Frag) : V → List V → Hp → VK → Prop := fun x xs H Q => ∃ a p, ∃ ys : List Str, x = .str a ∧ xs = [.ref p] ∧ (SqL K H p (ys.map V.str) ∨ SqT K H p (ys.map V.str)) ∧ (ys.map (·.length)).sum + ys.length * a.length ≤ 16777216 ∧ Q (.str (Txt.join a ys)) H
def mJoin : D → List D → MS → QX → Prop := fun x xs M Q => match x, xs with
  | .str a, [y] => match (sqR M y).bind strsOf with
    | some ys => (ys.map (·.length)).sum + ys.length * a.length ≤ 16777216 ∧ Q (.str (Txt.join a ys)) M
    | none => False
  | _, _ => False
theorem s_join : MSnd X.K (rJoin X.K) mJoin := by
  intro w x xs dx dxs R Q rx rxs hR h
  unfold mJoin at h
  split at h
  · cases rx
    cases rxs with
    | cons ry rn =>
      cases rn
      split at h
      · rename_i ys hy
        rw [Option.bind_eq_some_iff] at hy
        obtain ⟨ds, h1, h2⟩ := hy
        obtain ⟨p, vs, rfl, hs, rs⟩ := sqR_ok ry h1
        rw [strsOf_eq h2] at rs
        rw [rs.of_str] at hs
        exact ⟨_, p, ys, rfl, rfl, hs, h.1, hR _ _ w h.2 (Stp.refl w) (.str _)⟩
      · exact h.elim
  · exact h.elim
theorem mt_jn : MtR X "str.join" (rJoin X.K) := mt_join
def rPartn : V → List V → Hp → VK → Prop := fun x xs H Q => ∃ a b, x = .str a ∧ xs = [.str b] ∧ (b.length == 0) = false ∧ a.length ≤ sizeLine ∧
    ∀ p, H p = none → Q (.ref p) (upd H p (.tup [.str (Txt.partition a b).1, .str (Txt.partition a b).2.1, .str (Txt.partition a b).2.2]))
def mPartn : D → List D → MS → QX → Prop := fun x xs M Q => match x, xs with
  | .str a, [.str b] => ((b.length == 0) = false ∧ a.length ≤ sizeLine) ∧ Q (.tup [.str (Txt.partition a b).1, .str (Txt.partition a b).2.1, .str (Txt.partition a b).2.2]) M
  | _, _ => False
theorem mt_part : MtR X "str.partition" rPartn := mt_partition
theorem s_partn : MSnd X.K rPartn mPartn := by
  intro w x xs dx dxs R Q rx rxs hR h
  unfold mPartn at h
  split at h
  · cases rx
    cases rxs with
    | cons ry rn =>
      cases rn; cases ry
      exact ⟨_, _, rfl, rfl, h.1.1, h.1.2, fun p hp => hR _ _ (w.newD p _ hp) h.2 (w.newD_stp p _ hp) (.tup (SqT.of upd_same) (.cons (.str _) (.cons (.str _) (.cons (.str _) .nil))))⟩
  · exact h.elim
def rSplt : V → List V → Hp → VK → Prop := fun x xs H Q => ∃ a b, x = .str a ∧ xs = [.str b] ∧ (b.length == 0) = false ∧ a.length + 2 ≤ sizeLine ∧ rNewStrs (Txt.split a b) H Q
def mSplt : D → List D → MS → QX → Prop := fun x xs M Q => match x, xs with
  | .str a, [.str b] => ((b.length == 0) = false ∧ a.length + 2 ≤ sizeLine) ∧ Q (.lst ((Txt.split a b).map D.str)) M
  | _, _ => False
theorem mt_splt : MtR X "str.split" rSplt := mt_split
theorem s_splt : MSnd X.K rSplt mSplt := by
  intro w x xs dx dxs R Q rx rxs hR h
  unfold mSplt at h
  split at h
  · cases rx
    cases rxs with
    | cons ry rn =>
      cases rn; cases ry
      exact ⟨_, _, rfl, rfl, h.1.1, h.1.2, fun p hp => hR _ _ (w.newD p _ hp) h.2 (w.newD_stp p _ hp) (.lst upd_same (Rps.map_str _))⟩
  · exact h.elim

/-! ### o[i] = e -/
def qSub (po pi : PX) (rs : D → D → D → MS → (MS → Prop) → Prop) : PGt := fun d ρ M Q Ex => po ρ M (fun o M1 => pi ρ M1 (fun i M2 => rs o i d M2 (fun M3 => Q ρ M3)) Ex) Ex
def SSnd (K : PySem.W.Frag) (r : V → V → V → Hp → (Hp → Prop) → Prop) (rs : D → D → D → MS → (MS → Prop) → Prop) : Prop := ∀ (w : Wo K) (o i v : V) (od id d : D) (R : Hp → Prop) (Q : MS → Prop), Rp K w.G o od → Rp K w.G i id → Rp K w.G v d →
  (∀ w', Q w'.M → Stp w w' → R w'.H) → rs od id d w.M Q → r o i v w.H R
theorem dg_sub {oe ie : Expr} {pi : PX} {r : TSet} {rs : D → D → D → MS → (MS → Prop) → Prop} (hs : PSet X r) (hr : SSnd X.K r rs) (ho : DE X E oe po) (hi : DE X E ie pi)
    (ha : ∀ v, assign (.Subscript oe ie pos) X.env v = (do
      let ov ← holding [v] (eval oe X.env)
      let iv ← holding [v, ov] (eval ie X.env)
      standAt pos
      holding [v, ov, iv] (setItem ov iv v)
      release [v, ov, iv] []) := by intro _; rfl) : DG X E (.Subscript oe ie pos) (qSub po pi rs) := by
  obtain ⟨to, ho, so⟩ := ho
  obtain ⟨ti, hi, si⟩ := hi
  refine ⟨_, pg_sub ho hi hs ha, fun w σ ρ v d R Q Ex hS hE r hR h => ?_⟩
  refine so w σ ρ _ _ Ex hS hE (fun o ov w1 h1 s1 r1 => ?_) h
  refine si w1 σ ρ _ _ Ex (hS.mono s1.gg) (hE.step s1) (fun i iv w2 h2 s2 r2 => ?_) h1
  exact hr w2 ov iv v o i d _ _ (r1.mono s2.gg) r2 (r.mono (s1.gg.trans s2.gg)) (fun w' q s => hR σ ρ w' q ((s1.trans s2).trans s) (hS.mono ((s1.gg.trans s2.gg).trans s.gg))) h2
def sSetL : D → D → D → MS → (MS → Prop) → Prop := fun o i v M Q => match ownL M o, i with
  | some (l, ds), .int k => match ixN ds.length k with
    | some j => Q (updM M l (.lst (ds.set j v)))
    | none => False
  | _, _ => False
theorem ss_setL : SSnd X.K rSetL sSetL := by
  intro w o i v od id d R Q ro ri rv hR h
  unfold sSetL at h
  split at h
  · rename_i l ds k hl
    obtain ⟨vs, rfl, hm, hH, rs⟩ := ownL_ok ro hl
    cases ri
    split at h
    · rename_i j hj
      exact ⟨l, vs, k, j, rfl, rfl, hH, by rw [rs.length]; exact hj, set_fin (R := fun _ H => R H) (Q := fun _ M => Q M) (m_ne hm) (rs.set j rv) (fun _ _ w' q s _ => hR w' q s) .non h⟩
    · exact h.elim
  · exact h.elim

/-! ### several names at once, op= -/
theorem ds_par {i j : Nat} {x y : Str} {a b : Expr} {px py pt : Pos} {kt k2 : Nat} {pt2 : Pos} (hc : X.calm = true) (hN : X.N.Nodup) (hi : X.N[i]? = some x) (hj : X.N[j]? = some y) (hij : i ≠ j)
    (hx : X.env.scope.names.lookup x = some .local) (hy : X.env.scope.names.lookup y = some .local) (ha : DA X E [a, b] pp)
    (hw : swappedStores [.Tuple [.Name x px, .Name y py] kt pt] (.Tuple [a, b] k2 pt2) X.env = pure (some [x, y]))
    (hs : swapsWithSole [.Tuple [.Name x px, .Name y py] kt pt] (.Tuple [a, b] k2 pt2) pos.line X.env = pure false := by rfl) :
    DS X E (.Assign [.Tuple [.Name x px, .Name y py] kt pt] (.Tuple [a, b] k2 pt2) pos) (dPar i j pp) := by
  obtain ⟨ta, ha, sa⟩ := ha
  refine ⟨_, ps_par hc hN hi hj hij hx hy ha hw hs, fun w σ ρ Dh D hS hD h => ?_⟩
  refine sa w σ ρ _ _ D.ex hS hD.ex (fun xs vs w1 h1 s1 r1 => ?_) h
  split at h1
  · cases r1 with
    | cons r1 rn =>
      cases rn with
      | cons r2 rn =>
        cases rn
        exact ⟨_, _, rfl, hD.nx _ _ w1 h1 s1 (((hS.mono s1.gg).set i r1).set j r2)⟩
  · exact h1.elim
def ISnd (K : PySem.W.Frag) (r : TIp) (rr : D → D → MS → QX → Prop) : Prop := RSnd K r rr
theorem ds_aug {i : Nat} {x : Str} {op : Operator} {ti : TIp} {rr : D → D → MS → QX → Prop} {pos' : Pos} (hN : X.N.Nodup) (hi : X.N[i]? = some x) (hx : Loc X.env.scope x) (ho : PIp X op ti) (hr : RSnd X.K ti rr) (he : DE X E e pa) (hf : X.fn x = true ∨ X.env.scope.names.lookup x = some .local := by first | exact .inl rfl | exact .inr rfl | assumption) :
    DS X E (.AugAssign (.Name x pos') op e pos) (dAug i pa rr) := by
  obtain ⟨te, he, se⟩ := he
  refine ⟨_, ps_aug hN hi hx he ho hf, fun w σ ρ Dh D hS hD h => ?_⟩
  unfold dAug at h
  split at h
  · rename_i d hd
    obtain ⟨v, hv, rv⟩ := hS.2 i d hd
    refine ⟨v, hv, ?_⟩
    refine se w σ ρ _ _ D.ex hS hD.ex (fun y u w1 h1 s1 r1 => ?_) h
    exact hr w1 v u d y _ _ (rv.mono s1.gg) r1 (fun z vz w2 q s rz => hD.nx _ _ w2 q (s1.trans s) ((hS.mono (s1.gg.trans s.gg)).set i rz)) h1
  · exact h.elim
theorem i_add : PIp X .Add (ipI fun i j => i + j) := ip_add
def dIAdd : D → D → MS → QX → Prop := fun x y M Q => match x, y with
  | .int i, .int j => Q (.int (i + j)) M
  | _, _ => False
theorem s_iadd : RSnd X.K (ipI fun i j => i + j) dIAdd := by
  intro w x y dx dy R Q rx ry hR h
  unfold dIAdd at h
  split at h
  · cases rx; cases ry; exact ⟨_, _, rfl, rfl, hR _ _ w h (Stp.refl w) (.int _)⟩
  · exact h.elim
end
end DL
namespace DL
open PySem L2 PySem.Spec PyProof.Rows
/-! ### fields -/
def lkD (f : Str) : List Str → List D → Option D
  | n :: ns, d :: ds => if f == n then some d else lkD f ns ds
  | _, _ => none
def insOf (M : MS) : D → Option (Addr × List Str × List D)
  | .obj C ns ds => some (C, ns, ds)
  | .ref l => match M l with
    | some (.ins C ns ds) => some (C, ns, ds)
    | _ => none
  | _ => none
def putN (f : Str) : List Str → List Str
  | [] => [f]
  | g :: r => if g = f then g :: r else g :: putN f r
def putD (f : Str) (y : D) : List Str → List D → List D
  | [], _ => [y]
  | g :: r, d :: ds => if g = f then y :: ds else d :: putD f y r ds
  | _ :: _, [] => []
section
variable {K : PySem.W.Frag} {G : Hp}
theorem lk_some {f : Str} : ∀ {fs : List (Str × V)} {ds : List D} {d : D}, Rps K G (fs.map (·.2)) ds → lkD f (fs.map (·.1)) ds = some d → ∃ v, fs.lookup f = some v ∧ Rp K G v d
  | [], _, _, _, h => by cases h
  | (n, v) :: fs, ds, d, r, h => by
    cases r with
    | cons r rs =>
      have h' : (if f == n then some _ else lkD f (fs.map (·.1)) _) = some d := h
      unfold List.lookup
      cases e : f == n with
      | true =>
        rw [e] at h'
        cases h'
        exact ⟨v, rfl, r⟩
      | false =>
        rw [e] at h'
        exact lk_some rs h'
theorem lk_none {f : Str} : ∀ {fs : List (Str × V)} {ds : List D}, Rps K G (fs.map (·.2)) ds → lkD f (fs.map (·.1)) ds = none → fs.lookup f = none
  | [], _, _, _ => rfl
  | (n, v) :: fs, ds, r, h => by
    cases r with
    | cons r rs =>
      have h' : (if f == n then some _ else lkD f (fs.map (·.1)) _) = none := h
      unfold List.lookup
      cases e : f == n with
      | true => rw [e] at h'; cases h'
      | false =>
        rw [e] at h'
        exact lk_none rs h'
theorem put_rep {f : Str} {v : V} {y : D} (rv : Rp K G v y) : ∀ {fs : List (Str × V)} {ds : List D}, Rps K G (fs.map (·.2)) ds → (putF f v fs).map (·.1) = putN f (fs.map (·.1)) ∧ Rps K G ((putF f v fs).map (·.2)) (putD f y (fs.map (·.1)) ds)
  | [], ds, r => ⟨rfl, .one rv⟩
  | (g, x) :: fs, ds, r => by
    cases r with
    | cons r rs =>
      rename_i d es
      show ((if g = f then (g, v) :: fs else (g, x) :: putF f v fs).map (·.1)) = (if g = f then g :: _ else g :: putN f _) ∧ Rps K G ((if g = f then (g, v) :: fs else (g, x) :: putF f v fs).map (·.2)) (if g = f then y :: es else d :: putD f y _ es)
      by_cases e : g = f
      · rw [if_pos e, if_pos e, if_pos e]
        exact ⟨rfl, .cons rv rs⟩
      · rw [if_neg e, if_neg e, if_neg e]
        obtain ⟨h1, h2⟩ := put_rep (f := f) rv rs
        exact ⟨by rw [← h1]; rfl, .cons r h2⟩
theorem ins_ok {w : Wo K} {v : V} {x : D} {C : Addr} {ns : List Str} {ds : List D} (r : Rp K w.G v x) (h : insOf w.M x = some (C, ns, ds)) : ∃ a dx fs, v = .ref a ∧ w.H a = some (.ins C dx fs) ∧ fs.map (·.1) = ns ∧ Rps K w.G (fs.map (·.2)) ds := by
  cases r with
  | ref a =>
    have h' : (match w.M a with | some (.ins C ns ds) => some (C, ns, ds) | _ => none) = some (C, ns, ds) := h
    cases e : w.M a with
    | none => rw [e] at h'; cases h'
    | some mo =>
      rw [e] at h'
      cases mo <;> first | (cases h'; done) | skip
      cases h'
      obtain ⟨ho, e1, r1⟩ := w.mh _ _ e
      cases ho <;> first | exact (show False from r1).elim | skip
      obtain ⟨rfl, r2, r3⟩ := r1
      exact ⟨a, _, _, rfl, e1, r2, r3⟩
  | obj h1 h2 h3 => cases h; exact ⟨_, _, _, rfl, w.gh _ _ h1, h2, h3⟩
  | _ => cases h
end
section
variable {X : Cx} {E : XK} {o e value : Expr} {es : List Expr} {f m : Str} {pos pos' apos tpos : Pos} {po pa pv : PX} {pp : PXa}
def dFld (K : PySem.W.Frag) (f : Str) (pa : PX) : PX := fun ρ M Q Ex => pa ρ M (fun x M1 => match insOf M1 x with
  | some (C, ns, ds) => (Cls K C ∧ NoAttr K C f) ∧ match lkD f ns ds with
    | some d => Q d M1
    | none => False
  | none => False) Ex
theorem d_fld (he : DE X E e pa) (hb : attributeBase e f X.env (eval e X.env) = eval e X.env := by rfl) : DE X E (.Attribute e f pos) (dFld X.K f pa) := by
  obtain ⟨t, he, s⟩ := he
  refine ⟨_, pe_fld he hb, fun w σ ρ R Q Ex hS hE hR h => ?_⟩
  refine s w σ ρ _ _ Ex hS hE (fun x v w1 h1 s1 r1 => ?_) h
  split at h1
  · rename_i C ns ds hi
    obtain ⟨⟨c, n⟩, h1⟩ := h1
    split at h1
    · rename_i d hd
      obtain ⟨a, dx, fs, rfl, hH, e1, rs⟩ := ins_ok r1 hi
      subst e1
      obtain ⟨u, hu, ru⟩ := lk_some rs hd
      exact ⟨a, C, dx, fs, u, rfl, hH, c, n, hu, hR _ _ w1 h1 s1 ru⟩
    · exact h1.elim
  · exact h1.elim
def ownI (M : MS) : D → Option (Addr × Addr × List Str × List D)
  | .ref l => match M l with
    | some (.ins C ns ds) => some (l, C, ns, ds)
    | _ => none
  | _ => none
theorem ownI_ok {K : PySem.W.Frag} {w : Wo K} {v : V} {x : D} {l C : Addr} {ns : List Str} {ds : List D} (r : Rp K w.G v x) (h : ownI w.M x = some (l, C, ns, ds)) : ∃ dx fs, v = .ref l ∧ w.M l = some (.ins C ns ds) ∧ w.H l = some (.ins C dx fs) ∧ fs.map (·.1) = ns ∧ Rps K w.G (fs.map (·.2)) ds := by
  cases r with
  | ref a =>
    have h' : (match w.M a with | some (.ins C ns ds) => some (a, C, ns, ds) | _ => none) = some (l, C, ns, ds) := h
    cases e : w.M a with
    | none => rw [e] at h'; cases h'
    | some mo =>
      rw [e] at h'
      cases mo <;> first | (cases h'; done) | skip
      cases h'
      obtain ⟨ho, e1, r1⟩ := w.mh _ _ e
      cases ho <;> first | exact (show False from r1).elim | skip
      obtain ⟨rfl, r2, r3⟩ := r1
      exact ⟨_, _, rfl, e, e1, r2, r3⟩
  | _ => cases h
def dSetF (K : PySem.W.Frag) (f : Str) (po pv : PX) : PY := fun D ρ M => pv ρ M (fun y M1 => po ρ M1 (fun x M2 => match ownI M2 x with
  | some (l, C, ns, ds) => (Cls K C ∧ NoAttr K C f ∧ ns.length < 1000) ∧ D.nx ρ (updM M2 l (.ins C (putN f ns) (putD f y ns ds)))
  | none => False) D.ex) D.ex
theorem ds_setF (ho : DE X E o po) (hv : DE X E value pv) (hs : swapsWith value (some (.Attribute o f pos')) pos.line X.env = pure false := by rfl) : DS X E (.Assign [.Attribute o f pos'] value pos) (dSetF X.K f po pv) := by
  obtain ⟨to, ho, so⟩ := ho
  obtain ⟨tv, hv, sv⟩ := hv
  refine ⟨_, ps_fld ho hv hs, fun w σ ρ Dh D hS hD h => ?_⟩
  refine sv w σ ρ _ _ D.ex hS hD.ex (fun y v w1 h1 s1 r1 => ?_) h
  refine so w1 σ ρ _ _ D.ex (hS.mono s1.gg) (hD.ex.step s1) (fun x u w2 h2 s2 r2 => ?_) h1
  split at h2
  · rename_i l C ns ds hi
    obtain ⟨dx, fs, rfl, hm, hH, e1, rs⟩ := ownI_ok r2 hi
    subst e1
    obtain ⟨k1, k2⟩ := put_rep (f := f) (r1.mono s2.gg) rs
    refine ⟨l, C, dx, fs, rfl, hH, h2.1.1, h2.1.2.1, by simpa using h2.1.2.2, ?_⟩
    have rr : RepO X.K w2.G (.ins C dx (putF f v fs)) (.ins C (putN f (fs.map (·.1))) (putD f y (fs.map (·.1)) ds)) := ⟨rfl, k1, k2⟩
    exact hD.nx σ ρ (w2.setM l _ _ (m_ne hm) rr) h2.2 ((s1.trans s2).trans (w2.setM_stp l _ _ (m_ne hm) rr)) (hS.mono (s1.gg.trans s2.gg))
  · exact h2.elim
/-- o.f += e -/
def dAugF (K : PySem.W.Frag) (f : Str) (po pv : PX) (rr : D → D → MS → QX → Prop) : PY := fun D ρ M => po ρ M (fun x M1 => match ownI M1 x with
  | some (l, C, ns, ds) => (Cls K C ∧ NoAttr K C f ∧ ns.length < 1000) ∧ match lkD f ns ds with
    | some d => pv ρ M1 (fun y M2 => rr d y M2 (fun z M3 => M3 l = some (.ins C ns ds) ∧ D.nx ρ (updM M3 l (.ins C (putN f ns) (putD f z ns ds))))) D.ex
    | none => False
  | none => False) D.ex
theorem ds_augF {op : Operator} {rd : V → V → Hp → VK → Prop} {rr : D → D → MS → QX → Prop} (ho : DE X E o po) (hv : DE X E value pv) (hop : InOp X op rd) (hr : RSnd X.K rd rr) : DS X E (.AugAssign (.Attribute o f tpos) op value pos) (dAugF X.K f po pv rr) := by
  obtain ⟨to, ho, so⟩ := ho
  obtain ⟨tv, hv, sv⟩ := hv
  refine ⟨_, ps_fldaug ho hv hop, fun w σ ρ Dh D hS hD h => ?_⟩
  refine so w σ ρ _ _ D.ex hS hD.ex (fun x u w1 h1 s1 r1 => ?_) h
  split at h1
  · rename_i l C ns ds hi
    obtain ⟨dx, fs, rfl, hm, hH, e1, rs⟩ := ownI_ok r1 hi
    subst e1
    obtain ⟨⟨c, n, hl⟩, h1⟩ := h1
    split at h1
    · rename_i d hd
      obtain ⟨v0, hv0, rv0⟩ := lk_some rs hd
      refine ⟨l, C, dx, fs, v0, rfl, hH, c, n, hv0, ?_⟩
      refine sv w1 σ ρ _ _ D.ex (hS.mono s1.gg) (hD.ex.step s1) (fun y vy w2 h2 s2 r2 => ?_) h1
      refine hr w2 v0 vy d y _ _ (rv0.mono s2.gg) r2 (fun z vz w3 h3 s3 r3 => ?_) h2
      obtain ⟨hm3, h3⟩ := h3
      obtain ⟨dx3, fs3, e3, _, hH3, e4, rs3⟩ := ownI_ok (w := w3) (v := .ref l) (.ref l) (show ownI w3.M (.ref l) = some (l, C, fs.map (·.1), ds) by show (match w3.M l with | some (.ins C ns ds) => some (l, C, ns, ds) | _ => none) = _; rw [hm3])
      obtain ⟨k1, k2⟩ := put_rep (f := f) r3 rs3
      rw [e4] at k1 k2
      refine ⟨dx3, fs3, hH3, ?_, ?_⟩
      · have := congrArg List.length e4
        simp only [List.length_map] at this hl
        omega
      have rr3 : RepO X.K w3.G (.ins C dx3 (putF f vz fs3)) (.ins C (putN f (fs.map (·.1))) (putD f z (fs.map (·.1)) ds)) := ⟨rfl, k1, k2⟩
      exact hD.nx σ ρ (w3.setM l _ _ (m_ne hm3) rr3) h3 (((s1.trans s2).trans s3).trans (w3.setM_stp l _ _ (m_ne hm3) rr3)) (hS.mono ((s1.gg.trans s2.gg).trans s3.gg))
    · exact h1.elim
  · exact h1.elim
theorem in_iadd : RSnd X.K rAdd dIAdd := by
  intro w x y dx dy R Q rx ry hR h
  unfold dIAdd at h
  split at h
  · cases rx; cases ry; exact ⟨_, _, rfl, rfl, hR _ _ w h (Stp.refl w) (.int _)⟩
  · exact h.elim

/-! ### methods of own classes -/
structure MtG (P : Program) (w : World) (K : PySem.W.Frag) (mg : Str → Option Value) (base : Heap) (k : Nat) (C : Addr) (m : Str) (dds : List D) (fs : Fs) : Prop where
  ex : ∃ (g : Addr) (fd : FuncData) (ps : List Str) (ds : List Value) (dvs : List V), Meth K C m g ∧ FnOk P w K mg base (L2.CX P w) k g fd ps (toSp K fs) ∧ Binds K fd ps ds ∧ Vals dvs ds ∧ (∀ G : Hp, Rps K G dvs dds)
theorem MtG.mono {P : Program} {w : World} {K : PySem.W.Frag} {mg : Str → Option Value} {base : Heap} {j k : Nat} {C : Addr} {m : Str} {dds : List D} {fs : Fs} (h : MtG P w K mg base j C m dds fs) (l : j ≤ k) : MtG P w K mg base k C m dds fs := by
  obtain ⟨g, fd, ps, ds, dvs, h1, h2, h3, h4, h5⟩ := h
  exact ⟨g, fd, ps, ds, dvs, h1, h2.mono l, h3, h4, h5⟩
def tMthV (P : Program) (w : World) (K : PySem.W.Frag) (mg : Str → Option Value) (base : Heap) (k : Nat) (m : Str) (E : XK) (ta : TE) (t : TA) : TE := fun σ H Q => ta σ H fun x H1 => ∃ (a C dx : Addr) (fs : List (Str × V)) (g : Addr) (fd : FuncData) (ps : List Str) (ds : List Value) (dvs : List V) (sp : Sp),
  x = .ref a ∧ H1 a = some (.ins C dx fs) ∧ fs.lookup m = none ∧ Cls K C ∧ Meth K C m g ∧ FnOk P w K mg base (L2.CX P w) k g fd ps sp ∧ Binds K fd ps ds ∧ Vals dvs ds ∧ t σ H1 fun vs H2 => sp (x :: (vs ++ dvs)) H2 Q E
theorem pe_mthV {pl : Sem Bool} {k : Nat} {ta : TE} {t : TA} (he : PE X o ta) (hr : Room k X.A) (hx : Passes (L2.CX X.prog X.w) X E) (ha : PA X (e :: es) t)
    (hst : starEach (e :: es) X.env = (false, eval e X.env) :: starEach es X.env := by rfl) (hpl : (backTo pos (starEach es X.env)).any (·.1) = false := by rfl)
    (ht : eval (.Call (.Attribute o m apos) (e :: es) [] pos) X.env = (do
      let ov ← eval o X.env
      standAt apos.atName
      let (f, first) ← holding [ov] (getMethod ov m pl)
      callWith pos f first (backTo pos (starEach (e :: es) X.env)) (backToKw pos (keywordEach [] X.env))) := by rfl) :
    PE X (.Call (.Attribute o m apos) (e :: es) [] pos) (tMthV X.prog X.w X.K X.mg X.base k m E ta t) := by
  refine ⟨fun pins s σ H Q I h => ?_⟩
  refine PySem.W.methodCall_KW (pl := pl) (thn (he.run pins s σ H _ I h) fun u s1 ⟨x, H1, I1, rx, a, C, dx, fs, g, fd, ps, ds, dvs, sp, ex, ea, l, c, hm, F, hb, hd, q⟩ => ?_) ht
  subst ex
  obtain rfl : u = Value.ref a := rx
  refine getmeth_ok I1 ea c hm l ?_
  refine PySem.W.callWith_K (first := [.ref a]) (h₀ := X.base) I.ok.mod.kin hm.kp (thn (ha.run pos pins s1 σ H1 _ I1 q) fun us s2 ⟨vs, H2, I2, r, q2⟩ => ⟨I2.kIn, ?_⟩) hst hpl
  exact run_fn (us := .ref a :: us) (vs := .ref a :: vs) F hr hb hd hx I2 (.cons rfl r) q2
theorem pe_mthV0 {pl : Sem Bool} {k : Nat} {ta : TE} (he : PE X o ta) (hr : Room k X.A) (hx : Passes (L2.CX X.prog X.w) X E)
    (ht : eval (.Call (.Attribute o m apos) [] [] pos) X.env = (do
      let ov ← eval o X.env
      standAt apos.atName
      let (f, first) ← holding [ov] (getMethod ov m pl)
      callWith pos f first (backTo pos (starEach [] X.env)) (backToKw pos (keywordEach [] X.env))) := by rfl) :
    PE X (.Call (.Attribute o m apos) [] [] pos) (tMthV X.prog X.w X.K X.mg X.base k m E ta tNil) := by
  refine ⟨fun pins s σ H Q I h => ?_⟩
  refine PySem.W.methodCall_KW (pl := pl) (thn (he.run pins s σ H _ I h) fun u s1 ⟨x, H1, I1, rx, a, C, dx, fs, g, fd, ps, ds, dvs, sp, ex, ea, l, c, hm, F, hb, hd, q⟩ => ?_) ht
  subst ex
  obtain rfl : u = Value.ref a := rx
  refine getmeth_ok I1 ea c hm l ?_
  exact PySem.W.callWith_K0 (first := [.ref a]) I1.kIn hm.kp (run_fn (us := [.ref a]) (vs := [.ref a]) F hr hb hd hx I1 (.cons rfl .nil) q)
/-- o.m(..): whatever class o is of -/
def dMthV (P : Program) (w : World) (K : PySem.W.Frag) (mg : Str → Option Value) (base : Heap) (k : Nat) (m : Str) (po : PX) (pp : PXa) : PX := fun ρ M Q Ex => po ρ M (fun x M1 => match insOf M1 x with
  | some (C, ns, ds) => ∃ (dds : List D) (fs : Fs), (lkD m ns ds = none ∧ Cls K C ∧ MtG P w K mg base k C m dds fs) ∧ pp ρ M1 (fun as M2 => ∃ Mc, subM Mc M2 ∧ fs (x :: (as ++ dds)) Mc (fun z M' => Q z (joinM M2 Mc M')) (fun c M' => Ex c (joinM M2 Mc M'))) Ex
  | none => False) Ex
theorem snd_mthV {P : Program} {w0 : World} {K : PySem.W.Frag} {mg : Str → Option Value} {base : Heap} {k : Nat} {ta : TE} {t : TA} (so : Snd K E ta po) (sa : SndA K E t pp) : Snd K E (tMthV P w0 K mg base k m E ta t) (dMthV P w0 K mg base k m po pp) := by
  intro w σ ρ R Q Ex hS hE hR h
  refine so w σ ρ _ _ Ex hS hE (fun x v w1 h1 s1 r1 => ?_) h
  split at h1
  · rename_i C ns ds hi
    obtain ⟨dds, fs, ⟨hl, c, g, fd, ps, dvv, dvs, hm, F, hb, hd, hG⟩, h1⟩ := h1
    obtain ⟨a, dx, as, rfl, hH, e1, rs⟩ := ins_ok r1 hi
    subst e1
    refine ⟨a, C, dx, as, g, fd, ps, dvv, dvs, _, rfl, hH, lk_none rs hl, c, hm, F, hb, hd, ?_⟩
    refine sa w1 σ ρ _ _ Ex (hS.mono s1.gg) (hE.step s1) (fun zs vs w2 h2 s2 r2 => ?_) h1
    exact sp_of (hE.step (s1.trans s2)) (fun z vz w' q st r => hR z vz w' q ((s1.trans s2).trans st) r) (.cons (r1.mono s2.gg) (r2.append (hG _))) h2
  · exact h1.elim
theorem d_mthV {pl : Sem Bool} {k : Nat} (ho : DE X E o po) (hr : Room k X.A) (hx : Passes (L2.CX X.prog X.w) X E) (ha : DA X E (e :: es) pp)
    (hst : starEach (e :: es) X.env = (false, eval e X.env) :: starEach es X.env := by rfl) (hpl : (backTo pos (starEach es X.env)).any (·.1) = false := by rfl)
    (ht : eval (.Call (.Attribute o m apos) (e :: es) [] pos) X.env = (do
      let ov ← eval o X.env
      standAt apos.atName
      let (f, first) ← holding [ov] (getMethod ov m pl)
      callWith pos f first (backTo pos (starEach (e :: es) X.env)) (backToKw pos (keywordEach [] X.env))) := by rfl) :
    DE X E (.Call (.Attribute o m apos) (e :: es) [] pos) (dMthV X.prog X.w X.K X.mg X.base k m po pp) := by
  obtain ⟨to, ho, so⟩ := ho
  obtain ⟨ta, ha, sa⟩ := ha
  exact ⟨_, pe_mthV ho hr hx ha hst hpl ht, snd_mthV so sa⟩
theorem d_mthV0 {pl : Sem Bool} {k : Nat} (ho : DE X E o po) (hr : Room k X.A) (hx : Passes (L2.CX X.prog X.w) X E)
    (ht : eval (.Call (.Attribute o m apos) [] [] pos) X.env = (do
      let ov ← eval o X.env
      standAt apos.atName
      let (f, first) ← holding [ov] (getMethod ov m pl)
      callWith pos f first (backTo pos (starEach [] X.env)) (backToKw pos (keywordEach [] X.env))) := by rfl) :
    DE X E (.Call (.Attribute o m apos) [] [] pos) (dMthV X.prog X.w X.K X.mg X.base k m po dNil) := by
  obtain ⟨to, ho, so⟩ := ho
  exact ⟨_, pe_mthV0 ho hr hx ht, snd_mthV so (fun w σ ρ R Q Ex _ _ hR h => hR [] [] w h (Stp.refl w) .nil)⟩

/-! ### C.f(..), f a plain def of the class -/
structure CfG (P : Program) (w : World) (K : PySem.W.Frag) (mg : Str → Option Value) (base : Heap) (k : Nat) (C : Addr) (m : Str) (dds : List D) (fs : Fs) : Prop where
  ex : ∃ (mc : Value) (g : Addr) (fd : FuncData) (ps : List Str) (ds : List Value) (dvs : List V), ClX.CRead K C mc ∧ PySem.W.findCls K (.ref C) mc m = some (.val (.ref g)) ∧ PySem.W.keepIn K (.ref g) = true ∧ FnOk P w K mg base (L2.CX P w) k g fd ps (toSp K fs) ∧ Binds K fd ps ds ∧ Vals dvs ds ∧ (∀ G : Hp, Rps K G dvs dds)
theorem CfG.mono {P : Program} {w : World} {K : PySem.W.Frag} {mg : Str → Option Value} {base : Heap} {j k : Nat} {C : Addr} {m : Str} {dds : List D} {fs : Fs} (h : CfG P w K mg base j C m dds fs) (l : j ≤ k) : CfG P w K mg base k C m dds fs := by
  obtain ⟨mc, g, fd, ps, ds, dvs, h1, h2, h3, h4, h5⟩ := h
  exact ⟨mc, g, fd, ps, ds, dvs, h1, h2, h3, h4.mono l, h5⟩
theorem d_cfun {pl : Sem Bool} {k : Nat} {C : Addr} {x : Str} {p : Pos} {dds : List D} {fs : Fs} (F : CfG X.prog X.w X.K X.mg X.base k C m dds fs) (hm : X.mg x = some (.ref C)) (hr : Room k X.A) (hx : Passes (L2.CX X.prog X.w) X E) (ha : DA X E (e :: es) pp) (hg : Gl X x := by rfl) (hdb : (x == ("__debug__" : Str)) = false := by decide)
    (hst : starEach (e :: es) X.env = (false, eval e X.env) :: starEach es X.env := by rfl) (hpl : (backTo pos (starEach es X.env)).any (·.1) = false := by rfl)
    (ht : eval (.Call (.Attribute (.Name x p) m apos) (e :: es) [] pos) X.env = (do
      let ov ← eval (.Name x p) X.env
      standAt apos.atName
      let (f, first) ← holding [ov] (getMethod ov m pl)
      callWith pos f first (backTo pos (starEach (e :: es) X.env)) (backToKw pos (keywordEach [] X.env))) := by rfl) :
    DE X E (.Call (.Attribute (.Name x p) m apos) (e :: es) [] pos) (dCall fs dds pp) := by
  obtain ⟨mc, g, fd, ps, ds, dvs, rd, fc, kp, F, hb, hd, hG⟩ := F
  obtain ⟨t, ha, sa⟩ := ha
  refine ⟨tCall (toSp X.K fs) dvs E t, ⟨fun pins s σ H Q I h => ?_⟩, snd_call sa hG⟩
  have he : PE X (.Name x p) (tC (.ref C)) := pe_glob hg hm rfl hdb
  refine PySem.W.methodCall_KW (pl := pl) (thn (he.run pins s σ H (fun v H' => v = .ref C ∧ H' = H) I ⟨rfl, rfl⟩) fun u s1 ⟨v, H1, I1, rx, ex, eh⟩ => ?_) ht
  subst ex eh
  obtain rfl : u = Value.ref C := rx
  refine PySem.W.method_cls I1.kIn rd.ga (ClX.getcval_ok (v := .ref g) I1 rd ⟨fc, rfl⟩ fun s2 I2 => ?_)
  refine PySem.W.callWith_K (first := []) (h₀ := X.base) I.ok.mod.kin kp (thn (ha.run pos pins s2 σ _ _ I2 h) fun us s3 ⟨vs, H2, I3, r, q2⟩ => ⟨I3.kIn, ?_⟩) hst hpl
  exact run_fn F hr hb hd hx I3 r q2

/-! ### C(..) -/
/-- the class C made by its __init__ -/
structure MkG (P : Program) (w : World) (K : PySem.W.Frag) (mg : Str → Option Value) (base : Heap) (k : Nat) (x : Str) (C : Addr) (dds : List D) (fs : Fs) : Prop where
  ex : ∃ (g : Addr) (fd : FuncData) (ps : List Str) (ds : List Value) (dvs : List V), mg x = some (.ref C) ∧ Mk K C g ∧ FnOk P w K mg base (L2.CX P w) k g fd ps (toSp K fs) ∧ Binds K fd ps ds ∧ Vals dvs ds ∧ (∀ G : Hp, Rps K G dvs dds)
theorem MkG.mono {P : Program} {w : World} {K : PySem.W.Frag} {mg : Str → Option Value} {base : Heap} {j k : Nat} {x : Str} {C : Addr} {dds : List D} {fs : Fs} (h : MkG P w K mg base j x C dds fs) (l : j ≤ k) : MkG P w K mg base k x C dds fs := by
  obtain ⟨g, fd, ps, ds, dvs, h1, h2, h3, h4⟩ := h
  exact ⟨g, fd, ps, ds, dvs, h1, h2, h3.mono l, h4⟩
abbrev selfM (Mc : MS) (x C : Addr) : MS := updM Mc x (.ins C [] [])
def dMake (C : Addr) (fs : Fs) (dds : List D) (pp : PXa) : PX := fun ρ M Q Ex => pp ρ M (fun ds M1 => ∃ Mc, subM Mc M1 ∧ ∀ x, M1 x = none → fs (.ref x :: (ds ++ dds)) (selfM Mc x C) (fun v M' => v = .non ∧ Q (.ref x) (joinM M1 (selfM Mc x C) M')) (fun c M' => Ex c (joinM M1 (selfM Mc x C) M'))) Ex
theorem joinM_upd {M Mc M' : MS} {x : Addr} {o : MO} (hx : M x = none) (hc : Mc x ≠ none) : joinM (updM M x o) Mc M' = joinM M Mc M' := by
  funext a
  unfold joinM
  cases e : M' a with
  | some _ => rfl
  | none =>
    cases ec : Mc a with
    | some _ => rfl
    | none =>
      have : a ≠ x := fun z => by subst z; exact hc ec
      show updM M x o a = M a
      rw [updM_ne this]
theorem snd_make {K : PySem.W.Frag} {C : Addr} {fs : Fs} {dvs : List V} {dds : List D} {ta : TA} (sa : SndA K E ta pp) (hd : ∀ G : Hp, Rps K G dvs dds) : Snd K E (tMake C (toSp K fs) dvs E ta) (dMake C fs dds pp) := by
  intro w σ ρ R Q Ex hS hE hR h
  refine sa w σ ρ _ _ Ex hS hE (fun ds vs w1 h1 s1 r1 => ?_) h
  intro x dx nx ndx nex
  obtain ⟨Mc, hMc, h1⟩ := h1
  have g1 : w1.G dx = none := w1.g_none ndx
  have m1 : w1.M dx = none := w1.m_none ndx
  have sA : Stp w1 (w1.newX dx (.own x) g1 m1) := stp_newX (Stp.refl w1) ndx
  have nx2 : (w1.newX dx (.own x) g1 m1).H x = none := by
    show upd w1.H dx (.own x) x = none
    rw [upd_ne (Ne.symm nex)]; exact nx
  have rr : RepO K (w1.newX dx (.own x) g1 m1).G (.ins C dx []) (.ins C [] []) := ⟨rfl, rfl, .nil⟩
  have sB := (w1.newX dx (.own x) g1 m1).newM_stp x (.ins C dx []) (.ins C [] []) nx2 rr
  have st := sA.trans sB
  have hx0 : w1.M x = none := w1.m_none nx
  have hh := h1 x hx0
  have hc : selfM Mc x C x ≠ none := by unfold selfM; rw [updM_same]; exact fun z => by cases z
  refine sp_of (w := (w1.newX dx (.own x) g1 m1).newM x (.ins C dx []) (.ins C [] []) nx2 rr) (vs := .ref x :: (vs ++ dvs)) (Q := fun v M' => v = .non ∧ Q (.ref x) M') (Ex := Ex) ((hE.step s1).step st) (fun v u w' q s' r => ?_) (.cons (.ref x) ((r1.mono st.gg).append (hd _))) ⟨selfM Mc x C, fun a mo z => ?_, ?_⟩
  · obtain ⟨rfl, q⟩ := q
    cases r
    exact ⟨rfl, hR _ _ w' q ((s1.trans st).trans s') (.ref x)⟩
  · show updM w1.M x (.ins C [] []) a = some mo
    unfold selfM at z
    by_cases e : a = x
    · subst e; rw [updM_same] at z ⊢; exact z
    · rw [updM_ne e] at z ⊢; exact hMc a mo z
  · show fs _ _ (fun v M' => v = .non ∧ Q (.ref x) (joinM (updM w1.M x (.ins C [] [])) (selfM Mc x C) M')) (fun c M' => Ex c (joinM (updM w1.M x (.ins C [] [])) (selfM Mc x C) M'))
    have e : ∀ M', joinM (updM w1.M x (.ins C [] [])) (selfM Mc x C) M' = joinM w1.M (selfM Mc x C) M' := fun M' => joinM_upd hx0 hc
    simp only [e]
    exact hh
theorem d_make {k : Nat} {x : Str} {C : Addr} {p : Pos} {dds : List D} {fs : Fs} (F : MkG X.prog X.w X.K X.mg X.base k x C dds fs) (hr : Room (k + 1) X.A) (hx : Passes (L2.CX X.prog X.w) X E) (ha : DA X E (e :: es) pp) (hg : Gl X x := by rfl) (hdb : (x == ("__debug__" : Str)) = false := by decide)
    (he : starEach (e :: es) X.env = (false, eval e X.env) :: starEach es X.env := by rfl) (hpl : (backTo pos (starEach es X.env)).any (·.1) = false := by rfl) : DE X E (.Call (.Name x p) (e :: es) [] pos) (dMake C fs dds pp) := by
  obtain ⟨g, fd, ps, ds, dvs, h1, h2, h3, h4, h5, h6⟩ := F
  obtain ⟨t, ha, sa⟩ := ha
  exact ⟨_, pe_make h2 h3 hr hg h1 h4 h5 hx ha hdb he hpl, snd_make sa h6⟩

/-! ### isinstance -/
/-- what isinstance asks of an own class -/
structure IsK (K : PySem.W.Frag) (C : Addr) : Prop where
  cl : Cls K C
  ha : PySem.W.findIn K (.ref C) "__class__" = some (some (.builtin "object.__class__"))
  hn : PySem.W.specialIn K (.builtin "object.__class__") "__get__" = some (some (.builtin "getset_descriptor.__get__"))
  ht : PySem.W.takesIn K (.builtin "object.__class__") = some true
  hm : PySem.W.mroIn K C (.type "object") = some true
def tyD (M : MS) : D → Option Value
  | .non => some (.type "NoneType")
  | .bl _ => some (.type "bool")
  | .int _ => some (.type "int")
  | .str _ => some (.type "str")
  | .tup _ => some (.type "tuple")
  | .lst _ => some (.type "list")
  | .dK _ _ => some (.type "dict")
  | .dT _ _ => some (.type "dict")
  | .obj C _ _ => some (.ref C)
  | .ref l => match M l with
    | some (.lst _) => some (.type "list")
    | some (.dK _ _) => some (.type "dict")
    | some (.dT _ _) => some (.type "dict")
    | some (.ins C _ _) => some (.ref C)
    | none => none
  | _ => none
def clsD : D → Option Value
  | .ty n => some (.type n)
  | .ref C => some (.ref C)
  | _ => none
def ownK (K : PySem.W.Frag) : Value → Prop
  | .ref C => IsK K C
  | _ => True
def dIsi (K : PySem.W.Frag) : List D → MS → QX → Prop := fun xs M Q => match xs with
  | [x, c] => match tyD M x, clsD c with
    | some t, some u => ownK K t ∧ ∃ b, PySem.W.kitOne K t u = some b ∧ Q (.bl b) M
    | _, _ => False
  | _ => False
theorem tyX_of {K : PySem.W.Frag} {w : Wo K} {v : V} {x : D} {t : Value} (r : Rp K w.G v x) (h : tyD w.M x = some t) (ho : ownK K t) : TyX K w.H v t := by
  cases r with
  | non => cases h; exact .base .non
  | bl b => cases h; exact .base (.bl b)
  | int b => cases h; exact .base (.int b)
  | str b => cases h; exact .base (.str b)
  | ty _ => cases h
  | scr _ => cases h
  | tup a b =>
    cases h
    rcases same_seqT w.gh a with (q | ⟨o, q⟩) | ⟨o, its, n, q1, q2, q3⟩
    · exact .base (.tup q)
    · exact .fTuple q
    · exact .kTuple q1 q2
  | lst a b => cases h; exact .base (.lst (w.gh _ _ a))
  | dK a b c => cases h; exact .base (.dK (w.gh _ _ a))
  | dT a b c => cases h; exact .base (.dT (w.gh _ _ a))
  | obj a b c =>
    cases h
    have ho' : IsK K _ := ho
    exact .base (.ins (w.gh _ _ a) ho'.cl ho'.ha ho'.hn ho'.ht ho'.hm)
  | ref l =>
    have h' : (match w.M l with | some (.lst _) => some (Value.type "list") | some (.dK _ _) => some (.type "dict") | some (.dT _ _) => some (.type "dict") | some (.ins C _ _) => some (.ref C) | none => none) = some t := h
    cases e : w.M l with
    | none => rw [e] at h'; cases h'
    | some mo =>
      rw [e] at h'
      obtain ⟨hob, e1, r1⟩ := w.mh _ _ e
      cases mo with
      | lst ds =>
        cases h'
        cases hob <;> first | exact (show False from r1).elim | exact .base (.lst e1)
      | dK ks ds =>
        cases h'
        cases hob <;> first | exact (show False from r1).elim | exact .base (.dK e1)
      | dT ks ds =>
        cases h'
        cases hob <;> first | exact (show False from r1).elim | exact .base (.dT e1)
      | ins C ns ds =>
        cases h'
        have ho' : IsK K C := ho
        cases hob <;> first | exact (show False from r1).elim | skip
        obtain ⟨rfl, _⟩ := r1
        exact .base (.ins e1 ho'.cl ho'.ha ho'.hn ho'.ht ho'.hm)
theorem s_isi : CSnd X.K (rIsi X.K) (dIsi X.K) := by
  intro w xs dxs R Q r hR h
  unfold dIsi at h
  split at h
  · cases r with
    | cons r1 rn =>
      cases rn with
      | cons r2 rn =>
        cases rn
        split at h
        · rename_i t u h1 h2
          obtain ⟨ho, b, hb, q⟩ := h
          have cv : ∀ {c : D} {v : V}, Rp X.K w.G v c → clsD c = some u → ClsV v u := fun {c v} r e => by
            cases r <;> first | (cases e; done) | skip
            · cases e; exact .ty _
            · cases e; exact .own _
          exact ⟨_, _, t, u, b, rfl, cv r2 h2, tyX_of r1 h1 ho, hb, hR _ _ w q (Stp.refl w) (.bl _)⟩
        · exact h.elim
  · exact h.elim

/-! ### raise X('..') -/
def dRaise (C : Addr) : PY := fun D _ M => D.ex C M
/-- an own exception class without __init__ -/
structure XcG (K : PySem.W.Frag) (mg : Str → Option Value) (x : Str) (C : Addr) : Prop where
  gC : mg x = some (.ref C)
  xC : PySem.W.excIn K C [.type "ValueError", .type "Exception", .type "BaseException", .type "object"] "ValueError.__new__" = true
  kC : PySem.W.keepIn K (.ref C) = true
end
end DL
namespace DL
open PySem L2 PySem.Spec PyProof.Rows
section
variable {X : Cx} {E : XK} {x : Str} {pos : Pos}
/-! ### names of the module -/
theorem d_cls {C : Addr} (hm : X.mg x = some (.ref C)) (hg : Gl X x := by rfl) (hd : (x == ("__debug__" : Str)) = false := by decide) : DE X E (.Name x pos) (dC (.ref C)) := d_glob (v := .ref C) hg hm rfl (fun _ => .ref C) hd
theorem d_ty {n : String} (hm : X.mg x = none) (hv : bootBuiltins x = some (.type n)) (hg : Gl X x := by rfl) (hn : x ≠ "__name__" := by decide) (hd : (x == ("__debug__" : Str)) = false := by decide) : DE X E (.Name x pos) (dC (.ty n)) := d_bltn (v := .ty n) hg hm hv rfl (fun _ => .ty n) hn hd
theorem d_gstr {z : Str} (hm : ∃ t, X.mg x = some (.str z t)) (hg : Gl X x := by rfl) (hd : (x == ("__debug__" : Str)) = false := by decide) : DE X E (.Name x pos) (dC (.str z)) := by
  obtain ⟨t, h⟩ := hm
  exact d_glob (v := .str z) hg h ⟨t, rfl⟩ (fun _ => .str z) hd
theorem d_gint {z : Int} (hm : ∃ t, X.mg x = some (.int z t)) (hg : Gl X x := by rfl) (hd : (x == ("__debug__" : Str)) = false := by decide) : DE X E (.Name x pos) (dC (.int z)) := by
  obtain ⟨t, h⟩ := hm
  exact d_glob (v := .int z) hg h ⟨t, rfl⟩ (fun _ => .int z) hd
def dNeg : D → MS → QX → Prop := fun x M Q => match x with
  | .int i => Q (.int (-i)) M
  | _ => False
theorem s_neg : USnd X.K (rU fun i => .int (-i)) dNeg := by
  intro w x dx R Q rx hR h
  unfold dNeg at h
  split at h
  · cases rx; exact ⟨_, rfl, hR _ _ w h (Stp.refl w) (.int _)⟩
  · exact h.elim
/-! ### raise -/
structure XcT (K : PySem.W.Frag) (mg : Str → Option Value) (x : Str) (C : Addr) : Prop where
  gC : mg x = some (.ref C)
  xC : PySem.W.excIn K C [.type "ValueError", .type "Exception", .type "BaseException", .type "object"] "ValueError.__new__" = true
  kC : PySem.W.keepIn K (.ref C) = true
  bC : PySem.W.subIn K (.ref C) (.type "BaseException") = some true
  tC : PySem.W.typeIn K (.ref C) = some (.type "type")
theorem ds_raise {C : Addr} {m : Str} {j : Nat} {p p2 pos pos2 : Pos} (tk : Takes X (fun cls d _ H => E cls d H)) (c : XcT X.K X.mg x C) (hc : X.calm = true := by rfl) (hg : Gl X x := by rfl) (hdb : (x == ("__debug__" : Str)) = false := by decide) :
    DS X E (.Raise (some (.Call (.Name x p) [.Constant (.str m) j p2] [] pos)) none pos2) (dRaise C) :=
  ⟨_, ps_raise hc tk (pmk_own PySem.F.excBase_ValueError c.xC c.gC c.kC (raises_own c.bC c.tC) hg hdb), fun w σ ρ Dh D hS hD h => hD.ex C w h (Stp.refl w)⟩
end
/-! ### the law's end -/
def lawP : Ps := fun ds q _ => ∃ ns : List Int, ds = [.scr ns] ∧ ns.length ≤ 63 ∧ q (.bl true)
theorem law_sp {K : PySem.W.Frag} {H : Hp} {a : Addr} {ns : List Int} (hl : ns.length ≤ 63) (hS : SqL K H a (ns.map V.int)) : toSp K (fsP lawP) [.ref a] H (fun v _ => v = .bl true) (fun _ _ _ => False) := by
  refine ⟨⟨H, M0, H, Same.refl H, fun a z => absurd rfl z, fun a mo z => by cases z⟩, [.scr ns], fun x _ => x = .bl true, fun _ _ => False, rfl, .cons (.scr hS) .nil, fun _ _ z => z.elim, fun x v w' e st r => ?_, rfl, ns, rfl, hl, rfl⟩
  subst e
  cases r
  rfl
theorem law_cx {P : Program} {w : World} {H : Hp} {s : Shared} {e : Value} {s' : Shared} (h : L2.CX P w [] H s (fun _ _ _ => False) e s') : False := by
  obtain ⟨_, _, _, _, _, _, _, _, _, _, _, _, z⟩ := h
  exact z
theorem law_walk {l : PySem.W.OpenLaw} {q : Program} {loose : List Str} {XP : (Str → Option Value) → Heap → Prop} {YP : World → Heap → Prop} {d : DefRec} {K : Params → PySem.W.Frag} {k : Nat} (hn : l.most = some 63) (hdf : d.params.defaults = []) (hr : Room k callerA)
    (hY : ∀ (w : World) (h : Heap), YP w h → (K w.params).In h)
    (F : ∀ (w : World) (mg : Str → Option Value) (fa : Addr) (h : Heap), (K w.params).In h → h.Ns mainGlobals mg → mg d.name = some (.ref fa) →
      ∃ fd : FuncData, (∀ (s : Shared) (u : Value), BindsTo s fd ⟨[u], []⟩ [("_law_script", u)]) ∧ ∀ base : Heap, (K w.params).In base → base.Ns mainGlobals mg → FnOk l.prog w (K w.params) mg base (L2.CX l.prog w) k fa fd ["_law_script"] (toSp (K w.params) (fsP lawP))) :
    PySem.W.WalkO q loose XP YP l.row.toRowW d [] (fun f vs => PySem.call f vs) :=
  L2.walk_of (n := 63) (k := k) (x := "_law_script") (CX := fun w => L2.CX l.prog w) (sp := fun w => toSp (K w.params) (fsP lawP)) hn (by decide) hdf hr hY F (fun w H a ns hl _ hS => law_sp hl hS) fun _ _ _ _ _ z => law_cx z
/-- a def's promise, told by its name -/
theorem fng {P : Program} {w : World} {K : PySem.W.Frag} {mg : Str → Option Value} {base : Heap} {k : Nat} {x : Str} {f : Addr} {fd : FuncData} {ps : List Str} {fs : Fs} (hm : mg x = some (.ref f)) (hk : PySem.W.keepIn K (.ref f) = true) (F : FnOk P w K mg base (L2.CX P w) k f fd ps (toSp K fs)) (b : Binds K fd ps []) :
    FnG P w K mg base k x 0 [] fs := ⟨f, fd, ps, [], [], hm, hk, F, b, .nil, fun _ => .nil⟩
/-- a whole number's text -/
theorem ofString_len (s : String) : (Str.ofString s).length = s.length := by
  first
  | exact PySem.ofString_length s
  | exact Str.ofString_length s
  | exact PySem.Str.ofString_length s
  | (unfold Str.ofString Str.length; simp)
end DL
namespace DL
open PySem L2 PySem.Spec PyProof.Rows
section
variable {M : MS} {Q : QX} {neg : Bool}
theorem rd_len_scr {ns : List Int} : dLen [.scr ns] M Q = Q (.int (ns.length : Nat)) M := by
  show Q (.int ((ns.map D.int).length : Nat)) M = _
  rw [List.length_map]
theorem rd_len_lst {ds : List D} : dLen [.lst ds] M Q = Q (.int (ds.length : Nat)) M := rfl
theorem rd_len_tup {ds : List D} : dLen [.tup ds] M Q = Q (.int (ds.length : Nat)) M := rfl
theorem rd_len_str {z : Str} : dLen [.str z] M Q = (z.length ≤ sizeLine ∧ Q (.int (z.length : Nat)) M) := rfl
theorem rd_len_ref {l : Addr} {ds : List D} (h : M l = some (.lst ds)) : dLen [.ref l] M Q = Q (.int (ds.length : Nat)) M := by
  show (match (match M l with | some (.lst ds) => some ds | _ => none) with | some ds => Q (.int (ds.length : Nat)) M | none => False) = _
  rw [h]
theorem rd_eq_int {a b : Int} : dEq neg (.int a) (.int b) M Q = Q (.bl (if neg then !(a == b) else a == b)) M := rfl
theorem rd_eq_str {a b : Str} : dEq neg (.str a) (.str b) M Q = Q (.bl (if neg then !(a == b) else a == b)) M := rfl
theorem rd_eq_bl {a b : Bool} : dEq neg (.bl a) (.bl b) M Q = Q (.bl (if neg then !(a == b) else a == b)) M := rfl
theorem rd_eq_nn : dEq neg .non .non M Q = Q (.bl (if neg then false else true)) M := by cases neg <;> rfl
theorem rd_eq_ns {a : Str} : dEq neg .non (.str a) M Q = Q (.bl (if neg then true else false)) M := by cases neg <;> rfl
theorem rd_eq_sn {a : Str} : dEq neg (.str a) .non M Q = Q (.bl (if neg then true else false)) M := by cases neg <;> rfl
theorem rd_eq_ni {a : Int} : dEq neg .non (.int a) M Q = Q (.bl (if neg then true else false)) M := by cases neg <;> rfl
theorem rd_eq_in {a : Int} : dEq neg (.int a) .non M Q = Q (.bl (if neg then true else false)) M := by cases neg <;> rfl
theorem rd_eq_nt {a : List D} : dEq neg .non (.tup a) M Q = Q (.bl (if neg then true else false)) M := by cases neg <;> rfl
theorem rd_eq_tn {a : List D} : dEq neg (.tup a) .non M Q = Q (.bl (if neg then true else false)) M := by cases neg <;> rfl
theorem rd_eq_pair {a b c d : Int} : dEq neg (.tup [.int a, .int b]) (.tup [.int c, .int d]) M Q = Q (.bl (if neg then !(a == c && b == d) else (a == c && b == d))) M := by
  show Q (.bl (if neg then !((a == c && (b == d && true)) && true) else ((a == c && (b == d && true)) && true))) M = _
  simp only [Bool.and_true]
/-- any datum, by its equation -/
theorem rd_eq {x y : D} {b : Bool} (h : eqD 8 x y = some b) : dEq neg x y M Q = Q (.bl (if neg then !b else b)) M := by
  unfold dEq
  rw [h]
/-- an own list against the empty one -/
theorem rd_eq_ref0 {l : Addr} {ds : List D} (h : M l = some (.lst ds)) : dEq neg (.ref l) (.lst []) M Q = Q (.bl (if neg then !ds.isEmpty else ds.isEmpty)) M := by
  unfold dEq
  have e : eqD 8 (.ref l) (.lst []) = none := rfl
  rw [e]
  have e1 : sqL M (.ref l) = some ds := by
    show (match M l with | some (.lst ds) => some ds | _ => none) = some ds
    rw [h]
  have e2 : sqL M (.lst []) = some [] := rfl
  rw [e1, e2]
  cases ds <;> rfl
theorem rd_is_non {x : D} : dIs neg x .non M Q = Q (.bl (if neg then !isNon x else isNon x)) M := by cases x <;> rfl
theorem rd_is_bl {a b : Bool} : dIs neg (.bl a) (.bl b) M Q = Q (.bl (if neg then !decide (a = b) else decide (a = b))) M := rfl
theorem rd_str_int {i : Int} : dStr [.int i] M Q = (i.natAbs.log2 < 1920 ∧ Q (.str (toString i)) M) := rfl
theorem rd_int_int {i : Int} : dInt [.int i] M Q = Q (.int i) M := rfl
theorem rd_int_bl {i : Bool} : dInt [.bl i] M Q = Q (.int (if i then 1 else 0)) M := rfl
theorem ix_at {x : D} {ds : List D} {i : Int} {d : D} (hx : sqR M x = some ds) (hs : ∀ z, x ≠ .str z) (h : atI ds i = some d) (q : Q d M) : dIx x (.int i) M Q := by
  unfold dIx
  split
  · rename_i e; cases e
    split
    · exact absurd rfl (hs _)
    · rw [hx]
      dsimp only
      rw [h]
      exact q
  · rename_i e; exact absurd rfl (e _)
theorem atI_nat {α : Type} {xs : List α} {j : Nat} (h : j < xs.length) : atI xs (j : Int) = some xs[j] := by
  unfold atI ixN
  rw [if_pos (by omega), if_pos (by omega)]
  simp [h]
theorem atI_of {α : Type} {xs : List α} {i : Int} {x : α} (h0 : 0 ≤ i) (h : xs[i.toNat]? = some x) : atI xs i = some x := by
  have hl := (List.getElem?_eq_some_iff.mp h).1
  unfold atI ixN
  rw [if_pos h0, if_pos (by omega)]
  exact h
theorem atI_last {α : Type} {xs : List α} {x : α} (h : xs[xs.length - 1]? = some x) : atI xs (-1) = some x := by
  have hl := (List.getElem?_eq_some_iff.mp h).1
  unfold atI ixN
  rw [if_neg (by omega), if_pos (by omega)]
  have e : ((-1 : Int) + (xs.length : Int)).toNat = xs.length - 1 := by omega
  show xs[((-1 : Int) + (xs.length : Int)).toNat]? = some x
  rw [e]
  exact h
theorem ix_lst {ds : List D} {i : Int} {d : D} (h0 : 0 ≤ i) (h : ds[i.toNat]? = some d) (q : Q d M) : dIx (.lst ds) (.int i) M Q := ix_at rfl (fun z e => by cases e) (atI_of h0 h) q
theorem ix_tup {ds : List D} {i : Int} {d : D} (h0 : 0 ≤ i) (h : ds[i.toNat]? = some d) (q : Q d M) : dIx (.tup ds) (.int i) M Q := ix_at rfl (fun z e => by cases e) (atI_of h0 h) q
theorem ix_scr {ns : List Int} {i : Int} {n : Int} (h0 : 0 ≤ i) (h : ns[i.toNat]? = some n) (q : Q (.int n) M) : dIx (.scr ns) (.int i) M Q := ix_at rfl (fun z e => by cases e) (atI_of h0 (by rw [List.getElem?_map, h]; rfl)) q
theorem ix_ref {l : Addr} {ds : List D} {i : Int} {d : D} (hm : M l = some (.lst ds)) (h0 : 0 ≤ i) (h : ds[i.toNat]? = some d) (q : Q d M) : dIx (.ref l) (.int i) M Q :=
  ix_at (by show (match M l with | some (.lst ds) => some ds | _ => none) = some ds; rw [hm]) (fun z e => by cases e) (atI_of h0 h) q
theorem ix_str {z : Str} {i : Int} {c : Nat} (hz : z.length ≤ sizeLine) (h0 : 0 ≤ i) (h : z.cps.toList[i.toNat]? = some c) (q : Q (.str ⟨#[c]⟩) M) : dIx (.str z) (.int i) M Q := by
  show z.length ≤ sizeLine ∧ match atI z.cps.toList i with | some c => Q (.str ⟨#[c]⟩) M | none => False
  rw [atI_of h0 h]
  exact ⟨hz, q⟩
/-- a pair's two parts -/
theorem rd_ix0 {a b : D} : dIx (.tup [a, b]) (.int 0) M Q = Q a M := rfl
theorem rd_ix1 {a b : D} : dIx (.tup [a, b]) (.int 1) M Q = Q b M := rfl
theorem rd_lix0 {a b : D} : dIx (.lst [a, b]) (.int 0) M Q = Q a M := rfl
theorem rd_lix1 {a b : D} : dIx (.lst [a, b]) (.int 1) M Q = Q b M := rfl
theorem rd_list_lst {ds : List D} : dList [.lst ds] M Q = Q (.lst ds) M := rfl
theorem rd_list_tup {ds : List D} : dList [.tup ds] M Q = Q (.lst ds) M := rfl
theorem rd_listM_lst {ds : List D} : dListM [.lst ds] M Q = ∀ l, M l = none → Q (.ref l) (updM M l (.lst ds)) := rfl
theorem rd_tuple_lst {ds : List D} : dTuple [.lst ds] M Q = Q (.tup ds) M := rfl
end
theorem mulOk {i j : Int} {a b : Nat} (ha : i.natAbs < 2 ^ a) (hb : j.natAbs < 2 ^ b) (h0 : 0 < a := by decide) (h1 : 0 < b := by decide) (h : a + b ≤ 1000000 := by decide) : MulOk i j := wide_mul ha hb h0 h1 h
theorem divOk {j : Int} {b : Nat} (h : 0 < j) (hb : j.natAbs < 2 ^ b) (h0 : 0 < b := by decide) (h9 : b ≤ 9000 := by decide) : DivOk j := ⟨h, Nat.lt_of_lt_of_le (PySem.Flt.log2_lt_of h0 hb) h9⟩
theorem log2_lt {i : Int} {n : Nat} (h : i.natAbs < 2 ^ n) (h0 : 0 < n := by decide) : i.natAbs.log2 < n := PySem.Flt.log2_lt_of h0 h
theorem retP_same {q : D → Prop} {x : D} {M : MS} (h : q x) : retP q x M := ⟨x, .same x, h⟩
/-- a list that was own -/
theorem retP_lst {q : D → Prop} {l : Addr} {M : MS} {ds : List D} (hm : M l = some (.lst ds)) (h : q (.lst ds)) : retP q (.ref l) M := ⟨.lst ds, .lst hm (Fzs.refl _ _), h⟩
/-- a loop over data: I holds of what is left, the slots, the own things -/
theorem each_ind {g : PGt} {b : PY} {D0 : De} (I : List D → Ro → MS → Prop) (hnil : ∀ ρ M, I [] ρ M → D0.nx ρ M)
    (hcons : ∀ x xs ρ M, I (x :: xs) ρ M → ∀ nx : Ro → MS → Prop, (∀ ρ' M', I xs ρ' M' → nx ρ' M') → g x ρ M (fun ρ1 M1 => b { D0 with nx := nx, ct := nx, bk := D0.nx } ρ1 M1) D0.ex) :
    ∀ (xs : List D) (ρ : Ro) (M : MS), I xs ρ M → dEach g b xs D0 ρ M
  | [], ρ, M, h => hnil ρ M h
  | x :: xs, ρ, M, h => hcons x xs ρ M h (dEach g b xs D0) fun ρ' M' h' => each_ind I hnil hcons xs ρ' M' h'
/-- a comprehension: I holds of what is left, the list so far, the own things -/
theorem lc_ind {g : PGt} {tt : PXt} {te : PX} {ρ0 : Ro} {k : List D → MS → Prop} (I : List D → List D → MS → Prop) (hnil : ∀ acc M, I [] acc M → k acc M)
    (hcons : ∀ x xs acc M, I (x :: xs) acc M → ∀ nx : List D → MS → Prop, (∀ acc' M', I xs acc' M' → nx acc' M') → g x ρ0 M (fun ρ2 M2 => tt ρ2 M2 (fun b M3 => if b = true then te ρ2 M3 (fun y M4 => acc.length < sizeLine ∧ nx (acc ++ [y]) M4) Ex0 else nx acc M3) Ex0) Ex0) :
    ∀ (xs acc : List D) (M : MS), I xs acc M → dLcGo g tt te ρ0 k xs acc M
  | [], acc, M, h => hnil acc M h
  | x :: xs, acc, M, h => hcons x xs acc M h (dLcGo g tt te ρ0 k xs) fun acc' M' h' => lc_ind I hnil hcons xs acc' M' h'
/-- [f(x) for x in xs], nothing changed -/
theorem lc_map {i : Nat} {te : PX} {ρ0 : Ro} {k : List D → MS → Prop} {M : MS} (f : D → D) : ∀ (xs acc : List D), acc.length + xs.length ≤ 1000000 → (∀ x, x ∈ xs → ∀ Q : QX, Q (f x) M → te (ρ0.set i (some x)) M Q Ex0) → k (acc ++ xs.map f) M → dLcGo (qName i) dYes te ρ0 k xs acc M
  | [], acc, _, _, h => by
    rw [List.map_nil, List.append_nil] at h
    exact h
  | x :: xs, acc, hl, ht, h => by
    show te (ρ0.set i (some x)) M (fun y M4 => acc.length < sizeLine ∧ dLcGo (qName i) dYes te ρ0 k xs (acc ++ [y]) M4) Ex0
    rw [List.length_cons] at hl
    refine ht x List.mem_cons_self _ ⟨by rw [sizeLine_eq]; omega, lc_map f xs (acc ++ [f x]) (by rw [List.length_append, List.length_singleton]; omega) (fun y hy => ht y (List.mem_cons_of_mem _ hy)) ?_⟩
    rw [List.append_assoc, List.singleton_append]
    exact h
/-- [f(x) for x in xs if p(x)], nothing changed -/
theorem lc_filter {i : Nat} {tt : PXt} {te : PX} {ρ0 : Ro} {k : List D → MS → Prop} {M : MS} (p : D → Bool) (f : D → D) : ∀ (xs acc : List D), acc.length + xs.length ≤ 1000000 → (∀ x, x ∈ xs → ∀ Q : Bool → MS → Prop, Q (p x) M → tt (ρ0.set i (some x)) M Q Ex0) →
    (∀ x, x ∈ xs → p x = true → ∀ Q : QX, Q (f x) M → te (ρ0.set i (some x)) M Q Ex0) → k (acc ++ (xs.filter p).map f) M → dLcGo (qName i) tt te ρ0 k xs acc M
  | [], acc, _, _, _, h => by
    rw [List.filter_nil, List.map_nil, List.append_nil] at h
    exact h
  | x :: xs, acc, hl, ht, he, h => by
    show tt (ρ0.set i (some x)) M (fun b M3 => if b = true then te (ρ0.set i (some x)) M3 (fun y M4 => acc.length < sizeLine ∧ dLcGo (qName i) tt te ρ0 k xs (acc ++ [y]) M4) Ex0 else dLcGo (qName i) tt te ρ0 k xs acc M3) Ex0
    rw [List.length_cons] at hl
    refine ht x List.mem_cons_self _ ?_
    cases hp : p x with
    | true =>
      rw [if_pos rfl]
      refine he x List.mem_cons_self hp _ ⟨by rw [sizeLine_eq]; omega, lc_filter p f xs (acc ++ [f x]) (by rw [List.length_append, List.length_singleton]; omega) (fun y hy => ht y (List.mem_cons_of_mem _ hy)) (fun y hy => he y (List.mem_cons_of_mem _ hy)) ?_⟩
      rw [List.filter_cons, if_pos hp, List.map_cons] at h
      rw [List.append_assoc, List.singleton_append]
      exact h
    | false =>
      rw [if_neg Bool.false_ne_true]
      refine lc_filter p f xs acc (by omega) (fun y hy => ht y (List.mem_cons_of_mem _ hy)) (fun y hy => he y (List.mem_cons_of_mem _ hy)) ?_
      rw [List.filter_cons, if_neg (by rw [hp]; exact Bool.false_ne_true)] at h
      exact h
/-- a while by a measure -/
theorem while_ind {c : PXt} {b : PY} {D0 : De} (I : Nat → Ro → MS → Prop) {m : Nat} {ρ : Ro} {M : MS} (h0 : I m ρ M)
    (hs : ∀ m ρ M, I m ρ M → ∀ nx : Ro → MS → Prop, (∀ m' ρ' M', m' < m → I m' ρ' M' → nx ρ' M') → c ρ M (fun k M1 => if k = true then b { D0 with nx := nx, ct := nx, bk := D0.nx } ρ M1 else D0.nx ρ M1) D0.ex) : dWhile c b D0 ρ M :=
  ⟨I, ⟨m, h0⟩, fun m ρ M h => hs m ρ M h (fun ρ' M' => ∃ m', m' < m ∧ I m' ρ' M') fun m' ρ' M' hm h' => ⟨m', hm, h'⟩⟩
end DL
namespace DL
open PySem L2 PySem.Spec PyProof.Rows
/-- a + b of lists, the sum an own one -/
def dAddM : D → D → MS → QX → Prop := fun x y M Q => match sqL M x, sqL M y with
    | some a, some b => a.length + b.length ≤ sizeLine ∧ ∀ l, M l = none → Q (.ref l) (updM M l (.lst (a ++ b)))
    | _, _ => False
section
variable {X : Cx}
theorem s_addM : RSnd X.K (rOr (rI0 fun i j => .int (i + j)) (rOr rAddStr rCat)) dAddM := by
  intro w x y dx dy R Q rx ry hR h
  unfold dAddM at h
  split at h
  · rename_i a b ha hb
    obtain ⟨l, xs, rfl, hl, rl⟩ := sqL_ok rx ha
    obtain ⟨l', ys, rfl, hl', rl'⟩ := sqL_ok ry hb
    refine .inr (.inr ⟨l, l', xs, ys, rfl, rfl, hl, hl', by rw [rl.length, rl'.length]; exact h.1, fun p hp => ?_⟩)
    exact hR _ _ (w.newM p (.lst (xs ++ ys)) (.lst (a ++ b)) hp (rl.append rl')) (h.2 p (w.m_none hp)) (w.newM_stp p (.lst (xs ++ ys)) (.lst (a ++ b)) hp (rl.append rl')) (.ref _)
  · exact h.elim
end
/-- a statement, then others: what holds in between is told -/
def dMid (p u : PY) : PY := fun D ρ M => ∃ I : Ro → MS → Prop, p { D with nx := I } ρ M ∧ ∀ ρ' M', I ρ' M' → u D ρ' M'
theorem dss_mid {X : Cx} {E : XK} {st : Stmt} {rest : List Stmt} {p u : PY} (h1 : DS X E st p) (h2 : DSs X E rest u) : DSs X E (st :: rest) (dMid p u) := by
  obtain ⟨t, h1, s1⟩ := h1
  obtain ⟨t2, h2, s2⟩ := h2
  refine ⟨_, pss_cons h1 h2, fun w σ ρ Dh D hS hD h => ?_⟩
  obtain ⟨I, h, hI⟩ := h
  refine s1 w σ ρ _ { D with nx := I } hS ⟨fun σ' ρ' w' q s' hS' => ?_, hD.rt, hD.bk, hD.ct, hD.ex⟩ h
  exact s2 w' σ' ρ' Dh D hS' (hD.step s') (hI _ _ q)
/-- an if: what its test comes to is told -/
def dIfE (c : PXt) (p u : PY) : PY := fun D ρ M => ∃ T : Bool → MS → Prop, c ρ M T D.ex ∧ ∀ b M1, T b M1 → if b = true then p D ρ M1 else u D ρ M1
theorem ds_ifE {X : Cx} {E : XK} {pos : Pos} {p u : PY} {c : Expr} {A B : List Stmt} {pc : PXt} (hc : DT X E c pc) (ha : DSs X E A p) (hb : DSs X E B u) : DS X E (.If c A B pos) (dIfE pc p u) := by
  obtain ⟨t, hc, sc⟩ := hc
  obtain ⟨t1, h1, s1⟩ := ha
  obtain ⟨t2, h2, s2⟩ := hb
  refine ⟨_, ps_if hc h1 h2, fun w σ ρ Dh D hS hD h => ?_⟩
  obtain ⟨T, h, hT⟩ := h
  refine sc w σ ρ _ T D.ex hS hD.ex (fun b w1 q1 st1 => ?_) h
  have q2 := hT b w1.M q1
  cases b with
  | true => exact s1 w1 σ ρ Dh D (hS.mono st1.gg) (hD.step st1) q2
  | false => exact s2 w1 σ ρ Dh D (hS.mono st1.gg) (hD.step st1) q2
/-- a test that changes nothing, known ahead -/
abbrev isT (b : Bool) (M : MS) : Bool → MS → Prop := fun c M' => c = b ∧ M' = M
theorem ifE_of {c : PXt} {p u : PY} {D : De} {ρ : Ro} {M : MS} (b : Bool) (hc : c ρ M (isT b M) D.ex) (h : if b = true then p D ρ M else u D ρ M) : dIfE c p u D ρ M :=
  ⟨isT b M, hc, fun _ _ ⟨e1, e2⟩ => by rw [e1, e2]; exact h⟩
theorem subM_refl (M : MS) : subM M M := fun _ _ h => h
theorem joinM_self {M M' : MS} (h : ∀ a mo, M a = some mo → M' a ≠ none) : joinM M M M' = M' := by
  funext a
  unfold joinM
  cases e : M' a with
  | some _ => rfl
  | none =>
    cases e2 : M a with
    | none => rfl
    | some mo => exact absurd e (h a mo e2)
theorem subM0 (M : MS) : subM M0 M := fun a mo z => by cases z
theorem sub_upd {M : MS} {l : Addr} {o : MO} (h : M l = none) : subM M (updM M l o) := fun a mo e => by
  rw [updM_ne (fun z => by subst z; rw [h] at e; cases e)]
  exact e
theorem joinM_ext {M M' : MS} (h : subM M M') : joinM M M M' = M' := joinM_self fun a mo e => by rw [h a mo e]; exact fun z => by cases z
theorem sub_trans {A B C : MS} (h : subM A B) (k : subM B C) : subM A C := fun a mo e => k a mo (h a mo e)
/-- o.m() where m changes nothing -/
theorem mthV_pure {P : Program} {w : World} {K : PySem.W.Frag} {mg : Str → Option Value} {base : Heap} {k : Nat} {m : Str} {po : PX} {pp : PXa} {ρ : Ro} {M : MS} {Q : QX} {Ex : EX} {C : Addr} {ns : List Str} {x : D} {ds as dds : List D} {Pp : Ps}
    (ho : ∀ (Q' : QX) Ex', Q' x M → po ρ M Q' Ex') (hp : ∀ (Q' : List D → MS → Prop) Ex', Q' as M → pp ρ M Q' Ex') (hi : insOf M x = some (C, ns, ds)) (hl : lkD m ns ds = none) (hc : Cls K C) (G : MtG P w K mg base k C m dds (fsP Pp))
    (h : Pp (x :: (as ++ dds)) (fun z => Q z M) (fun c => Ex c M)) : dMthV P w K mg base k m po pp ρ M Q Ex := by
  refine ho _ _ ?_
  rw [hi]
  exact ⟨dds, fsP Pp, ⟨hl, hc, G⟩, hp _ _ ⟨M0, subM0 M, rfl, h⟩⟩
/-! ### sizes -/
theorem b_le {a : Int} {m n : Nat} (h : a.natAbs < 2 ^ m) (l : m ≤ n := by decide) : a.natAbs < 2 ^ n := Nat.lt_of_lt_of_le h (Nat.pow_le_pow_right (by decide) l)
theorem b_mul {a b : Int} {m n : Nat} (ha : a.natAbs < 2 ^ m) (hb : b.natAbs < 2 ^ n) : (a * b).natAbs < 2 ^ (m + n) := by
  rw [Int.natAbs_mul, Nat.pow_add]
  exact Nat.mul_lt_mul_of_lt_of_lt ha hb
theorem b_add {a b : Int} {m : Nat} (ha : a.natAbs < 2 ^ m) (hb : b.natAbs < 2 ^ m) : (a + b).natAbs < 2 ^ (m + 1) := by
  rw [Nat.pow_succ]
  omega
theorem b_sub {a b : Int} {m : Nat} (ha : a.natAbs < 2 ^ m) (hb : b.natAbs < 2 ^ m) : (a - b).natAbs < 2 ^ (m + 1) := by
  rw [Nat.pow_succ]
  omega
theorem b_div {a b : Int} {m : Nat} (ha : a.natAbs < 2 ^ m) : (a / b).natAbs < 2 ^ m := Nat.lt_of_le_of_lt (Int.natAbs_ediv_le_natAbs a b) ha
theorem b_mod {a p : Int} {m : Nat} (h0 : 0 < p) (hp : p.natAbs < 2 ^ m) : (a % p).natAbs < 2 ^ m := by
  have h1 := Int.emod_nonneg a (Int.ne_of_gt h0)
  have h2 := Int.emod_lt_of_pos a h0
  omega
theorem b_pow {a : Int} {m : Nat} (h : a.natAbs < 2 ^ m) : ∀ n : Nat, 0 < n → (a ^ n).natAbs < 2 ^ (m * n)
  | 1, _ => by simpa using h
  | n + 2, _ => by
    rw [Int.pow_succ, Nat.mul_succ]
    exact b_mul (b_pow h (n + 1) (Nat.succ_pos n)) h
theorem b_nat {k n : Nat} (h : k < 2 ^ n) : ((k : Nat) : Int).natAbs < 2 ^ n := by rw [Int.natAbs_natCast]; exact h
theorem b_lt {i : Int} {m k : Nat} (h0 : 0 ≤ i) (h : i < (m : Int)) (hm : m ≤ 2 ^ k) : i.natAbs < 2 ^ k := by omega
theorem add_int {i j : Int} {M : MS} {Q : QX} (h : Q (.int (i + j)) M) : dAdd (.int i) (.int j) M Q := h
theorem ix_scr' {ns : List Int} {i : Int} {M : MS} {Q : QX} (h0 : 0 ≤ i) (h : i < (ns.length : Int)) (q : Q (.int (ns.getD i.toNat 0)) M) : dIx (.scr ns) (.int i) M Q := by
  have hl : i.toNat < ns.length := by omega
  refine ix_scr h0 (n := ns[i.toNat]) (List.getElem?_eq_getElem hl) ?_
  rw [List.getD_eq_getElem?_getD, List.getElem?_eq_getElem hl] at q
  exact q
/-- [.. for x in xs]: each thing told has the property -/
theorem lc_each {i : Nat} {te : PX} {ρ0 : Ro} {k : List D → MS → Prop} {M : MS} (Pp : D → Prop) : ∀ (xs acc : List D), acc.length + xs.length ≤ 1000000 → (∀ x, x ∈ xs → ∀ Q : QX, (∀ y, Pp y → Q y M) → te (ρ0.set i (some x)) M Q Ex0) →
    (∀ ys : List D, ys.length = xs.length → (∀ y, y ∈ ys → Pp y) → k (acc ++ ys) M) → dLcGo (qName i) dYes te ρ0 k xs acc M
  | [], acc, _, _, h => by
    have := h [] rfl (fun _ z => by cases z)
    rw [List.append_nil] at this
    exact this
  | x :: xs, acc, hl, ht, h => by
    show te (ρ0.set i (some x)) M (fun y M4 => acc.length < sizeLine ∧ dLcGo (qName i) dYes te ρ0 k xs (acc ++ [y]) M4) Ex0
    rw [List.length_cons] at hl
    refine ht x List.mem_cons_self _ (fun y hy => ⟨by rw [sizeLine_eq]; omega, lc_each Pp xs (acc ++ [y]) (by rw [List.length_append, List.length_singleton]; omega) (fun z hz => ht z (List.mem_cons_of_mem _ hz)) fun ys hys hp => ?_⟩)
    rw [List.append_assoc, List.singleton_append]
    refine h (y :: ys) (by rw [List.length_cons, List.length_cons, hys]) fun z hz => ?_
    rcases List.mem_cons.mp hz with e | e
    · subst e; exact hy
    · exact hp z e
theorem ix_strE {z : Str} {i : Int} {M : MS} {Q : QX} (hz : z.length ≤ sizeLine) (h0 : 0 ≤ i) (h1 : i < (z.length : Int)) (q : ∀ c, Q (.str ⟨#[c]⟩) M) : dIx (.str z) (.int i) M Q := by
  have hl : i.toNat < z.cps.toList.length := by
    have : z.cps.toList.length = z.length := Array.length_toList
    omega
  exact ix_str hz h0 (List.getElem?_eq_getElem hl) (q _)
theorem strRep_len (z : Str) (n : Nat) : (strRep z n).length = n * z.length := by
  show ((List.replicate n z.cps.toList).flatten).toArray.size = n * z.length
  have e3 : ∀ (k : Nat) (l : List Nat), ((List.replicate k l).flatten).length = k * l.length := fun k l => by
    induction k with
    | zero => simp
    | succ k ih => rw [List.replicate_succ, List.flatten_cons, List.length_append, ih, Nat.succ_mul, Nat.add_comm]
  rw [List.size_toArray, e3, Array.length_toList]
  all_goals rfl
theorem cutS_len (z : Str) (lo hi : Option Int) : (cutS z lo hi).length ≤ z.length := by
  show (List.toArray _).size ≤ _
  rw [List.size_toArray, List.length_take, List.length_drop, Array.length_toList]
  show _ ≤ z.cps.size
  omega
theorem cutS_two (z : Str) (k : Nat) : (cutS z none (some (k : Int))).length + (cutS z (some (k : Int)) none).length = z.length := by
  show (List.toArray _).size + (List.toArray _).size = _
  rw [List.size_toArray, List.size_toArray, List.length_take, List.length_take, List.length_drop, List.length_drop, Array.length_toList, HT.sIx_none, HT.sIx_none, HT.sIx_nat, HT.sIx_nat]
  have : z.length = z.cps.size := rfl
  omega
theorem join_le (sep : Str) (ys : List Str) : (Txt.join sep ys).length ≤ (ys.map (·.length)).sum + ys.length * sep.length := by
  show (Builtin.Str.glued sep ys).length ≤ _
  rw [StrLaws.glued_eq_join]
  exact StrLaws.join_length_le sep ys
theorem sum_le {α : Type} (f : α → Nat) (b : Nat) : ∀ ys : List α, (∀ y, y ∈ ys → f y ≤ b) → (ys.map f).sum ≤ ys.length * b
  | [], _ => by simp
  | y :: ys, h => by
    rw [List.map_cons, List.sum_cons, List.length_cons, Nat.succ_mul]
    have := h y List.mem_cons_self
    have := sum_le f b ys fun z hz => h z (List.mem_cons_of_mem _ hz)
    omega
theorem intText_len {i : Int} {k : Nat} (h0 : 0 < k) (h : i.natAbs.log2 < k) : (Str.ofString (toString i)).length ≤ k + 1 := by
  rw [ofString_len]
  exact int_text_length_le h0 h
theorem strs_of {Pp : Str → Prop} : ∀ {ds : List D}, (∀ d, d ∈ ds → ∃ z, d = .str z ∧ Pp z) → ∃ l : List Str, ds = l.map D.str ∧ l.length = ds.length ∧ ∀ z, z ∈ l → Pp z
  | [], _ => ⟨[], rfl, rfl, fun _ z => by cases z⟩
  | d :: ds, h => by
    obtain ⟨z, rfl, hz⟩ := h d List.mem_cons_self
    obtain ⟨l, rfl, hl, hp⟩ := strs_of (Pp := Pp) (ds := ds) fun e he => h e (List.mem_cons_of_mem _ he)
    refine ⟨z :: l, rfl, by rw [List.length_cons, List.length_cons, hl], fun y hy => ?_⟩
    rcases List.mem_cons.mp hy with e | e
    · subst e; exact hz
    · exact hp y e
theorem lst_eqm {xs ys : List D} {Q : QX} {M : MS} (e : xs = ys) (h : Q (.lst ys) M) : Q (.lst xs) M := by rw [e]; exact h
theorem setL_of {M : MS} {l : Addr} {ds : List D} {i : Int} {v : D} {Q : MS → Prop} (h : M l = some (.lst ds)) (h0 : 0 ≤ i) (h1 : i < (ds.length : Int)) (q : Q (updM M l (.lst (ds.set i.toNat v)))) : sSetL (.ref l) (.int i) v M Q := by
  unfold sSetL
  have e : ownL M (.ref l) = some (l, ds) := by
    show (match M l with | some (.lst ds) => some (l, ds) | _ => none) = _
    rw [h]
  rw [e]
  have e2 : ixN ds.length i = some i.toNat := by
    unfold ixN
    rw [if_pos h0, if_pos h1]
  show (match ixN ds.length i with | some j => Q (updM M l (.lst (ds.set j v))) | none => False)
  rw [e2]
  exact q
theorem append_of {M : MS} {l : Addr} {ds : List D} {y : D} {Q : QX} (h : M l = some (.lst ds)) (hl : ds.length < 1000000) (q : Q .non (updM M l (.lst (ds ++ [y])))) : mAppend (.ref l) [y] M Q := by
  unfold mAppend
  have e : ownL M (.ref l) = some (l, ds) := by
    show (match M l with | some (.lst ds) => some (l, ds) | _ => none) = _
    rw [h]
  rw [e]
  exact ⟨by rw [sizeLine_eq]; omega, q⟩
theorem extend_of {M : MS} {l : Addr} {ds es : List D} {y : D} {Q : QX} (h : M l = some (.lst ds)) (he : sqL M y = some es) (hl : ds.length + es.length < 1000000) (q : Q .non (updM M l (.lst (ds ++ es)))) : mExtend (.ref l) [y] M Q := by
  unfold mExtend
  have e : ownL M (.ref l) = some (l, ds) := by
    show (match M l with | some (.lst ds) => some (l, ds) | _ => none) = _
    rw [h]
  rw [e]
  show (match sqL M y with | some es => ds.length + es.length ≤ sizeLine ∧ Q .non (updM M l (.lst (ds ++ es))) | none => False)
  rw [he]
  exact ⟨by rw [sizeLine_eq]; omega, q⟩
theorem reverse_of {M : MS} {l : Addr} {ds : List D} {Q : QX} (h : M l = some (.lst ds)) (q : Q .non (updM M l (.lst ds.reverse))) : mReverse (.ref l) [] M Q := by
  unfold mReverse
  have e : ownL M (.ref l) = some (l, ds) := by
    show (match M l with | some (.lst ds) => some (l, ds) | _ => none) = _
    rw [h]
  rw [e]
  exact q
theorem sqL_ref {M : MS} {l : Addr} {ds : List D} (h : M l = some (.lst ds)) : sqL M (.ref l) = some ds := by
  show (match M l with | some (.lst ds) => some ds | _ => none) = some ds
  rw [h]
theorem isL_ref {M : MS} {l : Addr} {ds : List D} (h : M l = some (.lst ds)) : isL M (.ref l) := by
  show (sqN M (.ref l)).isSome = true
  have : sqN M (.ref l) = some ds := sqL_ref h
  rw [this]
  rfl
theorem insR {M : MS} {l C : Addr} {ns : List Str} {ds : List D} (h : M l = some (.ins C ns ds)) : insOf M (.ref l) = some (C, ns, ds) := by
  show (match M l with | some (.ins C ns ds) => some (C, ns, ds) | _ => none) = _
  rw [h]
theorem fld_V {K : PySem.W.Frag} {i : Nat} {f : Str} {ρ : Ro} {M : MS} {Q : QX} {Ex : EX} {x d : D} {C : Addr} {ns : List Str} {ds : List D} (hρ : ρ[i]? = some (some x)) (hi : insOf M x = some (C, ns, ds)) (hl : lkD f ns ds = some d) (c : Cls K C) (n : NoAttr K C f) (q : Q d M) : dFld K f (dV i) ρ M Q Ex := by
  unfold dFld dV
  rw [hρ]
  show (match insOf M x with | some (C, ns, ds) => (Cls K C ∧ NoAttr K C f) ∧ (match lkD f ns ds with | some d => Q d M | none => False) | none => False)
  rw [hi]
  refine ⟨⟨c, n⟩, ?_⟩
  rw [hl]
  exact q
theorem mth_V {P : Program} {w : World} {K : PySem.W.Frag} {mg : Str → Option Value} {base : Heap} {k i : Nat} {m : Str} {ρ : Ro} {M : MS} {Q : QX} {Ex : EX} {C : Addr} {ns : List Str} {x : D} {ds : List D} {Pp : Ps}
    (hρ : ρ[i]? = some (some x)) (hi : insOf M x = some (C, ns, ds)) (hl : lkD m ns ds = none) (hc : Cls K C) (G : MtG P w K mg base k C m [] (fsP Pp))
    (h : Pp [x] (fun z => Q z M) (fun c => Ex c M)) : dMthV P w K mg base k m (dV i) dNil ρ M Q Ex :=
  mthV_pure (x := x) (as := []) (dds := []) (fun Q' Ex' q => by unfold dV; rw [hρ]; exact q) (fun Q' Ex' q => q) hi hl hc G h
theorem mth_VF {P : Program} {w : World} {K : PySem.W.Frag} {mg : Str → Option Value} {base : Heap} {k i : Nat} {m : Str} {ρ : Ro} {M : MS} {Q : QX} {Ex : EX} {C : Addr} {ns : List Str} {x : D} {ds : List D} {fs : Fs}
    (hρ : ρ[i]? = some (some x)) (hi : insOf M x = some (C, ns, ds)) (hl : lkD m ns ds = none) (hc : Cls K C) (G : MtG P w K mg base k C m [] fs)
    (h : fs [x] M (fun z M' => Q z (joinM M M M')) (fun c M' => Ex c (joinM M M M'))) : dMthV P w K mg base k m (dV i) dNil ρ M Q Ex := by
  unfold dMthV dV
  rw [hρ]
  show (match insOf M x with | some (C, ns, ds) => _ | none => False)
  rw [hi]
  exact ⟨[], fs, ⟨hl, hc, G⟩, M, subM_refl M, h⟩
theorem setF_ref {K : PySem.W.Frag} {f : Str} {pv : PX} {i : Nat} {D0 : De} {ρ : Ro} {M : MS} {l C : Addr} {ns : List Str} {ds : List D} {y : D} (hv : ∀ (Q' : QX), Q' y M → pv ρ M Q' D0.ex) (hρ : ρ[i]? = some (some (.ref l))) (hi : M l = some (.ins C ns ds)) (c : Cls K C) (n : NoAttr K C f) (hn : ns.length < 1000)
    (q : D0.nx ρ (updM M l (.ins C (putN f ns) (putD f y ns ds)))) : dSetF K f (dV i) pv D0 ρ M := by
  unfold dSetF
  refine hv _ ?_
  unfold dV
  rw [hρ]
  show (match ownI M (.ref l) with | some (l, C, ns, ds) => (Cls K C ∧ NoAttr K C f ∧ ns.length < 1000) ∧ D0.nx ρ (updM M l (.ins C (putN f ns) (putD f y ns ds))) | none => False)
  have e : ownI M (.ref l) = some (l, C, ns, ds) := by
    show (match M l with | some (.ins C ns ds) => some (l, C, ns, ds) | _ => none) = _
    rw [hi]
  rw [e]
  exact ⟨⟨c, n, hn⟩, q⟩
theorem app_nil (z : Str) : z ++ Str.ofString "" = z := by
  show (⟨z.cps ++ #[]⟩ : Str) = z
  rw [Array.append_empty]
theorem nil_app (z : Str) : Str.ofString "" ++ z = z := by
  show (⟨#[] ++ z.cps⟩ : Str) = z
  rw [Array.empty_append]
section
variable {X : Cx} {E : XK} {o e value : Expr} {es : List Expr} {f m : Str} {pos pos' apos : Pos} {po pa pv : PX} {pp : PXa} {P : Program} {w : World} {K : PySem.W.Frag} {mg : Str → Option Value} {base : Heap}
theorem d_fldK (he : DE X E e pa) (hK : X.K = K := by rfl) (hb : attributeBase e f X.env (eval e X.env) = eval e X.env := by rfl) : DE X E (.Attribute e f pos) (dFld K f pa) := by
  subst hK
  exact d_fld he hb
theorem ds_setFK (ho : DE X E o po) (hv : DE X E value pv) (hK : X.K = K := by rfl) (hs : swapsWith value (some (.Attribute o f pos')) pos.line X.env = pure false := by rfl) : DS X E (.Assign [.Attribute o f pos'] value pos) (dSetF K f po pv) := by
  subst hK
  exact ds_setF ho hv hs
theorem d_mthVK {pl : Sem Bool} {k : Nat} (ho : DE X E o po) (hr : Room k X.A) (hx : Passes (L2.CX X.prog X.w) X E) (ha : DA X E (e :: es) pp) (hP : X.prog = P := by rfl) (hw : X.w = w := by rfl) (hK : X.K = K := by rfl) (hm : X.mg = mg := by rfl) (hb : X.base = base := by rfl)
    (hst : starEach (e :: es) X.env = (false, eval e X.env) :: starEach es X.env := by rfl) (hpl : (backTo pos (starEach es X.env)).any (·.1) = false := by rfl)
    (ht : eval (.Call (.Attribute o m apos) (e :: es) [] pos) X.env = (do
      let ov ← eval o X.env
      standAt apos.atName
      let (f, first) ← holding [ov] (getMethod ov m pl)
      callWith pos f first (backTo pos (starEach (e :: es) X.env)) (backToKw pos (keywordEach [] X.env))) := by rfl) :
    DE X E (.Call (.Attribute o m apos) (e :: es) [] pos) (dMthV P w K mg base k m po pp) := by
  subst hP hw hK hm hb
  exact d_mthV ho hr hx ha hst hpl ht
theorem d_mthV0K {pl : Sem Bool} {k : Nat} (ho : DE X E o po) (hr : Room k X.A) (hx : Passes (L2.CX X.prog X.w) X E) (hP : X.prog = P := by rfl) (hw : X.w = w := by rfl) (hK : X.K = K := by rfl) (hm : X.mg = mg := by rfl) (hb : X.base = base := by rfl)
    (ht : eval (.Call (.Attribute o m apos) [] [] pos) X.env = (do
      let ov ← eval o X.env
      standAt apos.atName
      let (f, first) ← holding [ov] (getMethod ov m pl)
      callWith pos f first (backTo pos (starEach [] X.env)) (backToKw pos (keywordEach [] X.env))) := by rfl) :
    DE X E (.Call (.Attribute o m apos) [] [] pos) (dMthV P w K mg base k m po dNil) := by
  subst hP hw hK hm hb
  exact d_mthV0 ho hr hx ht
end
/-- [f(x) for x in xs], xs and what is told by things of one kind -/
theorem lc_mapG {α : Type} {i : Nat} {te : PX} {ρ0 : Ro} {k : List D → MS → Prop} {M : MS} (g f : α → D) : ∀ (ts : List α) (acc : List D), acc.length + ts.length ≤ 1000000 → (∀ t, t ∈ ts → ∀ Q : QX, Q (f t) M → te (ρ0.set i (some (g t))) M Q Ex0) → k (acc ++ ts.map f) M → dLcGo (qName i) dYes te ρ0 k (ts.map g) acc M
  | [], acc, _, _, h => by
    rw [List.map_nil, List.append_nil] at h
    exact h
  | x :: xs, acc, hl, ht, h => by
    show te (ρ0.set i (some (g x))) M (fun y M4 => acc.length < sizeLine ∧ dLcGo (qName i) dYes te ρ0 k (xs.map g) (acc ++ [y]) M4) Ex0
    rw [List.length_cons] at hl
    refine ht x List.mem_cons_self _ ⟨by rw [sizeLine_eq]; omega, lc_mapG g f xs (acc ++ [f x]) (by rw [List.length_append, List.length_singleton]; omega) (fun y hy => ht y (List.mem_cons_of_mem _ hy)) ?_⟩
    rw [List.append_assoc, List.singleton_append]
    exact h
theorem join_of {a : Str} {y : D} {zs : List Str} {M : MS} {Q : QX} (h : sqR M y = some (zs.map D.str)) (hb : (zs.map (·.length)).sum + zs.length * a.length ≤ 16777216) (q : Q (.str (Txt.join a zs)) M) : mJoin (.str a) [y] M Q := by
  show (match (sqR M y).bind strsOf with | some ys => (ys.map (·.length)).sum + ys.length * a.length ≤ 16777216 ∧ Q (.str (Txt.join a ys)) M | none => False)
  rw [h]
  show (match strsOf (zs.map D.str) with | some ys => (ys.map (·.length)).sum + ys.length * a.length ≤ 16777216 ∧ Q (.str (Txt.join a ys)) M | none => False)
  rw [strsOf_map]
  exact ⟨hb, q⟩
theorem ite_t {c : Prop} {d : Decidable c} {A B : Prop} (hc : c) (h : A) : @ite Prop c d A B := by rw [if_pos hc]; exact h
theorem ite_f {c : Prop} {d : Decidable c} {A B : Prop} (hc : ¬ c) (h : B) : @ite Prop c d A B := by rw [if_neg hc]; exact h
theorem joinM_top {M Mc M' : MS} (h : ∀ a, M' a = none → M a = none) : joinM M Mc M' = M' := by
  funext a
  unfold joinM
  cases e : M' a with
  | some _ => rfl
  | none =>
    cases e2 : Mc a with
    | some _ => rfl
    | none => exact h a e
theorem upd_top {M : MS} {x : Addr} {o : MO} : ∀ a, updM M x o a = none → M a = none := fun a e => by
  by_cases h : a = x
  · subst h; rw [updM_same] at e; cases e
  · rw [updM_ne h] at e; exact e
theorem upd2_top {M : MS} {x : Addr} {o u : MO} : ∀ a, updM (updM M x o) x u a = none → M a = none := fun a e => upd_top a (upd_top a e)
theorem make_of {C : Addr} {fs : Fs} {dds : List D} {pp : PXa} {ρ : Ro} {M : MS} {Q : QX} {Ex : EX} {ds : List D} (hp : ∀ (Q' : List D → MS → Prop) Ex', Q' ds M → pp ρ M Q' Ex')
    (h : ∀ x, M x = none → fs (.ref x :: (ds ++ dds)) (updM M x (.ins C [] [])) (fun v M' => v = .non ∧ Q (.ref x) (joinM M (updM M x (.ins C [] [])) M')) (fun c M' => Ex c (joinM M (updM M x (.ins C [] [])) M'))) : dMake C fs dds pp ρ M Q Ex :=
  hp _ _ ⟨M, subM_refl M, h⟩
theorem call_of {fs : Fs} {dds : List D} {pp : PXa} {ρ : Ro} {M : MS} {Q : QX} {Ex : EX} {ds : List D} (hp : ∀ (Q' : List D → MS → Prop) Ex', Q' ds M → pp ρ M Q' Ex')
    (h : fs (ds ++ dds) M (fun v M' => Q v (joinM M M M')) (fun c M' => Ex c (joinM M M M'))) : dCall fs dds pp ρ M Q Ex :=
  hp _ _ ⟨M, subM_refl M, h⟩
theorem less_new {M : MS} {x : Addr} {o : MO} (h : M x = none) : lessM (updM M x o) M x = some o := by
  unfold lessM
  rw [h]
  exact updM_same
theorem ret_obj {q : QX} {M : MS} {x C : Addr} {ns : List Str} {ds : List D} (hx : M x = none) (h : q (.obj C ns ds) M) : retD q (.ref x) (updM M x (.ins C ns ds)) :=
  ⟨M, .obj C ns ds, sub_upd hx, .obj (less_new hx) (Fzs.refl _ _), h⟩
theorem retD_same {q : QX} {M M' : MS} {x : D} (hs : subM M M') (h : q x M) : retD q x M' := ⟨M, x, hs, .same _, h⟩
theorem joinM_refl (M : MS) : joinM M M M = M := joinM_ext (subM_refl M)
theorem eqAll_strs {n : Nat} : ∀ (xs ys : List Str), xs.length = ys.length → eqAll (eqD n) (xs.map D.str) (ys.map D.str) = some (decide (xs = ys))
  | [], [], _ => rfl
  | [], _ :: _, h => by cases h
  | _ :: _, [], h => by cases h
  | x :: xs, y :: ys, h => by
    have ih := eqAll_strs (n := n) xs ys (by simpa using h)
    have e : eqD n (.str x) (.str y) = some (x == y) := by cases n <;> rfl
    show (match eqD n (.str x) (.str y), eqAll (eqD n) (xs.map D.str) (ys.map D.str) with | some p, some q => some (p && q) | _, _ => none) = _
    rw [ih, e]
    show some (x == y && decide (xs = ys)) = _
    congr 1
    by_cases h1 : x = y <;> by_cases h2 : xs = ys <;> simp [h1, h2]
theorem eq_strs {n : Nat} (xs ys : List Str) : eqD (n + 1) (.lst (xs.map D.str)) (.lst (ys.map D.str)) = some (decide (xs = ys)) := by
  show (if (xs.map D.str).length = (ys.map D.str).length then eqAll (eqD n) (xs.map D.str) (ys.map D.str) else some false) = _
  rw [List.length_map, List.length_map]
  by_cases h : xs.length = ys.length
  · rw [if_pos h, eqAll_strs xs ys h]
  · rw [if_neg h]
    congr 1
    symm
    exact decide_eq_false fun e => h (by rw [e])
/-- two lists of texts compared, each own or for good -/
theorem dEq_strs {neg : Bool} {x y : D} {xs ys : List Str} {M : MS} {Q : QX} (hx : sqL M x = some (xs.map D.str)) (hy : sqL M y = some (ys.map D.str)) (q : Q (.bl (if neg then !decide (xs = ys) else decide (xs = ys))) M) : dEq neg x y M Q := by
  have key : ∀ b, eqD 8 (.lst (xs.map D.str)) (.lst (ys.map D.str)) = some b → b = decide (xs = ys) := fun b h => by
    rw [eq_strs (n := 7)] at h
    exact (Option.some.inj h).symm
  have fin : (match sqL M x, sqL M y with
    | some [], some ys => Q (.bl (if neg then !ys.isEmpty else ys.isEmpty)) M
    | some xs, some [] => Q (.bl (if neg then !xs.isEmpty else xs.isEmpty)) M
    | some xs, some ys => match eqD 8 (.lst xs) (.lst ys) with
      | some b => Q (.bl (if neg then !b else b)) M
      | none => False
    | _, _ => False) := by
    rw [hx, hy]
    cases xs with
    | nil =>
      cases ys with
      | nil => exact q
      | cons y ys => exact q
    | cons x xs =>
      cases ys with
      | nil => exact q
      | cons y ys =>
        show (match eqD 8 (.lst ((x :: xs).map D.str)) (.lst ((y :: ys).map D.str)) with | some b => Q (.bl (if neg then !b else b)) M | none => False)
        rw [eq_strs (n := 7)]
        exact q
  unfold dEq
  split
  · rename_i b hb
    cases x with
    | lst a =>
      cases y with
      | lst c =>
        have e1 : a = xs.map D.str := Option.some.inj hx
        have e2 : c = ys.map D.str := Option.some.inj hy
        subst e1 e2
        rw [key b hb]
        exact q
      | _ => first | (cases hy; done) | (cases hb; done)
    | _ => first | (cases hx; done) | (cases y <;> first | (cases hb; done) | (cases hy; done))
  · exact fin
theorem sqL_upd {M : MS} {x : Addr} {o : MO} {kd : D} {kds : List D} (h : sqL M kd = some kds) (hx : ∀ ds, M x ≠ some (.lst ds)) : sqL (updM M x o) kd = some kds := by
  cases kd with
  | ref l =>
    have h' : (match M l with | some (.lst ds) => some ds | _ => none) = some kds := h
    show (match updM M x o l with | some (.lst ds) => some ds | _ => none) = some kds
    by_cases e : l = x
    · subst e
      cases q : M l with
      | none => rw [q] at h'; cases h'
      | some mo =>
        rw [q] at h'
        cases mo <;> first | (cases h'; done) | exact absurd q (hx _)
    · rw [updM_ne e]; exact h'
  | lst _ => exact h
  | _ => cases h
theorem sqR_ofL {M : MS} {kd : D} {kds : List D} (h : sqL M kd = some kds) : sqR M kd = some kds := by
  cases kd <;> first | exact h | (cases h; done)
theorem listM_of {M : MS} {x : D} {ds : List D} {Q : QX} (h : sqR M x = some ds) (q : ∀ l, M l = none → Q (.ref l) (updM M l (.lst ds))) : dListM [x] M Q := by
  show (match sqR M x with | some ds => ∀ l, M l = none → Q (.ref l) (updM M l (.lst ds)) | none => False)
  rw [h]
  exact q
theorem list_of {M : MS} {x : D} {ds : List D} {Q : QX} (h : sqR M x = some ds) (q : Q (.lst ds) M) : dList [x] M Q := by
  show (match sqR M x with | some ds => Q (.lst ds) M | none => False)
  rw [h]
  exact q
theorem isi_of {K : PySem.W.Frag} {x c : D} {t u : Value} {b : Bool} {M : MS} {Q : QX} (h1 : tyD M x = some t) (h2 : clsD c = some u) (h3 : ownK K t) (h4 : PySem.W.kitOne K t u = some b) (q : Q (.bl b) M) : dIsi K [x, c] M Q := by
  show (match tyD M x, clsD c with | some t, some u => ownK K t ∧ ∃ b, PySem.W.kitOne K t u = some b ∧ Q (.bl b) M | _, _ => False)
  rw [h1, h2]
  exact ⟨h3, b, h4, q⟩
theorem eq_ref0 {neg : Bool} {l : Addr} {ds : List D} {M : MS} {Q : QX} (h : M l = some (.lst ds)) (q : Q (.bl (if neg then !ds.isEmpty else ds.isEmpty)) M) : dEq neg (.ref l) (.lst []) M Q := by
  rw [rd_eq_ref0 h]; exact q
/-! ### a family of own lists -/
def fset {α : Type} (f : Nat × Nat → α) (i : Nat × Nat) (v : α) : Nat × Nat → α := fun x => if x = i then v else f x
theorem fset_same {α : Type} {f : Nat × Nat → α} {i : Nat × Nat} {v : α} : fset f i v i = v := by unfold fset; rw [if_pos rfl]
theorem fset_ne {α : Type} {f : Nat × Nat → α} {i j : Nat × Nat} {v : α} (h : j ≠ i) : fset f i v j = f j := by unfold fset; rw [if_neg h]
structure Fam (S : Nat × Nat → Prop) (M : MS) (adr : Nat × Nat → Addr) (con : Nat × Nat → List D) : Prop where
  inj : ∀ i j, S i → S j → adr i = adr j → i = j
  at_ : ∀ i, S i → M (adr i) = some (.lst (con i))
section
variable {S S' : Nat × Nat → Prop} {M M' : MS} {adr : Nat × Nat → Addr} {con : Nat × Nat → List D} {i : Nat × Nat} {l : Addr} {v : List D}
theorem Fam.none : Fam (fun _ => False) M adr con := ⟨fun _ _ h => h.elim, fun _ h => h.elim⟩
theorem Fam.mono (h : Fam S M adr con) (k : ∀ x, S' x → S x) : Fam S' M adr con := ⟨fun i j a b => h.inj i j (k i a) (k j b), fun i a => h.at_ i (k i a)⟩
theorem Fam.put (h : Fam S M adr con) (hl : M l = Option.none) : Fam (fun x => S x ∨ x = i) (updM M l (.lst v)) (fset adr i l) (fset con i v) := by
  have ne : ∀ x, S x → adr x ≠ l := fun x hx e => by
    have := h.at_ x hx
    rw [e, hl] at this; cases this
  refine ⟨fun a b ha hb e => ?_, fun a ha => ?_⟩
  · by_cases h1 : a = i
    · by_cases h2 : b = i
      · rw [h1, h2]
      · rw [h1, fset_same, fset_ne h2] at e
        rcases hb with hb | hb
        · exact absurd e.symm (ne b hb)
        · exact absurd hb h2
    · by_cases h2 : b = i
      · rw [h2, fset_same, fset_ne h1] at e
        rcases ha with ha | ha
        · exact absurd e (ne a ha)
        · exact absurd ha h1
      · rw [fset_ne h1, fset_ne h2] at e
        exact h.inj a b (ha.resolve_right h1) (hb.resolve_right h2) e
  · by_cases h1 : a = i
    · subst h1
      rw [fset_same, fset_same, updM_same]
    · have hs := ha.resolve_right h1
      rw [fset_ne h1, fset_ne h1, updM_ne (ne a hs)]
      exact h.at_ a hs
theorem Fam.set (h : Fam S M adr con) (hi : S i) : Fam S (updM M (adr i) (.lst v)) adr (fset con i v) := by
  refine ⟨h.inj, fun a ha => ?_⟩
  by_cases h1 : a = i
  · subst h1
    rw [fset_same, updM_same]
  · rw [fset_ne h1, updM_ne (fun e => h1 (h.inj a i ha hi e))]
    exact h.at_ a ha
theorem Fam.keep (h : Fam S M adr con) (k : subM M M') : Fam S M' adr con := ⟨h.inj, fun i a => k _ _ (h.at_ i a)⟩
theorem Fam.new (h : Fam S M adr con) {o : MO} (hl : M l = Option.none) : Fam S (updM M l o) adr con := h.keep (sub_upd hl)
theorem Fam.set_new (h : Fam S M adr con) {o u : MO} (hl : M l = Option.none) : Fam S (updM (updM M l o) l u) adr con := by rw [updM_updM]; exact h.new hl
end
theorem Fam.same {S : Nat × Nat → Prop} {M : MS} {adr : Nat × Nat → Addr} {con : Nat × Nat → List D} {i : Nat × Nat} {v : List D} (h : Fam S M adr con) (e : con i = v) : Fam S M adr (fset con i v) := by
  have : fset con i v = con := by
    funext x
    by_cases hx : x = i
    · rw [hx, fset_same, e]
    · rw [fset_ne hx]
  rw [this]
  exact h
/-- the first c lists of m own empty lists each -/
structure Ini (m c : Nat) (M : MS) (adr : Nat × Nat → Addr) (con : Nat × Nat → List D) : Prop where
  fam : Fam (fun x => x.1 < c ∧ x.2 ≤ m) M adr con
  c0 : ∀ k, k < c → con (k, 0) = (List.range m).map fun j => D.ref (adr (k, j + 1))
  cE : ∀ k, k < c → ∀ j, j < m → con (k, j + 1) = []
theorem lc_news {i c m : Nat} {ρ0 : Ro} {k : List D → MS → Prop} {adr : Nat × Nat → Addr} {con : Nat × Nat → List D} : ∀ (xs : List D) (a : Nat) (M : MS) (adr1 : Nat × Nat → Addr) (con1 : Nat × Nat → List D), a + xs.length ≤ 1000000 →
    Fam (fun x => (x.1 < c ∧ x.2 ≤ m) ∨ (x.1 = c ∧ 1 ≤ x.2 ∧ x.2 ≤ a)) M adr1 con1 → (∀ x, x.1 < c → adr1 x = adr x ∧ con1 x = con x) → (∀ j, j < a → con1 (c, j + 1) = []) →
    (∀ M' adr' con', Fam (fun x => (x.1 < c ∧ x.2 ≤ m) ∨ (x.1 = c ∧ 1 ≤ x.2 ∧ x.2 ≤ a + xs.length)) M' adr' con' → (∀ x, x.1 < c → adr' x = adr x ∧ con' x = con x) → (∀ j, j < a + xs.length → con' (c, j + 1) = []) →
      k ((List.range (a + xs.length)).map fun j => D.ref (adr' (c, j + 1))) M') →
    dLcGo (qName i) dYes (dLstM dNil) ρ0 k xs ((List.range a).map fun j => D.ref (adr1 (c, j + 1))) M
  | [], a, M, adr1, con1, _, hF, h1, h2, h => h M adr1 con1 hF h1 h2
  | x :: xs, a, M, adr1, con1, hl, hF, h1, h2, h => by
    rw [List.length_cons] at hl
    refine ⟨Nat.zero_le _, fun l hM => ⟨by rw [List.length_map, List.length_range, sizeLine_eq]; omega, ?_⟩⟩
    have e : ((List.range a).map fun j => D.ref (adr1 (c, j + 1))) ++ [D.ref l] = (List.range (a + 1)).map fun j => D.ref (fset adr1 (c, a + 1) l (c, j + 1)) := by
      rw [List.range_succ, List.map_append]
      congr 1
      · refine List.map_congr_left fun j hj => ?_
        rw [List.mem_range] at hj
        rw [fset_ne (by intro z; have := congrArg Prod.snd z; simp at this; omega)]
      · show _ = [D.ref (fset adr1 (c, a + 1) l (c, a + 1))]
        rw [fset_same]
    rw [e]
    have hF2 : Fam (fun x => (x.1 < c ∧ x.2 ≤ m) ∨ (x.1 = c ∧ 1 ≤ x.2 ∧ x.2 ≤ a + 1)) (updM M l (.lst [])) (fset adr1 (c, a + 1) l) (fset con1 (c, a + 1) []) := by
      refine (hF.put (i := (c, a + 1)) (v := []) hM).mono fun y hy => ?_
      rcases hy with hy | ⟨p, q, r⟩
      · exact .inl (.inl hy)
      · by_cases hya : y.2 = a + 1
        · exact .inr (Prod.ext p hya)
        · exact .inl (.inr ⟨p, q, by omega⟩)
    refine lc_news (c := c) (m := m) (adr := adr) (con := con) xs (a + 1) _ (fset adr1 (c, a + 1) l) (fset con1 (c, a + 1) []) (by omega) hF2 (fun y hy => ?_) (fun j hj => ?_) fun M' adr' con' g1 g2 g3 => ?_
    · have : y ≠ (c, a + 1) := fun z => by rw [z] at hy; exact Nat.lt_irrefl _ hy
      rw [fset_ne this, fset_ne this]
      exact h1 y hy
    · by_cases hja : j = a
      · rw [hja, fset_same]
      · rw [fset_ne (by intro z; have := congrArg Prod.snd z; simp at this; omega)]
        exact h2 j (by omega)
    · have el : a + 1 + xs.length = a + (x :: xs).length := by rw [List.length_cons]; omega
      rw [el] at g1 g3 ⊢
      exact h M' adr' con' g1 g2 g3
theorem lc_ini {i s m c : Nat} {ρ : Ro} {M : MS} {Q : QX} {Ex : EX} {adr : Nat × Nat → Addr} {con : Nat × Nat → List D} (hm : ρ[s]? = some (some (.int (m : Nat)))) (hm2 : m ≤ 1000) (h : Ini m c M adr con)
    (hQ : ∀ M' adr' con', Ini m (c + 1) M' adr' con' → (∀ x, x.1 < c → adr' x = adr x) → Q (.ref (adr' (c, 0))) M') : dLcM (dRng1 (dCons (dV s) dNil)) (qName i) dYes (dLstM dNil) [i] ρ M Q Ex := by
  unfold dLcM dRng1 dCons dV
  rw [hm]
  refine ⟨⟨by omega, by omega⟩, ?_⟩
  have hlen : (intsD 0 1 ((m : Int)).toNat).length = m := by rw [intsD_len]; omega
  generalize intsD 0 1 ((m : Int)).toNat = xs at hlen
  have hF0 : Fam (fun x => (x.1 < c ∧ x.2 ≤ m) ∨ (x.1 = c ∧ 1 ≤ x.2 ∧ x.2 ≤ 0)) M adr con := by
    refine h.fam.mono fun x hx => ?_
    rcases hx with hx | ⟨_, p, q⟩
    · exact hx
    · omega
  refine lc_news (c := c) (m := m) (adr := adr) (con := con) xs 0 M adr con (by omega) hF0 (fun _ _ => ⟨rfl, rfl⟩) (fun j hj => absurd hj (Nat.not_lt_zero _)) fun M' adr' con' g1 g2 g3 l hl => ?_
  · rw [hlen, Nat.zero_add] at g1 g3 ⊢
    have e : D.ref l = D.ref (fset adr' (c, 0) l (c, 0)) := by rw [fset_same]
    rw [e]
    have na : ∀ x : Nat × Nat, x.1 < c → x ≠ (c, 0) := fun x hx z => by rw [z] at hx; exact Nat.lt_irrefl _ hx
    have nb : ∀ j : Nat, ((c, j + 1) : Nat × Nat) ≠ (c, 0) := fun j z => by have := congrArg Prod.snd z; simp at this
    refine hQ _ (fset adr' (c, 0) l) (fset con' (c, 0) ((List.range m).map fun j => D.ref (adr' (c, j + 1)))) ⟨?_, fun k hk => ?_, fun k hk j hj => ?_⟩ fun x hx => ?_
    · refine (g1.put (i := (c, 0)) hl).mono fun x hx => ?_
      by_cases h1 : x.1 < c
      · exact .inl (.inl ⟨h1, hx.2⟩)
      · have h2 : x.1 = c := by omega
        by_cases h3 : x.2 = 0
        · exact .inr (Prod.ext h2 h3)
        · exact .inl (.inr ⟨h2, by omega, hx.2⟩)
    · by_cases h1 : k = c
      · subst h1
        rw [fset_same]
        exact List.map_congr_left fun j _ => by rw [fset_ne (nb j)]
      · have h2 : k < c := by omega
        rw [fset_ne (na (k, 0) h2), (g2 (k, 0) h2).2, h.c0 k h2]
        exact List.map_congr_left fun j _ => by rw [fset_ne (na (k, j + 1) h2), (g2 (k, j + 1) h2).1]
    · by_cases h1 : k = c
      · subst h1
        rw [fset_ne (nb j)]
        exact g3 j hj
      · have h2 : k < c := by omega
        rw [fset_ne (na (k, j + 1) h2), (g2 (k, j + 1) h2).2]
        exact h.cE k h2 j hj
    · rw [fset_ne (na x hx)]
      exact (g2 x hx).1
theorem insert0_of {M : MS} {l : Addr} {ds : List D} {y : D} {Q : QX} (h : M l = some (.lst ds)) (hl : ds.length < 1000000) (q : Q .non (updM M l (.lst (y :: ds)))) : mInsert (.ref l) [.int 0, y] M Q := by
  unfold mInsert
  have e : ownL M (.ref l) = some (l, ds) := by
    show (match M l with | some (.lst ds) => some (l, ds) | _ => none) = _
    rw [h]
  rw [e]
  exact ⟨⟨by rw [sizeLine_eq]; omega, by decide, by decide⟩, q⟩
/-- n - 1, .., 0 -/
def downs : Nat → List D
  | 0 => []
  | n + 1 => .int (n : Nat) :: downs n
theorem intsD_down (n : Nat) : intsD ((n : Int) - 1) (-1) n = downs n := by
  have key : ∀ (k : Nat) (lo : Int), lo = (k : Int) - 1 → (List.range k).map (fun (i : Nat) => D.int (lo + (i : Int) * (-1))) = downs k := fun k => by
    induction k with
    | zero => intro lo _; rfl
    | succ k ih =>
      intro lo hlo
      rw [List.range_succ_eq_map, List.map_cons, List.map_map]
      show _ = D.int (k : Nat) :: downs k
      rw [← ih (lo - 1) (by omega)]
      congr 1
      · show D.int (lo + ((0 : Nat) : Int) * (-1)) = _
        congr 1
        omega
      · refine List.map_congr_left fun j _ => ?_
        show D.int (lo + ((j + 1 : Nat) : Int) * (-1)) = D.int (lo - 1 + (j : Int) * (-1))
        congr 1
        omega
  exact key n _ rfl
theorem tyL {M : MS} {l : Addr} {ds : List D} (h : M l = some (.lst ds)) : tyD M (.ref l) = some (.type "list") := by
  show (match M l with | some (.lst _) => some (Value.type "list") | some (.dK _ _) => some (.type "dict") | some (.dT _ _) => some (.type "dict") | some (.ins C _ _) => some (.ref C) | none => none) = _
  rw [h]
theorem addM_of {M : MS} {x y : D} {a b : List D} {Q : QX} (hx : sqL M x = some a) (hy : sqL M y = some b) (hl : a.length + b.length ≤ 1000000) (q : ∀ l, M l = none → Q (.ref l) (updM M l (.lst (a ++ b)))) : dAddM x y M Q := by
  unfold dAddM
  rw [hx, hy]
  exact ⟨by rw [sizeLine_eq]; omega, q⟩
theorem eqs_of {neg : Bool} {z : Str} {M : MS} {Q : QX} (q : Q (.bl (if neg then false else true)) M) : dEq neg (.str z) (.str z) M Q := by
  rw [rd_eq_str, beq_self_eq_true]
  exact q
end DL
namespace DL
open PySem L2 PySem.Spec PyProof.Rows
section
variable {P : Program} {w : World} {K : PySem.W.Frag} {mg : Str → Option Value} {base : Heap} {k : Nat} {x m : Str} {C g : Addr} {fd : FuncData} {ps : List Str} {fs : Fs} {dvs : List V} {dds : List D}
theorem mtg (me : Meth K C m g) (F : FnOk P w K mg base (L2.CX P w) k g fd ps (toSp K fs)) (b : Binds K fd ps []) : MtG P w K mg base k C m [] fs := ⟨g, fd, ps, [], [], me, F, b, .nil, fun _ => .nil⟩
theorem cfg {mc : Value} (rd : ClX.CRead K C mc) (fc : PySem.W.findCls K (.ref C) mc m = some (.val (.ref g))) (kp : PySem.W.keepIn K (.ref g) = true) (F : FnOk P w K mg base (L2.CX P w) k g fd ps (toSp K fs)) (b : Binds K fd ps []) : CfG P w K mg base k C m [] fs :=
  ⟨mc, g, fd, ps, [], [], rd, fc, kp, F, b, .nil, fun _ => .nil⟩
theorem cfgD {mc : Value} (rd : ClX.CRead K C mc) (fc : PySem.W.findCls K (.ref C) mc m = some (.val (.ref g))) (kp : PySem.W.keepIn K (.ref g) = true) (F : FnOk P w K mg base (L2.CX P w) k g fd ps (toSp K fs)) (b : ∃ ds, Vals dvs ds ∧ Binds K fd ps ds) (hG : ∀ G : Hp, Rps K G dvs dds) : CfG P w K mg base k C m dds fs := by
  obtain ⟨ds, v, b⟩ := b
  exact ⟨mc, g, fd, ps, ds, dvs, rd, fc, kp, F, b, v, hG⟩
theorem mkg (hm : mg x = some (.ref C)) (M : Mk K C g) (F : FnOk P w K mg base (L2.CX P w) k g fd ps (toSp K fs)) (b : Binds K fd ps []) : MkG P w K mg base k x C [] fs := ⟨g, fd, ps, [], [], hm, M, F, b, .nil, fun _ => .nil⟩
theorem mkgD (hm : mg x = some (.ref C)) (M : Mk K C g) (F : FnOk P w K mg base (L2.CX P w) k g fd ps (toSp K fs)) (b : ∃ ds, Vals dvs ds ∧ Binds K fd ps ds) (hG : ∀ G : Hp, Rps K G dvs dds) : MkG P w K mg base k x C dds fs := by
  obtain ⟨ds, v, b⟩ := b
  exact ⟨g, fd, ps, ds, dvs, hm, M, F, b, v, hG⟩
theorem fngD {f : Addr} (hm : mg x = some (.ref f)) (hk : PySem.W.keepIn K (.ref f) = true) (F : FnOk P w K mg base (L2.CX P w) k f fd ps (toSp K fs)) (b : ∃ ds, Vals dvs ds ∧ Binds K fd ps ds) (hG : ∀ G : Hp, Rps K G dvs dds) : FnG P w K mg base k x 0 dds fs := by
  obtain ⟨ds, v, b⟩ := b
  exact ⟨f, fd, ps, ds, dvs, hm, hk, F, b, v, hG⟩
end
end DL
namespace DL
open PySem L2 PySem.Spec PyProof.Rows
/-! ### try, where the body raises nothing -/
def dThru (p : PY) : PY := fun D ρ M => p { D with ex := Ex0 } ρ M
theorem ds_thru {X : Cx} {E : XK} {body : List Stmt} {h₀ : ExceptHandler} {hs : List ExceptHandler} {pos : Pos} {p : PY} (hb : DSs X.nox E0 body p) : DS X E (.Try body (h₀ :: hs) [] [] pos) (dThru p) := by
  obtain ⟨t, hb, sb⟩ := hb
  exact ⟨t, ps_try_thru0 hb, fun w σ ρ Dh D hS hD h => sb w σ ρ Dh { D with ex := Ex0 } hS ⟨hD.nx, hD.rt, hD.bk, hD.ct, fun _ _ z => z.elim⟩ h⟩
/-! ### things that are lent: for good while a call runs, own again behind it -/
def FlatM (M : MS) : Prop := ∀ a mo, M a = some mo → ∃ ds, mo = .lst ds ∧ ∀ d, d ∈ ds → flatD d = true
def flatR (z : D) : Prop := flatD z = true ∨ ∃ l, z = .ref l
def joinB (M M' : MS) : MS := fun a => match M a with
  | some o => some o
  | none => M' a
def disj (M M' : MS) : Prop := ∀ a, M' a ≠ none → M a = none
theorem Rp.flat {K : PySem.W.Frag} {G G' : Hp} {v : V} {d : D} (r : Rp K G v d) (h : flatD d = true) : Rp K G' v d := by
  cases r with
  | non => exact .non
  | bl b => exact .bl b
  | int b => exact .int b
  | str b => exact .str b
  | _ => cases h
theorem Rps.flat {K : PySem.W.Frag} {G G' : Hp} : ∀ {vs : List V} {ds : List D}, Rps K G vs ds → (∀ d, d ∈ ds → flatD d = true) → Rps K G' vs ds
  | _, _, .nil, _ => .nil
  | _, _, .cons r rs, h => .cons (r.flat (h _ List.mem_cons_self)) (rs.flat fun d hd => h d (List.mem_cons_of_mem _ hd))
section
variable {K : PySem.W.Frag}
def Wo.back (w w' : Wo K) (st : Stp (w.frzS M0 (subM0 w.M)) w') (fl : FlatM w'.M) : Wo K where
  G := w.G
  M := joinB w.M w'.M
  H := w'.H
  gh := ((w.frzS_same M0 (subM0 w.M)).trans st.gg).trans w'.gh
  gm := fun a ha => by
    cases e : w.M a with
    | some o => exact w.gm a (by rw [e]; exact fun z => by cases z)
    | none =>
      have ha' : w'.M a ≠ none := by
        unfold joinB at ha
        rw [e] at ha
        exact ha
      cases q : w.G a with
      | none => rfl
      | some o =>
        have := ((w.frzS_same M0 (subM0 w.M)).trans st.gg) a o q
        rw [w'.gm a ha'] at this; cases this
  mh := fun a mo ha => by
    unfold joinB at ha
    cases e : w.M a with
    | some o =>
      rw [e] at ha; cases ha
      obtain ⟨ho, eh, r⟩ := w.mh a _ e
      refine ⟨ho, ?_, r⟩
      refine w'.gh a ho (st.gg a ho ?_)
      show (match lessM w.M M0 a with | some _ => w.H a | none => w.G a) = some ho
      have : lessM w.M M0 a = w.M a := rfl
      rw [this, e]
      exact eh
    | none =>
      rw [e] at ha
      obtain ⟨ds, rfl, hf⟩ := fl a mo ha
      obtain ⟨ho, eh, r⟩ := w'.mh a _ ha
      cases ho <;> first | exact (show False from r).elim | skip
      exact ⟨_, eh, Rps.flat (show Rps K w'.G _ ds from r) hf⟩
theorem Wo.back_stp (w w' : Wo K) (st : Stp (w.frzS M0 (subM0 w.M)) w') (fl : FlatM w'.M) : Stp w (w.back w' st fl) where
  gg := Same.refl _
  hh := fun a o h _ => st.hh a o h rfl
  al := st.al
  gn := fun a o h => .inl h
  mn := fun a h => by
    have h' : joinB w.M w'.M a ≠ none := h
    unfold joinB at h'
    cases e : w.M a with
    | some o => exact .inl (fun z => by cases z)
    | none =>
      rw [e] at h'
      rcases st.mn a h' with q | q
      · exact absurd rfl q
      · exact .inr q
theorem sp_lend {E : XK} {fs : Fs} {w : Wo K} {vs : List V} {ds ds' : List D} {R : VK} {Q : QX} (hR : ∀ x v w', Q x w'.M → Stp w w' → Rp K w'.G v x → R v w'.H) (r : Rps K w.G vs ds) (fz : Fzs w.M ds ds')
    (h : fs ds' M0 (fun z M' => (FlatM M' ∧ flatR z) ∧ (disj w.M M' → Q z (joinB w.M M'))) Ex0) : toSp K fs vs w.H R E := by
  refine ⟨w.frzS M0 (subM0 w.M), ds', _, _, rfl, Fzs.rep (w := w) (N := M0) (h := subM0 w.M) fz r, fun _ _ z => z.elim, fun x v w' q st rv => ?_, h⟩
  obtain ⟨⟨fl, fr⟩, q⟩ := q
  refine hR x v (w.back w' st fl) (q fun a ha => ?_) (w.back_stp w' st fl) ?_
  · cases e : w.M a with
    | none => rfl
    | some mo =>
      obtain ⟨ho, eh, _⟩ := w.mh a mo e
      have : w'.G a = some ho := st.gg a ho (by
        show (match lessM w.M M0 a with | some _ => w.H a | none => w.G a) = some ho
        have : lessM w.M M0 a = w.M a := rfl
        rw [this, e]
        exact eh)
      rw [w'.gm a ha] at this; cases this
  rcases fr with fr | ⟨l, rfl⟩
  · exact rv.flat fr
  · cases rv
    exact .ref l
end
def dCallL (fs : Fs) (dds : List D) (pp : PXa) : PX := fun ρ M Q Ex => pp ρ M (fun as M1 => ∃ as', Fzs M1 as as' ∧ fs (as' ++ dds) M0 (fun z M' => (FlatM M' ∧ flatR z) ∧ (disj M1 M' → Q z (joinB M1 M'))) Ex0) Ex
theorem Fzs.append {M : MS} : ∀ {a b c d : List D}, Fzs M a b → Fzs M c d → Fzs M (a ++ c) (b ++ d)
  | _, _, _, _, .nil, h => h
  | _, _, _, _, .cons f fs, h => .cons f (fs.append h)
theorem snd_callL {K : PySem.W.Frag} {E : XK} {fs : Fs} {dvs : List V} {dds : List D} {ta : TA} {pp : PXa} (sa : SndA K E ta pp) (hd : ∀ G : Hp, Rps K G dvs dds) : Snd K E (tCall (toSp K fs) dvs E ta) (dCallL fs dds pp) := by
  intro w σ ρ R Q Ex hS hE hR h
  refine sa w σ ρ _ _ Ex hS hE (fun ds vs w1 h1 s1 r1 => ?_) h
  obtain ⟨as', fz, h1⟩ := h1
  exact sp_lend (fun x v w' q st r => hR x v w' q (s1.trans st) r) (r1.append (hd _)) (fz.append (Fzs.refl _ _)) h1
section
variable {X : Cx} {E : XK} {k n : Nat} {x : Str} {fs : Fs} {dds : List D} {e o : Expr} {es : List Expr} {p pos apos : Pos} {pp : PXa} {po : PX} {m : Str} {P : Program} {w : World} {K : PySem.W.Frag} {mg : Str → Option Value} {base : Heap}
theorem d_callL (F : FnG X.prog X.w X.K X.mg X.base k x n dds fs) (hr : Room k X.A) (hx : Passes (L2.CX X.prog X.w) X E) (ha : DA X E (e :: es) pp) (hg : Gl X x := by rfl) (hdb : (x == ("__debug__" : Str)) = false := by decide)
    (he : starEach (e :: es) X.env = (false, eval e X.env) :: starEach es X.env := by rfl) (hpl : (backTo pos (starEach es X.env)).any (·.1) = false := by rfl) : DE X E (.Call (.Name x p) (e :: es) [] pos) (dCallL fs dds pp) := by
  obtain ⟨f, fd, ps, ds, dvs, h1, h2, h3, h4, h5, h6⟩ := F
  obtain ⟨t, ha, sa⟩ := ha
  exact ⟨_, pe_call h3 hr hg h1 h2 h4 h5 hx ha hdb he hpl, snd_callL sa h6⟩
def dMthVL (P : Program) (w : World) (K : PySem.W.Frag) (mg : Str → Option Value) (base : Heap) (k : Nat) (m : Str) (po : PX) (pp : PXa) : PX := fun ρ M Q Ex => po ρ M (fun x M1 => match insOf M1 x with
  | some (C, ns, ds) => ∃ (dds : List D) (fs : Fs), (lkD m ns ds = none ∧ Cls K C ∧ MtG P w K mg base k C m dds fs) ∧ pp ρ M1 (fun as M2 => ∃ x' as', Fz M2 x x' ∧ Fzs M2 as as' ∧ fs (x' :: (as' ++ dds)) M0 (fun z M' => (FlatM M' ∧ flatR z) ∧ (disj M2 M' → Q z (joinB M2 M'))) Ex0) Ex
  | none => False) Ex
theorem snd_mthVL {P : Program} {w0 : World} {K : PySem.W.Frag} {mg : Str → Option Value} {base : Heap} {k : Nat} {ta : TE} {t : TA} (so : Snd K E ta po) (sa : SndA K E t pp) : Snd K E (tMthV P w0 K mg base k m E ta t) (dMthVL P w0 K mg base k m po pp) := by
  intro w σ ρ R Q Ex hS hE hR h
  refine so w σ ρ _ _ Ex hS hE (fun x v w1 h1 s1 r1 => ?_) h
  split at h1
  · rename_i C ns ds hi
    obtain ⟨dds, fs, ⟨hl, c, g, fd, ps, dvv, dvs, hm, F, hb, hd, hG⟩, h1⟩ := h1
    obtain ⟨a, dx, as, rfl, hH, e1, rs⟩ := ins_ok r1 hi
    subst e1
    refine ⟨a, C, dx, as, g, fd, ps, dvv, dvs, _, rfl, hH, lk_none rs hl, c, hm, F, hb, hd, ?_⟩
    refine sa w1 σ ρ _ _ Ex (hS.mono s1.gg) (hE.step s1) (fun zs vs w2 h2 s2 r2 => ?_) h1
    obtain ⟨x', as', f1, f2, h2⟩ := h2
    exact sp_lend (fun z vz w' q st r => hR z vz w' q ((s1.trans s2).trans st) r) (.cons (r1.mono s2.gg) (r2.append (hG _))) (.cons f1 (f2.append (Fzs.refl _ _))) h2
  · exact h1.elim
theorem d_mthV0L {pl : Sem Bool} {k : Nat} (ho : DE X E o po) (hr : Room k X.A) (hx : Passes (L2.CX X.prog X.w) X E) (hP : X.prog = P := by rfl) (hw : X.w = w := by rfl) (hK : X.K = K := by rfl) (hm : X.mg = mg := by rfl) (hb : X.base = base := by rfl)
    (ht : eval (.Call (.Attribute o m apos) [] [] pos) X.env = (do
      let ov ← eval o X.env
      standAt apos.atName
      let (f, first) ← holding [ov] (getMethod ov m pl)
      callWith pos f first (backTo pos (starEach [] X.env)) (backToKw pos (keywordEach [] X.env))) := by rfl) :
    DE X E (.Call (.Attribute o m apos) [] [] pos) (dMthVL P w K mg base k m po dNil) := by
  subst hP hw hK hm hb
  obtain ⟨to, ho, so⟩ := ho
  exact ⟨_, pe_mthV0 ho hr hx ht, snd_mthVL so (fun w σ ρ R Q Ex _ _ hR h => hR [] [] w h (Stp.refl w) .nil)⟩
end
theorem flatM0 : FlatM M0 := fun _ _ z => by cases z
theorem joinB_0 (M : MS) : joinB M M0 = M := by
  funext a
  unfold joinB
  cases M a <;> rfl
theorem joinB_new {M : MS} {l : Addr} {o : MO} (h : M l = none) : joinB M (updM M0 l o) = updM M l o := by
  funext a
  unfold joinB
  by_cases e : a = l
  · subst e; rw [h, updM_same, updM_same]
  · rw [updM_ne e, updM_ne e]
    cases M a <;> rfl
theorem intsD_nat (m : Nat) : intsD 0 1 ((m : Int)).toNat = (List.range m).map fun k => D.int ((k : Nat) : Int) := by
  unfold intsD
  rw [Int.toNat_natCast]
  refine List.map_congr_left fun k _ => ?_
  congr 1
  omega
def dAbs : List D → MS → QX → Prop := fun xs M Q => match xs with
  | [.int i] => Q (.int (if i < 0 then -i else i)) M
  | _ => False
theorem s_abs {K : PySem.W.Frag} : CSnd K (fun xs H Q => ∃ i, xs = [V.int i] ∧ Q (V.int (if i < 0 then -i else i)) H) dAbs := by
  intro w xs dxs R Q r hR h
  unfold dAbs at h
  split at h
  · cases r with
    | cons r rs =>
      cases rs; cases r
      exact ⟨_, rfl, hR _ _ w h (Stp.refl w) (.int _)⟩
  · exact h.elim
theorem boot_abs' : bootBuiltins "abs" = some (.builtin "abs") := by first | rfl | decide +kernel
theorem in_sign {neg : Bool} {c : Nat} {z : Str} {M : MS} {Q : QX} (q : Q (.bl (if neg then !decide (c ∈ z.cps.toList) else decide (c ∈ z.cps.toList))) M) : dIn neg (.str ⟨#[c]⟩) (.str z) M Q := q
theorem mth_VA {P : Program} {w : World} {K : PySem.W.Frag} {mg : Str → Option Value} {base : Heap} {k i : Nat} {m : Str} {ρ : Ro} {M M2 : MS} {Q : QX} {Ex : EX} {C : Addr} {ns : List Str} {x : D} {ds as : List D} {fs : Fs} {pp : PXa}
    (hρ : ρ[i]? = some (some x)) (hi : insOf M x = some (C, ns, ds)) (hl : lkD m ns ds = none) (hc : Cls K C) (G : MtG P w K mg base k C m [] fs) (hp : ∀ (Q' : List D → MS → Prop) Ex', Q' as M2 → pp ρ M Q' Ex')
    (h : fs (x :: as) M2 (fun z M' => Q z (joinM M2 M2 M')) (fun c M' => Ex c (joinM M2 M2 M'))) : dMthV P w K mg base k m (dV i) pp ρ M Q Ex := by
  unfold dMthV dV
  rw [hρ]
  show (match insOf M x with | some (C, ns, ds) => _ | none => False)
  rw [hi]
  exact ⟨[], fs, ⟨hl, hc, G⟩, hp _ _ ⟨M2, subM_refl M2, by rw [List.append_nil]; exact h⟩⟩
theorem make_at {C : Addr} {fs : Fs} {dds : List D} {pp : PXa} {ρ : Ro} {M M2 : MS} {Q : QX} {Ex : EX} {ds : List D} (hp : ∀ (Q' : List D → MS → Prop) Ex', Q' ds M2 → pp ρ M Q' Ex')
    (h : ∀ x, M2 x = none → fs (.ref x :: (ds ++ dds)) (updM M2 x (.ins C [] [])) (fun v M' => v = .non ∧ Q (.ref x) (joinM M2 (updM M2 x (.ins C [] [])) M')) (fun c M' => Ex c (joinM M2 (updM M2 x (.ins C [] [])) M'))) : dMake C fs dds pp ρ M Q Ex :=
  hp _ _ ⟨M2, subM_refl M2, h⟩
theorem augF_ref {K : PySem.W.Frag} {f : Str} {i : Nat} {j : Int} {D0 : De} {ρ : Ro} {M : MS} {l C : Addr} {ns : List Str} {ds : List D} {n : Int} (hρ : ρ[i]? = some (some (.ref l))) (hi : M l = some (.ins C ns ds)) (hl : lkD f ns ds = some (.int n)) (c : Cls K C) (na : NoAttr K C f) (hn : ns.length < 1000)
    (q : D0.nx ρ (updM M l (.ins C (putN f ns) (putD f (.int (n + j)) ns ds)))) : dAugF K f (dV i) (dC (.int j)) dIAdd D0 ρ M := by
  unfold dAugF dV
  rw [hρ]
  show (match ownI M (.ref l) with
    | some (l, C, ns, ds) => (Cls K C ∧ NoAttr K C f ∧ ns.length < 1000) ∧ (match lkD f ns ds with | some d => dIAdd d (.int j) M (fun z M3 => M3 l = some (.ins C ns ds) ∧ D0.nx ρ (updM M3 l (.ins C (putN f ns) (putD f z ns ds)))) | none => False)
    | none => False)
  have e : ownI M (.ref l) = some (l, C, ns, ds) := by
    show (match M l with | some (.ins C ns ds) => some (l, C, ns, ds) | _ => none) = _
    rw [hi]
  rw [e]
  refine ⟨⟨c, na, hn⟩, ?_⟩
  show (match lkD f ns ds with | some d => dIAdd d (.int j) M _ | none => False)
  rw [hl]
  exact ⟨hi, q⟩
theorem thru_of {p : PY} {D0 : De} {ρ : Ro} {M : MS} (h : p { D0 with ex := Ex0 } ρ M) : dThru p D0 ρ M := h
theorem setF_at {K : PySem.W.Frag} {f : Str} {pv : PX} {i : Nat} {D0 : De} {ρ : Ro} {M M2 : MS} {l C : Addr} {ns : List Str} {ds : List D} {y : D} (hv : ∀ (Q' : QX), Q' y M2 → pv ρ M Q' D0.ex) (hρ : ρ[i]? = some (some (.ref l))) (hi : M2 l = some (.ins C ns ds)) (c : Cls K C) (n : NoAttr K C f) (hn : ns.length < 1000)
    (q : D0.nx ρ (updM M2 l (.ins C (putN f ns) (putD f y ns ds)))) : dSetF K f (dV i) pv D0 ρ M := by
  unfold dSetF
  refine hv _ ?_
  unfold dV
  rw [hρ]
  show (match ownI M2 (.ref l) with | some (l, C, ns, ds) => (Cls K C ∧ NoAttr K C f ∧ ns.length < 1000) ∧ D0.nx ρ (updM M2 l (.ins C (putN f ns) (putD f y ns ds))) | none => False)
  have e : ownI M2 (.ref l) = some (l, C, ns, ds) := by
    show (match M2 l with | some (.ins C ns ds) => some (l, C, ns, ds) | _ => none) = _
    rw [hi]
  rw [e]
  exact ⟨⟨c, n, hn⟩, q⟩
theorem updM_new {M : MS} {y l : Addr} {a b c : MO} (h : l ≠ y) : updM (updM (updM M y a) l b) y c = updM (updM M l b) y c := by
  rw [updM_comm (a := l) (b := y) h, updM_updM, updM_comm (Ne.symm h)]
theorem upd_same_top {M : MS} {r : Addr} {o u : MO} : ∀ a, updM M r o a = none → updM M r u a = none := fun a e => by
  by_cases h : a = r
  · subst h; rw [updM_same] at e; cases e
  · rw [updM_ne h] at e ⊢; exact e
def dMax2 : List D → MS → QX → Prop := fun xs M Q => match xs with
  | [.int i, .int j] => Q (.int (if j > i then j else i)) M
  | _ => False
def dMin2 : List D → MS → QX → Prop := fun xs M Q => match xs with
  | [.int i, .int j] => Q (.int (if j < i then j else i)) M
  | _ => False
theorem s_max2 {K : PySem.W.Frag} : CSnd K (fun xs H Q => ∃ i j, xs = [V.int i, V.int j] ∧ Q (V.int (if j > i then j else i)) H) dMax2 := by
  intro w xs dxs R Q r hR h
  unfold dMax2 at h
  split at h
  · cases r with
    | cons r rs =>
      cases rs with
      | cons r2 rs =>
        cases rs; cases r; cases r2
        exact ⟨_, _, rfl, hR _ _ w h (Stp.refl w) (.int _)⟩
  · exact h.elim
theorem s_min2 {K : PySem.W.Frag} : CSnd K (fun xs H Q => ∃ i j, xs = [V.int i, V.int j] ∧ Q (V.int (if j < i then j else i)) H) dMin2 := by
  intro w xs dxs R Q r hR h
  unfold dMin2 at h
  split at h
  · cases r with
    | cons r rs =>
      cases rs with
      | cons r2 rs =>
        cases rs; cases r; cases r2
        exact ⟨_, _, rfl, hR _ _ w h (Stp.refl w) (.int _)⟩
  · exact h.elim
/-- the new lists of a comprehension, each with v in it -/
theorem lc_newsG {i c m : Nat} {ρ0 : Ro} {te : PX} {v : List D} {k : List D → MS → Prop} {adr : Nat × Nat → Addr} {con : Nat × Nat → List D} (hte : ∀ (ρ : Ro) (M : MS) (Q : QX), (∀ l, M l = none → Q (.ref l) (updM M l (.lst v))) → te ρ M Q Ex0) : ∀ (xs : List D) (a : Nat) (M : MS) (adr1 : Nat × Nat → Addr) (con1 : Nat × Nat → List D), a + xs.length ≤ 1000000 →
    Fam (fun x => (x.1 < c ∧ x.2 ≤ m) ∨ (x.1 = c ∧ 1 ≤ x.2 ∧ x.2 ≤ a)) M adr1 con1 → (∀ x, x.1 < c → adr1 x = adr x ∧ con1 x = con x) → (∀ j, j < a → con1 (c, j + 1) = v) →
    (∀ M' adr' con', Fam (fun x => (x.1 < c ∧ x.2 ≤ m) ∨ (x.1 = c ∧ 1 ≤ x.2 ∧ x.2 ≤ a + xs.length)) M' adr' con' → (∀ x, x.1 < c → adr' x = adr x ∧ con' x = con x) → (∀ j, j < a + xs.length → con' (c, j + 1) = v) →
      k ((List.range (a + xs.length)).map fun j => D.ref (adr' (c, j + 1))) M') →
    dLcGo (qName i) dYes te ρ0 k xs ((List.range a).map fun j => D.ref (adr1 (c, j + 1))) M
  | [], a, M, adr1, con1, _, hF, h1, h2, h => h M adr1 con1 hF h1 h2
  | x :: xs, a, M, adr1, con1, hl, hF, h1, h2, h => by
    rw [List.length_cons] at hl
    show te (ρ0.set i (some x)) M (fun y M4 => ((List.range a).map fun j => D.ref (adr1 (c, j + 1))).length < sizeLine ∧ dLcGo (qName i) dYes te ρ0 k xs (((List.range a).map fun j => D.ref (adr1 (c, j + 1))) ++ [y]) M4) Ex0
    refine hte _ _ _ fun l hM => ⟨by rw [List.length_map, List.length_range, sizeLine_eq]; omega, ?_⟩
    have e : ((List.range a).map fun j => D.ref (adr1 (c, j + 1))) ++ [D.ref l] = (List.range (a + 1)).map fun j => D.ref (fset adr1 (c, a + 1) l (c, j + 1)) := by
      rw [List.range_succ, List.map_append]
      congr 1
      · refine List.map_congr_left fun j hj => ?_
        rw [List.mem_range] at hj
        rw [fset_ne (by intro z; have := congrArg Prod.snd z; simp at this; omega)]
      · show _ = [D.ref (fset adr1 (c, a + 1) l (c, a + 1))]
        rw [fset_same]
    rw [e]
    have hF2 : Fam (fun x => (x.1 < c ∧ x.2 ≤ m) ∨ (x.1 = c ∧ 1 ≤ x.2 ∧ x.2 ≤ a + 1)) (updM M l (.lst v)) (fset adr1 (c, a + 1) l) (fset con1 (c, a + 1) v) := by
      refine (hF.put (i := (c, a + 1)) (v := v) hM).mono fun y hy => ?_
      rcases hy with hy | ⟨p, q, r⟩
      · exact .inl (.inl hy)
      · by_cases hya : y.2 = a + 1
        · exact .inr (Prod.ext p hya)
        · exact .inl (.inr ⟨p, q, by omega⟩)
    refine lc_newsG (c := c) (m := m) (adr := adr) (con := con) hte xs (a + 1) _ (fset adr1 (c, a + 1) l) (fset con1 (c, a + 1) v) (by omega) hF2 (fun y hy => ?_) (fun j hj => ?_) fun M' adr' con' g1 g2 g3 => ?_
    · have : y ≠ (c, a + 1) := fun z => by rw [z] at hy; exact Nat.lt_irrefl _ hy
      rw [fset_ne this, fset_ne this]
      exact h1 y hy
    · by_cases hja : j = a
      · rw [hja, fset_same]
      · rw [fset_ne (by intro z; have := congrArg Prod.snd z; simp at this; omega)]
        exact h2 j (by omega)
    · have el : a + 1 + xs.length = a + (x :: xs).length := by rw [List.length_cons]; omega
      rw [el] at g1 g3 ⊢
      exact h M' adr' con' g1 g2 g3
theorem lc_filterG {α : Type} {i : Nat} {tt : PXt} {te : PX} {ρ0 : Ro} {k : List D → MS → Prop} {M : MS} (g f : α → D) (p : α → Bool) : ∀ (ts : List α) (acc : List D), acc.length + ts.length ≤ 1000000 → (∀ x, x ∈ ts → ∀ Q : Bool → MS → Prop, Q (p x) M → tt (ρ0.set i (some (g x))) M Q Ex0) →
    (∀ x, x ∈ ts → p x = true → ∀ Q : QX, Q (f x) M → te (ρ0.set i (some (g x))) M Q Ex0) → k (acc ++ (ts.filter p).map f) M → dLcGo (qName i) tt te ρ0 k (ts.map g) acc M
  | [], acc, _, _, _, h => by
    rw [List.filter_nil, List.map_nil, List.append_nil] at h
    exact h
  | x :: xs, acc, hl, ht, he, h => by
    show tt (ρ0.set i (some (g x))) M (fun b M3 => if b = true then te (ρ0.set i (some (g x))) M3 (fun y M4 => acc.length < sizeLine ∧ dLcGo (qName i) tt te ρ0 k (xs.map g) (acc ++ [y]) M4) Ex0 else dLcGo (qName i) tt te ρ0 k (xs.map g) acc M3) Ex0
    rw [List.length_cons] at hl
    refine ht x List.mem_cons_self _ ?_
    cases hp : p x with
    | true =>
      rw [if_pos rfl]
      refine he x List.mem_cons_self hp _ ⟨by rw [sizeLine_eq]; omega, lc_filterG g f p xs (acc ++ [f x]) (by rw [List.length_append, List.length_singleton]; omega) (fun y hy => ht y (List.mem_cons_of_mem _ hy)) (fun y hy => he y (List.mem_cons_of_mem _ hy)) ?_⟩
      rw [List.filter_cons, if_pos hp, List.map_cons] at h
      rw [List.append_assoc, List.singleton_append]
      exact h
    | false =>
      rw [if_neg Bool.false_ne_true]
      refine lc_filterG g f p xs acc (by omega) (fun y hy => ht y (List.mem_cons_of_mem _ hy)) (fun y hy => he y (List.mem_cons_of_mem _ hy)) ?_
      rw [List.filter_cons, if_neg (by rw [hp]; exact Bool.false_ne_true)] at h
      exact h
theorem pop_of {M : MS} {l : Addr} {ds : List D} {x : D} {Q : QX} (h : M l = some (.lst (ds ++ [x]))) (q : Q x (updM M l (.lst ds))) : mPop (.ref l) [] M Q := by
  unfold mPop
  have e : ownL M (.ref l) = some (l, ds ++ [x]) := by
    show (match M l with | some (.lst ds) => some (l, ds) | _ => none) = _
    rw [h]
  rw [e]
  first
    | (show (match (ds ++ [x]).getLast? with | some y => Q y (updM M l (.lst (ds ++ [x]).dropLast)) | none => False); rw [List.getLast?_concat, List.dropLast_concat]; exact q)
    | (rw [List.getLast?_concat, List.dropLast_concat]; exact q)
    | (simp; exact q)
theorem len_lst {ds : List D} {M : MS} {Q : QX} (q : Q (.int (ds.length : Nat)) M) : dLen [.lst ds] M Q := q
theorem mth_VL {P : Program} {w : World} {K : PySem.W.Frag} {mg : Str → Option Value} {base : Heap} {k i : Nat} {m : Str} {ρ : Ro} {M : MS} {Q : QX} {Ex : EX} {C : Addr} {ns : List Str} {x x' : D} {ds : List D} {fs : Fs}
    (hρ : ρ[i]? = some (some x)) (hi : insOf M x = some (C, ns, ds)) (hl : lkD m ns ds = none) (hc : Cls K C) (G : MtG P w K mg base k C m [] fs) (fz : Fz M x x')
    (h : fs [x'] M0 (fun z M' => (FlatM M' ∧ flatR z) ∧ (disj M M' → Q z (joinB M M'))) Ex0) : dMthVL P w K mg base k m (dV i) dNil ρ M Q Ex := by
  unfold dMthVL dV
  rw [hρ]
  show (match insOf M x with | some (C, ns, ds) => _ | none => False)
  rw [hi]
  exact ⟨[], fs, ⟨hl, hc, G⟩, x', [], fz, .nil, h⟩
theorem callL_of {fs : Fs} {dds : List D} {pp : PXa} {ρ : Ro} {M : MS} {Q : QX} {Ex : EX} {ds ds' : List D} (hp : ∀ (Q' : List D → MS → Prop) Ex', Q' ds M → pp ρ M Q' Ex') (fz : Fzs M ds ds')
    (h : fs (ds' ++ dds) M0 (fun z M' => (FlatM M' ∧ flatR z) ∧ (disj M M' → Q z (joinB M M'))) Ex0) : dCallL fs dds pp ρ M Q Ex := hp _ _ ⟨ds', fz, h⟩
theorem clear_of {M : MS} {l : Addr} {ds : List D} {Q : QX} (h : M l = some (.lst ds)) (q : Q .non (updM M l (.lst []))) : mClear (.ref l) [] M Q := by
  unfold mClear
  have e : ownL M (.ref l) = some (l, ds) := by
    show (match M l with | some (.lst ds) => some (l, ds) | _ => none) = _
    rw [h]
  rw [e]
  exact q
end DL
namespace LM
open PySem L2 DL PySem.Spec PyProof.Rows
def topS (i : Nat) : Stmt := PySem.Challenge.pw_limbmap_k22_texts_parsed.main.body.getD i (.Pass ⟨0, 0, 0, 0⟩)
abbrev S__law_cell_at : Stmt := topS 27
theorem sc__law_cell_at : FnScope ["_law_script", "_law_k", "_law_more"] ["_law_script", "_law_k"] (defScope S__law_cell_at) := ⟨rfl, rfl, rfl, by decide +kernel, rfl, by decide +kernel, by decide +kernel⟩
abbrev S__law_mixed : Stmt := topS 28
theorem sc__law_mixed : FnScope ["_law_cell", "_law_prime"] ["_law_cell", "_law_prime"] (defScope S__law_mixed) := ⟨rfl, rfl, rfl, by decide +kernel, rfl, by decide +kernel, by decide +kernel⟩
abbrev S__law_lowest : Stmt := topS 30
theorem sc__law_lowest : FnScope ["_law_top", "_law_bottom", "_law_one", "_law_other"] ["_law_top", "_law_bottom"] (defScope S__law_lowest) := ⟨rfl, rfl, rfl, by decide +kernel, rfl, by decide +kernel, by decide +kernel⟩
abbrev S__law_far : Stmt := topS 31
theorem sc__law_far : FnScope ["_law_cell", "_law_pick", "_law_part"] ["_law_cell"] (defScope S__law_far) := ⟨rfl, rfl, rfl, by decide +kernel, rfl, by decide +kernel, by decide +kernel⟩
abbrev S__law_names : Stmt := topS 32
theorem sc__law_names : FnScope ["_law_cell", "_law_many", "_law_signs", "_law_first", "_law_size", "_law_at", "_law_stem", "_law_names_here", "_law_k", "_law_j"] ["_law_cell", "_law_many"] (defScope S__law_names) := ⟨rfl, rfl, rfl, by decide +kernel, rfl, by decide +kernel, by decide +kernel⟩
abbrev S__law_amount_text : Stmt := topS 33
theorem sc__law_amount_text : FnScope ["_law_far_here"] ["_law_far_here"] (defScope S__law_amount_text) := ⟨rfl, rfl, rfl, by decide +kernel, rfl, by decide +kernel, by decide +kernel⟩
abbrev S_shown_amount : Stmt := topS 12
theorem sc_shown_amount : FnScope ["one"] ["one"] (defScope S_shown_amount) := ⟨rfl, rfl, rfl, by decide +kernel, rfl, by decide +kernel, by decide +kernel⟩

structure TxtA (mg : Str → Option Value) : Prop where
  b_len : mg "len" = none
  b_int : mg "int" = none
  b_str : mg "str" = none
  b_range : mg "range" = none
  b_list : mg "list" = none
  b_isinstance : mg "isinstance" = none
/-! ### the law's cells, as naturals -/
def cellAt (ns : List Int) (k : Nat) : Int :=
  if ns.length = 0 then ((k : Int) * k * 48271) % 9973
  else (ns.getD (k % ns.length) 0 + (k : Int) / (ns.length : Int) * ((k : Int) * k * 48271 + 7)) % 10 ^ 24
def cellN (ns : List Int) (k : Nat) : Nat := (cellAt ns k).toNat
theorem cellAt_nn (ns : List Int) (k : Nat) : 0 ≤ cellAt ns k := by
  unfold cellAt
  split
  · exact Int.emod_nonneg _ (by decide)
  · exact Int.emod_nonneg _ (by decide)
theorem cellN_eq (ns : List Int) (k : Nat) : ((cellN ns k : Nat) : Int) = cellAt ns k := Int.toNat_of_nonneg (cellAt_nn ns k)
theorem cellN_lt (ns : List Int) (k : Nat) : cellN ns k < 10 ^ 24 := by
  have : cellAt ns k < 10 ^ 24 := by
    unfold cellAt
    split
    · exact Int.lt_trans (Int.emod_lt_of_pos _ (by decide)) (by decide)
    · exact Int.emod_lt_of_pos _ (by decide)
  have h := cellN_eq ns k
  omega
def mixN (c p : Nat) : Nat := (c * 48271 + c / 65537) % p
def lowN (a b : Nat) : Nat × Nat := (a / Nat.gcd a b, b / Nat.gcd a b)
def farN (c : Nat) : Nat × Nat :=
  if c % 6 = 0 then (0, 1) else if c % 6 = 1 then (1, 1) else if c % 6 = 2 then (1 + c / 6 % 9, 1) else if c % 6 = 3 then (c / 6 % 10 ^ 20, 1)
  else lowN (c / 6 % 30) (1 + c / 6 / 30 % 12)
def prD (p : Nat × Nat) : D := .tup [.int (p.1 : Nat), .int (p.2 : Nat)]
def signsN : Str := Str.ofString "abcdefghijklmnopqrstuvwxyzABCDEFGHIJKLMNOPQRSTUVWXYZ0123456789"
def chN (i : Nat) : Str := ⟨#[signsN.cps.toList.getD i 0]⟩
def stemN (c : Nat) (size : Nat) : Str := Txt.join (Str.ofString "") ((List.range size).map fun j => chN ((c / 4 % 62 + 5 * j) % 62))
def nameB (c : Nat) (k : Nat) : Str :=
  let size := if c % 4 = 3 then 11 else c / 248 % 6
  let at_ := c / 1488 % (size + 1)
  cutS (stemN c size) none (some (at_ : Nat)) ++ chN ((c / 4 % 62 + 11 * k) % 62) ++ cutS (stemN c size) (some (at_ : Nat)) none
def namesN (c m : Nat) : List Str :=
  if c % 4 = 1 ∧ m < 13 then (List.range m).map fun k => strRep (chN (c / 4 % 62)) (k + 1)
  else if c % 4 = 2 then ((List.range m).map (nameB c)).set (c / 248 % m) (Str.ofString "*") else (List.range m).map (nameB c)
def amtS (a b : Nat) : Str := if b = 1 then toString ((a : Nat) : Int) else toString ((a : Nat) : Int) ++ "/" ++ toString ((b : Nat) : Int)
def pCell : Ps := fun ds q _ => ∃ (ns : List Int) (k : Nat), ds = [.scr ns, .int (k : Nat)] ∧ k ≤ 1000 ∧ ns.length ≤ 63 ∧ q (.int (cellN ns k : Nat))
def pMixed : Ps := fun ds q _ => ∃ c p : Nat, ds = [.int (c : Nat), .int (p : Nat)] ∧ c < 10 ^ 24 ∧ 0 < p ∧ q (.int (mixN c p : Nat))
def pLowest : Ps := fun ds q _ => ∃ a b : Nat, ds = [.int (a : Nat), .int (b : Nat)] ∧ a < 2 ^ 4000 ∧ 0 < b ∧ b < 2 ^ 4000 ∧ q (prD (lowN a b))
def pFar : Ps := fun ds q _ => ∃ c : Nat, ds = [.int (c : Nat)] ∧ c < 10 ^ 24 ∧ q (prD (farN c))
def pNames : Ps := fun ds q _ => ∃ c m : Nat, ds = [.int (c : Nat), .int (m : Nat)] ∧ c < 10 ^ 24 ∧ (1 ≤ m ∧ m ≤ 60) ∧ q (.lst ((namesN c m).map D.str))
def pAmt : Ps := fun ds q _ => ∃ a b : Nat, ds = [prD (a, b)] ∧ a < 2 ^ 900 ∧ b < 2 ^ 900 ∧ q (.str (amtS a b))
theorem mod_i (a b : Nat) : ((a : Nat) : Int) % ((b : Nat) : Int) = ((a % b : Nat) : Int) := (Int.natCast_emod a b).symm
theorem div_i (a b : Nat) : ((a : Nat) : Int) / ((b : Nat) : Int) = ((a / b : Nat) : Int) := (Int.natCast_ediv a b).symm
theorem eq_i (a b : Nat) : (((a : Nat) : Int) == ((b : Nat) : Int)) = (a == b) := by
  rw [Bool.eq_iff_iff, beq_iff_eq, beq_iff_eq]
  omega
section
variable {P : Program} {w : World} {K : PySem.W.Frag} {mg : Str → Option Value} {base : Heap}
theorem ok_cell {f : Addr} {fd : FuncData} (F : FunX K "_law_cell_at" "_law_cell_at" S__law_cell_at f fd) (T : TxtA mg) : FnOk P w K mg base (L2.CX P w) 1 f fd ["_law_script", "_law_k"] (toSp K (fsP pCell)) := by
  refine okP F sc__law_cell_at (fun ds q ex h => ?_) (fun cdv A outer s H E ds hr hx => ?_)
  · obtain ⟨ns, k, rfl, _⟩ := h
    rfl
  · refine ⟨_, (dss_cons (ds_if (dt_cmp (o_eq hr.units) (s_eq false) (d_callB c_len s_len rfl T.b_len PySem.boot_len (da_cons (dv 0) da_nil)) d_int (nomark _))
      (dss_one (ds_ret (d_op o_mod s_mod (d_op o_mul s_mul (d_op o_mul s_mul (dv 1) (dv 1)) d_int) d_int)))
      dss_nil)
      (dss_cons (ds_set (i := 2) sc__law_cell_at.nd rfl (Or.inl rfl) (d_op o_mul s_mul (d_op o_fdv s_fdv (dv 1) (d_callB c_len s_len rfl T.b_len PySem.boot_len (da_cons (dv 0) da_nil))) (d_op o_add s_add (d_op o_mul s_mul (d_op o_mul s_mul (dv 1) (dv 1)) d_int) d_int)))
      (dss_one (ds_ret (d_op o_mod s_mod (d_op o_add s_add (d_ix ix_any s_ix (dv 0) (d_op o_mod s_mod (dv 1) (d_callB c_len s_len rfl T.b_len PySem.boot_len (da_cons (dv 0) da_nil)))) (dv 2)) (d_op o_pow s_pow d_int d_int)))))), fun q ex h => ?_⟩
    obtain ⟨ns, k, rfl, hk, hn, h⟩ := h
    rw [cellN_eq] at h
    simp only [dSeq, dNext, dRet, dRetN, dIfS, dDrop, dOp, dV, dC, dUn, dTest, dAnd, dOr, dNot, dAndV, dOrV, dNotV, dIf, dCB, dCons, dNil, dTup, dLst, dCallP, dAsg, qName, qCons, qNil, qTup, dPar, dAug, dMth, dM1, dSl, dPart, dNoPart, dYes, startR, List.map_cons, List.map_nil, List.length_cons, List.length_nil, List.replicate, List.cons_append, List.nil_append, List.append_nil, List.getElem?_cons_zero, List.getElem?_cons_succ, List.set_cons_zero, List.set_cons_succ, List.set_nil, dAdd, dSub, dMul, dMod, dFdv, dPow, dShl, dShr, dBit, dLt, dCmp, dNeg, Nat.reduceAdd, Nat.reduceSub, Nat.zero_add, rd_len_scr, rd_len_lst, rd_len_tup, rd_len_str, rd_eq_int, rd_eq_str, rd_eq_bl, rd_eq_nn, rd_eq_ns, rd_eq_sn, rd_eq_ni, rd_eq_in, rd_eq_nt, rd_eq_tn, rd_eq_pair, rd_is_non, rd_is_bl, rd_str_int, rd_int_int, rd_int_bl, rd_ix0, rd_ix1, rd_lix0, rd_lix1, rd_list_lst, rd_list_tup, rd_listM_lst, rd_tuple_lst, DL.isNon, wipeR, if_true, if_false, Bool.false_eq_true, Bool.not_true, Bool.not_false, reduceIte]
    have hk2 : ((k : Nat) : Int).natAbs < 2 ^ 10 := b_nat (by omega)
    have kk := b_mul hk2 hk2
    have k3 := b_mul kk (show ((48271 : Int)).natAbs < 2 ^ 16 by decide)
    by_cases hl : ns.length = 0
    · rw [if_pos (by rw [hl]; rfl)]
      refine ⟨mulOk hk2 hk2, mulOk kk (b := 16) (by decide), by decide, retP_same ?_⟩
      unfold cellAt at h
      rw [if_pos hl] at h
      exact h
    · have hb : (((ns.length : Nat) : Int) == 0) = false := by
        rw [beq_eq_false_iff_ne]; omega
      rw [if_neg (by rw [hb]; decide)]
      have hlb : ((ns.length : Nat) : Int).natAbs < 2 ^ 7 := b_nat (by omega)
      refine ⟨divOk (by omega) hlb, mulOk hk2 hk2, mulOk kk (b := 16) (by decide), mulOk (b_div hk2) (b_add (b_le k3) (by decide : ((7 : Int)).natAbs < 2 ^ 36)), by omega, ?_⟩
      refine ix_scr' (by omega) (Int.emod_lt_of_pos _ (by omega)) ⟨⟨by decide, by decide⟩, by decide, retP_same ?_⟩
      unfold cellAt at h
      rw [if_neg hl] at h
      have e : ((k : Int) % (ns.length : Int)).toNat = k % ns.length := by rw [← Int.natCast_emod]; rfl
      rw [e]
      exact h
theorem ok_mixed {f : Addr} {fd : FuncData} (F : FunX K "_law_mixed" "_law_mixed" S__law_mixed f fd) : FnOk P w K mg base (L2.CX P w) 1 f fd ["_law_cell", "_law_prime"] (toSp K (fsP pMixed)) := by
  refine okP F sc__law_mixed (fun ds q ex h => ?_) (fun cdv A outer s H E ds hr hx => ?_)
  · obtain ⟨c, p, rfl, _⟩ := h
    rfl
  · refine ⟨_, (dss_one (ds_ret (d_op o_mod s_mod (d_op o_add s_add (d_op o_mul s_mul (dv 0) d_int) (d_op o_fdv s_fdv (dv 0) d_int)) (dv 1)))), fun q ex h => ?_⟩
    obtain ⟨c, p, rfl, hc, hp, h⟩ := h
    simp only [dSeq, dNext, dRet, dRetN, dIfS, dDrop, dOp, dV, dC, dUn, dTest, dAnd, dOr, dNot, dAndV, dOrV, dNotV, dIf, dCB, dCons, dNil, dTup, dLst, dCallP, dAsg, qName, qCons, qNil, qTup, dPar, dAug, dMth, dM1, dSl, dPart, dNoPart, dYes, startR, List.map_cons, List.map_nil, List.length_cons, List.length_nil, List.replicate, List.cons_append, List.nil_append, List.append_nil, List.getElem?_cons_zero, List.getElem?_cons_succ, List.set_cons_zero, List.set_cons_succ, List.set_nil, dAdd, dSub, dMul, dMod, dFdv, dPow, dShl, dShr, dBit, dLt, dCmp, dNeg, Nat.reduceAdd, Nat.reduceSub, Nat.zero_add, rd_len_scr, rd_len_lst, rd_len_tup, rd_len_str, rd_eq_int, rd_eq_str, rd_eq_bl, rd_eq_nn, rd_eq_ns, rd_eq_sn, rd_eq_ni, rd_eq_in, rd_eq_nt, rd_eq_tn, rd_eq_pair, rd_is_non, rd_is_bl, rd_str_int, rd_int_int, rd_int_bl, rd_ix0, rd_ix1, rd_lix0, rd_lix1, rd_list_lst, rd_list_tup, rd_listM_lst, rd_tuple_lst, DL.isNon, wipeR, if_true, if_false, Bool.false_eq_true, Bool.not_true, Bool.not_false, reduceIte]
    refine ⟨mulOk (a := 80) (b := 16) (b_nat (Nat.lt_trans hc (by decide))) (by decide), divOk (b := 17) (by decide) (by decide), by omega, retP_same ?_⟩
    have e : ((c : Int) * 48271 + (c : Int) / 65537) % (p : Int) = ((mixN c p : Nat) : Int) := by
      unfold mixN
      rw [← mod_i]
      congr 1
    rw [e]
    exact h
theorem ok_lowest {f : Addr} {fd : FuncData} (F : FunX K "_law_lowest" "_law_lowest" S__law_lowest f fd) : FnOk P w K mg base (L2.CX P w) 1 f fd ["_law_top", "_law_bottom"] (toSp K (fsP pLowest)) := by
  refine okP F sc__law_lowest (fun ds q ex h => ?_) (fun cdv A outer s H E ds hr hx => ?_)
  · obtain ⟨a, b, rfl, _⟩ := h
    rfl
  · refine ⟨_, (dss_cons (ds_set (i := 2) sc__law_lowest.nd rfl (Or.inl rfl) (dv 0))
      (dss_cons (ds_set (i := 3) sc__law_lowest.nd rfl (Or.inl rfl) (dv 1))
      (dss_cons (ds_while (passes_of rfl) (dt_cmp (o_ne hr.units) (s_eq true) (dv 3) d_int (nomark _))
      (dss_one (ds_par (i := 2) (j := 3) rfl sc__law_lowest.nd rfl rfl (by decide) rfl rfl (da_cons (dv 3) (da_cons (d_op o_mod s_mod (dv 2) (dv 3)) da_nil)) (by rfl))))
      (dss_one (ds_ret (d_tup (da_cons (d_op o_fdv s_fdv (dv 0) (dv 2)) (da_cons (d_op o_fdv s_fdv (dv 1) (dv 2)) da_nil)))))))), fun q ex h => ?_⟩
    obtain ⟨a, b, rfl, ha, hb0, hb, h⟩ := h
    simp only [dSeq, dNext, dRet, dRetN, dIfS, dDrop, dOp, dV, dC, dUn, dTest, dAnd, dOr, dNot, dAndV, dOrV, dNotV, dIf, dCB, dCons, dNil, dTup, dLst, dCallP, dAsg, qName, qCons, qNil, qTup, dPar, dAug, dMth, dM1, dSl, dPart, dNoPart, dYes, startR, List.map_cons, List.map_nil, List.length_cons, List.length_nil, List.replicate, List.cons_append, List.nil_append, List.append_nil, List.getElem?_cons_zero, List.getElem?_cons_succ, List.set_cons_zero, List.set_cons_succ, List.set_nil, dAdd, dSub, dMul, dMod, dFdv, dPow, dShl, dShr, dBit, dLt, dCmp, dNeg, Nat.reduceAdd, Nat.reduceSub, Nat.zero_add, rd_len_scr, rd_len_lst, rd_len_tup, rd_len_str, rd_eq_int, rd_eq_str, rd_eq_bl, rd_eq_nn, rd_eq_ns, rd_eq_sn, rd_eq_ni, rd_eq_in, rd_eq_nt, rd_eq_tn, rd_eq_pair, rd_is_non, rd_is_bl, rd_str_int, rd_int_int, rd_int_bl, rd_ix0, rd_ix1, rd_lix0, rd_lix1, rd_list_lst, rd_list_tup, rd_listM_lst, rd_tuple_lst, DL.isNon, wipeR, if_true, if_false, Bool.false_eq_true, Bool.not_true, Bool.not_false, reduceIte]
    refine while_ind (fun m ρ M => M = M0 ∧ ∃ x y : Nat, m = y ∧ ρ = [some (.int (a : Nat)), some (.int (b : Nat)), some (.int (x : Nat)), some (.int (y : Nat))] ∧ Nat.gcd x y = Nat.gcd a b) (m := b) ⟨rfl, a, b, rfl, rfl, rfl⟩ ?_
    rintro m ρ M ⟨rfl, x, y, e0, rfl, hg⟩ nx hnx
    subst m
    simp only [dSeq, dNext, dRet, dRetN, dIfS, dDrop, dOp, dV, dC, dUn, dTest, dAnd, dOr, dNot, dAndV, dOrV, dNotV, dIf, dCB, dCons, dNil, dTup, dLst, dCallP, dAsg, qName, qCons, qNil, qTup, dPar, dAug, dMth, dM1, dSl, dPart, dNoPart, dYes, startR, List.map_cons, List.map_nil, List.length_cons, List.length_nil, List.replicate, List.cons_append, List.nil_append, List.append_nil, List.getElem?_cons_zero, List.getElem?_cons_succ, List.set_cons_zero, List.set_cons_succ, List.set_nil, dAdd, dSub, dMul, dMod, dFdv, dPow, dShl, dShr, dBit, dLt, dCmp, dNeg, Nat.reduceAdd, Nat.reduceSub, Nat.zero_add, rd_len_scr, rd_len_lst, rd_len_tup, rd_len_str, rd_eq_int, rd_eq_str, rd_eq_bl, rd_eq_nn, rd_eq_ns, rd_eq_sn, rd_eq_ni, rd_eq_in, rd_eq_nt, rd_eq_tn, rd_eq_pair, rd_is_non, rd_is_bl, rd_str_int, rd_int_int, rd_int_bl, rd_ix0, rd_ix1, rd_lix0, rd_lix1, rd_list_lst, rd_list_tup, rd_listM_lst, rd_tuple_lst, DL.isNon, wipeR, if_true, if_false, Bool.false_eq_true, Bool.not_true, Bool.not_false, reduceIte]
    have bg : Nat.gcd a b ≤ b := Nat.le_of_dvd hb0 (Nat.gcd_dvd_right a b)
    have gp : 0 < Nat.gcd a b := Nat.gcd_pos_of_pos_right _ hb0
    by_cases hy : y = 0
    · subst hy
      rw [if_neg (by decide)]
      rw [Nat.gcd_zero_right] at hg
      subst hg
      have dx : DivOk ((Nat.gcd a b : Nat) : Int) := divOk (b := 4000) (by omega) (b_nat (Nat.lt_of_le_of_lt bg hb))
      exact ⟨dx, dx, by rw [sizeLine_eq]; decide, retP_same h⟩
    · have e : (!(((y : Nat) : Int) == 0)) = true := by
        rw [Bool.not_eq_true', beq_eq_false_iff_ne]; omega
      rw [if_pos e]
      exact ⟨by omega, hnx (x % y) _ _ (Nat.mod_lt _ (by omega)) ⟨rfl, y, x % y, rfl, rfl, by rw [← hg, Nat.gcd_comm y, ← Nat.gcd_rec, Nat.gcd_comm]⟩⟩
theorem ok_far {f : Addr} {fd : FuncData} (F : FunX K "_law_far" "_law_far" S__law_far f fd) (G__law_lowest : FnG P w K mg base 1 "_law_lowest" 0 [] (fsP pLowest)) : FnOk P w K mg base (L2.CX P w) 2 f fd ["_law_cell"] (toSp K (fsP pFar)) := by
  refine okP F sc__law_far (fun ds q ex h => ?_) (fun cdv A outer s H E ds hr hx => ?_)
  · obtain ⟨a, rfl, _⟩ := h
    rfl
  · refine ⟨_, (dss_cons (ds_set (i := 1) sc__law_far.nd rfl (Or.inl rfl) (d_op o_mod s_mod (dv 0) d_int))
      (dss_cons (ds_set (i := 2) sc__law_far.nd rfl (Or.inl rfl) (d_op o_fdv s_fdv (dv 0) d_int))
      (dss_cons (ds_if (dt_cmp (o_eq hr.units) (s_eq false) (dv 1) d_int (nomark _))
      (dss_one (ds_ret (d_tup (da_cons d_int (da_cons d_int da_nil)))))
      dss_nil)
      (dss_cons (ds_if (dt_cmp (o_eq hr.units) (s_eq false) (dv 1) d_int (nomark _))
      (dss_one (ds_ret (d_tup (da_cons d_int (da_cons d_int da_nil)))))
      dss_nil)
      (dss_cons (ds_if (dt_cmp (o_eq hr.units) (s_eq false) (dv 1) d_int (nomark _))
      (dss_one (ds_ret (d_tup (da_cons (d_op o_add s_add d_int (d_op o_mod s_mod (dv 2) d_int)) (da_cons d_int da_nil)))))
      dss_nil)
      (dss_cons (ds_if (dt_cmp (o_eq hr.units) (s_eq false) (dv 1) d_int (nomark _))
      (dss_one (ds_ret (d_tup (da_cons (d_op o_mod s_mod (dv 2) (d_op o_pow s_pow d_int d_int)) (da_cons d_int da_nil)))))
      dss_nil)
      (dss_one (ds_ret (d_callP G__law_lowest (hr.mono (by decide)) hx (da_cons (d_op o_mod s_mod (dv 2) d_int) (da_cons (d_op o_add s_add d_int (d_op o_mod s_mod (d_op o_fdv s_fdv (dv 2) d_int) d_int)) da_nil))))))))))), fun q ex h => ?_⟩
    obtain ⟨c, rfl, hc, h⟩ := h
    simp only [dSeq, dNext, dRet, dRetN, dIfS, dDrop, dOp, dV, dC, dUn, dTest, dAnd, dOr, dNot, dAndV, dOrV, dNotV, dIf, dCB, dCons, dNil, dTup, dLst, dCallP, dAsg, qName, qCons, qNil, qTup, dPar, dAug, dMth, dM1, dSl, dPart, dNoPart, dYes, startR, List.map_cons, List.map_nil, List.length_cons, List.length_nil, List.replicate, List.cons_append, List.nil_append, List.append_nil, List.getElem?_cons_zero, List.getElem?_cons_succ, List.set_cons_zero, List.set_cons_succ, List.set_nil, dAdd, dSub, dMul, dMod, dFdv, dPow, dShl, dShr, dBit, dLt, dCmp, dNeg, Nat.reduceAdd, Nat.reduceSub, Nat.zero_add, rd_len_scr, rd_len_lst, rd_len_tup, rd_len_str, rd_eq_int, rd_eq_str, rd_eq_bl, rd_eq_nn, rd_eq_ns, rd_eq_sn, rd_eq_ni, rd_eq_in, rd_eq_nt, rd_eq_tn, rd_eq_pair, rd_is_non, rd_is_bl, rd_str_int, rd_int_int, rd_int_bl, rd_ix0, rd_ix1, rd_lix0, rd_lix1, rd_list_lst, rd_list_tup, rd_listM_lst, rd_tuple_lst, DL.isNon, wipeR, if_true, if_false, Bool.false_eq_true, Bool.not_true, Bool.not_false, reduceIte]
    have sz : (2 : Nat) ≤ sizeLine := by rw [sizeLine_eq]; decide
    have fin : ∀ (x : Int) (y : Nat), x = (y : Nat) → q (prD (y, 1)) → retP q (.tup [.int x, .int 1]) M0 := fun x y e hq => by
      rw [e]; exact retP_same hq
    unfold farN at h
    refine ⟨by decide, divOk (b := 3) (by decide) (by decide), ?_⟩
    split
    · rename_i e
      have e := beq_iff_eq.mp e
      rw [if_pos (by omega)] at h
      exact ⟨sz, fin 0 0 rfl h⟩
    rename_i e
    have e0 : ¬ ((c : Int) % 6 = 0) := fun z => e (beq_iff_eq.mpr z)
    rw [if_neg (by omega)] at h
    split
    · rename_i e
      have e := beq_iff_eq.mp e
      rw [if_pos (by omega)] at h
      exact ⟨sz, fin 1 1 rfl h⟩
    rename_i e
    have e1 : ¬ ((c : Int) % 6 = 1) := fun z => e (beq_iff_eq.mpr z)
    rw [if_neg (by omega)] at h
    split
    · rename_i e
      have e := beq_iff_eq.mp e
      rw [if_pos (by omega)] at h
      exact ⟨by decide, sz, fin _ _ (by omega) h⟩
    rename_i e
    have e2 : ¬ ((c : Int) % 6 = 2) := fun z => e (beq_iff_eq.mpr z)
    rw [if_neg (by omega)] at h
    split
    · rename_i e
      have e := beq_iff_eq.mp e
      rw [if_pos (by omega)] at h
      refine ⟨⟨by decide, by decide⟩, by decide, sz, fin _ _ ?_ h⟩
      show ((c : Int) / ((6 : Nat) : Int)) % (((10 ^ 20 : Nat)) : Int) = _
      rw [div_i, mod_i]
    rename_i e
    have e3 : ¬ ((c : Int) % 6 = 3) := fun z => e (beq_iff_eq.mpr z)
    rw [if_neg (by omega)] at h
    refine ⟨by decide, divOk (b := 5) (by decide) (by decide), by decide, c / 6 % 30, 1 + c / 6 / 30 % 12, ?_, Nat.lt_trans (Nat.mod_lt _ (by decide)) (by decide), by omega, Nat.lt_trans (show 1 + c / 6 / 30 % 12 < 13 by omega) (by decide), retP_same h⟩
    have a1 : (c : Int) / 6 % 30 = ((c / 6 % 30 : Nat) : Int) := by omega
    have a2 : 1 + (c : Int) / 6 / 30 % 12 = ((1 + c / 6 / 30 % 12 : Nat) : Int) := by omega
    rw [a1, a2]
theorem ok_names {f : Addr} {fd : FuncData} (F : FunX K "_law_names" "_law_names" S__law_names f fd) (T : TxtA mg) : FnOk P w K mg base (L2.CX P w) 1 f fd ["_law_cell", "_law_many"] (toSp K (fsP pNames)) := by
  refine okP F sc__law_names (fun ds q ex h => ?_) (fun cdv A outer s H E ds hr hx => ?_)
  · obtain ⟨a, b, rfl, _⟩ := h
    rfl
  · refine ⟨_, (dss_cons (ds_set (i := 2) sc__law_names.nd rfl (Or.inr rfl) d_str)
      (dss_cons (ds_set (i := 3) sc__law_names.nd rfl (Or.inr rfl) (d_op o_mod s_mod (d_op o_fdv s_fdv (dv 0) d_int) d_int))
      (dss_cons (ds_ifE (dt_w (dw_and (dt_cmp (o_eq hr.units) (s_eq false) (d_op o_mod s_mod (dv 0) d_int) d_int (nomark _)) (dw_and1 (dt_cmp o_lt s_lt (dv 1) d_int (nomark _)))))
      (dss_one (ds_ret (d_lc (own := [("_law_k", 8)]) rfl sc__law_names.nd (di_range1 rfl T.b_range (da_cons (dv 1) da_nil)) (blkOk_by (own := [("_law_k", 8)]) (N := ["_law_cell", "_law_many", "_law_signs", "_law_first", "_law_size", "_law_at", "_law_stem", "_law_names_here", "_law_k", "_law_j"]) (sc := defScope S__law_names) (by decide +kernel)) (fun _ _ _ _ _ => gw_name (i := 8) sc__law_names.nd rfl (Or.inl rfl) (by decide)) (ts_nil (K := K)) (fun _ _ _ _ _ => (d_op o_mul s_mul (d_ix ix_any s_ix (dv 2) (dv 3)) (d_op o_add s_add (dv 8) d_int))))))
      dss_nil)
      (dss_cons (ds_set (i := 4) sc__law_names.nd rfl (Or.inl rfl) (d_ix ix_any s_ix (d_lst (da_cons (d_op o_mod s_mod (d_op o_fdv s_fdv (dv 0) d_int) d_int) (da_cons d_int da_nil))) (d_callTy c_int s_int rfl T.b_int boot_int (da_cons (d_cmp (o_eq hr.units) (s_eq false) (d_op o_mod s_mod (dv 0) d_int) d_int (nomark _)) da_nil))))
      (dss_cons (ds_set (i := 5) sc__law_names.nd rfl (Or.inr rfl) (d_op o_mod s_mod (d_op o_fdv s_fdv (dv 0) d_int) (d_op o_add s_add (dv 4) d_int)))
      (dss_cons (ds_set (i := 6) sc__law_names.nd rfl (Or.inr rfl) (d_m1 PySem.F.slot_str_join PySem.F.type_str_join mt_jn s_join d_str (d_lc (own := [("_law_j", 9)]) rfl sc__law_names.nd (di_range1 rfl T.b_range (da_cons (dv 4) da_nil)) (blkOk_by (own := [("_law_j", 9)]) (N := ["_law_cell", "_law_many", "_law_signs", "_law_first", "_law_size", "_law_at", "_law_stem", "_law_names_here", "_law_k", "_law_j"]) (sc := defScope S__law_names) (by decide +kernel)) (fun _ _ _ _ _ => gw_name (i := 9) sc__law_names.nd rfl (Or.inl rfl) (by decide)) (ts_nil (K := K)) (fun _ _ _ _ _ => (d_ix ix_any s_ix (dv 2) (d_op o_mod s_mod (d_op o_add s_add (dv 3) (d_op o_mul s_mul d_int (dv 9))) d_int))))))
      (dss_cons (ds_setLcM (i := 7) (own := [("_law_k", 8)]) rfl sc__law_names.nd rfl rfl (sw_true rfl rfl rfl (by decide +kernel)) (di_range1 rfl T.b_range (da_cons (dv 1) da_nil)) (blkOk_by (own := [("_law_k", 8)]) (N := ["_law_cell", "_law_many", "_law_signs", "_law_first", "_law_size", "_law_at", "_law_stem", "_law_names_here", "_law_k", "_law_j"]) (sc := defScope S__law_names) (by decide +kernel)) (fun _ _ _ _ _ => gw_name (i := 8) sc__law_names.nd rfl (Or.inl rfl) (by decide)) (ts_nil (K := K)) (fun _ _ _ _ _ => (d_op o_add s_add (d_op o_add s_add (d_slice (dv 6) do_none (do_some (dv 5))) (d_ix ix_any s_ix (dv 2) (d_op o_mod s_mod (d_op o_add s_add (dv 3) (d_op o_mul s_mul d_int (dv 8))) d_int))) (d_slice (dv 6) (do_some (dv 5)) do_none))))
      (dss_mid (ds_if (dt_cmp (o_eq hr.units) (s_eq false) (d_op o_mod s_mod (dv 0) d_int) d_int (nomark _))
      (dss_one (ds_asg d_str (dg_sub set_list ss_setL (dv 7) (d_op o_mod s_mod (d_op o_fdv s_fdv (dv 0) d_int) (dv 1)))))
      dss_nil)
      (dss_one (ds_ret (dv 7))))))))))), fun q ex h => ?_⟩
    obtain ⟨c, m, rfl, hc, hm, h⟩ := h
    simp only [dSeq, dNext, dRet, dRetN, dIfS, dDrop, dOp, dV, dC, dUn, dTest, dAnd, dOr, dNot, dAndV, dOrV, dNotV, dIf, dCB, dCons, dNil, dTup, dLst, dCallP, dAsg, qName, qCons, qNil, qTup, dPar, dAug, dMth, dM1, dSl, dPart, dNoPart, dYes, startR, List.map_cons, List.map_nil, List.length_cons, List.length_nil, List.replicate, List.cons_append, List.nil_append, List.append_nil, List.getElem?_cons_zero, List.getElem?_cons_succ, List.set_cons_zero, List.set_cons_succ, List.set_nil, dAdd, dSub, dMul, dMod, dFdv, dPow, dShl, dShr, dBit, dLt, dCmp, dNeg, Nat.reduceAdd, Nat.reduceSub, Nat.zero_add, rd_len_scr, rd_len_lst, rd_len_tup, rd_len_str, rd_eq_int, rd_eq_str, rd_eq_bl, rd_eq_nn, rd_eq_ns, rd_eq_sn, rd_eq_ni, rd_eq_in, rd_eq_nt, rd_eq_tn, rd_eq_pair, rd_is_non, rd_is_bl, rd_str_int, rd_int_int, rd_int_bl, rd_ix0, rd_ix1, rd_lix0, rd_lix1, rd_list_lst, rd_list_tup, rd_listM_lst, rd_tuple_lst, DL.isNon, wipeR, if_true, if_false, Bool.false_eq_true, Bool.not_true, Bool.not_false, reduceIte]
    have sz : (100000 : Nat) ≤ sizeLine := by rw [sizeLine_eq]; decide
    have hsl : signsN.length = 62 := rfl
    have hsl2 : signsN.cps.toList.length = 62 := rfl
    unfold namesN at h
    have sg : ∀ (i : Nat) (Q : QX) (M : MS) (j : Int), i < 62 → j = (i : Nat) → Q (.str (chN i)) M → dIx (.str signsN) (.int j) M Q := fun i Q M j hi e hq => by
      rw [e]
      refine ix_str (by omega) (by omega) (c := signsN.cps.toList.getD i 0) ?_ hq
      rw [Int.toNat_natCast, List.getD_eq_getElem?_getD, List.getElem?_eq_getElem (by omega)]
      rfl
    generalize hsn : (Str.ofString "abcdefghijklmnopqrstuvwxyzABCDEFGHIJKLMNOPQRSTUVWXYZ0123456789") = sn
    have hsn2 : sn = signsN := hsn.symm
    subst hsn2
    have one : ∀ k : Nat, (chN k).length = 1 := fun _ => rfl
    refine ⟨divOk (b := 3) (by decide) (by decide), by decide, ifE_of (decide (c % 4 = 1 ∧ m < 13)) ?_ ?_⟩
    · simp only [dSeq, dNext, dRet, dRetN, dIfS, dDrop, dOp, dV, dC, dUn, dTest, dAnd, dOr, dNot, dAndV, dOrV, dNotV, dIf, dCB, dCons, dNil, dTup, dLst, dCallP, dAsg, qName, qCons, qNil, qTup, dPar, dAug, dMth, dM1, dSl, dPart, dNoPart, dYes, startR, List.map_cons, List.map_nil, List.length_cons, List.length_nil, List.replicate, List.cons_append, List.nil_append, List.append_nil, List.getElem?_cons_zero, List.getElem?_cons_succ, List.set_cons_zero, List.set_cons_succ, List.set_nil, dAdd, dSub, dMul, dMod, dFdv, dPow, dShl, dShr, dBit, dLt, dCmp, dNeg, Nat.reduceAdd, Nat.reduceSub, Nat.zero_add, rd_len_scr, rd_len_lst, rd_len_tup, rd_len_str, rd_eq_int, rd_eq_str, rd_eq_bl, rd_eq_nn, rd_eq_ns, rd_eq_sn, rd_eq_ni, rd_eq_in, rd_eq_nt, rd_eq_tn, rd_eq_pair, rd_is_non, rd_is_bl, rd_str_int, rd_int_int, rd_int_bl, rd_ix0, rd_ix1, rd_lix0, rd_lix1, rd_list_lst, rd_list_tup, rd_listM_lst, rd_tuple_lst, DL.isNon, wipeR, if_true, if_false, Bool.false_eq_true, Bool.not_true, Bool.not_false, reduceIte]
      refine ⟨by decide, ?_⟩
      split
      · rename_i e
        have e := beq_iff_eq.mp e
        refine ⟨?_, rfl⟩
        rw [Bool.eq_iff_iff, decide_eq_true_iff, decide_eq_true_iff]
        omega
      · rename_i e
        have e : ¬ ((c : Int) % 4 = 1) := fun z => e (beq_iff_eq.mpr z)
        refine ⟨?_, rfl⟩
        symm
        exact decide_eq_false fun z => e (by omega)
    split
    · rename_i e
      have e := of_decide_eq_true e
      rw [if_pos e] at h
      simp only [dSeq, dNext, dRet, dRetN, dIfS, dDrop, dOp, dV, dC, dUn, dTest, dAnd, dOr, dNot, dAndV, dOrV, dNotV, dIf, dCB, dCons, dNil, dTup, dLst, dCallP, dAsg, qName, qCons, qNil, qTup, dPar, dAug, dMth, dM1, dSl, dPart, dNoPart, dYes, startR, List.map_cons, List.map_nil, List.length_cons, List.length_nil, List.replicate, List.cons_append, List.nil_append, List.append_nil, List.getElem?_cons_zero, List.getElem?_cons_succ, List.set_cons_zero, List.set_cons_succ, List.set_nil, dAdd, dSub, dMul, dMod, dFdv, dPow, dShl, dShr, dBit, dLt, dCmp, dNeg, Nat.reduceAdd, Nat.reduceSub, Nat.zero_add, rd_len_scr, rd_len_lst, rd_len_tup, rd_len_str, rd_eq_int, rd_eq_str, rd_eq_bl, rd_eq_nn, rd_eq_ns, rd_eq_sn, rd_eq_ni, rd_eq_in, rd_eq_nt, rd_eq_tn, rd_eq_pair, rd_is_non, rd_is_bl, rd_str_int, rd_int_int, rd_int_bl, rd_ix0, rd_ix1, rd_lix0, rd_lix1, rd_list_lst, rd_list_tup, rd_listM_lst, rd_tuple_lst, DL.isNon, wipeR, if_true, if_false, Bool.false_eq_true, Bool.not_true, Bool.not_false, reduceIte, dLc, dRng1]
      refine ⟨⟨by omega, by omega⟩, ?_⟩
      rw [intsD_nat]
      refine lc_mapG _ (fun k : Nat => .str (strRep (chN (c / 4 % 62)) (k + 1))) _ _ (by rw [List.length_nil, List.length_range]; omega) (fun k hk Q hQ => ?_) ?_
      · rw [List.mem_range] at hk
        simp only [dSeq, dNext, dRet, dRetN, dIfS, dDrop, dOp, dV, dC, dUn, dTest, dAnd, dOr, dNot, dAndV, dOrV, dNotV, dIf, dCB, dCons, dNil, dTup, dLst, dCallP, dAsg, qName, qCons, qNil, qTup, dPar, dAug, dMth, dM1, dSl, dPart, dNoPart, dYes, startR, List.map_cons, List.map_nil, List.length_cons, List.length_nil, List.replicate, List.cons_append, List.nil_append, List.append_nil, List.getElem?_cons_zero, List.getElem?_cons_succ, List.set_cons_zero, List.set_cons_succ, List.set_nil, dAdd, dSub, dMul, dMod, dFdv, dPow, dShl, dShr, dBit, dLt, dCmp, dNeg, Nat.reduceAdd, Nat.reduceSub, Nat.zero_add, rd_len_scr, rd_len_lst, rd_len_tup, rd_len_str, rd_eq_int, rd_eq_str, rd_eq_bl, rd_eq_nn, rd_eq_ns, rd_eq_sn, rd_eq_ni, rd_eq_in, rd_eq_nt, rd_eq_tn, rd_eq_pair, rd_is_non, rd_is_bl, rd_str_int, rd_int_int, rd_int_bl, rd_ix0, rd_ix1, rd_lix0, rd_lix1, rd_list_lst, rd_list_tup, rd_listM_lst, rd_tuple_lst, DL.isNon, wipeR, if_true, if_false, Bool.false_eq_true, Bool.not_true, Bool.not_false, reduceIte]
        refine sg (c / 4 % 62) _ _ _ (by omega) (by omega) ⟨⟨by omega, by omega, by rw [one]; decide⟩, ?_⟩
        rw [show ((k : Int) + 1).toNat = k + 1 by omega]
        exact hQ
      · refine retP_same ?_
        rw [List.nil_append]
        rw [List.map_map] at h
        exact h
    · rename_i e
      have e : ¬ (c % 4 = 1 ∧ m < 13) := fun z => e (decide_eq_true z)
      rw [if_neg e] at h
      simp only [dSeq, dNext, dRet, dRetN, dIfS, dDrop, dOp, dV, dC, dUn, dTest, dAnd, dOr, dNot, dAndV, dOrV, dNotV, dIf, dCB, dCons, dNil, dTup, dLst, dCallP, dAsg, qName, qCons, qNil, qTup, dPar, dAug, dMth, dM1, dSl, dPart, dNoPart, dYes, startR, List.map_cons, List.map_nil, List.length_cons, List.length_nil, List.replicate, List.cons_append, List.nil_append, List.append_nil, List.getElem?_cons_zero, List.getElem?_cons_succ, List.set_cons_zero, List.set_cons_succ, List.set_nil, dAdd, dSub, dMul, dMod, dFdv, dPow, dShl, dShr, dBit, dLt, dCmp, dNeg, Nat.reduceAdd, Nat.reduceSub, Nat.zero_add, rd_len_scr, rd_len_lst, rd_len_tup, rd_len_str, rd_eq_int, rd_eq_str, rd_eq_bl, rd_eq_nn, rd_eq_ns, rd_eq_sn, rd_eq_ni, rd_eq_in, rd_eq_nt, rd_eq_tn, rd_eq_pair, rd_is_non, rd_is_bl, rd_str_int, rd_int_int, rd_int_bl, rd_ix0, rd_ix1, rd_lix0, rd_lix1, rd_list_lst, rd_list_tup, rd_listM_lst, rd_tuple_lst, DL.isNon, wipeR, if_true, if_false, Bool.false_eq_true, Bool.not_true, Bool.not_false, reduceIte]
      refine ⟨divOk (b := 8) (by decide) (by decide), by decide, by omega, by decide, ?_⟩
      have pick : ∀ Q : QX, Q (.int ((if c % 4 = 3 then 11 else c / 248 % 6 : Nat))) M0 → dIx (D.lst [D.int ((c : Int) / 248 % 6), D.int 11]) (D.int (if ((c : Int) % 4 == 3) = true then 1 else 0)) M0 Q := fun Q hQ => by
        split
        · rename_i e3
          have e3 := beq_iff_eq.mp e3
          rw [if_pos (by omega)] at hQ
          exact hQ
        · rename_i e3
          have e3 : ¬ ((c : Int) % 4 = 3) := fun z => e3 (beq_iff_eq.mpr z)
          rw [if_neg (by omega)] at hQ
          have : (c : Int) / 248 % 6 = ((c / 248 % 6 : Nat) : Int) := by omega
          rw [this]
          exact hQ
      refine pick _ ?_
      have hnb : nameB c = fun k => cutS (stemN c (if c % 4 = 3 then 11 else c / 248 % 6)) none (some ((c / 1488 % ((if c % 4 = 3 then 11 else c / 248 % 6) + 1) : Nat) : Int)) ++ chN ((c / 4 % 62 + 11 * k) % 62) ++ cutS (stemN c (if c % 4 = 3 then 11 else c / 248 % 6)) (some ((c / 1488 % ((if c % 4 = 3 then 11 else c / 248 % 6) + 1) : Nat) : Int)) none := rfl
      have hv : (if c % 4 = 3 then 11 else c / 248 % 6) ≤ 11 := by split <;> omega
      generalize (if c % 4 = 3 then 11 else c / 248 % 6) = v at hnb hv ⊢
      refine ⟨divOk (b := 11) (by decide) (by decide), by show 0 < (v : Int) + 1; omega, trivial, ?_⟩
      simp only [dSeq, dNext, dRet, dRetN, dIfS, dDrop, dOp, dV, dC, dUn, dTest, dAnd, dOr, dNot, dAndV, dOrV, dNotV, dIf, dCB, dCons, dNil, dTup, dLst, dCallP, dAsg, qName, qCons, qNil, qTup, dPar, dAug, dMth, dM1, dSl, dPart, dNoPart, dYes, startR, List.map_cons, List.map_nil, List.length_cons, List.length_nil, List.replicate, List.cons_append, List.nil_append, List.append_nil, List.getElem?_cons_zero, List.getElem?_cons_succ, List.set_cons_zero, List.set_cons_succ, List.set_nil, dAdd, dSub, dMul, dMod, dFdv, dPow, dShl, dShr, dBit, dLt, dCmp, dNeg, Nat.reduceAdd, Nat.reduceSub, Nat.zero_add, rd_len_scr, rd_len_lst, rd_len_tup, rd_len_str, rd_eq_int, rd_eq_str, rd_eq_bl, rd_eq_nn, rd_eq_ns, rd_eq_sn, rd_eq_ni, rd_eq_in, rd_eq_nt, rd_eq_tn, rd_eq_pair, rd_is_non, rd_is_bl, rd_str_int, rd_int_int, rd_int_bl, rd_ix0, rd_ix1, rd_lix0, rd_lix1, rd_list_lst, rd_list_tup, rd_listM_lst, rd_tuple_lst, DL.isNon, wipeR, if_true, if_false, Bool.false_eq_true, Bool.not_true, Bool.not_false, reduceIte, dLc, dRng1]
      refine ⟨⟨by omega, by omega⟩, ?_⟩
      rw [intsD_nat]
      refine lc_mapG _ (fun j : Nat => .str (chN ((c / 4 % 62 + 5 * j) % 62))) _ _ (by rw [List.length_nil, List.length_range]; omega) (fun j hj Q hQ => ?_) ?_
      · rw [List.mem_range] at hj
        simp only [dSeq, dNext, dRet, dRetN, dIfS, dDrop, dOp, dV, dC, dUn, dTest, dAnd, dOr, dNot, dAndV, dOrV, dNotV, dIf, dCB, dCons, dNil, dTup, dLst, dCallP, dAsg, qName, qCons, qNil, qTup, dPar, dAug, dMth, dM1, dSl, dPart, dNoPart, dYes, startR, List.map_cons, List.map_nil, List.length_cons, List.length_nil, List.replicate, List.cons_append, List.nil_append, List.append_nil, List.getElem?_cons_zero, List.getElem?_cons_succ, List.set_cons_zero, List.set_cons_succ, List.set_nil, dAdd, dSub, dMul, dMod, dFdv, dPow, dShl, dShr, dBit, dLt, dCmp, dNeg, Nat.reduceAdd, Nat.reduceSub, Nat.zero_add, rd_len_scr, rd_len_lst, rd_len_tup, rd_len_str, rd_eq_int, rd_eq_str, rd_eq_bl, rd_eq_nn, rd_eq_ns, rd_eq_sn, rd_eq_ni, rd_eq_in, rd_eq_nt, rd_eq_tn, rd_eq_pair, rd_is_non, rd_is_bl, rd_str_int, rd_int_int, rd_int_bl, rd_ix0, rd_ix1, rd_lix0, rd_lix1, rd_list_lst, rd_list_tup, rd_listM_lst, rd_tuple_lst, DL.isNon, wipeR, if_true, if_false, Bool.false_eq_true, Bool.not_true, Bool.not_false, reduceIte]
        exact ⟨mulOk (a := 3) (b := 8) (by decide) (by omega), by decide, sg ((c / 4 % 62 + 5 * j) % 62) _ _ _ (by omega) (by omega) hQ⟩
      rw [List.nil_append]
      have hs := sum_le (·.length) 1 ((List.range v).map fun j => chN ((c / 4 % 62 + 5 * j) % 62)) fun y hy => by
        obtain ⟨k, _, rfl⟩ := List.mem_map.mp hy
        exact Nat.le_of_eq (one _)
      have hj := join_le (Str.ofString "") ((List.range v).map fun j => chN ((c / 4 % 62 + 5 * j) % 62))
      have he : (Str.ofString "").length = 0 := rfl
      rw [List.length_map, List.length_range] at hs
      rw [he, List.length_map, List.length_range] at hj
      refine join_of (zs := (List.range v).map fun j => chN ((c / 4 % 62 + 5 * j) % 62)) (by rw [List.map_map]; rfl) (by rw [he]; omega) ?_
      show dLcM _ _ _ _ _ [_, _, _, _, _, _, some (D.str (stemN c v)), _, _, _] _ _ _
      have hst : (stemN c v).length ≤ 11 := by
        have : (stemN c v).length ≤ _ := hj
        omega
      generalize stemN c v = stem at hnb hst ⊢
      have ea : (c : Int) / 1488 % ((v : Int) + 1) = ((c / 1488 % (v + 1) : Nat) : Int) := by
        rw [show (v : Int) + 1 = ((v + 1 : Nat) : Int) by omega, show (c : Int) / 1488 = ((c / 1488 : Nat) : Int) by omega, mod_i]
      rw [ea]
      have hat : c / 1488 % (v + 1) ≤ v := by have := Nat.mod_lt (c / 1488) (show 0 < v + 1 by omega); omega
      generalize c / 1488 % (v + 1) = at0 at hnb hat ⊢
      simp only [dSeq, dNext, dRet, dRetN, dIfS, dDrop, dOp, dV, dC, dUn, dTest, dAnd, dOr, dNot, dAndV, dOrV, dNotV, dIf, dCB, dCons, dNil, dTup, dLst, dCallP, dAsg, qName, qCons, qNil, qTup, dPar, dAug, dMth, dM1, dSl, dPart, dNoPart, dYes, startR, List.map_cons, List.map_nil, List.length_cons, List.length_nil, List.replicate, List.cons_append, List.nil_append, List.append_nil, List.getElem?_cons_zero, List.getElem?_cons_succ, List.set_cons_zero, List.set_cons_succ, List.set_nil, dAdd, dSub, dMul, dMod, dFdv, dPow, dShl, dShr, dBit, dLt, dCmp, dNeg, Nat.reduceAdd, Nat.reduceSub, Nat.zero_add, rd_len_scr, rd_len_lst, rd_len_tup, rd_len_str, rd_eq_int, rd_eq_str, rd_eq_bl, rd_eq_nn, rd_eq_ns, rd_eq_sn, rd_eq_ni, rd_eq_in, rd_eq_nt, rd_eq_tn, rd_eq_pair, rd_is_non, rd_is_bl, rd_str_int, rd_int_int, rd_int_bl, rd_ix0, rd_ix1, rd_lix0, rd_lix1, rd_list_lst, rd_list_tup, rd_listM_lst, rd_tuple_lst, DL.isNon, wipeR, if_true, if_false, Bool.false_eq_true, Bool.not_true, Bool.not_false, reduceIte, dLcM, dRng1]
      refine ⟨⟨by omega, by omega⟩, ?_⟩
      rw [intsD_nat]
      refine lc_mapG _ (fun k : Nat => .str (nameB c k)) _ _ (by rw [List.length_nil, List.length_range]; omega) (fun k hk Q hQ => ?_) ?_
      · rw [List.mem_range] at hk
        simp only [dSeq, dNext, dRet, dRetN, dIfS, dDrop, dOp, dV, dC, dUn, dTest, dAnd, dOr, dNot, dAndV, dOrV, dNotV, dIf, dCB, dCons, dNil, dTup, dLst, dCallP, dAsg, qName, qCons, qNil, qTup, dPar, dAug, dMth, dM1, dSl, dPart, dNoPart, dYes, startR, List.map_cons, List.map_nil, List.length_cons, List.length_nil, List.replicate, List.cons_append, List.nil_append, List.append_nil, List.getElem?_cons_zero, List.getElem?_cons_succ, List.set_cons_zero, List.set_cons_succ, List.set_nil, dAdd, dSub, dMul, dMod, dFdv, dPow, dShl, dShr, dBit, dLt, dCmp, dNeg, Nat.reduceAdd, Nat.reduceSub, Nat.zero_add, rd_len_scr, rd_len_lst, rd_len_tup, rd_len_str, rd_eq_int, rd_eq_str, rd_eq_bl, rd_eq_nn, rd_eq_ns, rd_eq_sn, rd_eq_ni, rd_eq_in, rd_eq_nt, rd_eq_tn, rd_eq_pair, rd_is_non, rd_is_bl, rd_str_int, rd_int_int, rd_int_bl, rd_ix0, rd_ix1, rd_lix0, rd_lix1, rd_list_lst, rd_list_tup, rd_listM_lst, rd_tuple_lst, DL.isNon, wipeR, if_true, if_false, Bool.false_eq_true, Bool.not_true, Bool.not_false, reduceIte]
        refine ⟨by omega, mulOk (a := 4) (b := 7) (by decide) (by omega), by decide, sg ((c / 4 % 62 + 11 * k) % 62) _ _ _ (by omega) (by omega) ?_⟩
        have ct := cutS_two stem at0
        have h1 := one ((c / 4 % 62 + 11 * k) % 62)
        refine ⟨by omega, by omega, by rw [Str.length_append]; omega, ?_⟩
        rw [hnb] at hQ
        exact hQ
      intro l hl0
      rw [List.nil_append]
      have hlen : ((List.range m).map fun k => D.str (nameB c k)).length = m := by rw [List.length_map, List.length_range]
      have hmm : ((List.range m).map fun k => D.str (nameB c k)) = ((List.range m).map (nameB c)).map D.str := by rw [List.map_map]; rfl
      refine ⟨fun ρ' M' => ρ'[7]? = some (some (D.ref l)) ∧ M' = updM M0 l (.lst ((if c % 4 = 2 then ((List.range m).map (nameB c)).set (c / 248 % m) (Str.ofString "*") else (List.range m).map (nameB c)).map D.str)), ?_, ?_⟩
      · simp only [dSeq, dNext, dRet, dRetN, dIfS, dDrop, dOp, dV, dC, dUn, dTest, dAnd, dOr, dNot, dAndV, dOrV, dNotV, dIf, dCB, dCons, dNil, dTup, dLst, dCallP, dAsg, qName, qCons, qNil, qTup, dPar, dAug, dMth, dM1, dSl, dPart, dNoPart, dYes, startR, List.map_cons, List.map_nil, List.length_cons, List.length_nil, List.replicate, List.cons_append, List.nil_append, List.append_nil, List.getElem?_cons_zero, List.getElem?_cons_succ, List.set_cons_zero, List.set_cons_succ, List.set_nil, dAdd, dSub, dMul, dMod, dFdv, dPow, dShl, dShr, dBit, dLt, dCmp, dNeg, Nat.reduceAdd, Nat.reduceSub, Nat.zero_add, rd_len_scr, rd_len_lst, rd_len_tup, rd_len_str, rd_eq_int, rd_eq_str, rd_eq_bl, rd_eq_nn, rd_eq_ns, rd_eq_sn, rd_eq_ni, rd_eq_in, rd_eq_nt, rd_eq_tn, rd_eq_pair, rd_is_non, rd_is_bl, rd_str_int, rd_int_int, rd_int_bl, rd_ix0, rd_ix1, rd_lix0, rd_lix1, rd_list_lst, rd_list_tup, rd_listM_lst, rd_tuple_lst, DL.isNon, wipeR, if_true, if_false, Bool.false_eq_true, Bool.not_true, Bool.not_false, reduceIte]
        refine ⟨by decide, ?_⟩
        split
        · rename_i e2
          have e2 := beq_iff_eq.mp e2
          rw [if_pos (by omega)]
          show (DivOk 248 ∧ (0 : Int) < (m : Nat) ∧ sSetL (.ref l) (.int ((c : Int) / 248 % (m : Nat))) _ _ _)
          refine ⟨divOk (b := 8) (by decide) (by decide), by omega, ?_⟩
          have ee : (c : Int) / 248 % (m : Int) = ((c / 248 % m : Nat) : Int) := by rw [show (c : Int) / 248 = ((c / 248 : Nat) : Int) by omega, mod_i]
          have hlt := Nat.mod_lt (c / 248) (show 0 < m by omega)
          rw [ee]
          refine setL_of updM_same (by omega) (by rw [hlen]; omega) ⟨rfl, ?_⟩
          rw [updM_updM, Int.toNat_natCast, hmm, ← List.map_set]
        · rename_i e2
          have e2 : ¬ ((c : Int) % 4 = 2) := fun z => e2 (beq_iff_eq.mpr z)
          rw [if_neg (by omega), hmm]
          exact ⟨trivial, rfl⟩
      · rintro ρ' M' ⟨hr7, rfl⟩
        show (match ρ'[7]? with | some (some d) => retP q d _ | _ => False)
        rw [hr7]
        exact retP_lst updM_same h
theorem ok_atext {f : Addr} {fd : FuncData} (F : FunX K "_law_amount_text" "_law_amount_text" S__law_amount_text f fd) (T : TxtA mg) : FnOk P w K mg base (L2.CX P w) 1 f fd ["_law_far_here"] (toSp K (fsP pAmt)) := by
  refine okP F sc__law_amount_text (fun ds q ex h => ?_) (fun cdv A outer s H E ds hr hx => ?_)
  · obtain ⟨a, b, rfl, _⟩ := h
    rfl
  · refine ⟨_, (dss_cons (ds_if (dt_cmp (o_eq hr.units) (s_eq false) (d_ix ix_any s_ix (dv 0) d_int) d_int (nomark _))
      (dss_one (ds_ret (d_callTy c_str s_str rfl T.b_str boot_str (da_cons (d_ix ix_any s_ix (dv 0) d_int) da_nil))))
      dss_nil)
      (dss_one (ds_ret (d_op o_add s_add (d_op o_add s_add (d_callTy c_str s_str rfl T.b_str boot_str (da_cons (d_ix ix_any s_ix (dv 0) d_int) da_nil)) d_str) (d_callTy c_str s_str rfl T.b_str boot_str (da_cons (d_ix ix_any s_ix (dv 0) d_int) da_nil)))))), fun q ex h => ?_⟩
    obtain ⟨a, b, rfl, ha, hb, h⟩ := h
    simp only [dSeq, dNext, dRet, dRetN, dIfS, dDrop, dOp, dV, dC, dUn, dTest, dAnd, dOr, dNot, dAndV, dOrV, dNotV, dIf, dCB, dCons, dNil, dTup, dLst, dCallP, dAsg, qName, qCons, qNil, qTup, dPar, dAug, dMth, dM1, dSl, dPart, dNoPart, dYes, startR, List.map_cons, List.map_nil, List.length_cons, List.length_nil, List.replicate, List.cons_append, List.nil_append, List.append_nil, List.getElem?_cons_zero, List.getElem?_cons_succ, List.set_cons_zero, List.set_cons_succ, List.set_nil, dAdd, dSub, dMul, dMod, dFdv, dPow, dShl, dShr, dBit, dLt, dCmp, dNeg, Nat.reduceAdd, Nat.reduceSub, Nat.zero_add, rd_len_scr, rd_len_lst, rd_len_tup, rd_len_str, rd_eq_int, rd_eq_str, rd_eq_bl, rd_eq_nn, rd_eq_ns, rd_eq_sn, rd_eq_ni, rd_eq_in, rd_eq_nt, rd_eq_tn, rd_eq_pair, rd_is_non, rd_is_bl, rd_str_int, rd_int_int, rd_int_bl, rd_ix0, rd_ix1, rd_lix0, rd_lix1, rd_list_lst, rd_list_tup, rd_listM_lst, rd_tuple_lst, DL.isNon, wipeR, if_true, if_false, Bool.false_eq_true, Bool.not_true, Bool.not_false, reduceIte, prD]
    have l1 : ((a : Nat) : Int).natAbs.log2 < 900 := log2_lt (b_nat ha)
    have l2 : ((b : Nat) : Int).natAbs.log2 < 900 := log2_lt (b_nat hb)
    unfold amtS at h
    by_cases e : b = 1
    · rw [if_pos (by subst e; rfl)]
      rw [if_pos e] at h
      exact ⟨by omega, retP_same h⟩
    · rw [if_neg (by rw [beq_iff_eq]; omega)]
      rw [if_neg e] at h
      have t1 := intText_len (by decide) l1
      have t2 := intText_len (by decide) l2
      have t3 : (Str.ofString "/").length = 1 := rfl
      refine ⟨by omega, by rw [sizeLine_eq]; omega, by omega, ?_, retP_same h⟩
      rw [Str.length_append, sizeLine_eq]
      omega

theorem ok_samt {f : Addr} {fd : FuncData} (F : FunX K "shown_amount" "shown_amount" S_shown_amount f fd) (T : TxtA mg) : FnOk P w K mg base (L2.CX P w) 1 f fd ["one"] (toSp K (fsP pAmt)) := by
  refine okP F sc_shown_amount (fun ds q ex h => ?_) (fun cdv A outer s H E ds hr hx => ?_)
  · obtain ⟨a, b, rfl, _⟩ := h
    rfl
  · refine ⟨_, (dss_cons (ds_if (dt_cmp (o_eq hr.units) (s_eq false) (d_ix ix_any s_ix (dv 0) d_int) d_int (nomark _))
      (dss_one (ds_ret (d_callTy c_str s_str rfl T.b_str boot_str (da_cons (d_ix ix_any s_ix (dv 0) d_int) da_nil))))
      dss_nil)
      (dss_one (ds_ret (d_op o_add s_add (d_op o_add s_add (d_callTy c_str s_str rfl T.b_str boot_str (da_cons (d_ix ix_any s_ix (dv 0) d_int) da_nil)) d_str) (d_callTy c_str s_str rfl T.b_str boot_str (da_cons (d_ix ix_any s_ix (dv 0) d_int) da_nil)))))), fun q ex h => ?_⟩
    obtain ⟨a, b, rfl, ha, hb, h⟩ := h
    simp only [dSeq, dNext, dRet, dRetN, dIfS, dDrop, dOp, dV, dC, dUn, dTest, dAnd, dOr, dNot, dAndV, dOrV, dNotV, dIf, dCB, dCons, dNil, dTup, dLst, dCallP, dAsg, qName, qCons, qNil, qTup, dPar, dAug, dMth, dM1, dSl, dPart, dNoPart, dYes, startR, List.map_cons, List.map_nil, List.length_cons, List.length_nil, List.replicate, List.cons_append, List.nil_append, List.append_nil, List.getElem?_cons_zero, List.getElem?_cons_succ, List.set_cons_zero, List.set_cons_succ, List.set_nil, dAdd, dSub, dMul, dMod, dFdv, dPow, dShl, dShr, dBit, dLt, dCmp, dNeg, Nat.reduceAdd, Nat.reduceSub, Nat.zero_add, rd_len_scr, rd_len_lst, rd_len_tup, rd_len_str, rd_eq_int, rd_eq_str, rd_eq_bl, rd_eq_nn, rd_eq_ns, rd_eq_sn, rd_eq_ni, rd_eq_in, rd_eq_nt, rd_eq_tn, rd_eq_pair, rd_is_non, rd_is_bl, rd_str_int, rd_int_int, rd_int_bl, rd_ix0, rd_ix1, rd_lix0, rd_lix1, rd_list_lst, rd_list_tup, rd_listM_lst, rd_tuple_lst, DL.isNon, wipeR, if_true, if_false, Bool.false_eq_true, Bool.not_true, Bool.not_false, reduceIte, prD]
    have l1 : ((a : Nat) : Int).natAbs.log2 < 900 := log2_lt (b_nat ha)
    have l2 : ((b : Nat) : Int).natAbs.log2 < 900 := log2_lt (b_nat hb)
    unfold amtS at h
    by_cases e : b = 1
    · rw [if_pos (by subst e; rfl)]
      rw [if_pos e] at h
      exact ⟨by omega, retP_same h⟩
    · rw [if_neg (by rw [beq_iff_eq]; omega)]
      rw [if_neg e] at h
      have t1 := intText_len (by decide) l1
      have t2 := intText_len (by decide) l2
      have t3 : (Str.ofString "/").length = 1 := rfl
      refine ⟨by omega, by rw [sizeLine_eq]; omega, by omega, ?_, retP_same h⟩
      rw [Str.length_append, sizeLine_eq]
      omega

end

end LM
namespace LM
open PySem L2 DL PySem.Spec PyProof.Rows
abbrev S_Node_below : Stmt := inClass (topS 19) 1
theorem sc_Node_below : FnScope ["self"] ["self"] (defScope S_Node_below) := ⟨rfl, rfl, rfl, by decide +kernel, rfl, by decide +kernel, by decide +kernel⟩
abbrev S_Join_below : Stmt := inClass (topS 21) 1
theorem sc_Join_below : FnScope ["self"] ["self"] (defScope S_Join_below) := ⟨rfl, rfl, rfl, by decide +kernel, rfl, by decide +kernel, by decide +kernel⟩
abbrev S_Node_core : Stmt := inClass (topS 19) 2
theorem sc_Node_core : FnScope ["self"] ["self"] (defScope S_Node_core) := ⟨rfl, rfl, rfl, by decide +kernel, rfl, by decide +kernel, by decide +kernel⟩
abbrev S_Join_core : Stmt := inClass (topS 21) 2
theorem sc_Join_core : FnScope ["self", "kid"] ["self"] (defScope S_Join_core) := ⟨rfl, rfl, rfl, by decide +kernel, rfl, by decide +kernel, by decide +kernel⟩
abbrev S_Node_shown : Stmt := inClass (topS 19) 4
theorem sc_Node_shown : FnScope ["self"] ["self"] (defScope S_Node_shown) := ⟨rfl, rfl, rfl, by decide +kernel, rfl, by decide +kernel, by decide +kernel⟩
abbrev S_Node_names : Stmt := inClass (topS 19) 3
theorem sc_Node_names : FnScope ["self", "found", "kid"] ["self"] (defScope S_Node_names) := ⟨rfl, rfl, rfl, by decide +kernel, rfl, by decide +kernel, by decide +kernel⟩
abbrev S_Node___init__ : Stmt := inClass (topS 19) 0
theorem sc_Node___init__ : FnScope ["self", "name", "length"] ["self", "name", "length"] (defScope S_Node___init__) := ⟨rfl, rfl, rfl, by decide +kernel, rfl, by decide +kernel, by decide +kernel⟩

/-! ### nodes, plainly -/
inductive T where
  | nd (ks : List T) (nm : Option Str) (ln : Option (Nat × Nat))
def nmD : Option Str → D
  | none => .non
  | some z => .str z
def lnD : Option (Nat × Nat) → D
  | none => .non
  | some p => .tup [.int (p.1 : Nat), .int (p.2 : Nat)]
def nmS : Option Str → Str
  | none => Str.ofString ""
  | some z => z
def lenS (z : Str) : Option (Nat × Nat) → Str
  | none => z
  | some p => z ++ Str.ofString ":" ++ amtS p.1 p.2
mutual
def toD (CT CJ : Addr) : T → D
  | .nd [] nm ln => .obj CT ["name", "length"] [nmD nm, lnD ln]
  | .nd (k :: ks) nm ln => .obj CJ ["name", "length", "kids"] [nmD nm, lnD ln, .lst (toD CT CJ k :: toDs CT CJ ks)]
def toDs (CT CJ : Addr) : List T → List D
  | [] => []
  | k :: ks => toD CT CJ k :: toDs CT CJ ks
end
mutual
def cnt : T → Nat
  | .nd ks _ _ => cnts ks + 1
def cnts : List T → Nat
  | [] => 0
  | k :: ks => cnt k + cnts ks
end
mutual
def shown : T → Str
  | .nd [] nm ln => lenS (nmS nm) ln
  | .nd (k :: ks) nm ln => lenS (Str.ofString "(" ++ Txt.join (Str.ofString ",") (shown k :: showns ks) ++ Str.ofString ")" ++ nmS nm) ln
def showns : List T → List Str
  | [] => []
  | k :: ks => shown k :: showns ks
end
mutual
def names : T → List Str
  | .nd ks nm _ => namess ks ++ nm.toList
def namess : List T → List Str
  | [] => []
  | k :: ks => names k ++ namess ks
end
mutual
def Good : T → Prop
  | .nd ks nm ln => (∀ z, nm = some z → z.length ≤ 12) ∧ (∀ p, ln = some p → p.1 < 10 ^ 99 ∧ p.2 < 10 ^ 60) ∧ Goods ks
def Goods : List T → Prop
  | [] => True
  | k :: ks => Good k ∧ Goods ks
end
theorem toDs_map (CT CJ : Addr) : ∀ ks, toDs CT CJ ks = ks.map (toD CT CJ)
  | [] => by rw [toDs]; rfl
  | k :: ks => by rw [toDs, toDs_map CT CJ ks]; rfl
theorem showns_map : ∀ ks, showns ks = ks.map shown
  | [] => by rw [showns]; rfl
  | k :: ks => by rw [showns, showns_map ks]; rfl
theorem amtS_len {a b : Nat} (ha : a < 10 ^ 99) (hb : b < 10 ^ 60) : (amtS a b).length ≤ 803 := by
  have l1 : ((a : Nat) : Int).natAbs.log2 < 400 := log2_lt (b_nat (Nat.lt_trans ha (by decide)))
  have l2 : ((b : Nat) : Int).natAbs.log2 < 400 := log2_lt (b_nat (Nat.lt_trans hb (by decide)))
  have t1 := intText_len (by decide) l1
  have t2 := intText_len (by decide) l2
  have t3 : (Str.ofString "/").length = 1 := rfl
  unfold amtS
  split
  · omega
  · rw [Str.length_append, Str.length_append]
    omega
theorem nmS_len {nm : Option Str} (h : ∀ z, nm = some z → z.length ≤ 12) : (nmS nm).length ≤ 12 := by
  cases nm with
  | none => exact Nat.zero_le _
  | some z => exact h z rfl
theorem lenS_len {ln : Option (Nat × Nat)} (z : Str) (h : ∀ p, ln = some p → p.1 < 10 ^ 99 ∧ p.2 < 10 ^ 60) : (lenS z ln).length ≤ z.length + 804 := by
  cases ln with
  | none => exact Nat.le_add_right _ _
  | some p =>
    have := amtS_len (h p rfl).1 (h p rfl).2
    have t3 : (Str.ofString ":").length = 1 := rfl
    unfold lenS
    rw [Str.length_append, Str.length_append]
    omega
mutual
theorem shown_len : ∀ t, Good t → (shown t).length + 1 ≤ 1000 * cnt t
  | .nd [] nm ln, h => by
    unfold Good at h
    have h1 := nmS_len h.1
    have h2 := lenS_len (nmS nm) h.2.1
    rw [shown, cnt]
    omega
  | .nd (k :: ks) nm ln, h => by
    unfold Good at h
    have h1 := nmS_len h.1
    have h2 := lenS_len (Str.ofString "(" ++ Txt.join (Str.ofString ",") (shown k :: showns ks) ++ Str.ofString ")" ++ nmS nm) h.2.1
    have h3 := showns_len (k :: ks) h.2.2
    have h4 := join_le (Str.ofString ",") (shown k :: showns ks)
    have t1 : (Str.ofString "(").length = 1 := rfl
    have t2 : (Str.ofString ")").length = 1 := rfl
    have t3 : (Str.ofString ",").length = 1 := rfl
    rw [Str.length_append, Str.length_append, Str.length_append] at h2
    rw [showns] at h3
    rw [shown, cnt]
    rw [t3] at h4
    omega
theorem showns_len : ∀ ks, Goods ks → ((showns ks).map (·.length)).sum + (showns ks).length ≤ 1000 * cnts ks
  | [], _ => by rw [showns]; exact Nat.zero_le _
  | k :: ks, h => by
    unfold Goods at h
    have h1 := shown_len k h.1
    have h2 := showns_len ks h.2
    rw [showns, cnts, List.map_cons, List.sum_cons, List.length_cons]
    omega
end
mutual
theorem names_len : ∀ t, (names t).length ≤ cnt t
  | .nd ks nm ln => by
    have := namess_len ks
    rw [names, cnt, List.length_append]
    cases nm with
    | none => show _ + 0 ≤ _; omega
    | some z => show _ + 1 ≤ _; omega
theorem namess_len : ∀ ks, (namess ks).length ≤ cnts ks
  | [] => by rw [namess]; exact Nat.zero_le _
  | k :: ks => by
    have h1 := names_len k
    have h2 := namess_len ks
    rw [namess, cnts, List.length_append]
    omega
end
theorem goods_mem : ∀ {ks : List T} {t : T}, Goods ks → t ∈ ks → Good t
  | k :: ks, t, h, m => by
    unfold Goods at h
    rcases List.mem_cons.mp m with e | e
    · subst e; exact h.1
    · exact goods_mem h.2 e
theorem cnts_mem : ∀ {ks : List T} {t : T}, t ∈ ks → cnt t ≤ cnts ks
  | k :: ks, t, m => by
    rw [cnts]
    rcases List.mem_cons.mp m with e | e
    · subst e; omega
    · have := cnts_mem e; omega
structure TxtB (K : PySem.W.Frag) (mg : Str → Option Value) (CN CT CJ : Addr) : Prop extends TxtA mg where
  m_Node : mg "Node" = some (.ref CN)
  m_Tip : mg "Tip" = some (.ref CT)
  m_Join : mg "Join" = some (.ref CJ)
  cN : Cls K CN
  cT : Cls K CT
  cJ : Cls K CJ
  nN : NoAttr K CN "name"
  nT : NoAttr K CT "name"
  nJ : NoAttr K CJ "name"
  lN : NoAttr K CN "length"
  lT : NoAttr K CT "length"
  lJ : NoAttr K CJ "length"
  kJ : NoAttr K CJ "kids"
def pNInit (K : PySem.W.Frag) : Fs := fun ds M q _ => ∃ x C a b, ds = [.ref x, a, b] ∧ M x = some (.ins C [] []) ∧ Cls K C ∧ NoAttr K C "name" ∧ NoAttr K C "length" ∧ q .non (updM M x (.ins C ["name", "length"] [a, b]))
def pBelowT (CT CJ : Addr) : Ps := fun ds q _ => ∃ nm ln, ds = [toD CT CJ (.nd [] nm ln)] ∧ q (.lst [])
def pBelowJ (CT CJ : Addr) : Ps := fun ds q _ => ∃ k ks nm ln, ds = [toD CT CJ (.nd (k :: ks) nm ln)] ∧ q (.lst (toDs CT CJ (k :: ks)))
def pCoreT (CT CJ : Addr) : Ps := fun ds q _ => ∃ ks nm ln, ds = [toD CT CJ (.nd ks nm ln)] ∧ q (.str (nmS nm))
def pCoreJ (CT CJ : Addr) (n : Nat) : Ps := fun ds q _ => ∃ k ks nm ln, ds = [toD CT CJ (.nd (k :: ks) nm ln)] ∧ Good (.nd (k :: ks) nm ln) ∧ cnts (k :: ks) ≤ n ∧ n ≤ 100 ∧ q (.str (Str.ofString "(" ++ Txt.join (Str.ofString ",") (shown k :: showns ks) ++ Str.ofString ")" ++ nmS nm))
def pShown (CT CJ : Addr) (n : Nat) : Ps := fun ds q _ => ∃ t, ds = [toD CT CJ t] ∧ Good t ∧ cnt t ≤ n ∧ n ≤ 100 ∧ q (.str (shown t))
def pNamesF (CT CJ : Addr) (n : Nat) : Fs := fun ds M q _ => ∃ t, ds = [toD CT CJ t] ∧ cnt t ≤ n ∧ n ≤ 100 ∧ ∀ l, M l = none → q (.ref l) (updM M l (.lst ((names t).map D.str)))
section
variable {P : Program} {w : World} {K : PySem.W.Frag} {mg : Str → Option Value} {base : Heap} {CN CT CJ : Addr}
theorem ok_belowT {f : Addr} {fd : FuncData} (F : FunX K "below" "Node.below" S_Node_below f fd) : FnOk P w K mg base (L2.CX P w) 1 f fd ["self"] (toSp K (fsP (pBelowT CT CJ))) := by
  refine okP F sc_Node_below (fun ds q ex h => ?_) (fun cdv A outer s H E ds hr hx => ?_)
  · obtain ⟨nm, ln, rfl, _⟩ := h
    rfl
  · refine ⟨_, (dss_one (ds_ret (d_lst da_nil))), fun q ex h => ?_⟩
    obtain ⟨nm, ln, rfl, h⟩ := h
    simp only [dSeq, dNext, dRet, dRetN, dIfS, dDrop, dOp, dV, dC, dUn, dTest, dAnd, dOr, dNot, dAndV, dOrV, dNotV, dIf, dCB, dCons, dNil, dTup, dLst, dCallP, dAsg, qName, qCons, qNil, qTup, dPar, dAug, dMth, dM1, dSl, dPart, dNoPart, dYes, startR, List.map_cons, List.map_nil, List.length_cons, List.length_nil, List.replicate, List.cons_append, List.nil_append, List.append_nil, List.getElem?_cons_zero, List.getElem?_cons_succ, List.set_cons_zero, List.set_cons_succ, List.set_nil, dAdd, dSub, dMul, dMod, dFdv, dPow, dShl, dShr, dBit, dLt, dCmp, dNeg, Nat.reduceAdd, Nat.reduceSub, Nat.zero_add, rd_len_scr, rd_len_lst, rd_len_tup, rd_len_str, rd_eq_int, rd_eq_str, rd_eq_bl, rd_eq_nn, rd_eq_ns, rd_eq_sn, rd_eq_ni, rd_eq_in, rd_eq_nt, rd_eq_tn, rd_eq_pair, rd_is_non, rd_is_bl, rd_str_int, rd_int_int, rd_int_bl, rd_ix0, rd_ix1, rd_lix0, rd_lix1, rd_list_lst, rd_list_tup, rd_listM_lst, rd_tuple_lst, DL.isNon, wipeR, if_true, if_false, Bool.false_eq_true, Bool.not_true, Bool.not_false, reduceIte]
    exact ⟨Nat.zero_le _, retP_same h⟩
theorem ok_belowJ {f : Addr} {fd : FuncData} (F : FunX K "below" "Join.below" S_Join_below f fd) (T : TxtB K mg CN CT CJ) : FnOk P w K mg base (L2.CX P w) 1 f fd ["self"] (toSp K (fsP (pBelowJ CT CJ))) := by
  refine okP F sc_Join_below (fun ds q ex h => ?_) (fun cdv A outer s H E ds hr hx => ?_)
  · obtain ⟨k, ks, nm, ln, rfl, _⟩ := h
    rfl
  · refine ⟨_, (dss_one (ds_ret (d_callTy c_list s_list rfl T.b_list boot_list (da_cons (d_fldK (K := K) (dv 0)) da_nil)))), fun q ex h => ?_⟩
    obtain ⟨k, ks, nm, ln, rfl, h⟩ := h
    simp only [dSeq, dNext, dRet, dRetN, dIfS, dDrop, dOp, dV, dC, dUn, dTest, dAnd, dOr, dNot, dAndV, dOrV, dNotV, dIf, dCB, dCons, dNil, dTup, dLst, dCallP, dAsg, qName, qCons, qNil, qTup, dPar, dAug, dMth, dM1, dSl, dPart, dNoPart, dYes, startR, List.map_cons, List.map_nil, List.length_cons, List.length_nil, List.replicate, List.cons_append, List.nil_append, List.append_nil, List.getElem?_cons_zero, List.getElem?_cons_succ, List.set_cons_zero, List.set_cons_succ, List.set_nil, dAdd, dSub, dMul, dMod, dFdv, dPow, dShl, dShr, dBit, dLt, dCmp, dNeg, Nat.reduceAdd, Nat.reduceSub, Nat.zero_add, rd_len_scr, rd_len_lst, rd_len_tup, rd_len_str, rd_eq_int, rd_eq_str, rd_eq_bl, rd_eq_nn, rd_eq_ns, rd_eq_sn, rd_eq_ni, rd_eq_in, rd_eq_nt, rd_eq_tn, rd_eq_pair, rd_is_non, rd_is_bl, rd_str_int, rd_int_int, rd_int_bl, rd_ix0, rd_ix1, rd_lix0, rd_lix1, rd_list_lst, rd_list_tup, rd_listM_lst, rd_tuple_lst, DL.isNon, wipeR, if_true, if_false, Bool.false_eq_true, Bool.not_true, Bool.not_false, reduceIte]
    refine fld_V rfl (by rw [toD]; rfl) rfl T.cJ T.kJ ?_
    rw [toDs] at h
    exact retP_same h
theorem ok_coreT {f : Addr} {fd : FuncData} (F : FunX K "core" "Node.core" S_Node_core f fd) (T : TxtB K mg CN CT CJ) : FnOk P w K mg base (L2.CX P w) 1 f fd ["self"] (toSp K (fsP (pCoreT CT CJ))) := by
  refine okP F sc_Node_core (fun ds q ex h => ?_) (fun cdv A outer s H E ds hr hx => ?_)
  · obtain ⟨ks, nm, ln, rfl, _⟩ := h
    rfl
  · refine ⟨_, (dss_cons (ds_if (dt_cmp o_is (s_is false) (d_fldK (K := K) (dv 0)) d_non (nomark _))
      (dss_one (ds_ret d_str))
      dss_nil)
      (dss_one (ds_ret (d_fldK (K := K) (dv 0))))), fun q ex h => ?_⟩
    obtain ⟨ks, nm, ln, rfl, h⟩ := h
    simp only [dSeq, dNext, dRet, dRetN, dIfS, dDrop, dOp, dV, dC, dUn, dTest, dAnd, dOr, dNot, dAndV, dOrV, dNotV, dIf, dCB, dCons, dNil, dTup, dLst, dCallP, dAsg, qName, qCons, qNil, qTup, dPar, dAug, dMth, dM1, dSl, dPart, dNoPart, dYes, startR, List.map_cons, List.map_nil, List.length_cons, List.length_nil, List.replicate, List.cons_append, List.nil_append, List.append_nil, List.getElem?_cons_zero, List.getElem?_cons_succ, List.set_cons_zero, List.set_cons_succ, List.set_nil, dAdd, dSub, dMul, dMod, dFdv, dPow, dShl, dShr, dBit, dLt, dCmp, dNeg, Nat.reduceAdd, Nat.reduceSub, Nat.zero_add, rd_len_scr, rd_len_lst, rd_len_tup, rd_len_str, rd_eq_int, rd_eq_str, rd_eq_bl, rd_eq_nn, rd_eq_ns, rd_eq_sn, rd_eq_ni, rd_eq_in, rd_eq_nt, rd_eq_tn, rd_eq_pair, rd_is_non, rd_is_bl, rd_str_int, rd_int_int, rd_int_bl, rd_ix0, rd_ix1, rd_lix0, rd_lix1, rd_list_lst, rd_list_tup, rd_listM_lst, rd_tuple_lst, DL.isNon, wipeR, if_true, if_false, Bool.false_eq_true, Bool.not_true, Bool.not_false, reduceIte]
    have key : ∃ C ns es, insOf M0 (toD CT CJ (.nd ks nm ln)) = some (C, ns, es) ∧ lkD "name" ns es = some (nmD nm) ∧ Cls K C ∧ NoAttr K C "name" := by
      cases ks with
      | nil => exact ⟨_, _, _, by rw [toD]; rfl, rfl, T.cT, T.nT⟩
      | cons k ks => exact ⟨_, _, _, by rw [toD]; rfl, rfl, T.cJ, T.nJ⟩
    obtain ⟨C, ns, es, k1, k2, k3, k4⟩ := key
    refine fld_V rfl k1 k2 k3 k4 ?_
    cases nm with
    | none => exact retP_same h
    | some z => exact fld_V rfl k1 k2 k3 k4 (retP_same h)
theorem ok_coreJ {f : Addr} {fd : FuncData} {n : Nat} (F : FunX K "core" "Join.core" S_Join_core f fd) (T : TxtB K mg CN CT CJ) (F_Node_core : CfG P w K mg base 1 CN "core" [] (fsP (pCoreT CT CJ)))
    (gT : MtG P w K mg base (2 * n + 2) CT "shown" [] (fsP (pShown CT CJ n))) (gJ : MtG P w K mg base (2 * n + 2) CJ "shown" [] (fsP (pShown CT CJ n))) : FnOk P w K mg base (L2.CX P w) (2 * n + 3) f fd ["self"] (toSp K (fsP (pCoreJ CT CJ n))) := by
  refine okP F sc_Join_core (fun ds q ex h => ?_) (fun cdv A outer s H E ds hr hx => ?_)
  · obtain ⟨k, ks, nm, ln, rfl, _⟩ := h
    rfl
  · refine ⟨_, (dss_one (ds_ret (d_op o_add s_add (d_op o_add s_add (d_op o_add s_add d_str (d_m1 PySem.F.slot_str_join PySem.F.type_str_join mt_jn s_join d_str (d_lc (own := [("kid", 1)]) rfl sc_Join_core.nd (di_list (d_fldK (K := K) (dv 0))) (blkOk_by (own := [("kid", 1)]) (N := ["self", "kid"]) (sc := defScope S_Join_core) (by decide +kernel)) (fun _ _ _ _ _ => gw_name (i := 1) sc_Join_core.nd rfl (Or.inl rfl) (by decide)) (ts_nil (K := K)) (fun _ _ _ _ _ => (d_mthV0K (P := P) (w := w) (K := K) (mg := mg) (base := base) (k := (2*n+2)) (dv 1) hr passL))))) d_str) (d_cfun F_Node_core T.m_Node (hr.mono (by omega)) hx (da_cons (dv 0) da_nil))))), fun q ex h => ?_⟩
    obtain ⟨k, ks, nm, ln, rfl, hg, hc, hn, h⟩ := h
    simp only [dSeq, dNext, dRet, dRetN, dIfS, dDrop, dOp, dV, dC, dUn, dTest, dAnd, dOr, dNot, dAndV, dOrV, dNotV, dIf, dCB, dCons, dNil, dTup, dLst, dCallP, dAsg, qName, qCons, qNil, qTup, dPar, dAug, dMth, dM1, dSl, dPart, dNoPart, dYes, startR, List.map_cons, List.map_nil, List.length_cons, List.length_nil, List.replicate, List.cons_append, List.nil_append, List.append_nil, List.getElem?_cons_zero, List.getElem?_cons_succ, List.set_cons_zero, List.set_cons_succ, List.set_nil, dAdd, dSub, dMul, dMod, dFdv, dPow, dShl, dShr, dBit, dLt, dCmp, dNeg, Nat.reduceAdd, Nat.reduceSub, Nat.zero_add, rd_len_scr, rd_len_lst, rd_len_tup, rd_len_str, rd_eq_int, rd_eq_str, rd_eq_bl, rd_eq_nn, rd_eq_ns, rd_eq_sn, rd_eq_ni, rd_eq_in, rd_eq_nt, rd_eq_tn, rd_eq_pair, rd_is_non, rd_is_bl, rd_str_int, rd_int_int, rd_int_bl, rd_ix0, rd_ix1, rd_lix0, rd_lix1, rd_list_lst, rd_list_tup, rd_listM_lst, rd_tuple_lst, DL.isNon, wipeR, if_true, if_false, Bool.false_eq_true, Bool.not_true, Bool.not_false, reduceIte]
    refine ⟨trivial, ?_⟩
    simp only [dLc, dSq]
    refine fld_V rfl (by rw [toD]; rfl) rfl T.cJ T.kJ ?_
    show dLcGo _ _ _ _ _ (toD CT CJ k :: toDs CT CJ ks) _ _
    rw [show toD CT CJ k :: toDs CT CJ ks = (k :: ks).map (toD CT CJ) by rw [toDs_map]; rfl]
    have hl := showns_len (k :: ks) (by unfold Good at hg; exact hg.2.2)
    have hln : (k :: ks).length = (showns (k :: ks)).length := by rw [showns_map, List.length_map]
    have t1 : (Str.ofString "(").length = 1 := rfl
    have t2 : (Str.ofString ")").length = 1 := rfl
    have t3 : (Str.ofString ",").length = 1 := rfl
    have hj := join_le (Str.ofString ",") (showns (k :: ks))
    have hnm := nmS_len (by unfold Good at hg; exact hg.1)
    refine lc_mapG (toD CT CJ) (fun t => .str (shown t)) _ _ (by rw [List.length_nil]; omega) (fun t ht Q q' => ?_) ?_
    · have key : ∃ C ns es, insOf M0 (toD CT CJ t) = some (C, ns, es) ∧ lkD "shown" ns es = none ∧ Cls K C ∧ MtG P w K mg base (2 * n + 2) C "shown" [] (fsP (pShown CT CJ n)) := by
        cases t with
        | nd ks nm ln =>
          cases ks with
          | nil => exact ⟨_, _, _, by rw [toD]; rfl, rfl, T.cT, gT⟩
          | cons k ks => exact ⟨_, _, _, by rw [toD]; rfl, rfl, T.cJ, gJ⟩
      obtain ⟨C, ns, es, k1, k2, k3, k4⟩ := key
      refine mth_V rfl k1 k2 k3 k4 ⟨t, rfl, goods_mem (by unfold Good at hg; exact hg.2.2) ht, Nat.le_trans (cnts_mem ht) hc, hn, q'⟩
    · rw [List.nil_append]
      refine join_of (zs := showns (k :: ks)) (by show some _ = some _; rw [showns_map, List.map_map]; rfl) (by rw [t3]; omega) ?_
      have e : showns (k :: ks) = shown k :: showns ks := by rw [showns]
      rw [t3] at hj
      rw [← e] at h
      refine ⟨by rw [t1, sizeLine_eq]; omega, by rw [Str.length_append, sizeLine_eq]; omega, ?_⟩
      refine ⟨M0, subM0 _, rfl, k :: ks, nm, ln, rfl, ?_, retP_same h⟩
      rw [Str.length_append, Str.length_append, sizeLine_eq]
      omega
theorem ok_shown {f : Addr} {fd : FuncData} {n : Nat} (F : FunX K "shown" "Node.shown" S_Node_shown f fd) (T : TxtB K mg CN CT CJ) (G_shown_amount : FnG P w K mg base 1 "shown_amount" 0 [] (fsP pAmt))
    (gT : MtG P w K mg base (2 * n + 3) CT "core" [] (fsP (pCoreT CT CJ))) (gJ : MtG P w K mg base (2 * n + 3) CJ "core" [] (fsP (pCoreJ CT CJ n))) : FnOk P w K mg base (L2.CX P w) (2 * n + 4) f fd ["self"] (toSp K (fsP (pShown CT CJ (n + 1)))) := by
  refine okP F sc_Node_shown (fun ds q ex h => ?_) (fun cdv A outer s H E ds hr hx => ?_)
  · obtain ⟨t, rfl, _⟩ := h
    rfl
  · refine ⟨_, (dss_cons (ds_if (dt_cmp o_is (s_is false) (d_fldK (K := K) (dv 0)) d_non (nomark _))
      (dss_one (ds_ret (d_mthV0K (P := P) (w := w) (K := K) (mg := mg) (base := base) (k := (2*n+3)) (dv 0) hr hx)))
      dss_nil)
      (dss_one (ds_ret (d_op o_add s_add (d_op o_add s_add (d_mthV0K (P := P) (w := w) (K := K) (mg := mg) (base := base) (k := (2*n+3)) (dv 0) hr hx) d_str) (d_callP G_shown_amount (hr.mono (by omega)) hx (da_cons (d_fldK (K := K) (dv 0)) da_nil)))))), fun q ex h => ?_⟩
    obtain ⟨t, rfl, hg, hc, hn, h⟩ := h
    simp only [dSeq, dNext, dRet, dRetN, dIfS, dDrop, dOp, dV, dC, dUn, dTest, dAnd, dOr, dNot, dAndV, dOrV, dNotV, dIf, dCB, dCons, dNil, dTup, dLst, dCallP, dAsg, qName, qCons, qNil, qTup, dPar, dAug, dMth, dM1, dSl, dPart, dNoPart, dYes, startR, List.map_cons, List.map_nil, List.length_cons, List.length_nil, List.replicate, List.cons_append, List.nil_append, List.append_nil, List.getElem?_cons_zero, List.getElem?_cons_succ, List.set_cons_zero, List.set_cons_succ, List.set_nil, dAdd, dSub, dMul, dMod, dFdv, dPow, dShl, dShr, dBit, dLt, dCmp, dNeg, Nat.reduceAdd, Nat.reduceSub, Nat.zero_add, rd_len_scr, rd_len_lst, rd_len_tup, rd_len_str, rd_eq_int, rd_eq_str, rd_eq_bl, rd_eq_nn, rd_eq_ns, rd_eq_sn, rd_eq_ni, rd_eq_in, rd_eq_nt, rd_eq_tn, rd_eq_pair, rd_is_non, rd_is_bl, rd_str_int, rd_int_int, rd_int_bl, rd_ix0, rd_ix1, rd_lix0, rd_lix1, rd_list_lst, rd_list_tup, rd_listM_lst, rd_tuple_lst, DL.isNon, wipeR, if_true, if_false, Bool.false_eq_true, Bool.not_true, Bool.not_false, reduceIte]
    have key : ∃ C ns es ln, insOf M0 (toD CT CJ t) = some (C, ns, es) ∧ lkD "core" ns es = none ∧ lkD "length" ns es = some (lnD ln) ∧ Cls K C ∧ NoAttr K C "length" ∧ (∀ p, ln = some p → p.1 < 10 ^ 99 ∧ p.2 < 10 ^ 60) ∧
        ∃ Pp z, MtG P w K mg base (2 * n + 3) C "core" [] (fsP Pp) ∧ shown t = lenS z ln ∧ z.length ≤ 1000000 ∧ ∀ (q : D → Prop) ex, q (.str z) → Pp [toD CT CJ t] q ex := by
      cases t with
      | nd ks nm ln =>
        have hgg := hg
        unfold Good at hgg
        have hsl := shown_len _ hg
        cases ks with
        | nil => exact ⟨_, _, _, ln, by rw [toD]; rfl, rfl, rfl, T.cT, T.lT, hgg.2.1, _, nmS nm, gT, by rw [shown], by have := nmS_len hgg.1; omega, fun q ex hq => ⟨[], nm, ln, rfl, hq⟩⟩
        | cons k ks =>
          rw [cnt] at hc hsl
          refine ⟨_, _, _, ln, by rw [toD]; rfl, rfl, rfl, T.cJ, T.lJ, hgg.2.1, _, _, gJ, by rw [shown], ?_, fun q ex hq => ⟨k, ks, nm, ln, rfl, hg, by omega, by omega, hq⟩⟩
          rw [shown] at hsl
          have : ∀ z, z.length ≤ (lenS z ln).length := fun z => by
            cases ln with
            | none => exact Nat.le_refl _
            | some p => unfold lenS; rw [Str.length_append, Str.length_append]; omega
          have := this (Str.ofString "(" ++ Txt.join (Str.ofString ",") (shown k :: showns ks) ++ Str.ofString ")" ++ nmS nm)
          omega
    obtain ⟨C, ns, es, ln, k1, k2, k3, k4, k5, k6, Pp, z, k7, k8, k9, k10⟩ := key
    refine fld_V rfl k1 k3 k4 k5 ?_
    rw [k8] at h
    cases ln with
    | none =>
      refine ite_t rfl ?_
      exact mth_V rfl k1 k2 k4 k7 (k10 _ _ (retP_same h))
    | some p =>
      refine ite_f Bool.false_ne_true ?_
      refine mth_V rfl k1 k2 k4 k7 (k10 _ _ ?_)
      have t1 : (Str.ofString ":").length = 1 := rfl
      have hp := k6 p rfl
      have t2 := amtS_len hp.1 hp.2
      refine ⟨by rw [t1, sizeLine_eq]; omega, fld_V rfl k1 k3 k4 k5 ⟨p.1, p.2, rfl, Nat.lt_trans hp.1 (by decide), Nat.lt_trans hp.2 (by decide), ?_, retP_same h⟩⟩
      rw [Str.length_append, sizeLine_eq]
      omega
theorem ok_names_m {f : Addr} {fd : FuncData} {n : Nat} (F : FunX K "names" "Node.names" S_Node_names f fd) (T : TxtB K mg CN CT CJ) 
    (bT : MtG P w K mg base 1 CT "below" [] (fsP (pBelowT CT CJ))) (bJ : MtG P w K mg base 1 CJ "below" [] (fsP (pBelowJ CT CJ)))
    (gT : MtG P w K mg base (n + 2) CT "names" [] (pNamesF CT CJ n)) (gJ : MtG P w K mg base (n + 2) CJ "names" [] (pNamesF CT CJ n)) : FnOk P w K mg base (L2.CX P w) (n + 3) f fd ["self"] (toSp K (pNamesF CT CJ (n + 1))) := by
  refine okD F sc_Node_names (fun ds M q ex h => ?_) (fun cdv A outer s H E ds hr hx => ?_)
  · obtain ⟨t, rfl, _⟩ := h
    rfl
  · refine ⟨_, (dss_cons (ds_set (i := 1) sc_Node_names.nd rfl (Or.inl rfl) (d_lstM da_nil))
      (dss_cons (ds_for (passes_of rfl) rfl (di_list (d_mthV0K (P := P) (w := w) (K := K) (mg := mg) (base := base) (k := 1) (dv 0) (hr.mono (by omega)) hx)) (dg_name (i := 2) sc_Node_names.nd rfl (Or.inl rfl))
      (dss_one (ds_expr (d_bm (isT := isL) PySem.F.plainAttrs_list PySem.F.slot_list_extend PySem.F.type_list_extend mt_extend s_extend (fun w v x => tyV_L) (dv 1) (da_cons (d_mthV0K (P := P) (w := w) (K := K) (mg := mg) (base := base) (k := (n+2)) (dv 2) hr hx) da_nil)))))
      (dss_mid (ds_if (dt_cmp o_isnot (s_is true) (d_fldK (K := K) (dv 0)) d_non (nomark _))
      (dss_one (ds_expr (d_bm (isT := isL) PySem.F.plainAttrs_list PySem.F.slot_list_append PySem.F.type_list_append mt_append s_append (fun w v x => tyV_L) (dv 1) (da_cons (d_fldK (K := K) (dv 0)) da_nil))))
      dss_nil)
      (dss_one (ds_ret (dv 1)))))), fun M q ex h => ?_⟩
    obtain ⟨t, rfl, hc, hn, h⟩ := h
    simp only [dSeq, dNext, dRet, dRetN, dIfS, dDrop, dOp, dV, dC, dUn, dTest, dAnd, dOr, dNot, dAndV, dOrV, dNotV, dIf, dCB, dCons, dNil, dTup, dLst, dCallP, dAsg, qName, qCons, qNil, qTup, dPar, dAug, dMth, dM1, dSl, dPart, dNoPart, dYes, startR, List.map_cons, List.map_nil, List.length_cons, List.length_nil, List.replicate, List.cons_append, List.nil_append, List.append_nil, List.getElem?_cons_zero, List.getElem?_cons_succ, List.set_cons_zero, List.set_cons_succ, List.set_nil, dAdd, dSub, dMul, dMod, dFdv, dPow, dShl, dShr, dBit, dLt, dCmp, dNeg, Nat.reduceAdd, Nat.reduceSub, Nat.zero_add, rd_len_scr, rd_len_lst, rd_len_tup, rd_len_str, rd_eq_int, rd_eq_str, rd_eq_bl, rd_eq_nn, rd_eq_ns, rd_eq_sn, rd_eq_ni, rd_eq_in, rd_eq_nt, rd_eq_tn, rd_eq_pair, rd_is_non, rd_is_bl, rd_str_int, rd_int_int, rd_int_bl, rd_ix0, rd_ix1, rd_lix0, rd_lix1, rd_list_lst, rd_list_tup, rd_listM_lst, rd_tuple_lst, DL.isNon, wipeR, if_true, if_false, Bool.false_eq_true, Bool.not_true, Bool.not_false, reduceIte]
    obtain ⟨ks, nm, ln⟩ := t
    have keyB : ∀ (ρ : Ro) (M' : MS) (Q : QX) Ex, ρ[0]? = some (some (toD CT CJ (.nd ks nm ln))) → Q (.lst (ks.map (toD CT CJ))) M' → dMthV P w K mg base 1 "below" (dV 0) dNil ρ M' Q Ex := fun ρ M' Q Ex hρ hQ => by
      cases ks with
      | nil => exact mth_V hρ (by rw [toD]; rfl) rfl T.cT bT ⟨nm, ln, rfl, hQ⟩
      | cons k ks => exact mth_V hρ (by rw [toD]; rfl) rfl T.cJ bJ ⟨k, ks, nm, ln, rfl, by rw [toDs_map]; exact hQ⟩
    have keyF : ∀ M' : MS, ∃ C ns es, insOf M' (toD CT CJ (.nd ks nm ln)) = some (C, ns, es) ∧ lkD "name" ns es = some (nmD nm) ∧ Cls K C ∧ NoAttr K C "name" := fun M' => by
      cases ks with
      | nil => exact ⟨_, _, _, by rw [toD]; rfl, rfl, T.cT, T.nT⟩
      | cons k ks => exact ⟨_, _, _, by rw [toD]; rfl, rfl, T.cJ, T.nJ⟩
    have keyN : ∀ (t : LM.T) (M' : MS), ∃ C ns es, insOf M' (toD CT CJ t) = some (C, ns, es) ∧ lkD "names" ns es = none ∧ Cls K C ∧ MtG P w K mg base (n + 2) C "names" [] (pNamesF CT CJ n) := fun t M' => by
      obtain ⟨ks, nm, ln⟩ := t
      cases ks with
      | nil => exact ⟨_, _, _, by rw [toD]; rfl, rfl, T.cT, gT⟩
      | cons k ks => exact ⟨_, _, _, by rw [toD]; rfl, rfl, T.cJ, gJ⟩
    rw [cnt] at hc
    have hnl := namess_len ks
    simp only [dLstM, dNil, dFor, dSq]
    refine ⟨Nat.zero_le _, fun l hl => ?_⟩
    refine keyB _ _ _ _ rfl ?_
    show dEach _ _ (ks.map (toD CT CJ)) _ _ _
    refine each_ind (fun xs ρ' M' => ∃ ts acc kid, xs = ts.map (toD CT CJ) ∧ ρ' = [some (toD CT CJ (.nd ks nm ln)), some (.ref l), kid] ∧ acc ++ namess ts = namess ks ∧ (∀ t, t ∈ ts → cnt t ≤ n) ∧ M' l = some (.lst (acc.map D.str)) ∧ subM M M') ?_ ?_ _ _ _ ⟨ks, [], none, rfl, rfl, rfl, fun t ht => by have := cnts_mem ht; omega, updM_same, sub_upd hl⟩
    · rintro ρ' M' ⟨ts, acc, kid, hts, rfl, hacc, _, hM, hsub⟩
      obtain rfl : ts = [] := List.map_eq_nil_iff.mp hts.symm
      rw [namess, List.append_nil] at hacc
      subst hacc
      obtain ⟨C, ns, es, k1, k2, k3, k4⟩ := keyF M'
      have fin : ∀ M2 : MS, subM M M2 → M2 l = some (.lst ((names (.nd ks nm ln)).map D.str)) → retD q (.ref l) M2 := fun M2 hs h2 => by
        refine ⟨updM M l (.lst ((names (.nd ks nm ln)).map D.str)), .ref l, fun a mo e => ?_, .same _, h l hl⟩
        by_cases ha : a = l
        · subst ha; rw [updM_same] at e; cases e; exact h2
        · rw [updM_ne ha] at e; exact hs a mo e
      refine ⟨fun ρ2 M2 => ρ2[1]? = some (some (.ref l)) ∧ subM M M2 ∧ M2 l = some (.lst ((names (.nd ks nm ln)).map D.str)), ?_, ?_⟩
      · simp only [dSeq, dNext, dRet, dRetN, dIfS, dDrop, dOp, dV, dC, dUn, dTest, dAnd, dOr, dNot, dAndV, dOrV, dNotV, dIf, dCB, dCons, dNil, dTup, dLst, dCallP, dAsg, qName, qCons, qNil, qTup, dPar, dAug, dMth, dM1, dSl, dPart, dNoPart, dYes, startR, List.map_cons, List.map_nil, List.length_cons, List.length_nil, List.replicate, List.cons_append, List.nil_append, List.append_nil, List.getElem?_cons_zero, List.getElem?_cons_succ, List.set_cons_zero, List.set_cons_succ, List.set_nil, dAdd, dSub, dMul, dMod, dFdv, dPow, dShl, dShr, dBit, dLt, dCmp, dNeg, Nat.reduceAdd, Nat.reduceSub, Nat.zero_add, rd_len_scr, rd_len_lst, rd_len_tup, rd_len_str, rd_eq_int, rd_eq_str, rd_eq_bl, rd_eq_nn, rd_eq_ns, rd_eq_sn, rd_eq_ni, rd_eq_in, rd_eq_nt, rd_eq_tn, rd_eq_pair, rd_is_non, rd_is_bl, rd_str_int, rd_int_int, rd_int_bl, rd_ix0, rd_ix1, rd_lix0, rd_lix1, rd_list_lst, rd_list_tup, rd_listM_lst, rd_tuple_lst, DL.isNon, wipeR, if_true, if_false, Bool.false_eq_true, Bool.not_true, Bool.not_false, reduceIte]
        refine fld_V rfl k1 k2 k3 k4 ?_
        cases nm with
        | none =>
          refine ⟨trivial, hsub, ?_⟩
          rw [hM, names]
          show _ = some (MO.lst (List.map D.str (namess ks ++ [])))
          rw [List.append_nil]
        | some z =>
          refine ⟨isL_ref hM, fld_V rfl k1 k2 k3 k4 (append_of hM (by rw [List.length_map]; omega) ⟨trivial, fun a mo e => ?_, ?_⟩)⟩
          · rw [updM_ne (fun z => by subst z; rw [hl] at e; cases e)]
            exact hsub a mo e
          · rw [updM_same, names, List.map_append]
            rfl
      · rintro ρ2 M2 ⟨h1, h2, h3⟩
        show (match ρ2[1]? with | some (some d) => retD q d _ | _ => False)
        rw [h1]
        exact fin M2 h2 h3
    · rintro x xs ρ' M' ⟨ts, acc, kid, hts, rfl, hacc, hcn, hM, hsub⟩ nx hnx
      cases ts with
      | nil => cases hts
      | cons t ts =>
        obtain ⟨rfl, rfl⟩ := List.cons.inj hts
        obtain ⟨C, ns, es, k1, k2, k3, k4⟩ := keyN t M'
        rw [namess] at hacc
        have hal : acc.length + (names t).length ≤ 1000 := by
          have := congrArg List.length hacc
          rw [List.length_append, List.length_append] at this
          omega
        simp only [dSeq, dNext, dRet, dRetN, dIfS, dDrop, dOp, dV, dC, dUn, dTest, dAnd, dOr, dNot, dAndV, dOrV, dNotV, dIf, dCB, dCons, dNil, dTup, dLst, dCallP, dAsg, qName, qCons, qNil, qTup, dPar, dAug, dMth, dM1, dSl, dPart, dNoPart, dYes, startR, List.map_cons, List.map_nil, List.length_cons, List.length_nil, List.replicate, List.cons_append, List.nil_append, List.append_nil, List.getElem?_cons_zero, List.getElem?_cons_succ, List.set_cons_zero, List.set_cons_succ, List.set_nil, dAdd, dSub, dMul, dMod, dFdv, dPow, dShl, dShr, dBit, dLt, dCmp, dNeg, Nat.reduceAdd, Nat.reduceSub, Nat.zero_add, rd_len_scr, rd_len_lst, rd_len_tup, rd_len_str, rd_eq_int, rd_eq_str, rd_eq_bl, rd_eq_nn, rd_eq_ns, rd_eq_sn, rd_eq_ni, rd_eq_in, rd_eq_nt, rd_eq_tn, rd_eq_pair, rd_is_non, rd_is_bl, rd_str_int, rd_int_int, rd_int_bl, rd_ix0, rd_ix1, rd_lix0, rd_lix1, rd_list_lst, rd_list_tup, rd_listM_lst, rd_tuple_lst, DL.isNon, wipeR, if_true, if_false, Bool.false_eq_true, Bool.not_true, Bool.not_false, reduceIte]
        refine ⟨isL_ref hM, mth_VF rfl k1 k2 k3 k4 ⟨t, rfl, hcn t List.mem_cons_self, by omega, fun l2 hl2 => ?_⟩⟩
        show mExtend (.ref l) [.ref l2] (joinM M' M' (updM M' l2 _)) _
        rw [joinM_ext (sub_upd hl2)]
        have hne : l ≠ l2 := fun z => by subst z; rw [hM] at hl2; cases hl2
        refine extend_of (es := (names t).map D.str) (by rw [updM_ne hne]; exact hM) (sqL_ref updM_same) (by rw [List.length_map, List.length_map]; omega) (hnx _ _ ⟨ts, acc ++ names t, _, rfl, rfl, by rw [List.append_assoc]; exact hacc, fun t' ht' => hcn t' (List.mem_cons_of_mem _ ht'), ?_, fun a mo e => ?_⟩)
        · rw [updM_same, List.map_append]
        · rw [updM_ne (fun z => by subst z; rw [hl] at e; cases e), updM_ne (fun z => by subst z; rw [hsub _ _ e] at hl2; cases hl2)]
          exact hsub a mo e
theorem ok_ninit {f : Addr} {fd : FuncData} (F : FunX K "__init__" "Node.__init__" S_Node___init__ f fd) : FnOk P w K mg base (L2.CX P w) 1 f fd ["self", "name", "length"] (toSp K (pNInit K)) := by
  refine okD F sc_Node___init__ (fun ds M q ex h => ?_) (fun cdv A outer s H E ds hr hx => ?_)
  · obtain ⟨x, C, a, b, rfl, _⟩ := h
    rfl
  · refine ⟨_, (dss_cons (ds_setFK (K := K) (dv 0) (dv 1))
      (dss_one (ds_setFK (K := K) (dv 0) (dv 2)))), fun M q ex h => ?_⟩
    obtain ⟨x, C, a, b, rfl, hM, c, n1, n2, h⟩ := h
    simp only [dSeq, dNext, dRet, dRetN, dIfS, dDrop, dOp, dV, dC, dUn, dTest, dAnd, dOr, dNot, dAndV, dOrV, dNotV, dIf, dCB, dCons, dNil, dTup, dLst, dCallP, dAsg, qName, qCons, qNil, qTup, dPar, dAug, dMth, dM1, dSl, dPart, dNoPart, dYes, startR, List.map_cons, List.map_nil, List.length_cons, List.length_nil, List.replicate, List.cons_append, List.nil_append, List.append_nil, List.getElem?_cons_zero, List.getElem?_cons_succ, List.set_cons_zero, List.set_cons_succ, List.set_nil, dAdd, dSub, dMul, dMod, dFdv, dPow, dShl, dShr, dBit, dLt, dCmp, dNeg, Nat.reduceAdd, Nat.reduceSub, Nat.zero_add, rd_len_scr, rd_len_lst, rd_len_tup, rd_len_str, rd_eq_int, rd_eq_str, rd_eq_bl, rd_eq_nn, rd_eq_ns, rd_eq_sn, rd_eq_ni, rd_eq_in, rd_eq_nt, rd_eq_tn, rd_eq_pair, rd_is_non, rd_is_bl, rd_str_int, rd_int_int, rd_int_bl, rd_ix0, rd_ix1, rd_lix0, rd_lix1, rd_list_lst, rd_list_tup, rd_listM_lst, rd_tuple_lst, DL.isNon, wipeR, if_true, if_false, Bool.false_eq_true, Bool.not_true, Bool.not_false, reduceIte]
    refine setF_ref (y := a) (l := x) (fun Q' q => q) rfl hM c n1 (by show 0 < 1000; decide) ?_
    dsimp only
    refine setF_ref (y := b) (l := x) (fun Q' q => q) rfl updM_same c n2 (by show 1 < 1000; decide) ?_
    rw [updM_updM]
    exact ⟨_, _, subM_refl _, .same _, h⟩
theorem cnt_pos (t : T) : 0 < cnt t := by
  cases t with
  | nd a b c => rw [cnt]; exact Nat.succ_pos _
theorem ok_shown0 {f : Addr} {fd : FuncData} {k : Nat} (F : FunX K "shown" "Node.shown" S_Node_shown f fd) : FnOk P w K mg base (L2.CX P w) (k + 1) f fd ["self"] (toSp K (fsP (pShown CT CJ 0))) := by
  refine okP F sc_Node_shown (fun ds q ex h => ?_) (fun cdv A outer s H E ds hr hx => ⟨_, dss_never, fun q ex h => ?_⟩)
  · obtain ⟨t, rfl, _⟩ := h
    rfl
  · obtain ⟨t, rfl, _, h, _⟩ := h
    have := cnt_pos t
    omega
theorem ok_names0 {f : Addr} {fd : FuncData} {k : Nat} (F : FunX K "names" "Node.names" S_Node_names f fd) : FnOk P w K mg base (L2.CX P w) (k + 1) f fd ["self"] (toSp K (pNamesF CT CJ 0)) := by
  refine okD F sc_Node_names (fun ds M q ex h => ?_) (fun cdv A outer s H E ds hr hx => ⟨_, dss_never, fun M q ex h => ?_⟩)
  · obtain ⟨t, rfl, _⟩ := h
    rfl
  · obtain ⟨t, rfl, h, _⟩ := h
    have := cnt_pos t
    omega
end

end LM
namespace LM
open PySem L2 DL PySem.Spec PyProof.Rows
abbrev S_is_whole : Stmt := topS 7
theorem sc_is_whole : FnScope ["thing"] ["thing"] (defScope S_is_whole) := ⟨rfl, rfl, rfl, by decide +kernel, rfl, by decide +kernel, by decide +kernel⟩
abbrev S_divisor : Stmt := topS 8
theorem sc_divisor : FnScope ["one", "other"] ["one", "other"] (defScope S_divisor) := ⟨rfl, rfl, rfl, by decide +kernel, rfl, by decide +kernel, by decide +kernel⟩
abbrev S_amount : Stmt := topS 9
theorem sc_amount : FnScope ["top", "bottom", "share"] ["top", "bottom"] (defScope S_amount) := ⟨rfl, rfl, rfl, by decide +kernel, rfl, by decide +kernel, by decide +kernel⟩
abbrev S_number_read : Stmt := topS 10
theorem sc_number_read : FnScope ["text", "sign"] ["text"] (defScope S_number_read) := ⟨rfl, rfl, rfl, by decide +kernel, rfl, by decide +kernel, by decide +kernel⟩
abbrev S_read_amount : Stmt := topS 11
theorem sc_read_amount : FnScope ["text", "top", "stroke", "bottom"] ["text"] (defScope S_read_amount) := ⟨rfl, rfl, rfl, by decide +kernel, rfl, by decide +kernel, by decide +kernel⟩

structure TxtM (mg : Str → Option Value) : Prop extends TxtA mg where
  b_abs : mg "abs" = none
  b_bool : mg "bool" = none
  k_FIGURES : ∃ t, mg "FIGURES" = some (.str (Str.ofString "0123456789") t)
  k_LONGEST_amounts : ∃ t, mg "LONGEST_amounts" = some (.int 30 t)
def pIsWhole : Ps := fun ds q _ => ∃ i : Int, ds = [.int i] ∧ q (.bl true)
def pDivisor : Ps := fun ds q _ => ∃ a b : Nat, ds = [.int (a : Nat), .int (b : Nat)] ∧ q (.int (Nat.gcd a b : Nat))
def pAmount : Ps := fun ds q _ => ∃ a b : Nat, ds = [.int (a : Nat), .int (b : Nat)] ∧ 0 < b ∧ b < 2 ^ 4000 ∧ q (prD (lowN a b))
def pNumber : Ps := fun ds q _ => ∃ a : Nat, ds = [.str (toString ((a : Nat) : Int))] ∧ a < 10 ^ 30 ∧ q (.int (a : Nat))
def pReadAmt : Ps := fun ds q _ => ∃ a b : Nat, ds = [.str (amtS a b)] ∧ a < 10 ^ 30 ∧ b < 10 ^ 30 ∧ 0 < b ∧ q (prD (lowN a b))
theorem numL_head (n : Nat) : ∀ c r, TL.numL n = c :: r → c = 48 → r = [] := by
  induction n using Nat.strongRecOn with
  | _ n ih =>
    intro c r e hc
    by_cases h : n < 10
    · rw [TL.numL_lt h] at e
      cases e
      rfl
    · rw [TL.numL_step (by omega)] at e
      cases hn : TL.numL (n / 10) with
      | nil => exact absurd hn (TL.numL_ne _)
      | cons d t =>
        rw [hn] at e
        have e1 : d = c := (List.cons.inj e).1
        have ht := ih (n / 10) (by omega) d t hn (by rw [e1]; exact hc)
        subst ht
        have hd : d = 48 := by rw [e1]; exact hc
        subst hd
        have h10 : n / 10 = 0 := by
          have := TL.numL_val (n / 10)
          rw [hn] at this
          have h0 : NumText.digitsVal [48] = 0 := rfl
          omega
        omega
theorem dig_mem (c : Nat) (h : 48 ≤ c ∧ c ≤ 57) : c ∈ (Str.ofString "0123456789").cps.toList := by
  have e : (Str.ofString "0123456789").cps.toList = [48, 49, 50, 51, 52, 53, 54, 55, 56, 57] := rfl
  rw [e]
  simp only [List.mem_cons, List.not_mem_nil, or_false]
  omega
section
variable {P : Program} {w : World} {K : PySem.W.Frag} {mg : Str → Option Value} {base : Heap}
theorem ok_is_whole {f : Addr} {fd : FuncData} (F : FunX K "is_whole" "is_whole" S_is_whole f fd) (T : TxtM mg) : FnOk P w K mg base (L2.CX P w) 1 f fd ["thing"] (toSp K (fsP pIsWhole)) := by
  refine okP F sc_is_whole (fun ds q ex h => ?_) (fun cdv A outer s H E ds hr hx => ?_)
  · obtain ⟨a, rfl, _⟩ := h
    rfl
  · refine ⟨_, (dss_one (ds_ret (d_and (d_callB call_isi s_isi rfl T.b_isinstance boot_isinstance (da_cons (dv 0) (da_cons (d_ty T.b_int boot_int) da_nil))) (d_one (d_not (d_callB call_isi s_isi rfl T.b_isinstance boot_isinstance (da_cons (dv 0) (da_cons (d_ty T.b_bool boot_bool) da_nil)))))))), fun q ex h => ?_⟩
    obtain ⟨i, rfl, h⟩ := h
    simp only [dSeq, dNext, dRet, dRetN, dIfS, dDrop, dOp, dV, dC, dUn, dTest, dAnd, dOr, dNot, dAndV, dOrV, dNotV, dIf, dCB, dCons, dNil, dTup, dLst, dCallP, dAsg, qName, qCons, qNil, qTup, dPar, dAug, dMth, dM1, dSl, dPart, dNoPart, dYes, startR, List.map_cons, List.map_nil, List.length_cons, List.length_nil, List.replicate, List.cons_append, List.nil_append, List.append_nil, List.getElem?_cons_zero, List.getElem?_cons_succ, List.set_cons_zero, List.set_cons_succ, List.set_nil, dAdd, dSub, dMul, dMod, dFdv, dPow, dShl, dShr, dBit, dLt, dCmp, dNeg, Nat.reduceAdd, Nat.reduceSub, Nat.zero_add, rd_len_scr, rd_len_lst, rd_len_tup, rd_len_str, rd_eq_int, rd_eq_str, rd_eq_bl, rd_eq_nn, rd_eq_ns, rd_eq_sn, rd_eq_ni, rd_eq_in, rd_eq_nt, rd_eq_tn, rd_eq_pair, rd_is_non, rd_is_bl, rd_str_int, rd_int_int, rd_int_bl, rd_ix0, rd_ix1, rd_lix0, rd_lix1, rd_list_lst, rd_list_tup, rd_listM_lst, rd_tuple_lst, DL.isNon, wipeR, if_true, if_false, Bool.false_eq_true, Bool.not_true, Bool.not_false, reduceIte]
    refine isi_of (t := .type "int") rfl rfl trivial (kit_ty (r := true) (by decide +kernel)) ?_
    refine isi_of (t := .type "int") rfl rfl trivial (kit_ty (r := false) (by decide +kernel)) ?_
    exact retP_same h
theorem ok_divisor {f : Addr} {fd : FuncData} (F : FunX K "divisor" "divisor" S_divisor f fd) (T : TxtM mg) : FnOk P w K mg base (L2.CX P w) 1 f fd ["one", "other"] (toSp K (fsP pDivisor)) := by
  refine okP F sc_divisor (fun ds q ex h => ?_) (fun cdv A outer s H E ds hr hx => ?_)
  · obtain ⟨a, b, rfl, _⟩ := h
    rfl
  · refine ⟨_, (dss_cons (ds_while (passes_of rfl) (dt_cmp (o_ne hr.units) (s_eq true) (dv 1) d_int (nomark _))
      (dss_one (ds_par (i := 0) (j := 1) rfl sc_divisor.nd rfl rfl (by decide) rfl rfl (da_cons (dv 1) (da_cons (d_op o_mod s_mod (dv 0) (dv 1)) da_nil)) (by rfl))))
      (dss_one (ds_ret (d_callB call_abs s_abs rfl T.b_abs boot_abs' (da_cons (dv 0) da_nil))))), fun q ex h => ?_⟩
    obtain ⟨a, b, rfl, h⟩ := h
    simp only [dSeq, dNext, dRet, dRetN, dIfS, dDrop, dOp, dV, dC, dUn, dTest, dAnd, dOr, dNot, dAndV, dOrV, dNotV, dIf, dCB, dCons, dNil, dTup, dLst, dCallP, dAsg, qName, qCons, qNil, qTup, dPar, dAug, dMth, dM1, dSl, dPart, dNoPart, dYes, startR, List.map_cons, List.map_nil, List.length_cons, List.length_nil, List.replicate, List.cons_append, List.nil_append, List.append_nil, List.getElem?_cons_zero, List.getElem?_cons_succ, List.set_cons_zero, List.set_cons_succ, List.set_nil, dAdd, dSub, dMul, dMod, dFdv, dPow, dShl, dShr, dBit, dLt, dCmp, dNeg, Nat.reduceAdd, Nat.reduceSub, Nat.zero_add, rd_len_scr, rd_len_lst, rd_len_tup, rd_len_str, rd_eq_int, rd_eq_str, rd_eq_bl, rd_eq_nn, rd_eq_ns, rd_eq_sn, rd_eq_ni, rd_eq_in, rd_eq_nt, rd_eq_tn, rd_eq_pair, rd_is_non, rd_is_bl, rd_str_int, rd_int_int, rd_int_bl, rd_ix0, rd_ix1, rd_lix0, rd_lix1, rd_list_lst, rd_list_tup, rd_listM_lst, rd_tuple_lst, DL.isNon, wipeR, if_true, if_false, Bool.false_eq_true, Bool.not_true, Bool.not_false, reduceIte]
    refine while_ind (fun m ρ M => M = M0 ∧ ∃ x y : Nat, m = y ∧ ρ = [some (.int (x : Nat)), some (.int (y : Nat))] ∧ Nat.gcd x y = Nat.gcd a b) (m := b) ⟨rfl, a, b, rfl, rfl, rfl⟩ ?_
    rintro m ρ M ⟨rfl, x, y, e0, rfl, hg⟩ nx hnx
    subst m
    simp only [dSeq, dNext, dRet, dRetN, dIfS, dDrop, dOp, dV, dC, dUn, dTest, dAnd, dOr, dNot, dAndV, dOrV, dNotV, dIf, dCB, dCons, dNil, dTup, dLst, dCallP, dAsg, qName, qCons, qNil, qTup, dPar, dAug, dMth, dM1, dSl, dPart, dNoPart, dYes, startR, List.map_cons, List.map_nil, List.length_cons, List.length_nil, List.replicate, List.cons_append, List.nil_append, List.append_nil, List.getElem?_cons_zero, List.getElem?_cons_succ, List.set_cons_zero, List.set_cons_succ, List.set_nil, dAdd, dSub, dMul, dMod, dFdv, dPow, dShl, dShr, dBit, dLt, dCmp, dNeg, Nat.reduceAdd, Nat.reduceSub, Nat.zero_add, rd_len_scr, rd_len_lst, rd_len_tup, rd_len_str, rd_eq_int, rd_eq_str, rd_eq_bl, rd_eq_nn, rd_eq_ns, rd_eq_sn, rd_eq_ni, rd_eq_in, rd_eq_nt, rd_eq_tn, rd_eq_pair, rd_is_non, rd_is_bl, rd_str_int, rd_int_int, rd_int_bl, rd_ix0, rd_ix1, rd_lix0, rd_lix1, rd_list_lst, rd_list_tup, rd_listM_lst, rd_tuple_lst, DL.isNon, wipeR, if_true, if_false, Bool.false_eq_true, Bool.not_true, Bool.not_false, reduceIte]
    by_cases hy : y = 0
    · subst hy
      rw [if_neg (by decide)]
      rw [Nat.gcd_zero_right] at hg
      subst hg
      show retP q (.int (if ((Nat.gcd a b : Nat) : Int) < 0 then -((Nat.gcd a b : Nat) : Int) else ((Nat.gcd a b : Nat) : Int))) M0
      rw [if_neg (by omega)]
      exact retP_same h
    · have e : (!(((y : Nat) : Int) == 0)) = true := by
        rw [Bool.not_eq_true', beq_eq_false_iff_ne]; omega
      rw [if_pos e]
      exact ⟨by omega, hnx (x % y) _ _ (Nat.mod_lt _ (by omega)) ⟨rfl, y, x % y, rfl, rfl, by rw [← hg, Nat.gcd_comm y, ← Nat.gcd_rec, Nat.gcd_comm]⟩⟩
theorem ok_amount {f : Addr} {fd : FuncData} (F : FunX K "amount" "amount" S_amount f fd) (T : TxtM mg) (G_is_whole : FnG P w K mg base 1 "is_whole" 0 [] (fsP pIsWhole)) (G_divisor : FnG P w K mg base 1 "divisor" 0 [] (fsP pDivisor)) :
    FnOk P w K mg base (L2.CX P w) 2 f fd ["top", "bottom"] (toSp K (fsP pAmount)) := by
  refine okP F sc_amount (fun ds q ex h => ?_) (fun cdv A outer s H E ds hr hx => ?_)
  · obtain ⟨a, b, rfl, _⟩ := h
    rfl
  · refine ⟨_, (dss_cons (ds_ifE (dt_w (dw_or (dt_not (dt_val (d_callP G_is_whole (hr.mono (by decide)) hx (da_cons (dv 0) da_nil)))) (dw_or1 (dt_not (dt_val (d_callP G_is_whole (hr.mono (by decide)) hx (da_cons (dv 1) da_nil)))))))
      (dss_one ds_never)
      dss_nil)
      (dss_cons (ds_if (dt_cmp (o_eq hr.units) (s_eq false) (dv 1) d_int (nomark _))
      (dss_one ds_never)
      dss_nil)
      (dss_cons (ds_set (i := 2) sc_amount.nd rfl (Or.inl rfl) (d_callP G_divisor (hr.mono (by decide)) hx (da_cons (dv 0) (da_cons (dv 1) da_nil))))
      (dss_mid (ds_if (dt_cmp o_lt s_lt (dv 1) d_int (nomark _))
      (dss_one (ds_set (i := 2) sc_amount.nd rfl (Or.inl rfl) (d_op o_sub s_sub d_int (dv 2))))
      dss_nil)
      (dss_one (ds_ret (d_tup (da_cons (d_op o_fdv s_fdv (dv 0) (dv 2)) (da_cons (d_op o_fdv s_fdv (dv 1) (dv 2)) da_nil))))))))), fun q ex h => ?_⟩
    obtain ⟨a, b, rfl, hb0, hb, h⟩ := h
    simp only [dSeq, dNext, dRet, dRetN, dIfS, dDrop, dOp, dV, dC, dUn, dTest, dAnd, dOr, dNot, dAndV, dOrV, dNotV, dIf, dCB, dCons, dNil, dTup, dLst, dCallP, dAsg, qName, qCons, qNil, qTup, dPar, dAug, dMth, dM1, dSl, dPart, dNoPart, dYes, startR, List.map_cons, List.map_nil, List.length_cons, List.length_nil, List.replicate, List.cons_append, List.nil_append, List.append_nil, List.getElem?_cons_zero, List.getElem?_cons_succ, List.set_cons_zero, List.set_cons_succ, List.set_nil, dAdd, dSub, dMul, dMod, dFdv, dPow, dShl, dShr, dBit, dLt, dCmp, dNeg, Nat.reduceAdd, Nat.reduceSub, Nat.zero_add, rd_len_scr, rd_len_lst, rd_len_tup, rd_len_str, rd_eq_int, rd_eq_str, rd_eq_bl, rd_eq_nn, rd_eq_ns, rd_eq_sn, rd_eq_ni, rd_eq_in, rd_eq_nt, rd_eq_tn, rd_eq_pair, rd_is_non, rd_is_bl, rd_str_int, rd_int_int, rd_int_bl, rd_ix0, rd_ix1, rd_lix0, rd_lix1, rd_list_lst, rd_list_tup, rd_listM_lst, rd_tuple_lst, DL.isNon, wipeR, if_true, if_false, Bool.false_eq_true, Bool.not_true, Bool.not_false, reduceIte]
    refine ifE_of false ?_ ?_
    · simp only [dSeq, dNext, dRet, dRetN, dIfS, dDrop, dOp, dV, dC, dUn, dTest, dAnd, dOr, dNot, dAndV, dOrV, dNotV, dIf, dCB, dCons, dNil, dTup, dLst, dCallP, dAsg, qName, qCons, qNil, qTup, dPar, dAug, dMth, dM1, dSl, dPart, dNoPart, dYes, startR, List.map_cons, List.map_nil, List.length_cons, List.length_nil, List.replicate, List.cons_append, List.nil_append, List.append_nil, List.getElem?_cons_zero, List.getElem?_cons_succ, List.set_cons_zero, List.set_cons_succ, List.set_nil, dAdd, dSub, dMul, dMod, dFdv, dPow, dShl, dShr, dBit, dLt, dCmp, dNeg, Nat.reduceAdd, Nat.reduceSub, Nat.zero_add, rd_len_scr, rd_len_lst, rd_len_tup, rd_len_str, rd_eq_int, rd_eq_str, rd_eq_bl, rd_eq_nn, rd_eq_ns, rd_eq_sn, rd_eq_ni, rd_eq_in, rd_eq_nt, rd_eq_tn, rd_eq_pair, rd_is_non, rd_is_bl, rd_str_int, rd_int_int, rd_int_bl, rd_ix0, rd_ix1, rd_lix0, rd_lix1, rd_list_lst, rd_list_tup, rd_listM_lst, rd_tuple_lst, DL.isNon, wipeR, if_true, if_false, Bool.false_eq_true, Bool.not_true, Bool.not_false, reduceIte]
      refine ⟨_, rfl, ?_⟩
      refine ite_f Bool.false_ne_true ?_
      exact ⟨_, rfl, rfl, rfl⟩
    simp only [dSeq, dNext, dRet, dRetN, dIfS, dDrop, dOp, dV, dC, dUn, dTest, dAnd, dOr, dNot, dAndV, dOrV, dNotV, dIf, dCB, dCons, dNil, dTup, dLst, dCallP, dAsg, qName, qCons, qNil, qTup, dPar, dAug, dMth, dM1, dSl, dPart, dNoPart, dYes, startR, List.map_cons, List.map_nil, List.length_cons, List.length_nil, List.replicate, List.cons_append, List.nil_append, List.append_nil, List.getElem?_cons_zero, List.getElem?_cons_succ, List.set_cons_zero, List.set_cons_succ, List.set_nil, dAdd, dSub, dMul, dMod, dFdv, dPow, dShl, dShr, dBit, dLt, dCmp, dNeg, Nat.reduceAdd, Nat.reduceSub, Nat.zero_add, rd_len_scr, rd_len_lst, rd_len_tup, rd_len_str, rd_eq_int, rd_eq_str, rd_eq_bl, rd_eq_nn, rd_eq_ns, rd_eq_sn, rd_eq_ni, rd_eq_in, rd_eq_nt, rd_eq_tn, rd_eq_pair, rd_is_non, rd_is_bl, rd_str_int, rd_int_int, rd_int_bl, rd_ix0, rd_ix1, rd_lix0, rd_lix1, rd_list_lst, rd_list_tup, rd_listM_lst, rd_tuple_lst, DL.isNon, wipeR, if_true, if_false, Bool.false_eq_true, Bool.not_true, Bool.not_false, reduceIte]
    refine ite_f (by rw [beq_iff_eq]; omega) ?_
    refine ⟨a, b, rfl, ?_⟩
    refine ⟨fun ρ' M' => M' = M0 ∧ ρ' = [some (.int (a : Nat)), some (.int (b : Nat)), some (.int (Nat.gcd a b : Nat))], ?_, ?_⟩
    · simp only [dSeq, dNext, dRet, dRetN, dIfS, dDrop, dOp, dV, dC, dUn, dTest, dAnd, dOr, dNot, dAndV, dOrV, dNotV, dIf, dCB, dCons, dNil, dTup, dLst, dCallP, dAsg, qName, qCons, qNil, qTup, dPar, dAug, dMth, dM1, dSl, dPart, dNoPart, dYes, startR, List.map_cons, List.map_nil, List.length_cons, List.length_nil, List.replicate, List.cons_append, List.nil_append, List.append_nil, List.getElem?_cons_zero, List.getElem?_cons_succ, List.set_cons_zero, List.set_cons_succ, List.set_nil, dAdd, dSub, dMul, dMod, dFdv, dPow, dShl, dShr, dBit, dLt, dCmp, dNeg, Nat.reduceAdd, Nat.reduceSub, Nat.zero_add, rd_len_scr, rd_len_lst, rd_len_tup, rd_len_str, rd_eq_int, rd_eq_str, rd_eq_bl, rd_eq_nn, rd_eq_ns, rd_eq_sn, rd_eq_ni, rd_eq_in, rd_eq_nt, rd_eq_tn, rd_eq_pair, rd_is_non, rd_is_bl, rd_str_int, rd_int_int, rd_int_bl, rd_ix0, rd_ix1, rd_lix0, rd_lix1, rd_list_lst, rd_list_tup, rd_listM_lst, rd_tuple_lst, DL.isNon, wipeR, if_true, if_false, Bool.false_eq_true, Bool.not_true, Bool.not_false, reduceIte]
      refine ite_f ?_ ⟨trivial, trivial⟩
      intro z
      have := of_decide_eq_true z
      omega
    rintro ρ' M' ⟨rfl, rfl⟩
    simp only [dSeq, dNext, dRet, dRetN, dIfS, dDrop, dOp, dV, dC, dUn, dTest, dAnd, dOr, dNot, dAndV, dOrV, dNotV, dIf, dCB, dCons, dNil, dTup, dLst, dCallP, dAsg, qName, qCons, qNil, qTup, dPar, dAug, dMth, dM1, dSl, dPart, dNoPart, dYes, startR, List.map_cons, List.map_nil, List.length_cons, List.length_nil, List.replicate, List.cons_append, List.nil_append, List.append_nil, List.getElem?_cons_zero, List.getElem?_cons_succ, List.set_cons_zero, List.set_cons_succ, List.set_nil, dAdd, dSub, dMul, dMod, dFdv, dPow, dShl, dShr, dBit, dLt, dCmp, dNeg, Nat.reduceAdd, Nat.reduceSub, Nat.zero_add, rd_len_scr, rd_len_lst, rd_len_tup, rd_len_str, rd_eq_int, rd_eq_str, rd_eq_bl, rd_eq_nn, rd_eq_ns, rd_eq_sn, rd_eq_ni, rd_eq_in, rd_eq_nt, rd_eq_tn, rd_eq_pair, rd_is_non, rd_is_bl, rd_str_int, rd_int_int, rd_int_bl, rd_ix0, rd_ix1, rd_lix0, rd_lix1, rd_list_lst, rd_list_tup, rd_listM_lst, rd_tuple_lst, DL.isNon, wipeR, if_true, if_false, Bool.false_eq_true, Bool.not_true, Bool.not_false, reduceIte]
    have bg : Nat.gcd a b ≤ b := Nat.le_of_dvd hb0 (Nat.gcd_dvd_right a b)
    have gp : 0 < Nat.gcd a b := Nat.gcd_pos_of_pos_right _ hb0
    have dx : DivOk ((Nat.gcd a b : Nat) : Int) := divOk (b := 4000) (by omega) (b_nat (Nat.lt_of_le_of_lt bg hb))
    exact ⟨dx, dx, by rw [sizeLine_eq]; decide, retP_same h⟩
theorem ok_number_read {f : Addr} {fd : FuncData} (F : FunX K "number_read" "number_read" S_number_read f fd) (T : TxtM mg) : FnOk P w K mg base (L2.CX P w) 1 f fd ["text"] (toSp K (fsP pNumber)) := by
  refine okP F sc_number_read (fun ds q ex h => ?_) (fun cdv A outer s H E ds hr hx => ?_)
  · obtain ⟨a, rfl, _⟩ := h
    rfl
  · refine ⟨_, (dss_cons (ds_ifE (dt_w (dw_or (dt_cmp (o_eq hr.units) (s_eq false) (dv 0) d_str (nomark _)) (dw_or1 (dt_cmp o_gt s_cmp (d_callB c_len s_len rfl T.b_len PySem.boot_len (da_cons (dv 0) da_nil)) (d_gint T.k_LONGEST_amounts) (nomark _)))))
      (dss_one ds_never)
      dss_nil)
      (dss_cons (ds_for (passes_of rfl) rfl (di_str (dv 0)) (dg_name (i := 1) sc_number_read.nd rfl (Or.inl rfl))
      (dss_one (ds_if (dt_cmp o_notin (s_in true) (dv 1) (d_gstr T.k_FIGURES) rfl)
        (dss_one ds_never)
        dss_nil)))
      (dss_cons (ds_ifE (dt_w (dw_and (dt_cmp (o_eq hr.units) (s_eq false) (d_ix ix_any s_ix (dv 0) d_int) d_str (nomark _)) (dw_and1 (dt_cmp o_gt s_cmp (d_callB c_len s_len rfl T.b_len PySem.boot_len (da_cons (dv 0) da_nil)) d_int (nomark _)))))
      (dss_one ds_never)
      dss_nil)
      (dss_one (ds_ret (d_callTy c_int s_int rfl T.b_int boot_int (da_cons (dv 0) da_nil))))))), fun q ex h => ?_⟩
    obtain ⟨a, rfl, ha, h⟩ := h
    have htl : (Str.ofString (toString ((a : Nat) : Int))).cps.toList = TL.numL a := TL.tl_num a
    have hll := TL.numL_len (k := 30) (by decide) ha
    have hln : (Str.ofString (toString ((a : Nat) : Int))).length ≤ 30 := by
      have : (Str.ofString (toString ((a : Nat) : Int))).length = (Str.ofString (toString ((a : Nat) : Int))).cps.toList.length := Array.length_toList.symm
      rw [this, htl]; exact hll
    have hll2 : (Str.ofString (toString ((a : Nat) : Int))).length = (TL.numL a).length := by
      have : (Str.ofString (toString ((a : Nat) : Int))).length = (Str.ofString (toString ((a : Nat) : Int))).cps.toList.length := Array.length_toList.symm
      rw [this, htl]
    have hint := TL.int_num (n := a) (by omega)
    generalize (Str.ofString (toString ((a : Nat) : Int))) = z at htl hln hint hll2 ⊢
    have hne := TL.numL_ne a
    have sz : (100 : Nat) ≤ sizeLine := by rw [sizeLine_eq]; decide
    simp only [dSeq, dNext, dRet, dRetN, dIfS, dDrop, dOp, dV, dC, dUn, dTest, dAnd, dOr, dNot, dAndV, dOrV, dNotV, dIf, dCB, dCons, dNil, dTup, dLst, dCallP, dAsg, qName, qCons, qNil, qTup, dPar, dAug, dMth, dM1, dSl, dPart, dNoPart, dYes, startR, List.map_cons, List.map_nil, List.length_cons, List.length_nil, List.replicate, List.cons_append, List.nil_append, List.append_nil, List.getElem?_cons_zero, List.getElem?_cons_succ, List.set_cons_zero, List.set_cons_succ, List.set_nil, dAdd, dSub, dMul, dMod, dFdv, dPow, dShl, dShr, dBit, dLt, dCmp, dNeg, Nat.reduceAdd, Nat.reduceSub, Nat.zero_add, rd_len_scr, rd_len_lst, rd_len_tup, rd_len_str, rd_eq_int, rd_eq_str, rd_eq_bl, rd_eq_nn, rd_eq_ns, rd_eq_sn, rd_eq_ni, rd_eq_in, rd_eq_nt, rd_eq_tn, rd_eq_pair, rd_is_non, rd_is_bl, rd_str_int, rd_int_int, rd_int_bl, rd_ix0, rd_ix1, rd_lix0, rd_lix1, rd_list_lst, rd_list_tup, rd_listM_lst, rd_tuple_lst, DL.isNon, wipeR, if_true, if_false, Bool.false_eq_true, Bool.not_true, Bool.not_false, reduceIte]
    refine ifE_of false ?_ ?_
    · simp only [dSeq, dNext, dRet, dRetN, dIfS, dDrop, dOp, dV, dC, dUn, dTest, dAnd, dOr, dNot, dAndV, dOrV, dNotV, dIf, dCB, dCons, dNil, dTup, dLst, dCallP, dAsg, qName, qCons, qNil, qTup, dPar, dAug, dMth, dM1, dSl, dPart, dNoPart, dYes, startR, List.map_cons, List.map_nil, List.length_cons, List.length_nil, List.replicate, List.cons_append, List.nil_append, List.append_nil, List.getElem?_cons_zero, List.getElem?_cons_succ, List.set_cons_zero, List.set_cons_succ, List.set_nil, dAdd, dSub, dMul, dMod, dFdv, dPow, dShl, dShr, dBit, dLt, dCmp, dNeg, Nat.reduceAdd, Nat.reduceSub, Nat.zero_add, rd_len_scr, rd_len_lst, rd_len_tup, rd_len_str, rd_eq_int, rd_eq_str, rd_eq_bl, rd_eq_nn, rd_eq_ns, rd_eq_sn, rd_eq_ni, rd_eq_in, rd_eq_nt, rd_eq_tn, rd_eq_pair, rd_is_non, rd_is_bl, rd_str_int, rd_int_int, rd_int_bl, rd_ix0, rd_ix1, rd_lix0, rd_lix1, rd_list_lst, rd_list_tup, rd_listM_lst, rd_tuple_lst, DL.isNon, wipeR, if_true, if_false, Bool.false_eq_true, Bool.not_true, Bool.not_false, reduceIte]
      have hz : (z == Str.ofString "") = false := by
        rw [beq_eq_false_iff_ne]
        intro e
        rw [e] at htl
        exact hne htl.symm
      rw [hz]
      refine ite_f Bool.false_ne_true ⟨by omega, ?_, rfl⟩
      exact decide_eq_false (by omega)
    refine ite_f Bool.false_ne_true ?_
    simp only [dSeq, dNext, dRet, dRetN, dIfS, dDrop, dOp, dV, dC, dUn, dTest, dAnd, dOr, dNot, dAndV, dOrV, dNotV, dIf, dCB, dCons, dNil, dTup, dLst, dCallP, dAsg, qName, qCons, qNil, qTup, dPar, dAug, dMth, dM1, dSl, dPart, dNoPart, dYes, startR, List.map_cons, List.map_nil, List.length_cons, List.length_nil, List.replicate, List.cons_append, List.nil_append, List.append_nil, List.getElem?_cons_zero, List.getElem?_cons_succ, List.set_cons_zero, List.set_cons_succ, List.set_nil, dAdd, dSub, dMul, dMod, dFdv, dPow, dShl, dShr, dBit, dLt, dCmp, dNeg, Nat.reduceAdd, Nat.reduceSub, Nat.zero_add, rd_len_scr, rd_len_lst, rd_len_tup, rd_len_str, rd_eq_int, rd_eq_str, rd_eq_bl, rd_eq_nn, rd_eq_ns, rd_eq_sn, rd_eq_ni, rd_eq_in, rd_eq_nt, rd_eq_tn, rd_eq_pair, rd_is_non, rd_is_bl, rd_str_int, rd_int_int, rd_int_bl, rd_ix0, rd_ix1, rd_lix0, rd_lix1, rd_list_lst, rd_list_tup, rd_listM_lst, rd_tuple_lst, DL.isNon, wipeR, if_true, if_false, Bool.false_eq_true, Bool.not_true, Bool.not_false, reduceIte, dFor, dStrI]
    refine each_ind (fun xs ρ M => M = M0 ∧ (∃ s, ρ = [some (.str z), s]) ∧ ∃ cs : List Nat, xs = cs.map (fun c => D.str ⟨#[c]⟩) ∧ ∀ c, c ∈ cs → 48 ≤ c ∧ c ≤ 57) ?_ ?_ _ _ _ ⟨rfl, ⟨_, rfl⟩, z.cps.toList, rfl, by rw [htl]; exact TL.numL_digits a⟩
    · rintro ρ M ⟨rfl, ⟨s, rfl⟩, _⟩
      simp only [dSeq, dNext, dRet, dRetN, dIfS, dDrop, dOp, dV, dC, dUn, dTest, dAnd, dOr, dNot, dAndV, dOrV, dNotV, dIf, dCB, dCons, dNil, dTup, dLst, dCallP, dAsg, qName, qCons, qNil, qTup, dPar, dAug, dMth, dM1, dSl, dPart, dNoPart, dYes, startR, List.map_cons, List.map_nil, List.length_cons, List.length_nil, List.replicate, List.cons_append, List.nil_append, List.append_nil, List.getElem?_cons_zero, List.getElem?_cons_succ, List.set_cons_zero, List.set_cons_succ, List.set_nil, dAdd, dSub, dMul, dMod, dFdv, dPow, dShl, dShr, dBit, dLt, dCmp, dNeg, Nat.reduceAdd, Nat.reduceSub, Nat.zero_add, rd_len_scr, rd_len_lst, rd_len_tup, rd_len_str, rd_eq_int, rd_eq_str, rd_eq_bl, rd_eq_nn, rd_eq_ns, rd_eq_sn, rd_eq_ni, rd_eq_in, rd_eq_nt, rd_eq_tn, rd_eq_pair, rd_is_non, rd_is_bl, rd_str_int, rd_int_int, rd_int_bl, rd_ix0, rd_ix1, rd_lix0, rd_lix1, rd_list_lst, rd_list_tup, rd_listM_lst, rd_tuple_lst, DL.isNon, wipeR, if_true, if_false, Bool.false_eq_true, Bool.not_true, Bool.not_false, reduceIte]
      refine ifE_of false ?_ ?_
      · simp only [dSeq, dNext, dRet, dRetN, dIfS, dDrop, dOp, dV, dC, dUn, dTest, dAnd, dOr, dNot, dAndV, dOrV, dNotV, dIf, dCB, dCons, dNil, dTup, dLst, dCallP, dAsg, qName, qCons, qNil, qTup, dPar, dAug, dMth, dM1, dSl, dPart, dNoPart, dYes, startR, List.map_cons, List.map_nil, List.length_cons, List.length_nil, List.replicate, List.cons_append, List.nil_append, List.append_nil, List.getElem?_cons_zero, List.getElem?_cons_succ, List.set_cons_zero, List.set_cons_succ, List.set_nil, dAdd, dSub, dMul, dMod, dFdv, dPow, dShl, dShr, dBit, dLt, dCmp, dNeg, Nat.reduceAdd, Nat.reduceSub, Nat.zero_add, rd_len_scr, rd_len_lst, rd_len_tup, rd_len_str, rd_eq_int, rd_eq_str, rd_eq_bl, rd_eq_nn, rd_eq_ns, rd_eq_sn, rd_eq_ni, rd_eq_in, rd_eq_nt, rd_eq_tn, rd_eq_pair, rd_is_non, rd_is_bl, rd_str_int, rd_int_int, rd_int_bl, rd_ix0, rd_ix1, rd_lix0, rd_lix1, rd_list_lst, rd_list_tup, rd_listM_lst, rd_tuple_lst, DL.isNon, wipeR, if_true, if_false, Bool.false_eq_true, Bool.not_true, Bool.not_false, reduceIte]
        cases e : TL.numL a with
        | nil => exact absurd e hne
        | cons c r =>
          refine ix_str (c := c) (by omega) (by decide) (by rw [htl, e]; rfl) ?_
          rw [rd_eq_str]
          show (if ((⟨#[c]⟩ : Str) == Str.ofString "0") = true then _ else _)
          split
          · rename_i hc
            have hc := beq_iff_eq.mp hc
            have hc2 : c = 48 := by
              have := congrArg (fun s : Str => s.cps.toList) hc
              have e2 : (Str.ofString "0").cps.toList = [48] := rfl
              rw [e2] at this
              exact (List.cons.inj this).1
            have hr := numL_head a c r e hc2
            rw [hr] at e
            rw [e] at hll2
            refine ⟨by omega, ?_, rfl⟩
            refine decide_eq_false ?_
            rw [hll2]
            show ¬ (1 : Int) < ((1 : Nat) : Int)
            decide
          · exact ⟨rfl, rfl⟩
      refine ite_f Bool.false_ne_true ?_
      simp only [dSeq, dNext, dRet, dRetN, dIfS, dDrop, dOp, dV, dC, dUn, dTest, dAnd, dOr, dNot, dAndV, dOrV, dNotV, dIf, dCB, dCons, dNil, dTup, dLst, dCallP, dAsg, qName, qCons, qNil, qTup, dPar, dAug, dMth, dM1, dSl, dPart, dNoPart, dYes, startR, List.map_cons, List.map_nil, List.length_cons, List.length_nil, List.replicate, List.cons_append, List.nil_append, List.append_nil, List.getElem?_cons_zero, List.getElem?_cons_succ, List.set_cons_zero, List.set_cons_succ, List.set_nil, dAdd, dSub, dMul, dMod, dFdv, dPow, dShl, dShr, dBit, dLt, dCmp, dNeg, Nat.reduceAdd, Nat.reduceSub, Nat.zero_add, rd_len_scr, rd_len_lst, rd_len_tup, rd_len_str, rd_eq_int, rd_eq_str, rd_eq_bl, rd_eq_nn, rd_eq_ns, rd_eq_sn, rd_eq_ni, rd_eq_in, rd_eq_nt, rd_eq_tn, rd_eq_pair, rd_is_non, rd_is_bl, rd_str_int, rd_int_int, rd_int_bl, rd_ix0, rd_ix1, rd_lix0, rd_lix1, rd_list_lst, rd_list_tup, rd_listM_lst, rd_tuple_lst, DL.isNon, wipeR, if_true, if_false, Bool.false_eq_true, Bool.not_true, Bool.not_false, reduceIte, dInt]
      refine ⟨by omega, ?_⟩
      rw [hint]
      exact retP_same h
    · rintro x xs ρ M ⟨rfl, ⟨s, rfl⟩, cs, hcs, hd⟩ nx hnx
      cases cs with
      | nil => cases hcs
      | cons c cs =>
        obtain ⟨rfl, rfl⟩ := List.cons.inj hcs
        simp only [dSeq, dNext, dRet, dRetN, dIfS, dDrop, dOp, dV, dC, dUn, dTest, dAnd, dOr, dNot, dAndV, dOrV, dNotV, dIf, dCB, dCons, dNil, dTup, dLst, dCallP, dAsg, qName, qCons, qNil, qTup, dPar, dAug, dMth, dM1, dSl, dPart, dNoPart, dYes, startR, List.map_cons, List.map_nil, List.length_cons, List.length_nil, List.replicate, List.cons_append, List.nil_append, List.append_nil, List.getElem?_cons_zero, List.getElem?_cons_succ, List.set_cons_zero, List.set_cons_succ, List.set_nil, dAdd, dSub, dMul, dMod, dFdv, dPow, dShl, dShr, dBit, dLt, dCmp, dNeg, Nat.reduceAdd, Nat.reduceSub, Nat.zero_add, rd_len_scr, rd_len_lst, rd_len_tup, rd_len_str, rd_eq_int, rd_eq_str, rd_eq_bl, rd_eq_nn, rd_eq_ns, rd_eq_sn, rd_eq_ni, rd_eq_in, rd_eq_nt, rd_eq_tn, rd_eq_pair, rd_is_non, rd_is_bl, rd_str_int, rd_int_int, rd_int_bl, rd_ix0, rd_ix1, rd_lix0, rd_lix1, rd_list_lst, rd_list_tup, rd_listM_lst, rd_tuple_lst, DL.isNon, wipeR, if_true, if_false, Bool.false_eq_true, Bool.not_true, Bool.not_false, reduceIte]
        have hm : decide (c ∈ (Str.ofString "0123456789").cps.toList) = true := decide_eq_true (dig_mem c (hd c List.mem_cons_self))
        refine in_sign ?_
        rw [hm]
        refine ite_f Bool.false_ne_true ?_
        exact hnx _ _ ⟨rfl, ⟨_, rfl⟩, cs, rfl, fun c' h' => hd c' (List.mem_cons_of_mem _ h')⟩
theorem ok_read_amount {f : Addr} {fd : FuncData} (F : FunX K "read_amount" "read_amount" S_read_amount f fd) (T : TxtM mg) (G_number_read : FnG P w K mg base 1 "number_read" 0 [] (fsP pNumber)) (G_amount_1 : FnG P w K mg base 2 "amount" 0 [.int 1] (fsP pAmount)) (G_amount_2 : FnG P w K mg base 2 "amount" 0 [] (fsP pAmount)) :
    FnOk P w K mg base (L2.CX P w) 3 f fd ["text"] (toSp K (fsP pReadAmt)) := by
  refine okP F sc_read_amount (fun ds q ex h => ?_) (fun cdv A outer s H E ds hr hx => ?_)
  · obtain ⟨a, b, rfl, _⟩ := h
    rfl
  · refine ⟨_, (dss_cons (ds_asg (d_m1 PySem.F.slot_str_partition PySem.F.type_str_partition mt_part s_partn (dv 0) d_str) (dg_tup rfl (dgs_cons (dg_name (i := 1) sc_read_amount.nd rfl (Or.inl rfl)) (dgs_cons (dg_name (i := 2) sc_read_amount.nd rfl (Or.inl rfl)) (dgs_cons (dg_name (i := 3) sc_read_amount.nd rfl (Or.inl rfl)) dgs_nil)))))
      (dss_cons (ds_if (dt_cmp (o_eq hr.units) (s_eq false) (dv 2) d_str (nomark _))
      (dss_one (ds_ret (d_callP G_amount_1 (hr.mono (by decide)) hx (da_cons (d_callP G_number_read (hr.mono (by decide)) hx (da_cons (dv 1) da_nil)) da_nil))))
      dss_nil)
      (dss_one (ds_ret (d_callP G_amount_2 (hr.mono (by decide)) hx (da_cons (d_callP G_number_read (hr.mono (by decide)) hx (da_cons (dv 1) da_nil)) (da_cons (d_callP G_number_read (hr.mono (by decide)) hx (da_cons (dv 3) da_nil)) da_nil))))))), fun q ex h => ?_⟩
    obtain ⟨a, b, rfl, ha, hb, hb0, h⟩ := h
    simp only [dSeq, dNext, dRet, dRetN, dIfS, dDrop, dOp, dV, dC, dUn, dTest, dAnd, dOr, dNot, dAndV, dOrV, dNotV, dIf, dCB, dCons, dNil, dTup, dLst, dCallP, dAsg, qName, qCons, qNil, qTup, dPar, dAug, dMth, dM1, dSl, dPart, dNoPart, dYes, startR, List.map_cons, List.map_nil, List.length_cons, List.length_nil, List.replicate, List.cons_append, List.nil_append, List.append_nil, List.getElem?_cons_zero, List.getElem?_cons_succ, List.set_cons_zero, List.set_cons_succ, List.set_nil, dAdd, dSub, dMul, dMod, dFdv, dPow, dShl, dShr, dBit, dLt, dCmp, dNeg, Nat.reduceAdd, Nat.reduceSub, Nat.zero_add, rd_len_scr, rd_len_lst, rd_len_tup, rd_len_str, rd_eq_int, rd_eq_str, rd_eq_bl, rd_eq_nn, rd_eq_ns, rd_eq_sn, rd_eq_ni, rd_eq_in, rd_eq_nt, rd_eq_tn, rd_eq_pair, rd_is_non, rd_is_bl, rd_str_int, rd_int_int, rd_int_bl, rd_ix0, rd_ix1, rd_lix0, rd_lix1, rd_list_lst, rd_list_tup, rd_listM_lst, rd_tuple_lst, DL.isNon, wipeR, if_true, if_false, Bool.false_eq_true, Bool.not_true, Bool.not_false, reduceIte]
    have hla : (amtS a b).length ≤ sizeLine := by
      have l1 : ((a : Nat) : Int).natAbs.log2 < 900 := log2_lt (b_nat (Nat.lt_trans ha (by decide)))
      have l2 : ((b : Nat) : Int).natAbs.log2 < 900 := log2_lt (b_nat (Nat.lt_trans hb (by decide)))
      have t1 := intText_len (by decide) l1
      have t2 := intText_len (by decide) l2
      have t3 : (Str.ofString "/").length = 1 := rfl
      rw [sizeLine_eq]
      unfold amtS
      split
      · omega
      · rw [Str.length_append, Str.length_append]; omega
    have free : ∀ n : Nat, (47 : Nat) ∉ TL.tl (Str.ofString (toString ((n : Nat) : Int))) := fun n => by
      rw [TL.tl_num]
      exact TL.numL_free (by omega)
    refine ⟨trivial, ⟨rfl, hla⟩, rfl, ?_⟩
    by_cases e : b = 1
    · subst e
      have hp : Txt.partition (amtS a 1) (Str.ofString "/") = (Str.ofString (toString ((a : Nat) : Int)), Str.empty, Str.empty) := TL.partition_none (s := 47) (S := []) rfl (free a)
      rw [hp]
      refine ⟨rfl, ?_⟩
      rw [rd_eq_str]
      refine ite_t rfl ?_
      exact ⟨a, rfl, ha, a, 1, rfl, by decide, by decide, retP_same h⟩
    · have hp : Txt.partition (amtS a b) (Str.ofString "/") = (Str.ofString (toString ((a : Nat) : Int)), Str.ofString "/", Str.ofString (toString ((b : Nat) : Int))) := by
        unfold amtS
        rw [if_neg e]
        exact TL.partition_app (s := 47) (S := []) rfl (free a)
      rw [hp]
      refine ⟨rfl, ?_⟩
      rw [rd_eq_str]
      refine ite_f Bool.false_ne_true ?_
      exact ⟨a, rfl, ha, b, rfl, hb, a, b, rfl, hb0, Nat.lt_trans hb (by decide), retP_same h⟩
end

end LM
namespace LM
open PySem L2 DL PySem.Spec PyProof.Rows
abbrev S_is_name : Stmt := topS 17
theorem sc_is_name : FnScope ["thing", "sign"] ["thing"] (defScope S_is_name) := ⟨rfl, rfl, rfl, by decide +kernel, rfl, by decide +kernel, by decide +kernel⟩
abbrev S_Reader___init__ : Stmt := inClass (topS 24) 0
theorem sc_Reader___init__ : FnScope ["self", "text"] ["self", "text"] (defScope S_Reader___init__) := ⟨rfl, rfl, rfl, by decide +kernel, rfl, by decide +kernel, by decide +kernel⟩
abbrev S_Reader_sign : Stmt := inClass (topS 24) 1
theorem sc_Reader_sign : FnScope ["self"] ["self"] (defScope S_Reader_sign) := ⟨rfl, rfl, rfl, by decide +kernel, rfl, by decide +kernel, by decide +kernel⟩
abbrev S_Reader_take : Stmt := inClass (topS 24) 2
theorem sc_Reader_take : FnScope ["self", "sign"] ["self", "sign"] (defScope S_Reader_take) := ⟨rfl, rfl, rfl, by decide +kernel, rfl, by decide +kernel, by decide +kernel⟩
abbrev S_Reader_run : Stmt := inClass (topS 24) 3
theorem sc_Reader_run : FnScope ["self", "signs", "start"] ["self", "signs"] (defScope S_Reader_run) := ⟨rfl, rfl, rfl, by decide +kernel, rfl, by decide +kernel, by decide +kernel⟩
abbrev S_Reader_word : Stmt := inClass (topS 24) 4
theorem sc_Reader_word : FnScope ["self", "word"] ["self"] (defScope S_Reader_word) := ⟨rfl, rfl, rfl, by decide +kernel, rfl, by decide +kernel, by decide +kernel⟩
abbrev S_Reader_far : Stmt := inClass (topS 24) 8
theorem sc_Reader_far : FnScope ["self", "word", "found"] ["self"] (defScope S_Reader_far) := ⟨rfl, rfl, rfl, by decide +kernel, rfl, by decide +kernel, by decide +kernel⟩

/-! ### the text and the place -/
abbrev RdO (CR : Addr) (x : Str) (p : Nat) : MO := .ins CR ["text", "at"] [.str x, .int (p : Nat)]
structure At (x : Str) (p : Nat) (rest : List Nat) : Prop where
  dr : x.cps.toList.drop p = rest
  le : p ≤ x.length
  sz : x.length ≤ 1000000
theorem At.step {x : Str} {p : Nat} {w rest : List Nat} (h : At x p (w ++ rest)) : At x (p + w.length) rest := by
  refine ⟨?_, ?_, h.sz⟩
  · rw [← List.drop_drop, h.dr, List.drop_left]
  · have := congrArg List.length h.dr
    rw [List.length_drop, List.length_append] at this
    have e : x.cps.toList.length = x.length := Array.length_toList
    have := h.le
    omega
theorem At.len {x : Str} {p : Nat} {rest : List Nat} (h : At x p rest) : p + rest.length = x.length := by
  have := congrArg List.length h.dr
  rw [List.length_drop] at this
  have e : x.cps.toList.length = x.length := Array.length_toList
  have := h.le
  omega
def sg1 : List Nat → Str
  | [] => ⟨#[]⟩
  | c :: _ => ⟨#[c]⟩
theorem cut_sign {x : Str} {p : Nat} {rest : List Nat} (h : At x p rest) : cutS x (some (p : Nat)) (some ((p : Nat) + 1)) = sg1 rest := by
  have hl := h.len
  have e : ((p : Nat) : Int) + 1 = ((p + 1 : Nat) : Int) := by omega
  show (⟨((x.cps.toList.drop (HT.sIx x.length 0 (some ((p : Nat) : Int)))).take (HT.sIx x.length x.length (some (((p : Nat) : Int) + 1)) - HT.sIx x.length 0 (some ((p : Nat) : Int)))).toArray⟩ : Str) = sg1 rest
  rw [e, HT.sIx_nat, HT.sIx_nat, Nat.min_eq_left h.le, h.dr]
  cases rest with
  | nil => rw [List.take_nil]; rfl
  | cons c r =>
    rw [List.length_cons] at hl
    rw [Nat.min_eq_left (by omega), show p + 1 - p = 1 by omega]
    rfl
theorem cut_run {x : Str} {p : Nat} {w rest : List Nat} (h : At x p (w ++ rest)) : cutS x (some (p : Nat)) (some (((p + w.length : Nat)) : Int)) = ⟨w.toArray⟩ := by
  have hl := h.len
  rw [List.length_append] at hl
  show (⟨((x.cps.toList.drop (HT.sIx x.length 0 (some ((p : Nat) : Int)))).take (HT.sIx x.length x.length (some (((p + w.length : Nat)) : Int)) - HT.sIx x.length 0 (some ((p : Nat) : Int)))).toArray⟩ : Str) = _
  rw [HT.sIx_nat, HT.sIx_nat, Nat.min_eq_left h.le, Nat.min_eq_left (by omega), h.dr, show p + w.length - p = w.length by omega, List.take_left]
/-! ### names -/
def SIGNS : Str := Str.ofString "0123456789ABCDEFGHIJKLMNOPQRSTUVWXYZabcdefghijklmnopqrstuvwxyz"
def okName (z : Str) : Prop := z = Str.ofString "*" ∨ (1 ≤ z.length ∧ z.length ≤ 12 ∧ ∀ c, c ∈ z.cps.toList → c ∈ SIGNS.cps.toList)
theorem star_free : (42 : Nat) ∉ SIGNS.cps.toList := by decide +kernel
theorem sign_one (c : Nat) (s : Str) (h : (⟨#[c]⟩ : Str) = s) : s.cps.toList = [c] := by rw [← h]
/-- what stands behind a name -/
def stopN (rest : List Nat) : Prop := ∀ c r, rest = c :: r → c ∉ SIGNS.cps.toList ∧ c ≠ 42
/-- what stands behind a piece with its length -/
def stopB (rest : List Nat) : Prop := ∃ c r, rest = c :: r ∧ (c = 44 ∨ c = 41 ∨ c = 59)
theorem stop_BN {rest : List Nat} (h : stopB rest) : stopN rest := by
  obtain ⟨c, r, rfl, hc⟩ := h
  intro c' r' e
  obtain ⟨rfl, rfl⟩ := List.cons.inj e
  rcases hc with rfl | rfl | rfl <;> exact ⟨by decide +kernel, by decide⟩
theorem stop_colon (r : List Nat) : stopN (58 :: r) := by
  intro c' r' e
  obtain ⟨rfl, rfl⟩ := List.cons.inj e
  exact ⟨by decide +kernel, by decide⟩
mutual
def norm : T → T
  | .nd ks nm ln => .nd (norms ks) nm (ln.map fun p => lowN p.1 p.2)
def norms : List T → List T
  | [] => []
  | k :: ks => norm k :: norms ks
end
mutual
def hgt : T → Nat
  | .nd [] _ _ => 0
  | .nd (k :: ks) _ _ => hgts (k :: ks) + 1
def hgts : List T → Nat
  | [] => 0
  | k :: ks => max (hgt k) (hgts ks)
end
mutual
def GoodR : T → Prop
  | .nd ks nm ln => (ks = [] → nm ≠ none) ∧ (∀ z, nm = some z → okName z) ∧ (∀ p, ln = some p → p.1 < 10 ^ 30 ∧ p.2 < 10 ^ 30 ∧ 0 < p.2) ∧ GoodRs ks
def GoodRs : List T → Prop
  | [] => True
  | k :: ks => GoodR k ∧ GoodRs ks
end
def core0 (ks : List T) : Str := match ks with
  | [] => Str.ofString ""
  | k :: ks => Str.ofString "(" ++ Txt.join (Str.ofString ",") (shown k :: showns ks) ++ Str.ofString ")"
theorem shown_core (ks : List T) (nm : Option Str) (ln : Option (Nat × Nat)) : shown (.nd ks nm ln) = lenS (core0 ks ++ nmS nm) ln := by
  cases ks with
  | nil =>
    rw [shown]
    unfold core0
    rw [nil_app]
  | cons k ks =>
    rw [shown]
    rfl
/-- the text, sign by sign -/
def pcL (t : T) : List Nat := match t with
  | .nd ks nm _ => (core0 ks ++ nmS nm).cps.toList
def lnL (ln : Option (Nat × Nat)) : List Nat := match ln with
  | none => []
  | some p => 58 :: (amtS p.1 p.2).cps.toList
def lnO : T → Option (Nat × Nat)
  | .nd _ _ ln => ln
theorem shown_L (t : T) : (shown t).cps.toList = pcL t ++ lnL (lnO t) := by
  obtain ⟨ks, nm, ln⟩ := t
  rw [shown_core]
  cases ln with
  | none => show _ = _ ++ []; rw [List.append_nil]; rfl
  | some p =>
    show ((core0 ks ++ nmS nm) ++ Str.ofString ":" ++ amtS p.1 p.2).cps.toList = (core0 ks ++ nmS nm).cps.toList ++ (58 :: (amtS p.1 p.2).cps.toList)
    have := TL.tl_append ((core0 ks ++ nmS nm) ++ Str.ofString ":") (amtS p.1 p.2)
    have h2 := TL.tl_append (core0 ks ++ nmS nm) (Str.ofString ":")
    unfold TL.tl at this h2
    rw [this, h2, List.append_assoc]
    rfl
def bunchL : List T → List Nat
  | [] => []
  | [k] => (shown k).cps.toList
  | k :: j :: ks => (shown k).cps.toList ++ 44 :: bunchL (j :: ks)
theorem join_L : ∀ ks : List T, (Txt.join (Str.ofString ",") (showns ks)).cps.toList = bunchL ks
  | [] => by rw [showns]; rfl
  | [k] => by
    rw [showns, showns, TL.join_eq]
    rfl
  | k :: j :: ks => by
    have ih := join_L (j :: ks)
    rw [showns, showns, TL.join_eq] at *
    show (shown k ++ Str.ofString "," ++ Str.join (Str.ofString ",") (shown j :: showns ks)).cps.toList = _
    have h1 := TL.tl_append (shown k ++ Str.ofString ",") (Str.join (Str.ofString ",") (shown j :: showns ks))
    have h2 := TL.tl_append (shown k) (Str.ofString ",")
    unfold TL.tl at h1 h2
    rw [h1, h2, ih]
    show ((shown k).cps.toList ++ [44]) ++ bunchL (j :: ks) = (shown k).cps.toList ++ 44 :: bunchL (j :: ks)
    rw [List.append_assoc]
    rfl
theorem pc_tip (nm : Option Str) (ln : Option (Nat × Nat)) : pcL (.nd [] nm ln) = (nmS nm).cps.toList := by
  show (Str.ofString "" ++ nmS nm).cps.toList = _
  rw [nil_app]
theorem pc_join (k : T) (ks : List T) (nm : Option Str) (ln : Option (Nat × Nat)) : pcL (.nd (k :: ks) nm ln) = 40 :: (bunchL (k :: ks) ++ 41 :: (nmS nm).cps.toList) := by
  show (Str.ofString "(" ++ Txt.join (Str.ofString ",") (shown k :: showns ks) ++ Str.ofString ")" ++ nmS nm).cps.toList = _
  have e : shown k :: showns ks = showns (k :: ks) := by rw [showns]
  rw [e]
  have h1 := TL.tl_append (Str.ofString "(" ++ Txt.join (Str.ofString ",") (showns (k :: ks)) ++ Str.ofString ")") (nmS nm)
  have h2 := TL.tl_append (Str.ofString "(" ++ Txt.join (Str.ofString ",") (showns (k :: ks))) (Str.ofString ")")
  have h3 := TL.tl_append (Str.ofString "(") (Txt.join (Str.ofString ",") (showns (k :: ks)))
  unfold TL.tl at h1 h2 h3
  rw [h1, h2, h3, join_L, List.append_assoc, List.append_assoc]
  rfl
structure TxtR (K : PySem.W.Frag) (mg : Str → Option Value) (CN CT CJ CR : Addr) : Prop extends TxtB K mg CN CT CJ, TxtM mg where
  m_Reader : mg "Reader" = some (.ref CR)
  cR : Cls K CR
  tR : NoAttr K CR "text"
  aR : NoAttr K CR "at"
  k_SIGNS : ∃ t, mg "SIGNS" = some (.str SIGNS t)
  k_ROOT : ∃ t, mg "ROOT" = some (.str (Str.ofString "*") t)
  k_LONGEST_names : ∃ t, mg "LONGEST_names" = some (.int 12 t)
  k_DEEPEST : ∃ t, mg "DEEPEST" = some (.int 40 t)
def pIsName : Ps := fun ds q _ => ∃ z, ds = [.str z] ∧ okName z ∧ q (.bl true)
def pRInit (CR : Addr) : Fs := fun ds M q _ => ∃ r x, ds = [.ref r, .str x] ∧ M r = some (.ins CR [] []) ∧ q .non (updM M r (RdO CR x 0))
def pSign (CR : Addr) : Fs := fun ds M q _ => ∃ r x p rest, ds = [.ref r] ∧ M r = some (RdO CR x p) ∧ At x p rest ∧ q (.str (sg1 rest)) M
def pTake (CR : Addr) : Fs := fun ds M q _ => ∃ r x p c rest, ds = [.ref r, .str ⟨#[c]⟩] ∧ M r = some (RdO CR x p) ∧ At x p (c :: rest) ∧ q .non (updM M r (RdO CR x (p + 1)))
def pRun (CR : Addr) : Fs := fun ds M q _ => ∃ r x p w rest sg, ds = [.ref r, .str sg] ∧ M r = some (RdO CR x p) ∧ At x p (w ++ rest) ∧ (∀ c, c ∈ w → c ∈ sg.cps.toList) ∧ (∀ c r', rest = c :: r' → c ∉ sg.cps.toList) ∧ q (.str ⟨w.toArray⟩) (updM M r (RdO CR x (p + w.length)))
def pWord (CR : Addr) : Fs := fun ds M q _ => ∃ r x p nm rest, ds = [.ref r] ∧ M r = some (RdO CR x p) ∧ At x p ((nmS nm).cps.toList ++ rest) ∧ (∀ z, nm = some z → okName z) ∧ stopN rest ∧ q (nmD nm) (updM M r (RdO CR x (p + (nmS nm).cps.toList.length)))
def pFarR (CR : Addr) : Fs := fun ds M q _ => ∃ r x p a b rest, ds = [.ref r] ∧ M r = some (RdO CR x p) ∧ At x p ((amtS a b).cps.toList ++ rest) ∧ a < 10 ^ 30 ∧ b < 10 ^ 30 ∧ 0 < b ∧ stopB rest ∧ q (prD (lowN a b)) (updM M r (RdO CR x (p + (amtS a b).cps.toList.length)))
section
variable {P : Program} {w : World} {K : PySem.W.Frag} {mg : Str → Option Value} {base : Heap} {CN CT CJ CR : Addr}
theorem ok_is_name {f : Addr} {fd : FuncData} (F : FunX K "is_name" "is_name" S_is_name f fd) (T : TxtR K mg CN CT CJ CR) : FnOk P w K mg base (L2.CX P w) 1 f fd ["thing"] (toSp K (fsP pIsName)) := by
  refine okP F sc_is_name (fun ds q ex h => ?_) (fun cdv A outer s H E ds hr hx => ?_)
  · obtain ⟨z, rfl, _⟩ := h
    rfl
  · refine ⟨_, (dss_cons (ds_if (dt_not (dt_val (d_callB call_isi s_isi rfl T.b_isinstance boot_isinstance (da_cons (dv 0) (da_cons (d_ty T.b_str boot_str) da_nil)))))
      (dss_one (ds_ret d_bl))
      dss_nil)
      (dss_cons (ds_if (dt_cmp (o_eq hr.units) (s_eq false) (dv 0) (d_gstr T.k_ROOT) (nomark _))
      (dss_one (ds_ret d_bl))
      dss_nil)
      (dss_cons (ds_ifE (dt_w (dw_or (dt_cmp (o_eq hr.units) (s_eq false) (dv 0) d_str (nomark _)) (dw_or1 (dt_cmp o_gt s_cmp (d_callB c_len s_len rfl T.b_len PySem.boot_len (da_cons (dv 0) da_nil)) (d_gint T.k_LONGEST_names) (nomark _)))))
      (dss_one (ds_ret d_bl))
      dss_nil)
      (dss_cons (ds_for (passes_of rfl) rfl (di_str (dv 0)) (dg_name (i := 1) sc_is_name.nd rfl (Or.inl rfl))
      (dss_one (ds_if (dt_cmp o_notin (s_in true) (dv 1) (d_gstr T.k_SIGNS) rfl)
        (dss_one (ds_ret d_bl))
        dss_nil)))
      (dss_one (ds_ret d_bl)))))), fun q ex h => ?_⟩
    obtain ⟨z, rfl, hz, h⟩ := h
    simp only [dSeq, dNext, dRet, dRetN, dIfS, dDrop, dOp, dV, dC, dUn, dTest, dAnd, dOr, dNot, dAndV, dOrV, dNotV, dIf, dCB, dCons, dNil, dTup, dLst, dCallP, dAsg, qName, qCons, qNil, qTup, dPar, dAug, dMth, dM1, dSl, dPart, dNoPart, dYes, startR, List.map_cons, List.map_nil, List.length_cons, List.length_nil, List.replicate, List.cons_append, List.nil_append, List.append_nil, List.getElem?_cons_zero, List.getElem?_cons_succ, List.set_cons_zero, List.set_cons_succ, List.set_nil, dAdd, dSub, dMul, dMod, dFdv, dPow, dShl, dShr, dBit, dLt, dCmp, dNeg, Nat.reduceAdd, Nat.reduceSub, Nat.zero_add, rd_len_scr, rd_len_lst, rd_len_tup, rd_len_str, rd_eq_int, rd_eq_str, rd_eq_bl, rd_eq_nn, rd_eq_ns, rd_eq_sn, rd_eq_ni, rd_eq_in, rd_eq_nt, rd_eq_tn, rd_eq_pair, rd_is_non, rd_is_bl, rd_str_int, rd_int_int, rd_int_bl, rd_ix0, rd_ix1, rd_lix0, rd_lix1, rd_list_lst, rd_list_tup, rd_listM_lst, rd_tuple_lst, DL.isNon, wipeR, if_true, if_false, Bool.false_eq_true, Bool.not_true, Bool.not_false, reduceIte]
    refine isi_of (t := .type "str") rfl rfl trivial (kit_ty (r := true) (by decide +kernel)) ?_
    refine ite_f Bool.false_ne_true ?_
    split
    · exact retP_same h
    rename_i hns
    have hns : ¬ z = Str.ofString "*" := fun e => hns (beq_iff_eq.mpr e)
    obtain ⟨h1, h2, h3⟩ := hz.resolve_left hns
    refine ifE_of false ?_ ?_
    · simp only [dSeq, dNext, dRet, dRetN, dIfS, dDrop, dOp, dV, dC, dUn, dTest, dAnd, dOr, dNot, dAndV, dOrV, dNotV, dIf, dCB, dCons, dNil, dTup, dLst, dCallP, dAsg, qName, qCons, qNil, qTup, dPar, dAug, dMth, dM1, dSl, dPart, dNoPart, dYes, startR, List.map_cons, List.map_nil, List.length_cons, List.length_nil, List.replicate, List.cons_append, List.nil_append, List.append_nil, List.getElem?_cons_zero, List.getElem?_cons_succ, List.set_cons_zero, List.set_cons_succ, List.set_nil, dAdd, dSub, dMul, dMod, dFdv, dPow, dShl, dShr, dBit, dLt, dCmp, dNeg, Nat.reduceAdd, Nat.reduceSub, Nat.zero_add, rd_len_scr, rd_len_lst, rd_len_tup, rd_len_str, rd_eq_int, rd_eq_str, rd_eq_bl, rd_eq_nn, rd_eq_ns, rd_eq_sn, rd_eq_ni, rd_eq_in, rd_eq_nt, rd_eq_tn, rd_eq_pair, rd_is_non, rd_is_bl, rd_str_int, rd_int_int, rd_int_bl, rd_ix0, rd_ix1, rd_lix0, rd_lix1, rd_list_lst, rd_list_tup, rd_listM_lst, rd_tuple_lst, DL.isNon, wipeR, if_true, if_false, Bool.false_eq_true, Bool.not_true, Bool.not_false, reduceIte]
      have he : (z == Str.ofString "") = false := by
        rw [beq_eq_false_iff_ne]
        intro e
        rw [e] at h1
        exact absurd h1 (by decide)
      rw [he]
      refine ite_f Bool.false_ne_true ⟨by rw [sizeLine_eq]; omega, ?_, rfl⟩
      exact decide_eq_false (by omega)
    refine ite_f Bool.false_ne_true ?_
    simp only [dSeq, dNext, dRet, dRetN, dIfS, dDrop, dOp, dV, dC, dUn, dTest, dAnd, dOr, dNot, dAndV, dOrV, dNotV, dIf, dCB, dCons, dNil, dTup, dLst, dCallP, dAsg, qName, qCons, qNil, qTup, dPar, dAug, dMth, dM1, dSl, dPart, dNoPart, dYes, startR, List.map_cons, List.map_nil, List.length_cons, List.length_nil, List.replicate, List.cons_append, List.nil_append, List.append_nil, List.getElem?_cons_zero, List.getElem?_cons_succ, List.set_cons_zero, List.set_cons_succ, List.set_nil, dAdd, dSub, dMul, dMod, dFdv, dPow, dShl, dShr, dBit, dLt, dCmp, dNeg, Nat.reduceAdd, Nat.reduceSub, Nat.zero_add, rd_len_scr, rd_len_lst, rd_len_tup, rd_len_str, rd_eq_int, rd_eq_str, rd_eq_bl, rd_eq_nn, rd_eq_ns, rd_eq_sn, rd_eq_ni, rd_eq_in, rd_eq_nt, rd_eq_tn, rd_eq_pair, rd_is_non, rd_is_bl, rd_str_int, rd_int_int, rd_int_bl, rd_ix0, rd_ix1, rd_lix0, rd_lix1, rd_list_lst, rd_list_tup, rd_listM_lst, rd_tuple_lst, DL.isNon, wipeR, if_true, if_false, Bool.false_eq_true, Bool.not_true, Bool.not_false, reduceIte, dFor, dStrI]
    refine each_ind (fun xs ρ M => M = M0 ∧ (∃ s, ρ = [some (.str z), s]) ∧ ∃ cs : List Nat, xs = cs.map (fun c => D.str ⟨#[c]⟩) ∧ ∀ c, c ∈ cs → c ∈ SIGNS.cps.toList) ?_ ?_ _ _ _ ⟨rfl, ⟨_, rfl⟩, z.cps.toList, rfl, h3⟩
    · rintro ρ M ⟨rfl, ⟨s, rfl⟩, _⟩
      exact retP_same h
    · rintro x xs ρ M ⟨rfl, ⟨s, rfl⟩, cs, hcs, hd⟩ nx hnx
      cases cs with
      | nil => cases hcs
      | cons c cs =>
        obtain ⟨rfl, rfl⟩ := List.cons.inj hcs
        simp only [dSeq, dNext, dRet, dRetN, dIfS, dDrop, dOp, dV, dC, dUn, dTest, dAnd, dOr, dNot, dAndV, dOrV, dNotV, dIf, dCB, dCons, dNil, dTup, dLst, dCallP, dAsg, qName, qCons, qNil, qTup, dPar, dAug, dMth, dM1, dSl, dPart, dNoPart, dYes, startR, List.map_cons, List.map_nil, List.length_cons, List.length_nil, List.replicate, List.cons_append, List.nil_append, List.append_nil, List.getElem?_cons_zero, List.getElem?_cons_succ, List.set_cons_zero, List.set_cons_succ, List.set_nil, dAdd, dSub, dMul, dMod, dFdv, dPow, dShl, dShr, dBit, dLt, dCmp, dNeg, Nat.reduceAdd, Nat.reduceSub, Nat.zero_add, rd_len_scr, rd_len_lst, rd_len_tup, rd_len_str, rd_eq_int, rd_eq_str, rd_eq_bl, rd_eq_nn, rd_eq_ns, rd_eq_sn, rd_eq_ni, rd_eq_in, rd_eq_nt, rd_eq_tn, rd_eq_pair, rd_is_non, rd_is_bl, rd_str_int, rd_int_int, rd_int_bl, rd_ix0, rd_ix1, rd_lix0, rd_lix1, rd_list_lst, rd_list_tup, rd_listM_lst, rd_tuple_lst, DL.isNon, wipeR, if_true, if_false, Bool.false_eq_true, Bool.not_true, Bool.not_false, reduceIte]
        have hm : decide (c ∈ SIGNS.cps.toList) = true := decide_eq_true (hd c List.mem_cons_self)
        refine in_sign ?_
        rw [hm]
        refine ite_f Bool.false_ne_true ?_
        exact hnx _ _ ⟨rfl, ⟨_, rfl⟩, cs, rfl, fun c' h' => hd c' (List.mem_cons_of_mem _ h')⟩
theorem ok_rinit {f : Addr} {fd : FuncData} (F : FunX K "__init__" "Reader.__init__" S_Reader___init__ f fd) (T : TxtR K mg CN CT CJ CR) : FnOk P w K mg base (L2.CX P w) 1 f fd ["self", "text"] (toSp K (pRInit CR)) := by
  refine okD F sc_Reader___init__ (fun ds M q ex h => ?_) (fun cdv A outer s H E ds hr hx => ?_)
  · obtain ⟨r, x, rfl, _⟩ := h
    rfl
  · refine ⟨_, (dss_cons (ds_setFK (K := K) (dv 0) (dv 1))
      (dss_one (ds_setFK (K := K) (dv 0) d_int))), fun M q ex h => ?_⟩
    obtain ⟨r, x, rfl, hM, h⟩ := h
    simp only [dSeq, dNext, dRet, dRetN, dIfS, dDrop, dOp, dV, dC, dUn, dTest, dAnd, dOr, dNot, dAndV, dOrV, dNotV, dIf, dCB, dCons, dNil, dTup, dLst, dCallP, dAsg, qName, qCons, qNil, qTup, dPar, dAug, dMth, dM1, dSl, dPart, dNoPart, dYes, startR, List.map_cons, List.map_nil, List.length_cons, List.length_nil, List.replicate, List.cons_append, List.nil_append, List.append_nil, List.getElem?_cons_zero, List.getElem?_cons_succ, List.set_cons_zero, List.set_cons_succ, List.set_nil, dAdd, dSub, dMul, dMod, dFdv, dPow, dShl, dShr, dBit, dLt, dCmp, dNeg, Nat.reduceAdd, Nat.reduceSub, Nat.zero_add, rd_len_scr, rd_len_lst, rd_len_tup, rd_len_str, rd_eq_int, rd_eq_str, rd_eq_bl, rd_eq_nn, rd_eq_ns, rd_eq_sn, rd_eq_ni, rd_eq_in, rd_eq_nt, rd_eq_tn, rd_eq_pair, rd_is_non, rd_is_bl, rd_str_int, rd_int_int, rd_int_bl, rd_ix0, rd_ix1, rd_lix0, rd_lix1, rd_list_lst, rd_list_tup, rd_listM_lst, rd_tuple_lst, DL.isNon, wipeR, if_true, if_false, Bool.false_eq_true, Bool.not_true, Bool.not_false, reduceIte]
    refine setF_ref (y := .str x) (l := r) (fun Q' q => q) rfl hM T.cR T.tR (by show 0 < 1000; decide) ?_
    dsimp only
    refine setF_ref (y := .int 0) (l := r) (fun Q' q => q) rfl updM_same T.cR T.aR (by show 1 < 1000; decide) ?_
    rw [updM_updM]
    exact ⟨_, _, subM_refl _, .same _, h⟩
theorem ok_sign {f : Addr} {fd : FuncData} (F : FunX K "sign" "Reader.sign" S_Reader_sign f fd) (T : TxtR K mg CN CT CJ CR) : FnOk P w K mg base (L2.CX P w) 1 f fd ["self"] (toSp K (pSign CR)) := by
  refine okD F sc_Reader_sign (fun ds M q ex h => ?_) (fun cdv A outer s H E ds hr hx => ?_)
  · obtain ⟨r, x, p, rest, rfl, _⟩ := h
    rfl
  · refine ⟨_, (dss_one (ds_ret (d_slice (d_fldK (K := K) (dv 0)) (do_some (d_fldK (K := K) (dv 0))) (do_some (d_op o_add s_add (d_fldK (K := K) (dv 0)) d_int))))), fun M q ex h => ?_⟩
    obtain ⟨r, x, p, rest, rfl, hM, ha, h⟩ := h
    simp only [dSeq, dNext, dRet, dRetN, dIfS, dDrop, dOp, dV, dC, dUn, dTest, dAnd, dOr, dNot, dAndV, dOrV, dNotV, dIf, dCB, dCons, dNil, dTup, dLst, dCallP, dAsg, qName, qCons, qNil, qTup, dPar, dAug, dMth, dM1, dSl, dPart, dNoPart, dYes, startR, List.map_cons, List.map_nil, List.length_cons, List.length_nil, List.replicate, List.cons_append, List.nil_append, List.append_nil, List.getElem?_cons_zero, List.getElem?_cons_succ, List.set_cons_zero, List.set_cons_succ, List.set_nil, dAdd, dSub, dMul, dMod, dFdv, dPow, dShl, dShr, dBit, dLt, dCmp, dNeg, Nat.reduceAdd, Nat.reduceSub, Nat.zero_add, rd_len_scr, rd_len_lst, rd_len_tup, rd_len_str, rd_eq_int, rd_eq_str, rd_eq_bl, rd_eq_nn, rd_eq_ns, rd_eq_sn, rd_eq_ni, rd_eq_in, rd_eq_nt, rd_eq_tn, rd_eq_pair, rd_is_non, rd_is_bl, rd_str_int, rd_int_int, rd_int_bl, rd_ix0, rd_ix1, rd_lix0, rd_lix1, rd_list_lst, rd_list_tup, rd_listM_lst, rd_tuple_lst, DL.isNon, wipeR, if_true, if_false, Bool.false_eq_true, Bool.not_true, Bool.not_false, reduceIte]
    refine fld_V rfl (insR hM) rfl T.cR T.tR ?_
    refine fld_V rfl (insR hM) rfl T.cR T.aR ?_
    refine fld_V rfl (insR hM) rfl T.cR T.aR ?_
    refine ⟨Nat.le_trans ha.sz (by rw [sizeLine_eq]; decide), ?_⟩
    rw [cut_sign ha]
    exact retD_same (subM_refl M) h
theorem ok_take {f : Addr} {fd : FuncData} (F : FunX K "take" "Reader.take" S_Reader_take f fd) (T : TxtR K mg CN CT CJ CR) (mS : MtG P w K mg base 1 CR "sign" [] (pSign CR)) : FnOk P w K mg base (L2.CX P w) 2 f fd ["self", "sign"] (toSp K (pTake CR)) := by
  refine okD F sc_Reader_take (fun ds M q ex h => ?_) (fun cdv A outer s H E ds hr hx => ?_)
  · obtain ⟨r, x, p, c, rest, rfl, _⟩ := h
    rfl
  · refine ⟨_, (dss_cons (ds_if (dt_cmp (o_ne hr.units) (s_eq true) (d_mthV0K (P := P) (w := w) (K := K) (mg := mg) (base := base) (k := 1) (dv 0) (hr.mono (by decide)) hx) (dv 1) (nomark _))
      (dss_one ds_never)
      dss_nil)
      (dss_one (ds_augF (dv 0) d_int in_add in_iadd))), fun M q ex h => ?_⟩
    obtain ⟨r, x, p, c, rest, rfl, hM, ha, h⟩ := h
    simp only [dSeq, dNext, dRet, dRetN, dIfS, dDrop, dOp, dV, dC, dUn, dTest, dAnd, dOr, dNot, dAndV, dOrV, dNotV, dIf, dCB, dCons, dNil, dTup, dLst, dCallP, dAsg, qName, qCons, qNil, qTup, dPar, dAug, dMth, dM1, dSl, dPart, dNoPart, dYes, startR, List.map_cons, List.map_nil, List.length_cons, List.length_nil, List.replicate, List.cons_append, List.nil_append, List.append_nil, List.getElem?_cons_zero, List.getElem?_cons_succ, List.set_cons_zero, List.set_cons_succ, List.set_nil, dAdd, dSub, dMul, dMod, dFdv, dPow, dShl, dShr, dBit, dLt, dCmp, dNeg, Nat.reduceAdd, Nat.reduceSub, Nat.zero_add, rd_len_scr, rd_len_lst, rd_len_tup, rd_len_str, rd_eq_int, rd_eq_str, rd_eq_bl, rd_eq_nn, rd_eq_ns, rd_eq_sn, rd_eq_ni, rd_eq_in, rd_eq_nt, rd_eq_tn, rd_eq_pair, rd_is_non, rd_is_bl, rd_str_int, rd_int_int, rd_int_bl, rd_ix0, rd_ix1, rd_lix0, rd_lix1, rd_list_lst, rd_list_tup, rd_listM_lst, rd_tuple_lst, DL.isNon, wipeR, if_true, if_false, Bool.false_eq_true, Bool.not_true, Bool.not_false, reduceIte]
    refine mth_VF rfl (insR hM) rfl T.cR mS ⟨r, x, p, _, rfl, hM, ha, ?_⟩
    simp only [joinM_refl]
    refine eqs_of ?_
    refine ite_f Bool.false_ne_true ?_
    refine augF_ref (l := r) rfl hM rfl T.cR T.aR (by show 2 < 1000; decide) ?_
    exact ⟨_, _, subM_refl _, .same _, h⟩
theorem ok_run {f : Addr} {fd : FuncData} (F : FunX K "run" "Reader.run" S_Reader_run f fd) (T : TxtR K mg CN CT CJ CR) (mS : MtG P w K mg base 1 CR "sign" [] (pSign CR)) : FnOk P w K mg base (L2.CX P w) 2 f fd ["self", "signs"] (toSp K (pRun CR)) := by
  refine okD F sc_Reader_run (fun ds M q ex h => ?_) (fun cdv A outer s H E ds hr hx => ?_)
  · obtain ⟨r, x, p, w, rest, sg, rfl, _⟩ := h
    rfl
  · refine ⟨_, (dss_cons (ds_set (i := 2) sc_Reader_run.nd rfl (Or.inl rfl) (d_fldK (K := K) (dv 0)))
      (dss_cons (ds_while (passes_of rfl) (dt_w (dw_and (dt_cmp (o_ne hr.units) (s_eq true) (d_mthV0K (P := P) (w := w) (K := K) (mg := mg) (base := base) (k := 1) (dv 0) (hr.mono (by decide)) hx) d_str (nomark _)) (dw_and1 (dt_cmp o_in (s_in false) (d_mthV0K (P := P) (w := w) (K := K) (mg := mg) (base := base) (k := 1) (dv 0) (hr.mono (by decide)) hx) (dv 1) rfl))))
      (dss_one (ds_augF (dv 0) d_int in_add in_iadd)))
      (dss_one (ds_ret (d_slice (d_fldK (K := K) (dv 0)) (do_some (dv 2)) (do_some (d_fldK (K := K) (dv 0)))))))), fun M q ex h => ?_⟩
    obtain ⟨r, x, p, wd, rest, sg, rfl, hM, ha, hw, hst, h⟩ := h
    simp only [dSeq, dNext, dRet, dRetN, dIfS, dDrop, dOp, dV, dC, dUn, dTest, dAnd, dOr, dNot, dAndV, dOrV, dNotV, dIf, dCB, dCons, dNil, dTup, dLst, dCallP, dAsg, qName, qCons, qNil, qTup, dPar, dAug, dMth, dM1, dSl, dPart, dNoPart, dYes, startR, List.map_cons, List.map_nil, List.length_cons, List.length_nil, List.replicate, List.cons_append, List.nil_append, List.append_nil, List.getElem?_cons_zero, List.getElem?_cons_succ, List.set_cons_zero, List.set_cons_succ, List.set_nil, dAdd, dSub, dMul, dMod, dFdv, dPow, dShl, dShr, dBit, dLt, dCmp, dNeg, Nat.reduceAdd, Nat.reduceSub, Nat.zero_add, rd_len_scr, rd_len_lst, rd_len_tup, rd_len_str, rd_eq_int, rd_eq_str, rd_eq_bl, rd_eq_nn, rd_eq_ns, rd_eq_sn, rd_eq_ni, rd_eq_in, rd_eq_nt, rd_eq_tn, rd_eq_pair, rd_is_non, rd_is_bl, rd_str_int, rd_int_int, rd_int_bl, rd_ix0, rd_ix1, rd_lix0, rd_lix1, rd_list_lst, rd_list_tup, rd_listM_lst, rd_tuple_lst, DL.isNon, wipeR, if_true, if_false, Bool.false_eq_true, Bool.not_true, Bool.not_false, reduceIte]
    refine fld_V rfl (insR hM) rfl T.cR T.aR ?_
    refine while_ind (fun m ρ M' => ∃ w1 w2 : List Nat, wd = w1 ++ w2 ∧ m = w2.length ∧ ρ = [some (.ref r), some (.str sg), some (.int (p : Nat))] ∧ M' = updM M r (RdO CR x (p + w1.length))) (m := wd.length) ⟨[], wd, rfl, rfl, rfl, ?_⟩ ?_
    · rw [List.length_nil, Nat.add_zero]
      funext a
      unfold updM
      split
      · rename_i e; subst e; exact hM
      · rfl
    rintro m ρ M' ⟨w1, w2, hwd, rfl, rfl, rfl⟩ nx hnx
    have ha2 : At x (p + w1.length) (w2 ++ rest) := by
      rw [hwd, List.append_assoc] at ha
      exact ha.step
    have hM2 : updM M r (RdO CR x (p + w1.length)) r = some (RdO CR x (p + w1.length)) := updM_same
    generalize hMM : updM M r (RdO CR x (p + w1.length)) = M2 at hM2 ⊢
    simp only [dSeq, dNext, dRet, dRetN, dIfS, dDrop, dOp, dV, dC, dUn, dTest, dAnd, dOr, dNot, dAndV, dOrV, dNotV, dIf, dCB, dCons, dNil, dTup, dLst, dCallP, dAsg, qName, qCons, qNil, qTup, dPar, dAug, dMth, dM1, dSl, dPart, dNoPart, dYes, startR, List.map_cons, List.map_nil, List.length_cons, List.length_nil, List.replicate, List.cons_append, List.nil_append, List.append_nil, List.getElem?_cons_zero, List.getElem?_cons_succ, List.set_cons_zero, List.set_cons_succ, List.set_nil, dAdd, dSub, dMul, dMod, dFdv, dPow, dShl, dShr, dBit, dLt, dCmp, dNeg, Nat.reduceAdd, Nat.reduceSub, Nat.zero_add, rd_len_scr, rd_len_lst, rd_len_tup, rd_len_str, rd_eq_int, rd_eq_str, rd_eq_bl, rd_eq_nn, rd_eq_ns, rd_eq_sn, rd_eq_ni, rd_eq_in, rd_eq_nt, rd_eq_tn, rd_eq_pair, rd_is_non, rd_is_bl, rd_str_int, rd_int_int, rd_int_bl, rd_ix0, rd_ix1, rd_lix0, rd_lix1, rd_list_lst, rd_list_tup, rd_listM_lst, rd_tuple_lst, DL.isNon, wipeR, if_true, if_false, Bool.false_eq_true, Bool.not_true, Bool.not_false, reduceIte]
    refine mth_VF rfl (insR hM2) rfl T.cR mS ⟨r, x, _, _, rfl, hM2, ha2, ?_⟩
    simp only [joinM_refl]
    rw [rd_eq_str]
    cases w2 with
    | cons c w2 =>
      show (if (!((⟨#[c]⟩ : Str) == Str.ofString "")) = true then _ else _)
      have hne : ((⟨#[c]⟩ : Str) == Str.ofString "") = false := by
        rw [beq_eq_false_iff_ne]
        intro e
        have := sign_one c _ e
        cases this
      rw [hne]
      refine ite_t rfl ?_
      refine mth_VF rfl (insR hM2) rfl T.cR mS ⟨r, x, _, _, rfl, hM2, ha2, ?_⟩
      simp only [joinM_refl]
      refine in_sign ?_
      have hc : decide (c ∈ sg.cps.toList) = true := decide_eq_true (hw c (by rw [hwd]; simp))
      rw [hc]
      refine ite_t rfl ?_
      refine augF_ref (l := r) rfl hM2 rfl T.cR T.aR (by show 2 < 1000; decide) ?_
      refine hnx w2.length _ _ (by rw [List.length_cons]; omega) ⟨w1 ++ [c], w2, by rw [hwd, List.append_assoc]; rfl, rfl, rfl, ?_⟩
      rw [← hMM, updM_updM, List.length_append, List.length_singleton]
      rfl
    | nil =>
      rw [List.append_nil] at hwd
      subst hwd
      rw [List.nil_append] at ha2
      have fin : retD q (.str ⟨wd.toArray⟩) M2 := by
        rw [← hMM]
        exact ⟨_, _, subM_refl _, .same _, h⟩
      have last : dSl (dFld K "text" (dV 0)) (dPart (dV 2)) (dPart (dFld K "at" (dV 0))) [some (D.ref r), some (D.str sg), some (D.int (p : Nat))] M2 (retD q) (fun c M' => ∃ N, subM N M' ∧ ex c N) := by
        simp only [dSeq, dNext, dRet, dRetN, dIfS, dDrop, dOp, dV, dC, dUn, dTest, dAnd, dOr, dNot, dAndV, dOrV, dNotV, dIf, dCB, dCons, dNil, dTup, dLst, dCallP, dAsg, qName, qCons, qNil, qTup, dPar, dAug, dMth, dM1, dSl, dPart, dNoPart, dYes, startR, List.map_cons, List.map_nil, List.length_cons, List.length_nil, List.replicate, List.cons_append, List.nil_append, List.append_nil, List.getElem?_cons_zero, List.getElem?_cons_succ, List.set_cons_zero, List.set_cons_succ, List.set_nil, dAdd, dSub, dMul, dMod, dFdv, dPow, dShl, dShr, dBit, dLt, dCmp, dNeg, Nat.reduceAdd, Nat.reduceSub, Nat.zero_add, rd_len_scr, rd_len_lst, rd_len_tup, rd_len_str, rd_eq_int, rd_eq_str, rd_eq_bl, rd_eq_nn, rd_eq_ns, rd_eq_sn, rd_eq_ni, rd_eq_in, rd_eq_nt, rd_eq_tn, rd_eq_pair, rd_is_non, rd_is_bl, rd_str_int, rd_int_int, rd_int_bl, rd_ix0, rd_ix1, rd_lix0, rd_lix1, rd_list_lst, rd_list_tup, rd_listM_lst, rd_tuple_lst, DL.isNon, wipeR, if_true, if_false, Bool.false_eq_true, Bool.not_true, Bool.not_false, reduceIte]
        refine fld_V rfl (insR hM2) rfl T.cR T.tR ?_
        refine fld_V rfl (insR hM2) rfl T.cR T.aR ?_
        refine ⟨Nat.le_trans ha.sz (by rw [sizeLine_eq]; decide), ?_⟩
        rw [cut_run ha]
        exact fin
      cases rest with
      | nil =>
        refine ite_f Bool.false_ne_true ?_
        exact last
      | cons c rest =>
        show (if (!((⟨#[c]⟩ : Str) == Str.ofString "")) = true then _ else _)
        have hne : ((⟨#[c]⟩ : Str) == Str.ofString "") = false := by
          rw [beq_eq_false_iff_ne]
          intro e
          have := sign_one c _ e
          cases this
        rw [hne]
        refine ite_t rfl ?_
        refine mth_VF rfl (insR hM2) rfl T.cR mS ⟨r, x, _, _, rfl, hM2, ha2, ?_⟩
        simp only [joinM_refl]
        refine in_sign ?_
        have hc : decide (c ∈ sg.cps.toList) = false := decide_eq_false (hst c rest rfl)
        rw [hc]
        refine ite_f Bool.false_ne_true ?_
        exact last
theorem ok_word {f : Addr} {fd : FuncData} (F : FunX K "word" "Reader.word" S_Reader_word f fd) (T : TxtR K mg CN CT CJ CR) (mS : MtG P w K mg base 1 CR "sign" [] (pSign CR)) (mR : MtG P w K mg base 2 CR "run" [] (pRun CR)) (G_is_name : FnG P w K mg base 1 "is_name" 0 [] (fsP pIsName)) : FnOk P w K mg base (L2.CX P w) 3 f fd ["self"] (toSp K (pWord CR)) := by
  refine okD F sc_Reader_word (fun ds M q ex h => ?_) (fun cdv A outer s H E ds hr hx => ?_)
  · obtain ⟨r, x, p, nm, rest, rfl, _⟩ := h
    rfl
  · refine ⟨_, (dss_cons (ds_if (dt_cmp (o_eq hr.units) (s_eq false) (d_mthV0K (P := P) (w := w) (K := K) (mg := mg) (base := base) (k := 1) (dv 0) (hr.mono (by decide)) hx) d_str (nomark _))
      (dss_cons (ds_augF (dv 0) d_int in_add in_iadd)
        (dss_one (ds_ret d_str)))
      dss_nil)
      (dss_cons (ds_set (i := 1) sc_Reader_word.nd rfl (Or.inl rfl) (d_mthVK (P := P) (w := w) (K := K) (mg := mg) (base := base) (k := 2) (dv 0) (hr.mono (by decide)) hx (da_cons (d_gstr T.k_SIGNS) da_nil)))
      (dss_cons (ds_if (dt_cmp (o_eq hr.units) (s_eq false) (dv 1) d_str (nomark _))
      (dss_one (ds_ret d_non))
      dss_nil)
      (dss_cons (ds_if (dt_not (dt_val (d_callP G_is_name (hr.mono (by decide)) hx (da_cons (dv 1) da_nil))))
      (dss_one ds_never)
      dss_nil)
      (dss_one (ds_ret (dv 1))))))), fun M q ex h => ?_⟩
    obtain ⟨r, x, p, nm, rest, rfl, hM, ha, hnm, hst, h⟩ := h
    simp only [dSeq, dNext, dRet, dRetN, dIfS, dDrop, dOp, dV, dC, dUn, dTest, dAnd, dOr, dNot, dAndV, dOrV, dNotV, dIf, dCB, dCons, dNil, dTup, dLst, dCallP, dAsg, qName, qCons, qNil, qTup, dPar, dAug, dMth, dM1, dSl, dPart, dNoPart, dYes, startR, List.map_cons, List.map_nil, List.length_cons, List.length_nil, List.replicate, List.cons_append, List.nil_append, List.append_nil, List.getElem?_cons_zero, List.getElem?_cons_succ, List.set_cons_zero, List.set_cons_succ, List.set_nil, dAdd, dSub, dMul, dMod, dFdv, dPow, dShl, dShr, dBit, dLt, dCmp, dNeg, Nat.reduceAdd, Nat.reduceSub, Nat.zero_add, rd_len_scr, rd_len_lst, rd_len_tup, rd_len_str, rd_eq_int, rd_eq_str, rd_eq_bl, rd_eq_nn, rd_eq_ns, rd_eq_sn, rd_eq_ni, rd_eq_in, rd_eq_nt, rd_eq_tn, rd_eq_pair, rd_is_non, rd_is_bl, rd_str_int, rd_int_int, rd_int_bl, rd_ix0, rd_ix1, rd_lix0, rd_lix1, rd_list_lst, rd_list_tup, rd_listM_lst, rd_tuple_lst, DL.isNon, wipeR, if_true, if_false, Bool.false_eq_true, Bool.not_true, Bool.not_false, reduceIte]
    refine mth_VF rfl (insR hM) rfl T.cR mS ⟨r, x, _, _, rfl, hM, ha, ?_⟩
    simp only [joinM_refl]
    have star1 : (Str.ofString "*") = ⟨#[42]⟩ := rfl
    by_cases hs : nm = some (Str.ofString "*")
    · subst hs
      refine eqs_of ?_
      refine ite_t rfl ?_
      refine augF_ref (l := r) rfl hM rfl T.cR T.aR (by show 2 < 1000; decide) ?_
      exact ⟨_, _, subM_refl _, .same _, h⟩
    · have nostar : ∀ Q : QX, Q (.bl false) M → dEq false (.str (sg1 ((nmS nm).cps.toList ++ rest))) (.str (Str.ofString "*")) M Q := fun Q hQ => by
        rw [rd_eq_str]
        have : (sg1 ((nmS nm).cps.toList ++ rest) == Str.ofString "*") = false := by
          rw [beq_eq_false_iff_ne]
          intro e
          cases e1 : (nmS nm).cps.toList ++ rest with
          | nil =>
            rw [e1] at e
            have := congrArg (fun s : Str => s.cps.toList) e
            cases this
          | cons c r' =>
            rw [e1] at e
            have hc : c = 42 := by
              have := sign_one c _ e
              have e2 : (Str.ofString "*").cps.toList = [42] := rfl
              rw [e2] at this
              exact (List.cons.inj this).1.symm
            cases nm with
            | none => exact (hst c r' e1).2 hc
            | some z =>
              rcases hnm z rfl with e3 | ⟨h1, h2, h3⟩
              · exact hs (by rw [e3])
              · have e1' : z.cps.toList ++ rest = c :: r' := e1
                cases ez : z.cps.toList with
                | nil =>
                  have : z.cps.toList.length = z.length := Array.length_toList
                  rw [ez] at this
                  have : z.length = 0 := this.symm
                  omega
                | cons d t =>
                  rw [ez] at e1'
                  have : d = c := (List.cons.inj e1').1
                  have hd := h3 d (by rw [ez]; exact List.mem_cons_self)
                  rw [this, hc] at hd
                  exact star_free hd
        rw [this]
        exact hQ
      refine nostar _ ?_
      refine ite_f Bool.false_ne_true ?_
      refine mth_VA (as := [.str SIGNS]) rfl (insR hM) rfl T.cR mR (fun Q' Ex' q => q) ⟨r, x, p, (nmS nm).cps.toList, rest, SIGNS, rfl, hM, ha, ?_, fun c r' e => (hst c r' e).1, ?_⟩
      · intro c hc
        cases nm with
        | none => cases hc
        | some z =>
          rcases hnm z rfl with e3 | ⟨h1, h2, h3⟩
          · exact absurd (by rw [e3]) hs
          · exact h3 c hc
      simp only [joinM_top upd_top]
      have emk : (⟨(nmS nm).cps.toList.toArray⟩ : Str) = nmS nm := TL.mk_tl _
      rw [emk]
      have fin : ∀ d, d = nmD nm → retD q d (updM M r (RdO CR x (p + (nmS nm).cps.toList.length))) := fun d e => by
        rw [e]; exact ⟨_, _, subM_refl _, .same _, h⟩
      rw [rd_eq_str]
      cases nm with
      | none =>
        refine ite_t rfl ?_
        exact fin _ rfl
      | some z =>
        rcases hnm z rfl with e3 | ⟨h1, h2, h3⟩
        · exact absurd (by rw [e3]) hs
        · have hne : (nmS (some z) == Str.ofString "") = false := by
            rw [beq_eq_false_iff_ne]
            intro e
            have e : z = Str.ofString "" := e
            rw [e] at h1
            exact absurd h1 (by decide)
          rw [hne]
          refine ite_f Bool.false_ne_true ?_
          refine ⟨z, rfl, hnm z rfl, ?_⟩
          refine ite_f Bool.false_ne_true ?_
          exact fin _ rfl
theorem amt_signs {a b : Nat} : ∀ c, c ∈ (amtS a b).cps.toList → c ∈ (Str.ofString "0123456789/").cps.toList := fun c hc => by
  have e : (Str.ofString "0123456789/").cps.toList = [48, 49, 50, 51, 52, 53, 54, 55, 56, 57, 47] := rfl
  rw [e]
  have dg : ∀ n : Nat, c ∈ TL.tl (Str.ofString (toString ((n : Nat) : Int))) → 48 ≤ c ∧ c ≤ 57 := fun n h => by
    rw [TL.tl_num] at h
    exact TL.numL_digits n c h
  have : (48 ≤ c ∧ c ≤ 57) ∨ c = 47 := by
    unfold amtS at hc
    split at hc
    · exact .inl (dg a hc)
    · have h1 := TL.tl_append (Str.ofString (toString ((a : Nat) : Int)) ++ Str.ofString "/") (Str.ofString (toString ((b : Nat) : Int)))
      have h2 := TL.tl_append (Str.ofString (toString ((a : Nat) : Int))) (Str.ofString "/")
      unfold TL.tl at h1 h2
      rw [h1, h2] at hc
      rcases List.mem_append.mp hc with hc | hc
      · rcases List.mem_append.mp hc with hc | hc
        · exact .inl (dg a hc)
        · exact .inr (List.mem_singleton.mp hc)
      · exact .inl (dg b hc)
  simp only [List.mem_cons, List.not_mem_nil, or_false]
  omega
theorem ok_farR {f : Addr} {fd : FuncData} (F : FunX K "far" "Reader.far" S_Reader_far f fd) (T : TxtR K mg CN CT CJ CR) (mR : MtG P w K mg base 2 CR "run" [] (pRun CR)) (G_read_amount : FnG P w K mg base 3 "read_amount" 0 [] (fsP pReadAmt)) : FnOk P w K mg base (L2.CX P w) 4 f fd ["self"] (toSp K (pFarR CR)) := by
  refine okD F sc_Reader_far (fun ds M q ex h => ?_) (fun cdv A outer s H E ds hr hx => ?_)
  · obtain ⟨r, x, p, a, b, rest, rfl, _⟩ := h
    rfl
  · refine ⟨_, (dss_cons (ds_set (i := 1) sc_Reader_far.nd rfl (Or.inl rfl) (d_mthVK (P := P) (w := w) (K := K) (mg := mg) (base := base) (k := 2) (dv 0) (hr.mono (by decide)) hx (da_cons d_str da_nil)))
      (dss_cons (ds_thru (dss_one (ds_set (i := 2) sc_Reader_far.nd rfl (Or.inl rfl) (d_callP G_read_amount (hr.mono (by decide)) passL (da_cons (dv 1) da_nil)))))
      (dss_one (ds_ret (dv 2))))), fun M q ex h => ?_⟩
    obtain ⟨r, x, p, a, b, rest, rfl, hM, ha, ha1, hb1, hb0, hst, h⟩ := h
    simp only [dSeq, dNext, dRet, dRetN, dIfS, dDrop, dOp, dV, dC, dUn, dTest, dAnd, dOr, dNot, dAndV, dOrV, dNotV, dIf, dCB, dCons, dNil, dTup, dLst, dCallP, dAsg, qName, qCons, qNil, qTup, dPar, dAug, dMth, dM1, dSl, dPart, dNoPart, dYes, startR, List.map_cons, List.map_nil, List.length_cons, List.length_nil, List.replicate, List.cons_append, List.nil_append, List.append_nil, List.getElem?_cons_zero, List.getElem?_cons_succ, List.set_cons_zero, List.set_cons_succ, List.set_nil, dAdd, dSub, dMul, dMod, dFdv, dPow, dShl, dShr, dBit, dLt, dCmp, dNeg, Nat.reduceAdd, Nat.reduceSub, Nat.zero_add, rd_len_scr, rd_len_lst, rd_len_tup, rd_len_str, rd_eq_int, rd_eq_str, rd_eq_bl, rd_eq_nn, rd_eq_ns, rd_eq_sn, rd_eq_ni, rd_eq_in, rd_eq_nt, rd_eq_tn, rd_eq_pair, rd_is_non, rd_is_bl, rd_str_int, rd_int_int, rd_int_bl, rd_ix0, rd_ix1, rd_lix0, rd_lix1, rd_list_lst, rd_list_tup, rd_listM_lst, rd_tuple_lst, DL.isNon, wipeR, if_true, if_false, Bool.false_eq_true, Bool.not_true, Bool.not_false, reduceIte]
    refine mth_VA (as := [.str (Str.ofString "0123456789/")]) rfl (insR hM) rfl T.cR mR (fun Q' Ex' q => q) ⟨r, x, p, (amtS a b).cps.toList, rest, _, rfl, hM, ha, amt_signs, fun c r' e => ?_, ?_⟩
    · obtain ⟨c', r'', e', hc⟩ := hst
      rw [e'] at e
      obtain ⟨rfl, _⟩ := List.cons.inj e
      rcases hc with rfl | rfl | rfl <;> decide
    simp only [joinM_top upd_top]
    have emk : (⟨(amtS a b).cps.toList.toArray⟩ : Str) = amtS a b := TL.mk_tl _
    rw [emk]
    simp only [dSeq, dNext, dRet, dRetN, dIfS, dDrop, dOp, dV, dC, dUn, dTest, dAnd, dOr, dNot, dAndV, dOrV, dNotV, dIf, dCB, dCons, dNil, dTup, dLst, dCallP, dAsg, qName, qCons, qNil, qTup, dPar, dAug, dMth, dM1, dSl, dPart, dNoPart, dYes, startR, List.map_cons, List.map_nil, List.length_cons, List.length_nil, List.replicate, List.cons_append, List.nil_append, List.append_nil, List.getElem?_cons_zero, List.getElem?_cons_succ, List.set_cons_zero, List.set_cons_succ, List.set_nil, dAdd, dSub, dMul, dMod, dFdv, dPow, dShl, dShr, dBit, dLt, dCmp, dNeg, Nat.reduceAdd, Nat.reduceSub, Nat.zero_add, rd_len_scr, rd_len_lst, rd_len_tup, rd_len_str, rd_eq_int, rd_eq_str, rd_eq_bl, rd_eq_nn, rd_eq_ns, rd_eq_sn, rd_eq_ni, rd_eq_in, rd_eq_nt, rd_eq_tn, rd_eq_pair, rd_is_non, rd_is_bl, rd_str_int, rd_int_int, rd_int_bl, rd_ix0, rd_ix1, rd_lix0, rd_lix1, rd_list_lst, rd_list_tup, rd_listM_lst, rd_tuple_lst, DL.isNon, wipeR, if_true, if_false, Bool.false_eq_true, Bool.not_true, Bool.not_false, reduceIte, dThru]
    refine ⟨a, b, rfl, ha1, hb1, hb0, ?_⟩
    exact ⟨_, _, subM_refl _, .same _, h⟩
end

end LM
namespace LM
open PySem L2 DL PySem.Spec PyProof.Rows
abbrev S_Join___init__ : Stmt := inClass (topS 21) 0
theorem sc_Join___init__ : FnScope ["self", "kids", "name", "length"] ["self", "kids", "name", "length"] (defScope S_Join___init__) := ⟨rfl, rfl, rfl, by decide +kernel, rfl, by decide +kernel, by decide +kernel⟩
abbrev S_Reader_piece : Stmt := inClass (topS 24) 5
theorem sc_Reader_piece : FnScope ["self", "depth", "kids", "name"] ["self", "depth"] (defScope S_Reader_piece) := ⟨rfl, rfl, rfl, by decide +kernel, rfl, by decide +kernel, by decide +kernel⟩
abbrev S_Reader_hung : Stmt := inClass (topS 24) 7
theorem sc_Reader_hung : FnScope ["self", "depth", "node"] ["self", "depth"] (defScope S_Reader_hung) := ⟨rfl, rfl, rfl, by decide +kernel, rfl, by decide +kernel, by decide +kernel⟩
abbrev S_Reader_bunch : Stmt := inClass (topS 24) 6
theorem sc_Reader_bunch : FnScope ["self", "depth", "kids"] ["self", "depth"] (defScope S_Reader_bunch) := ⟨rfl, rfl, rfl, by decide +kernel, rfl, by decide +kernel, by decide +kernel⟩
abbrev S_parsed : Stmt := topS 25
theorem sc_parsed : FnScope ["text", "reader", "node"] ["text"] (defScope S_parsed) := ⟨rfl, rfl, rfl, by decide +kernel, rfl, by decide +kernel, by decide +kernel⟩

/-! ### pieces: a node of its own, not yet for good -/
def pJInitO (CJ : Addr) : Fs := fun ds M q _ => ∃ x kd kds a b, ds = [.ref x, kd, a, b] ∧ M x = some (.ins CJ [] []) ∧ sqL M kd = some kds ∧ ∀ l, M l = none → q .non (updM (updM M l (.lst kds)) x (.ins CJ ["name", "length", "kids"] [a, b, .ref l]))
/-- the node of t stands at y, its kids for good in a list of its own; M1 is what else stands -/
def NodeAt (CT CJ : Addr) (t : T) (len : D) (M1 M2 : MS) (y : Addr) : Prop := match t with
  | .nd [] nm _ => M1 y = none ∧ M2 = updM M1 y (.ins CT ["name", "length"] [nmD nm, len])
  | .nd (k :: ks) nm _ => ∃ l, M1 l = none ∧ M1 y = none ∧ l ≠ y ∧ M2 = updM (updM M1 l (.lst ((norms (k :: ks)).map (toD CT CJ)))) y (.ins CJ ["name", "length", "kids"] [nmD nm, len, .ref l])
section
variable {CT CJ : Addr} {t : T} {len v : D} {M1 M2 : MS} {y : Addr}
theorem NodeAt.sub (h : NodeAt CT CJ t len M1 M2 y) : subM M1 M2 := by
  obtain ⟨ks, nm, ln⟩ := t
  cases ks with
  | nil => obtain ⟨h1, rfl⟩ := h; exact sub_upd h1
  | cons k ks =>
    obtain ⟨l, h1, h2, h3, rfl⟩ := h
    exact sub_trans (sub_upd h1) (sub_upd (by rw [updM_ne (Ne.symm h3)]; exact h2))
theorem NodeAt.new (h : NodeAt CT CJ t len M1 M2 y) : M1 y = none := by
  obtain ⟨ks, nm, ln⟩ := t
  cases ks with
  | nil => exact h.1
  | cons k ks => obtain ⟨l, h1, h2, _⟩ := h; exact h2
theorem NodeAt.ins (h : NodeAt CT CJ t len M1 M2 y) : ∃ C ns ds, M2 y = some (.ins C ns ds) ∧ (C = CT ∨ C = CJ) ∧ ns.length < 1000 ∧ NodeAt CT CJ t v M1 (updM M2 y (.ins C (putN "length" ns) (putD "length" v ns ds))) y := by
  obtain ⟨ks, nm, ln⟩ := t
  cases ks with
  | nil =>
    obtain ⟨h1, rfl⟩ := h
    exact ⟨CT, _, _, updM_same, .inl rfl, by show 2 < 1000; decide, h1, by rw [updM_updM]; rfl⟩
  | cons k ks =>
    obtain ⟨l, h1, h2, h3, rfl⟩ := h
    exact ⟨CJ, _, _, updM_same, .inr rfl, by show 3 < 1000; decide, l, h1, h2, h3, by rw [updM_updM]; rfl⟩
theorem NodeAt.move {r : Addr} {o : MO} (h : NodeAt CT CJ t len M1 M2 y) (hr : M1 r ≠ none) : NodeAt CT CJ t len (updM M1 r o) (updM M2 r o) y := by
  obtain ⟨ks, nm, ln⟩ := t
  cases ks with
  | nil =>
    obtain ⟨h1, rfl⟩ := h
    have ne : y ≠ r := fun e => by subst e; exact hr h1
    exact ⟨by rw [updM_ne ne]; exact h1, by rw [updM_comm ne]⟩
  | cons k ks =>
    obtain ⟨l, h1, h2, h3, rfl⟩ := h
    have ne : y ≠ r := fun e => by subst e; exact hr h2
    have nl : l ≠ r := fun e => by subst e; exact hr h1
    exact ⟨l, by rw [updM_ne nl]; exact h1, by rw [updM_ne ne]; exact h2, h3, by rw [updM_comm ne, updM_comm nl]⟩
theorem NodeAt.ret {ln : Option (Nat × Nat)} {q : QX} (h : NodeAt CT CJ t (lnD ln) M1 M2 y) (hq : ∀ ks nm l0, t = .nd ks nm l0 → q (toD CT CJ (.nd (norms ks) nm ln)) M1) : retD q (.ref y) M2 := by
  obtain ⟨ks, nm, l0⟩ := t
  have hq := hq ks nm l0 rfl
  have hy := h.new
  have hs := h.sub
  refine ⟨M1, _, hs, ?_, hq⟩
  cases ks with
  | nil =>
    obtain ⟨h1, rfl⟩ := h
    rw [norms, toD]
    exact .obj (less_new h1) (Fzs.refl _ _)
  | cons k ks =>
    obtain ⟨l, h1, h2, h3, rfl⟩ := h
    have e : toD CT CJ (.nd (norms (k :: ks)) nm ln) = .obj CJ ["name", "length", "kids"] [nmD nm, lnD ln, .lst ((norms (k :: ks)).map (toD CT CJ))] := by
      rw [norms, toD, List.map_cons, toDs_map]
    rw [e]
    have ly : lessM (updM (updM M1 l (.lst ((norms (k :: ks)).map (toD CT CJ)))) y (.ins CJ ["name", "length", "kids"] [nmD nm, lnD ln, .ref l])) M1 y = some (.ins CJ ["name", "length", "kids"] [nmD nm, lnD ln, .ref l]) := by
      unfold lessM
      rw [h2]
      exact updM_same
    have ll : lessM (updM (updM M1 l (.lst ((norms (k :: ks)).map (toD CT CJ)))) y (.ins CJ ["name", "length", "kids"] [nmD nm, lnD ln, .ref l])) M1 l = some (.lst ((norms (k :: ks)).map (toD CT CJ))) := by
      unfold lessM
      rw [h1, updM_ne h3]
      exact updM_same
    exact .obj ly (.cons (.same _) (.cons (.same _) (.cons (.lst ll (Fzs.refl _ _)) .nil)))
end
def pPiece (CT CJ CR : Addr) (n : Nat) : Fs := fun ds M q _ => ∃ r x p t d rest, ds = [.ref r, .int (d : Nat)] ∧ M r = some (RdO CR x p) ∧ At x p (pcL t ++ rest) ∧ stopN rest ∧ GoodR t ∧ d + hgt t ≤ 40 ∧ cnt t ≤ n ∧ n ≤ 100 ∧
  ∀ M2 y, NodeAt CT CJ t .non (updM M r (RdO CR x (p + (pcL t).length))) M2 y → q (.ref y) M2
def pHung (CT CJ CR : Addr) (n : Nat) : Fs := fun ds M q _ => ∃ r x p t d rest, ds = [.ref r, .int (d : Nat)] ∧ M r = some (RdO CR x p) ∧ At x p ((shown t).cps.toList ++ rest) ∧ stopB rest ∧ GoodR t ∧ d + hgt t ≤ 40 ∧ cnt t ≤ n ∧ n ≤ 100 ∧
  q (toD CT CJ (norm t)) (updM M r (RdO CR x (p + (shown t).cps.toList.length)))
def pBunch (CT CJ CR : Addr) (n : Nat) : Fs := fun ds M q _ => ∃ r x p k ks d rest, ds = [.ref r, .int (d : Nat)] ∧ M r = some (RdO CR x p) ∧ At x p (40 :: (bunchL (k :: ks) ++ 41 :: rest)) ∧ GoodRs (k :: ks) ∧ d + hgts (k :: ks) ≤ 40 ∧ cnts (k :: ks) ≤ n ∧ n ≤ 100 ∧
  q (.lst ((norms (k :: ks)).map (toD CT CJ))) (updM M r (RdO CR x (p + (bunchL (k :: ks)).length + 2)))
section
variable {P : Program} {w : World} {K : PySem.W.Frag} {mg : Str → Option Value} {base : Heap} {CN CT CJ CR : Addr}
theorem ok_jinitO {f : Addr} {fd : FuncData} (F : FunX K "__init__" "Join.__init__" S_Join___init__ f fd) (T : TxtB K mg CN CT CJ) (F_Node___init__ : CfG P w K mg base 1 CN "__init__" [] (pNInit K)) : FnOk P w K mg base (L2.CX P w) 2 f fd ["self", "kids", "name", "length"] (toSp K (pJInitO CJ)) := by
  refine okD F sc_Join___init__ (fun ds M q ex h => ?_) (fun cdv A outer s H E ds hr hx => ?_)
  · obtain ⟨x, kd, kds, a, b, rfl, _⟩ := h
    rfl
  · refine ⟨_, (dss_cons (ds_expr (d_cfun F_Node___init__ T.m_Node (hr.mono (by decide)) hx (da_cons (dv 0) (da_cons (dv 2) (da_cons (dv 3) da_nil)))))
      (dss_one (ds_setFK (K := K) (dv 0) (d_callTy c_list s_listM rfl T.b_list boot_list (da_cons (dv 1) da_nil))))), fun M q ex h => ?_⟩
    obtain ⟨x, kd, kds, a, b, rfl, hM, hk, h⟩ := h
    simp only [dSeq, dNext, dRet, dRetN, dIfS, dDrop, dOp, dV, dC, dUn, dTest, dAnd, dOr, dNot, dAndV, dOrV, dNotV, dIf, dCB, dCons, dNil, dTup, dLst, dCallP, dAsg, qName, qCons, qNil, qTup, dPar, dAug, dMth, dM1, dSl, dPart, dNoPart, dYes, startR, List.map_cons, List.map_nil, List.length_cons, List.length_nil, List.replicate, List.cons_append, List.nil_append, List.append_nil, List.getElem?_cons_zero, List.getElem?_cons_succ, List.set_cons_zero, List.set_cons_succ, List.set_nil, dAdd, dSub, dMul, dMod, dFdv, dPow, dShl, dShr, dBit, dLt, dCmp, dNeg, Nat.reduceAdd, Nat.reduceSub, Nat.zero_add, rd_len_scr, rd_len_lst, rd_len_tup, rd_len_str, rd_eq_int, rd_eq_str, rd_eq_bl, rd_eq_nn, rd_eq_ns, rd_eq_sn, rd_eq_ni, rd_eq_in, rd_eq_nt, rd_eq_tn, rd_eq_pair, rd_is_non, rd_is_bl, rd_str_int, rd_int_int, rd_int_bl, rd_ix0, rd_ix1, rd_lix0, rd_lix1, rd_list_lst, rd_list_tup, rd_listM_lst, rd_tuple_lst, DL.isNon, wipeR, if_true, if_false, Bool.false_eq_true, Bool.not_true, Bool.not_false, reduceIte]
    refine call_of (ds := [.ref x, a, b]) (fun Q' Ex' q => q) ⟨x, CJ, a, b, rfl, hM, T.cJ, T.nJ, T.lJ, ?_⟩
    show dSetF K _ _ _ _ _ (joinM M M _)
    rw [joinM_top upd_top]
    have hk2 : sqR (updM M x (.ins CJ ["name", "length"] [a, b])) kd = some kds := sqR_ofL (sqL_upd hk fun ds e => by rw [hM] at e; cases e)
    simp only [dSeq, dNext, dRet, dRetN, dIfS, dDrop, dOp, dV, dC, dUn, dTest, dAnd, dOr, dNot, dAndV, dOrV, dNotV, dIf, dCB, dCons, dNil, dTup, dLst, dCallP, dAsg, qName, qCons, qNil, qTup, dPar, dAug, dMth, dM1, dSl, dPart, dNoPart, dYes, startR, List.map_cons, List.map_nil, List.length_cons, List.length_nil, List.replicate, List.cons_append, List.nil_append, List.append_nil, List.getElem?_cons_zero, List.getElem?_cons_succ, List.set_cons_zero, List.set_cons_succ, List.set_nil, dAdd, dSub, dMul, dMod, dFdv, dPow, dShl, dShr, dBit, dLt, dCmp, dNeg, Nat.reduceAdd, Nat.reduceSub, Nat.zero_add, rd_len_scr, rd_len_lst, rd_len_tup, rd_len_str, rd_eq_int, rd_eq_str, rd_eq_bl, rd_eq_nn, rd_eq_ns, rd_eq_sn, rd_eq_ni, rd_eq_in, rd_eq_nt, rd_eq_tn, rd_eq_pair, rd_is_non, rd_is_bl, rd_str_int, rd_int_int, rd_int_bl, rd_ix0, rd_ix1, rd_lix0, rd_lix1, rd_list_lst, rd_list_tup, rd_listM_lst, rd_tuple_lst, DL.isNon, wipeR, if_true, if_false, Bool.false_eq_true, Bool.not_true, Bool.not_false, reduceIte, dSetF]
    refine listM_of hk2 fun l hl => ?_
    have nlx : l ≠ x := fun e => by subst e; rw [updM_same] at hl; cases hl
    rw [updM_ne nlx] at hl
    have e : ownI (updM (updM M x (.ins CJ ["name", "length"] [a, b])) l (.lst kds)) (.ref x) = some (x, CJ, (["name", "length"] : List Str), [a, b]) := by
      show (match (updM (updM M x (.ins CJ ["name", "length"] [a, b])) l (.lst kds)) x with | some (.ins C ns ds) => some (x, C, ns, ds) | _ => none) = _
      rw [updM_ne (Ne.symm nlx), updM_same]
    rw [e]
    refine ⟨⟨T.cJ, T.kJ, by show 2 < 1000; decide⟩, ?_⟩
    show retD q .non _
    rw [updM_new nlx]
    exact ⟨_, _, subM_refl _, .same _, h l hl⟩
theorem ok_piece0 {f : Addr} {fd : FuncData} {k : Nat} (F : FunX K "piece" "Reader.piece" S_Reader_piece f fd) : FnOk P w K mg base (L2.CX P w) (k + 1) f fd ["self", "depth"] (toSp K (pPiece CT CJ CR 0)) := by
  refine okD F sc_Reader_piece (fun ds M q ex h => ?_) (fun cdv A outer s H E ds hr hx => ⟨_, dss_never, fun M q ex h => ?_⟩)
  · obtain ⟨r, x, p, t, d, rest, rfl, _⟩ := h
    rfl
  · obtain ⟨r, x, p, t, d, rest, rfl, _, _, _, _, _, h, _⟩ := h
    have := cnt_pos t
    omega
theorem ok_piece {f : Addr} {fd : FuncData} {n : Nat} (F : FunX K "piece" "Reader.piece" S_Reader_piece f fd) (T : TxtR K mg CN CT CJ CR) (mS : MtG P w K mg base 1 CR "sign" [] (pSign CR)) (mW : MtG P w K mg base 3 CR "word" [] (pWord CR)) (mB : MtG P w K mg base (3 * n + 8) CR "bunch" [] (pBunch CT CJ CR n))
    (K_Tip_1 : MkG P w K mg base 1 "Tip" CT [.non] (pNInit K)) (K_Join_2 : MkG P w K mg base 2 "Join" CJ [.non] (pJInitO CJ)) : FnOk P w K mg base (L2.CX P w) (3 * n + 9) f fd ["self", "depth"] (toSp K (pPiece CT CJ CR (n + 1))) := by
  refine okD F sc_Reader_piece (fun ds M q ex h => ?_) (fun cdv A outer s H E ds hr hx => ?_)
  · obtain ⟨r, x, p, t, d, rest, rfl, _⟩ := h
    rfl
  · refine ⟨_, (dss_cons (ds_if (dt_cmp (o_eq hr.units) (s_eq false) (d_mthV0K (P := P) (w := w) (K := K) (mg := mg) (base := base) (k := 1) (dv 0) (hr.mono (by omega)) hx) d_str (nomark _))
      (dss_cons (ds_set (i := 2) sc_Reader_piece.nd rfl (Or.inl rfl) (d_mthVK (P := P) (w := w) (K := K) (mg := mg) (base := base) (k := (3*n+8)) (dv 0) hr hx (da_cons (d_op o_add s_add (dv 1) d_int) da_nil)))
        (dss_one (ds_ret (d_make K_Join_2 (hr.mono (by omega)) hx (da_cons (dv 2) (da_cons (d_mthV0K (P := P) (w := w) (K := K) (mg := mg) (base := base) (k := 3) (dv 0) (hr.mono (by omega)) hx) da_nil))))))
      dss_nil)
      (dss_cons (ds_set (i := 3) sc_Reader_piece.nd rfl (Or.inl rfl) (d_mthV0K (P := P) (w := w) (K := K) (mg := mg) (base := base) (k := 3) (dv 0) (hr.mono (by omega)) hx))
      (dss_cons (ds_if (dt_cmp o_is (s_is false) (dv 3) d_non (nomark _))
      (dss_one ds_never)
      dss_nil)
      (dss_one (ds_ret (d_make K_Tip_1 (hr.mono (by omega)) hx (da_cons (dv 3) da_nil))))))), fun M q ex h => ?_⟩
    obtain ⟨r, x, p, t, d, rest, rfl, hM, ha, hst, hg, hd, hc, hn, h⟩ := h
    obtain ⟨ks, nm, ln⟩ := t
    rw [GoodR] at hg
    obtain ⟨hg1, hg2, _, hg3⟩ := hg
    simp only [dSeq, dNext, dRet, dRetN, dIfS, dDrop, dOp, dV, dC, dUn, dTest, dAnd, dOr, dNot, dAndV, dOrV, dNotV, dIf, dCB, dCons, dNil, dTup, dLst, dCallP, dAsg, qName, qCons, qNil, qTup, dPar, dAug, dMth, dM1, dSl, dPart, dNoPart, dYes, startR, List.map_cons, List.map_nil, List.length_cons, List.length_nil, List.replicate, List.cons_append, List.nil_append, List.append_nil, List.getElem?_cons_zero, List.getElem?_cons_succ, List.set_cons_zero, List.set_cons_succ, List.set_nil, dAdd, dSub, dMul, dMod, dFdv, dPow, dShl, dShr, dBit, dLt, dCmp, dNeg, Nat.reduceAdd, Nat.reduceSub, Nat.zero_add, rd_len_scr, rd_len_lst, rd_len_tup, rd_len_str, rd_eq_int, rd_eq_str, rd_eq_bl, rd_eq_nn, rd_eq_ns, rd_eq_sn, rd_eq_ni, rd_eq_in, rd_eq_nt, rd_eq_tn, rd_eq_pair, rd_is_non, rd_is_bl, rd_str_int, rd_int_int, rd_int_bl, rd_ix0, rd_ix1, rd_lix0, rd_lix1, rd_list_lst, rd_list_tup, rd_listM_lst, rd_tuple_lst, DL.isNon, wipeR, if_true, if_false, Bool.false_eq_true, Bool.not_true, Bool.not_false, reduceIte]
    refine mth_VF rfl (insR hM) rfl T.cR mS ⟨r, x, _, _, rfl, hM, ha, ?_⟩
    simp only [joinM_refl]
    cases ks with
    | nil =>
      rw [pc_tip] at ha h ⊢
      obtain ⟨z, rfl⟩ : ∃ z, nm = some z := by
        cases nm with
        | none => exact absurd rfl (hg1 rfl)
        | some z => exact ⟨z, rfl⟩
      have hz := hg2 z rfl
      have ne40 : (sg1 ((nmS (some z)).cps.toList ++ rest) == Str.ofString "(") = false := by
        rw [beq_eq_false_iff_ne]
        intro e
        rcases hz with e3 | ⟨h1, h2, h3⟩
        · rw [e3] at e
          have := congrArg (fun s : Str => s.cps.toList) e
          have e5 : (sg1 ((nmS (some (Str.ofString "*"))).cps.toList ++ rest)).cps.toList = [42] := rfl
          have e6 : (Str.ofString "(").cps.toList = [40] := rfl
          rw [e5, e6] at this
          cases this
        · cases ez : z.cps.toList with
          | nil =>
            have : z.cps.toList.length = z.length := Array.length_toList
            rw [ez] at this
            have : z.length = 0 := this.symm
            omega
          | cons c t =>
            have e1 : (nmS (some z)).cps.toList ++ rest = c :: (t ++ rest) := by
              show z.cps.toList ++ rest = _
              rw [ez]; rfl
            rw [e1] at e
            have hc40 : c = 40 := by
              have := sign_one c _ e
              have e2 : (Str.ofString "(").cps.toList = [40] := rfl
              rw [e2] at this
              exact (List.cons.inj this).1.symm
            have := h3 c (by rw [ez]; exact List.mem_cons_self)
            rw [hc40] at this
            exact absurd this (by decide +kernel)
      rw [rd_eq_str, ne40]
      refine ite_f Bool.false_ne_true ?_
      refine mth_VF rfl (insR hM) rfl T.cR mW ⟨r, x, p, some z, rest, rfl, hM, ha, hg2, hst, ?_⟩
      simp only [joinM_top upd_top]
      refine ite_f Bool.false_ne_true ?_
      refine make_of (ds := [.str z]) (fun Q' Ex' q => q) fun y hy => ⟨y, CT, .str z, .non, rfl, updM_same, T.cT, T.nT, T.lT, rfl, ?_⟩
      show retD q (.ref y) (joinM _ _ _)
      rw [joinM_top upd2_top, updM_updM]
      exact ⟨_, _, subM_refl _, .same _, h _ y ⟨hy, rfl⟩⟩
    | cons k ks =>
      rw [pc_join] at ha h ⊢
      rw [hgt] at hd
      rw [cnt] at hc
      refine eqs_of ?_
      refine ite_t rfl ?_
      have ha2 : At x p (40 :: (bunchL (k :: ks) ++ 41 :: ((nmS nm).cps.toList ++ rest))) := by
        have e : 40 :: (bunchL (k :: ks) ++ 41 :: (nmS nm).cps.toList) ++ rest = 40 :: (bunchL (k :: ks) ++ 41 :: ((nmS nm).cps.toList ++ rest)) := by simp
        rw [e] at ha
        exact ha
      refine mth_VA (as := [.int ((d + 1 : Nat))]) rfl (insR hM) rfl T.cR mB (fun Q' Ex' q => q) ⟨r, x, p, k, ks, d + 1, _, rfl, hM, ha2, hg3, by omega, by omega, by omega, ?_⟩
      simp only [joinM_top upd_top]
      have ha3 : At x (p + (bunchL (k :: ks)).length + 2) ((nmS nm).cps.toList ++ rest) := by
        have e : 40 :: (bunchL (k :: ks) ++ 41 :: ((nmS nm).cps.toList ++ rest)) = (40 :: (bunchL (k :: ks) ++ [41])) ++ ((nmS nm).cps.toList ++ rest) := by simp
        rw [e] at ha2
        have := ha2.step
        rw [List.length_cons, List.length_append, List.length_singleton] at this
        rw [show p + (bunchL (k :: ks)).length + 2 = p + ((bunchL (k :: ks)).length + 1 + 1) by omega]
        exact this
      have eM2 : ∀ p', updM (updM M r (RdO CR x (p + (bunchL (k :: ks)).length + 2))) r (RdO CR x p') = updM M r (RdO CR x p') := fun p' => updM_updM
      refine make_at (ds := [.lst ((norms (k :: ks)).map (toD CT CJ)), nmD nm]) (M2 := updM M r (RdO CR x (p + (bunchL (k :: ks)).length + 2 + (nmS nm).cps.toList.length))) (fun Q' Ex' q => ?_) fun y hy => ⟨y, _, _, nmD nm, .non, rfl, updM_same, rfl, fun l hl => ⟨rfl, ?_⟩⟩
      · simp only [dSeq, dNext, dRet, dRetN, dIfS, dDrop, dOp, dV, dC, dUn, dTest, dAnd, dOr, dNot, dAndV, dOrV, dNotV, dIf, dCB, dCons, dNil, dTup, dLst, dCallP, dAsg, qName, qCons, qNil, qTup, dPar, dAug, dMth, dM1, dSl, dPart, dNoPart, dYes, startR, List.map_cons, List.map_nil, List.length_cons, List.length_nil, List.replicate, List.cons_append, List.nil_append, List.append_nil, List.getElem?_cons_zero, List.getElem?_cons_succ, List.set_cons_zero, List.set_cons_succ, List.set_nil, dAdd, dSub, dMul, dMod, dFdv, dPow, dShl, dShr, dBit, dLt, dCmp, dNeg, Nat.reduceAdd, Nat.reduceSub, Nat.zero_add, rd_len_scr, rd_len_lst, rd_len_tup, rd_len_str, rd_eq_int, rd_eq_str, rd_eq_bl, rd_eq_nn, rd_eq_ns, rd_eq_sn, rd_eq_ni, rd_eq_in, rd_eq_nt, rd_eq_tn, rd_eq_pair, rd_is_non, rd_is_bl, rd_str_int, rd_int_int, rd_int_bl, rd_ix0, rd_ix1, rd_lix0, rd_lix1, rd_list_lst, rd_list_tup, rd_listM_lst, rd_tuple_lst, DL.isNon, wipeR, if_true, if_false, Bool.false_eq_true, Bool.not_true, Bool.not_false, reduceIte]
        refine mth_VF rfl (insR updM_same) rfl T.cR mW ⟨r, x, _, nm, rest, rfl, updM_same, ha3, hg2, hst, ?_⟩
        simp only [eM2, joinM_top upd_same_top]
        exact q
      · have nly : l ≠ y := fun e => by subst e; rw [updM_same] at hl; cases hl
        rw [updM_ne nly] at hl
        show retD q (.ref y) (joinM _ _ _)
        rw [joinM_top (fun a e => by
          by_cases h1 : a = y
          · subst h1; rw [updM_same] at e; cases e
          · rw [updM_ne h1] at e
            by_cases h2 : a = l
            · subst h2; rw [updM_same] at e; cases e
            · rw [updM_ne h2, updM_ne h1] at e; exact e), updM_new nly]
        have el : p + (40 :: (bunchL (k :: ks) ++ 41 :: (nmS nm).cps.toList)).length = p + (bunchL (k :: ks)).length + 2 + (nmS nm).cps.toList.length := by
          rw [List.length_cons, List.length_append, List.length_cons]; omega
        rw [el] at h
        exact ⟨_, _, subM_refl _, .same _, h _ y ⟨l, hl, hy, nly, rfl⟩⟩
theorem ok_hung {f : Addr} {fd : FuncData} {n : Nat} (F : FunX K "hung" "Reader.hung" S_Reader_hung f fd) (T : TxtR K mg CN CT CJ CR) (mS : MtG P w K mg base 1 CR "sign" [] (pSign CR)) (mT : MtG P w K mg base 2 CR "take" [] (pTake CR)) (mF : MtG P w K mg base 4 CR "far" [] (pFarR CR)) (mP : MtG P w K mg base (3 * n + 6) CR "piece" [] (pPiece CT CJ CR n)) :
    FnOk P w K mg base (L2.CX P w) (3 * n + 7) f fd ["self", "depth"] (toSp K (pHung CT CJ CR n)) := by
  refine okD F sc_Reader_hung (fun ds M q ex h => ?_) (fun cdv A outer s H E ds hr hx => ?_)
  · obtain ⟨r, x, p, t, d, rest, rfl, _⟩ := h
    rfl
  · refine ⟨_, (dss_cons (ds_set (i := 2) sc_Reader_hung.nd rfl (Or.inl rfl) (d_mthVK (P := P) (w := w) (K := K) (mg := mg) (base := base) (k := (3*n+6)) (dv 0) hr hx (da_cons (dv 1) da_nil)))
      (dss_mid (ds_if (dt_cmp (o_eq hr.units) (s_eq false) (d_mthV0K (P := P) (w := w) (K := K) (mg := mg) (base := base) (k := 1) (dv 0) (hr.mono (by omega)) hx) d_str (nomark _))
      (dss_cons (ds_expr (d_mthVK (P := P) (w := w) (K := K) (mg := mg) (base := base) (k := 2) (dv 0) (hr.mono (by omega)) hx (da_cons d_str da_nil)))
        (dss_one (ds_setFK (K := K) (dv 2) (d_mthV0K (P := P) (w := w) (K := K) (mg := mg) (base := base) (k := 4) (dv 0) (hr.mono (by omega)) hx))))
      dss_nil)
      (dss_one (ds_ret (dv 2))))), fun M q ex h => ?_⟩
    obtain ⟨r, x, p, t, d, rest, rfl, hM, ha, hst, hg, hd, hc, hn, h⟩ := h
    rw [shown_L] at ha h
    have hrest : stopN (lnL (lnO t) ++ rest) := by
      cases e : lnO t with
      | none => exact stop_BN hst
      | some p => exact stop_colon _
    have ha' : At x p (pcL t ++ (lnL (lnO t) ++ rest)) := by rw [← List.append_assoc]; exact ha
    simp only [dSeq, dNext, dRet, dRetN, dIfS, dDrop, dOp, dV, dC, dUn, dTest, dAnd, dOr, dNot, dAndV, dOrV, dNotV, dIf, dCB, dCons, dNil, dTup, dLst, dCallP, dAsg, qName, qCons, qNil, qTup, dPar, dAug, dMth, dM1, dSl, dPart, dNoPart, dYes, startR, List.map_cons, List.map_nil, List.length_cons, List.length_nil, List.replicate, List.cons_append, List.nil_append, List.append_nil, List.getElem?_cons_zero, List.getElem?_cons_succ, List.set_cons_zero, List.set_cons_succ, List.set_nil, dAdd, dSub, dMul, dMod, dFdv, dPow, dShl, dShr, dBit, dLt, dCmp, dNeg, Nat.reduceAdd, Nat.reduceSub, Nat.zero_add, rd_len_scr, rd_len_lst, rd_len_tup, rd_len_str, rd_eq_int, rd_eq_str, rd_eq_bl, rd_eq_nn, rd_eq_ns, rd_eq_sn, rd_eq_ni, rd_eq_in, rd_eq_nt, rd_eq_tn, rd_eq_pair, rd_is_non, rd_is_bl, rd_str_int, rd_int_int, rd_int_bl, rd_ix0, rd_ix1, rd_lix0, rd_lix1, rd_list_lst, rd_list_tup, rd_listM_lst, rd_tuple_lst, DL.isNon, wipeR, if_true, if_false, Bool.false_eq_true, Bool.not_true, Bool.not_false, reduceIte]
    refine mth_VA (as := [.int (d : Nat)]) rfl (insR hM) rfl T.cR mP (fun Q' Ex' q => q) ⟨r, x, p, t, d, _, rfl, hM, ha', hrest, hg, hd, hc, hn, fun M2 y hN => ?_⟩
    have hsub := hN.sub
    have hr2 : M2 r = some (RdO CR x (p + (pcL t).length)) := hsub r _ updM_same
    have htop : ∀ a, M2 a = none → M a = none := fun a e => by
      cases e1 : M a with
      | none => rfl
      | some o =>
        by_cases har : a = r
        · subst har; rw [hr2] at e; cases e
        · rw [hsub a o (by rw [updM_ne har]; exact e1)] at e; cases e
    simp only [joinM_top htop]
    have ha2 := ha'.step
    have fin : ∀ (M3 : MS) (p' : Nat), p' = p + (pcL t ++ lnL (lnO t)).length → NodeAt CT CJ t (lnD ((lnO t).map fun p => lowN p.1 p.2)) (updM M r (RdO CR x p')) M3 y → retD q (.ref y) M3 := fun M3 p' ep hN3 => by
      refine hN3.ret fun ks nm l0 e => ?_
      subst e
      rw [ep]
      rw [norm] at h
      exact h
    refine ⟨fun ρ' M3 => ρ'[2]? = some (some (.ref y)) ∧ ∃ p', p' = p + (pcL t ++ lnL (lnO t)).length ∧ NodeAt CT CJ t (lnD ((lnO t).map fun p => lowN p.1 p.2)) (updM M r (RdO CR x p')) M3 y, ?_, ?_⟩
    · simp only [dSeq, dNext, dRet, dRetN, dIfS, dDrop, dOp, dV, dC, dUn, dTest, dAnd, dOr, dNot, dAndV, dOrV, dNotV, dIf, dCB, dCons, dNil, dTup, dLst, dCallP, dAsg, qName, qCons, qNil, qTup, dPar, dAug, dMth, dM1, dSl, dPart, dNoPart, dYes, startR, List.map_cons, List.map_nil, List.length_cons, List.length_nil, List.replicate, List.cons_append, List.nil_append, List.append_nil, List.getElem?_cons_zero, List.getElem?_cons_succ, List.set_cons_zero, List.set_cons_succ, List.set_nil, dAdd, dSub, dMul, dMod, dFdv, dPow, dShl, dShr, dBit, dLt, dCmp, dNeg, Nat.reduceAdd, Nat.reduceSub, Nat.zero_add, rd_len_scr, rd_len_lst, rd_len_tup, rd_len_str, rd_eq_int, rd_eq_str, rd_eq_bl, rd_eq_nn, rd_eq_ns, rd_eq_sn, rd_eq_ni, rd_eq_in, rd_eq_nt, rd_eq_tn, rd_eq_pair, rd_is_non, rd_is_bl, rd_str_int, rd_int_int, rd_int_bl, rd_ix0, rd_ix1, rd_lix0, rd_lix1, rd_list_lst, rd_list_tup, rd_listM_lst, rd_tuple_lst, DL.isNon, wipeR, if_true, if_false, Bool.false_eq_true, Bool.not_true, Bool.not_false, reduceIte]
      refine mth_VF rfl (insR hr2) rfl T.cR mS ⟨r, x, _, _, rfl, hr2, ha2, ?_⟩
      simp only [joinM_refl]
      cases hl : lnO t with
      | none =>
        rw [hl] at ha2
        obtain ⟨c, r', e, hcc⟩ := hst
        subst e
        have : ((⟨#[c]⟩ : Str) == Str.ofString ":") = false := by
          rw [beq_eq_false_iff_ne]
          intro e
          have := sign_one c _ e
          have e2 : (Str.ofString ":").cps.toList = [58] := rfl
          rw [e2] at this
          have := (List.cons.inj this).1
          omega
        rw [rd_eq_str]
        show (if ((⟨#[c]⟩ : Str) == Str.ofString ":") = true then _ else _)
        rw [this]
        refine ite_f Bool.false_ne_true ⟨trivial, _, rfl, ?_⟩
        show NodeAt CT CJ t .non (updM M r (RdO CR x (p + (pcL t ++ []).length))) M2 y
        rw [List.append_nil]
        exact hN
      | some pr =>
        rw [hl] at ha2
        have hgl : pr.1 < 10 ^ 30 ∧ pr.2 < 10 ^ 30 ∧ 0 < pr.2 := by
          obtain ⟨ks, nm, ln⟩ := t
          rw [GoodR] at hg
          exact hg.2.2.1 pr hl
        refine eqs_of ?_
        refine ite_t rfl ?_
        have ha3 : At x (p + (pcL t).length) (58 :: ((amtS pr.1 pr.2).cps.toList ++ rest)) := ha2
        refine mth_VA (as := [.str (Str.ofString ":")]) rfl (insR hr2) rfl T.cR mT (fun Q' Ex' q => q) ⟨r, x, _, 58, _, rfl, hr2, ha3, ?_⟩
        simp only [joinM_top upd_top]
        have ha4 : At x (p + (pcL t).length + 1) ((amtS pr.1 pr.2).cps.toList ++ rest) := At.step (w := [58]) ha3
        have hy : y ≠ r := fun e => by
          have := hN.new
          rw [e, updM_same] at this; cases this
        have hN2 := hN.move (r := r) (o := RdO CR x (p + (pcL t).length + 1 + (amtS pr.1 pr.2).cps.toList.length)) (by rw [updM_same]; exact fun z => by cases z)
        rw [updM_updM] at hN2
        obtain ⟨C, ns, es, k1, k2, k3, k4⟩ := hN2.ins (v := prD (lowN pr.1 pr.2))
        have cC : Cls K C ∧ NoAttr K C "length" := by
          rcases k2 with rfl | rfl
          · exact ⟨T.cT, T.lT⟩
          · exact ⟨T.cJ, T.lJ⟩
        refine setF_at (l := y) (y := prD (lowN pr.1 pr.2)) (M2 := updM M2 r (RdO CR x (p + (pcL t).length + 1 + (amtS pr.1 pr.2).cps.toList.length))) (fun Q' q => ?_) rfl k1 cC.1 cC.2 k3 ⟨rfl, p + (pcL t).length + 1 + (amtS pr.1 pr.2).cps.toList.length, ?_, k4⟩
        · refine mth_VF rfl (insR updM_same) rfl T.cR mF ⟨r, x, _, pr.1, pr.2, rest, rfl, updM_same, ha4, hgl.1, hgl.2.1, hgl.2.2, hst, ?_⟩
          simp only [updM_updM, joinM_top upd_same_top]
          exact q
        · rw [List.length_append]
          show _ = p + ((pcL t).length + (58 :: (amtS pr.1 pr.2).cps.toList).length)
          rw [List.length_cons]
          omega
    · rintro ρ' M3 ⟨h2, p', ep, hN3⟩
      show (match ρ'[2]? with | some (some d) => retD q d _ | _ => False)
      rw [h2]
      exact fin M3 p' ep hN3
def tailL : List T → List Nat
  | [] => []
  | j :: ks => 44 :: ((shown j).cps.toList ++ tailL ks)
theorem bunch_tail : ∀ (ks : List T) (k : T), bunchL (k :: ks) = (shown k).cps.toList ++ tailL ks
  | [], k => by show (shown k).cps.toList = _ ++ []; rw [List.append_nil]
  | j :: ks, k => by
    show (shown k).cps.toList ++ 44 :: bunchL (j :: ks) = _
    rw [bunch_tail ks j]
    rfl
theorem norms_map : ∀ ks, norms ks = ks.map norm
  | [] => by rw [norms]; rfl
  | k :: ks => by rw [norms, norms_map ks]; rfl
theorem tail_stop (ks : List T) (rest : List Nat) : stopB (tailL ks ++ 41 :: rest) := by
  cases ks with
  | nil => exact ⟨41, rest, rfl, .inr (.inl rfl)⟩
  | cons j ks => exact ⟨44, _, rfl, .inl rfl⟩
theorem ok_bunch {f : Addr} {fd : FuncData} {n : Nat} (F : FunX K "bunch" "Reader.bunch" S_Reader_bunch f fd) (T : TxtR K mg CN CT CJ CR) (mS : MtG P w K mg base 1 CR "sign" [] (pSign CR)) (mT : MtG P w K mg base 2 CR "take" [] (pTake CR)) (mH : MtG P w K mg base (3 * n + 7) CR "hung" [] (pHung CT CJ CR n)) :
    FnOk P w K mg base (L2.CX P w) (3 * n + 8) f fd ["self", "depth"] (toSp K (pBunch CT CJ CR n)) := by
  refine okD F sc_Reader_bunch (fun ds M q ex h => ?_) (fun cdv A outer s H E ds hr hx => ?_)
  · obtain ⟨r, x, p, k, ks, d, rest, rfl, _⟩ := h
    rfl
  · refine ⟨_, (dss_cons (ds_if (dt_cmp o_gt s_cmp (dv 1) (d_gint T.k_DEEPEST) (nomark _))
      (dss_one ds_never)
      dss_nil)
      (dss_cons (ds_expr (d_mthVK (P := P) (w := w) (K := K) (mg := mg) (base := base) (k := 2) (dv 0) (hr.mono (by omega)) hx (da_cons d_str da_nil)))
      (dss_cons (ds_set (i := 2) sc_Reader_bunch.nd rfl (Or.inl rfl) (d_lstM (da_cons (d_mthVK (P := P) (w := w) (K := K) (mg := mg) (base := base) (k := (3*n+7)) (dv 0) hr hx (da_cons (dv 1) da_nil)) da_nil)))
      (dss_cons (ds_while (passes_of rfl) (dt_cmp (o_eq hr.units) (s_eq false) (d_mthV0K (P := P) (w := w) (K := K) (mg := mg) (base := base) (k := 1) (dv 0) (hr.mono (by omega)) hx) d_str (nomark _))
      (dss_cons (ds_expr (d_mthVK (P := P) (w := w) (K := K) (mg := mg) (base := base) (k := 2) (dv 0) (hr.mono (by omega)) hx (da_cons d_str da_nil)))
        (dss_one (ds_expr (d_bm (isT := isL) PySem.F.plainAttrs_list PySem.F.slot_list_append PySem.F.type_list_append mt_append s_append (fun w v x => tyV_L) (dv 2) (da_cons (d_mthVK (P := P) (w := w) (K := K) (mg := mg) (base := base) (k := (3*n+7)) (dv 0) hr hx (da_cons (dv 1) da_nil)) da_nil))))))
      (dss_cons (ds_expr (d_mthVK (P := P) (w := w) (K := K) (mg := mg) (base := base) (k := 2) (dv 0) (hr.mono (by omega)) hx (da_cons d_str da_nil)))
      (dss_one (ds_ret (dv 2)))))))), fun M q ex h => ?_⟩
    obtain ⟨r, x, p, k, ks, d, rest, rfl, hM, ha, hg, hd, hc, hn, h⟩ := h
    rw [bunch_tail] at ha h
    rw [List.append_assoc] at ha
    rw [GoodRs] at hg
    rw [hgts] at hd
    rw [cnts] at hc
    simp only [dSeq, dNext, dRet, dRetN, dIfS, dDrop, dOp, dV, dC, dUn, dTest, dAnd, dOr, dNot, dAndV, dOrV, dNotV, dIf, dCB, dCons, dNil, dTup, dLst, dCallP, dAsg, qName, qCons, qNil, qTup, dPar, dAug, dMth, dM1, dSl, dPart, dNoPart, dYes, startR, List.map_cons, List.map_nil, List.length_cons, List.length_nil, List.replicate, List.cons_append, List.nil_append, List.append_nil, List.getElem?_cons_zero, List.getElem?_cons_succ, List.set_cons_zero, List.set_cons_succ, List.set_nil, dAdd, dSub, dMul, dMod, dFdv, dPow, dShl, dShr, dBit, dLt, dCmp, dNeg, Nat.reduceAdd, Nat.reduceSub, Nat.zero_add, rd_len_scr, rd_len_lst, rd_len_tup, rd_len_str, rd_eq_int, rd_eq_str, rd_eq_bl, rd_eq_nn, rd_eq_ns, rd_eq_sn, rd_eq_ni, rd_eq_in, rd_eq_nt, rd_eq_tn, rd_eq_pair, rd_is_non, rd_is_bl, rd_str_int, rd_int_int, rd_int_bl, rd_ix0, rd_ix1, rd_lix0, rd_lix1, rd_list_lst, rd_list_tup, rd_listM_lst, rd_tuple_lst, DL.isNon, wipeR, if_true, if_false, Bool.false_eq_true, Bool.not_true, Bool.not_false, reduceIte]
    refine ite_f (fun z => by have := of_decide_eq_true z; omega) ?_
    refine mth_VA (as := [.str (Str.ofString "(")]) rfl (insR hM) rfl T.cR mT (fun Q' Ex' q => q) ⟨r, x, p, 40, _, rfl, hM, ha, ?_⟩
    simp only [joinM_top upd_top]
    have ha1 : At x (p + 1) ((shown k).cps.toList ++ (tailL ks ++ 41 :: rest)) := by
      exact At.step (w := [40]) ha
    simp only [dSeq, dNext, dRet, dRetN, dIfS, dDrop, dOp, dV, dC, dUn, dTest, dAnd, dOr, dNot, dAndV, dOrV, dNotV, dIf, dCB, dCons, dNil, dTup, dLst, dCallP, dAsg, qName, qCons, qNil, qTup, dPar, dAug, dMth, dM1, dSl, dPart, dNoPart, dYes, startR, List.map_cons, List.map_nil, List.length_cons, List.length_nil, List.replicate, List.cons_append, List.nil_append, List.append_nil, List.getElem?_cons_zero, List.getElem?_cons_succ, List.set_cons_zero, List.set_cons_succ, List.set_nil, dAdd, dSub, dMul, dMod, dFdv, dPow, dShl, dShr, dBit, dLt, dCmp, dNeg, Nat.reduceAdd, Nat.reduceSub, Nat.zero_add, rd_len_scr, rd_len_lst, rd_len_tup, rd_len_str, rd_eq_int, rd_eq_str, rd_eq_bl, rd_eq_nn, rd_eq_ns, rd_eq_sn, rd_eq_ni, rd_eq_in, rd_eq_nt, rd_eq_tn, rd_eq_pair, rd_is_non, rd_is_bl, rd_str_int, rd_int_int, rd_int_bl, rd_ix0, rd_ix1, rd_lix0, rd_lix1, rd_list_lst, rd_list_tup, rd_listM_lst, rd_tuple_lst, DL.isNon, wipeR, if_true, if_false, Bool.false_eq_true, Bool.not_true, Bool.not_false, reduceIte, dLstM]
    refine mth_VA (as := [.int (d : Nat)]) rfl (insR updM_same) rfl T.cR mH (fun Q' Ex' q => q) ⟨r, x, _, k, d, _, rfl, updM_same, ha1, tail_stop _ _, hg.1, by omega, by omega, hn, ?_⟩
    simp only [updM_updM, joinM_top upd_same_top]
    refine ⟨by rw [sizeLine_eq]; decide, fun l hl => ?_⟩
    have nlr : l ≠ r := fun e => by subst e; rw [updM_same] at hl; cases hl
    rw [updM_ne nlr] at hl
    have hm : ∀ a b c, updM (updM (updM M r a) l b) r c = updM (updM M r c) l b := fun a b c => by rw [updM_new nlr, updM_comm nlr]
    have hj : ∀ c c' b b', joinM (updM (updM M r c) l b) (updM (updM M r c) l b) (updM (updM M r c') l b') = updM (updM M r c') l b' := fun c c' b b' => joinM_top fun a e => by
      by_cases h1 : a = l
      · subst h1; rw [updM_same] at e; cases e
      · rw [updM_ne h1] at e ⊢
        exact upd_same_top a e
    have ha2 := ha1.step
    refine while_ind (fun m ρ M' => ∃ (dn td : List LM.T) (p1 : Nat), k :: ks = dn ++ td ∧ m = td.length ∧ ρ = [some (.ref r), some (.int (d : Nat)), some (.ref l)] ∧ M' = updM (updM M r (RdO CR x p1)) l (.lst ((norms dn).map (toD CT CJ))) ∧ At x p1 (tailL td ++ 41 :: rest) ∧ p1 + (tailL td).length + 1 = p + ((shown k).cps.toList ++ tailL ks).length + 2 ∧ GoodRs td ∧ d + hgts td ≤ 40 ∧ cnts td ≤ n) (m := ks.length)
      ⟨[k], ks, _, rfl, rfl, rfl, by rw [norms, norms]; rfl, ha2, by rw [List.length_append]; omega, hg.2, by omega, by omega⟩ ?_
    rintro m ρ M' ⟨dn, td, p1, hkk, rfl, rfl, rfl, ha3, hp1, hgt, hdt, hct⟩ nx hnx
    have hMr : ∀ b, updM (updM M r (RdO CR x p1)) l b r = some (RdO CR x p1) := fun b => by rw [updM_ne (Ne.symm nlr)]; exact updM_same
    simp only [dSeq, dNext, dRet, dRetN, dIfS, dDrop, dOp, dV, dC, dUn, dTest, dAnd, dOr, dNot, dAndV, dOrV, dNotV, dIf, dCB, dCons, dNil, dTup, dLst, dCallP, dAsg, qName, qCons, qNil, qTup, dPar, dAug, dMth, dM1, dSl, dPart, dNoPart, dYes, startR, List.map_cons, List.map_nil, List.length_cons, List.length_nil, List.replicate, List.cons_append, List.nil_append, List.append_nil, List.getElem?_cons_zero, List.getElem?_cons_succ, List.set_cons_zero, List.set_cons_succ, List.set_nil, dAdd, dSub, dMul, dMod, dFdv, dPow, dShl, dShr, dBit, dLt, dCmp, dNeg, Nat.reduceAdd, Nat.reduceSub, Nat.zero_add, rd_len_scr, rd_len_lst, rd_len_tup, rd_len_str, rd_eq_int, rd_eq_str, rd_eq_bl, rd_eq_nn, rd_eq_ns, rd_eq_sn, rd_eq_ni, rd_eq_in, rd_eq_nt, rd_eq_tn, rd_eq_pair, rd_is_non, rd_is_bl, rd_str_int, rd_int_int, rd_int_bl, rd_ix0, rd_ix1, rd_lix0, rd_lix1, rd_list_lst, rd_list_tup, rd_listM_lst, rd_tuple_lst, DL.isNon, wipeR, if_true, if_false, Bool.false_eq_true, Bool.not_true, Bool.not_false, reduceIte]
    refine mth_VF rfl (insR (hMr _)) rfl T.cR mS ⟨r, x, _, _, rfl, hMr _, ha3, ?_⟩
    simp only [joinM_refl]
    cases td with
    | nil =>
      rw [List.append_nil] at hkk
      rw [rd_eq_str]
      show (if ((⟨#[41]⟩ : Str) == Str.ofString ",") = true then _ else _)
      rw [show ((⟨#[41]⟩ : Str) == Str.ofString ",") = false by decide]
      refine ite_f Bool.false_ne_true ?_
      refine mth_VA (as := [.str (Str.ofString ")")]) rfl (insR (hMr _)) rfl T.cR mT (fun Q' Ex' q => q) ⟨r, x, _, 41, rest, rfl, hMr _, ha3, ?_⟩
      simp only [hm, hj]
      have e0 : (tailL ([] : List LM.T)).length = 0 := rfl
      rw [e0] at hp1
      rw [show p + ((shown k).cps.toList ++ tailL ks).length + 2 = p1 + 1 by omega, hkk] at h
      refine ⟨updM M r (RdO CR x (p1 + 1)), _, sub_upd (by rw [updM_ne nlr]; exact hl), .lst (l := l) (less_new (by rw [updM_ne nlr]; exact hl)) (Fzs.refl _ _), h⟩
    | cons j td =>
      rw [GoodRs] at hgt
      rw [hgts] at hdt
      rw [cnts] at hct
      have e44 : tailL (j :: td) ++ 41 :: rest = 44 :: ((shown j).cps.toList ++ (tailL td ++ 41 :: rest)) := by
        show (44 :: ((shown j).cps.toList ++ tailL td)) ++ 41 :: rest = _
        rw [List.cons_append, List.append_assoc]
      rw [e44] at ha3
      rw [rd_eq_str]
      show (if ((⟨#[44]⟩ : Str) == Str.ofString ",") = true then _ else _)
      rw [show ((⟨#[44]⟩ : Str) == Str.ofString ",") = true by decide]
      refine ite_t rfl ?_
      refine mth_VA (as := [.str (Str.ofString ",")]) rfl (insR (hMr _)) rfl T.cR mT (fun Q' Ex' q => q) ⟨r, x, _, 44, _, rfl, hMr _, ha3, ?_⟩
      simp only [hm, hj]
      have ha4 : At x (p1 + 1) ((shown j).cps.toList ++ (tailL td ++ 41 :: rest)) := by
        exact At.step (w := [44]) ha3
      have hMr2 : ∀ b, updM (updM M r (RdO CR x (p1 + 1))) l b r = some (RdO CR x (p1 + 1)) := fun b => by rw [updM_ne (Ne.symm nlr)]; exact updM_same
      refine ⟨isL_ref updM_same, ?_⟩
      refine mth_VA (as := [.int (d : Nat)]) rfl (insR (hMr2 _)) rfl T.cR mH (fun Q' Ex' q => q) ⟨r, x, _, j, d, _, rfl, hMr2 _, ha4, tail_stop _ _, hgt.1, by omega, by omega, hn, ?_⟩
      simp only [hm, hj]
      have hll : (norms dn).length ≤ 200 := by
        have e1 := congrArg List.length hkk
        have e2 : ∀ ks : List LM.T, ks.length ≤ cnts ks := fun ks => by
          induction ks with
          | nil => exact Nat.zero_le _
          | cons k ks ih =>
            have := cnt_pos k
            rw [List.length_cons, cnts]; omega
        have e3 := e2 ks
        rw [List.length_append, List.length_cons] at e1
        rw [norms_map, List.length_map]
        omega
      refine append_of updM_same (by rw [List.length_map]; omega) ?_
      refine hnx td.length _ _ (by rw [List.length_cons]; omega) ⟨dn ++ [j], td, _, by rw [hkk, List.append_assoc]; rfl, rfl, rfl, ?_, ha4.step, ?_, hgt.2, by omega, by omega⟩
      · rw [updM_updM]
        congr 2
        rw [norms_map, norms_map, List.map_append, List.map_append]
        rfl
      · have e1 : (tailL (j :: td)).length = (shown j).cps.toList.length + (tailL td).length + 1 := by
          show (44 :: ((shown j).cps.toList ++ tailL td)).length = _
          rw [List.length_cons, List.length_append]
        omega
theorem NodeAt.drop {t : T} {len : D} {M M2 : MS} {r y : Addr} {o : MO} (h : NodeAt CT CJ t len (updM M r o) M2 y) (hr : M r = none) : ∃ N, NodeAt CT CJ t len M N y ∧ subM N M2 := by
  obtain ⟨ks, nm, ln⟩ := t
  have nn : ∀ a, updM M r o a = none → a ≠ r ∧ M a = none := fun a e => by
    have : a ≠ r := fun z => by subst z; rw [updM_same] at e; cases e
    exact ⟨this, by rw [updM_ne this] at e; exact e⟩
  cases ks with
  | nil =>
    obtain ⟨h1, rfl⟩ := h
    obtain ⟨n1, n2⟩ := nn _ h1
    refine ⟨_, ⟨n2, rfl⟩, ?_⟩
    rw [updM_comm (Ne.symm n1)]
    exact sub_upd (by rw [updM_ne (Ne.symm n1)]; exact hr)
  | cons k ks =>
    obtain ⟨l, h1, h2, h3, rfl⟩ := h
    obtain ⟨n1, n2⟩ := nn _ h1
    obtain ⟨n3, n4⟩ := nn _ h2
    refine ⟨_, ⟨l, n2, n4, h3, rfl⟩, ?_⟩
    rw [updM_comm (Ne.symm n1), updM_comm (Ne.symm n3)]
    exact sub_upd (by rw [updM_ne (Ne.symm n3), updM_ne (Ne.symm n1)]; exact hr)
def pParsed (CT CJ : Addr) : Fs := fun ds M q _ => ∃ x t, ds = [.str x] ∧ x.cps.toList = pcL t ++ [59] ∧ x.length ≤ 1000000 ∧ GoodR t ∧ hgt t ≤ 40 ∧ cnt t ≤ 45 ∧ ∀ M2 y, NodeAt CT CJ t .non M M2 y → q (.ref y) M2
theorem ok_parsed {f : Addr} {fd : FuncData} (F : FunX K "parsed" "parsed" S_parsed f fd) (T : TxtR K mg CN CT CJ CR) (mS : MtG P w K mg base 1 CR "sign" [] (pSign CR)) (mT : MtG P w K mg base 2 CR "take" [] (pTake CR)) (mP : MtG P w K mg base 141 CR "piece" [] (pPiece CT CJ CR 45)) (K_Reader_1 : MkG P w K mg base 1 "Reader" CR [] (pRInit CR)) :
    FnOk P w K mg base (L2.CX P w) 142 f fd ["text"] (toSp K (pParsed CT CJ)) := by
  refine okD F sc_parsed (fun ds M q ex h => ?_) (fun cdv A outer s H E ds hr hx => ?_)
  · obtain ⟨x, t, rfl, _⟩ := h
    rfl
  · refine ⟨_, (dss_cons (ds_set (i := 1) sc_parsed.nd rfl (Or.inl rfl) (d_make K_Reader_1 (hr.mono (by decide)) hx (da_cons (dv 0) da_nil)))
      (dss_cons (ds_set (i := 2) sc_parsed.nd rfl (Or.inl rfl) (d_mthVK (P := P) (w := w) (K := K) (mg := mg) (base := base) (k := 141) (dv 1) (hr.mono (by decide)) hx (da_cons d_int da_nil)))
      (dss_cons (ds_expr (d_mthVK (P := P) (w := w) (K := K) (mg := mg) (base := base) (k := 2) (dv 1) (hr.mono (by decide)) hx (da_cons d_str da_nil)))
      (dss_cons (ds_if (dt_cmp (o_ne hr.units) (s_eq true) (d_mthV0K (P := P) (w := w) (K := K) (mg := mg) (base := base) (k := 1) (dv 1) (hr.mono (by decide)) hx) d_str (nomark _))
      (dss_one ds_never)
      dss_nil)
      (dss_one (ds_ret (dv 2))))))), fun M q ex h => ?_⟩
    obtain ⟨x, t, rfl, hx, hsz, hg, hd, hc, h⟩ := h
    simp only [dSeq, dNext, dRet, dRetN, dIfS, dDrop, dOp, dV, dC, dUn, dTest, dAnd, dOr, dNot, dAndV, dOrV, dNotV, dIf, dCB, dCons, dNil, dTup, dLst, dCallP, dAsg, qName, qCons, qNil, qTup, dPar, dAug, dMth, dM1, dSl, dPart, dNoPart, dYes, startR, List.map_cons, List.map_nil, List.length_cons, List.length_nil, List.replicate, List.cons_append, List.nil_append, List.append_nil, List.getElem?_cons_zero, List.getElem?_cons_succ, List.set_cons_zero, List.set_cons_succ, List.set_nil, dAdd, dSub, dMul, dMod, dFdv, dPow, dShl, dShr, dBit, dLt, dCmp, dNeg, Nat.reduceAdd, Nat.reduceSub, Nat.zero_add, rd_len_scr, rd_len_lst, rd_len_tup, rd_len_str, rd_eq_int, rd_eq_str, rd_eq_bl, rd_eq_nn, rd_eq_ns, rd_eq_sn, rd_eq_ni, rd_eq_in, rd_eq_nt, rd_eq_tn, rd_eq_pair, rd_is_non, rd_is_bl, rd_str_int, rd_int_int, rd_int_bl, rd_ix0, rd_ix1, rd_lix0, rd_lix1, rd_list_lst, rd_list_tup, rd_listM_lst, rd_tuple_lst, DL.isNon, wipeR, if_true, if_false, Bool.false_eq_true, Bool.not_true, Bool.not_false, reduceIte]
    refine make_of (ds := [.str x]) (fun Q' Ex' q => q) fun r hr0 => ⟨r, x, rfl, updM_same, rfl, ?_⟩
    simp only [updM_updM, joinM_top upd_top]
    have ha : At x 0 (pcL t ++ [59]) := ⟨by rw [List.drop_zero]; exact hx, Nat.zero_le _, hsz⟩
    refine mth_VA (as := [.int (0 : Nat)]) rfl (insR updM_same) rfl T.cR mP (fun Q' Ex' q => q) ⟨r, x, 0, t, 0, [59], rfl, updM_same, ha, stop_BN ⟨59, [], rfl, .inr (.inr rfl)⟩, hg, by omega, hc, by decide, fun M2 y hN => ?_⟩
    rw [updM_updM] at hN
    have hsub := hN.sub
    have hr2 : M2 r = some (RdO CR x (0 + (pcL t).length)) := hsub r _ updM_same
    have htop : ∀ a, M2 a = none → updM M r (RdO CR x 0) a = none := fun a e => by
      by_cases har : a = r
      · subst har; rw [hr2] at e; cases e
      · rw [updM_ne har]
        cases e1 : M a with
        | none => rfl
        | some o => rw [hsub a o (by rw [updM_ne har]; exact e1)] at e; cases e
    simp only [joinM_top htop]
    have ha2 := ha.step
    refine mth_VA (as := [.str (Str.ofString ";")]) rfl (insR hr2) rfl T.cR mT (fun Q' Ex' q => q) ⟨r, x, _, 59, [], rfl, hr2, ha2, ?_⟩
    simp only [joinM_top upd_top]
    have ha3 : At x (0 + (pcL t).length + 1) [] := At.step (w := [59]) ha2
    refine mth_VF rfl (insR updM_same) rfl T.cR mS ⟨r, x, _, _, rfl, updM_same, ha3, ?_⟩
    simp only [joinM_refl]
    show retD q (.ref y) _
    have hN2 := hN.move (r := r) (o := RdO CR x (0 + (pcL t).length + 1)) (by rw [updM_same]; exact fun z => by cases z)
    rw [updM_updM] at hN2
    obtain ⟨N, hN3, hs⟩ := hN2.drop hr0
    exact ⟨N, _, hs, .same _, h N y hN3⟩
end

end LM
namespace LM
open PySem L2 DL PySem.Spec PyProof.Rows
abbrev S__law_whole : Stmt := topS 29
theorem sc__law_whole : FnScope ["_law_found"] ["_law_found"] (defScope S__law_whole) := ⟨rfl, rfl, rfl, by decide +kernel, rfl, by decide +kernel, by decide +kernel⟩
abbrev S__law_longer_text : Stmt := topS 34
theorem sc__law_longer_text : FnScope ["_law_far_here", "_law_times"] ["_law_far_here", "_law_times"] (defScope S__law_longer_text) := ⟨rfl, rfl, rfl, by decide +kernel, rfl, by decide +kernel, by decide +kernel⟩
abbrev S__law_ups : Stmt := topS 35
theorem sc__law_ups : FnScope ["_law_script", "_law_many", "_law_cell", "_law_ups_here", "_law_k"] ["_law_script", "_law_many"] (defScope S__law_ups) := ⟨rfl, rfl, rfl, by decide +kernel, rfl, by decide +kernel, by decide +kernel⟩
abbrev S__law_length_is : Stmt := topS 36
theorem sc__law_length_is : FnScope ["_law_found", "_law_due"] ["_law_found", "_law_due"] (defScope S__law_length_is) := ⟨rfl, rfl, rfl, by decide +kernel, rfl, by decide +kernel, by decide +kernel⟩

structure TxtF (K : PySem.W.Frag) (mg : Str → Option Value) (CN CT CJ CR : Addr) : Prop extends TxtR K mg CN CT CJ CR where
  b_max : mg "max" = none
  b_tuple : mg "tuple" = none
  iT : IsK K CT
  iJ : IsK K CJ
  qTT : PySem.W.kitOne K (.ref CT) (.ref CT) = some true
  qTJ : PySem.W.kitOne K (.ref CT) (.ref CJ) = some false
  qJT : PySem.W.kitOne K (.ref CJ) (.ref CT) = some false
  qJJ : PySem.W.kitOne K (.ref CJ) (.ref CJ) = some true
def pWhole : Ps := fun ds q _ => ∃ i : Int, ds = [.int i] ∧ q (.bl true)
def pLonger : Ps := fun ds q _ => ∃ a b t : Nat, ds = [prD (a, b), .int (t : Nat)] ∧ a < 2 ^ 300 ∧ 0 < b ∧ b < 2 ^ 300 ∧ 0 < t ∧ t < 10 ∧ q (.str (amtS (a * t) (b * t)))
def pUps : Ps := fun ds q _ => ∃ (ns : List Int) (m : Nat), ds = [.scr ns, .int (m : Nat)] ∧ ns.length ≤ 63 ∧ 1 ≤ m ∧ m ≤ 41 ∧ ∀ ups : List Nat, 1 ≤ ups.length → ups.length ≤ 41 → (∀ j u, 1 ≤ j → ups[j]? = some u → u < j) → q (.lst (ups.map fun u => .int (u : Nat)))
def pLenIs : Ps := fun ds q _ => ∃ ln, ds = [lnD ln, lnD ln] ∧ q (.bl true)
section
variable {P : Program} {w : World} {K : PySem.W.Frag} {mg : Str → Option Value} {base : Heap} {CN CT CJ CR : Addr}
theorem ok_whole {f : Addr} {fd : FuncData} (F : FunX K "_law_whole" "_law_whole" S__law_whole f fd) (T : TxtF K mg CN CT CJ CR) : FnOk P w K mg base (L2.CX P w) 1 f fd ["_law_found"] (toSp K (fsP pWhole)) := by
  refine okP F sc__law_whole (fun ds q ex h => ?_) (fun cdv A outer s H E ds hr hx => ?_)
  · obtain ⟨i, rfl, _⟩ := h
    rfl
  · refine ⟨_, (dss_one (ds_ret (d_and (d_callB call_isi s_isi rfl T.b_isinstance boot_isinstance (da_cons (dv 0) (da_cons (d_ty T.b_int boot_int) da_nil))) (d_one (d_not (d_callB call_isi s_isi rfl T.b_isinstance boot_isinstance (da_cons (dv 0) (da_cons (d_ty T.b_bool boot_bool) da_nil)))))))), fun q ex h => ?_⟩
    obtain ⟨i, rfl, h⟩ := h
    simp only [dSeq, dNext, dRet, dRetN, dIfS, dDrop, dOp, dV, dC, dUn, dTest, dAnd, dOr, dNot, dAndV, dOrV, dNotV, dIf, dCB, dCons, dNil, dTup, dLst, dCallP, dAsg, qName, qCons, qNil, qTup, dPar, dAug, dMth, dM1, dSl, dPart, dNoPart, dYes, startR, List.map_cons, List.map_nil, List.length_cons, List.length_nil, List.replicate, List.cons_append, List.nil_append, List.append_nil, List.getElem?_cons_zero, List.getElem?_cons_succ, List.set_cons_zero, List.set_cons_succ, List.set_nil, dAdd, dSub, dMul, dMod, dFdv, dPow, dShl, dShr, dBit, dLt, dCmp, dNeg, Nat.reduceAdd, Nat.reduceSub, Nat.zero_add, rd_len_scr, rd_len_lst, rd_len_tup, rd_len_str, rd_eq_int, rd_eq_str, rd_eq_bl, rd_eq_nn, rd_eq_ns, rd_eq_sn, rd_eq_ni, rd_eq_in, rd_eq_nt, rd_eq_tn, rd_eq_pair, rd_is_non, rd_is_bl, rd_str_int, rd_int_int, rd_int_bl, rd_ix0, rd_ix1, rd_lix0, rd_lix1, rd_list_lst, rd_list_tup, rd_listM_lst, rd_tuple_lst, DL.isNon, wipeR, if_true, if_false, Bool.false_eq_true, Bool.not_true, Bool.not_false, reduceIte]
    refine isi_of (t := .type "int") rfl rfl trivial (kit_ty (r := true) (by decide +kernel)) ?_
    refine isi_of (t := .type "int") rfl rfl trivial (kit_ty (r := false) (by decide +kernel)) ?_
    exact retP_same h
theorem ok_longer {f : Addr} {fd : FuncData} (F : FunX K "_law_longer_text" "_law_longer_text" S__law_longer_text f fd) (T : TxtF K mg CN CT CJ CR) : FnOk P w K mg base (L2.CX P w) 1 f fd ["_law_far_here", "_law_times"] (toSp K (fsP pLonger)) := by
  refine okP F sc__law_longer_text (fun ds q ex h => ?_) (fun cdv A outer s H E ds hr hx => ?_)
  · obtain ⟨a, b, t, rfl, _⟩ := h
    rfl
  · refine ⟨_, (dss_cons (ds_if (dt_cmp (o_eq hr.units) (s_eq false) (d_op o_mul s_mul (d_ix ix_any s_ix (dv 0) d_int) (dv 1)) d_int (nomark _))
      (dss_one (ds_ret (d_callTy c_str s_str rfl T.b_str boot_str (da_cons (d_ix ix_any s_ix (dv 0) d_int) da_nil))))
      dss_nil)
      (dss_one (ds_ret (d_op o_add s_add (d_op o_add s_add (d_callTy c_str s_str rfl T.b_str boot_str (da_cons (d_op o_mul s_mul (d_ix ix_any s_ix (dv 0) d_int) (dv 1)) da_nil)) d_str) (d_callTy c_str s_str rfl T.b_str boot_str (da_cons (d_op o_mul s_mul (d_ix ix_any s_ix (dv 0) d_int) (dv 1)) da_nil)))))), fun q ex h => ?_⟩
    obtain ⟨a, b, t, rfl, ha, hb0, hb, ht, ht2, h⟩ := h
    simp only [dSeq, dNext, dRet, dRetN, dIfS, dDrop, dOp, dV, dC, dUn, dTest, dAnd, dOr, dNot, dAndV, dOrV, dNotV, dIf, dCB, dCons, dNil, dTup, dLst, dCallP, dAsg, qName, qCons, qNil, qTup, dPar, dAug, dMth, dM1, dSl, dPart, dNoPart, dYes, startR, List.map_cons, List.map_nil, List.length_cons, List.length_nil, List.replicate, List.cons_append, List.nil_append, List.append_nil, List.getElem?_cons_zero, List.getElem?_cons_succ, List.set_cons_zero, List.set_cons_succ, List.set_nil, dAdd, dSub, dMul, dMod, dFdv, dPow, dShl, dShr, dBit, dLt, dCmp, dNeg, Nat.reduceAdd, Nat.reduceSub, Nat.zero_add, rd_len_scr, rd_len_lst, rd_len_tup, rd_len_str, rd_eq_int, rd_eq_str, rd_eq_bl, rd_eq_nn, rd_eq_ns, rd_eq_sn, rd_eq_ni, rd_eq_in, rd_eq_nt, rd_eq_tn, rd_eq_pair, rd_is_non, rd_is_bl, rd_str_int, rd_int_int, rd_int_bl, rd_ix0, rd_ix1, rd_lix0, rd_lix1, rd_list_lst, rd_list_tup, rd_listM_lst, rd_tuple_lst, DL.isNon, wipeR, if_true, if_false, Bool.false_eq_true, Bool.not_true, Bool.not_false, reduceIte, prD]
    have b1 : ((a : Nat) : Int).natAbs < 2 ^ 300 := b_nat ha
    have b2 : ((b : Nat) : Int).natAbs < 2 ^ 300 := b_nat hb
    have b3 : ((t : Nat) : Int).natAbs < 2 ^ 4 := b_nat (by omega)
    have m1 := mulOk b1 b3
    have m2 := mulOk b2 b3
    have e1 : (a : Int) * (t : Int) = ((a * t : Nat) : Int) := (Int.natCast_mul a t).symm
    have e2 : (b : Int) * (t : Int) = ((b * t : Nat) : Int) := (Int.natCast_mul b t).symm
    have l0 := log2_lt b1
    have l1 : ((a * t : Nat) : Int).natAbs.log2 < 304 := by rw [← e1]; exact log2_lt (b_mul b1 b3)
    have l2 : ((b * t : Nat) : Int).natAbs.log2 < 304 := by rw [← e2]; exact log2_lt (b_mul b2 b3)
    have t1 := intText_len (by decide) l1
    have t2 := intText_len (by decide) l2
    have t3 : (Str.ofString "/").length = 1 := rfl
    rw [e1, e2]
    unfold amtS at h
    refine ⟨m2, ?_⟩
    by_cases e : b * t = 1
    · rw [if_pos e] at h
      have ht1 : t = 1 := Nat.eq_one_of_mul_eq_one_left e
      rw [ht1, Nat.mul_one] at h
      refine ite_t (by rw [e]; rfl) ⟨by omega, retP_same h⟩
    · rw [if_neg e] at h
      refine ite_f (by rw [beq_iff_eq]; omega) ⟨m1, by omega, by rw [sizeLine_eq]; omega, m2, by omega, ?_, retP_same h⟩
      rw [Str.length_append, sizeLine_eq]
      omega
theorem ok_ups {f : Addr} {fd : FuncData} (F : FunX K "_law_ups" "_law_ups" S__law_ups f fd) (T : TxtF K mg CN CT CJ CR)
    (G__law_cell_at : FnG P w K mg base 1 "_law_cell_at" 0 [] (fsP pCell)) (G__law_mixed : FnG P w K mg base 1 "_law_mixed" 0 [] (fsP pMixed)) : FnOk P w K mg base (L2.CX P w) 2 f fd ["_law_script", "_law_many"] (toSp K (fsP pUps)) := by
  refine okP F sc__law_ups (fun ds q ex h => ?_) (fun cdv A outer s H E ds hr hx => ?_)
  · obtain ⟨i, m, rfl, _⟩ := h
    rfl
  · refine ⟨_, (dss_cons (ds_if (dt_cmp (o_eq hr.units) (s_eq false) (d_op o_mod s_mod (d_op o_fdv s_fdv (d_callP G__law_cell_at (hr.mono (by decide)) hx (da_cons (dv 0) (da_cons d_int da_nil))) d_int) d_int) d_int (nomark _))
      (dss_cons (ds_set (i := 2) sc__law_ups.nd rfl (Or.inl rfl) (d_callP G__law_mixed (hr.mono (by decide)) hx (da_cons (d_callP G__law_cell_at (hr.mono (by decide)) hx (da_cons (dv 0) (da_cons d_int da_nil))) (da_cons d_int da_nil))))
        (dss_one (ds_ret (d_lc (own := [("_law_k", 4)]) rfl sc__law_ups.nd (di_range1 rfl T.b_range (da_cons (d_ix ix_any s_ix (d_lst (da_cons d_int (da_cons d_int (da_cons (d_op o_add s_add d_int (d_op o_mod s_mod (d_op o_fdv s_fdv (dv 2) d_int) d_int)) (da_cons d_int da_nil))))) (d_op o_mod s_mod (dv 2) d_int)) da_nil)) (blkOk_by (own := [("_law_k", 4)]) (N := ["_law_script", "_law_many", "_law_cell", "_law_ups_here", "_law_k"]) (sc := defScope S__law_ups) (by decide +kernel)) (fun _ _ _ _ _ => gw_name (i := 4) sc__law_ups.nd rfl (Or.inl rfl) (by decide)) (ts_nil (K := K)) (fun _ _ _ _ _ => (d_callB (call_max2 rfl) s_max2 rfl T.b_max boot_max (da_cons d_int (da_cons (d_op o_sub s_sub (dv 4) d_int) da_nil))))))))
      dss_nil)
      (dss_cons (ds_set (i := 3) sc__law_ups.nd rfl (Or.inl rfl) (d_lstM (da_cons d_int da_nil)))
      (dss_cons (ds_for (passes_of rfl) rfl (di_range2 rfl T.b_range (da_cons d_int (da_cons (dv 1) da_nil))) (dg_name (i := 4) sc__law_ups.nd rfl (Or.inl rfl))
      (dss_one (ds_expr (d_bm (isT := isL) PySem.F.plainAttrs_list PySem.F.slot_list_append PySem.F.type_list_append mt_append s_append (fun w v x => tyV_L) (dv 3) (da_cons (d_op o_mod s_mod (d_callP G__law_mixed (hr.mono (by decide)) hx (da_cons (d_callP G__law_cell_at (hr.mono (by decide)) hx (da_cons (dv 0) (da_cons (d_op o_mul s_mul d_int (dv 4)) da_nil))) (da_cons d_int da_nil))) (dv 4)) da_nil)))))
      (dss_one (ds_ret (dv 3)))))), fun q ex h => ?_⟩
    obtain ⟨ns, m, rfl, hn, hm1, hm, h⟩ := h
    simp only [dSeq, dNext, dRet, dRetN, dIfS, dDrop, dOp, dV, dC, dUn, dTest, dAnd, dOr, dNot, dAndV, dOrV, dNotV, dIf, dCB, dCons, dNil, dTup, dLst, dCallP, dAsg, qName, qCons, qNil, qTup, dPar, dAug, dMth, dM1, dSl, dPart, dNoPart, dYes, startR, List.map_cons, List.map_nil, List.length_cons, List.length_nil, List.replicate, List.cons_append, List.nil_append, List.append_nil, List.getElem?_cons_zero, List.getElem?_cons_succ, List.set_cons_zero, List.set_cons_succ, List.set_nil, dAdd, dSub, dMul, dMod, dFdv, dPow, dShl, dShr, dBit, dLt, dCmp, dNeg, Nat.reduceAdd, Nat.reduceSub, Nat.zero_add, rd_len_scr, rd_len_lst, rd_len_tup, rd_len_str, rd_eq_int, rd_eq_str, rd_eq_bl, rd_eq_nn, rd_eq_ns, rd_eq_sn, rd_eq_ni, rd_eq_in, rd_eq_nt, rd_eq_tn, rd_eq_pair, rd_is_non, rd_is_bl, rd_str_int, rd_int_int, rd_int_bl, rd_ix0, rd_ix1, rd_lix0, rd_lix1, rd_list_lst, rd_list_tup, rd_listM_lst, rd_tuple_lst, DL.isNon, wipeR, if_true, if_false, Bool.false_eq_true, Bool.not_true, Bool.not_false, reduceIte]
    refine ⟨ns, 0, rfl, by decide, hn, ?_⟩
    have c0 := cellN_lt ns 0
    generalize cellN ns 0 = c at c0
    refine ⟨divOk (b := 4) (by decide) (by decide), by decide, ?_⟩
    split
    · refine ⟨ns, 1, rfl, by decide, hn, cellN ns 1, 1009, rfl, cellN_lt ns 1, by decide, ?_⟩
      generalize mixN (cellN ns 1) 1009 = b
      simp only [dSeq, dNext, dRet, dRetN, dIfS, dDrop, dOp, dV, dC, dUn, dTest, dAnd, dOr, dNot, dAndV, dOrV, dNotV, dIf, dCB, dCons, dNil, dTup, dLst, dCallP, dAsg, qName, qCons, qNil, qTup, dPar, dAug, dMth, dM1, dSl, dPart, dNoPart, dYes, startR, List.map_cons, List.map_nil, List.length_cons, List.length_nil, List.replicate, List.cons_append, List.nil_append, List.append_nil, List.getElem?_cons_zero, List.getElem?_cons_succ, List.set_cons_zero, List.set_cons_succ, List.set_nil, dAdd, dSub, dMul, dMod, dFdv, dPow, dShl, dShr, dBit, dLt, dCmp, dNeg, Nat.reduceAdd, Nat.reduceSub, Nat.zero_add, rd_len_scr, rd_len_lst, rd_len_tup, rd_len_str, rd_eq_int, rd_eq_str, rd_eq_bl, rd_eq_nn, rd_eq_ns, rd_eq_sn, rd_eq_ni, rd_eq_in, rd_eq_nt, rd_eq_tn, rd_eq_pair, rd_is_non, rd_is_bl, rd_str_int, rd_int_int, rd_int_bl, rd_ix0, rd_ix1, rd_lix0, rd_lix1, rd_list_lst, rd_list_tup, rd_listM_lst, rd_tuple_lst, DL.isNon, wipeR, if_true, if_false, Bool.false_eq_true, Bool.not_true, Bool.not_false, reduceIte, dLc, dRng1]
      refine ⟨divOk (b := 3) (by decide) (by decide), by decide, by rw [sizeLine_eq]; decide, by decide, ?_⟩
      have pick : ∀ Q : QX, (∀ v : Nat, 1 ≤ v ∧ v ≤ 41 → Q (.int (v : Nat)) M0) → dIx (D.lst [D.int 41, D.int 40, D.int (21 + (b : Int) / 4 % 19), D.int 41]) (D.int ((b : Int) % 4)) M0 Q := fun Q hQ => by
        have h4 : (b : Int) % 4 = 0 ∨ (b : Int) % 4 = 1 ∨ (b : Int) % 4 = 2 ∨ (b : Int) % 4 = 3 := by omega
        rcases h4 with e | e | e | e
        · rw [e]; exact hQ 41 (by decide)
        · rw [e]; exact hQ 40 (by decide)
        · rw [e]
          have := hQ (21 + b / 4 % 19) (by omega)
          rw [show (((21 + b / 4 % 19 : Nat)) : Int) = 21 + (b : Int) / 4 % 19 by omega] at this
          exact this
        · rw [e]; exact hQ 41 (by decide)
      refine pick _ fun v hv => ?_
      refine ⟨⟨by omega, by omega⟩, ?_⟩
      rw [intsD_nat]
      refine lc_mapG _ (fun k : Nat => .int ((k - 1 : Nat))) _ _ (by rw [List.length_nil, List.length_range]; omega) (fun k hk Q hQ => ?_) ?_
      · simp only [dSeq, dNext, dRet, dRetN, dIfS, dDrop, dOp, dV, dC, dUn, dTest, dAnd, dOr, dNot, dAndV, dOrV, dNotV, dIf, dCB, dCons, dNil, dTup, dLst, dCallP, dAsg, qName, qCons, qNil, qTup, dPar, dAug, dMth, dM1, dSl, dPart, dNoPart, dYes, startR, List.map_cons, List.map_nil, List.length_cons, List.length_nil, List.replicate, List.cons_append, List.nil_append, List.append_nil, List.getElem?_cons_zero, List.getElem?_cons_succ, List.set_cons_zero, List.set_cons_succ, List.set_nil, dAdd, dSub, dMul, dMod, dFdv, dPow, dShl, dShr, dBit, dLt, dCmp, dNeg, Nat.reduceAdd, Nat.reduceSub, Nat.zero_add, rd_len_scr, rd_len_lst, rd_len_tup, rd_len_str, rd_eq_int, rd_eq_str, rd_eq_bl, rd_eq_nn, rd_eq_ns, rd_eq_sn, rd_eq_ni, rd_eq_in, rd_eq_nt, rd_eq_tn, rd_eq_pair, rd_is_non, rd_is_bl, rd_str_int, rd_int_int, rd_int_bl, rd_ix0, rd_ix1, rd_lix0, rd_lix1, rd_list_lst, rd_list_tup, rd_listM_lst, rd_tuple_lst, DL.isNon, wipeR, if_true, if_false, Bool.false_eq_true, Bool.not_true, Bool.not_false, reduceIte, dMax2]
        have e : (if (k : Int) - 1 > 0 then (k : Int) - 1 else 0) = ((k - 1 : Nat) : Int) := by
          split <;> omega
        rw [e]
        exact hQ
      · rw [List.nil_append]
        have := h ((List.range v).map fun k => k - 1) (by rw [List.length_map, List.length_range]; omega) (by rw [List.length_map, List.length_range]; omega) (fun j u hj hu => by
          rw [List.getElem?_map] at hu
          cases e : (List.range v)[j]? with
          | none => rw [e] at hu; cases hu
          | some k =>
            rw [e] at hu
            cases hu
            have : k = j := by
              have hlt := (List.getElem?_eq_some_iff.mp e).1
              rw [List.length_range] at hlt
              rw [List.getElem?_range hlt] at e
              cases e; rfl
            show k - 1 < j
            omega)
        rw [List.map_map] at this
        exact retP_same this
    · simp only [dSeq, dNext, dRet, dRetN, dIfS, dDrop, dOp, dV, dC, dUn, dTest, dAnd, dOr, dNot, dAndV, dOrV, dNotV, dIf, dCB, dCons, dNil, dTup, dLst, dCallP, dAsg, qName, qCons, qNil, qTup, dPar, dAug, dMth, dM1, dSl, dPart, dNoPart, dYes, startR, List.map_cons, List.map_nil, List.length_cons, List.length_nil, List.replicate, List.cons_append, List.nil_append, List.append_nil, List.getElem?_cons_zero, List.getElem?_cons_succ, List.set_cons_zero, List.set_cons_succ, List.set_nil, dAdd, dSub, dMul, dMod, dFdv, dPow, dShl, dShr, dBit, dLt, dCmp, dNeg, Nat.reduceAdd, Nat.reduceSub, Nat.zero_add, rd_len_scr, rd_len_lst, rd_len_tup, rd_len_str, rd_eq_int, rd_eq_str, rd_eq_bl, rd_eq_nn, rd_eq_ns, rd_eq_sn, rd_eq_ni, rd_eq_in, rd_eq_nt, rd_eq_tn, rd_eq_pair, rd_is_non, rd_is_bl, rd_str_int, rd_int_int, rd_int_bl, rd_ix0, rd_ix1, rd_lix0, rd_lix1, rd_list_lst, rd_list_tup, rd_listM_lst, rd_tuple_lst, DL.isNon, wipeR, if_true, if_false, Bool.false_eq_true, Bool.not_true, Bool.not_false, reduceIte, dLstM, dFor, dRng2]
      refine ⟨by rw [sizeLine_eq]; decide, fun l hl => ?_⟩
      refine ⟨⟨⟨by decide, by decide⟩, by omega, by omega⟩, ?_⟩
      have hint : intsD 1 1 ((m : Int) - 1).toNat = (List.range (m - 1)).map fun k => D.int (((k + 1 : Nat)) : Int) := by
        unfold intsD
        rw [show ((m : Int) - 1).toNat = m - 1 by omega]
        refine List.map_congr_left fun k _ => ?_
        congr 1
        omega
      rw [hint]
      refine each_ind (fun xs ρ M => ∃ (a : Nat) (ups : List Nat) (s : Option D), a + xs.length = m - 1 ∧ xs = (List.range' a xs.length).map (fun k => D.int (((k + 1 : Nat)) : Int)) ∧ ups.length = a + 1 ∧ (∀ j u, 1 ≤ j → ups[j]? = some u → u < j) ∧ ρ = [some (.scr ns), some (.int (m : Nat)), none, some (.ref l), s] ∧ M = updM M0 l (.lst (ups.map fun u => .int (u : Nat)))) ?_ ?_ _ _ _ ?_
      · rintro ρ M ⟨a, ups, s, ha, hxs, hul, hu, rfl, rfl⟩
        simp only [dSeq, dNext, dRet, dRetN, dIfS, dDrop, dOp, dV, dC, dUn, dTest, dAnd, dOr, dNot, dAndV, dOrV, dNotV, dIf, dCB, dCons, dNil, dTup, dLst, dCallP, dAsg, qName, qCons, qNil, qTup, dPar, dAug, dMth, dM1, dSl, dPart, dNoPart, dYes, startR, List.map_cons, List.map_nil, List.length_cons, List.length_nil, List.replicate, List.cons_append, List.nil_append, List.append_nil, List.getElem?_cons_zero, List.getElem?_cons_succ, List.set_cons_zero, List.set_cons_succ, List.set_nil, dAdd, dSub, dMul, dMod, dFdv, dPow, dShl, dShr, dBit, dLt, dCmp, dNeg, Nat.reduceAdd, Nat.reduceSub, Nat.zero_add, rd_len_scr, rd_len_lst, rd_len_tup, rd_len_str, rd_eq_int, rd_eq_str, rd_eq_bl, rd_eq_nn, rd_eq_ns, rd_eq_sn, rd_eq_ni, rd_eq_in, rd_eq_nt, rd_eq_tn, rd_eq_pair, rd_is_non, rd_is_bl, rd_str_int, rd_int_int, rd_int_bl, rd_ix0, rd_ix1, rd_lix0, rd_lix1, rd_list_lst, rd_list_tup, rd_listM_lst, rd_tuple_lst, DL.isNon, wipeR, if_true, if_false, Bool.false_eq_true, Bool.not_true, Bool.not_false, reduceIte]
        rw [List.length_nil] at ha
        exact retP_lst updM_same (h ups (by omega) (by omega) hu)
      · rintro x xs ρ M ⟨a, ups, s, ha, hxs, hul, hu, rfl, rfl⟩ nx hnx
        rw [List.length_cons] at ha hxs
        rw [List.range'_succ, List.map_cons] at hxs
        obtain ⟨hx1, hxs2⟩ := List.cons.inj hxs
        subst hx1
        simp only [dSeq, dNext, dRet, dRetN, dIfS, dDrop, dOp, dV, dC, dUn, dTest, dAnd, dOr, dNot, dAndV, dOrV, dNotV, dIf, dCB, dCons, dNil, dTup, dLst, dCallP, dAsg, qName, qCons, qNil, qTup, dPar, dAug, dMth, dM1, dSl, dPart, dNoPart, dYes, startR, List.map_cons, List.map_nil, List.length_cons, List.length_nil, List.replicate, List.cons_append, List.nil_append, List.append_nil, List.getElem?_cons_zero, List.getElem?_cons_succ, List.set_cons_zero, List.set_cons_succ, List.set_nil, dAdd, dSub, dMul, dMod, dFdv, dPow, dShl, dShr, dBit, dLt, dCmp, dNeg, Nat.reduceAdd, Nat.reduceSub, Nat.zero_add, rd_len_scr, rd_len_lst, rd_len_tup, rd_len_str, rd_eq_int, rd_eq_str, rd_eq_bl, rd_eq_nn, rd_eq_ns, rd_eq_sn, rd_eq_ni, rd_eq_in, rd_eq_nt, rd_eq_tn, rd_eq_pair, rd_is_non, rd_is_bl, rd_str_int, rd_int_int, rd_int_bl, rd_ix0, rd_ix1, rd_lix0, rd_lix1, rd_list_lst, rd_list_tup, rd_listM_lst, rd_tuple_lst, DL.isNon, wipeR, if_true, if_false, Bool.false_eq_true, Bool.not_true, Bool.not_false, reduceIte]
        refine ⟨isL_ref updM_same, mulOk (a := 2) (b := 8) (by decide) (by omega), ?_⟩
        have e2 : 2 * (((a + 1 : Nat)) : Int) = ((2 * (a + 1) : Nat) : Int) := by omega
        rw [e2]
        refine ⟨ns, 2 * (a + 1), rfl, by omega, hn, cellN ns (2 * (a + 1)), 1009, rfl, cellN_lt _ _, by decide, ?_⟩
        refine ⟨by show (0 : Int) < ((a + 1 : Nat) : Int); omega, ?_⟩
        rw [mod_i]
        refine append_of updM_same (by rw [List.length_map]; omega) ?_
        rw [updM_updM]
        have hlt := Nat.mod_lt (mixN (cellN ns (2 * (a + 1))) 1009) (show 0 < a + 1 by omega)
        refine hnx _ _ ⟨a + 1, ups ++ [mixN (cellN ns (2 * (a + 1))) 1009 % (a + 1)], _, by omega, hxs2, by rw [List.length_append, hul]; rfl, fun j u hj hu2 => ?_, rfl, by rw [List.map_append]; rfl⟩
        by_cases hja : j < ups.length
        · rw [List.getElem?_append_left hja] at hu2
          exact hu j u hj hu2
        · rw [List.getElem?_append_right (by omega)] at hu2
          have h0 : j - ups.length = 0 := by
            cases e : j - ups.length with
            | zero => rfl
            | succ n => rw [e] at hu2; cases hu2
          rw [h0] at hu2
          cases hu2
          omega
      · refine ⟨0, [0], _, by rw [List.length_map, List.length_range]; omega, ?_, rfl, fun j u hj hu => ?_, rfl, rfl⟩
        · rw [List.length_map, List.length_range, List.range_eq_range']
        · cases j with
          | zero => omega
          | succ j => cases hu
theorem ok_lenis {f : Addr} {fd : FuncData} (F : FunX K "_law_length_is" "_law_length_is" S__law_length_is f fd) (T : TxtF K mg CN CT CJ CR)
    (G__law_whole : FnG P w K mg base 1 "_law_whole" 0 [] (fsP pWhole)) : FnOk P w K mg base (L2.CX P w) 2 f fd ["_law_found", "_law_due"] (toSp K (fsP pLenIs)) := by
  refine okP F sc__law_length_is (fun ds q ex h => ?_) (fun cdv A outer s H E ds hr hx => ?_)
  · obtain ⟨i, rfl, _⟩ := h
    rfl
  · refine ⟨_, (dss_cons (ds_if (dt_cmp o_is (s_is false) (dv 1) d_non (nomark _))
      (dss_one (ds_ret (d_cmp o_is (s_is false) (dv 0) d_non (nomark _))))
      dss_nil)
      (dss_cons (ds_ifE (dt_w (dw_or (dt_not (dt_val (d_callB call_isi s_isi rfl T.b_isinstance boot_isinstance (da_cons (dv 0) (da_cons (d_ty T.b_tuple boot_tuple) da_nil))))) (dw_or1 (dt_cmp (o_ne hr.units) (s_eq true) (d_callB c_len s_len rfl T.b_len PySem.boot_len (da_cons (dv 0) da_nil)) d_int (nomark _)))))
      (dss_one (ds_ret d_bl))
      dss_nil)
      (dss_one (ds_ret (d_and (d_callP G__law_whole (hr.mono (by decide)) hx (da_cons (d_ix ix_any s_ix (dv 0) d_int) da_nil)) (d_and (d_callP G__law_whole (hr.mono (by decide)) hx (da_cons (d_ix ix_any s_ix (dv 0) d_int) da_nil)) (d_one (d_cmp (o_eq hr.units) (s_eq false) (dv 0) (dv 1) (nomark _))))))))), fun q ex h => ?_⟩
    obtain ⟨ln, rfl, h⟩ := h
    cases ln with
    | none =>
      simp only [dSeq, dNext, dRet, dRetN, dIfS, dDrop, dOp, dV, dC, dUn, dTest, dAnd, dOr, dNot, dAndV, dOrV, dNotV, dIf, dCB, dCons, dNil, dTup, dLst, dCallP, dAsg, qName, qCons, qNil, qTup, dPar, dAug, dMth, dM1, dSl, dPart, dNoPart, dYes, startR, List.map_cons, List.map_nil, List.length_cons, List.length_nil, List.replicate, List.cons_append, List.nil_append, List.append_nil, List.getElem?_cons_zero, List.getElem?_cons_succ, List.set_cons_zero, List.set_cons_succ, List.set_nil, dAdd, dSub, dMul, dMod, dFdv, dPow, dShl, dShr, dBit, dLt, dCmp, dNeg, Nat.reduceAdd, Nat.reduceSub, Nat.zero_add, rd_len_scr, rd_len_lst, rd_len_tup, rd_len_str, rd_eq_int, rd_eq_str, rd_eq_bl, rd_eq_nn, rd_eq_ns, rd_eq_sn, rd_eq_ni, rd_eq_in, rd_eq_nt, rd_eq_tn, rd_eq_pair, rd_is_non, rd_is_bl, rd_str_int, rd_int_int, rd_int_bl, rd_ix0, rd_ix1, rd_lix0, rd_lix1, rd_list_lst, rd_list_tup, rd_listM_lst, rd_tuple_lst, DL.isNon, wipeR, if_true, if_false, Bool.false_eq_true, Bool.not_true, Bool.not_false, reduceIte, lnD]
      exact retP_same h
    | some p =>
      simp only [dSeq, dNext, dRet, dRetN, dIfS, dDrop, dOp, dV, dC, dUn, dTest, dAnd, dOr, dNot, dAndV, dOrV, dNotV, dIf, dCB, dCons, dNil, dTup, dLst, dCallP, dAsg, qName, qCons, qNil, qTup, dPar, dAug, dMth, dM1, dSl, dPart, dNoPart, dYes, startR, List.map_cons, List.map_nil, List.length_cons, List.length_nil, List.replicate, List.cons_append, List.nil_append, List.append_nil, List.getElem?_cons_zero, List.getElem?_cons_succ, List.set_cons_zero, List.set_cons_succ, List.set_nil, dAdd, dSub, dMul, dMod, dFdv, dPow, dShl, dShr, dBit, dLt, dCmp, dNeg, Nat.reduceAdd, Nat.reduceSub, Nat.zero_add, rd_len_scr, rd_len_lst, rd_len_tup, rd_len_str, rd_eq_int, rd_eq_str, rd_eq_bl, rd_eq_nn, rd_eq_ns, rd_eq_sn, rd_eq_ni, rd_eq_in, rd_eq_nt, rd_eq_tn, rd_eq_pair, rd_is_non, rd_is_bl, rd_str_int, rd_int_int, rd_int_bl, rd_ix0, rd_ix1, rd_lix0, rd_lix1, rd_list_lst, rd_list_tup, rd_listM_lst, rd_tuple_lst, DL.isNon, wipeR, if_true, if_false, Bool.false_eq_true, Bool.not_true, Bool.not_false, reduceIte, lnD]
      refine ifE_of false ?_ ?_
      · simp only [dSeq, dNext, dRet, dRetN, dIfS, dDrop, dOp, dV, dC, dUn, dTest, dAnd, dOr, dNot, dAndV, dOrV, dNotV, dIf, dCB, dCons, dNil, dTup, dLst, dCallP, dAsg, qName, qCons, qNil, qTup, dPar, dAug, dMth, dM1, dSl, dPart, dNoPart, dYes, startR, List.map_cons, List.map_nil, List.length_cons, List.length_nil, List.replicate, List.cons_append, List.nil_append, List.append_nil, List.getElem?_cons_zero, List.getElem?_cons_succ, List.set_cons_zero, List.set_cons_succ, List.set_nil, dAdd, dSub, dMul, dMod, dFdv, dPow, dShl, dShr, dBit, dLt, dCmp, dNeg, Nat.reduceAdd, Nat.reduceSub, Nat.zero_add, rd_len_scr, rd_len_lst, rd_len_tup, rd_len_str, rd_eq_int, rd_eq_str, rd_eq_bl, rd_eq_nn, rd_eq_ns, rd_eq_sn, rd_eq_ni, rd_eq_in, rd_eq_nt, rd_eq_tn, rd_eq_pair, rd_is_non, rd_is_bl, rd_str_int, rd_int_int, rd_int_bl, rd_ix0, rd_ix1, rd_lix0, rd_lix1, rd_list_lst, rd_list_tup, rd_listM_lst, rd_tuple_lst, DL.isNon, wipeR, if_true, if_false, Bool.false_eq_true, Bool.not_true, Bool.not_false, reduceIte]
        refine isi_of (t := .type "tuple") rfl rfl trivial (kit_ty (r := true) (by decide +kernel)) ?_
        exact ⟨rfl, rfl⟩
      refine ite_f Bool.false_ne_true ?_
      simp only [dSeq, dNext, dRet, dRetN, dIfS, dDrop, dOp, dV, dC, dUn, dTest, dAnd, dOr, dNot, dAndV, dOrV, dNotV, dIf, dCB, dCons, dNil, dTup, dLst, dCallP, dAsg, qName, qCons, qNil, qTup, dPar, dAug, dMth, dM1, dSl, dPart, dNoPart, dYes, startR, List.map_cons, List.map_nil, List.length_cons, List.length_nil, List.replicate, List.cons_append, List.nil_append, List.append_nil, List.getElem?_cons_zero, List.getElem?_cons_succ, List.set_cons_zero, List.set_cons_succ, List.set_nil, dAdd, dSub, dMul, dMod, dFdv, dPow, dShl, dShr, dBit, dLt, dCmp, dNeg, Nat.reduceAdd, Nat.reduceSub, Nat.zero_add, rd_len_scr, rd_len_lst, rd_len_tup, rd_len_str, rd_eq_int, rd_eq_str, rd_eq_bl, rd_eq_nn, rd_eq_ns, rd_eq_sn, rd_eq_ni, rd_eq_in, rd_eq_nt, rd_eq_tn, rd_eq_pair, rd_is_non, rd_is_bl, rd_str_int, rd_int_int, rd_int_bl, rd_ix0, rd_ix1, rd_lix0, rd_lix1, rd_list_lst, rd_list_tup, rd_listM_lst, rd_tuple_lst, DL.isNon, wipeR, if_true, if_false, Bool.false_eq_true, Bool.not_true, Bool.not_false, reduceIte]
      refine ⟨_, rfl, _, rfl, ?_⟩
      rw [beq_self_eq_true, beq_self_eq_true]
      exact retP_same h
end
end LM
namespace LM
open PySem L2 DL PySem.Spec PyProof.Rows
abbrev S__law_nodes_are : Stmt := topS 37
theorem sc__law_nodes_are : FnScope ["_law_node", "_law_kids", "_law_names_here", "_law_lengths", "_law_todo", "_law_found", "_law_k", "_law_j"] ["_law_node", "_law_kids", "_law_names_here", "_law_lengths"] (defScope S__law_nodes_are) := ⟨rfl, rfl, rfl, by decide +kernel, rfl, by decide +kernel, by decide +kernel⟩

-- _law_node 0, _law_kids 1, _law_names_here 2, _law_lengths 3, _law_todo 4, _law_found 5, _law_k 6, _law_j 7
def pNodesAre (CT CJ : Addr) : Ps := fun ds q _ => ∃ (m : Nat) (kd : Nat → List Nat) (Gt : Nat → T) (nms : Nat → Option Str) (lns : Nat → Option (Nat × Nat)),
  ds = [toD CT CJ (Gt 0), .lst ((List.range m).map fun k => .lst ((kd k).map fun j => .int (j : Nat))), .lst ((List.range m).map fun k => nmD (nms k)), .lst ((List.range m).map fun k => lnD (lns k))] ∧
  0 < m ∧ (∀ k, k < m → Gt k = .nd ((kd k).map Gt) (nms k) (lns k)) ∧ (∀ k, k < m → ∀ j, j ∈ kd k → j < m) ∧ cnt (Gt 0) ≤ 1000 ∧ q (.bl true)
def cntL (Gt : Nat → T) (ks : List Nat) : Nat := (ks.map fun k => cnt (Gt k)).sum
theorem cntL_map (Gt : Nat → T) : ∀ ks : List Nat, cntL Gt ks = cnts (ks.map Gt)
  | [] => by rw [List.map_nil, cnts]; rfl
  | k :: ks => by
    have := cntL_map Gt ks
    rw [List.map_cons, cnts, ← this]
    rfl
theorem cntL_app (Gt : Nat → T) (a b : List Nat) : cntL Gt (a ++ b) = cntL Gt a + cntL Gt b := by
  unfold cntL
  rw [List.map_append, List.sum_append]
theorem len_cntL (Gt : Nat → T) : ∀ ks : List Nat, ks.length ≤ cntL Gt ks
  | [] => Nat.zero_le _
  | k :: ks => by
    have h1 := len_cntL Gt ks
    have h2 := cnt_pos (Gt k)
    show ks.length + 1 ≤ cnt (Gt k) + cntL Gt ks
    omega
theorem eq_nmD {nm : Option Str} {M : MS} {Q : QX} (q : Q (.bl false) M) : dEq true (nmD nm) (nmD nm) M Q := by
  cases nm with
  | none => exact q
  | some z =>
    show Q (.bl (!(z == z))) M
    rw [beq_self_eq_true]
    exact q
theorem ix_range {m : Nat} {f : Nat → D} {k : Nat} {M : MS} {Q : QX} (hk : k < m) (q : Q (f k) M) : dIx (.lst ((List.range m).map f)) (.int (k : Nat)) M Q := by
  refine ix_lst (by omega) (d := f k) ?_ q
  rw [Int.toNat_natCast, List.getElem?_map, List.getElem?_range hk]
  rfl
theorem ix_map {α : Type} {xs : List α} {f : α → D} {k : Nat} {x : α} {M : MS} {Q : QX} (hk : xs[k]? = some x) (q : Q (f x) M) : dIx (.lst (xs.map f)) (.int (k : Nat)) M Q := by
  refine ix_lst (by omega) (d := f x) ?_ q
  rw [Int.toNat_natCast, List.getElem?_map, hk]
  rfl
theorem eq_l0 {neg : Bool} {xs : List D} {M : MS} {Q : QX} (q : Q (.bl (if neg then !xs.isEmpty else xs.isEmpty)) M) : dEq neg (.lst xs) (.lst []) M Q := by
  cases xs with
  | nil => exact q
  | cons x xs =>
    have e : eqD 8 (.lst (x :: xs)) (.lst []) = some false := by
      show (if (x :: xs).length = ([] : List D).length then eqAll (eqD 7) (x :: xs) [] else some false) = some false
      rw [if_neg (by simp)]
    rw [rd_eq e]
    exact q
theorem map_getD {β : Type} (l : List Nat) (f : Nat → β) : (List.range l.length).map (fun i => f (l.getD i 0)) = l.map f := by
  refine List.ext_getElem? fun i => ?_
  rw [List.getElem?_map, List.getElem?_map]
  by_cases h : i < l.length
  · rw [List.getElem?_range h, List.getElem?_eq_getElem h]
    show some (f (l.getD i 0)) = some (f l[i])
    rw [List.getD_eq_getElem?_getD, List.getElem?_eq_getElem h]
    rfl
  · rw [List.getElem?_eq_none (by rw [List.length_range]; omega), List.getElem?_eq_none (by omega)]
    rfl
section
variable {P : Program} {w : World} {K : PySem.W.Frag} {mg : Str → Option Value} {base : Heap} {CN CT CJ CR : Addr}
theorem ok_nodesare {f : Addr} {fd : FuncData} (F : FunX K "_law_nodes_are" "_law_nodes_are" S__law_nodes_are f fd) (T : TxtF K mg CN CT CJ CR)
    (G__law_length_is : FnG P w K mg base 2 "_law_length_is" 0 [] (fsP pLenIs)) : FnOk P w K mg base (L2.CX P w) 3 f fd ["_law_node", "_law_kids", "_law_names_here", "_law_lengths"] (toSp K (fsP (pNodesAre CT CJ))) := by
  refine okP F sc__law_nodes_are (fun ds q ex h => ?_) (fun cdv A outer s H E ds hr hx => ?_)
  · obtain ⟨m, kd, Gt, nms, lns, rfl, _⟩ := h
    rfl
  · refine ⟨_, (dss_cons (ds_set (i := 4) sc__law_nodes_are.nd rfl (Or.inl rfl) (d_lstM (da_cons (d_tup (da_cons (dv 0) (da_cons d_int da_nil))) da_nil)))
      (dss_cons (ds_while (passes_of rfl) (dt_cmp (o_ne hr.units) (s_eq true) (dv 4) (d_lst da_nil) (nomark _))
      (dss_cons (ds_asg (d_bm0 (isT := isL) PySem.F.plainAttrs_list PySem.F.slot_list_pop PySem.F.type_list_pop mt_pop s_pop (fun w v x => tyV_L) (dv 4)) (dg_tup rfl (dgs_cons (dg_name (i := 5) sc__law_nodes_are.nd rfl (Or.inr rfl)) (dgs_cons (dg_name (i := 6) sc__law_nodes_are.nd rfl (Or.inr rfl)) dgs_nil))))
        (dss_cons (ds_ifE (dt_w (dw_or (dt_cmp (o_ne hr.units) (s_eq true) (d_fldK (K := K) (dv 5)) (d_ix ix_any s_ix (dv 2) (dv 6)) (nomark _)) (dw_or1 (dt_not (dt_val (d_callP G__law_length_is (hr.mono (by decide)) hx (da_cons (d_fldK (K := K) (dv 5)) (da_cons (d_ix ix_any s_ix (dv 3) (dv 6)) da_nil))))))))
        (dss_one (ds_ret d_bl))
        dss_nil)
        (dss_one (ds_if (dt_cmp (o_eq hr.units) (s_eq false) (d_ix ix_any s_ix (dv 1) (dv 6)) (d_lst da_nil) (nomark _))
        (dss_one (ds_ifE (dt_w (dw_or (dt_not (dt_val (d_callB call_isi s_isi rfl T.b_isinstance boot_isinstance (da_cons (dv 5) (da_cons (d_cls T.m_Tip) da_nil))))) (dw_or1 (dt_val (d_callB call_isi s_isi rfl T.b_isinstance boot_isinstance (da_cons (dv 5) (da_cons (d_cls T.m_Join) da_nil)))))))
          (dss_one (ds_ret d_bl))
          dss_nil))
        (dss_cons (ds_ifE (dt_w (dw_or (dt_not (dt_val (d_callB call_isi s_isi rfl T.b_isinstance boot_isinstance (da_cons (dv 5) (da_cons (d_cls T.m_Join) da_nil))))) (dw_or1 (dt_val (d_callB call_isi s_isi rfl T.b_isinstance boot_isinstance (da_cons (dv 5) (da_cons (d_cls T.m_Tip) da_nil)))))))
          (dss_one (ds_ret d_bl))
          dss_nil)
          (dss_cons (ds_ifE (dt_w (dw_or (dt_not (dt_val (d_callB call_isi s_isi rfl T.b_isinstance boot_isinstance (da_cons (d_fldK (K := K) (dv 5)) (da_cons (d_ty T.b_list boot_list) da_nil))))) (dw_or1 (dt_cmp (o_ne hr.units) (s_eq true) (d_callB c_len s_len rfl T.b_len PySem.boot_len (da_cons (d_fldK (K := K) (dv 5)) da_nil)) (d_callB c_len s_len rfl T.b_len PySem.boot_len (da_cons (d_ix ix_any s_ix (dv 1) (dv 6)) da_nil)) (nomark _)))))
          (dss_one (ds_ret d_bl))
          dss_nil)
          (dss_one (ds_set (i := 4) sc__law_nodes_are.nd rfl (Or.inl rfl) (d_op o_add s_addM (dv 4) (d_lc (own := [("_law_j", 7)]) rfl sc__law_nodes_are.nd (di_range1 rfl T.b_range (da_cons (d_callB c_len s_len rfl T.b_len PySem.boot_len (da_cons (d_ix ix_any s_ix (dv 1) (dv 6)) da_nil)) da_nil)) (blkOk_by (own := [("_law_j", 7)]) (N := ["_law_node", "_law_kids", "_law_names_here", "_law_lengths", "_law_todo", "_law_found", "_law_k", "_law_j"]) (sc := defScope S__law_nodes_are) (by decide +kernel)) (fun _ _ _ _ _ => gw_name (i := 7) sc__law_nodes_are.nd rfl (Or.inl rfl) (by decide)) (ts_nil (K := K)) (fun _ _ _ _ _ => (d_tup (da_cons (d_ix ix_any s_ix (d_fldK (K := K) (dv 5)) (dv 7)) (da_cons (d_ix ix_any s_ix (d_ix ix_any s_ix (dv 1) (dv 6)) (dv 7)) da_nil)))))))))))))))
      (dss_one (ds_ret d_bl)))), fun q ex h => ?_⟩
    obtain ⟨m, kd, Gt, nms, lns, rfl, hm, hG, hkd, hcn, h⟩ := h
    simp only [dSeq, dNext, dRet, dRetN, dIfS, dDrop, dOp, dV, dC, dUn, dTest, dAnd, dOr, dNot, dAndV, dOrV, dNotV, dIf, dCB, dCons, dNil, dTup, dLst, dCallP, dAsg, qName, qCons, qNil, qTup, dPar, dAug, dMth, dM1, dSl, dPart, dNoPart, dYes, startR, List.map_cons, List.map_nil, List.length_cons, List.length_nil, List.replicate, List.cons_append, List.nil_append, List.append_nil, List.getElem?_cons_zero, List.getElem?_cons_succ, List.set_cons_zero, List.set_cons_succ, List.set_nil, dAdd, dSub, dMul, dMod, dFdv, dPow, dShl, dShr, dBit, dLt, dCmp, dNeg, Nat.reduceAdd, Nat.reduceSub, Nat.zero_add, rd_len_scr, rd_len_lst, rd_len_tup, rd_len_str, rd_eq_int, rd_eq_str, rd_eq_bl, rd_eq_nn, rd_eq_ns, rd_eq_sn, rd_eq_ni, rd_eq_in, rd_eq_nt, rd_eq_tn, rd_eq_pair, rd_is_non, rd_is_bl, rd_str_int, rd_int_int, rd_int_bl, rd_ix0, rd_ix1, rd_lix0, rd_lix1, rd_list_lst, rd_list_tup, rd_listM_lst, rd_tuple_lst, DL.isNon, wipeR, if_true, if_false, Bool.false_eq_true, Bool.not_true, Bool.not_false, reduceIte, dLstM]
    refine ⟨by rw [sizeLine_eq]; decide, by rw [sizeLine_eq]; decide, fun l hl => ?_⟩
    refine while_ind (fun n ρ M => ∃ (l : Addr) (ks : List Nat) (x5 x6 x7 : Option D), n = cntL Gt ks ∧ cntL Gt ks ≤ 1000 ∧ (∀ k, k ∈ ks → k < m) ∧ M l = some (.lst (ks.map fun k => .tup [toD CT CJ (Gt k), .int (k : Nat)])) ∧
      ρ = [some (toD CT CJ (Gt 0)), some (.lst ((List.range m).map fun k => .lst ((kd k).map fun j => .int (j : Nat)))), some (.lst ((List.range m).map fun k => nmD (nms k))), some (.lst ((List.range m).map fun k => lnD (lns k))), some (.ref l), x5, x6, x7])
      (m := cntL Gt [0]) ⟨l, [0], none, none, none, rfl, by show cnt (Gt 0) + 0 ≤ 1000; omega, fun k hk => by rw [List.mem_singleton.mp hk]; exact hm, updM_same, rfl⟩ ?_
    rintro n ρ M ⟨l, ks, x5, x6, x7, rfl, hb, hks, hM, rfl⟩ nx hnx
    simp only [dSeq, dNext, dRet, dRetN, dIfS, dDrop, dOp, dV, dC, dUn, dTest, dAnd, dOr, dNot, dAndV, dOrV, dNotV, dIf, dCB, dCons, dNil, dTup, dLst, dCallP, dAsg, qName, qCons, qNil, qTup, dPar, dAug, dMth, dM1, dSl, dPart, dNoPart, dYes, startR, List.map_cons, List.map_nil, List.length_cons, List.length_nil, List.replicate, List.cons_append, List.nil_append, List.append_nil, List.getElem?_cons_zero, List.getElem?_cons_succ, List.set_cons_zero, List.set_cons_succ, List.set_nil, dAdd, dSub, dMul, dMod, dFdv, dPow, dShl, dShr, dBit, dLt, dCmp, dNeg, Nat.reduceAdd, Nat.reduceSub, Nat.zero_add, rd_len_scr, rd_len_lst, rd_len_tup, rd_len_str, rd_eq_int, rd_eq_str, rd_eq_bl, rd_eq_nn, rd_eq_ns, rd_eq_sn, rd_eq_ni, rd_eq_in, rd_eq_nt, rd_eq_tn, rd_eq_pair, rd_is_non, rd_is_bl, rd_str_int, rd_int_int, rd_int_bl, rd_ix0, rd_ix1, rd_lix0, rd_lix1, rd_list_lst, rd_list_tup, rd_listM_lst, rd_tuple_lst, DL.isNon, wipeR, if_true, if_false, Bool.false_eq_true, Bool.not_true, Bool.not_false, reduceIte]
    refine ⟨Nat.zero_le _, eq_ref0 hM ?_⟩
    rcases List.eq_nil_or_concat ks with rfl | ⟨ks', k, rfl⟩
    · exact ite_f Bool.false_ne_true (retP_same h)
    · refine ite_t (by simp) ?_
      have hkm := hks k (by simp)
      rw [List.concat_eq_append, List.map_append] at hM
      refine ⟨isL_ref hM, pop_of hM ⟨rfl, ?_⟩⟩
      rw [List.concat_eq_append] at hb hnx
      rw [cntL_app] at hb hnx
      have hck : cntL Gt [k] = cnt (Gt k) := Nat.add_zero _
      have hGk := hG k hkm
      have hcnt : cnt (Gt k) = cntL Gt (kd k) + 1 := by rw [hGk, cnt, cntL_map]
      have hkl := len_cntL Gt (kd k)
      have hkl2 := len_cntL Gt ks'
      rw [hck] at hb hnx
      generalize hMM : updM M l (.lst (ks'.map fun k => .tup [toD CT CJ (Gt k), .int (k : Nat)])) = M2
      have hM2 : M2 l = some (.lst (ks'.map fun k => .tup [toD CT CJ (Gt k), .int (k : Nat)])) := by rw [← hMM]; exact updM_same
      have key : ∃ CX ns es, insOf M2 (toD CT CJ (Gt k)) = some (CX, ns, es) ∧ lkD "name" ns es = some (nmD (nms k)) ∧ lkD "length" ns es = some (lnD (lns k)) ∧ Cls K CX ∧ NoAttr K CX "name" ∧ NoAttr K CX "length" ∧ tyD M2 (toD CT CJ (Gt k)) = some (.ref CX) ∧
          ((kd k = [] ∧ CX = CT) ∨ (kd k ≠ [] ∧ CX = CJ ∧ lkD "kids" ns es = some (.lst ((kd k).map fun j => toD CT CJ (Gt j))))) := by
        cases hk : kd k with
        | nil =>
          rw [hk, List.map_nil] at hGk
          rw [hGk, toD]
          exact ⟨CT, _, _, rfl, rfl, rfl, T.cT, T.nT, T.lT, rfl, .inl ⟨rfl, rfl⟩⟩
        | cons a b =>
          rw [hk, List.map_cons] at hGk
          have e : toD CT CJ (Gt k) = .obj CJ ["name", "length", "kids"] [nmD (nms k), lnD (lns k), .lst ((a :: b).map fun j => toD CT CJ (Gt j))] := by
            rw [hGk, toD, toDs_map, List.map_map, List.map_cons]
            rfl
          rw [e]
          exact ⟨CJ, _, _, rfl, rfl, rfl, T.cJ, T.nJ, T.lJ, rfl, .inr ⟨by simp, rfl, rfl⟩⟩
      obtain ⟨CX, ns, es, k1, k2, k3, k4, k5, k6, k7, k8⟩ := key
      refine ⟨rfl, ?_⟩
      refine ifE_of false ?_ ?_
      · simp only [dSeq, dNext, dRet, dRetN, dIfS, dDrop, dOp, dV, dC, dUn, dTest, dAnd, dOr, dNot, dAndV, dOrV, dNotV, dIf, dCB, dCons, dNil, dTup, dLst, dCallP, dAsg, qName, qCons, qNil, qTup, dPar, dAug, dMth, dM1, dSl, dPart, dNoPart, dYes, startR, List.map_cons, List.map_nil, List.length_cons, List.length_nil, List.replicate, List.cons_append, List.nil_append, List.append_nil, List.getElem?_cons_zero, List.getElem?_cons_succ, List.set_cons_zero, List.set_cons_succ, List.set_nil, dAdd, dSub, dMul, dMod, dFdv, dPow, dShl, dShr, dBit, dLt, dCmp, dNeg, Nat.reduceAdd, Nat.reduceSub, Nat.zero_add, rd_len_scr, rd_len_lst, rd_len_tup, rd_len_str, rd_eq_int, rd_eq_str, rd_eq_bl, rd_eq_nn, rd_eq_ns, rd_eq_sn, rd_eq_ni, rd_eq_in, rd_eq_nt, rd_eq_tn, rd_eq_pair, rd_is_non, rd_is_bl, rd_str_int, rd_int_int, rd_int_bl, rd_ix0, rd_ix1, rd_lix0, rd_lix1, rd_list_lst, rd_list_tup, rd_listM_lst, rd_tuple_lst, DL.isNon, wipeR, if_true, if_false, Bool.false_eq_true, Bool.not_true, Bool.not_false, reduceIte]
        refine fld_V rfl k1 k2 k4 k5 (ix_range hkm (eq_nmD ?_))
        refine ite_f Bool.false_ne_true ?_
        refine fld_V rfl k1 k3 k4 k6 (ix_range hkm ⟨lns k, rfl, ?_⟩)
        exact ⟨rfl, rfl⟩
      refine ite_f Bool.false_ne_true ?_
      simp only [dSeq, dNext, dRet, dRetN, dIfS, dDrop, dOp, dV, dC, dUn, dTest, dAnd, dOr, dNot, dAndV, dOrV, dNotV, dIf, dCB, dCons, dNil, dTup, dLst, dCallP, dAsg, qName, qCons, qNil, qTup, dPar, dAug, dMth, dM1, dSl, dPart, dNoPart, dYes, startR, List.map_cons, List.map_nil, List.length_cons, List.length_nil, List.replicate, List.cons_append, List.nil_append, List.append_nil, List.getElem?_cons_zero, List.getElem?_cons_succ, List.set_cons_zero, List.set_cons_succ, List.set_nil, dAdd, dSub, dMul, dMod, dFdv, dPow, dShl, dShr, dBit, dLt, dCmp, dNeg, Nat.reduceAdd, Nat.reduceSub, Nat.zero_add, rd_len_scr, rd_len_lst, rd_len_tup, rd_len_str, rd_eq_int, rd_eq_str, rd_eq_bl, rd_eq_nn, rd_eq_ns, rd_eq_sn, rd_eq_ni, rd_eq_in, rd_eq_nt, rd_eq_tn, rd_eq_pair, rd_is_non, rd_is_bl, rd_str_int, rd_int_int, rd_int_bl, rd_ix0, rd_ix1, rd_lix0, rd_lix1, rd_list_lst, rd_list_tup, rd_listM_lst, rd_tuple_lst, DL.isNon, wipeR, if_true, if_false, Bool.false_eq_true, Bool.not_true, Bool.not_false, reduceIte]
      refine ix_range hkm ⟨Nat.zero_le _, eq_l0 ?_⟩
      rcases k8 with ⟨e0, e1⟩ | ⟨e0, e1, k9⟩
      · have e1' := e1.symm
        subst e1'
        rw [e0]
        refine ite_t rfl ?_
        refine ifE_of false ?_ ?_
        · simp only [dSeq, dNext, dRet, dRetN, dIfS, dDrop, dOp, dV, dC, dUn, dTest, dAnd, dOr, dNot, dAndV, dOrV, dNotV, dIf, dCB, dCons, dNil, dTup, dLst, dCallP, dAsg, qName, qCons, qNil, qTup, dPar, dAug, dMth, dM1, dSl, dPart, dNoPart, dYes, startR, List.map_cons, List.map_nil, List.length_cons, List.length_nil, List.replicate, List.cons_append, List.nil_append, List.append_nil, List.getElem?_cons_zero, List.getElem?_cons_succ, List.set_cons_zero, List.set_cons_succ, List.set_nil, dAdd, dSub, dMul, dMod, dFdv, dPow, dShl, dShr, dBit, dLt, dCmp, dNeg, Nat.reduceAdd, Nat.reduceSub, Nat.zero_add, rd_len_scr, rd_len_lst, rd_len_tup, rd_len_str, rd_eq_int, rd_eq_str, rd_eq_bl, rd_eq_nn, rd_eq_ns, rd_eq_sn, rd_eq_ni, rd_eq_in, rd_eq_nt, rd_eq_tn, rd_eq_pair, rd_is_non, rd_is_bl, rd_str_int, rd_int_int, rd_int_bl, rd_ix0, rd_ix1, rd_lix0, rd_lix1, rd_list_lst, rd_list_tup, rd_listM_lst, rd_tuple_lst, DL.isNon, wipeR, if_true, if_false, Bool.false_eq_true, Bool.not_true, Bool.not_false, reduceIte]
          refine isi_of k7 rfl T.iT T.qTT ?_
          refine ite_f Bool.false_ne_true ?_
          refine isi_of k7 rfl T.iT T.qTJ ?_
          exact ⟨rfl, rfl⟩
        refine ite_f Bool.false_ne_true ?_
        exact hnx (cntL Gt ks') _ _ (by omega) ⟨l, ks', _, _, _, rfl, by omega, fun k' hk' => hks k' (by simp [hk']), hM2, rfl⟩
      · have e1' := e1.symm
        subst e1'
        refine ite_f (by cases hk : kd k with | nil => exact absurd hk e0 | cons a b => exact Bool.false_ne_true) ?_
        refine ifE_of false ?_ ?_
        · simp only [dSeq, dNext, dRet, dRetN, dIfS, dDrop, dOp, dV, dC, dUn, dTest, dAnd, dOr, dNot, dAndV, dOrV, dNotV, dIf, dCB, dCons, dNil, dTup, dLst, dCallP, dAsg, qName, qCons, qNil, qTup, dPar, dAug, dMth, dM1, dSl, dPart, dNoPart, dYes, startR, List.map_cons, List.map_nil, List.length_cons, List.length_nil, List.replicate, List.cons_append, List.nil_append, List.append_nil, List.getElem?_cons_zero, List.getElem?_cons_succ, List.set_cons_zero, List.set_cons_succ, List.set_nil, dAdd, dSub, dMul, dMod, dFdv, dPow, dShl, dShr, dBit, dLt, dCmp, dNeg, Nat.reduceAdd, Nat.reduceSub, Nat.zero_add, rd_len_scr, rd_len_lst, rd_len_tup, rd_len_str, rd_eq_int, rd_eq_str, rd_eq_bl, rd_eq_nn, rd_eq_ns, rd_eq_sn, rd_eq_ni, rd_eq_in, rd_eq_nt, rd_eq_tn, rd_eq_pair, rd_is_non, rd_is_bl, rd_str_int, rd_int_int, rd_int_bl, rd_ix0, rd_ix1, rd_lix0, rd_lix1, rd_list_lst, rd_list_tup, rd_listM_lst, rd_tuple_lst, DL.isNon, wipeR, if_true, if_false, Bool.false_eq_true, Bool.not_true, Bool.not_false, reduceIte]
          refine isi_of k7 rfl T.iJ T.qJJ ?_
          refine ite_f Bool.false_ne_true ?_
          refine isi_of k7 rfl T.iJ T.qJT ?_
          exact ⟨rfl, rfl⟩
        refine ite_f Bool.false_ne_true ?_
        simp only [dSeq, dNext, dRet, dRetN, dIfS, dDrop, dOp, dV, dC, dUn, dTest, dAnd, dOr, dNot, dAndV, dOrV, dNotV, dIf, dCB, dCons, dNil, dTup, dLst, dCallP, dAsg, qName, qCons, qNil, qTup, dPar, dAug, dMth, dM1, dSl, dPart, dNoPart, dYes, startR, List.map_cons, List.map_nil, List.length_cons, List.length_nil, List.replicate, List.cons_append, List.nil_append, List.append_nil, List.getElem?_cons_zero, List.getElem?_cons_succ, List.set_cons_zero, List.set_cons_succ, List.set_nil, dAdd, dSub, dMul, dMod, dFdv, dPow, dShl, dShr, dBit, dLt, dCmp, dNeg, Nat.reduceAdd, Nat.reduceSub, Nat.zero_add, rd_len_scr, rd_len_lst, rd_len_tup, rd_len_str, rd_eq_int, rd_eq_str, rd_eq_bl, rd_eq_nn, rd_eq_ns, rd_eq_sn, rd_eq_ni, rd_eq_in, rd_eq_nt, rd_eq_tn, rd_eq_pair, rd_is_non, rd_is_bl, rd_str_int, rd_int_int, rd_int_bl, rd_ix0, rd_ix1, rd_lix0, rd_lix1, rd_list_lst, rd_list_tup, rd_listM_lst, rd_tuple_lst, DL.isNon, wipeR, if_true, if_false, Bool.false_eq_true, Bool.not_true, Bool.not_false, reduceIte]
        refine ifE_of false ?_ ?_
        · simp only [dSeq, dNext, dRet, dRetN, dIfS, dDrop, dOp, dV, dC, dUn, dTest, dAnd, dOr, dNot, dAndV, dOrV, dNotV, dIf, dCB, dCons, dNil, dTup, dLst, dCallP, dAsg, qName, qCons, qNil, qTup, dPar, dAug, dMth, dM1, dSl, dPart, dNoPart, dYes, startR, List.map_cons, List.map_nil, List.length_cons, List.length_nil, List.replicate, List.cons_append, List.nil_append, List.append_nil, List.getElem?_cons_zero, List.getElem?_cons_succ, List.set_cons_zero, List.set_cons_succ, List.set_nil, dAdd, dSub, dMul, dMod, dFdv, dPow, dShl, dShr, dBit, dLt, dCmp, dNeg, Nat.reduceAdd, Nat.reduceSub, Nat.zero_add, rd_len_scr, rd_len_lst, rd_len_tup, rd_len_str, rd_eq_int, rd_eq_str, rd_eq_bl, rd_eq_nn, rd_eq_ns, rd_eq_sn, rd_eq_ni, rd_eq_in, rd_eq_nt, rd_eq_tn, rd_eq_pair, rd_is_non, rd_is_bl, rd_str_int, rd_int_int, rd_int_bl, rd_ix0, rd_ix1, rd_lix0, rd_lix1, rd_list_lst, rd_list_tup, rd_listM_lst, rd_tuple_lst, DL.isNon, wipeR, if_true, if_false, Bool.false_eq_true, Bool.not_true, Bool.not_false, reduceIte]
          refine fld_V rfl k1 k9 k4 T.kJ ?_
          refine isi_of (t := .type "list") rfl rfl trivial (kit_ty (r := true) (by decide +kernel)) ?_
          refine ite_f Bool.false_ne_true ?_
          refine fld_V rfl k1 k9 k4 T.kJ ?_
          rw [rd_len_lst]
          refine ix_range hkm ?_
          rw [rd_len_lst, rd_eq_int, List.length_map, List.length_map, beq_self_eq_true]
          exact ⟨rfl, rfl⟩
        refine ite_f Bool.false_ne_true ?_
        simp only [dSeq, dNext, dRet, dRetN, dIfS, dDrop, dOp, dV, dC, dUn, dTest, dAnd, dOr, dNot, dAndV, dOrV, dNotV, dIf, dCB, dCons, dNil, dTup, dLst, dCallP, dAsg, qName, qCons, qNil, qTup, dPar, dAug, dMth, dM1, dSl, dPart, dNoPart, dYes, startR, List.map_cons, List.map_nil, List.length_cons, List.length_nil, List.replicate, List.cons_append, List.nil_append, List.append_nil, List.getElem?_cons_zero, List.getElem?_cons_succ, List.set_cons_zero, List.set_cons_succ, List.set_nil, dAdd, dSub, dMul, dMod, dFdv, dPow, dShl, dShr, dBit, dLt, dCmp, dNeg, Nat.reduceAdd, Nat.reduceSub, Nat.zero_add, rd_len_scr, rd_len_lst, rd_len_tup, rd_len_str, rd_eq_int, rd_eq_str, rd_eq_bl, rd_eq_nn, rd_eq_ns, rd_eq_sn, rd_eq_ni, rd_eq_in, rd_eq_nt, rd_eq_tn, rd_eq_pair, rd_is_non, rd_is_bl, rd_str_int, rd_int_int, rd_int_bl, rd_ix0, rd_ix1, rd_lix0, rd_lix1, rd_list_lst, rd_list_tup, rd_listM_lst, rd_tuple_lst, DL.isNon, wipeR, if_true, if_false, Bool.false_eq_true, Bool.not_true, Bool.not_false, reduceIte, dLc, dRng1]
        refine ix_range hkm ?_
        rw [rd_len_lst, List.length_map]
        refine ⟨⟨by omega, by omega⟩, ?_⟩
        rw [intsD_nat]
        refine lc_mapG _ (fun i : Nat => .tup [toD CT CJ (Gt ((kd k).getD i 0)), .int ((kd k).getD i 0 : Nat)]) _ _ (by rw [List.length_nil, List.length_range]; omega) (fun i hi Q hQ => ?_) ?_
        · rw [List.mem_range] at hi
          have hgi : (kd k)[i]? = some ((kd k).getD i 0) := by
            rw [List.getD_eq_getElem?_getD, List.getElem?_eq_getElem hi]
            rfl
          simp only [dSeq, dNext, dRet, dRetN, dIfS, dDrop, dOp, dV, dC, dUn, dTest, dAnd, dOr, dNot, dAndV, dOrV, dNotV, dIf, dCB, dCons, dNil, dTup, dLst, dCallP, dAsg, qName, qCons, qNil, qTup, dPar, dAug, dMth, dM1, dSl, dPart, dNoPart, dYes, startR, List.map_cons, List.map_nil, List.length_cons, List.length_nil, List.replicate, List.cons_append, List.nil_append, List.append_nil, List.getElem?_cons_zero, List.getElem?_cons_succ, List.set_cons_zero, List.set_cons_succ, List.set_nil, dAdd, dSub, dMul, dMod, dFdv, dPow, dShl, dShr, dBit, dLt, dCmp, dNeg, Nat.reduceAdd, Nat.reduceSub, Nat.zero_add, rd_len_scr, rd_len_lst, rd_len_tup, rd_len_str, rd_eq_int, rd_eq_str, rd_eq_bl, rd_eq_nn, rd_eq_ns, rd_eq_sn, rd_eq_ni, rd_eq_in, rd_eq_nt, rd_eq_tn, rd_eq_pair, rd_is_non, rd_is_bl, rd_str_int, rd_int_int, rd_int_bl, rd_ix0, rd_ix1, rd_lix0, rd_lix1, rd_list_lst, rd_list_tup, rd_listM_lst, rd_tuple_lst, DL.isNon, wipeR, if_true, if_false, Bool.false_eq_true, Bool.not_true, Bool.not_false, reduceIte]
          refine fld_V rfl k1 k9 k4 T.kJ (ix_map hgi (ix_range hkm (ix_map hgi ⟨by rw [sizeLine_eq]; decide, hQ⟩)))
        · rw [List.nil_append]
          have e : (List.range (kd k).length).map (fun i : Nat => D.tup [toD CT CJ (Gt ((kd k).getD i 0)), .int ((kd k).getD i 0 : Nat)]) = (kd k).map fun j => .tup [toD CT CJ (Gt j), .int (j : Nat)] := map_getD (kd k) fun j => D.tup [toD CT CJ (Gt j), .int (j : Nat)]
          rw [e]
          refine addM_of (sqL_ref hM2) rfl (by rw [List.length_map, List.length_map]; omega) fun l2 hl2 => ?_
          refine hnx (cntL Gt (ks' ++ kd k)) _ _ (by rw [cntL_app]; omega) ⟨l2, ks' ++ kd k, _, _, _, rfl, by rw [cntL_app]; omega, fun k' hk' => ?_, by rw [updM_same, List.map_append], rfl⟩
          rcases List.mem_append.mp hk' with hk' | hk'
          · exact hks k' (by simp [hk'])
          · exact hkd k hkm k' hk'
end
end LM
namespace LM
open PySem L2 DL PySem.Spec PyProof.Rows
/-! ### names, plainly -/
theorem chN_ok : ∀ i, i < 62 → signsN.cps.toList.getD i 0 ∈ SIGNS.cps.toList := by decide +kernel
def allS (z : Str) : Prop := ∀ c, c ∈ z.cps.toList → c ∈ SIGNS.cps.toList
theorem allS_ch {i : Nat} (h : i < 62) : allS (chN i) := fun c hc => by
  have e : (chN i).cps.toList = [signsN.cps.toList.getD i 0] := rfl
  rw [e, List.mem_singleton] at hc
  rw [hc]
  exact chN_ok i h
theorem allS_app {a b : Str} (ha : allS a) (hb : allS b) : allS (a ++ b) := fun c hc => by
  have := TL.tl_append a b
  unfold TL.tl at this
  rw [this] at hc
  rcases List.mem_append.mp hc with h | h
  · exact ha c h
  · exact hb c h
theorem allS_cut {a : Str} {lo hi : Option Int} (ha : allS a) : allS (cutS a lo hi) := fun c hc => by
  have hc : c ∈ (a.cps.toList.drop (HT.sIx a.length 0 lo)).take (HT.sIx a.length a.length hi - HT.sIx a.length 0 lo) := hc
  exact ha c (List.mem_of_mem_drop (List.mem_of_mem_take hc))
theorem allS_rep {a : Str} {n : Nat} (ha : allS a) : allS (strRep a n) := fun c hc => by
  have hc : c ∈ (List.replicate n a.cps.toList).flatten := hc
  obtain ⟨l, hl, hcl⟩ := List.mem_flatten.mp hc
  rw [List.eq_of_mem_replicate hl] at hcl
  exact ha c hcl
theorem joinL_nil : ∀ ls : List (List Nat), ∀ c, c ∈ TL.joinL [] ls → ∃ l, l ∈ ls ∧ c ∈ l
  | [], c, h => by cases h
  | [l], c, h => ⟨l, List.mem_singleton.mpr rfl, h⟩
  | l :: l2 :: ls, c, h => by
    have h' : c ∈ l ++ ([] ++ TL.joinL [] (l2 :: ls)) := h
    rw [List.nil_append] at h'
    rcases List.mem_append.mp h' with h1 | h1
    · exact ⟨l, List.mem_cons_self, h1⟩
    · obtain ⟨x, hx, hc⟩ := joinL_nil (l2 :: ls) c h1
      exact ⟨x, List.mem_cons_of_mem _ hx, hc⟩
theorem allS_join {zs : List Str} (h : ∀ z, z ∈ zs → allS z) : allS (Txt.join (Str.ofString "") zs) := fun c hc => by
  have e := TL.tl_join (Str.ofString "") zs
  rw [← TL.join_eq] at e
  unfold TL.tl at e
  rw [e] at hc
  obtain ⟨l, hl, hcl⟩ := joinL_nil _ c hc
  obtain ⟨z, hz, rfl⟩ := List.mem_map.mp hl
  exact h z hz c hcl
theorem stem_ok (c size : Nat) : allS (stemN c size) := allS_join fun z hz => by
  obtain ⟨j, _, rfl⟩ := List.mem_map.mp hz
  exact allS_ch (Nat.mod_lt _ (by decide))
theorem stem_len (c size : Nat) : (stemN c size).length ≤ size := by
  have hs := sum_le (·.length) 1 ((List.range size).map fun j => chN ((c / 4 % 62 + 5 * j) % 62)) fun y hy => by
    obtain ⟨k, _, rfl⟩ := List.mem_map.mp hy
    exact Nat.le_refl _
  have hj := join_le (Str.ofString "") ((List.range size).map fun j => chN ((c / 4 % 62 + 5 * j) % 62))
  have he : (Str.ofString "").length = 0 := rfl
  rw [List.length_map, List.length_range] at hs
  rw [he, List.length_map, List.length_range] at hj
  have : (stemN c size).length ≤ _ := hj
  omega
theorem nameB_ok (c k : Nat) : okName (nameB c k) := by
  refine .inr ?_
  have h11 : (if c % 4 = 3 then 11 else c / 248 % 6) ≤ 11 := by split <;> omega
  have hl := stem_len c (if c % 4 = 3 then 11 else c / 248 % 6)
  have ho := stem_ok c (if c % 4 = 3 then 11 else c / 248 % 6)
  have hb : nameB c k = cutS (stemN c (if c % 4 = 3 then 11 else c / 248 % 6)) none (some ((c / 1488 % ((if c % 4 = 3 then 11 else c / 248 % 6) + 1) : Nat) : Int)) ++ chN ((c / 4 % 62 + 11 * k) % 62) ++ cutS (stemN c (if c % 4 = 3 then 11 else c / 248 % 6)) (some ((c / 1488 % ((if c % 4 = 3 then 11 else c / 248 % 6) + 1) : Nat) : Int)) none := rfl
  have h2 := cutS_two (stemN c (if c % 4 = 3 then 11 else c / 248 % 6)) (c / 1488 % ((if c % 4 = 3 then 11 else c / 248 % 6) + 1))
  have one : (chN ((c / 4 % 62 + 11 * k) % 62)).length = 1 := rfl
  have hln : (nameB c k).length = (stemN c (if c % 4 = 3 then 11 else c / 248 % 6)).length + 1 := by
    rw [hb, Str.length_append, Str.length_append]
    omega
  refine ⟨by omega, by omega, ?_⟩
  rw [hb]
  exact allS_app (allS_app (allS_cut ho) (allS_ch (Nat.mod_lt _ (by decide)))) (allS_cut ho)
theorem namesN_ok (c m : Nat) : ∀ z, z ∈ namesN c m → okName z := fun z hz => by
  unfold namesN at hz
  split at hz
  · rename_i h
    obtain ⟨k, hk, rfl⟩ := List.mem_map.mp hz
    rw [List.mem_range] at hk
    have one : (chN (c / 4 % 62)).length = 1 := rfl
    refine .inr ⟨?_, ?_, allS_rep (allS_ch (Nat.mod_lt _ (by decide)))⟩
    · rw [strRep_len, one]; omega
    · rw [strRep_len, one]; omega
  · split at hz
    · rcases List.mem_or_eq_of_mem_set hz with h | h
      · obtain ⟨k, _, rfl⟩ := List.mem_map.mp h
        exact nameB_ok c k
      · exact .inl h
    · obtain ⟨k, _, rfl⟩ := List.mem_map.mp hz
      exact nameB_ok c k
theorem namesN_len (c m : Nat) : (namesN c m).length = m := by
  unfold namesN
  split
  · rw [List.length_map, List.length_range]
  · split
    · rw [List.length_set, List.length_map, List.length_range]
    · rw [List.length_map, List.length_range]
/-! ### amounts, plainly -/
theorem lowN_cop (a b : Nat) (hb : 0 < b) : Nat.gcd (lowN a b).1 (lowN a b).2 = 1 := by
  have hg : 0 < Nat.gcd a b := Nat.gcd_pos_of_pos_right _ hb
  show Nat.gcd (a / Nat.gcd a b) (b / Nat.gcd a b) = 1
  rw [Nat.gcd_div (Nat.gcd_dvd_left a b) (Nat.gcd_dvd_right a b), Nat.div_self hg]
theorem lowN_le (a b : Nat) : (lowN a b).1 ≤ a ∧ (lowN a b).2 ≤ b := ⟨Nat.div_le_self _ _, Nat.div_le_self _ _⟩
theorem lowN_pos (a b : Nat) (hb : 0 < b) : 0 < (lowN a b).2 := Nat.div_pos (Nat.le_of_dvd hb (Nat.gcd_dvd_right a b)) (Nat.gcd_pos_of_pos_right _ hb)
theorem lowN_self {a b : Nat} (h : Nat.gcd a b = 1) : lowN a b = (a, b) := by
  unfold lowN
  rw [h, Nat.div_one, Nat.div_one]
theorem lowN_mul {a b t : Nat} (h : Nat.gcd a b = 1) (ht : 0 < t) : lowN (a * t) (b * t) = (a, b) := by
  unfold lowN
  rw [Nat.gcd_mul_right, h, Nat.one_mul, Nat.mul_div_cancel _ ht, Nat.mul_div_cancel _ ht]
theorem farN_ok (c : Nat) : Nat.gcd (farN c).1 (farN c).2 = 1 ∧ 0 < (farN c).2 ∧ (farN c).1 < 10 ^ 20 ∧ (farN c).2 ≤ 12 := by
  unfold farN
  split
  · exact ⟨rfl, by decide, by decide, by decide⟩
  · split
    · exact ⟨rfl, by decide, by decide, by decide⟩
    · split
      · exact ⟨Nat.gcd_one_right _, by show 0 < 1; decide, by show 1 + c / 6 % 9 < _; omega, by show 1 ≤ 12; decide⟩
      · split
        · exact ⟨Nat.gcd_one_right _, by show 0 < 1; decide, Nat.mod_lt _ (by decide), by show 1 ≤ 12; decide⟩
        · have h1 := lowN_le (c / 6 % 30) (1 + c / 6 / 30 % 12)
          refine ⟨lowN_cop _ _ (by omega), lowN_pos _ _ (by omega), Nat.lt_of_le_of_lt h1.1 ?_, Nat.le_trans h1.2 (by omega)⟩
          have := Nat.mod_lt (c / 6) (show 0 < 30 by decide)
          exact Nat.lt_trans this (by decide)

/-! ### the tree that the law builds, plainly -/
def trF (kd : Nat → List Nat) (nms : Nat → Option Str) (lns : Nat → Option (Nat × Nat)) : Nat → Nat → T
  | 0, k => .nd [] (nms k) (lns k)
  | f + 1, k => .nd ((kd k).map (trF kd nms lns f)) (nms k) (lns k)
section
variable {m : Nat} {kd : Nat → List Nat} {nms : Nat → Option Str} {lns : Nat → Option (Nat × Nat)}
theorem kd_nil (hkd : ∀ k j, j ∈ kd k → k < j ∧ j < m) {k : Nat} (h : m ≤ k) : kd k = [] := by
  cases e : kd k with
  | nil => rfl
  | cons a b =>
    have := hkd k a (by rw [e]; exact List.mem_cons_self)
    omega
theorem trF_same (hkd : ∀ k j, j ∈ kd k → k < j ∧ j < m) : ∀ (f f' k : Nat), m ≤ f + k → m ≤ f' + k → trF kd nms lns f k = trF kd nms lns f' k
  | 0, 0, k, _, _ => rfl
  | 0, f' + 1, k, h, _ => by rw [trF, trF, kd_nil hkd (by omega)]; rfl
  | f + 1, 0, k, _, h => by rw [trF, trF, kd_nil hkd (by omega)]; rfl
  | f + 1, f' + 1, k, h, h' => by
    rw [trF, trF]
    congr 1
    refine List.map_congr_left fun j hj => ?_
    have := hkd k j hj
    exact trF_same hkd f f' j (by omega) (by omega)
def trG (m : Nat) (kd : Nat → List Nat) (nms : Nat → Option Str) (lns : Nat → Option (Nat × Nat)) (k : Nat) : T := trF kd nms lns (m - k) k
theorem trG_eq (hkd : ∀ k j, j ∈ kd k → k < j ∧ j < m) {k : Nat} (h : k < m) : trG m kd nms lns k = .nd ((kd k).map (trG m kd nms lns)) (nms k) (lns k) := by
  unfold trG
  rw [show m - k = (m - k - 1) + 1 by omega, trF]
  congr 1
  refine List.map_congr_left fun j hj => ?_
  have := hkd k j hj
  exact trF_same hkd _ _ j (by omega) (by omega)
theorem hgts_le {b : Nat} : ∀ ks : List T, (∀ t, t ∈ ks → hgt t ≤ b) → hgts ks ≤ b
  | [], _ => by rw [hgts]; exact Nat.zero_le _
  | k :: ks, h => by
    have h1 := h k List.mem_cons_self
    have h2 := hgts_le ks fun t ht => h t (List.mem_cons_of_mem _ ht)
    rw [hgts]
    omega
theorem trG_hgt (hkd : ∀ k j, j ∈ kd k → k < j ∧ j < m) : ∀ (n k : Nat), k < m → m ≤ n + k → hgt (trG m kd nms lns k) + k + 1 ≤ m
  | 0, k, h, h' => by omega
  | n + 1, k, h, h' => by
    rw [trG_eq hkd h]
    cases e : kd k with
    | nil => rw [List.map_nil, hgt]; omega
    | cons a b =>
      rw [List.map_cons, hgt]
      have : hgts ((a :: b).map (trG m kd nms lns)) ≤ m - k - 2 := hgts_le _ fun t ht => by
        obtain ⟨j, hj, rfl⟩ := List.mem_map.mp ht
        have hj2 := hkd k j (by rw [e]; exact hj)
        have := trG_hgt hkd n j hj2.2 (by omega)
        omega
      rw [List.map_cons] at this
      have ha := hkd k a (by rw [e]; exact List.mem_cons_self)
      omega
theorem goodRs_of : ∀ ks : List T, (∀ t, t ∈ ks → GoodR t) → GoodRs ks
  | [], _ => by rw [GoodRs]; trivial
  | k :: ks, h => by
    rw [GoodRs]
    exact ⟨h k List.mem_cons_self, goodRs_of ks fun t ht => h t (List.mem_cons_of_mem _ ht)⟩
theorem trG_good (hkd : ∀ k j, j ∈ kd k → k < j ∧ j < m) (h1 : ∀ k, k < m → kd k = [] → nms k ≠ none) (h2 : ∀ k z, k < m → nms k = some z → okName z) (h3 : ∀ k p, k < m → lns k = some p → p.1 < 10 ^ 30 ∧ p.2 < 10 ^ 30 ∧ 0 < p.2) : ∀ (n k : Nat), k < m → m ≤ n + k → GoodR (trG m kd nms lns k)
  | 0, k, h, h' => by omega
  | n + 1, k, h, h' => by
    rw [trG_eq hkd h, GoodR]
    refine ⟨fun e => h1 k h (List.map_eq_nil_iff.mp e), fun z hz => h2 k z h hz, fun p hp => h3 k p h hp, goodRs_of _ fun t ht => ?_⟩
    obtain ⟨j, hj, rfl⟩ := List.mem_map.mp ht
    have hj2 := hkd k j hj
    exact trG_good hkd h1 h2 h3 n j hj2.2 (by omega)
end
theorem norms_of {α : Type} (f : α → T) : ∀ ks : List α, norms (ks.map f) = ks.map fun k => norm (f k)
  | [] => by rw [List.map_nil, norms]; rfl
  | k :: ks => by rw [List.map_cons, norms, norms_of f ks]; rfl
mutual
theorem good_R : ∀ t, GoodR t → Good t
  | .nd ks nm ln, h => by
    rw [GoodR] at h
    rw [Good]
    refine ⟨fun z hz => ?_, fun p hp => ?_, goods_R ks h.2.2.2⟩
    · rcases h.2.1 z hz with e | e
      · rw [e]; decide
      · exact e.2.1
    · have := h.2.2.1 p hp
      exact ⟨Nat.lt_trans this.1 (by decide), Nat.lt_trans this.2.1 (by decide)⟩
theorem goods_R : ∀ ks, GoodRs ks → Goods ks
  | [], _ => by rw [Goods]; trivial
  | k :: ks, h => by
    rw [GoodRs] at h
    rw [Goods]
    exact ⟨good_R k h.1, goods_R ks h.2⟩
end
mutual
theorem goodR_norm : ∀ t, GoodR t → GoodR (norm t)
  | .nd ks nm ln, h => by
    rw [GoodR] at h
    rw [norm, GoodR]
    refine ⟨fun e => h.1 ?_, h.2.1, fun p hp => ?_, goodRs_norm ks h.2.2.2⟩
    · cases ks with
      | nil => rfl
      | cons a b => rw [norms] at e; cases e
    · cases ln with
      | none => cases hp
      | some q =>
        cases hp
        have := h.2.2.1 q rfl
        have h1 := lowN_le q.1 q.2
        exact ⟨Nat.lt_of_le_of_lt h1.1 this.1, Nat.lt_of_le_of_lt h1.2 this.2.1, lowN_pos _ _ this.2.2⟩
theorem goodRs_norm : ∀ ks, GoodRs ks → GoodRs (norms ks)
  | [], _ => by rw [norms, GoodRs]; trivial
  | k :: ks, h => by
    rw [GoodRs] at h
    rw [norms, GoodRs]
    exact ⟨goodR_norm k h.1, goodRs_norm ks h.2⟩
end
mutual
theorem cnt_norm : ∀ t, cnt (norm t) = cnt t
  | .nd ks nm ln => by rw [norm, cnt, cnt, cnts_norm ks]
theorem cnts_norm : ∀ ks, cnts (norms ks) = cnts ks
  | [] => by rw [norms]
  | k :: ks => by rw [norms, cnts, cnts, cnt_norm k, cnts_norm ks]
end
/-! ### how many nodes -/
def kidsU (m : Nat) (ups : List Nat) (k : Nat) : List Nat := ((List.range (m - 1)).map (· + 1)).filter fun j => ups.getD j 0 == k
theorem kidsU_mem {m : Nat} {ups : List Nat} (hl : ups.length = m) (hu : ∀ j u, 1 ≤ j → ups[j]? = some u → u < j) : ∀ k j, j ∈ kidsU m ups k → k < j ∧ j < m := fun k j h => by
  unfold kidsU at h
  rw [List.mem_filter] at h
  obtain ⟨h1, h2⟩ := h
  obtain ⟨i, hi, rfl⟩ := List.mem_map.mp h1
  rw [List.mem_range] at hi
  have h2 := beq_iff_eq.mp h2
  have hlt : i + 1 < ups.length := by omega
  have := hu (i + 1) ups[i + 1] (by omega) (List.getElem?_eq_getElem hlt)
  rw [List.getD_eq_getElem?_getD, List.getElem?_eq_getElem hlt] at h2
  have h2 : ups[i + 1] = k := h2
  omega
def fsum (R : List Nat) (wt : Nat → Nat) (p : Nat → Bool) : Nat := ((R.filter p).map wt).sum
theorem fsum_split {wt : Nat → Nat} {p q r : Nat → Bool} : ∀ R : List Nat, (∀ j, j ∈ R → p j = (q j || r j) ∧ ¬ (q j = true ∧ r j = true)) → fsum R wt p = fsum R wt q + fsum R wt r
  | [], _ => rfl
  | j :: R, h => by
    have ih := fsum_split (wt := wt) R fun i hi => h i (List.mem_cons_of_mem _ hi)
    obtain ⟨h1, h2⟩ := h j List.mem_cons_self
    unfold fsum at ih ⊢
    rw [List.filter_cons, List.filter_cons, List.filter_cons]
    cases hq : q j <;> cases hr : r j <;> rw [hq, hr] at h1 h2 <;> rw [h1] <;> simp at h2 ⊢ <;> omega
theorem fsum_none {wt : Nat → Nat} {p : Nat → Bool} {R : List Nat} (h : ∀ j, j ∈ R → p j = false) : fsum R wt p = 0 := by
  unfold fsum
  rw [List.filter_eq_nil_iff.mpr fun j hj => by rw [h j hj]; exact Bool.false_ne_true]
  rfl
theorem fsum_one {wt : Nat → Nat} {k : Nat} : ∀ R : List Nat, R.Nodup → k ∈ R → fsum R wt (fun j => j == k) = wt k
  | j :: R, hn, h => by
    rw [List.nodup_cons] at hn
    unfold fsum
    by_cases e : j = k
    · subst e
      rw [List.filter_cons, if_pos (beq_self_eq_true j), List.filter_eq_nil_iff.mpr fun i hi => by rw [beq_iff_eq]; intro z; exact hn.1 (z ▸ hi)]
      simp
    · rw [List.filter_cons, if_neg (by rw [beq_iff_eq]; exact e)]
      exact fsum_one R hn.2 ((List.mem_cons.mp h).resolve_left (Ne.symm e))
theorem trG_cnt {m : Nat} {ups : List Nat} {nms : Nat → Option Str} {lns : Nat → Option (Nat × Nat)} (hl : ups.length = m) (hu : ∀ j u, 1 ≤ j → ups[j]? = some u → u < j) (hm : 0 < m) : ∀ k, k < m → cnt (trG m (kidsU m ups) nms lns k) ≤ m := by
  have hkd := kidsU_mem hl hu
  have hug : ∀ j, 1 ≤ j → j < m → ups.getD j 0 < j := fun j h1 h2 => by
    rw [List.getD_eq_getElem?_getD, List.getElem?_eq_getElem (by omega)]
    exact hu j _ h1 (List.getElem?_eq_getElem (by omega))
  have hR : ∀ j, j ∈ (List.range (m - 1)).map (· + 1) ↔ 1 ≤ j ∧ j < m := fun j => by
    rw [List.mem_map]
    constructor
    · rintro ⟨i, hi, rfl⟩
      rw [List.mem_range] at hi
      omega
    · rintro ⟨h1, h2⟩
      exact ⟨j - 1, by rw [List.mem_range]; omega, by omega⟩
  have hnd : ((List.range (m - 1)).map (· + 1)).Nodup := by
    refine List.pairwise_map.mpr (List.Pairwise.imp (fun h e => h ?_) List.nodup_range)
    omega
  generalize hRR : (List.range (m - 1)).map (· + 1) = R at hR hnd
  have hc : ∀ k, k < m → cnt (trG m (kidsU m ups) nms lns k) = fsum R (fun j => cnt (trG m (kidsU m ups) nms lns j)) (fun j => ups.getD j 0 == k) + 1 := fun k hk => by
    rw [trG_eq hkd hk, cnt, ← cntL_map]
    unfold fsum cntL kidsU
    rw [hRR]
  have hA : ∀ n k, 1 ≤ k → k ≤ m → m = n + k → fsum R (fun j => cnt (trG m (kidsU m ups) nms lns j)) (fun j => decide (k ≤ j) && decide (ups.getD j 0 < k)) = n := fun n => by
    induction n with
    | zero =>
      intro k h1 h2 h3
      refine fsum_none fun j hj => ?_
      have := (hR j).mp hj
      rw [decide_eq_false (show ¬ k ≤ j by omega)]
      rfl
    | succ n ih =>
      intro k h1 h2 h3
      have ih := ih (k + 1) (by omega) (by omega) (by omega)
      have s1 := fsum_split (wt := fun j => cnt (trG m (kidsU m ups) nms lns j)) (p := fun j => decide (k + 1 ≤ j) && decide (ups.getD j 0 < k + 1)) (q := fun j => decide (k + 1 ≤ j) && decide (ups.getD j 0 < k)) (r := fun j => ups.getD j 0 == k) R fun j hj => by
        have hj2 := (hR j).mp hj
        have := hug j hj2.1 hj2.2
        refine ⟨?_, ?_⟩
        · rw [Bool.eq_iff_iff]
          simp only [Bool.and_eq_true, Bool.or_eq_true, decide_eq_true_iff, beq_iff_eq]
          omega
        · simp only [Bool.and_eq_true, decide_eq_true_iff, beq_iff_eq]
          omega
      have s2 := fsum_split (wt := fun j => cnt (trG m (kidsU m ups) nms lns j)) (p := fun j => decide (k ≤ j) && decide (ups.getD j 0 < k)) (q := fun j => decide (k + 1 ≤ j) && decide (ups.getD j 0 < k)) (r := fun j => j == k) R fun j hj => by
        have hj2 := (hR j).mp hj
        have := hug j hj2.1 hj2.2
        refine ⟨?_, ?_⟩
        · rw [Bool.eq_iff_iff]
          simp only [Bool.and_eq_true, Bool.or_eq_true, decide_eq_true_iff, beq_iff_eq]
          omega
        · simp only [Bool.and_eq_true, decide_eq_true_iff, beq_iff_eq]
          omega
      have s3 := fsum_one (wt := fun j => cnt (trG m (kidsU m ups) nms lns j)) R hnd ((hR k).mpr ⟨h1, by omega⟩)
      have s4 := hc k (by omega)
      omega
  intro k hk
  by_cases h0 : k = 0
  · subst h0
    have h1 := hA (m - 1) 1 (Nat.le_refl _) hm (by omega)
    have e : fsum R (fun j => cnt (trG m (kidsU m ups) nms lns j)) (fun j => ups.getD j 0 == 0) = fsum R (fun j => cnt (trG m (kidsU m ups) nms lns j)) (fun j => decide (1 ≤ j) && decide (ups.getD j 0 < 1)) := by
      unfold fsum
      congr 2
      refine List.filter_congr fun j hj => ?_
      have hj2 := (hR j).mp hj
      rw [Bool.eq_iff_iff]
      simp only [Bool.and_eq_true, decide_eq_true_iff, beq_iff_eq]
      omega
    have := hc 0 hk
    omega
  · have h1 := hA (m - k) k (by omega) (by omega) (by omega)
    have s2 := fsum_split (wt := fun j => cnt (trG m (kidsU m ups) nms lns j)) (p := fun j => decide (k ≤ j) && decide (ups.getD j 0 < k)) (q := fun j => decide (k + 1 ≤ j) && decide (ups.getD j 0 < k)) (r := fun j => j == k) R fun j hj => by
      have hj2 := (hR j).mp hj
      have := hug j hj2.1 hj2.2
      refine ⟨?_, ?_⟩
      · rw [Bool.eq_iff_iff]
        simp only [Bool.and_eq_true, Bool.or_eq_true, decide_eq_true_iff, beq_iff_eq]
        omega
      · simp only [Bool.and_eq_true, decide_eq_true_iff, beq_iff_eq]
        omega
    have s3 := fsum_one (wt := fun j => cnt (trG m (kidsU m ups) nms lns j)) R hnd ((hR k).mpr ⟨by omega, hk⟩)
    omega
end LM
namespace LM
open PySem L2 DL PySem.Spec PyProof.Rows
abbrev S_law : Stmt := topS 38
theorem sc_law : FnScope ["_law_script", "_law_ups_here", "_law_many", "_law_words", "_law_kids", "_law_names_here", "_law_lengths", "_law_texts", "_law_k", "_law_cell", "_law_j", "_law_node", "_law_again", "_law_kid"] ["_law_script"] (defScope S_law) := ⟨rfl, rfl, rfl, by decide +kernel, rfl, by decide +kernel, by decide +kernel⟩

-- _law_script 0, _law_ups_here 1, _law_many 2, _law_words 3, _law_kids 4, _law_names_here 5, _law_lengths 6, _law_texts 7, _law_k 8, _law_cell 9, _law_j 10, _law_node 11, _law_again 12, _law_kid 13
/-- names, lengths, and m lists of two texts each, all own -/
structure Sq (m : Nat) (M : MS) (adr : Nat × Nat → Addr) (con : Nat × Nat → List D) : Prop where
  fam : Fam (fun x => (x.1 < 2 ∧ x.2 ≤ 0) ∨ (x.1 = 2 ∧ x.2 ≤ m)) M adr con
  c0 : con (2, 0) = (List.range m).map fun j => D.ref (adr (2, j + 1))
section
variable {m : Nat} {M : MS} {adr : Nat × Nat → Addr} {con : Nat × Nat → List D}
theorem Sq.lkA (h : Sq m M adr con) {k : Nat} (hk : k < 2) : M (adr (k, 0)) = some (.lst (con (k, 0))) := h.fam.at_ (k, 0) (.inl ⟨hk, Nat.le_refl _⟩)
theorem Sq.lkT (h : Sq m M adr con) {j : Nat} (hj : j < m) : M (adr (2, j + 1)) = some (.lst (con (2, j + 1))) := h.fam.at_ (2, j + 1) (.inr ⟨rfl, hj⟩)
theorem Sq.ix (h : Sq m M adr con) {j : Nat} {Q : QX} (hj : j < m) (q : Q (.ref (adr (2, j + 1))) M) : dIx (.ref (adr (2, 0))) (.int (j : Nat)) M Q := by
  refine ix_ref (h.fam.at_ (2, 0) (.inr ⟨rfl, Nat.zero_le _⟩)) (by omega) (d := .ref (adr (2, j + 1))) ?_ q
  rw [h.c0, Int.toNat_natCast, List.getElem?_map, List.getElem?_range hj]
  rfl
theorem Sq.setA (h : Sq m M adr con) {k : Nat} {v : List D} (hk : k < 2) : Sq m (updM M (adr (k, 0)) (.lst v)) adr (fset con (k, 0) v) :=
  ⟨h.fam.set (.inl ⟨hk, Nat.le_refl _⟩), by rw [fset_ne (fun z => by have := congrArg Prod.fst z; simp at this; omega), h.c0]⟩
theorem Sq.setT (h : Sq m M adr con) {j : Nat} {v : List D} (hj : j < m) : Sq m (updM M (adr (2, j + 1)) (.lst v)) adr (fset con (2, j + 1) v) :=
  ⟨h.fam.set (.inr ⟨rfl, hj⟩), by rw [fset_ne (fun z => by have := congrArg Prod.snd z; simp at this), h.c0]⟩
theorem Sq.same (h : Sq m M adr con) {k : Nat} {v : List D} (hk : k < 2) (e : con (k, 0) = v) : Sq m M adr (fset con (k, 0) v) :=
  ⟨h.fam.same e, by rw [fset_ne (fun z => by have := congrArg Prod.fst z; simp at this; omega), h.c0]⟩
end
theorem set_range {m k : Nat} {f : Nat → D} {v : D} (hk : k < m) : ((List.range m).map f).set k v = (List.range m).map fun j => if j = k then v else f j := by
  refine List.ext_getElem? fun i => ?_
  by_cases hi : i < m
  · rw [List.getElem?_map, List.getElem?_range hi]
    by_cases e : k = i
    · subst e
      rw [List.getElem?_set_self (by rw [List.length_map, List.length_range]; exact hi)]
      show _ = some (if k = k then v else f k)
      rw [if_pos rfl]
    · rw [List.getElem?_set_ne e, List.getElem?_map, List.getElem?_range hi]
      show _ = some (if i = k then v else f i)
      rw [if_neg (Ne.symm e)]
      rfl
  · rw [List.getElem?_eq_none (by rw [List.length_set, List.length_map, List.length_range]; omega), List.getElem?_eq_none (by rw [List.length_map, List.length_range]; omega)]
theorem ix_refR {m k : Nat} {f : Nat → D} {l : Addr} {M : MS} {Q : QX} (h : M l = some (.lst ((List.range m).map f))) (hk : k < m) (q : Q (f k) M) : dIx (.ref l) (.int (k : Nat)) M Q := by
  refine ix_ref h (by omega) (d := f k) ?_ q
  rw [Int.toNat_natCast, List.getElem?_map, List.getElem?_range hk]
  rfl
def nmsN (ns : List Int) (kd : Nat → List Nat) (wd : Nat → Str) (j : Nat) : Option Str := if kd j ≠ [] ∧ mixN (cellN ns (2 * j)) 10007 % 2 = 0 then none else some (wd j)
def tmN (ns : List Int) (j : Nat) : Nat := 1 + mixN (cellN ns (2 * j)) 7919 % 6
def lnsN (ns : List Int) (j : Nat) : Option (Nat × Nat) := if 0 < j ∧ 0 < mixN (cellN ns (2 * j)) 100003 % 4 then some ((farN (cellN ns (2 * j + 1))).1 * tmN ns j, (farN (cellN ns (2 * j + 1))).2 * tmN ns j) else none
def lnsL (ns : List Int) (j : Nat) : Option (Nat × Nat) := if 0 < j ∧ 0 < mixN (cellN ns (2 * j)) 100003 % 4 then some (farN (cellN ns (2 * j + 1))) else none
theorem lns_low (ns : List Int) (j : Nat) : (lnsN ns j).map (fun p => lowN p.1 p.2) = lnsL ns j := by
  unfold lnsN lnsL
  split
  · show some _ = some _
    have h := farN_ok (cellN ns (2 * j + 1))
    have h2 := lowN_mul (t := tmN ns j) h.1 (by unfold tmN; omega)
    show some (lowN _ _) = _
    rw [h2]
  · rfl
theorem lns_ok (ns : List Int) (j : Nat) : ∀ p, lnsN ns j = some p → p.1 < 10 ^ 30 ∧ p.2 < 10 ^ 30 ∧ 0 < p.2 := fun p hp => by
  unfold lnsN at hp
  split at hp
  · cases hp
    have h := farN_ok (cellN ns (2 * j + 1))
    have ht : tmN ns j ≤ 6 ∧ 0 < tmN ns j := by unfold tmN; omega
    refine ⟨?_, ?_, Nat.mul_pos h.2.1 ht.2⟩
    · exact Nat.lt_of_le_of_lt (Nat.mul_le_mul (Nat.le_of_lt h.2.2.1) ht.1) (by decide)
    · exact Nat.lt_of_le_of_lt (Nat.mul_le_mul h.2.2.2 ht.1) (by decide)
  · cases hp
def nmC (m : Nat) (wd : Nat → Str) (nms : Nat → Option Str) (n : Nat) : List D := (List.range m).map fun j => if n ≤ j then nmD (nms j) else .str (wd j)
def lnC (m : Nat) (lnl : Nat → Option (Nat × Nat)) (n : Nat) : List D := (List.range m).map fun j => if n ≤ j then lnD (lnl j) else .non
structure S2 (m : Nat) (wd : Nat → Str) (nms : Nat → Option Str) (lnl : Nat → Option (Nat × Nat)) (G : Nat → T) (n : Nat) (M : MS) (adr : Nat × Nat → Addr) (con : Nat × Nat → List D) : Prop where
  sq : Sq m M adr con
  cN : con (0, 0) = nmC m wd nms n
  cL : con (1, 0) = lnC m lnl n
  cT0 : ∀ j, j < n → con (2, j + 1) = [.str (Str.ofString ""), .str (Str.ofString "")]
  cT1 : ∀ j, n ≤ j → j < m → con (2, j + 1) = [.str (shown (G j)), .str (shown (norm (G j)))]
theorem nmC_set {m n : Nat} {wd : Nat → Str} {nms : Nat → Option Str} (h : n < m) : (nmC m wd nms (n + 1)).set n (nmD (nms n)) = nmC m wd nms n := by
  unfold nmC
  rw [set_range h]
  refine List.map_congr_left fun j _ => ?_
  by_cases e : j = n
  · subst e; rw [if_pos rfl, if_pos (Nat.le_refl _)]
  · rw [if_neg e]
    by_cases e2 : n + 1 ≤ j
    · rw [if_pos e2, if_pos (by omega)]
    · rw [if_neg e2, if_neg (by omega)]
theorem nmC_same {m n : Nat} {wd : Nat → Str} {nms : Nat → Option Str} (h : n < m) (e : nms n = some (wd n)) : nmC m wd nms (n + 1) = nmC m wd nms n := by
  unfold nmC
  refine List.map_congr_left fun j _ => ?_
  by_cases e1 : j = n
  · subst e1; rw [if_neg (by omega), if_pos (Nat.le_refl _), e]; rfl
  · by_cases e2 : n + 1 ≤ j
    · rw [if_pos e2, if_pos (by omega)]
    · rw [if_neg e2, if_neg (by omega)]
theorem lnC_set {m n : Nat} {lnl : Nat → Option (Nat × Nat)} (h : n < m) : (lnC m lnl (n + 1)).set n (lnD (lnl n)) = lnC m lnl n := by
  unfold lnC
  rw [set_range h]
  refine List.map_congr_left fun j _ => ?_
  by_cases e : j = n
  · subst e; rw [if_pos rfl, if_pos (Nat.le_refl _)]
  · rw [if_neg e]
    by_cases e2 : n + 1 ≤ j
    · rw [if_pos e2, if_pos (by omega)]
    · rw [if_neg e2, if_neg (by omega)]
theorem lnC_same {m n : Nat} {lnl : Nat → Option (Nat × Nat)} (e : lnl n = none) : lnC m lnl (n + 1) = lnC m lnl n := by
  unfold lnC
  refine List.map_congr_left fun j _ => ?_
  by_cases e1 : j = n
  · subst e1; rw [if_neg (by omega), if_pos (Nat.le_refl _), e]; rfl
  · by_cases e2 : n + 1 ≤ j
    · rw [if_pos e2, if_pos (by omega)]
    · rw [if_neg e2, if_neg (by omega)]
theorem nmC0 {m : Nat} {wd : Nat → Str} {nms : Nat → Option Str} : nmC m wd nms 0 = (List.range m).map fun k => nmD (nms k) := by
  unfold nmC
  exact List.map_congr_left fun j _ => by rw [if_pos (Nat.zero_le _)]
theorem lnC0 {m : Nat} {lnl : Nat → Option (Nat × Nat)} : lnC m lnl 0 = (List.range m).map fun k => lnD (lnl k) := by
  unfold lnC
  exact List.map_congr_left fun j _ => by rw [if_pos (Nat.zero_le _)]
theorem NodeAt.fz {CT CJ : Addr} {t : T} {M1 M2 : MS} {y : Addr} (h : NodeAt CT CJ t .non M1 M2 y) (hl : lnO t = none) : Fz M2 (.ref y) (toD CT CJ (norm t)) := by
  obtain ⟨ks, nm, l0⟩ := t
  have hl : l0 = none := hl
  subst hl
  rw [norm]
  cases ks with
  | nil =>
    obtain ⟨h1, rfl⟩ := h
    rw [norms, toD]
    exact .obj updM_same (Fzs.refl _ _)
  | cons k ks =>
    obtain ⟨l, h1, h2, h3, rfl⟩ := h
    have e : toD CT CJ (.nd (norms (k :: ks)) nm (Option.map (fun p : Nat × Nat => lowN p.1 p.2) none)) = .obj CJ ["name", "length", "kids"] [nmD nm, .non, .lst ((norms (k :: ks)).map (toD CT CJ))] := by
      rw [norms, toD, List.map_cons, toDs_map]
      rfl
    rw [e]
    refine .obj updM_same (.cons (.same _) (.cons (.same _) (.cons (.lst (l := l) ?_ (Fzs.refl _ _)) .nil)))
    rw [updM_ne h3]
    exact updM_same
theorem NodeAt.cls {CT CJ : Addr} {t : T} {len : D} {M1 M2 : MS} {y : Addr} (h : NodeAt CT CJ t len M1 M2 y) : ∃ C ns es, M2 y = some (.ins C ns es) ∧ (C = CT ∨ C = CJ) ∧ lkD "shown" ns es = none ∧ lkD "names" ns es = none := by
  obtain ⟨ks, nm, l0⟩ := t
  cases ks with
  | nil =>
    obtain ⟨h1, rfl⟩ := h
    exact ⟨_, _, _, updM_same, .inl rfl, rfl, rfl⟩
  | cons k ks =>
    obtain ⟨l, h1, h2, h3, rfl⟩ := h
    exact ⟨_, _, _, updM_same, .inr rfl, rfl, rfl⟩
theorem Sq.keep {m : Nat} {M M' : MS} {adr : Nat × Nat → Addr} {con : Nat × Nat → List D} (h : Sq m M adr con) (k : subM M M') : Sq m M' adr con := ⟨h.fam.keep k, h.c0⟩
abbrev Rl (ns : List Int) (ups : List Nat) (m : Nat) (ws : List Str) (kd : Nat → List Nat) (a b c : Addr) (x8 x9 x10 x11 x12 x13 : Option D) : Ro :=
  [some (.scr ns), some (.lst (ups.map fun u => .int (u : Nat))), some (.int (m : Nat)), some (.lst (ws.map D.str)), some (.lst ((List.range m).map fun k => .lst ((kd k).map fun j => .int (j : Nat)))), some (.ref a), some (.ref b), some (.ref c), x8, x9, x10, x11, x12, x13]
section
variable {P : Program} {w : World} {K : PySem.W.Frag} {mg : Str → Option Value} {base : Heap} {CN CT CJ CR : Addr}
theorem ok_law {f : Addr} {fd : FuncData} (F : FunX K "law" "law" S_law f fd) (T : TxtF K mg CN CT CJ CR)
    (G__law_cell_at : FnG P w K mg base 1 "_law_cell_at" 0 [] (fsP pCell)) (G__law_mixed : FnG P w K mg base 1 "_law_mixed" 0 [] (fsP pMixed)) (G__law_names : FnG P w K mg base 1 "_law_names" 0 [] (fsP pNames))
    (G__law_far : FnG P w K mg base 2 "_law_far" 0 [] (fsP pFar)) (G__law_amount_text : FnG P w K mg base 1 "_law_amount_text" 0 [] (fsP pAmt)) (G__law_longer_text : FnG P w K mg base 1 "_law_longer_text" 0 [] (fsP pLonger))
    (G__law_ups : FnG P w K mg base 2 "_law_ups" 0 [] (fsP pUps)) (G__law_nodes_are : FnG P w K mg base 3 "_law_nodes_are" 0 [] (fsP (pNodesAre CT CJ))) (G_parsed : FnG P w K mg base 142 "parsed" 0 [] (pParsed CT CJ))
    (gT : MtG P w K mg base 202 CT "shown" [] (fsP (pShown CT CJ 100))) (gJ : MtG P w K mg base 202 CJ "shown" [] (fsP (pShown CT CJ 100)))
    (nT : MtG P w K mg base 102 CT "names" [] (pNamesF CT CJ 100)) (nJ : MtG P w K mg base 102 CJ "names" [] (pNamesF CT CJ 100)) :
    FnOk P w K mg base (L2.CX P w) 204 f fd ["_law_script"] (toSp K (fsP lawP)) := by
  refine okP F sc_law (fun ds q ex h => ?_) (fun cdv A outer s H E ds hr hx => ?_)
  · obtain ⟨ns, rfl, _⟩ := h
    rfl
  · refine ⟨_, (dss_cons (ds_set (i := 1) sc_law.nd rfl (Or.inr rfl) (d_callP G__law_ups (hr.mono (by decide)) hx (da_cons (dv 0) (da_cons (d_op o_add s_add d_int (d_op o_mod s_mod (d_callP G__law_cell_at (hr.mono (by decide)) hx (da_cons (dv 0) (da_cons d_int da_nil))) d_int)) da_nil))))
      (dss_cons (ds_set (i := 2) sc_law.nd rfl (Or.inr rfl) (d_callB c_len s_len rfl T.b_len PySem.boot_len (da_cons (dv 1) da_nil)))
      (dss_cons (ds_set (i := 3) sc_law.nd rfl (Or.inr rfl) (d_callP G__law_names (hr.mono (by decide)) hx (da_cons (d_callP G__law_mixed (hr.mono (by decide)) hx (da_cons (d_callP G__law_cell_at (hr.mono (by decide)) hx (da_cons (dv 0) (da_cons d_int da_nil))) (da_cons d_int da_nil))) (da_cons (dv 2) da_nil))))
      (dss_cons (ds_setLc (i := 4) (own := [("_law_k", 8)]) rfl sc_law.nd rfl rfl (sw_true rfl rfl rfl (by decide +kernel)) (di_range1 rfl T.b_range (da_cons (dv 2) da_nil)) (blkOk_by (own := [("_law_k", 8)]) (N := ["_law_script", "_law_ups_here", "_law_many", "_law_words", "_law_kids", "_law_names_here", "_law_lengths", "_law_texts", "_law_k", "_law_cell", "_law_j", "_law_node", "_law_again", "_law_kid"]) (sc := defScope S_law) (by decide +kernel)) (fun _ _ _ _ _ => gw_name (i := 8) sc_law.nd rfl (Or.inr rfl) (by decide)) (ts_nil (K := K)) (fun _ _ _ _ _ => (d_lc (own := [("_law_j", 10)]) rfl sc_law.nd (di_range2 rfl T.b_range (da_cons d_int (da_cons (dv 2) da_nil))) (blkOk_by (own := [("_law_j", 10)]) (N := ["_law_script", "_law_ups_here", "_law_many", "_law_words", "_law_kids", "_law_names_here", "_law_lengths", "_law_texts", "_law_k", "_law_cell", "_law_j", "_law_node", "_law_again", "_law_kid"]) (sc := ({ kind := PySem.ScopeKind.function, names := [ (PySem.Str.ofString ".0", PySem.NameKind.local), (PySem.Str.ofString "_law_k", PySem.NameKind.cell), (PySem.Str.ofString "range", PySem.NameKind.globalImplicit), (PySem.Str.ofString "_law_many", PySem.NameKind.cell), (PySem.Str.ofString "_law_ups_here", PySem.NameKind.cell)], isGenerator := false, isCoroutine := false, more := [] : PySem.Scope })) (by decide +kernel)) (fun _ _ _ _ _ => gw_name (i := 10) sc_law.nd rfl (Or.inl rfl) (by decide)) (ts_one (fun _ _ _ _ _ => (dt_cmp (o_eq hr.units) (s_eq false) (d_ix ix_any s_ix (dv 1) (dv 10)) (dv 8) (nomark _)))) (fun _ _ _ _ _ => (dv 10)))))
      (dss_cons (ds_setLcM (i := 5) (own := [("_law_k", 8)]) rfl sc_law.nd rfl rfl (sw_true rfl rfl rfl (by decide +kernel)) (di_range1 rfl T.b_range (da_cons (dv 2) da_nil)) (blkOk_by (own := [("_law_k", 8)]) (N := ["_law_script", "_law_ups_here", "_law_many", "_law_words", "_law_kids", "_law_names_here", "_law_lengths", "_law_texts", "_law_k", "_law_cell", "_law_j", "_law_node", "_law_again", "_law_kid"]) (sc := defScope S_law) (by decide +kernel)) (fun _ _ _ _ _ => gw_name (i := 8) sc_law.nd rfl (Or.inl rfl) (by decide)) (ts_nil (K := K)) (fun _ _ _ _ _ => (d_ix ix_any s_ix (dv 3) (dv 8))))
      (dss_cons (ds_setLcM (i := 6) (own := [("_law_k", 8)]) rfl sc_law.nd rfl rfl (sw_true rfl rfl rfl (by decide +kernel)) (di_range1 rfl T.b_range (da_cons (dv 2) da_nil)) (blkOk_by (own := [("_law_k", 8)]) (N := ["_law_script", "_law_ups_here", "_law_many", "_law_words", "_law_kids", "_law_names_here", "_law_lengths", "_law_texts", "_law_k", "_law_cell", "_law_j", "_law_node", "_law_again", "_law_kid"]) (sc := defScope S_law) (by decide +kernel)) (fun _ _ _ _ _ => gw_name (i := 8) sc_law.nd rfl (Or.inl rfl) (by decide)) (ts_nil (K := K)) (fun _ _ _ _ _ => d_non))
      (dss_cons (ds_set (i := 7) sc_law.nd rfl (Or.inr rfl) (d_lcM (own := [("_law_k", 8)]) rfl sc_law.nd (di_range1 rfl T.b_range (da_cons (dv 2) da_nil)) (blkOk_by (own := [("_law_k", 8)]) (N := ["_law_script", "_law_ups_here", "_law_many", "_law_words", "_law_kids", "_law_names_here", "_law_lengths", "_law_texts", "_law_k", "_law_cell", "_law_j", "_law_node", "_law_again", "_law_kid"]) (sc := defScope S_law) (by decide +kernel)) (fun _ _ _ _ _ => gw_name (i := 8) sc_law.nd rfl (Or.inl rfl) (by decide)) (ts_nil (K := K)) (fun _ _ _ _ _ => (d_lstM (da_cons d_str (da_cons d_str da_nil))))))
      (dss_cons (ds_for (passes_of rfl) rfl (di_range3 rfl T.b_range (da_cons (d_op o_sub s_sub (dv 2) d_int) (da_cons (d_un un_neg s_neg d_int) (da_cons (d_un un_neg s_neg d_int) da_nil)))) (dg_name (i := 8) sc_law.nd rfl (Or.inl rfl))
      (dss_cons (ds_set (i := 9) sc_law.nd rfl (Or.inl rfl) (d_callP G__law_cell_at (hr.mono (by decide)) hx (da_cons (dv 0) (da_cons (d_op o_mul s_mul d_int (dv 8)) da_nil))))
        (dss_mid (ds_ifE (dt_w (dw_and (dt_cmp (o_ne hr.units) (s_eq true) (d_ix ix_any s_ix (dv 4) (dv 8)) (d_lst da_nil) (nomark _)) (dw_and1 (dt_cmp (o_eq hr.units) (s_eq false) (d_op o_mod s_mod (d_callP G__law_mixed (hr.mono (by decide)) hx (da_cons (dv 9) (da_cons d_int da_nil))) d_int) d_int (nomark _)))))
        (dss_one (ds_asg d_non (dg_sub set_list ss_setL (dv 5) (dv 8))))
        dss_nil)
        (dss_cons (ds_for (passes_of rfl) rfl (di_range1 rfl T.b_range (da_cons d_int da_nil)) (dg_name (i := 10) sc_law.nd rfl (Or.inr rfl))
        (dss_mid (ds_if (dt_cmp (o_ne hr.units) (s_eq true) (d_ix ix_any s_ix (dv 4) (dv 8)) (d_lst da_nil) (nomark _))
          (dss_one (ds_asg (d_op o_add s_add (d_op o_add s_add d_str (d_m1 PySem.F.slot_str_join PySem.F.type_str_join mt_jn s_join d_str (d_lc (own := [("_law_kid", 13)]) rfl sc_law.nd (di_list (d_ix ix_any s_ix (dv 4) (dv 8))) (blkOk_by (own := [("_law_kid", 13)]) (N := ["_law_script", "_law_ups_here", "_law_many", "_law_words", "_law_kids", "_law_names_here", "_law_lengths", "_law_texts", "_law_k", "_law_cell", "_law_j", "_law_node", "_law_again", "_law_kid"]) (sc := defScope S_law) (by decide +kernel)) (fun _ _ _ _ _ => gw_name (i := 13) sc_law.nd rfl (Or.inl rfl) (by decide)) (ts_nil (K := K)) (fun _ _ _ _ _ => (d_ix ix_any s_ix (d_ix ix_any s_ix (dv 7) (dv 13)) (dv 10)))))) d_str) (dg_sub set_list ss_setL (d_ix ix_any s_ix (dv 7) (dv 8)) (dv 10))))
          dss_nil)
          (dss_one (ds_if (dt_cmp o_isnot (s_is true) (d_ix ix_any s_ix (dv 5) (dv 8)) d_non (nomark _))
          (dss_one (ds_asg (d_op o_add s_add (d_ix ix_any s_ix (d_ix ix_any s_ix (dv 7) (dv 8)) (dv 10)) (d_ix ix_any s_ix (dv 5) (dv 8))) (dg_sub set_list ss_setL (d_ix ix_any s_ix (dv 7) (dv 8)) (dv 10))))
          dss_nil))))
        (dss_one (ds_ifE (dt_w (dw_and (dt_cmp o_gt s_cmp (dv 8) d_int (nomark _)) (dw_and1 (dt_cmp o_gt s_cmp (d_op o_mod s_mod (d_callP G__law_mixed (hr.mono (by decide)) hx (da_cons (dv 9) (da_cons d_int da_nil))) d_int) d_int (nomark _)))))
        (dss_cons (ds_asg (d_callP G__law_far (hr.mono (by decide)) hx (da_cons (d_callP G__law_cell_at (hr.mono (by decide)) hx (da_cons (dv 0) (da_cons (d_op o_add s_add (d_op o_mul s_mul d_int (dv 8)) d_int) da_nil))) da_nil)) (dg_sub set_list ss_setL (dv 6) (dv 8)))
          (dss_cons (ds_asg (d_op o_add s_add (d_op o_add s_add (d_ix ix_any s_ix (d_ix ix_any s_ix (dv 7) (dv 8)) d_int) d_str) (d_callP G__law_longer_text (hr.mono (by decide)) hx (da_cons (d_ix ix_any s_ix (dv 6) (dv 8)) (da_cons (d_op o_add s_add d_int (d_op o_mod s_mod (d_callP G__law_mixed (hr.mono (by decide)) hx (da_cons (dv 9) (da_cons d_int da_nil))) d_int)) da_nil)))) (dg_sub set_list ss_setL (d_ix ix_any s_ix (dv 7) (dv 8)) d_int))
          (dss_one (ds_asg (d_op o_add s_add (d_op o_add s_add (d_ix ix_any s_ix (d_ix ix_any s_ix (dv 7) (dv 8)) d_int) d_str) (d_callP G__law_amount_text (hr.mono (by decide)) hx (da_cons (d_ix ix_any s_ix (dv 6) (dv 8)) da_nil))) (dg_sub set_list ss_setL (d_ix ix_any s_ix (dv 7) (dv 8)) d_int)))))
        dss_nil))))))
      (dss_cons (ds_set (i := 11) sc_law.nd rfl (Or.inl rfl) (d_call G_parsed (hr.mono (by decide)) hx (da_cons (d_op o_add s_add (d_ix ix_any s_ix (d_ix ix_any s_ix (dv 7) d_int) d_int) d_str) da_nil)))
      (dss_cons (ds_ifE (dt_w (dw_or (dt_not (dt_val (d_callL G__law_nodes_are (hr.mono (by decide)) hx (da_cons (dv 11) (da_cons (dv 4) (da_cons (dv 5) (da_cons (dv 6) da_nil))))))) (dw_or1 (dt_cmp (o_ne hr.units) (s_eq true) (d_mthV0L (P := P) (w := w) (K := K) (mg := mg) (base := base) (k := 202) (dv 11) (hr.mono (by decide)) hx) (d_ix ix_any s_ix (d_ix ix_any s_ix (dv 7) d_int) d_int) (nomark _)))))
      (dss_one (ds_ret d_bl))
      dss_nil)
      (dss_cons (ds_expr (d_bm (isT := isL) PySem.F.plainAttrs_list PySem.F.slot_list_append PySem.F.type_list_append mt_append s_append (fun w v x => tyV_L) (d_mthV0L (P := P) (w := w) (K := K) (mg := mg) (base := base) (k := 102) (dv 11) (hr.mono (by decide)) hx) (da_cons d_str da_nil)))
      (dss_mid (ds_if (dt_cmp (o_ne hr.units) (s_eq true) (d_ix ix_any s_ix (dv 4) d_int) (d_lst da_nil) (nomark _))
      (dss_one (ds_expr (d_bm0 (isT := isL) PySem.F.plainAttrs_list PySem.F.slot_list_clear PySem.F.type_list_clear mt_clear s_clear (fun w v x => tyV_L) (d_fldK (K := K) (dv 11)))))
      dss_nil)
      (dss_cons (ds_set (i := 12) sc_law.nd rfl (Or.inl rfl) (d_call G_parsed (hr.mono (by decide)) hx (da_cons (d_op o_add s_add (d_ix ix_any s_ix (d_ix ix_any s_ix (dv 7) d_int) d_int) d_str) da_nil)))
      (dss_one (ds_ret (d_and (d_callL G__law_nodes_are (hr.mono (by decide)) hx (da_cons (dv 12) (da_cons (dv 4) (da_cons (dv 5) (da_cons (dv 6) da_nil))))) (d_one (d_cmp (o_eq hr.units) (s_eq false) (d_mthV0L (P := P) (w := w) (K := K) (mg := mg) (base := base) (k := 202) (dv 12) (hr.mono (by decide)) hx) (d_ix ix_any s_ix (d_ix ix_any s_ix (dv 7) d_int) d_int) (nomark _))))))))))))))))))), fun q ex h => ?_⟩
    obtain ⟨ns, rfl, hn, h⟩ := h
    simp only [dSeq, dNext, dRet, dRetN, dIfS, dDrop, dOp, dV, dC, dUn, dTest, dAnd, dOr, dNot, dAndV, dOrV, dNotV, dIf, dCB, dCons, dNil, dTup, dLst, dCallP, dAsg, qName, qCons, qNil, qTup, dPar, dAug, dMth, dM1, dSl, dPart, dNoPart, dYes, startR, List.map_cons, List.map_nil, List.length_cons, List.length_nil, List.replicate, List.cons_append, List.nil_append, List.append_nil, List.getElem?_cons_zero, List.getElem?_cons_succ, List.set_cons_zero, List.set_cons_succ, List.set_nil, dAdd, dSub, dMul, dMod, dFdv, dPow, dShl, dShr, dBit, dLt, dCmp, dNeg, Nat.reduceAdd, Nat.reduceSub, Nat.zero_add, rd_len_scr, rd_len_lst, rd_len_tup, rd_len_str, rd_eq_int, rd_eq_str, rd_eq_bl, rd_eq_nn, rd_eq_ns, rd_eq_sn, rd_eq_ni, rd_eq_in, rd_eq_nt, rd_eq_tn, rd_eq_pair, rd_is_non, rd_is_bl, rd_str_int, rd_int_int, rd_int_bl, rd_ix0, rd_ix1, rd_lix0, rd_lix1, rd_list_lst, rd_list_tup, rd_listM_lst, rd_tuple_lst, DL.isNon, wipeR, if_true, if_false, Bool.false_eq_true, Bool.not_true, Bool.not_false, reduceIte]
    refine ⟨ns, 0, rfl, by decide, hn, by show (0 : Int) < 9; decide, ?_⟩
    have e9 : 1 + ((cellN ns 0 : Nat) : Int) % 9 = ((1 + cellN ns 0 % 9 : Nat) : Int) := by omega
    rw [e9]
    refine ⟨ns, 1 + cellN ns 0 % 9, rfl, hn, by omega, by omega, fun ups hu1 hu41 hu => ?_⟩
    refine len_lst ?_
    rw [List.length_map]
    refine ⟨ns, 0, rfl, by decide, hn, cellN ns 0, 1000003, rfl, cellN_lt _ _, by decide, mixN (cellN ns 0) 1000003, ups.length, rfl, Nat.lt_trans (Nat.mod_lt _ (by decide)) (by decide), ⟨hu1, by omega⟩, ?_⟩
    have hwl := namesN_len (mixN (cellN ns 0) 1000003) ups.length
    have hwo := namesN_ok (mixN (cellN ns 0) 1000003) ups.length
    generalize namesN (mixN (cellN ns 0) 1000003) ups.length = ws at hwl hwo ⊢
    obtain ⟨m, hm⟩ : ∃ m, m = ups.length := ⟨_, rfl⟩
    rw [← hm] at hwl hu1 hu41 ⊢
    obtain ⟨kd, hkd0⟩ : ∃ kd, kd = kidsU m ups := ⟨_, rfl⟩
    have hkd := kidsU_mem hm.symm hu
    rw [← hkd0] at hkd
    -- the kids
    simp only [dSeq, dNext, dRet, dRetN, dIfS, dDrop, dOp, dV, dC, dUn, dTest, dAnd, dOr, dNot, dAndV, dOrV, dNotV, dIf, dCB, dCons, dNil, dTup, dLst, dCallP, dAsg, qName, qCons, qNil, qTup, dPar, dAug, dMth, dM1, dSl, dPart, dNoPart, dYes, startR, List.map_cons, List.map_nil, List.length_cons, List.length_nil, List.replicate, List.cons_append, List.nil_append, List.append_nil, List.getElem?_cons_zero, List.getElem?_cons_succ, List.set_cons_zero, List.set_cons_succ, List.set_nil, dAdd, dSub, dMul, dMod, dFdv, dPow, dShl, dShr, dBit, dLt, dCmp, dNeg, Nat.reduceAdd, Nat.reduceSub, Nat.zero_add, rd_len_scr, rd_len_lst, rd_len_tup, rd_len_str, rd_eq_int, rd_eq_str, rd_eq_bl, rd_eq_nn, rd_eq_ns, rd_eq_sn, rd_eq_ni, rd_eq_in, rd_eq_nt, rd_eq_tn, rd_eq_pair, rd_is_non, rd_is_bl, rd_str_int, rd_int_int, rd_int_bl, rd_ix0, rd_ix1, rd_lix0, rd_lix1, rd_list_lst, rd_list_tup, rd_listM_lst, rd_tuple_lst, DL.isNon, wipeR, if_true, if_false, Bool.false_eq_true, Bool.not_true, Bool.not_false, reduceIte, dLc, dRng1]
    refine ⟨⟨by omega, by omega⟩, ?_⟩
    rw [intsD_nat]
    refine lc_mapG _ (fun k : Nat => .lst ((kd k).map fun j => .int (j : Nat))) _ _ (by rw [List.length_nil, List.length_range]; omega) (fun k hk Q hQ => ?_) ?_
    · simp only [dSeq, dNext, dRet, dRetN, dIfS, dDrop, dOp, dV, dC, dUn, dTest, dAnd, dOr, dNot, dAndV, dOrV, dNotV, dIf, dCB, dCons, dNil, dTup, dLst, dCallP, dAsg, qName, qCons, qNil, qTup, dPar, dAug, dMth, dM1, dSl, dPart, dNoPart, dYes, startR, List.map_cons, List.map_nil, List.length_cons, List.length_nil, List.replicate, List.cons_append, List.nil_append, List.append_nil, List.getElem?_cons_zero, List.getElem?_cons_succ, List.set_cons_zero, List.set_cons_succ, List.set_nil, dAdd, dSub, dMul, dMod, dFdv, dPow, dShl, dShr, dBit, dLt, dCmp, dNeg, Nat.reduceAdd, Nat.reduceSub, Nat.zero_add, rd_len_scr, rd_len_lst, rd_len_tup, rd_len_str, rd_eq_int, rd_eq_str, rd_eq_bl, rd_eq_nn, rd_eq_ns, rd_eq_sn, rd_eq_ni, rd_eq_in, rd_eq_nt, rd_eq_tn, rd_eq_pair, rd_is_non, rd_is_bl, rd_str_int, rd_int_int, rd_int_bl, rd_ix0, rd_ix1, rd_lix0, rd_lix1, rd_list_lst, rd_list_tup, rd_listM_lst, rd_tuple_lst, DL.isNon, wipeR, if_true, if_false, Bool.false_eq_true, Bool.not_true, Bool.not_false, reduceIte, dRng2]
      refine ⟨⟨⟨by decide, by decide⟩, by omega, by omega⟩, ?_⟩
      have hint : intsD 1 1 ((m : Int) - 1).toNat = ((List.range (m - 1)).map (· + 1)).map fun j => D.int ((j : Nat) : Int) := by
        unfold intsD
        rw [show ((m : Int) - 1).toNat = m - 1 by omega, List.map_map]
        refine List.map_congr_left fun k _ => ?_
        show D.int (1 + (k : Int) * 1) = D.int (((k + 1 : Nat)) : Int)
        congr 1
        omega
      rw [hint]
      refine lc_filterG _ (fun j : Nat => .int (j : Nat)) (fun j => ups.getD j 0 == k) _ _ (by rw [List.length_nil, List.length_map, List.length_range]; omega) (fun j hj Q2 hQ2 => ?_) (fun j hj _ Q2 hQ2 => ?_) ?_
      · obtain ⟨i, hi, rfl⟩ := List.mem_map.mp hj
        rw [List.mem_range] at hi
        simp only [dSeq, dNext, dRet, dRetN, dIfS, dDrop, dOp, dV, dC, dUn, dTest, dAnd, dOr, dNot, dAndV, dOrV, dNotV, dIf, dCB, dCons, dNil, dTup, dLst, dCallP, dAsg, qName, qCons, qNil, qTup, dPar, dAug, dMth, dM1, dSl, dPart, dNoPart, dYes, startR, List.map_cons, List.map_nil, List.length_cons, List.length_nil, List.replicate, List.cons_append, List.nil_append, List.append_nil, List.getElem?_cons_zero, List.getElem?_cons_succ, List.set_cons_zero, List.set_cons_succ, List.set_nil, dAdd, dSub, dMul, dMod, dFdv, dPow, dShl, dShr, dBit, dLt, dCmp, dNeg, Nat.reduceAdd, Nat.reduceSub, Nat.zero_add, rd_len_scr, rd_len_lst, rd_len_tup, rd_len_str, rd_eq_int, rd_eq_str, rd_eq_bl, rd_eq_nn, rd_eq_ns, rd_eq_sn, rd_eq_ni, rd_eq_in, rd_eq_nt, rd_eq_tn, rd_eq_pair, rd_is_non, rd_is_bl, rd_str_int, rd_int_int, rd_int_bl, rd_ix0, rd_ix1, rd_lix0, rd_lix1, rd_list_lst, rd_list_tup, rd_listM_lst, rd_tuple_lst, DL.isNon, wipeR, if_true, if_false, Bool.false_eq_true, Bool.not_true, Bool.not_false, reduceIte]
        have hlt : i + 1 < ups.length := by omega
        refine ix_map (x := ups.getD (i + 1) 0) (by rw [List.getD_eq_getElem?_getD, List.getElem?_eq_getElem hlt]; rfl) ?_
        rw [rd_eq_int, eq_i]
        exact hQ2
      · simp only [dSeq, dNext, dRet, dRetN, dIfS, dDrop, dOp, dV, dC, dUn, dTest, dAnd, dOr, dNot, dAndV, dOrV, dNotV, dIf, dCB, dCons, dNil, dTup, dLst, dCallP, dAsg, qName, qCons, qNil, qTup, dPar, dAug, dMth, dM1, dSl, dPart, dNoPart, dYes, startR, List.map_cons, List.map_nil, List.length_cons, List.length_nil, List.replicate, List.cons_append, List.nil_append, List.append_nil, List.getElem?_cons_zero, List.getElem?_cons_succ, List.set_cons_zero, List.set_cons_succ, List.set_nil, dAdd, dSub, dMul, dMod, dFdv, dPow, dShl, dShr, dBit, dLt, dCmp, dNeg, Nat.reduceAdd, Nat.reduceSub, Nat.zero_add, rd_len_scr, rd_len_lst, rd_len_tup, rd_len_str, rd_eq_int, rd_eq_str, rd_eq_bl, rd_eq_nn, rd_eq_ns, rd_eq_sn, rd_eq_ni, rd_eq_in, rd_eq_nt, rd_eq_tn, rd_eq_pair, rd_is_non, rd_is_bl, rd_str_int, rd_int_int, rd_int_bl, rd_ix0, rd_ix1, rd_lix0, rd_lix1, rd_list_lst, rd_list_tup, rd_listM_lst, rd_tuple_lst, DL.isNon, wipeR, if_true, if_false, Bool.false_eq_true, Bool.not_true, Bool.not_false, reduceIte]
        exact hQ2
      · rw [List.nil_append]
        have : kd k = ((List.range (m - 1)).map (· + 1)).filter fun j => ups.getD j 0 == k := by rw [hkd0]; rfl
        rw [← this]
        exact hQ
    rw [List.nil_append]
    obtain ⟨wd, hwd⟩ : ∃ wd : Nat → Str, ∀ j, j < m → ws[j]? = some (wd j) := ⟨fun j => ws.getD j ⟨#[]⟩, fun j hj => by show ws[j]? = some (ws.getD j ⟨#[]⟩); rw [List.getD_eq_getElem?_getD, List.getElem?_eq_getElem (by omega)]; rfl⟩
    have hwo2 : ∀ j, j < m → okName (wd j) := fun j hj => hwo _ (List.mem_of_getElem? (hwd j hj))
    obtain ⟨nms, hnms⟩ : ∃ nms, nms = nmsN ns kd wd := ⟨_, rfl⟩
    obtain ⟨G, hG0⟩ : ∃ G, G = trG m kd nms (lnsN ns) := ⟨_, rfl⟩
    have hG : ∀ k, k < m → G k = .nd ((kd k).map G) (nms k) (lnsN ns k) := fun k hk => by rw [hG0]; exact trG_eq hkd hk
    have hgood : ∀ k, k < m → GoodR (G k) := fun k hk => by
      rw [hG0]
      refine trG_good hkd (fun k hk e => ?_) (fun k z hk e => ?_) (fun k p hk e => lns_ok ns k p e) m k hk (by omega)
      · rw [hnms]; unfold nmsN
        rw [if_neg (fun z => z.1 e)]
        exact fun z => by cases z
      · rw [hnms] at e; unfold nmsN at e
        split at e
        · cases e
        · cases e; exact hwo2 k hk
    have hhgt : ∀ k, k < m → hgt (G k) + k + 1 ≤ m := fun k hk => by rw [hG0]; exact trG_hgt hkd m k hk (by omega)
    have hcnt : ∀ k, k < m → cnt (G k) ≤ m := fun k hk => by rw [hG0, hkd0]; exact trG_cnt hm.symm hu hu1 k hk
    -- names, lengths, texts
    simp only [dSeq, dNext, dRet, dRetN, dIfS, dDrop, dOp, dV, dC, dUn, dTest, dAnd, dOr, dNot, dAndV, dOrV, dNotV, dIf, dCB, dCons, dNil, dTup, dLst, dCallP, dAsg, qName, qCons, qNil, qTup, dPar, dAug, dMth, dM1, dSl, dPart, dNoPart, dYes, startR, List.map_cons, List.map_nil, List.length_cons, List.length_nil, List.replicate, List.cons_append, List.nil_append, List.append_nil, List.getElem?_cons_zero, List.getElem?_cons_succ, List.set_cons_zero, List.set_cons_succ, List.set_nil, dAdd, dSub, dMul, dMod, dFdv, dPow, dShl, dShr, dBit, dLt, dCmp, dNeg, Nat.reduceAdd, Nat.reduceSub, Nat.zero_add, rd_len_scr, rd_len_lst, rd_len_tup, rd_len_str, rd_eq_int, rd_eq_str, rd_eq_bl, rd_eq_nn, rd_eq_ns, rd_eq_sn, rd_eq_ni, rd_eq_in, rd_eq_nt, rd_eq_tn, rd_eq_pair, rd_is_non, rd_is_bl, rd_str_int, rd_int_int, rd_int_bl, rd_ix0, rd_ix1, rd_lix0, rd_lix1, rd_list_lst, rd_list_tup, rd_listM_lst, rd_tuple_lst, DL.isNon, wipeR, if_true, if_false, Bool.false_eq_true, Bool.not_true, Bool.not_false, reduceIte, dLcM, dRng1]
    refine ⟨⟨by omega, by omega⟩, ?_⟩
    rw [intsD_nat]
    refine lc_mapG _ (fun k : Nat => .str (wd k)) _ _ (by rw [List.length_nil, List.length_range]; omega) (fun k hk Q hQ => ?_) ?_
    · rw [List.mem_range] at hk
      simp only [dSeq, dNext, dRet, dRetN, dIfS, dDrop, dOp, dV, dC, dUn, dTest, dAnd, dOr, dNot, dAndV, dOrV, dNotV, dIf, dCB, dCons, dNil, dTup, dLst, dCallP, dAsg, qName, qCons, qNil, qTup, dPar, dAug, dMth, dM1, dSl, dPart, dNoPart, dYes, startR, List.map_cons, List.map_nil, List.length_cons, List.length_nil, List.replicate, List.cons_append, List.nil_append, List.append_nil, List.getElem?_cons_zero, List.getElem?_cons_succ, List.set_cons_zero, List.set_cons_succ, List.set_nil, dAdd, dSub, dMul, dMod, dFdv, dPow, dShl, dShr, dBit, dLt, dCmp, dNeg, Nat.reduceAdd, Nat.reduceSub, Nat.zero_add, rd_len_scr, rd_len_lst, rd_len_tup, rd_len_str, rd_eq_int, rd_eq_str, rd_eq_bl, rd_eq_nn, rd_eq_ns, rd_eq_sn, rd_eq_ni, rd_eq_in, rd_eq_nt, rd_eq_tn, rd_eq_pair, rd_is_non, rd_is_bl, rd_str_int, rd_int_int, rd_int_bl, rd_ix0, rd_ix1, rd_lix0, rd_lix1, rd_list_lst, rd_list_tup, rd_listM_lst, rd_tuple_lst, DL.isNon, wipeR, if_true, if_false, Bool.false_eq_true, Bool.not_true, Bool.not_false, reduceIte]
      exact ix_map (hwd k hk) hQ
    intro l1 hl1
    refine ⟨⟨by omega, by omega⟩, ?_⟩
    refine lc_mapG _ (fun _ : Nat => .non) _ _ (by rw [List.length_nil, List.length_range]; omega) (fun k hk Q hQ => ?_) ?_
    · simp only [dSeq, dNext, dRet, dRetN, dIfS, dDrop, dOp, dV, dC, dUn, dTest, dAnd, dOr, dNot, dAndV, dOrV, dNotV, dIf, dCB, dCons, dNil, dTup, dLst, dCallP, dAsg, qName, qCons, qNil, qTup, dPar, dAug, dMth, dM1, dSl, dPart, dNoPart, dYes, startR, List.map_cons, List.map_nil, List.length_cons, List.length_nil, List.replicate, List.cons_append, List.nil_append, List.append_nil, List.getElem?_cons_zero, List.getElem?_cons_succ, List.set_cons_zero, List.set_cons_succ, List.set_nil, dAdd, dSub, dMul, dMod, dFdv, dPow, dShl, dShr, dBit, dLt, dCmp, dNeg, Nat.reduceAdd, Nat.reduceSub, Nat.zero_add, rd_len_scr, rd_len_lst, rd_len_tup, rd_len_str, rd_eq_int, rd_eq_str, rd_eq_bl, rd_eq_nn, rd_eq_ns, rd_eq_sn, rd_eq_ni, rd_eq_in, rd_eq_nt, rd_eq_tn, rd_eq_pair, rd_is_non, rd_is_bl, rd_str_int, rd_int_int, rd_int_bl, rd_ix0, rd_ix1, rd_lix0, rd_lix1, rd_list_lst, rd_list_tup, rd_listM_lst, rd_tuple_lst, DL.isNon, wipeR, if_true, if_false, Bool.false_eq_true, Bool.not_true, Bool.not_false, reduceIte]
      exact hQ
    intro l2 hl2
    refine ⟨⟨by omega, by omega⟩, ?_⟩
    try simp only [List.nil_append] at hl2
    try simp only [List.nil_append]
    have f1 := (Fam.none (adr := fun _ => 0) (con := fun _ => []) (M := M0)).put (i := (0, 0)) (v := (List.range m).map fun k => D.str (wd k)) hl1
    have f2 := f1.put (i := (1, 0)) (v := (List.range m).map fun _ => D.non) hl2
    have f3 := f2.mono (S' := fun x => (x.1 < 2 ∧ x.2 ≤ 0) ∨ (x.1 = 2 ∧ 1 ≤ x.2 ∧ x.2 ≤ 0)) fun x hx => by
      rcases hx with ⟨h1, h2⟩ | ⟨h1, h2, h3⟩
      · rcases Nat.lt_or_ge x.1 1 with h3 | h3
        · exact .inl (.inr (Prod.ext (by omega) (by omega)))
        · exact .inr (Prod.ext (by omega) (by omega))
      · omega
    refine lc_newsG (c := 2) (m := 0) (v := [.str (Str.ofString ""), .str (Str.ofString "")]) (fun ρ M Q hQ => ?_) _ 0 _ _ _ (by rw [List.length_map, List.length_range]; omega) f3 (fun _ _ => ⟨rfl, rfl⟩) (fun j hj => absurd hj (Nat.not_lt_zero _)) fun M' adr' con' g1 g2 g3 l3 hl3 => ?_
    · simp only [dSeq, dNext, dRet, dRetN, dIfS, dDrop, dOp, dV, dC, dUn, dTest, dAnd, dOr, dNot, dAndV, dOrV, dNotV, dIf, dCB, dCons, dNil, dTup, dLst, dCallP, dAsg, qName, qCons, qNil, qTup, dPar, dAug, dMth, dM1, dSl, dPart, dNoPart, dYes, startR, List.map_cons, List.map_nil, List.length_cons, List.length_nil, List.replicate, List.cons_append, List.nil_append, List.append_nil, List.getElem?_cons_zero, List.getElem?_cons_succ, List.set_cons_zero, List.set_cons_succ, List.set_nil, dAdd, dSub, dMul, dMod, dFdv, dPow, dShl, dShr, dBit, dLt, dCmp, dNeg, Nat.reduceAdd, Nat.reduceSub, Nat.zero_add, rd_len_scr, rd_len_lst, rd_len_tup, rd_len_str, rd_eq_int, rd_eq_str, rd_eq_bl, rd_eq_nn, rd_eq_ns, rd_eq_sn, rd_eq_ni, rd_eq_in, rd_eq_nt, rd_eq_tn, rd_eq_pair, rd_is_non, rd_is_bl, rd_str_int, rd_int_int, rd_int_bl, rd_ix0, rd_ix1, rd_lix0, rd_lix1, rd_list_lst, rd_list_tup, rd_listM_lst, rd_tuple_lst, DL.isNon, wipeR, if_true, if_false, Bool.false_eq_true, Bool.not_true, Bool.not_false, reduceIte, dLstM]
      exact ⟨by rw [sizeLine_eq]; decide, hQ⟩
    rw [List.length_map, List.length_range, Nat.zero_add] at g1 g3 ⊢
    have g4 := (g1.put (i := (2, 0)) (v := (List.range m).map fun j => D.ref (adr' (2, j + 1))) hl3)
    have eA : fset adr' (2, 0) l3 (0, 0) = l1 := by
      rw [fset_ne (by simp), (g2 (0, 0) (by decide)).1, fset_ne (by simp), fset_same]
    have eB : fset adr' (2, 0) l3 (1, 0) = l2 := by
      rw [fset_ne (by simp), (g2 (1, 0) (by decide)).1, fset_same]
    have eC : fset adr' (2, 0) l3 (2, 0) = l3 := fset_same
    have s0 : S2 m wd nms (lnsL ns) G m (updM M' l3 (.lst ((List.range m).map fun j => D.ref (adr' (2, j + 1))))) (fset adr' (2, 0) l3) (fset con' (2, 0) ((List.range m).map fun j => D.ref (adr' (2, j + 1)))) := by
      refine ⟨⟨?_, ?_⟩, ?_, ?_, fun j hj => ?_, fun j h1 h2 => absurd h2 (by omega)⟩
      · refine g4.mono fun x hx => ?_
        rcases hx with hx | ⟨h1, h2⟩
        · exact .inl (.inl hx)
        · by_cases h3 : x.2 = 0
          · exact .inr (Prod.ext h1 h3)
          · exact .inl (.inr ⟨h1, by omega, h2⟩)
      · rw [fset_same]
        refine List.map_congr_left fun j _ => ?_
        rw [fset_ne (by simp)]
      · rw [fset_ne (by simp), (g2 (0, 0) (by decide)).2, fset_ne (by simp), fset_same]
        unfold nmC
        refine List.map_congr_left fun j hj => ?_
        rw [List.mem_range] at hj
        rw [if_neg (by omega)]
      · rw [fset_ne (by simp), (g2 (1, 0) (by decide)).2, fset_same]
        unfold lnC
        refine List.map_congr_left fun j hj => ?_
        rw [List.mem_range] at hj
        rw [if_neg (by omega)]
      · rw [fset_ne (by simp), g3 j hj]
    rw [show some (D.ref l1) = some (D.ref (fset adr' (2, 0) l3 (0, 0))) by rw [eA], show some (D.ref l2) = some (D.ref (fset adr' (2, 0) l3 (1, 0))) by rw [eB], show some (D.ref l3) = some (D.ref (fset adr' (2, 0) l3 (2, 0))) by rw [eC]]
    generalize fset adr' (2, 0) l3 = adr at s0 ⊢
    generalize fset con' (2, 0) ((List.range m).map fun j => D.ref (adr' (2, j + 1))) = con at s0
    generalize updM M' l3 (.lst ((List.range m).map fun j => D.ref (adr' (2, j + 1)))) = M1 at s0 ⊢
    clear g1 g2 g3 g4 eA eB eC hl3 f1 f2 f3 hl1 hl2
    simp only [dSeq, dNext, dRet, dRetN, dIfS, dDrop, dOp, dV, dC, dUn, dTest, dAnd, dOr, dNot, dAndV, dOrV, dNotV, dIf, dCB, dCons, dNil, dTup, dLst, dCallP, dAsg, qName, qCons, qNil, qTup, dPar, dAug, dMth, dM1, dSl, dPart, dNoPart, dYes, startR, List.map_cons, List.map_nil, List.length_cons, List.length_nil, List.replicate, List.cons_append, List.nil_append, List.append_nil, List.getElem?_cons_zero, List.getElem?_cons_succ, List.set_cons_zero, List.set_cons_succ, List.set_nil, dAdd, dSub, dMul, dMod, dFdv, dPow, dShl, dShr, dBit, dLt, dCmp, dNeg, Nat.reduceAdd, Nat.reduceSub, Nat.zero_add, rd_len_scr, rd_len_lst, rd_len_tup, rd_len_str, rd_eq_int, rd_eq_str, rd_eq_bl, rd_eq_nn, rd_eq_ns, rd_eq_sn, rd_eq_ni, rd_eq_in, rd_eq_nt, rd_eq_tn, rd_eq_pair, rd_is_non, rd_is_bl, rd_str_int, rd_int_int, rd_int_bl, rd_ix0, rd_ix1, rd_lix0, rd_lix1, rd_list_lst, rd_list_tup, rd_listM_lst, rd_tuple_lst, DL.isNon, wipeR, if_true, if_false, Bool.false_eq_true, Bool.not_true, Bool.not_false, reduceIte, dFor, dRng3]
    have hrg := RgC.neg (i := (m : Int) - 1) (j := -1) (by omega) (by omega) (by decide) (by decide)
    rw [show ((m : Int) - 1 - -1).toNat = m by omega] at hrg
    refine ⟨m, hrg, ?_⟩
    rw [intsD_down]
    refine each_ind (fun xs ρ M => ∃ n con x8 x9 x10 x11 x12 x13, xs = downs n ∧ n ≤ m ∧ S2 m wd nms (lnsL ns) G n M adr con ∧ ρ = Rl ns ups m ws kd (adr (0, 0)) (adr (1, 0)) (adr (2, 0)) x8 x9 x10 x11 x12 x13) ?_ ?_ _ _ _ ⟨m, con, none, none, none, none, none, none, rfl, Nat.le_refl _, s0, rfl⟩
    · rintro ρ M ⟨n, con, x8, x9, x10, x11, x12, x13, hn0, _, hS, rfl⟩
      obtain rfl : n = 0 := by
        cases n with
        | zero => rfl
        | succ n => cases hn0
      have hl0 : lnO (G 0) = none := by
        rw [hG 0 hu1]
        show lnsN ns 0 = none
        unfold lnsN
        rw [if_neg (by omega)]
      have hch : (shown (G 0)).cps.toList = pcL (G 0) := by
        rw [shown_L, hl0]
        exact List.append_nil _
      have hb1 := shown_len _ (good_R _ (hgood 0 hu1))
      have hb2 := hcnt 0 hu1
      have hb3 := hhgt 0 hu1
      have hs1 : (Str.ofString ";").length = 1 := rfl
      have hcat : (shown (G 0) ++ Str.ofString ";").cps.toList = pcL (G 0) ++ [59] := by
        have := TL.tl_append (shown (G 0)) (Str.ofString ";")
        unfold TL.tl at this
        rw [this, hch]
        rfl
      have hGN : ∀ k, k < m → norm (G k) = .nd ((kd k).map fun k => norm (G k)) (nms k) (lnsL ns k) := fun k hk => by
        rw [hG k hk, norm, norms_of, lns_low]
      have htx : ∀ (M' : MS) (i : Nat) (z : Str) (Q : QX), Sq m M' adr con → [D.str (shown (G 0)), D.str (shown (norm (G 0)))][i]? = some (.str z) → Q (.str z) M' → ∀ Q0 : QX, (∀ d, d = .ref (adr (2, 1)) → Q0 d M') → dIx (.ref (adr (2, 0))) (.int 0) M' Q0 := fun M' i z Q sqq _ _ Q0 hQ0 => sqq.ix (j := 0) hu1 (hQ0 _ rfl)
      have hti : ∀ (M' : MS) (i : Nat) (z : Str) (Q : QX), Sq m M' adr con → [D.str (shown (G 0)), D.str (shown (norm (G 0)))][i]? = some (.str z) → Q (.str z) M' → dIx (.ref (adr (2, 1))) (.int (i : Nat)) M' Q := fun M' i z Q sqq hz hQ => by
        refine ix_ref (sqq.lkT hu1) (by omega) (d := .str z) ?_ hQ
        rw [hS.cT1 0 (Nat.zero_le _) hu1, Int.toNat_natCast]
        exact hz
      have hadr : ∀ (M' : MS) (y : Addr) (N : MS), Sq m N adr con → NodeAt CT CJ (G 0) .non N M' y → Fzs M' [.ref y, .lst ((List.range m).map fun k => .lst ((kd k).map fun j => .int (j : Nat))), .ref (adr (0, 0)), .ref (adr (1, 0))]
          [toD CT CJ (norm (G 0)), .lst ((List.range m).map fun k => .lst ((kd k).map fun j => .int (j : Nat))), .lst ((List.range m).map fun k => nmD (nms k)), .lst ((List.range m).map fun k => lnD (lnsL ns k))] := fun M' y N sqq hN => by
        have k0 := hN.sub _ _ (sqq.lkA (k := 0) (by decide))
        have k1 := hN.sub _ _ (sqq.lkA (k := 1) (by decide))
        rw [hS.cN, nmC0] at k0
        rw [hS.cL, lnC0] at k1
        exact .cons (hN.fz hl0) (.cons (.same _) (.cons (.lst k0 (Fzs.refl _ _)) (.cons (.lst k1 (Fzs.refl _ _)) .nil)))
      have hnodes : ∀ (q' : D → Prop) ex', q' (.bl true) → pNodesAre CT CJ [toD CT CJ (norm (G 0)), .lst ((List.range m).map fun k => .lst ((kd k).map fun j => .int (j : Nat))), .lst ((List.range m).map fun k => nmD (nms k)), .lst ((List.range m).map fun k => lnD (lnsL ns k))] q' ex' := fun q' ex' hq' =>
        ⟨m, kd, fun k => norm (G k), nms, lnsL ns, rfl, hu1, hGN, fun k hk j hj => (hkd k j hj).2, by rw [cnt_norm]; omega, hq'⟩
      have hparse : ∀ (q' : QX) (N : MS), (∀ M2 y, NodeAt CT CJ (G 0) .non N M2 y → q' (.ref y) M2) → ∀ ex', pParsed CT CJ [.str (shown (G 0) ++ Str.ofString ";")] N q' ex' := fun q' N hq' ex' =>
        ⟨_, G 0, rfl, hcat, by rw [Str.length_append]; omega, hgood 0 hu1, by omega, by omega, hq'⟩
      have hshown : ∀ (q' : D → Prop) ex', q' (.str (shown (norm (G 0)))) → pShown CT CJ 100 [toD CT CJ (norm (G 0))] q' ex' := fun q' ex' hq' =>
        ⟨_, rfl, good_R _ (goodR_norm _ (hgood 0 hu1)), by rw [cnt_norm]; omega, by decide, hq'⟩
      have hmt : ∀ C, C = CT ∨ C = CJ → Cls K C ∧ MtG P w K mg base 202 C "shown" [] (fsP (pShown CT CJ 100)) ∧ MtG P w K mg base 102 C "names" [] (pNamesF CT CJ 100) := fun C hC => by
        rcases hC with rfl | rfl
        · exact ⟨T.cT, gT, nT⟩
        · exact ⟨T.cJ, gJ, nJ⟩
      have sq := hS.sq
      simp only [dSeq, dNext, dRet, dRetN, dIfS, dDrop, dOp, dV, dC, dUn, dTest, dAnd, dOr, dNot, dAndV, dOrV, dNotV, dIf, dCB, dCons, dNil, dTup, dLst, dCallP, dAsg, qName, qCons, qNil, qTup, dPar, dAug, dMth, dM1, dSl, dPart, dNoPart, dYes, startR, List.map_cons, List.map_nil, List.length_cons, List.length_nil, List.replicate, List.cons_append, List.nil_append, List.append_nil, List.getElem?_cons_zero, List.getElem?_cons_succ, List.set_cons_zero, List.set_cons_succ, List.set_nil, dAdd, dSub, dMul, dMod, dFdv, dPow, dShl, dShr, dBit, dLt, dCmp, dNeg, Nat.reduceAdd, Nat.reduceSub, Nat.zero_add, rd_len_scr, rd_len_lst, rd_len_tup, rd_len_str, rd_eq_int, rd_eq_str, rd_eq_bl, rd_eq_nn, rd_eq_ns, rd_eq_sn, rd_eq_ni, rd_eq_in, rd_eq_nt, rd_eq_tn, rd_eq_pair, rd_is_non, rd_is_bl, rd_str_int, rd_int_int, rd_int_bl, rd_ix0, rd_ix1, rd_lix0, rd_lix1, rd_list_lst, rd_list_tup, rd_listM_lst, rd_tuple_lst, DL.isNon, wipeR, if_true, if_false, Bool.false_eq_true, Bool.not_true, Bool.not_false, reduceIte, Rl]
      refine call_of (ds := [.str (shown (G 0) ++ Str.ofString ";")]) (fun Q' Ex' q => ?_) (hparse _ M (fun M2 y hN => ?_) _)
      · simp only [dSeq, dNext, dRet, dRetN, dIfS, dDrop, dOp, dV, dC, dUn, dTest, dAnd, dOr, dNot, dAndV, dOrV, dNotV, dIf, dCB, dCons, dNil, dTup, dLst, dCallP, dAsg, qName, qCons, qNil, qTup, dPar, dAug, dMth, dM1, dSl, dPart, dNoPart, dYes, startR, List.map_cons, List.map_nil, List.length_cons, List.length_nil, List.replicate, List.cons_append, List.nil_append, List.append_nil, List.getElem?_cons_zero, List.getElem?_cons_succ, List.set_cons_zero, List.set_cons_succ, List.set_nil, dAdd, dSub, dMul, dMod, dFdv, dPow, dShl, dShr, dBit, dLt, dCmp, dNeg, Nat.reduceAdd, Nat.reduceSub, Nat.zero_add, rd_len_scr, rd_len_lst, rd_len_tup, rd_len_str, rd_eq_int, rd_eq_str, rd_eq_bl, rd_eq_nn, rd_eq_ns, rd_eq_sn, rd_eq_ni, rd_eq_in, rd_eq_nt, rd_eq_tn, rd_eq_pair, rd_is_non, rd_is_bl, rd_str_int, rd_int_int, rd_int_bl, rd_ix0, rd_ix1, rd_lix0, rd_lix1, rd_list_lst, rd_list_tup, rd_listM_lst, rd_tuple_lst, DL.isNon, wipeR, if_true, if_false, Bool.false_eq_true, Bool.not_true, Bool.not_false, reduceIte]
        exact sq.ix (j := 0) hu1 (hti M 0 _ _ sq rfl ⟨by rw [hs1, sizeLine_eq]; omega, q⟩)
      simp only [joinM_ext hN.sub]
      obtain ⟨C, cns, ces, k1, k2, k3, k4⟩ := hN.cls
      have hc := hmt C k2
      have sq2 := sq.keep hN.sub
      refine ifE_of false ?_ ?_
      · simp only [dSeq, dNext, dRet, dRetN, dIfS, dDrop, dOp, dV, dC, dUn, dTest, dAnd, dOr, dNot, dAndV, dOrV, dNotV, dIf, dCB, dCons, dNil, dTup, dLst, dCallP, dAsg, qName, qCons, qNil, qTup, dPar, dAug, dMth, dM1, dSl, dPart, dNoPart, dYes, startR, List.map_cons, List.map_nil, List.length_cons, List.length_nil, List.replicate, List.cons_append, List.nil_append, List.append_nil, List.getElem?_cons_zero, List.getElem?_cons_succ, List.set_cons_zero, List.set_cons_succ, List.set_nil, dAdd, dSub, dMul, dMod, dFdv, dPow, dShl, dShr, dBit, dLt, dCmp, dNeg, Nat.reduceAdd, Nat.reduceSub, Nat.zero_add, rd_len_scr, rd_len_lst, rd_len_tup, rd_len_str, rd_eq_int, rd_eq_str, rd_eq_bl, rd_eq_nn, rd_eq_ns, rd_eq_sn, rd_eq_ni, rd_eq_in, rd_eq_nt, rd_eq_tn, rd_eq_pair, rd_is_non, rd_is_bl, rd_str_int, rd_int_int, rd_int_bl, rd_ix0, rd_ix1, rd_lix0, rd_lix1, rd_list_lst, rd_list_tup, rd_listM_lst, rd_tuple_lst, DL.isNon, wipeR, if_true, if_false, Bool.false_eq_true, Bool.not_true, Bool.not_false, reduceIte]
        refine callL_of (fun Q' Ex' q => q) (hadr M2 y M sq hN) ⟨rfl, hnodes _ _ ⟨⟨flatM0, .inl rfl⟩, fun _ => ?_⟩⟩
        rw [joinB_0]
        refine ite_f Bool.false_ne_true ?_
        refine mth_VL rfl (insR k1) k3 hc.1 hc.2.1 (hN.fz hl0) ⟨rfl, hshown _ _ ⟨⟨flatM0, .inl rfl⟩, fun _ => ?_⟩⟩
        rw [joinB_0]
        refine sq2.ix (j := 0) hu1 (hti M2 1 _ _ sq2 rfl ?_)
        exact eqs_of ⟨rfl, rfl⟩
      refine ite_f Bool.false_ne_true ?_
      simp only [dSeq, dNext, dRet, dRetN, dIfS, dDrop, dOp, dV, dC, dUn, dTest, dAnd, dOr, dNot, dAndV, dOrV, dNotV, dIf, dCB, dCons, dNil, dTup, dLst, dCallP, dAsg, qName, qCons, qNil, qTup, dPar, dAug, dMth, dM1, dSl, dPart, dNoPart, dYes, startR, List.map_cons, List.map_nil, List.length_cons, List.length_nil, List.replicate, List.cons_append, List.nil_append, List.append_nil, List.getElem?_cons_zero, List.getElem?_cons_succ, List.set_cons_zero, List.set_cons_succ, List.set_nil, dAdd, dSub, dMul, dMod, dFdv, dPow, dShl, dShr, dBit, dLt, dCmp, dNeg, Nat.reduceAdd, Nat.reduceSub, Nat.zero_add, rd_len_scr, rd_len_lst, rd_len_tup, rd_len_str, rd_eq_int, rd_eq_str, rd_eq_bl, rd_eq_nn, rd_eq_ns, rd_eq_sn, rd_eq_ni, rd_eq_in, rd_eq_nt, rd_eq_tn, rd_eq_pair, rd_is_non, rd_is_bl, rd_str_int, rd_int_int, rd_int_bl, rd_ix0, rd_ix1, rd_lix0, rd_lix1, rd_list_lst, rd_list_tup, rd_listM_lst, rd_tuple_lst, DL.isNon, wipeR, if_true, if_false, Bool.false_eq_true, Bool.not_true, Bool.not_false, reduceIte]
      have hnl := names_len (norm (G 0))
      rw [cnt_norm] at hnl
      refine mth_VL rfl (insR k1) k4 hc.1 hc.2.2 (hN.fz hl0) ⟨_, rfl, by rw [cnt_norm]; omega, by decide, fun l hl => ⟨⟨?_, .inr ⟨l, rfl⟩⟩, fun hd => ?_⟩⟩
      · intro a mo e
        by_cases ha : a = l
        · subst ha
          rw [updM_same] at e
          cases e
          refine ⟨_, rfl, fun d hd => ?_⟩
          obtain ⟨z, _, rfl⟩ := List.mem_map.mp hd
          rfl
        · rw [updM_ne ha] at e; cases e
      have hl2 : M2 l = none := hd l (by rw [updM_same]; exact fun z => by cases z)
      rw [joinB_new hl2]
      refine ⟨isL_ref updM_same, append_of updM_same (by rw [List.length_map]; omega) ?_⟩
      rw [updM_updM]
      refine ⟨fun ρ' M' => subM M M' ∧ ρ' = Rl ns ups m ws kd (adr (0, 0)) (adr (1, 0)) (adr (2, 0)) x8 x9 x10 (some (.ref y)) x12 x13, ?_, ?_⟩
      · simp only [dSeq, dNext, dRet, dRetN, dIfS, dDrop, dOp, dV, dC, dUn, dTest, dAnd, dOr, dNot, dAndV, dOrV, dNotV, dIf, dCB, dCons, dNil, dTup, dLst, dCallP, dAsg, qName, qCons, qNil, qTup, dPar, dAug, dMth, dM1, dSl, dPart, dNoPart, dYes, startR, List.map_cons, List.map_nil, List.length_cons, List.length_nil, List.replicate, List.cons_append, List.nil_append, List.append_nil, List.getElem?_cons_zero, List.getElem?_cons_succ, List.set_cons_zero, List.set_cons_succ, List.set_nil, dAdd, dSub, dMul, dMod, dFdv, dPow, dShl, dShr, dBit, dLt, dCmp, dNeg, Nat.reduceAdd, Nat.reduceSub, Nat.zero_add, rd_len_scr, rd_len_lst, rd_len_tup, rd_len_str, rd_eq_int, rd_eq_str, rd_eq_bl, rd_eq_nn, rd_eq_ns, rd_eq_sn, rd_eq_ni, rd_eq_in, rd_eq_nt, rd_eq_tn, rd_eq_pair, rd_is_non, rd_is_bl, rd_str_int, rd_int_int, rd_int_bl, rd_ix0, rd_ix1, rd_lix0, rd_lix1, rd_list_lst, rd_list_tup, rd_listM_lst, rd_tuple_lst, DL.isNon, wipeR, if_true, if_false, Bool.false_eq_true, Bool.not_true, Bool.not_false, reduceIte]
        refine ix_range (k := 0) hu1 ⟨Nat.zero_le _, eq_l0 ?_⟩
        cases hk : kd 0 with
        | nil =>
          exact ite_f Bool.false_ne_true ⟨sub_trans hN.sub (sub_upd hl2), by first | rfl | trivial⟩
        | cons a b =>
          refine ite_t rfl ?_
          rw [hG 0 hu1, hk, List.map_cons] at hN
          obtain ⟨lk, a1, a2, a3, e2⟩ := hN
          have hsub2 : subM M M2 := by
            rw [e2]
            exact sub_trans (sub_upd a1) (sub_upd (by rw [updM_ne (Ne.symm a3)]; exact a2))
          have hy : M2 y = some (.ins CJ ["name", "length", "kids"] [nmD (nms 0), .non, .ref lk]) := by rw [e2]; exact updM_same
          have hlk : M2 lk = some (.lst ((norms (G a :: b.map G)).map (toD CT CJ))) := by rw [e2, updM_ne a3]; exact updM_same
          have nly : y ≠ l := fun e => by rw [e, hl2] at hy; cases hy
          have nllk : lk ≠ l := fun e => by rw [e, hl2] at hlk; cases hlk
          refine fld_V rfl (insR (by rw [updM_ne nly]; exact hy)) rfl T.cJ T.kJ ⟨isL_ref (by rw [updM_ne nllk]; exact hlk), clear_of (by rw [updM_ne nllk]; exact hlk) ⟨fun c mo e => ?_, by first | rfl | trivial⟩⟩
          rw [updM_ne (fun z => by subst z; rw [a1] at e; cases e), updM_ne (fun z => by subst z; rw [hsub2 _ _ e] at hl2; cases hl2)]
          exact hsub2 _ _ e
      · rintro ρ' M5 ⟨hs5, rfl⟩
        have sq5 := sq.keep hs5
        simp only [dSeq, dNext, dRet, dRetN, dIfS, dDrop, dOp, dV, dC, dUn, dTest, dAnd, dOr, dNot, dAndV, dOrV, dNotV, dIf, dCB, dCons, dNil, dTup, dLst, dCallP, dAsg, qName, qCons, qNil, qTup, dPar, dAug, dMth, dM1, dSl, dPart, dNoPart, dYes, startR, List.map_cons, List.map_nil, List.length_cons, List.length_nil, List.replicate, List.cons_append, List.nil_append, List.append_nil, List.getElem?_cons_zero, List.getElem?_cons_succ, List.set_cons_zero, List.set_cons_succ, List.set_nil, dAdd, dSub, dMul, dMod, dFdv, dPow, dShl, dShr, dBit, dLt, dCmp, dNeg, Nat.reduceAdd, Nat.reduceSub, Nat.zero_add, rd_len_scr, rd_len_lst, rd_len_tup, rd_len_str, rd_eq_int, rd_eq_str, rd_eq_bl, rd_eq_nn, rd_eq_ns, rd_eq_sn, rd_eq_ni, rd_eq_in, rd_eq_nt, rd_eq_tn, rd_eq_pair, rd_is_non, rd_is_bl, rd_str_int, rd_int_int, rd_int_bl, rd_ix0, rd_ix1, rd_lix0, rd_lix1, rd_list_lst, rd_list_tup, rd_listM_lst, rd_tuple_lst, DL.isNon, wipeR, if_true, if_false, Bool.false_eq_true, Bool.not_true, Bool.not_false, reduceIte, Rl]
        refine call_of (ds := [.str (shown (G 0) ++ Str.ofString ";")]) (fun Q' Ex' q => ?_) (hparse _ M5 (fun M6 y2 hN2 => ?_) _)
        · simp only [dSeq, dNext, dRet, dRetN, dIfS, dDrop, dOp, dV, dC, dUn, dTest, dAnd, dOr, dNot, dAndV, dOrV, dNotV, dIf, dCB, dCons, dNil, dTup, dLst, dCallP, dAsg, qName, qCons, qNil, qTup, dPar, dAug, dMth, dM1, dSl, dPart, dNoPart, dYes, startR, List.map_cons, List.map_nil, List.length_cons, List.length_nil, List.replicate, List.cons_append, List.nil_append, List.append_nil, List.getElem?_cons_zero, List.getElem?_cons_succ, List.set_cons_zero, List.set_cons_succ, List.set_nil, dAdd, dSub, dMul, dMod, dFdv, dPow, dShl, dShr, dBit, dLt, dCmp, dNeg, Nat.reduceAdd, Nat.reduceSub, Nat.zero_add, rd_len_scr, rd_len_lst, rd_len_tup, rd_len_str, rd_eq_int, rd_eq_str, rd_eq_bl, rd_eq_nn, rd_eq_ns, rd_eq_sn, rd_eq_ni, rd_eq_in, rd_eq_nt, rd_eq_tn, rd_eq_pair, rd_is_non, rd_is_bl, rd_str_int, rd_int_int, rd_int_bl, rd_ix0, rd_ix1, rd_lix0, rd_lix1, rd_list_lst, rd_list_tup, rd_listM_lst, rd_tuple_lst, DL.isNon, wipeR, if_true, if_false, Bool.false_eq_true, Bool.not_true, Bool.not_false, reduceIte]
          exact sq5.ix (j := 0) hu1 (hti M5 0 _ _ sq5 rfl ⟨by rw [hs1, sizeLine_eq]; omega, q⟩)
        simp only [joinM_ext hN2.sub]
        obtain ⟨C2, cns2, ces2, k12, k22, k32, k42⟩ := hN2.cls
        have hc2 := hmt C2 k22
        have sq6 := sq5.keep hN2.sub
        refine callL_of (fun Q' Ex' q => q) (hadr M6 y2 M5 sq5 hN2) ⟨rfl, hnodes _ _ ⟨⟨flatM0, .inl rfl⟩, fun _ => ?_⟩⟩
        rw [joinB_0]
        refine mth_VL rfl (insR k12) k32 hc2.1 hc2.2.1 (hN2.fz hl0) ⟨rfl, hshown _ _ ⟨⟨flatM0, .inl rfl⟩, fun _ => ?_⟩⟩
        rw [joinB_0]
        refine sq6.ix (j := 0) hu1 (hti M6 1 _ _ sq6 rfl ?_)
        exact eqs_of (retP_same h)
    · rintro x xs ρ M ⟨n, con, x8, x9, x10, x11, x12, x13, hxs, hnm, hS, rfl⟩ nx hnx
      cases n with
      | zero => cases hxs
      | succ n =>
        obtain ⟨rfl, rfl⟩ := List.cons.inj hxs
        have hn3 : n < m := by omega
        simp only [dSeq, dNext, dRet, dRetN, dIfS, dDrop, dOp, dV, dC, dUn, dTest, dAnd, dOr, dNot, dAndV, dOrV, dNotV, dIf, dCB, dCons, dNil, dTup, dLst, dCallP, dAsg, qName, qCons, qNil, qTup, dPar, dAug, dMth, dM1, dSl, dPart, dNoPart, dYes, startR, List.map_cons, List.map_nil, List.length_cons, List.length_nil, List.replicate, List.cons_append, List.nil_append, List.append_nil, List.getElem?_cons_zero, List.getElem?_cons_succ, List.set_cons_zero, List.set_cons_succ, List.set_nil, dAdd, dSub, dMul, dMod, dFdv, dPow, dShl, dShr, dBit, dLt, dCmp, dNeg, Nat.reduceAdd, Nat.reduceSub, Nat.zero_add, rd_len_scr, rd_len_lst, rd_len_tup, rd_len_str, rd_eq_int, rd_eq_str, rd_eq_bl, rd_eq_nn, rd_eq_ns, rd_eq_sn, rd_eq_ni, rd_eq_in, rd_eq_nt, rd_eq_tn, rd_eq_pair, rd_is_non, rd_is_bl, rd_str_int, rd_int_int, rd_int_bl, rd_ix0, rd_ix1, rd_lix0, rd_lix1, rd_list_lst, rd_list_tup, rd_listM_lst, rd_tuple_lst, DL.isNon, wipeR, if_true, if_false, Bool.false_eq_true, Bool.not_true, Bool.not_false, reduceIte, Rl]
        refine ⟨mulOk (a := 2) (b := 8) (by decide) (by omega), ?_⟩
        rw [show 2 * ((n : Nat) : Int) = ((2 * n : Nat) : Int) by omega]
        refine ⟨ns, 2 * n, rfl, by omega, hn, ?_⟩
        -- the name
        have sq := hS.sq
        refine ⟨fun ρ' M' => ∃ con', con' = fset con (0, 0) (nmC m wd nms n) ∧ Sq m M' adr con' ∧ ρ' = Rl ns ups m ws kd (adr (0, 0)) (adr (1, 0)) (adr (2, 0)) (some (.int (n : Nat))) (some (.int (cellN ns (2 * n) : Nat))) x10 x11 x12 x13, ⟨fun b M' => M' = M ∧ b = decide (kd n ≠ [] ∧ mixN (cellN ns (2 * n)) 10007 % 2 = 0), ?_, ?_⟩, ?_⟩
        · simp only [dSeq, dNext, dRet, dRetN, dIfS, dDrop, dOp, dV, dC, dUn, dTest, dAnd, dOr, dNot, dAndV, dOrV, dNotV, dIf, dCB, dCons, dNil, dTup, dLst, dCallP, dAsg, qName, qCons, qNil, qTup, dPar, dAug, dMth, dM1, dSl, dPart, dNoPart, dYes, startR, List.map_cons, List.map_nil, List.length_cons, List.length_nil, List.replicate, List.cons_append, List.nil_append, List.append_nil, List.getElem?_cons_zero, List.getElem?_cons_succ, List.set_cons_zero, List.set_cons_succ, List.set_nil, dAdd, dSub, dMul, dMod, dFdv, dPow, dShl, dShr, dBit, dLt, dCmp, dNeg, Nat.reduceAdd, Nat.reduceSub, Nat.zero_add, rd_len_scr, rd_len_lst, rd_len_tup, rd_len_str, rd_eq_int, rd_eq_str, rd_eq_bl, rd_eq_nn, rd_eq_ns, rd_eq_sn, rd_eq_ni, rd_eq_in, rd_eq_nt, rd_eq_tn, rd_eq_pair, rd_is_non, rd_is_bl, rd_str_int, rd_int_int, rd_int_bl, rd_ix0, rd_ix1, rd_lix0, rd_lix1, rd_list_lst, rd_list_tup, rd_listM_lst, rd_tuple_lst, DL.isNon, wipeR, if_true, if_false, Bool.false_eq_true, Bool.not_true, Bool.not_false, reduceIte]
          refine ix_range hn3 ⟨Nat.zero_le _, eq_l0 ?_⟩
          cases hk : kd n with
          | nil => exact ⟨rfl, by simp⟩
          | cons a b =>
            refine ite_t rfl ⟨cellN ns (2 * n), 10007, rfl, cellN_lt _ _, by decide, by decide, rfl, ?_⟩
            rw [show ((mixN (cellN ns (2 * n)) 10007 : Nat) : Int) % 2 = ((mixN (cellN ns (2 * n)) 10007 % 2 : Nat) : Int) by omega]
            rw [Bool.eq_iff_iff, decide_eq_true_iff, beq_iff_eq]
            simp
            omega
        · rintro b M' ⟨rfl, rfl⟩
          split
          · rename_i e
            have e := of_decide_eq_true e
            have en : nms n = none := by rw [hnms]; unfold nmsN; rw [if_pos e]
            simp only [dSeq, dNext, dRet, dRetN, dIfS, dDrop, dOp, dV, dC, dUn, dTest, dAnd, dOr, dNot, dAndV, dOrV, dNotV, dIf, dCB, dCons, dNil, dTup, dLst, dCallP, dAsg, qName, qCons, qNil, qTup, dPar, dAug, dMth, dM1, dSl, dPart, dNoPart, dYes, startR, List.map_cons, List.map_nil, List.length_cons, List.length_nil, List.replicate, List.cons_append, List.nil_append, List.append_nil, List.getElem?_cons_zero, List.getElem?_cons_succ, List.set_cons_zero, List.set_cons_succ, List.set_nil, dAdd, dSub, dMul, dMod, dFdv, dPow, dShl, dShr, dBit, dLt, dCmp, dNeg, Nat.reduceAdd, Nat.reduceSub, Nat.zero_add, rd_len_scr, rd_len_lst, rd_len_tup, rd_len_str, rd_eq_int, rd_eq_str, rd_eq_bl, rd_eq_nn, rd_eq_ns, rd_eq_sn, rd_eq_ni, rd_eq_in, rd_eq_nt, rd_eq_tn, rd_eq_pair, rd_is_non, rd_is_bl, rd_str_int, rd_int_int, rd_int_bl, rd_ix0, rd_ix1, rd_lix0, rd_lix1, rd_list_lst, rd_list_tup, rd_listM_lst, rd_tuple_lst, DL.isNon, wipeR, if_true, if_false, Bool.false_eq_true, Bool.not_true, Bool.not_false, reduceIte, qSub]
            refine setL_of (sq.lkA (by decide)) (by omega) (by rw [hS.cN]; unfold nmC; rw [List.length_map, List.length_range]; omega) ?_
            rw [hS.cN, Int.toNat_natCast, show D.non = nmD (nms n) by rw [en]; rfl, nmC_set hn3]
            exact ⟨_, rfl, sq.setA (by decide), by first | rfl | trivial⟩
          · rename_i e
            have e : ¬ (kd n ≠ [] ∧ mixN (cellN ns (2 * n)) 10007 % 2 = 0) := fun z => e (decide_eq_true z)
            have en : nms n = some (wd n) := by rw [hnms]; unfold nmsN; rw [if_neg e]
            exact ⟨_, rfl, sq.same (by decide) (by rw [hS.cN, nmC_same hn3 en]), by first | rfl | trivial⟩
        rintro ρ' M2 ⟨con2, hc2, sq2, rfl⟩
        have kN : con2 (0, 0) = nmC m wd nms n := by rw [hc2, fset_same]
        have kL : con2 (1, 0) = lnC m (lnsL ns) (n + 1) := by rw [hc2, fset_ne (by simp), hS.cL]
        have kT : ∀ j, con2 (2, j + 1) = con (2, j + 1) := fun j => by rw [hc2, fset_ne (by simp)]
        clear hc2
        obtain ⟨Ga, hGa⟩ : ∃ Ga : Nat → Nat → LM.T, Ga = fun a j => if a = 0 then G j else norm (G j) := ⟨_, rfl⟩
        have hGn : hgt (G n) + n + 1 ≤ m := hhgt n hn3
        have hcn := hcnt n hn3
        rw [hG n hn3, cnt] at hcn
        have hgn := hgood n hn3
        rw [hG n hn3, GoodR] at hgn
        have hcs : ∀ a, cnts ((kd n).map (Ga a)) ≤ 41 ∧ Goods ((kd n).map (Ga a)) := fun a => by
          rw [hGa]
          by_cases e : a = 0
          · subst e
            exact ⟨by show cnts ((kd n).map G) ≤ 41; omega, goods_R _ hgn.2.2.2⟩
          · have e2 : (kd n).map (fun j => if a = 0 then G j else norm (G j)) = norms ((kd n).map G) := by
              rw [norms_of]
              refine List.map_congr_left fun j _ => ?_
              rw [if_neg e]
            show cnts ((kd n).map (fun j => if a = 0 then G j else norm (G j))) ≤ 41 ∧ Goods ((kd n).map (fun j => if a = 0 then G j else norm (G j)))
            rw [e2, cnts_norm]
            exact ⟨by omega, goods_R _ (goodRs_norm _ hgn.2.2.2)⟩
        obtain ⟨tx, htx⟩ : ∃ tx : Nat → Str, tx = fun a => core0 ((kd n).map (Ga a)) ++ nmS (nms n) := ⟨_, rfl⟩
        simp only [dSeq, dNext, dRet, dRetN, dIfS, dDrop, dOp, dV, dC, dUn, dTest, dAnd, dOr, dNot, dAndV, dOrV, dNotV, dIf, dCB, dCons, dNil, dTup, dLst, dCallP, dAsg, qName, qCons, qNil, qTup, dPar, dAug, dMth, dM1, dSl, dPart, dNoPart, dYes, startR, List.map_cons, List.map_nil, List.length_cons, List.length_nil, List.replicate, List.cons_append, List.nil_append, List.append_nil, List.getElem?_cons_zero, List.getElem?_cons_succ, List.set_cons_zero, List.set_cons_succ, List.set_nil, dAdd, dSub, dMul, dMod, dFdv, dPow, dShl, dShr, dBit, dLt, dCmp, dNeg, Nat.reduceAdd, Nat.reduceSub, Nat.zero_add, rd_len_scr, rd_len_lst, rd_len_tup, rd_len_str, rd_eq_int, rd_eq_str, rd_eq_bl, rd_eq_nn, rd_eq_ns, rd_eq_sn, rd_eq_ni, rd_eq_in, rd_eq_nt, rd_eq_tn, rd_eq_pair, rd_is_non, rd_is_bl, rd_str_int, rd_int_int, rd_int_bl, rd_ix0, rd_ix1, rd_lix0, rd_lix1, rd_list_lst, rd_list_tup, rd_listM_lst, rd_tuple_lst, DL.isNon, wipeR, if_true, if_false, Bool.false_eq_true, Bool.not_true, Bool.not_false, reduceIte, Rl, dFor, dRng1]
        refine ⟨⟨by decide, by decide⟩, ?_⟩
        rw [show intsD 0 1 ((2 : Int)).toNat = (List.range' 0 2).map fun k => D.int ((k : Nat) : Int) by rfl]
        refine each_ind (fun xs ρ M => ∃ a con3 x10 x11 x12 x13, a ≤ 2 ∧ xs = (List.range' a (2 - a)).map (fun k => D.int ((k : Nat) : Int)) ∧ Sq m M adr con3 ∧ con3 (0, 0) = nmC m wd nms n ∧ con3 (1, 0) = lnC m (lnsL ns) (n + 1) ∧ (∀ j, j ≠ n → con3 (2, j + 1) = con (2, j + 1)) ∧
          con3 (2, n + 1) = [.str (if 0 < a then tx 0 else Str.ofString ""), .str (if 1 < a then tx 1 else Str.ofString "")] ∧ ρ = Rl ns ups m ws kd (adr (0, 0)) (adr (1, 0)) (adr (2, 0)) (some (.int (n : Nat))) (some (.int (cellN ns (2 * n) : Nat))) x10 x11 x12 x13) ?_ ?_ _ _ _
          ⟨0, con2, _, _, _, _, by decide, rfl, sq2, kN, kL, fun j _ => kT j, by rw [kT, hS.cT0 n (Nat.lt_succ_self n)]; rfl, rfl⟩
        · rintro ρ M3 ⟨a, con3, x10, x11, x12, x13, ha, hxa, sq3, c3N, c3L, c3T, c3n, rfl⟩
          obtain rfl : a = 2 := by
            have := congrArg List.length hxa
            rw [List.length_nil, List.length_map, List.length_range'] at this
            omega
          have c3n : con3 (2, n + 1) = [.str (tx 0), .str (tx 1)] := c3n
          have eG0 : shown (G n) = lenS (tx 0) (lnsN ns n) := by
            rw [hG n hn3, shown_core, htx, hGa]
            rfl
          have eG1 : shown (norm (G n)) = lenS (tx 1) (lnsL ns n) := by
            rw [hG n hn3, norm, lns_low, shown_core, htx, hGa, norms_of]
            rfl
          have hbig : (shown (G n)).length ≤ 100000 ∧ (shown (norm (G n))).length ≤ 100000 := by
            have h1 := shown_len _ (good_R _ (hgood n hn3))
            have h2 := shown_len _ (good_R _ (goodR_norm _ (hgood n hn3)))
            rw [cnt_norm] at h2
            have := hcnt n hn3
            omega
          have hle : ∀ (z : Str) ln, z.length ≤ (lenS z ln).length := fun z ln => by
            cases ln with
            | none => exact Nat.le_refl _
            | some p => unfold lenS; rw [Str.length_append, Str.length_append]; omega
          have fin : ∀ M con', Sq m M adr con' → con' (0, 0) = nmC m wd nms n → con' (1, 0) = lnC m (lnsL ns) n → (∀ j, j ≠ n → con' (2, j + 1) = con (2, j + 1)) → con' (2, n + 1) = [.str (shown (G n)), .str (shown (norm (G n)))] → S2 m wd nms (lnsL ns) G n M adr con' := fun M con' k1 k2 k3 k4 k5 => by
            refine ⟨k1, k2, k3, fun j hj => ?_, fun j h1 h2 => ?_⟩
            · rw [k4 j (by omega), hS.cT0 j (by omega)]
            · by_cases e : j = n
              · subst e; exact k5
              · rw [k4 j e, hS.cT1 j (by omega) h2]
          refine ifE_of (decide (0 < n ∧ 0 < mixN (cellN ns (2 * n)) 100003 % 4)) ?_ ?_
          · simp only [dSeq, dNext, dRet, dRetN, dIfS, dDrop, dOp, dV, dC, dUn, dTest, dAnd, dOr, dNot, dAndV, dOrV, dNotV, dIf, dCB, dCons, dNil, dTup, dLst, dCallP, dAsg, qName, qCons, qNil, qTup, dPar, dAug, dMth, dM1, dSl, dPart, dNoPart, dYes, startR, List.map_cons, List.map_nil, List.length_cons, List.length_nil, List.replicate, List.cons_append, List.nil_append, List.append_nil, List.getElem?_cons_zero, List.getElem?_cons_succ, List.set_cons_zero, List.set_cons_succ, List.set_nil, dAdd, dSub, dMul, dMod, dFdv, dPow, dShl, dShr, dBit, dLt, dCmp, dNeg, Nat.reduceAdd, Nat.reduceSub, Nat.zero_add, rd_len_scr, rd_len_lst, rd_len_tup, rd_len_str, rd_eq_int, rd_eq_str, rd_eq_bl, rd_eq_nn, rd_eq_ns, rd_eq_sn, rd_eq_ni, rd_eq_in, rd_eq_nt, rd_eq_tn, rd_eq_pair, rd_is_non, rd_is_bl, rd_str_int, rd_int_int, rd_int_bl, rd_ix0, rd_ix1, rd_lix0, rd_lix1, rd_list_lst, rd_list_tup, rd_listM_lst, rd_tuple_lst, DL.isNon, wipeR, if_true, if_false, Bool.false_eq_true, Bool.not_true, Bool.not_false, reduceIte, Rl]
            split
            · rename_i e
              have e := of_decide_eq_true e
              refine ⟨cellN ns (2 * n), 100003, rfl, cellN_lt _ _, by decide, by decide, ?_, rfl⟩
              rw [Bool.eq_iff_iff, decide_eq_true_iff, decide_eq_true_iff]
              omega
            · rename_i e
              refine ⟨?_, rfl⟩
              symm
              exact decide_eq_false fun z => e (decide_eq_true (by omega))
          split
          · rename_i e
            have e := of_decide_eq_true e
            have eL : lnsL ns n = some (farN (cellN ns (2 * n + 1))) := by unfold lnsL; rw [if_pos e]
            have eN : lnsN ns n = some ((farN (cellN ns (2 * n + 1))).1 * tmN ns n, (farN (cellN ns (2 * n + 1))).2 * tmN ns n) := by unfold lnsN; rw [if_pos e]
            have hf := farN_ok (cellN ns (2 * n + 1))
            have ht : tmN ns n ≤ 6 ∧ 0 < tmN ns n := by unfold tmN; omega
            have x0 : shown (G n) = tx 0 ++ Str.ofString ":" ++ amtS ((farN (cellN ns (2 * n + 1))).1 * tmN ns n) ((farN (cellN ns (2 * n + 1))).2 * tmN ns n) := by rw [eG0, eN]; rfl
            have x1 : shown (norm (G n)) = tx 1 ++ Str.ofString ":" ++ amtS (farN (cellN ns (2 * n + 1))).1 (farN (cellN ns (2 * n + 1))).2 := by rw [eG1, eL]; rfl
            have y0 := hbig.1
            have y1 := hbig.2
            rw [x0, Str.length_append, Str.length_append] at y0
            rw [x1, Str.length_append, Str.length_append] at y1
            simp only [dSeq, dNext, dRet, dRetN, dIfS, dDrop, dOp, dV, dC, dUn, dTest, dAnd, dOr, dNot, dAndV, dOrV, dNotV, dIf, dCB, dCons, dNil, dTup, dLst, dCallP, dAsg, qName, qCons, qNil, qTup, dPar, dAug, dMth, dM1, dSl, dPart, dNoPart, dYes, startR, List.map_cons, List.map_nil, List.length_cons, List.length_nil, List.replicate, List.cons_append, List.nil_append, List.append_nil, List.getElem?_cons_zero, List.getElem?_cons_succ, List.set_cons_zero, List.set_cons_succ, List.set_nil, dAdd, dSub, dMul, dMod, dFdv, dPow, dShl, dShr, dBit, dLt, dCmp, dNeg, Nat.reduceAdd, Nat.reduceSub, Nat.zero_add, rd_len_scr, rd_len_lst, rd_len_tup, rd_len_str, rd_eq_int, rd_eq_str, rd_eq_bl, rd_eq_nn, rd_eq_ns, rd_eq_sn, rd_eq_ni, rd_eq_in, rd_eq_nt, rd_eq_tn, rd_eq_pair, rd_is_non, rd_is_bl, rd_str_int, rd_int_int, rd_int_bl, rd_ix0, rd_ix1, rd_lix0, rd_lix1, rd_list_lst, rd_list_tup, rd_listM_lst, rd_tuple_lst, DL.isNon, wipeR, if_true, if_false, Bool.false_eq_true, Bool.not_true, Bool.not_false, reduceIte, Rl, qSub]
            refine ⟨mulOk (a := 2) (b := 8) (by decide) (by omega), ?_⟩
            rw [show 2 * ((n : Nat) : Int) + 1 = ((2 * n + 1 : Nat) : Int) by omega]
            refine ⟨ns, 2 * n + 1, rfl, by omega, hn, cellN ns (2 * n + 1), rfl, cellN_lt _ _, ?_⟩
            refine setL_of (sq3.lkA (k := 1) (by decide)) (by omega) (by rw [c3L]; unfold lnC; rw [List.length_map, List.length_range]; omega) ?_
            rw [c3L, Int.toNat_natCast, show prD (farN (cellN ns (2 * n + 1))) = lnD (lnsL ns n) by rw [eL]; rfl, lnC_set hn3]
            have sq5 := sq3.setA (k := 1) (v := lnC m (lnsL ns) n) (by decide)
            have d5n : fset con3 (1, 0) (lnC m (lnsL ns) n) (2, n + 1) = [.str (tx 0), .str (tx 1)] := by rw [fset_ne (by simp), c3n]
            have d5L : fset con3 (1, 0) (lnC m (lnsL ns) n) (1, 0) = lnC m (lnsL ns) n := fset_same
            have d5N : fset con3 (1, 0) (lnC m (lnsL ns) n) (0, 0) = nmC m wd nms n := by rw [fset_ne (by simp), c3N]
            have d5T : ∀ j, j ≠ n → fset con3 (1, 0) (lnC m (lnsL ns) n) (2, j + 1) = con (2, j + 1) := fun j hj => by rw [fset_ne (by simp), c3T j hj]
            generalize fset con3 (1, 0) (lnC m (lnsL ns) n) = con5 at sq5 d5n d5L d5N d5T
            generalize updM M3 (adr (1, 0)) (.lst (lnC m (lnsL ns) n)) = M5 at sq5 ⊢
            have hL5 := sq5.lkA (k := 1) (by decide)
            rw [d5L] at hL5
            unfold lnC at hL5
            refine sq5.ix hn3 ?_
            refine ix_ref (sq5.lkT hn3) (by decide) (d := .str (tx 0)) (by rw [d5n]; rfl) ?_
            refine ⟨by rw [sizeLine_eq]; omega, ?_⟩
            refine ix_refR (m := m) hL5 hn3 ?_
            rw [if_pos (Nat.le_refl n), eL]
            refine ⟨cellN ns (2 * n), 7919, rfl, cellN_lt _ _, by decide, by decide, ?_⟩
            rw [show 1 + ((mixN (cellN ns (2 * n)) 7919 : Nat) : Int) % 6 = ((tmN ns n : Nat) : Int) by unfold tmN; omega]
            refine ⟨(farN (cellN ns (2 * n + 1))).1, (farN (cellN ns (2 * n + 1))).2, tmN ns n, rfl, Nat.lt_trans hf.2.2.1 (by decide), hf.2.1, Nat.lt_of_le_of_lt hf.2.2.2 (by decide), ht.2, by omega, ?_⟩
            refine ⟨by rw [Str.length_append, sizeLine_eq]; omega, ?_⟩
            refine sq5.ix hn3 (setL_of (sq5.lkT hn3) (by decide) (by rw [d5n]; show (0 : Int) < 2; decide) ?_)
            rw [d5n, ← x0]
            show (dIx (.ref (adr (2, 0))) (.int (n : Nat)) (updM M5 (adr (2, n + 1)) (.lst [.str (shown (G n)), .str (tx 1)])) _)
            have sq6 := sq5.setT (v := [.str (shown (G n)), .str (tx 1)]) hn3
            have d6n : fset con5 (2, n + 1) [.str (shown (G n)), .str (tx 1)] (2, n + 1) = [.str (shown (G n)), .str (tx 1)] := fset_same
            have d6L : fset con5 (2, n + 1) [.str (shown (G n)), .str (tx 1)] (1, 0) = lnC m (lnsL ns) n := by rw [fset_ne (by simp), d5L]
            have d6N : fset con5 (2, n + 1) [.str (shown (G n)), .str (tx 1)] (0, 0) = nmC m wd nms n := by rw [fset_ne (by simp), d5N]
            have d6T : ∀ j, j ≠ n → fset con5 (2, n + 1) [.str (shown (G n)), .str (tx 1)] (2, j + 1) = con (2, j + 1) := fun j hj => by rw [fset_ne (by simp; exact hj), d5T j hj]
            generalize fset con5 (2, n + 1) [.str (shown (G n)), .str (tx 1)] = con6 at sq6 d6n d6L d6N d6T
            generalize updM M5 (adr (2, n + 1)) (.lst [.str (shown (G n)), .str (tx 1)]) = M6 at sq6 ⊢
            have hL6 := sq6.lkA (k := 1) (by decide)
            rw [d6L] at hL6
            unfold lnC at hL6
            refine sq6.ix hn3 ?_
            refine ix_ref (sq6.lkT hn3) (by decide) (d := .str (tx 1)) (by rw [d6n]; rfl) ?_
            refine ⟨by rw [sizeLine_eq]; omega, ?_⟩
            refine ix_refR (m := m) hL6 hn3 ?_
            rw [if_pos (Nat.le_refl n), eL]
            refine ⟨(farN (cellN ns (2 * n + 1))).1, (farN (cellN ns (2 * n + 1))).2, rfl, Nat.lt_trans hf.2.2.1 (by decide), Nat.lt_of_le_of_lt hf.2.2.2 (by decide), ?_⟩
            refine ⟨by rw [Str.length_append, sizeLine_eq]; omega, ?_⟩
            refine sq6.ix hn3 (setL_of (sq6.lkT hn3) (by decide) (by rw [d6n]; show (1 : Int) < 2; decide) ?_)
            rw [d6n, ← x1]
            refine hnx _ _ ⟨n, _, _, _, _, _, _, _, rfl, by omega, fin _ _ (sq6.setT (v := [.str (shown (G n)), .str (shown (norm (G n)))]) hn3) (by rw [fset_ne (by simp), d6N]) (by rw [fset_ne (by simp), d6L]) (fun j hj => by rw [fset_ne (by simp; exact hj), d6T j hj]) fset_same, rfl⟩
          · rename_i e
            have e : ¬ (0 < n ∧ 0 < mixN (cellN ns (2 * n)) 100003 % 4) := fun z => e (decide_eq_true z)
            have eL : lnsL ns n = none := by unfold lnsL; rw [if_neg e]
            have eN : lnsN ns n = none := by unfold lnsN; rw [if_neg e]
            refine hnx _ _ ⟨n, con3, _, _, _, _, _, _, rfl, by omega, fin M3 con3 sq3 c3N (by rw [c3L, lnC_same eL]) c3T ?_, rfl⟩
            rw [c3n, eG0, eG1, eN, eL]
            rfl
        · rintro x xs ρ M3 ⟨a, con3, x10, x11, x12, x13, ha, hxa, sq3, c3N, c3L, c3T, c3n, rfl⟩ nx2 hnx2
          have ha2 : a < 2 := by
            rcases Nat.lt_or_ge a 2 with h2 | h2
            · exact h2
            · rw [show 2 - a = 0 by omega] at hxa; cases hxa
          rw [show 2 - a = (2 - (a + 1)) + 1 by omega, List.range'_succ, List.map_cons] at hxa
          obtain ⟨hx1, hx2⟩ := List.cons.inj hxa
          subst hx1
          have hset : ∀ v : Str, [D.str (if 0 < a then tx 0 else Str.ofString ""), D.str (if 1 < a then tx 1 else Str.ofString "")].set a (.str v) = [D.str (if a = 0 then v else tx 0), D.str (if a = 0 then Str.ofString "" else v)] := fun v => by
            rcases Nat.lt_or_ge a 1 with h1 | h1
            · have : a = 0 := by omega
              subst this; rfl
            · have : a = 1 := by omega
              subst this; rfl
          have hlen := showns_len _ (hcs a).2
          have hca := (hcs a).1
          have hmapS : showns ((kd n).map (Ga a)) = (kd n).map fun j => shown (Ga a j) := by rw [showns_map, List.map_map]; rfl
          have hkl : (kd n).length ≤ 41 := by
            have := len_cntL (Ga a) (kd n)
            rw [cntL_map] at this
            omega
          simp only [dSeq, dNext, dRet, dRetN, dIfS, dDrop, dOp, dV, dC, dUn, dTest, dAnd, dOr, dNot, dAndV, dOrV, dNotV, dIf, dCB, dCons, dNil, dTup, dLst, dCallP, dAsg, qName, qCons, qNil, qTup, dPar, dAug, dMth, dM1, dSl, dPart, dNoPart, dYes, startR, List.map_cons, List.map_nil, List.length_cons, List.length_nil, List.replicate, List.cons_append, List.nil_append, List.append_nil, List.getElem?_cons_zero, List.getElem?_cons_succ, List.set_cons_zero, List.set_cons_succ, List.set_nil, dAdd, dSub, dMul, dMod, dFdv, dPow, dShl, dShr, dBit, dLt, dCmp, dNeg, Nat.reduceAdd, Nat.reduceSub, Nat.zero_add, rd_len_scr, rd_len_lst, rd_len_tup, rd_len_str, rd_eq_int, rd_eq_str, rd_eq_bl, rd_eq_nn, rd_eq_ns, rd_eq_sn, rd_eq_ni, rd_eq_in, rd_eq_nt, rd_eq_tn, rd_eq_pair, rd_is_non, rd_is_bl, rd_str_int, rd_int_int, rd_int_bl, rd_ix0, rd_ix1, rd_lix0, rd_lix1, rd_list_lst, rd_list_tup, rd_listM_lst, rd_tuple_lst, DL.isNon, wipeR, if_true, if_false, Bool.false_eq_true, Bool.not_true, Bool.not_false, reduceIte, Rl]
          refine ⟨fun ρ' M4 => ∃ con4, Sq m M4 adr con4 ∧ con4 (0, 0) = nmC m wd nms n ∧ con4 (1, 0) = lnC m (lnsL ns) (n + 1) ∧ (∀ j, j ≠ n → con4 (2, j + 1) = con (2, j + 1)) ∧ con4 (2, n + 1) = [D.str (if a = 0 then core0 ((kd n).map (Ga a)) else tx 0), D.str (if a = 0 then Str.ofString "" else core0 ((kd n).map (Ga a)))] ∧
            ρ' = Rl ns ups m ws kd (adr (0, 0)) (adr (1, 0)) (adr (2, 0)) (some (.int (n : Nat))) (some (.int (cellN ns (2 * n) : Nat))) (some (.int (a : Nat))) x11 x12 x13, ?_, ?_⟩
          · simp only [dSeq, dNext, dRet, dRetN, dIfS, dDrop, dOp, dV, dC, dUn, dTest, dAnd, dOr, dNot, dAndV, dOrV, dNotV, dIf, dCB, dCons, dNil, dTup, dLst, dCallP, dAsg, qName, qCons, qNil, qTup, dPar, dAug, dMth, dM1, dSl, dPart, dNoPart, dYes, startR, List.map_cons, List.map_nil, List.length_cons, List.length_nil, List.replicate, List.cons_append, List.nil_append, List.append_nil, List.getElem?_cons_zero, List.getElem?_cons_succ, List.set_cons_zero, List.set_cons_succ, List.set_nil, dAdd, dSub, dMul, dMod, dFdv, dPow, dShl, dShr, dBit, dLt, dCmp, dNeg, Nat.reduceAdd, Nat.reduceSub, Nat.zero_add, rd_len_scr, rd_len_lst, rd_len_tup, rd_len_str, rd_eq_int, rd_eq_str, rd_eq_bl, rd_eq_nn, rd_eq_ns, rd_eq_sn, rd_eq_ni, rd_eq_in, rd_eq_nt, rd_eq_tn, rd_eq_pair, rd_is_non, rd_is_bl, rd_str_int, rd_int_int, rd_int_bl, rd_ix0, rd_ix1, rd_lix0, rd_lix1, rd_list_lst, rd_list_tup, rd_listM_lst, rd_tuple_lst, DL.isNon, wipeR, if_true, if_false, Bool.false_eq_true, Bool.not_true, Bool.not_false, reduceIte]
            refine ix_range hn3 ⟨Nat.zero_le _, eq_l0 ?_⟩
            cases hk : kd n with
            | nil =>
              refine ite_f Bool.false_ne_true ⟨con3, sq3, c3N, c3L, c3T, ?_, by first | rfl | trivial⟩
              rw [c3n, List.map_nil]
              rcases Nat.lt_or_ge a 1 with h1 | h1
              · have : a = 0 := by omega
                subst this; rfl
              · have : a = 1 := by omega
                subst this; rfl
            | cons k ks =>
              have t1 : (Str.ofString "(").length = 1 := rfl
              have t2 : (Str.ofString ")").length = 1 := rfl
              have t3 : (Str.ofString ",").length = 1 := rfl
              have hj := join_le (Str.ofString ",") (showns ((kd n).map (Ga a)))
              rw [t3] at hj
              refine ite_t rfl ⟨trivial, ?_⟩
              rw [← hk]
              simp only [dSeq, dNext, dRet, dRetN, dIfS, dDrop, dOp, dV, dC, dUn, dTest, dAnd, dOr, dNot, dAndV, dOrV, dNotV, dIf, dCB, dCons, dNil, dTup, dLst, dCallP, dAsg, qName, qCons, qNil, qTup, dPar, dAug, dMth, dM1, dSl, dPart, dNoPart, dYes, startR, List.map_cons, List.map_nil, List.length_cons, List.length_nil, List.replicate, List.cons_append, List.nil_append, List.append_nil, List.getElem?_cons_zero, List.getElem?_cons_succ, List.set_cons_zero, List.set_cons_succ, List.set_nil, dAdd, dSub, dMul, dMod, dFdv, dPow, dShl, dShr, dBit, dLt, dCmp, dNeg, Nat.reduceAdd, Nat.reduceSub, Nat.zero_add, rd_len_scr, rd_len_lst, rd_len_tup, rd_len_str, rd_eq_int, rd_eq_str, rd_eq_bl, rd_eq_nn, rd_eq_ns, rd_eq_sn, rd_eq_ni, rd_eq_in, rd_eq_nt, rd_eq_tn, rd_eq_pair, rd_is_non, rd_is_bl, rd_str_int, rd_int_int, rd_int_bl, rd_ix0, rd_ix1, rd_lix0, rd_lix1, rd_list_lst, rd_list_tup, rd_listM_lst, rd_tuple_lst, DL.isNon, wipeR, if_true, if_false, Bool.false_eq_true, Bool.not_true, Bool.not_false, reduceIte, dLc, dSq]
              refine ix_range hn3 ?_
              refine lc_mapG _ (fun j : Nat => .str (shown (Ga a j))) _ _ (by rw [List.length_nil]; omega) (fun j hj Q hQ => ?_) ?_
              · have hjm := hkd n j hj
                simp only [dSeq, dNext, dRet, dRetN, dIfS, dDrop, dOp, dV, dC, dUn, dTest, dAnd, dOr, dNot, dAndV, dOrV, dNotV, dIf, dCB, dCons, dNil, dTup, dLst, dCallP, dAsg, qName, qCons, qNil, qTup, dPar, dAug, dMth, dM1, dSl, dPart, dNoPart, dYes, startR, List.map_cons, List.map_nil, List.length_cons, List.length_nil, List.replicate, List.cons_append, List.nil_append, List.append_nil, List.getElem?_cons_zero, List.getElem?_cons_succ, List.set_cons_zero, List.set_cons_succ, List.set_nil, dAdd, dSub, dMul, dMod, dFdv, dPow, dShl, dShr, dBit, dLt, dCmp, dNeg, Nat.reduceAdd, Nat.reduceSub, Nat.zero_add, rd_len_scr, rd_len_lst, rd_len_tup, rd_len_str, rd_eq_int, rd_eq_str, rd_eq_bl, rd_eq_nn, rd_eq_ns, rd_eq_sn, rd_eq_ni, rd_eq_in, rd_eq_nt, rd_eq_tn, rd_eq_pair, rd_is_non, rd_is_bl, rd_str_int, rd_int_int, rd_int_bl, rd_ix0, rd_ix1, rd_lix0, rd_lix1, rd_list_lst, rd_list_tup, rd_listM_lst, rd_tuple_lst, DL.isNon, wipeR, if_true, if_false, Bool.false_eq_true, Bool.not_true, Bool.not_false, reduceIte]
                refine sq3.ix hjm.2 ?_
                have hcj : con3 (2, j + 1) = [.str (shown (G j)), .str (shown (norm (G j)))] := by rw [c3T j (by omega), hS.cT1 j (by omega) hjm.2]
                refine ix_ref (sq3.lkT hjm.2) (by omega) (d := .str (shown (Ga a j))) ?_ hQ
                rw [hcj, Int.toNat_natCast, hGa]
                rcases Nat.lt_or_ge a 1 with h1 | h1
                · have : a = 0 := by omega
                  subst this; rfl
                · have : a = 1 := by omega
                  subst this; rfl
              rw [List.nil_append]
              refine join_of (zs := showns ((kd n).map (Ga a))) (by rw [hmapS, List.map_map]; rfl) (by rw [t3]; omega) ?_
              refine ⟨by rw [t1, sizeLine_eq]; omega, by rw [Str.length_append, sizeLine_eq]; omega, ?_⟩
              simp only [dSeq, dNext, dRet, dRetN, dIfS, dDrop, dOp, dV, dC, dUn, dTest, dAnd, dOr, dNot, dAndV, dOrV, dNotV, dIf, dCB, dCons, dNil, dTup, dLst, dCallP, dAsg, qName, qCons, qNil, qTup, dPar, dAug, dMth, dM1, dSl, dPart, dNoPart, dYes, startR, List.map_cons, List.map_nil, List.length_cons, List.length_nil, List.replicate, List.cons_append, List.nil_append, List.append_nil, List.getElem?_cons_zero, List.getElem?_cons_succ, List.set_cons_zero, List.set_cons_succ, List.set_nil, dAdd, dSub, dMul, dMod, dFdv, dPow, dShl, dShr, dBit, dLt, dCmp, dNeg, Nat.reduceAdd, Nat.reduceSub, Nat.zero_add, rd_len_scr, rd_len_lst, rd_len_tup, rd_len_str, rd_eq_int, rd_eq_str, rd_eq_bl, rd_eq_nn, rd_eq_ns, rd_eq_sn, rd_eq_ni, rd_eq_in, rd_eq_nt, rd_eq_tn, rd_eq_pair, rd_is_non, rd_is_bl, rd_str_int, rd_int_int, rd_int_bl, rd_ix0, rd_ix1, rd_lix0, rd_lix1, rd_list_lst, rd_list_tup, rd_listM_lst, rd_tuple_lst, DL.isNon, wipeR, if_true, if_false, Bool.false_eq_true, Bool.not_true, Bool.not_false, reduceIte, qSub]
              refine sq3.ix hn3 (setL_of (sq3.lkT hn3) (by omega) (by rw [c3n]; show (a : Int) < 2; omega) ?_)
              rw [c3n, Int.toNat_natCast, hset]
              refine ⟨_, sq3.setT hn3, by rw [fset_ne (by simp), c3N], by rw [fset_ne (by simp), c3L], fun j hj => by rw [fset_ne (by simp; exact hj), c3T j hj], ?_, by first | rfl | trivial⟩
              rw [fset_same]
              have ec : core0 ((kd n).map (Ga a)) = Str.ofString "(" ++ Txt.join (Str.ofString ",") (showns ((kd n).map (Ga a))) ++ Str.ofString ")" := by
                rw [hk, List.map_cons]
                show Str.ofString "(" ++ Txt.join (Str.ofString ",") (shown (Ga a k) :: showns (ks.map (Ga a))) ++ Str.ofString ")" = _
                rw [showns]
              rw [ec]
          · rintro ρ' M4 ⟨con4, sq4, d4N, d4L, d4T, d4n, rfl⟩
            have hnmA := sq4.lkA (k := 0) (by decide)
            rw [d4N] at hnmA
            unfold nmC at hnmA
            have htxa : tx a = core0 ((kd n).map (Ga a)) ++ nmS (nms n) := by rw [htx]
            have hnw : ∀ v : Str, v = tx a → [D.str (if a = 0 then v else tx 0), D.str (if a = 0 then Str.ofString "" else v)] = [.str (if 0 < a + 1 then tx 0 else Str.ofString ""), .str (if 1 < a + 1 then tx 1 else Str.ofString "")] := fun v hv => by
              rw [hv]
              rcases Nat.lt_or_ge a 1 with h1 | h1
              · have : a = 0 := by omega
                subst this; rfl
              · have : a = 1 := by omega
                subst this; rfl
            simp only [dSeq, dNext, dRet, dRetN, dIfS, dDrop, dOp, dV, dC, dUn, dTest, dAnd, dOr, dNot, dAndV, dOrV, dNotV, dIf, dCB, dCons, dNil, dTup, dLst, dCallP, dAsg, qName, qCons, qNil, qTup, dPar, dAug, dMth, dM1, dSl, dPart, dNoPart, dYes, startR, List.map_cons, List.map_nil, List.length_cons, List.length_nil, List.replicate, List.cons_append, List.nil_append, List.append_nil, List.getElem?_cons_zero, List.getElem?_cons_succ, List.set_cons_zero, List.set_cons_succ, List.set_nil, dAdd, dSub, dMul, dMod, dFdv, dPow, dShl, dShr, dBit, dLt, dCmp, dNeg, Nat.reduceAdd, Nat.reduceSub, Nat.zero_add, rd_len_scr, rd_len_lst, rd_len_tup, rd_len_str, rd_eq_int, rd_eq_str, rd_eq_bl, rd_eq_nn, rd_eq_ns, rd_eq_sn, rd_eq_ni, rd_eq_in, rd_eq_nt, rd_eq_tn, rd_eq_pair, rd_is_non, rd_is_bl, rd_str_int, rd_int_int, rd_int_bl, rd_ix0, rd_ix1, rd_lix0, rd_lix1, rd_list_lst, rd_list_tup, rd_listM_lst, rd_tuple_lst, DL.isNon, wipeR, if_true, if_false, Bool.false_eq_true, Bool.not_true, Bool.not_false, reduceIte, Rl]
            refine ix_refR (m := m) hnmA hn3 ?_
            rw [if_pos (Nat.le_refl n)]
            cases hnn : nms n with
            | none =>
              refine ite_f Bool.false_ne_true ?_
              refine hnx2 _ _ ⟨a + 1, con4, _, _, _, _, by omega, hx2, sq4, d4N, d4L, d4T, ?_, rfl⟩
              rw [d4n, hnw _ (by rw [htxa, hnn]; exact (app_nil _).symm)]
            | some z =>
              have hz : z.length ≤ 12 := by
                have := nmS_len (nm := nms n) (fun y hy => by
                  rcases hgn.2.1 y hy with e | e
                  · rw [e]; decide
                  · exact e.2.1)
                rw [hnn] at this
                exact this
              have hcl : (core0 ((kd n).map (Ga a))).length ≤ 100000 := by
                cases hk : (kd n).map (Ga a) with
                | nil => exact Nat.zero_le _
                | cons t ts =>
                  have t1 : (Str.ofString "(").length = 1 := rfl
                  have t2 : (Str.ofString ")").length = 1 := rfl
                  have t3 : (Str.ofString ",").length = 1 := rfl
                  have hj := join_le (Str.ofString ",") (showns (t :: ts))
                  rw [hk] at hlen hca
                  have e : showns (t :: ts) = shown t :: showns ts := by rw [showns]
                  rw [t3] at hj
                  show (Str.ofString "(" ++ Txt.join (Str.ofString ",") (shown t :: showns ts) ++ Str.ofString ")").length ≤ _
                  rw [← e, Str.length_append, Str.length_append]
                  omega
              refine ite_t rfl ?_
              refine sq4.ix hn3 ?_
              refine ix_ref (sq4.lkT hn3) (by omega) (d := .str (core0 ((kd n).map (Ga a)))) ?_ ?_
              · rw [d4n, Int.toNat_natCast]
                rcases Nat.lt_or_ge a 1 with h1 | h1
                · have : a = 0 := by omega
                  subst this; rfl
                · have : a = 1 := by omega
                  subst this; rfl
              refine ix_refR (m := m) hnmA hn3 ?_
              rw [if_pos (Nat.le_refl n), hnn]
              refine ⟨by rw [sizeLine_eq]; omega, ?_⟩
              simp only [dSeq, dNext, dRet, dRetN, dIfS, dDrop, dOp, dV, dC, dUn, dTest, dAnd, dOr, dNot, dAndV, dOrV, dNotV, dIf, dCB, dCons, dNil, dTup, dLst, dCallP, dAsg, qName, qCons, qNil, qTup, dPar, dAug, dMth, dM1, dSl, dPart, dNoPart, dYes, startR, List.map_cons, List.map_nil, List.length_cons, List.length_nil, List.replicate, List.cons_append, List.nil_append, List.append_nil, List.getElem?_cons_zero, List.getElem?_cons_succ, List.set_cons_zero, List.set_cons_succ, List.set_nil, dAdd, dSub, dMul, dMod, dFdv, dPow, dShl, dShr, dBit, dLt, dCmp, dNeg, Nat.reduceAdd, Nat.reduceSub, Nat.zero_add, rd_len_scr, rd_len_lst, rd_len_tup, rd_len_str, rd_eq_int, rd_eq_str, rd_eq_bl, rd_eq_nn, rd_eq_ns, rd_eq_sn, rd_eq_ni, rd_eq_in, rd_eq_nt, rd_eq_tn, rd_eq_pair, rd_is_non, rd_is_bl, rd_str_int, rd_int_int, rd_int_bl, rd_ix0, rd_ix1, rd_lix0, rd_lix1, rd_list_lst, rd_list_tup, rd_listM_lst, rd_tuple_lst, DL.isNon, wipeR, if_true, if_false, Bool.false_eq_true, Bool.not_true, Bool.not_false, reduceIte, qSub]
              refine sq4.ix hn3 (setL_of (sq4.lkT hn3) (by omega) (by rw [d4n]; show (a : Int) < 2; omega) ?_)
              have hset2 : ∀ u v : Str, [D.str (if a = 0 then u else tx 0), D.str (if a = 0 then Str.ofString "" else u)].set a (.str v) = [D.str (if a = 0 then v else tx 0), D.str (if a = 0 then Str.ofString "" else v)] := fun u v => by
                rcases Nat.lt_or_ge a 1 with h1 | h1
                · have : a = 0 := by omega
                  subst this; rfl
                · have : a = 1 := by omega
                  subst this; rfl
              rw [d4n, Int.toNat_natCast, hset2]
              refine hnx2 _ _ ⟨a + 1, _, _, _, _, _, by omega, hx2, sq4.setT hn3, by rw [fset_ne (by simp), d4N], by rw [fset_ne (by simp), d4L], fun j hj => by rw [fset_ne (by simp; exact hj), d4T j hj], ?_, rfl⟩
              rw [fset_same, hnw _ (by rw [htxa, hnn]; rfl)]
end
end LM
namespace LM
open PySem L2 DL PySem.Spec PyProof.Rows

theorem all_mk {l : PySem.W.OpenLaw} {w : World} {K : PySem.W.Frag} {h : Heap} {mg : Str → Option Value} {fa : Addr} (X : K.In h) (G : h.Ns mainGlobals mg) (hfa : mg "law" = some (.ref fa))
    {CN : Addr} {CT : Addr} {CJ : Addr} {CR : Addr} {tk_FIGURES : Tok} {tk_LONGEST_amounts : Tok} {tk_SIGNS : Tok} {tk_ROOT : Tok} {tk_LONGEST_names : Tok} {tk_DEEPEST : Tok} {f_Node___init__ : Addr} {oc_Node___init__ kV_Node___init__ dc_Node___init__ pm_Node___init__ cd_Node___init__ ct_Node___init__ : Value} {od_Node___init__ an_Node___init__ : Option Addr} {sl_Node___init__ : Array (Option Value)} {T_Node___init__ : Addr} {toc_Node___init__ : Value} {tod_Node___init__ : Option Addr} {tn_Node___init__ : Nat} {tsl_Node___init__ : Array (Option Value)} {f_Node_below : Addr} {oc_Node_below kV_Node_below dc_Node_below pm_Node_below cd_Node_below ct_Node_below : Value} {od_Node_below an_Node_below : Option Addr} {sl_Node_below : Array (Option Value)} {f_Node_core : Addr} {oc_Node_core kV_Node_core dc_Node_core pm_Node_core cd_Node_core ct_Node_core : Value} {od_Node_core an_Node_core : Option Addr} {sl_Node_core : Array (Option Value)} {f_Node_names : Addr} {oc_Node_names kV_Node_names dc_Node_names pm_Node_names cd_Node_names ct_Node_names : Value} {od_Node_names an_Node_names : Option Addr} {sl_Node_names : Array (Option Value)} {f_Node_shown : Addr} {oc_Node_shown kV_Node_shown dc_Node_shown pm_Node_shown cd_Node_shown ct_Node_shown : Value} {od_Node_shown an_Node_shown : Option Addr} {sl_Node_shown : Array (Option Value)} {f_Join___init__ : Addr} {oc_Join___init__ kV_Join___init__ dc_Join___init__ pm_Join___init__ cd_Join___init__ ct_Join___init__ : Value} {od_Join___init__ an_Join___init__ : Option Addr} {sl_Join___init__ : Array (Option Value)} {T_Join___init__ : Addr} {toc_Join___init__ : Value} {tod_Join___init__ : Option Addr} {tn_Join___init__ : Nat} {tsl_Join___init__ : Array (Option Value)} {f_Join_below : Addr} {oc_Join_below kV_Join_below dc_Join_below pm_Join_below cd_Join_below ct_Join_below : Value} {od_Join_below an_Join_below : Option Addr} {sl_Join_below : Array (Option Value)} {f_Join_core : Addr} {oc_Join_core kV_Join_core dc_Join_core pm_Join_core cd_Join_core ct_Join_core : Value} {od_Join_core an_Join_core : Option Addr} {sl_Join_core : Array (Option Value)} {f_Reader___init__ : Addr} {oc_Reader___init__ kV_Reader___init__ dc_Reader___init__ pm_Reader___init__ cd_Reader___init__ ct_Reader___init__ : Value} {od_Reader___init__ an_Reader___init__ : Option Addr} {sl_Reader___init__ : Array (Option Value)} {f_Reader_sign : Addr} {oc_Reader_sign kV_Reader_sign dc_Reader_sign pm_Reader_sign cd_Reader_sign ct_Reader_sign : Value} {od_Reader_sign an_Reader_sign : Option Addr} {sl_Reader_sign : Array (Option Value)} {f_Reader_take : Addr} {oc_Reader_take kV_Reader_take dc_Reader_take pm_Reader_take cd_Reader_take ct_Reader_take : Value} {od_Reader_take an_Reader_take : Option Addr} {sl_Reader_take : Array (Option Value)} {f_Reader_run : Addr} {oc_Reader_run kV_Reader_run dc_Reader_run pm_Reader_run cd_Reader_run ct_Reader_run : Value} {od_Reader_run an_Reader_run : Option Addr} {sl_Reader_run : Array (Option Value)} {f_Reader_word : Addr} {oc_Reader_word kV_Reader_word dc_Reader_word pm_Reader_word cd_Reader_word ct_Reader_word : Value} {od_Reader_word an_Reader_word : Option Addr} {sl_Reader_word : Array (Option Value)} {f_Reader_piece : Addr} {oc_Reader_piece kV_Reader_piece dc_Reader_piece pm_Reader_piece cd_Reader_piece ct_Reader_piece : Value} {od_Reader_piece an_Reader_piece : Option Addr} {sl_Reader_piece : Array (Option Value)} {f_Reader_bunch : Addr} {oc_Reader_bunch kV_Reader_bunch dc_Reader_bunch pm_Reader_bunch cd_Reader_bunch ct_Reader_bunch : Value} {od_Reader_bunch an_Reader_bunch : Option Addr} {sl_Reader_bunch : Array (Option Value)} {f_Reader_hung : Addr} {oc_Reader_hung kV_Reader_hung dc_Reader_hung pm_Reader_hung cd_Reader_hung ct_Reader_hung : Value} {od_Reader_hung an_Reader_hung : Option Addr} {sl_Reader_hung : Array (Option Value)} {f_Reader_far : Addr} {oc_Reader_far kV_Reader_far dc_Reader_far pm_Reader_far cd_Reader_far ct_Reader_far : Value} {od_Reader_far an_Reader_far : Option Addr} {sl_Reader_far : Array (Option Value)} {f_is_whole : Addr} {oc_is_whole kV_is_whole dc_is_whole pm_is_whole cd_is_whole ct_is_whole : Value} {od_is_whole an_is_whole : Option Addr} {sl_is_whole : Array (Option Value)} {f_divisor : Addr} {oc_divisor kV_divisor dc_divisor pm_divisor cd_divisor ct_divisor : Value} {od_divisor an_divisor : Option Addr} {sl_divisor : Array (Option Value)} {f_amount : Addr} {oc_amount kV_amount dc_amount pm_amount cd_amount ct_amount : Value} {od_amount an_amount : Option Addr} {sl_amount : Array (Option Value)} {T_amount : Addr} {toc_amount : Value} {tod_amount : Option Addr} {tn_amount : Nat} {tsl_amount : Array (Option Value)} {tk_amount : Tok} {f_number_read : Addr} {oc_number_read kV_number_read dc_number_read pm_number_read cd_number_read ct_number_read : Value} {od_number_read an_number_read : Option Addr} {sl_number_read : Array (Option Value)} {f_read_amount : Addr} {oc_read_amount kV_read_amount dc_read_amount pm_read_amount cd_read_amount ct_read_amount : Value} {od_read_amount an_read_amount : Option Addr} {sl_read_amount : Array (Option Value)} {f_shown_amount : Addr} {oc_shown_amount kV_shown_amount dc_shown_amount pm_shown_amount cd_shown_amount ct_shown_amount : Value} {od_shown_amount an_shown_amount : Option Addr} {sl_shown_amount : Array (Option Value)} {f_is_name : Addr} {oc_is_name kV_is_name dc_is_name pm_is_name cd_is_name ct_is_name : Value} {od_is_name an_is_name : Option Addr} {sl_is_name : Array (Option Value)} {f_parsed : Addr} {oc_parsed kV_parsed dc_parsed pm_parsed cd_parsed ct_parsed : Value} {od_parsed an_parsed : Option Addr} {sl_parsed : Array (Option Value)} {f__law_cell_at : Addr} {oc__law_cell_at kV__law_cell_at dc__law_cell_at pm__law_cell_at cd__law_cell_at ct__law_cell_at : Value} {od__law_cell_at an__law_cell_at : Option Addr} {sl__law_cell_at : Array (Option Value)} {f__law_mixed : Addr} {oc__law_mixed kV__law_mixed dc__law_mixed pm__law_mixed cd__law_mixed ct__law_mixed : Value} {od__law_mixed an__law_mixed : Option Addr} {sl__law_mixed : Array (Option Value)} {f__law_whole : Addr} {oc__law_whole kV__law_whole dc__law_whole pm__law_whole cd__law_whole ct__law_whole : Value} {od__law_whole an__law_whole : Option Addr} {sl__law_whole : Array (Option Value)} {f__law_lowest : Addr} {oc__law_lowest kV__law_lowest dc__law_lowest pm__law_lowest cd__law_lowest ct__law_lowest : Value} {od__law_lowest an__law_lowest : Option Addr} {sl__law_lowest : Array (Option Value)} {f__law_far : Addr} {oc__law_far kV__law_far dc__law_far pm__law_far cd__law_far ct__law_far : Value} {od__law_far an__law_far : Option Addr} {sl__law_far : Array (Option Value)} {f__law_names : Addr} {oc__law_names kV__law_names dc__law_names pm__law_names cd__law_names ct__law_names : Value} {od__law_names an__law_names : Option Addr} {sl__law_names : Array (Option Value)} {f__law_amount_text : Addr} {oc__law_amount_text kV__law_amount_text dc__law_amount_text pm__law_amount_text cd__law_amount_text ct__law_amount_text : Value} {od__law_amount_text an__law_amount_text : Option Addr} {sl__law_amount_text : Array (Option Value)} {f__law_longer_text : Addr} {oc__law_longer_text kV__law_longer_text dc__law_longer_text pm__law_longer_text cd__law_longer_text ct__law_longer_text : Value} {od__law_longer_text an__law_longer_text : Option Addr} {sl__law_longer_text : Array (Option Value)} {f__law_ups : Addr} {oc__law_ups kV__law_ups dc__law_ups pm__law_ups cd__law_ups ct__law_ups : Value} {od__law_ups an__law_ups : Option Addr} {sl__law_ups : Array (Option Value)} {f__law_length_is : Addr} {oc__law_length_is kV__law_length_is dc__law_length_is pm__law_length_is cd__law_length_is ct__law_length_is : Value} {od__law_length_is an__law_length_is : Option Addr} {sl__law_length_is : Array (Option Value)} {f__law_nodes_are : Addr} {oc__law_nodes_are kV__law_nodes_are dc__law_nodes_are pm__law_nodes_are cd__law_nodes_are ct__law_nodes_are : Value} {od__law_nodes_are an__law_nodes_are : Option Addr} {sl__law_nodes_are : Array (Option Value)} {f_law : Addr} {oc_law kV_law dc_law pm_law cd_law ct_law : Value} {od_law an_law : Option Addr} {sl_law : Array (Option Value)}
    (a_CN : PySem.W.nsIn K mainGlobals "Node" = some (some (.ref CN)))
    (a_CT : PySem.W.nsIn K mainGlobals "Tip" = some (some (.ref CT)))
    (a_CJ : PySem.W.nsIn K mainGlobals "Join" = some (some (.ref CJ)))
    (a_CR : PySem.W.nsIn K mainGlobals "Reader" = some (some (.ref CR)))
    (pg_CN : PySem.W.plainGet K CN Str.empty = true)
    (hd_CN : PySem.W.hasDictIn K CN = true)
    (po_CN : PySem.W.plainOver K CN = true)
    (sa_CN : PySem.W.findIn K (.ref CN) "__setattr__" = some (some (.builtin "object.__setattr__")))
    (pg_CT : PySem.W.plainGet K CT Str.empty = true)
    (hd_CT : PySem.W.hasDictIn K CT = true)
    (po_CT : PySem.W.plainOver K CT = true)
    (sa_CT : PySem.W.findIn K (.ref CT) "__setattr__" = some (some (.builtin "object.__setattr__")))
    (pg_CJ : PySem.W.plainGet K CJ Str.empty = true)
    (hd_CJ : PySem.W.hasDictIn K CJ = true)
    (po_CJ : PySem.W.plainOver K CJ = true)
    (sa_CJ : PySem.W.findIn K (.ref CJ) "__setattr__" = some (some (.builtin "object.__setattr__")))
    (pg_CR : PySem.W.plainGet K CR Str.empty = true)
    (hd_CR : PySem.W.hasDictIn K CR = true)
    (po_CR : PySem.W.plainOver K CR = true)
    (sa_CR : PySem.W.findIn K (.ref CR) "__setattr__" = some (some (.builtin "object.__setattr__")))
    (mk_CT : PySem.W.makesIn K CT = true)
    (kc_CT : PySem.W.keepIn K (.ref CT) = true)
    (mk_CJ : PySem.W.makesIn K CJ = true)
    (kc_CJ : PySem.W.keepIn K (.ref CJ) = true)
    (mk_CR : PySem.W.makesIn K CR = true)
    (kc_CR : PySem.W.keepIn K (.ref CR) = true)
    (is_n : PySem.W.specialIn K (.builtin "object.__class__") "__get__" = some (some (.builtin "getset_descriptor.__get__")))
    (is_t : PySem.W.takesIn K (.builtin "object.__class__") = some true)
    (ic_CT : PySem.W.findIn K (.ref CT) "__class__" = some (some (.builtin "object.__class__")))
    (im_CT : PySem.W.mroIn K CT (.type "object") = some true)
    (ic_CJ : PySem.W.findIn K (.ref CJ) "__class__" = some (some (.builtin "object.__class__")))
    (im_CJ : PySem.W.mroIn K CJ (.type "object") = some true)
    (n_CN_name : PySem.W.findIn K (.ref CN) "name" = some none)
    (n_CN_length : PySem.W.findIn K (.ref CN) "length" = some none)
    (n_CT_name : PySem.W.findIn K (.ref CT) "name" = some none)
    (n_CT_length : PySem.W.findIn K (.ref CT) "length" = some none)
    (n_CJ_name : PySem.W.findIn K (.ref CJ) "name" = some none)
    (n_CJ_length : PySem.W.findIn K (.ref CJ) "length" = some none)
    (n_CJ_kids : PySem.W.findIn K (.ref CJ) "kids" = some none)
    (n_CR_text : PySem.W.findIn K (.ref CR) "text" = some none)
    (n_CR_at : PySem.W.findIn K (.ref CR) "at" = some none)
    (qTT : PySem.W.kitOne K (.ref CT) (.ref CT) = some true)
    (qTJ : PySem.W.kitOne K (.ref CT) (.ref CJ) = some false)
    (qJT : PySem.W.kitOne K (.ref CJ) (.ref CT) = some false)
    (qJJ : PySem.W.kitOne K (.ref CJ) (.ref CJ) = some true)
    (z_len : PySem.W.nsIn K mainGlobals "len" = some none)
    (z_int : PySem.W.nsIn K mainGlobals "int" = some none)
    (z_str : PySem.W.nsIn K mainGlobals "str" = some none)
    (z_range : PySem.W.nsIn K mainGlobals "range" = some none)
    (z_list : PySem.W.nsIn K mainGlobals "list" = some none)
    (z_isinstance : PySem.W.nsIn K mainGlobals "isinstance" = some none)
    (z_abs : PySem.W.nsIn K mainGlobals "abs" = some none)
    (z_bool : PySem.W.nsIn K mainGlobals "bool" = some none)
    (z_max : PySem.W.nsIn K mainGlobals "max" = some none)
    (z_tuple : PySem.W.nsIn K mainGlobals "tuple" = some none)
    (v_FIGURES : PySem.W.nsIn K mainGlobals "FIGURES" = some (some (.str (Str.ofString "0123456789") tk_FIGURES)))
    (v_LONGEST_amounts : PySem.W.nsIn K mainGlobals "LONGEST_amounts" = some (some (.int 30 tk_LONGEST_amounts)))
    (v_SIGNS : PySem.W.nsIn K mainGlobals "SIGNS" = some (some (.str (Str.ofString "0123456789ABCDEFGHIJKLMNOPQRSTUVWXYZabcdefghijklmnopqrstuvwxyz") tk_SIGNS)))
    (v_ROOT : PySem.W.nsIn K mainGlobals "ROOT" = some (some (.str (Str.ofString "*") tk_ROOT)))
    (v_LONGEST_names : PySem.W.nsIn K mainGlobals "LONGEST_names" = some (some (.int 12 tk_LONGEST_names)))
    (v_DEEPEST : PySem.W.nsIn K mainGlobals "DEEPEST" = some (some (.int 40 tk_DEEPEST)))
    (a_Node___init__ : PySem.W.findIn K (.ref CN) "__init__" = some (some (.ref f_Node___init__)))
    (i_Node___init__ : PySem.W.isFn K (.ref f_Node___init__) = true)
    (l_Node___init__ : K.lookup f_Node___init__ = some ⟨oc_Node___init__, od_Node___init__, .func (PySem.W.fnOf "__init__" "Node.__init__" (defArgs S_Node___init__) (defBody S_Node___init__) (defScope S_Node___init__) (.ref T_Node___init__) kV_Node___init__ dc_Node___init__ pm_Node___init__ an_Node___init__ cd_Node___init__ ct_Node___init__), sl_Node___init__⟩)
    (t_Node___init__ : K.lookup T_Node___init__ = some ⟨toc_Node___init__, tod_Node___init__, .seq #[.none] tn_Node___init__, tsl_Node___init__⟩)
    (c_Node___init__ : PySem.W.codeIn K cd_Node___init__ "Node.__init__" = true)
    (k_Node___init__ : PySem.W.keepIn K (.ref f_Node___init__) = true)
    (h_CT_Node___init__ : PySem.W.findIn K (.ref CT) "__init__" = some (some (.ref f_Node___init__)))
    (a_Node_below : PySem.W.findIn K (.ref CN) "below" = some (some (.ref f_Node_below)))
    (i_Node_below : PySem.W.isFn K (.ref f_Node_below) = true)
    (l_Node_below : K.lookup f_Node_below = some ⟨oc_Node_below, od_Node_below, .func (PySem.W.fnOf "below" "Node.below" (defArgs S_Node_below) (defBody S_Node_below) (defScope S_Node_below) .none kV_Node_below dc_Node_below pm_Node_below an_Node_below cd_Node_below ct_Node_below), sl_Node_below⟩)
    (c_Node_below : PySem.W.codeIn K cd_Node_below "Node.below" = true)
    (k_Node_below : PySem.W.keepIn K (.ref f_Node_below) = true)
    (h_CT_Node_below : PySem.W.findIn K (.ref CT) "below" = some (some (.ref f_Node_below)))
    (a_Node_core : PySem.W.findIn K (.ref CN) "core" = some (some (.ref f_Node_core)))
    (i_Node_core : PySem.W.isFn K (.ref f_Node_core) = true)
    (l_Node_core : K.lookup f_Node_core = some ⟨oc_Node_core, od_Node_core, .func (PySem.W.fnOf "core" "Node.core" (defArgs S_Node_core) (defBody S_Node_core) (defScope S_Node_core) .none kV_Node_core dc_Node_core pm_Node_core an_Node_core cd_Node_core ct_Node_core), sl_Node_core⟩)
    (c_Node_core : PySem.W.codeIn K cd_Node_core "Node.core" = true)
    (k_Node_core : PySem.W.keepIn K (.ref f_Node_core) = true)
    (h_CT_Node_core : PySem.W.findIn K (.ref CT) "core" = some (some (.ref f_Node_core)))
    (a_Node_names : PySem.W.findIn K (.ref CN) "names" = some (some (.ref f_Node_names)))
    (i_Node_names : PySem.W.isFn K (.ref f_Node_names) = true)
    (l_Node_names : K.lookup f_Node_names = some ⟨oc_Node_names, od_Node_names, .func (PySem.W.fnOf "names" "Node.names" (defArgs S_Node_names) (defBody S_Node_names) (defScope S_Node_names) .none kV_Node_names dc_Node_names pm_Node_names an_Node_names cd_Node_names ct_Node_names), sl_Node_names⟩)
    (c_Node_names : PySem.W.codeIn K cd_Node_names "Node.names" = true)
    (k_Node_names : PySem.W.keepIn K (.ref f_Node_names) = true)
    (h_CT_Node_names : PySem.W.findIn K (.ref CT) "names" = some (some (.ref f_Node_names)))
    (h_CJ_Node_names : PySem.W.findIn K (.ref CJ) "names" = some (some (.ref f_Node_names)))
    (a_Node_shown : PySem.W.findIn K (.ref CN) "shown" = some (some (.ref f_Node_shown)))
    (i_Node_shown : PySem.W.isFn K (.ref f_Node_shown) = true)
    (l_Node_shown : K.lookup f_Node_shown = some ⟨oc_Node_shown, od_Node_shown, .func (PySem.W.fnOf "shown" "Node.shown" (defArgs S_Node_shown) (defBody S_Node_shown) (defScope S_Node_shown) .none kV_Node_shown dc_Node_shown pm_Node_shown an_Node_shown cd_Node_shown ct_Node_shown), sl_Node_shown⟩)
    (c_Node_shown : PySem.W.codeIn K cd_Node_shown "Node.shown" = true)
    (k_Node_shown : PySem.W.keepIn K (.ref f_Node_shown) = true)
    (h_CT_Node_shown : PySem.W.findIn K (.ref CT) "shown" = some (some (.ref f_Node_shown)))
    (h_CJ_Node_shown : PySem.W.findIn K (.ref CJ) "shown" = some (some (.ref f_Node_shown)))
    (a_Join___init__ : PySem.W.findIn K (.ref CJ) "__init__" = some (some (.ref f_Join___init__)))
    (i_Join___init__ : PySem.W.isFn K (.ref f_Join___init__) = true)
    (l_Join___init__ : K.lookup f_Join___init__ = some ⟨oc_Join___init__, od_Join___init__, .func (PySem.W.fnOf "__init__" "Join.__init__" (defArgs S_Join___init__) (defBody S_Join___init__) (defScope S_Join___init__) (.ref T_Join___init__) kV_Join___init__ dc_Join___init__ pm_Join___init__ an_Join___init__ cd_Join___init__ ct_Join___init__), sl_Join___init__⟩)
    (t_Join___init__ : K.lookup T_Join___init__ = some ⟨toc_Join___init__, tod_Join___init__, .seq #[.none, .none] tn_Join___init__, tsl_Join___init__⟩)
    (c_Join___init__ : PySem.W.codeIn K cd_Join___init__ "Join.__init__" = true)
    (k_Join___init__ : PySem.W.keepIn K (.ref f_Join___init__) = true)
    (a_Join_below : PySem.W.findIn K (.ref CJ) "below" = some (some (.ref f_Join_below)))
    (i_Join_below : PySem.W.isFn K (.ref f_Join_below) = true)
    (l_Join_below : K.lookup f_Join_below = some ⟨oc_Join_below, od_Join_below, .func (PySem.W.fnOf "below" "Join.below" (defArgs S_Join_below) (defBody S_Join_below) (defScope S_Join_below) .none kV_Join_below dc_Join_below pm_Join_below an_Join_below cd_Join_below ct_Join_below), sl_Join_below⟩)
    (c_Join_below : PySem.W.codeIn K cd_Join_below "Join.below" = true)
    (k_Join_below : PySem.W.keepIn K (.ref f_Join_below) = true)
    (a_Join_core : PySem.W.findIn K (.ref CJ) "core" = some (some (.ref f_Join_core)))
    (i_Join_core : PySem.W.isFn K (.ref f_Join_core) = true)
    (l_Join_core : K.lookup f_Join_core = some ⟨oc_Join_core, od_Join_core, .func (PySem.W.fnOf "core" "Join.core" (defArgs S_Join_core) (defBody S_Join_core) (defScope S_Join_core) .none kV_Join_core dc_Join_core pm_Join_core an_Join_core cd_Join_core ct_Join_core), sl_Join_core⟩)
    (c_Join_core : PySem.W.codeIn K cd_Join_core "Join.core" = true)
    (k_Join_core : PySem.W.keepIn K (.ref f_Join_core) = true)
    (a_Reader___init__ : PySem.W.findIn K (.ref CR) "__init__" = some (some (.ref f_Reader___init__)))
    (i_Reader___init__ : PySem.W.isFn K (.ref f_Reader___init__) = true)
    (l_Reader___init__ : K.lookup f_Reader___init__ = some ⟨oc_Reader___init__, od_Reader___init__, .func (PySem.W.fnOf "__init__" "Reader.__init__" (defArgs S_Reader___init__) (defBody S_Reader___init__) (defScope S_Reader___init__) .none kV_Reader___init__ dc_Reader___init__ pm_Reader___init__ an_Reader___init__ cd_Reader___init__ ct_Reader___init__), sl_Reader___init__⟩)
    (c_Reader___init__ : PySem.W.codeIn K cd_Reader___init__ "Reader.__init__" = true)
    (k_Reader___init__ : PySem.W.keepIn K (.ref f_Reader___init__) = true)
    (a_Reader_sign : PySem.W.findIn K (.ref CR) "sign" = some (some (.ref f_Reader_sign)))
    (i_Reader_sign : PySem.W.isFn K (.ref f_Reader_sign) = true)
    (l_Reader_sign : K.lookup f_Reader_sign = some ⟨oc_Reader_sign, od_Reader_sign, .func (PySem.W.fnOf "sign" "Reader.sign" (defArgs S_Reader_sign) (defBody S_Reader_sign) (defScope S_Reader_sign) .none kV_Reader_sign dc_Reader_sign pm_Reader_sign an_Reader_sign cd_Reader_sign ct_Reader_sign), sl_Reader_sign⟩)
    (c_Reader_sign : PySem.W.codeIn K cd_Reader_sign "Reader.sign" = true)
    (k_Reader_sign : PySem.W.keepIn K (.ref f_Reader_sign) = true)
    (a_Reader_take : PySem.W.findIn K (.ref CR) "take" = some (some (.ref f_Reader_take)))
    (i_Reader_take : PySem.W.isFn K (.ref f_Reader_take) = true)
    (l_Reader_take : K.lookup f_Reader_take = some ⟨oc_Reader_take, od_Reader_take, .func (PySem.W.fnOf "take" "Reader.take" (defArgs S_Reader_take) (defBody S_Reader_take) (defScope S_Reader_take) .none kV_Reader_take dc_Reader_take pm_Reader_take an_Reader_take cd_Reader_take ct_Reader_take), sl_Reader_take⟩)
    (c_Reader_take : PySem.W.codeIn K cd_Reader_take "Reader.take" = true)
    (k_Reader_take : PySem.W.keepIn K (.ref f_Reader_take) = true)
    (a_Reader_run : PySem.W.findIn K (.ref CR) "run" = some (some (.ref f_Reader_run)))
    (i_Reader_run : PySem.W.isFn K (.ref f_Reader_run) = true)
    (l_Reader_run : K.lookup f_Reader_run = some ⟨oc_Reader_run, od_Reader_run, .func (PySem.W.fnOf "run" "Reader.run" (defArgs S_Reader_run) (defBody S_Reader_run) (defScope S_Reader_run) .none kV_Reader_run dc_Reader_run pm_Reader_run an_Reader_run cd_Reader_run ct_Reader_run), sl_Reader_run⟩)
    (c_Reader_run : PySem.W.codeIn K cd_Reader_run "Reader.run" = true)
    (k_Reader_run : PySem.W.keepIn K (.ref f_Reader_run) = true)
    (a_Reader_word : PySem.W.findIn K (.ref CR) "word" = some (some (.ref f_Reader_word)))
    (i_Reader_word : PySem.W.isFn K (.ref f_Reader_word) = true)
    (l_Reader_word : K.lookup f_Reader_word = some ⟨oc_Reader_word, od_Reader_word, .func (PySem.W.fnOf "word" "Reader.word" (defArgs S_Reader_word) (defBody S_Reader_word) (defScope S_Reader_word) .none kV_Reader_word dc_Reader_word pm_Reader_word an_Reader_word cd_Reader_word ct_Reader_word), sl_Reader_word⟩)
    (c_Reader_word : PySem.W.codeIn K cd_Reader_word "Reader.word" = true)
    (k_Reader_word : PySem.W.keepIn K (.ref f_Reader_word) = true)
    (a_Reader_piece : PySem.W.findIn K (.ref CR) "piece" = some (some (.ref f_Reader_piece)))
    (i_Reader_piece : PySem.W.isFn K (.ref f_Reader_piece) = true)
    (l_Reader_piece : K.lookup f_Reader_piece = some ⟨oc_Reader_piece, od_Reader_piece, .func (PySem.W.fnOf "piece" "Reader.piece" (defArgs S_Reader_piece) (defBody S_Reader_piece) (defScope S_Reader_piece) .none kV_Reader_piece dc_Reader_piece pm_Reader_piece an_Reader_piece cd_Reader_piece ct_Reader_piece), sl_Reader_piece⟩)
    (c_Reader_piece : PySem.W.codeIn K cd_Reader_piece "Reader.piece" = true)
    (k_Reader_piece : PySem.W.keepIn K (.ref f_Reader_piece) = true)
    (a_Reader_bunch : PySem.W.findIn K (.ref CR) "bunch" = some (some (.ref f_Reader_bunch)))
    (i_Reader_bunch : PySem.W.isFn K (.ref f_Reader_bunch) = true)
    (l_Reader_bunch : K.lookup f_Reader_bunch = some ⟨oc_Reader_bunch, od_Reader_bunch, .func (PySem.W.fnOf "bunch" "Reader.bunch" (defArgs S_Reader_bunch) (defBody S_Reader_bunch) (defScope S_Reader_bunch) .none kV_Reader_bunch dc_Reader_bunch pm_Reader_bunch an_Reader_bunch cd_Reader_bunch ct_Reader_bunch), sl_Reader_bunch⟩)
    (c_Reader_bunch : PySem.W.codeIn K cd_Reader_bunch "Reader.bunch" = true)
    (k_Reader_bunch : PySem.W.keepIn K (.ref f_Reader_bunch) = true)
    (a_Reader_hung : PySem.W.findIn K (.ref CR) "hung" = some (some (.ref f_Reader_hung)))
    (i_Reader_hung : PySem.W.isFn K (.ref f_Reader_hung) = true)
    (l_Reader_hung : K.lookup f_Reader_hung = some ⟨oc_Reader_hung, od_Reader_hung, .func (PySem.W.fnOf "hung" "Reader.hung" (defArgs S_Reader_hung) (defBody S_Reader_hung) (defScope S_Reader_hung) .none kV_Reader_hung dc_Reader_hung pm_Reader_hung an_Reader_hung cd_Reader_hung ct_Reader_hung), sl_Reader_hung⟩)
    (c_Reader_hung : PySem.W.codeIn K cd_Reader_hung "Reader.hung" = true)
    (k_Reader_hung : PySem.W.keepIn K (.ref f_Reader_hung) = true)
    (a_Reader_far : PySem.W.findIn K (.ref CR) "far" = some (some (.ref f_Reader_far)))
    (i_Reader_far : PySem.W.isFn K (.ref f_Reader_far) = true)
    (l_Reader_far : K.lookup f_Reader_far = some ⟨oc_Reader_far, od_Reader_far, .func (PySem.W.fnOf "far" "Reader.far" (defArgs S_Reader_far) (defBody S_Reader_far) (defScope S_Reader_far) .none kV_Reader_far dc_Reader_far pm_Reader_far an_Reader_far cd_Reader_far ct_Reader_far), sl_Reader_far⟩)
    (c_Reader_far : PySem.W.codeIn K cd_Reader_far "Reader.far" = true)
    (k_Reader_far : PySem.W.keepIn K (.ref f_Reader_far) = true)
    (rdN : PySem.W.readsIn K CN (.type "type") = true)
    (gaN : PySem.W.specialIn K (.ref CN) "__getattribute__" = some (some (.builtin "type.__getattribute__")))
    (fcI : PySem.W.findCls K (.ref CN) (.type "type") "__init__" = some (.val (.ref f_Node___init__)))
    (fcC : PySem.W.findCls K (.ref CN) (.type "type") "core" = some (.val (.ref f_Node_core)))
    (a_is_whole : PySem.W.nsIn K mainGlobals "is_whole" = some (some (.ref f_is_whole)))
    (l_is_whole : K.lookup f_is_whole = some ⟨oc_is_whole, od_is_whole, .func (PySem.W.fnOf "is_whole" "is_whole" (defArgs S_is_whole) (defBody S_is_whole) (defScope S_is_whole) .none kV_is_whole dc_is_whole pm_is_whole an_is_whole cd_is_whole ct_is_whole), sl_is_whole⟩)
    (c_is_whole : PySem.W.codeIn K cd_is_whole "is_whole" = true)
    (k_is_whole : PySem.W.keepIn K (.ref f_is_whole) = true)
    (a_divisor : PySem.W.nsIn K mainGlobals "divisor" = some (some (.ref f_divisor)))
    (l_divisor : K.lookup f_divisor = some ⟨oc_divisor, od_divisor, .func (PySem.W.fnOf "divisor" "divisor" (defArgs S_divisor) (defBody S_divisor) (defScope S_divisor) .none kV_divisor dc_divisor pm_divisor an_divisor cd_divisor ct_divisor), sl_divisor⟩)
    (c_divisor : PySem.W.codeIn K cd_divisor "divisor" = true)
    (k_divisor : PySem.W.keepIn K (.ref f_divisor) = true)
    (a_amount : PySem.W.nsIn K mainGlobals "amount" = some (some (.ref f_amount)))
    (l_amount : K.lookup f_amount = some ⟨oc_amount, od_amount, .func (PySem.W.fnOf "amount" "amount" (defArgs S_amount) (defBody S_amount) (defScope S_amount) (.ref T_amount) kV_amount dc_amount pm_amount an_amount cd_amount ct_amount), sl_amount⟩)
    (t_amount : K.lookup T_amount = some ⟨toc_amount, tod_amount, .seq #[(.int 1 tk_amount)] tn_amount, tsl_amount⟩)
    (c_amount : PySem.W.codeIn K cd_amount "amount" = true)
    (k_amount : PySem.W.keepIn K (.ref f_amount) = true)
    (a_number_read : PySem.W.nsIn K mainGlobals "number_read" = some (some (.ref f_number_read)))
    (l_number_read : K.lookup f_number_read = some ⟨oc_number_read, od_number_read, .func (PySem.W.fnOf "number_read" "number_read" (defArgs S_number_read) (defBody S_number_read) (defScope S_number_read) .none kV_number_read dc_number_read pm_number_read an_number_read cd_number_read ct_number_read), sl_number_read⟩)
    (c_number_read : PySem.W.codeIn K cd_number_read "number_read" = true)
    (k_number_read : PySem.W.keepIn K (.ref f_number_read) = true)
    (a_read_amount : PySem.W.nsIn K mainGlobals "read_amount" = some (some (.ref f_read_amount)))
    (l_read_amount : K.lookup f_read_amount = some ⟨oc_read_amount, od_read_amount, .func (PySem.W.fnOf "read_amount" "read_amount" (defArgs S_read_amount) (defBody S_read_amount) (defScope S_read_amount) .none kV_read_amount dc_read_amount pm_read_amount an_read_amount cd_read_amount ct_read_amount), sl_read_amount⟩)
    (c_read_amount : PySem.W.codeIn K cd_read_amount "read_amount" = true)
    (k_read_amount : PySem.W.keepIn K (.ref f_read_amount) = true)
    (a_shown_amount : PySem.W.nsIn K mainGlobals "shown_amount" = some (some (.ref f_shown_amount)))
    (l_shown_amount : K.lookup f_shown_amount = some ⟨oc_shown_amount, od_shown_amount, .func (PySem.W.fnOf "shown_amount" "shown_amount" (defArgs S_shown_amount) (defBody S_shown_amount) (defScope S_shown_amount) .none kV_shown_amount dc_shown_amount pm_shown_amount an_shown_amount cd_shown_amount ct_shown_amount), sl_shown_amount⟩)
    (c_shown_amount : PySem.W.codeIn K cd_shown_amount "shown_amount" = true)
    (k_shown_amount : PySem.W.keepIn K (.ref f_shown_amount) = true)
    (a_is_name : PySem.W.nsIn K mainGlobals "is_name" = some (some (.ref f_is_name)))
    (l_is_name : K.lookup f_is_name = some ⟨oc_is_name, od_is_name, .func (PySem.W.fnOf "is_name" "is_name" (defArgs S_is_name) (defBody S_is_name) (defScope S_is_name) .none kV_is_name dc_is_name pm_is_name an_is_name cd_is_name ct_is_name), sl_is_name⟩)
    (c_is_name : PySem.W.codeIn K cd_is_name "is_name" = true)
    (k_is_name : PySem.W.keepIn K (.ref f_is_name) = true)
    (a_parsed : PySem.W.nsIn K mainGlobals "parsed" = some (some (.ref f_parsed)))
    (l_parsed : K.lookup f_parsed = some ⟨oc_parsed, od_parsed, .func (PySem.W.fnOf "parsed" "parsed" (defArgs S_parsed) (defBody S_parsed) (defScope S_parsed) .none kV_parsed dc_parsed pm_parsed an_parsed cd_parsed ct_parsed), sl_parsed⟩)
    (c_parsed : PySem.W.codeIn K cd_parsed "parsed" = true)
    (k_parsed : PySem.W.keepIn K (.ref f_parsed) = true)
    (a__law_cell_at : PySem.W.nsIn K mainGlobals "_law_cell_at" = some (some (.ref f__law_cell_at)))
    (l__law_cell_at : K.lookup f__law_cell_at = some ⟨oc__law_cell_at, od__law_cell_at, .func (PySem.W.fnOf "_law_cell_at" "_law_cell_at" (defArgs S__law_cell_at) (defBody S__law_cell_at) (defScope S__law_cell_at) .none kV__law_cell_at dc__law_cell_at pm__law_cell_at an__law_cell_at cd__law_cell_at ct__law_cell_at), sl__law_cell_at⟩)
    (c__law_cell_at : PySem.W.codeIn K cd__law_cell_at "_law_cell_at" = true)
    (k__law_cell_at : PySem.W.keepIn K (.ref f__law_cell_at) = true)
    (a__law_mixed : PySem.W.nsIn K mainGlobals "_law_mixed" = some (some (.ref f__law_mixed)))
    (l__law_mixed : K.lookup f__law_mixed = some ⟨oc__law_mixed, od__law_mixed, .func (PySem.W.fnOf "_law_mixed" "_law_mixed" (defArgs S__law_mixed) (defBody S__law_mixed) (defScope S__law_mixed) .none kV__law_mixed dc__law_mixed pm__law_mixed an__law_mixed cd__law_mixed ct__law_mixed), sl__law_mixed⟩)
    (c__law_mixed : PySem.W.codeIn K cd__law_mixed "_law_mixed" = true)
    (k__law_mixed : PySem.W.keepIn K (.ref f__law_mixed) = true)
    (a__law_whole : PySem.W.nsIn K mainGlobals "_law_whole" = some (some (.ref f__law_whole)))
    (l__law_whole : K.lookup f__law_whole = some ⟨oc__law_whole, od__law_whole, .func (PySem.W.fnOf "_law_whole" "_law_whole" (defArgs S__law_whole) (defBody S__law_whole) (defScope S__law_whole) .none kV__law_whole dc__law_whole pm__law_whole an__law_whole cd__law_whole ct__law_whole), sl__law_whole⟩)
    (c__law_whole : PySem.W.codeIn K cd__law_whole "_law_whole" = true)
    (k__law_whole : PySem.W.keepIn K (.ref f__law_whole) = true)
    (a__law_lowest : PySem.W.nsIn K mainGlobals "_law_lowest" = some (some (.ref f__law_lowest)))
    (l__law_lowest : K.lookup f__law_lowest = some ⟨oc__law_lowest, od__law_lowest, .func (PySem.W.fnOf "_law_lowest" "_law_lowest" (defArgs S__law_lowest) (defBody S__law_lowest) (defScope S__law_lowest) .none kV__law_lowest dc__law_lowest pm__law_lowest an__law_lowest cd__law_lowest ct__law_lowest), sl__law_lowest⟩)
    (c__law_lowest : PySem.W.codeIn K cd__law_lowest "_law_lowest" = true)
    (k__law_lowest : PySem.W.keepIn K (.ref f__law_lowest) = true)
    (a__law_far : PySem.W.nsIn K mainGlobals "_law_far" = some (some (.ref f__law_far)))
    (l__law_far : K.lookup f__law_far = some ⟨oc__law_far, od__law_far, .func (PySem.W.fnOf "_law_far" "_law_far" (defArgs S__law_far) (defBody S__law_far) (defScope S__law_far) .none kV__law_far dc__law_far pm__law_far an__law_far cd__law_far ct__law_far), sl__law_far⟩)
    (c__law_far : PySem.W.codeIn K cd__law_far "_law_far" = true)
    (k__law_far : PySem.W.keepIn K (.ref f__law_far) = true)
    (a__law_names : PySem.W.nsIn K mainGlobals "_law_names" = some (some (.ref f__law_names)))
    (l__law_names : K.lookup f__law_names = some ⟨oc__law_names, od__law_names, .func (PySem.W.fnOf "_law_names" "_law_names" (defArgs S__law_names) (defBody S__law_names) (defScope S__law_names) .none kV__law_names dc__law_names pm__law_names an__law_names cd__law_names ct__law_names), sl__law_names⟩)
    (c__law_names : PySem.W.codeIn K cd__law_names "_law_names" = true)
    (k__law_names : PySem.W.keepIn K (.ref f__law_names) = true)
    (a__law_amount_text : PySem.W.nsIn K mainGlobals "_law_amount_text" = some (some (.ref f__law_amount_text)))
    (l__law_amount_text : K.lookup f__law_amount_text = some ⟨oc__law_amount_text, od__law_amount_text, .func (PySem.W.fnOf "_law_amount_text" "_law_amount_text" (defArgs S__law_amount_text) (defBody S__law_amount_text) (defScope S__law_amount_text) .none kV__law_amount_text dc__law_amount_text pm__law_amount_text an__law_amount_text cd__law_amount_text ct__law_amount_text), sl__law_amount_text⟩)
    (c__law_amount_text : PySem.W.codeIn K cd__law_amount_text "_law_amount_text" = true)
    (k__law_amount_text : PySem.W.keepIn K (.ref f__law_amount_text) = true)
    (a__law_longer_text : PySem.W.nsIn K mainGlobals "_law_longer_text" = some (some (.ref f__law_longer_text)))
    (l__law_longer_text : K.lookup f__law_longer_text = some ⟨oc__law_longer_text, od__law_longer_text, .func (PySem.W.fnOf "_law_longer_text" "_law_longer_text" (defArgs S__law_longer_text) (defBody S__law_longer_text) (defScope S__law_longer_text) .none kV__law_longer_text dc__law_longer_text pm__law_longer_text an__law_longer_text cd__law_longer_text ct__law_longer_text), sl__law_longer_text⟩)
    (c__law_longer_text : PySem.W.codeIn K cd__law_longer_text "_law_longer_text" = true)
    (k__law_longer_text : PySem.W.keepIn K (.ref f__law_longer_text) = true)
    (a__law_ups : PySem.W.nsIn K mainGlobals "_law_ups" = some (some (.ref f__law_ups)))
    (l__law_ups : K.lookup f__law_ups = some ⟨oc__law_ups, od__law_ups, .func (PySem.W.fnOf "_law_ups" "_law_ups" (defArgs S__law_ups) (defBody S__law_ups) (defScope S__law_ups) .none kV__law_ups dc__law_ups pm__law_ups an__law_ups cd__law_ups ct__law_ups), sl__law_ups⟩)
    (c__law_ups : PySem.W.codeIn K cd__law_ups "_law_ups" = true)
    (k__law_ups : PySem.W.keepIn K (.ref f__law_ups) = true)
    (a__law_length_is : PySem.W.nsIn K mainGlobals "_law_length_is" = some (some (.ref f__law_length_is)))
    (l__law_length_is : K.lookup f__law_length_is = some ⟨oc__law_length_is, od__law_length_is, .func (PySem.W.fnOf "_law_length_is" "_law_length_is" (defArgs S__law_length_is) (defBody S__law_length_is) (defScope S__law_length_is) .none kV__law_length_is dc__law_length_is pm__law_length_is an__law_length_is cd__law_length_is ct__law_length_is), sl__law_length_is⟩)
    (c__law_length_is : PySem.W.codeIn K cd__law_length_is "_law_length_is" = true)
    (k__law_length_is : PySem.W.keepIn K (.ref f__law_length_is) = true)
    (a__law_nodes_are : PySem.W.nsIn K mainGlobals "_law_nodes_are" = some (some (.ref f__law_nodes_are)))
    (l__law_nodes_are : K.lookup f__law_nodes_are = some ⟨oc__law_nodes_are, od__law_nodes_are, .func (PySem.W.fnOf "_law_nodes_are" "_law_nodes_are" (defArgs S__law_nodes_are) (defBody S__law_nodes_are) (defScope S__law_nodes_are) .none kV__law_nodes_are dc__law_nodes_are pm__law_nodes_are an__law_nodes_are cd__law_nodes_are ct__law_nodes_are), sl__law_nodes_are⟩)
    (c__law_nodes_are : PySem.W.codeIn K cd__law_nodes_are "_law_nodes_are" = true)
    (k__law_nodes_are : PySem.W.keepIn K (.ref f__law_nodes_are) = true)
    (a_law : PySem.W.nsIn K mainGlobals "law" = some (some (.ref f_law)))
    (l_law : K.lookup f_law = some ⟨oc_law, od_law, .func (PySem.W.fnOf "law" "law" (defArgs S_law) (defBody S_law) (defScope S_law) .none kV_law dc_law pm_law an_law cd_law ct_law), sl_law⟩)
    (c_law : PySem.W.codeIn K cd_law "law" = true)
    (k_law : PySem.W.keepIn K (.ref f_law) = true) :
    ∃ fd : FuncData, (∀ (s : Shared) (v : Value), BindsTo s fd ⟨[v], []⟩ [("_law_script", v)]) ∧ ∀ base : Heap, K.In base → base.Ns mainGlobals mg → FnOk l.prog w K mg base (L2.CX l.prog w) 204 fa fd ["_law_script"] (toSp K (fsP lawP)) := by
  have e := hfa.symm.trans (PySem.W.mg_of X G a_law)
  cases e
  have cl_CN : Cls K CN := ⟨pg_CN, hd_CN, po_CN, sa_CN⟩
  have cl_CT : Cls K CT := ⟨pg_CT, hd_CT, po_CT, sa_CT⟩
  have cl_CJ : Cls K CJ := ⟨pg_CJ, hd_CJ, po_CJ, sa_CJ⟩
  have cl_CR : Cls K CR := ⟨pg_CR, hd_CR, po_CR, sa_CR⟩
  have is_CT : IsK K CT := ⟨cl_CT, ic_CT, is_n, is_t, im_CT⟩
  have is_CJ : IsK K CJ := ⟨cl_CJ, ic_CJ, is_n, is_t, im_CJ⟩
  have F_Node___init__ : FunD K "__init__" "Node.__init__" (defArgs S_Node___init__) (defBody S_Node___init__) (defScope S_Node___init__) [.non] [] f_Node___init__ _ := ⟨⟨_, _, _, _, _, _, _, _, _, _, rfl, l_Node___init__, c_Node___init__, .inr ⟨(fun z => by cases z), T_Node___init__, _, [.none], _, rfl, t_Node___init__, rfl, (.cons rfl .nil)⟩, .inl rfl⟩, k_Node___init__⟩
  have b_Node___init___2 := F_Node___init__.binds1 (ps := ["self", "name", "length"]) 2 0 (fun z => by cases z) rfl fun T kV doc pm an cdv ct us its hu hi => match us, its, hu, hi with | [_, _], [_], _, _ => ⟨_, rfl, rfl⟩
  have b_Node___init___3 := F_Node___init__.binds1 (ps := ["self", "name", "length"]) 3 1 (fun z => by cases z) rfl fun T kV doc pm an cdv ct us its hu hi => match us, its, hu, hi with | [_, _, _], [_], _, _ => ⟨_, rfl, rfl⟩
  have F_Node_below := fun_mk (st := S_Node_below) l_Node_below c_Node_below k_Node_below
  have b_Node_below := F_Node_below.binds (ps := ["self"]) fun _ _ _ _ _ _ us hl => match us, hl with | [_], _ => rfl
  have F_Node_core := fun_mk (st := S_Node_core) l_Node_core c_Node_core k_Node_core
  have b_Node_core := F_Node_core.binds (ps := ["self"]) fun _ _ _ _ _ _ us hl => match us, hl with | [_], _ => rfl
  have F_Node_names := fun_mk (st := S_Node_names) l_Node_names c_Node_names k_Node_names
  have b_Node_names := F_Node_names.binds (ps := ["self"]) fun _ _ _ _ _ _ us hl => match us, hl with | [_], _ => rfl
  have F_Node_shown := fun_mk (st := S_Node_shown) l_Node_shown c_Node_shown k_Node_shown
  have b_Node_shown := F_Node_shown.binds (ps := ["self"]) fun _ _ _ _ _ _ us hl => match us, hl with | [_], _ => rfl
  have F_Join___init__ : FunD K "__init__" "Join.__init__" (defArgs S_Join___init__) (defBody S_Join___init__) (defScope S_Join___init__) [.non, .non] [] f_Join___init__ _ := ⟨⟨_, _, _, _, _, _, _, _, _, _, rfl, l_Join___init__, c_Join___init__, .inr ⟨(fun z => by cases z), T_Join___init__, _, [.none, .none], _, rfl, t_Join___init__, rfl, (.cons rfl (.cons rfl .nil))⟩, .inl rfl⟩, k_Join___init__⟩
  have b_Join___init___2 := F_Join___init__.binds1 (ps := ["self", "kids", "name", "length"]) 2 0 (fun z => by cases z) rfl fun T kV doc pm an cdv ct us its hu hi => match us, its, hu, hi with | [_, _], [_, _], _, _ => ⟨_, rfl, rfl⟩
  have b_Join___init___3 := F_Join___init__.binds1 (ps := ["self", "kids", "name", "length"]) 3 1 (fun z => by cases z) rfl fun T kV doc pm an cdv ct us its hu hi => match us, its, hu, hi with | [_, _, _], [_, _], _, _ => ⟨_, rfl, rfl⟩
  have b_Join___init___4 := F_Join___init__.binds1 (ps := ["self", "kids", "name", "length"]) 4 2 (fun z => by cases z) rfl fun T kV doc pm an cdv ct us its hu hi => match us, its, hu, hi with | [_, _, _, _], [_, _], _, _ => ⟨_, rfl, rfl⟩
  have F_Join_below := fun_mk (st := S_Join_below) l_Join_below c_Join_below k_Join_below
  have b_Join_below := F_Join_below.binds (ps := ["self"]) fun _ _ _ _ _ _ us hl => match us, hl with | [_], _ => rfl
  have F_Join_core := fun_mk (st := S_Join_core) l_Join_core c_Join_core k_Join_core
  have b_Join_core := F_Join_core.binds (ps := ["self"]) fun _ _ _ _ _ _ us hl => match us, hl with | [_], _ => rfl
  have F_Reader___init__ := fun_mk (st := S_Reader___init__) l_Reader___init__ c_Reader___init__ k_Reader___init__
  have b_Reader___init__ := F_Reader___init__.binds (ps := ["self", "text"]) fun _ _ _ _ _ _ us hl => match us, hl with | [_, _], _ => rfl
  have F_Reader_sign := fun_mk (st := S_Reader_sign) l_Reader_sign c_Reader_sign k_Reader_sign
  have b_Reader_sign := F_Reader_sign.binds (ps := ["self"]) fun _ _ _ _ _ _ us hl => match us, hl with | [_], _ => rfl
  have F_Reader_take := fun_mk (st := S_Reader_take) l_Reader_take c_Reader_take k_Reader_take
  have b_Reader_take := F_Reader_take.binds (ps := ["self", "sign"]) fun _ _ _ _ _ _ us hl => match us, hl with | [_, _], _ => rfl
  have F_Reader_run := fun_mk (st := S_Reader_run) l_Reader_run c_Reader_run k_Reader_run
  have b_Reader_run := F_Reader_run.binds (ps := ["self", "signs"]) fun _ _ _ _ _ _ us hl => match us, hl with | [_, _], _ => rfl
  have F_Reader_word := fun_mk (st := S_Reader_word) l_Reader_word c_Reader_word k_Reader_word
  have b_Reader_word := F_Reader_word.binds (ps := ["self"]) fun _ _ _ _ _ _ us hl => match us, hl with | [_], _ => rfl
  have F_Reader_piece := fun_mk (st := S_Reader_piece) l_Reader_piece c_Reader_piece k_Reader_piece
  have b_Reader_piece := F_Reader_piece.binds (ps := ["self", "depth"]) fun _ _ _ _ _ _ us hl => match us, hl with | [_, _], _ => rfl
  have F_Reader_bunch := fun_mk (st := S_Reader_bunch) l_Reader_bunch c_Reader_bunch k_Reader_bunch
  have b_Reader_bunch := F_Reader_bunch.binds (ps := ["self", "depth"]) fun _ _ _ _ _ _ us hl => match us, hl with | [_, _], _ => rfl
  have F_Reader_hung := fun_mk (st := S_Reader_hung) l_Reader_hung c_Reader_hung k_Reader_hung
  have b_Reader_hung := F_Reader_hung.binds (ps := ["self", "depth"]) fun _ _ _ _ _ _ us hl => match us, hl with | [_, _], _ => rfl
  have F_Reader_far := fun_mk (st := S_Reader_far) l_Reader_far c_Reader_far k_Reader_far
  have b_Reader_far := F_Reader_far.binds (ps := ["self"]) fun _ _ _ _ _ _ us hl => match us, hl with | [_], _ => rfl
  have F_is_whole := fun_mk (st := S_is_whole) l_is_whole c_is_whole k_is_whole
  have b_is_whole := F_is_whole.binds (ps := ["thing"]) fun _ _ _ _ _ _ us hl => match us, hl with | [_], _ => rfl
  have F_divisor := fun_mk (st := S_divisor) l_divisor c_divisor k_divisor
  have b_divisor := F_divisor.binds (ps := ["one", "other"]) fun _ _ _ _ _ _ us hl => match us, hl with | [_, _], _ => rfl
  have F_amount : FunD K "amount" "amount" (defArgs S_amount) (defBody S_amount) (defScope S_amount) [.int 1] [] f_amount _ := ⟨⟨_, _, _, _, _, _, _, _, _, _, rfl, l_amount, c_amount, .inr ⟨(fun z => by cases z), T_amount, _, [(.int 1 tk_amount)], _, rfl, t_amount, rfl, (.cons ⟨_, rfl⟩ .nil)⟩, .inl rfl⟩, k_amount⟩
  have b_amount_1 := F_amount.binds1 (ps := ["top", "bottom"]) 1 0 (fun z => by cases z) rfl fun T kV doc pm an cdv ct us its hu hi => match us, its, hu, hi with | [_], [_], _, _ => ⟨_, rfl, rfl⟩
  have b_amount_2 := F_amount.binds1 (ps := ["top", "bottom"]) 2 1 (fun z => by cases z) rfl fun T kV doc pm an cdv ct us its hu hi => match us, its, hu, hi with | [_, _], [_], _, _ => ⟨_, rfl, rfl⟩
  have F_number_read := fun_mk (st := S_number_read) l_number_read c_number_read k_number_read
  have b_number_read := F_number_read.binds (ps := ["text"]) fun _ _ _ _ _ _ us hl => match us, hl with | [_], _ => rfl
  have F_read_amount := fun_mk (st := S_read_amount) l_read_amount c_read_amount k_read_amount
  have b_read_amount := F_read_amount.binds (ps := ["text"]) fun _ _ _ _ _ _ us hl => match us, hl with | [_], _ => rfl
  have F_shown_amount := fun_mk (st := S_shown_amount) l_shown_amount c_shown_amount k_shown_amount
  have b_shown_amount := F_shown_amount.binds (ps := ["one"]) fun _ _ _ _ _ _ us hl => match us, hl with | [_], _ => rfl
  have F_is_name := fun_mk (st := S_is_name) l_is_name c_is_name k_is_name
  have b_is_name := F_is_name.binds (ps := ["thing"]) fun _ _ _ _ _ _ us hl => match us, hl with | [_], _ => rfl
  have F_parsed := fun_mk (st := S_parsed) l_parsed c_parsed k_parsed
  have b_parsed := F_parsed.binds (ps := ["text"]) fun _ _ _ _ _ _ us hl => match us, hl with | [_], _ => rfl
  have F__law_cell_at := fun_mk (st := S__law_cell_at) l__law_cell_at c__law_cell_at k__law_cell_at
  have b__law_cell_at := F__law_cell_at.binds (ps := ["_law_script", "_law_k"]) fun _ _ _ _ _ _ us hl => match us, hl with | [_, _], _ => rfl
  have F__law_mixed := fun_mk (st := S__law_mixed) l__law_mixed c__law_mixed k__law_mixed
  have b__law_mixed := F__law_mixed.binds (ps := ["_law_cell", "_law_prime"]) fun _ _ _ _ _ _ us hl => match us, hl with | [_, _], _ => rfl
  have F__law_whole := fun_mk (st := S__law_whole) l__law_whole c__law_whole k__law_whole
  have b__law_whole := F__law_whole.binds (ps := ["_law_found"]) fun _ _ _ _ _ _ us hl => match us, hl with | [_], _ => rfl
  have F__law_lowest := fun_mk (st := S__law_lowest) l__law_lowest c__law_lowest k__law_lowest
  have b__law_lowest := F__law_lowest.binds (ps := ["_law_top", "_law_bottom"]) fun _ _ _ _ _ _ us hl => match us, hl with | [_, _], _ => rfl
  have F__law_far := fun_mk (st := S__law_far) l__law_far c__law_far k__law_far
  have b__law_far := F__law_far.binds (ps := ["_law_cell"]) fun _ _ _ _ _ _ us hl => match us, hl with | [_], _ => rfl
  have F__law_names := fun_mk (st := S__law_names) l__law_names c__law_names k__law_names
  have b__law_names := F__law_names.binds (ps := ["_law_cell", "_law_many"]) fun _ _ _ _ _ _ us hl => match us, hl with | [_, _], _ => rfl
  have F__law_amount_text := fun_mk (st := S__law_amount_text) l__law_amount_text c__law_amount_text k__law_amount_text
  have b__law_amount_text := F__law_amount_text.binds (ps := ["_law_far_here"]) fun _ _ _ _ _ _ us hl => match us, hl with | [_], _ => rfl
  have F__law_longer_text := fun_mk (st := S__law_longer_text) l__law_longer_text c__law_longer_text k__law_longer_text
  have b__law_longer_text := F__law_longer_text.binds (ps := ["_law_far_here", "_law_times"]) fun _ _ _ _ _ _ us hl => match us, hl with | [_, _], _ => rfl
  have F__law_ups := fun_mk (st := S__law_ups) l__law_ups c__law_ups k__law_ups
  have b__law_ups := F__law_ups.binds (ps := ["_law_script", "_law_many"]) fun _ _ _ _ _ _ us hl => match us, hl with | [_, _], _ => rfl
  have F__law_length_is := fun_mk (st := S__law_length_is) l__law_length_is c__law_length_is k__law_length_is
  have b__law_length_is := F__law_length_is.binds (ps := ["_law_found", "_law_due"]) fun _ _ _ _ _ _ us hl => match us, hl with | [_, _], _ => rfl
  have F__law_nodes_are := fun_mk (st := S__law_nodes_are) l__law_nodes_are c__law_nodes_are k__law_nodes_are
  have b__law_nodes_are := F__law_nodes_are.binds (ps := ["_law_node", "_law_kids", "_law_names_here", "_law_lengths"]) fun _ _ _ _ _ _ us hl => match us, hl with | [_, _, _, _], _ => rfl
  have F_law := fun_mk (st := S_law) l_law c_law k_law
  have b_law := F_law.binds (ps := ["_law_script"]) fun _ _ _ _ _ _ us hl => match us, hl with | [_], _ => rfl
  have T : TxtF K mg CN CT CJ CR := { b_len := PySem.W.mg_none_of X G z_len, b_int := PySem.W.mg_none_of X G z_int, b_str := PySem.W.mg_none_of X G z_str, b_range := PySem.W.mg_none_of X G z_range, b_list := PySem.W.mg_none_of X G z_list, b_isinstance := PySem.W.mg_none_of X G z_isinstance, b_abs := PySem.W.mg_none_of X G z_abs, b_bool := PySem.W.mg_none_of X G z_bool, b_max := PySem.W.mg_none_of X G z_max, b_tuple := PySem.W.mg_none_of X G z_tuple, k_FIGURES := ⟨_, PySem.W.mg_of X G v_FIGURES⟩, k_LONGEST_amounts := ⟨_, PySem.W.mg_of X G v_LONGEST_amounts⟩, k_SIGNS := ⟨_, PySem.W.mg_of X G v_SIGNS⟩, k_ROOT := ⟨_, PySem.W.mg_of X G v_ROOT⟩, k_LONGEST_names := ⟨_, PySem.W.mg_of X G v_LONGEST_names⟩, k_DEEPEST := ⟨_, PySem.W.mg_of X G v_DEEPEST⟩, m_Node := PySem.W.mg_of X G a_CN, m_Tip := PySem.W.mg_of X G a_CT, m_Join := PySem.W.mg_of X G a_CJ, m_Reader := PySem.W.mg_of X G a_CR, cN := cl_CN, cT := cl_CT, cJ := cl_CJ, cR := cl_CR, nN := n_CN_name, nT := n_CT_name, nJ := n_CJ_name, lN := n_CN_length, lT := n_CT_length, lJ := n_CJ_length, kJ := n_CJ_kids, tR := n_CR_text, aR := n_CR_at, iT := is_CT, iJ := is_CJ, qTT := qTT, qTJ := qTJ, qJT := qJT, qJJ := qJJ }
  refine ⟨PySem.W.fnOf "law" "law" (defArgs S_law) (defBody S_law) (defScope S_law) .none kV_law dc_law pm_law an_law cd_law ct_law, fun s v => .of_eq rfl, fun base _ _ => ?_⟩
  have TA := T.toTxtA
  have TM := T.toTxtM
  have TB := T.toTxtB
  have TR := T.toTxtR
  have Gc := fng (P := l.prog) (w := w) (base := base) (PySem.W.mg_of X G a__law_cell_at) k__law_cell_at (ok_cell (funX F__law_cell_at) TA) b__law_cell_at
  have Gm := fng (P := l.prog) (w := w) (base := base) (PySem.W.mg_of X G a__law_mixed) k__law_mixed (ok_mixed (funX F__law_mixed)) b__law_mixed
  have Gl := fng (P := l.prog) (w := w) (base := base) (PySem.W.mg_of X G a__law_lowest) k__law_lowest (ok_lowest (funX F__law_lowest)) b__law_lowest
  have Gf := fng (P := l.prog) (w := w) (base := base) (PySem.W.mg_of X G a__law_far) k__law_far (ok_far (funX F__law_far) Gl) b__law_far
  have Gn := fng (P := l.prog) (w := w) (base := base) (PySem.W.mg_of X G a__law_names) k__law_names (ok_names (funX F__law_names) TA) b__law_names
  have Ga := fng (P := l.prog) (w := w) (base := base) (PySem.W.mg_of X G a__law_amount_text) k__law_amount_text (ok_atext (funX F__law_amount_text) TA) b__law_amount_text
  have Gs := fng (P := l.prog) (w := w) (base := base) (PySem.W.mg_of X G a_shown_amount) k_shown_amount (ok_samt (funX F_shown_amount) TA) b_shown_amount
  have Gw := fng (P := l.prog) (w := w) (base := base) (PySem.W.mg_of X G a_is_whole) k_is_whole (ok_is_whole (funX F_is_whole) TM) b_is_whole
  have Gd := fng (P := l.prog) (w := w) (base := base) (PySem.W.mg_of X G a_divisor) k_divisor (ok_divisor (funX F_divisor) TM) b_divisor
  have A0 := ok_amount (P := l.prog) (w := w) (base := base) (funX_D F_amount) TM Gw Gd
  have GA1 := fngD (dds := [.int 1]) (PySem.W.mg_of X G a_amount) k_amount A0 b_amount_1 fun _ => .cons (.int 1) .nil
  have GA2 := fngD (dds := []) (PySem.W.mg_of X G a_amount) k_amount A0 b_amount_2 fun _ => .nil
  have Gnr := fng (P := l.prog) (w := w) (base := base) (PySem.W.mg_of X G a_number_read) k_number_read (ok_number_read (funX F_number_read) TM) b_number_read
  have Gra := fng (P := l.prog) (w := w) (base := base) (PySem.W.mg_of X G a_read_amount) k_read_amount (ok_read_amount (funX F_read_amount) TM Gnr GA1 GA2) b_read_amount
  have Gin := fng (P := l.prog) (w := w) (base := base) (PySem.W.mg_of X G a_is_name) k_is_name (ok_is_name (funX F_is_name) TR) b_is_name
  have N0 := ok_ninit (P := l.prog) (w := w) (mg := mg) (base := base) (funX_D F_Node___init__)
  have KT1 := mkgD (dds := [.non]) T.m_Tip ⟨mk_CT, h_CT_Node___init__, i_Node___init__, kc_CT⟩ N0 b_Node___init___2 fun _ => .cons .non .nil
  have FI := cfgD (dds := []) ⟨rdN, gaN⟩ fcI k_Node___init__ N0 b_Node___init___3 fun _ => .nil
  have J0 := ok_jinitO (P := l.prog) (w := w) (mg := mg) (base := base) (funX_D F_Join___init__) TB FI
  have KJ2 := mkgD (dds := [.non]) T.m_Join ⟨mk_CJ, a_Join___init__, i_Join___init__, kc_CJ⟩ J0 b_Join___init___3 fun _ => .cons .non .nil
  have KR := mkg T.m_Reader ⟨mk_CR, a_Reader___init__, i_Reader___init__, kc_CR⟩ (ok_rinit (P := l.prog) (w := w) (base := base) (funX F_Reader___init__) TR) b_Reader___init__
  have mS := mtg ⟨a_Reader_sign, i_Reader_sign, k_Reader_sign⟩ (ok_sign (P := l.prog) (w := w) (base := base) (funX F_Reader_sign) TR) b_Reader_sign
  have mT := mtg ⟨a_Reader_take, i_Reader_take, k_Reader_take⟩ (ok_take (funX F_Reader_take) TR mS) b_Reader_take
  have mR := mtg ⟨a_Reader_run, i_Reader_run, k_Reader_run⟩ (ok_run (funX F_Reader_run) TR mS) b_Reader_run
  have mW := mtg ⟨a_Reader_word, i_Reader_word, k_Reader_word⟩ (ok_word (funX F_Reader_word) TR mS mR Gin) b_Reader_word
  have mF := mtg ⟨a_Reader_far, i_Reader_far, k_Reader_far⟩ (ok_farR (funX F_Reader_far) TR mR Gra) b_Reader_far
  have PC : ∀ n, MtG l.prog w K mg base (3 * n + 6) CR "piece" [] (pPiece CT CJ CR n) := fun n => by
    induction n with
    | zero => exact mtg ⟨a_Reader_piece, i_Reader_piece, k_Reader_piece⟩ (ok_piece0 (funX F_Reader_piece)) b_Reader_piece
    | succ n ih =>
      have H := mtg ⟨a_Reader_hung, i_Reader_hung, k_Reader_hung⟩ (ok_hung (funX F_Reader_hung) TR mS mT mF ih) b_Reader_hung
      have B := mtg ⟨a_Reader_bunch, i_Reader_bunch, k_Reader_bunch⟩ (ok_bunch (funX F_Reader_bunch) TR mS mT H) b_Reader_bunch
      exact mtg ⟨a_Reader_piece, i_Reader_piece, k_Reader_piece⟩ (ok_piece (funX F_Reader_piece) TR mS mW B KT1 KJ2) b_Reader_piece
  have Gp := fng (P := l.prog) (w := w) (base := base) (PySem.W.mg_of X G a_parsed) k_parsed (ok_parsed (funX F_parsed) TR mS mT (PC 45) KR) b_parsed
  have mC := ok_coreT (P := l.prog) (w := w) (mg := mg) (base := base) (CT := CT) (CJ := CJ) (funX F_Node_core) TB
  have FC := cfg ⟨rdN, gaN⟩ fcC k_Node_core mC b_Node_core
  have mCT : ∀ n, MtG l.prog w K mg base (2 * n + 3) CT "core" [] (fsP (pCoreT CT CJ)) := fun n => (mtg ⟨h_CT_Node_core, i_Node_core, k_Node_core⟩ mC b_Node_core).mono (by omega)
  have SH : ∀ n, MtG l.prog w K mg base (2 * n + 2) CT "shown" [] (fsP (pShown CT CJ n)) ∧ MtG l.prog w K mg base (2 * n + 2) CJ "shown" [] (fsP (pShown CT CJ n)) := fun n => by
    induction n with
    | zero => exact ⟨mtg ⟨h_CT_Node_shown, i_Node_shown, k_Node_shown⟩ (ok_shown0 (funX F_Node_shown)) b_Node_shown, mtg ⟨h_CJ_Node_shown, i_Node_shown, k_Node_shown⟩ (ok_shown0 (funX F_Node_shown)) b_Node_shown⟩
    | succ n ih =>
      have cJ := mtg ⟨a_Join_core, i_Join_core, k_Join_core⟩ (ok_coreJ (funX F_Join_core) TB FC ih.1 ih.2) b_Join_core
      have S := ok_shown (funX F_Node_shown) TB Gs (mCT n) cJ
      exact ⟨mtg ⟨h_CT_Node_shown, i_Node_shown, k_Node_shown⟩ S b_Node_shown, mtg ⟨h_CJ_Node_shown, i_Node_shown, k_Node_shown⟩ S b_Node_shown⟩
  have bT := mtg ⟨h_CT_Node_below, i_Node_below, k_Node_below⟩ (ok_belowT (P := l.prog) (w := w) (mg := mg) (base := base) (CT := CT) (CJ := CJ) (funX F_Node_below)) b_Node_below
  have bJ := mtg ⟨a_Join_below, i_Join_below, k_Join_below⟩ (ok_belowJ (P := l.prog) (w := w) (mg := mg) (base := base) (funX F_Join_below) TB) b_Join_below
  have NM : ∀ n, MtG l.prog w K mg base (n + 2) CT "names" [] (pNamesF CT CJ n) ∧ MtG l.prog w K mg base (n + 2) CJ "names" [] (pNamesF CT CJ n) := fun n => by
    induction n with
    | zero => exact ⟨mtg ⟨h_CT_Node_names, i_Node_names, k_Node_names⟩ (ok_names0 (funX F_Node_names)) b_Node_names, mtg ⟨h_CJ_Node_names, i_Node_names, k_Node_names⟩ (ok_names0 (funX F_Node_names)) b_Node_names⟩
    | succ n ih =>
      have S := ok_names_m (funX F_Node_names) TB bT bJ ih.1 ih.2
      exact ⟨mtg ⟨h_CT_Node_names, i_Node_names, k_Node_names⟩ S b_Node_names, mtg ⟨h_CJ_Node_names, i_Node_names, k_Node_names⟩ S b_Node_names⟩
  have Glw := fng (P := l.prog) (w := w) (base := base) (PySem.W.mg_of X G a__law_whole) k__law_whole (ok_whole (funX F__law_whole) T) b__law_whole
  have Glt := fng (P := l.prog) (w := w) (base := base) (PySem.W.mg_of X G a__law_longer_text) k__law_longer_text (ok_longer (funX F__law_longer_text) T) b__law_longer_text
  have Gup := fng (P := l.prog) (w := w) (base := base) (PySem.W.mg_of X G a__law_ups) k__law_ups (ok_ups (funX F__law_ups) T Gc Gm) b__law_ups
  have Gli := fng (P := l.prog) (w := w) (base := base) (PySem.W.mg_of X G a__law_length_is) k__law_length_is (ok_lenis (funX F__law_length_is) T Glw) b__law_length_is
  have Gna := fng (P := l.prog) (w := w) (base := base) (PySem.W.mg_of X G a__law_nodes_are) k__law_nodes_are (ok_nodesare (funX F__law_nodes_are) T Gli) b__law_nodes_are
  exact ok_law (funX F_law) T Gc Gm Gn Gf Ga Glt Gup Gna Gp (SH 100).1 (SH 100).2 (NM 100).1 (NM 100).2
end LM
open PySem PySem.W PyProof.Rows in
set_option maxRecDepth 100000 in
set_option maxHeartbeats 0 in
theorem PySem.Challenge.cw_limbmap_k22_texts_parsed_holds : PySem.Challenge.rw_limbmap_k22_texts_parsed.Holds := by
  w_on; o_law; k_head; (case hw => w_witness2)
  k_fill
  refine DL.law_walk (l := PySem.Challenge.rw_limbmap_k22_texts_parsed) (k := 204) rfl rfl ⟨rfl, by decide, by decide⟩ (fun w h Y => PySem.W.kIn_of Y) ?F
  case F =>
    intro w mg fa h KX G hmg
    refine' LM.all_mk KX G hmg ?a_CN ?a_CT ?a_CJ ?a_CR ?pg_CN ?hd_CN ?po_CN ?sa_CN ?pg_CT ?hd_CT ?po_CT ?sa_CT ?pg_CJ ?hd_CJ ?po_CJ ?sa_CJ ?pg_CR ?hd_CR ?po_CR ?sa_CR ?mk_CT ?kc_CT ?mk_CJ ?kc_CJ ?mk_CR ?kc_CR ?is_n ?is_t ?ic_CT ?im_CT ?ic_CJ ?im_CJ ?n_CN_name ?n_CN_length ?n_CT_name ?n_CT_length ?n_CJ_name ?n_CJ_length ?n_CJ_kids ?n_CR_text ?n_CR_at ?qTT ?qTJ ?qJT ?qJJ ?z_len ?z_int ?z_str ?z_range ?z_list ?z_isinstance ?z_abs ?z_bool ?z_max ?z_tuple ?v_FIGURES ?v_LONGEST_amounts ?v_SIGNS ?v_ROOT ?v_LONGEST_names ?v_DEEPEST ?a_Node___init__ ?i_Node___init__ ?l_Node___init__ ?t_Node___init__ ?c_Node___init__ ?k_Node___init__ ?h_CT_Node___init__ ?a_Node_below ?i_Node_below ?l_Node_below ?c_Node_below ?k_Node_below ?h_CT_Node_below ?a_Node_core ?i_Node_core ?l_Node_core ?c_Node_core ?k_Node_core ?h_CT_Node_core ?a_Node_names ?i_Node_names ?l_Node_names ?c_Node_names ?k_Node_names ?h_CT_Node_names ?h_CJ_Node_names ?a_Node_shown ?i_Node_shown ?l_Node_shown ?c_Node_shown ?k_Node_shown ?h_CT_Node_shown ?h_CJ_Node_shown ?a_Join___init__ ?i_Join___init__ ?l_Join___init__ ?t_Join___init__ ?c_Join___init__ ?k_Join___init__ ?a_Join_below ?i_Join_below ?l_Join_below ?c_Join_below ?k_Join_below ?a_Join_core ?i_Join_core ?l_Join_core ?c_Join_core ?k_Join_core ?a_Reader___init__ ?i_Reader___init__ ?l_Reader___init__ ?c_Reader___init__ ?k_Reader___init__ ?a_Reader_sign ?i_Reader_sign ?l_Reader_sign ?c_Reader_sign ?k_Reader_sign ?a_Reader_take ?i_Reader_take ?l_Reader_take ?c_Reader_take ?k_Reader_take ?a_Reader_run ?i_Reader_run ?l_Reader_run ?c_Reader_run ?k_Reader_run ?a_Reader_word ?i_Reader_word ?l_Reader_word ?c_Reader_word ?k_Reader_word ?a_Reader_piece ?i_Reader_piece ?l_Reader_piece ?c_Reader_piece ?k_Reader_piece ?a_Reader_bunch ?i_Reader_bunch ?l_Reader_bunch ?c_Reader_bunch ?k_Reader_bunch ?a_Reader_hung ?i_Reader_hung ?l_Reader_hung ?c_Reader_hung ?k_Reader_hung ?a_Reader_far ?i_Reader_far ?l_Reader_far ?c_Reader_far ?k_Reader_far ?rdN ?gaN ?fcI ?fcC ?a_is_whole ?l_is_whole ?c_is_whole ?k_is_whole ?a_divisor ?l_divisor ?c_divisor ?k_divisor ?a_amount ?l_amount ?t_amount ?c_amount ?k_amount ?a_number_read ?l_number_read ?c_number_read ?k_number_read ?a_read_amount ?l_read_amount ?c_read_amount ?k_read_amount ?a_shown_amount ?l_shown_amount ?c_shown_amount ?k_shown_amount ?a_is_name ?l_is_name ?c_is_name ?k_is_name ?a_parsed ?l_parsed ?c_parsed ?k_parsed ?a__law_cell_at ?l__law_cell_at ?c__law_cell_at ?k__law_cell_at ?a__law_mixed ?l__law_mixed ?c__law_mixed ?k__law_mixed ?a__law_whole ?l__law_whole ?c__law_whole ?k__law_whole ?a__law_lowest ?l__law_lowest ?c__law_lowest ?k__law_lowest ?a__law_far ?l__law_far ?c__law_far ?k__law_far ?a__law_names ?l__law_names ?c__law_names ?k__law_names ?a__law_amount_text ?l__law_amount_text ?c__law_amount_text ?k__law_amount_text ?a__law_longer_text ?l__law_longer_text ?c__law_longer_text ?k__law_longer_text ?a__law_ups ?l__law_ups ?c__law_ups ?k__law_ups ?a__law_length_is ?l__law_length_is ?c__law_length_is ?k__law_length_is ?a__law_nodes_are ?l__law_nodes_are ?c__law_nodes_are ?k__law_nodes_are ?a_law ?l_law ?c_law ?k_law
    (case a_CN => k_is)
    (case a_CT => k_is)
    (case a_CJ => k_is)
    (case a_CR => k_is)
    (case pg_CN => k_is)
    (case hd_CN => k_is)
    (case po_CN => k_is)
    (case sa_CN => k_is)
    (case pg_CT => k_is)
    (case hd_CT => k_is)
    (case po_CT => k_is)
    (case sa_CT => k_is)
    (case pg_CJ => k_is)
    (case hd_CJ => k_is)
    (case po_CJ => k_is)
    (case sa_CJ => k_is)
    (case pg_CR => k_is)
    (case hd_CR => k_is)
    (case po_CR => k_is)
    (case sa_CR => k_is)
    (case mk_CT => k_is)
    (case kc_CT => k_is)
    (case mk_CJ => k_is)
    (case kc_CJ => k_is)
    (case mk_CR => k_is)
    (case kc_CR => k_is)
    (case is_n => k_is)
    (case is_t => k_is)
    (case ic_CT => k_is)
    (case im_CT => k_is)
    (case ic_CJ => k_is)
    (case im_CJ => k_is)
    (case n_CN_name => k_is)
    (case n_CN_length => k_is)
    (case n_CT_name => k_is)
    (case n_CT_length => k_is)
    (case n_CJ_name => k_is)
    (case n_CJ_length => k_is)
    (case n_CJ_kids => k_is)
    (case n_CR_text => k_is)
    (case n_CR_at => k_is)
    (case qTT => kit_is)
    (case qTJ => kit_is)
    (case qJT => kit_is)
    (case qJJ => kit_is)
    (case z_len => k_is)
    (case z_int => k_is)
    (case z_str => k_is)
    (case z_range => k_is)
    (case z_list => k_is)
    (case z_isinstance => k_is)
    (case z_abs => k_is)
    (case z_bool => k_is)
    (case z_max => k_is)
    (case z_tuple => k_is)
    (case v_FIGURES => k_is)
    (case v_LONGEST_amounts => k_is)
    (case v_SIGNS => k_is)
    (case v_ROOT => k_is)
    (case v_LONGEST_names => k_is)
    (case v_DEEPEST => k_is)
    (case a_Node___init__ => k_is)
    (case i_Node___init__ => k_is)
    (case l_Node___init__ => k_is)
    (case t_Node___init__ => k_is)
    (case c_Node___init__ => k_is)
    (case k_Node___init__ => k_is)
    (case h_CT_Node___init__ => k_is)
    (case a_Node_below => k_is)
    (case i_Node_below => k_is)
    (case l_Node_below => k_is)
    (case c_Node_below => k_is)
    (case k_Node_below => k_is)
    (case h_CT_Node_below => k_is)
    (case a_Node_core => k_is)
    (case i_Node_core => k_is)
    (case l_Node_core => k_is)
    (case c_Node_core => k_is)
    (case k_Node_core => k_is)
    (case h_CT_Node_core => k_is)
    (case a_Node_names => k_is)
    (case i_Node_names => k_is)
    (case l_Node_names => k_is)
    (case c_Node_names => k_is)
    (case k_Node_names => k_is)
    (case h_CT_Node_names => k_is)
    (case h_CJ_Node_names => k_is)
    (case a_Node_shown => k_is)
    (case i_Node_shown => k_is)
    (case l_Node_shown => k_is)
    (case c_Node_shown => k_is)
    (case k_Node_shown => k_is)
    (case h_CT_Node_shown => k_is)
    (case h_CJ_Node_shown => k_is)
    (case a_Join___init__ => k_is)
    (case i_Join___init__ => k_is)
    (case l_Join___init__ => k_is)
    (case t_Join___init__ => k_is)
    (case c_Join___init__ => k_is)
    (case k_Join___init__ => k_is)
    (case a_Join_below => k_is)
    (case i_Join_below => k_is)
    (case l_Join_below => k_is)
    (case c_Join_below => k_is)
    (case k_Join_below => k_is)
    (case a_Join_core => k_is)
    (case i_Join_core => k_is)
    (case l_Join_core => k_is)
    (case c_Join_core => k_is)
    (case k_Join_core => k_is)
    (case a_Reader___init__ => k_is)
    (case i_Reader___init__ => k_is)
    (case l_Reader___init__ => k_is)
    (case c_Reader___init__ => k_is)
    (case k_Reader___init__ => k_is)
    (case a_Reader_sign => k_is)
    (case i_Reader_sign => k_is)
    (case l_Reader_sign => k_is)
    (case c_Reader_sign => k_is)
    (case k_Reader_sign => k_is)
    (case a_Reader_take => k_is)
    (case i_Reader_take => k_is)
    (case l_Reader_take => k_is)
    (case c_Reader_take => k_is)
    (case k_Reader_take => k_is)
    (case a_Reader_run => k_is)
    (case i_Reader_run => k_is)
    (case l_Reader_run => k_is)
    (case c_Reader_run => k_is)
    (case k_Reader_run => k_is)
    (case a_Reader_word => k_is)
    (case i_Reader_word => k_is)
    (case l_Reader_word => k_is)
    (case c_Reader_word => k_is)
    (case k_Reader_word => k_is)
    (case a_Reader_piece => k_is)
    (case i_Reader_piece => k_is)
    (case l_Reader_piece => k_is)
    (case c_Reader_piece => k_is)
    (case k_Reader_piece => k_is)
    (case a_Reader_bunch => k_is)
    (case i_Reader_bunch => k_is)
    (case l_Reader_bunch => k_is)
    (case c_Reader_bunch => k_is)
    (case k_Reader_bunch => k_is)
    (case a_Reader_hung => k_is)
    (case i_Reader_hung => k_is)
    (case l_Reader_hung => k_is)
    (case c_Reader_hung => k_is)
    (case k_Reader_hung => k_is)
    (case a_Reader_far => k_is)
    (case i_Reader_far => k_is)
    (case l_Reader_far => k_is)
    (case c_Reader_far => k_is)
    (case k_Reader_far => k_is)
    (case rdN => k_is)
    (case gaN => k_is)
    (case fcI => k_is)
    (case fcC => k_is)
    (case a_is_whole => k_is)
    (case l_is_whole => k_is)
    (case c_is_whole => k_is)
    (case k_is_whole => k_is)
    (case a_divisor => k_is)
    (case l_divisor => k_is)
    (case c_divisor => k_is)
    (case k_divisor => k_is)
    (case a_amount => k_is)
    (case l_amount => k_is)
    (case t_amount => k_is)
    (case c_amount => k_is)
    (case k_amount => k_is)
    (case a_number_read => k_is)
    (case l_number_read => k_is)
    (case c_number_read => k_is)
    (case k_number_read => k_is)
    (case a_read_amount => k_is)
    (case l_read_amount => k_is)
    (case c_read_amount => k_is)
    (case k_read_amount => k_is)
    (case a_shown_amount => k_is)
    (case l_shown_amount => k_is)
    (case c_shown_amount => k_is)
    (case k_shown_amount => k_is)
    (case a_is_name => k_is)
    (case l_is_name => k_is)
    (case c_is_name => k_is)
    (case k_is_name => k_is)
    (case a_parsed => k_is)
    (case l_parsed => k_is)
    (case c_parsed => k_is)
    (case k_parsed => k_is)
    (case a__law_cell_at => k_is)
    (case l__law_cell_at => k_is)
    (case c__law_cell_at => k_is)
    (case k__law_cell_at => k_is)
    (case a__law_mixed => k_is)
    (case l__law_mixed => k_is)
    (case c__law_mixed => k_is)
    (case k__law_mixed => k_is)
    (case a__law_whole => k_is)
    (case l__law_whole => k_is)
    (case c__law_whole => k_is)
    (case k__law_whole => k_is)
    (case a__law_lowest => k_is)
    (case l__law_lowest => k_is)
    (case c__law_lowest => k_is)
    (case k__law_lowest => k_is)
    (case a__law_far => k_is)
    (case l__law_far => k_is)
    (case c__law_far => k_is)
    (case k__law_far => k_is)
    (case a__law_names => k_is)
    (case l__law_names => k_is)
    (case c__law_names => k_is)
    (case k__law_names => k_is)
    (case a__law_amount_text => k_is)
    (case l__law_amount_text => k_is)
    (case c__law_amount_text => k_is)
    (case k__law_amount_text => k_is)
    (case a__law_longer_text => k_is)
    (case l__law_longer_text => k_is)
    (case c__law_longer_text => k_is)
    (case k__law_longer_text => k_is)
    (case a__law_ups => k_is)
    (case l__law_ups => k_is)
    (case c__law_ups => k_is)
    (case k__law_ups => k_is)
    (case a__law_length_is => k_is)
    (case l__law_length_is => k_is)
    (case c__law_length_is => k_is)
    (case k__law_length_is => k_is)
    (case a__law_nodes_are => k_is)
    (case l__law_nodes_are => k_is)
    (case c__law_nodes_are => k_is)
    (case k__law_nodes_are => k_is)
    (case a_law => k_is)
    (case l_law => k_is)
    (case c_law => k_is)
    (case k_law => k_is)
#print axioms PySem.Challenge.cw_limbmap_k22_texts_parsed_holds
