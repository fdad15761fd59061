import PyProof.Rows.All
import Wide.All
import OpenK.AllK
import Wide.FinOn
import HandS.ForMost
import HandS.GenList
import HandS.DictComp
import KE.KDictKeyed
import KE.KeyNested
import HandS.Zip
import KE.GoesEnum
import KE.GoesEnumKw
import PyProof.Rows.CallKwBuiltin
import PyProof.AssignAttr
import HandS.IsInst
import HandS.Property
import HandS.ClsMeth
import HandS.HeadHook2
import HandS.Defaults
import HandS.Star
import HandS.MakeKw
import KE.KStateDown
import Lean
import HandS.Head0
import HandS.Head1
import HandS.Head2
import HandS.HeadEnd
import HandS.Walk
import HandS.Style
import HandS.Small
import HandS.More
import HandS.TupLen
import HandS.TupAny
import HandS.RevRange
import HandS.Flow
import HandS.Wide
import HandS.StrMore
import HandS.Deep
import HandS.MethStar
import KE.KParD
import HandS.CallLocal
import PySem.Challenge.RW_ruleengine_k54_whole_jumps_written_other
set_option Elab.async false
set_option linter.all false
set_option maxRecDepth 100000
section

/-! The plain law: what the flow's lists are, and why they agree. No program in sight. -/
namespace Jz
/-- the thirteen forms -/
inductive Fm where
  | seq | pick | loop | pair | full | wrap | set | use | letf | leave | again | stop | raw
  deriving DecidableEq
/-- the six orders -/
inductive Od where
  | steps | choice | loop | stop | leave | again
  deriving DecidableEq
/-- a form's plan: its order; whether it sets (true) or uses (false) -/
structure Pd where
  od : Od
  ac : Option Bool
/-- a tree: a form, its one or two texts (a: false, b: true), its children -/
inductive Tr where
  | node (f : Fm) (a b : Bool) (ks : List Tr)
def Tr.f : Tr → Fm | .node f _ _ _ => f
def Tr.a : Tr → Bool | .node _ a _ _ => a
def Tr.b : Tr → Bool | .node _ _ b _ => b
def Tr.ks : Tr → List Tr | .node _ _ _ ks => ks
abbrev Pa := List Nat
inductive W where
  | deed | inn | out
  deriving DecidableEq
abbrev Pt := Pa × W
mutual
def spots : Tr → List Pa
  | .node _ _ _ ks => [] :: spotsL 0 ks
def spotsL : Nat → List Tr → List Pa
  | _, [] => []
  | i, t :: r => (spots t).map (i :: ·) ++ spotsL (i + 1) r
end
def get : Tr → Pa → Option Tr
  | t, [] => some t
  | .node _ _ _ ks, i :: p => (ks[i]?).bind fun k => get k p
/-- the variable that a node sets or uses -/
def deed (P : Fm → Pd) (t : Tr) : Option (Bool × Bool) := (P t.f).ac.map fun s => (s, if t.f = .letf then t.b else t.a)
structure In where
  od : Od
  n : Nat
  de : Option (Bool × Bool)
def inf (P : Fm → Pd) (t : Tr) (p : Pa) : Option In := (get t p).map fun k => ⟨(P k.f).od, k.ks.length, deed P k⟩
def isL : Option In → Bool
  | some i => decide (i.od = .loop)
  | none => false
/-- the nearest loop above: of the places ahead of c, the last one -/
def nlc (I : Pa → Option In) (p : Pa) : Nat → Option Pa
  | 0 => none
  | c + 1 => if isL (I (p.take c)) = true then some (p.take c) else nlc I p c
def nl (I : Pa → Option In) (p : Pa) : Option Pa := nlc I p p.length
def goDeed (I : Pa → Option In) (p : Pa) : Od → List Pt
  | .stop => []
  | .leave => match nl I p with | none => [] | some l => [(l, .deed)]
  | .again => match nl I p with | none => [] | some l => [(l, .deed), (l ++ [0], .inn)]
  | _ => [(p, .out)]
def goIn (p : Pa) (n : Nat) (o : Od) : List Pt :=
  if n = 0 then [(p, .deed)] else if o = .choice then (List.range n).map fun i => (p ++ [i], .inn)
  else if o = .loop then [(p, .deed), (p ++ [0], .inn)] else [(p ++ [0], .inn)]
def goOut (u : Pa) (i : Nat) (o : Od) (n : Nat) : List Pt :=
  if o ≠ .choice ∧ i + 1 < n then [(u ++ [i + 1], .inn)] else if o = .loop then [(u, .deed), (u ++ [0], .inn)] else [(u, .deed)]
def stp (I : Pa → Option In) : Pt → List Pt
  | (p, w) => match I p with
    | none => []
    | some q => match w with
      | .inn => goIn p q.n q.od
      | .deed => goDeed I p q.od
      | .out => match p with
        | [] => []
        | j :: r => match I (j :: r).dropLast with
          | none => []
          | some q' => goOut (j :: r).dropLast ((j :: r).getLast (by simp)) q'.od q'.n
/-- what is come to -/
inductive Rch (nx : Pt → List Pt) (bar : Pt → Prop) (s : Pt) : Pt → Prop where
  | first {q : Pt} (h : q ∈ nx s) : Rch nx bar s q
  | step {p q : Pt} (h : Rch nx bar s p) (hb : ¬ bar p) (hq : q ∈ nx p) : Rch nx bar s q
/-- the deeds' points -/
def dee (I : Pa → Option In) (p : Pa) : Option (Bool × Bool) := (I p).bind (·.de)
def bar0 : Pt → Prop := fun _ => False
def barS (I : Pa → Option In) (v : Bool) : Pt → Prop := fun x => x.2 = .deed ∧ dee I x.1 = some (true, v)
open Classical in
noncomputable def unr (I : Pa → Option In) (sp : List Pa) : List Pa := sp.tail.filter fun p => decide (¬ Rch (stp I) bar0 ([], .inn) (p, .inn))
open Classical in
noncomputable def uns (I : Pa → Option In) (sp : List Pa) : List Pa := sp.filter fun p => decide (∃ v, dee I p = some (false, v) ∧ Rch (stp I) (barS I v) ([], .inn) (p, .deed))
open Classical in
noncomputable def idl (I : Pa → Option In) (sp : List Pa) : List Pa := sp.filter fun p => decide (∃ v, dee I p = some (true, v) ∧ Rch (stp I) bar0 ([], .inn) (p, .deed) ∧ ∀ q ∈ sp, dee I q = some (false, v) → ¬ Rch (stp I) (barS I v) (p, .deed) (q, .deed))
noncomputable def res (P : Fm → Pd) (t : Tr) : List (List Pa) := [unr (inf P t) (spots t), uns (inf P t) (spots t), idl (inf P t) (spots t)]

/-! ### paths -/
theorem mem_spotsL (n : Nat) (ks : List Tr) (p : Pa) : p ∈ spotsL n ks ↔ ∃ i k r, ks[i]? = some k ∧ p = (n + i) :: r ∧ r ∈ spots k := by
  induction ks generalizing n with
  | nil => simp [spotsL]
  | cons t r ih =>
    rw [spotsL, List.mem_append, List.mem_map, ih]
    constructor
    · rintro (⟨q, hq, rfl⟩ | ⟨i, k, q, hk, rfl, hq⟩)
      · exact ⟨0, t, q, rfl, rfl, hq⟩
      · exact ⟨i + 1, k, q, by simpa using hk, by rw [show n + 1 + i = n + (i + 1) by omega], hq⟩
    · rintro ⟨i, k, q, hk, rfl, hq⟩
      cases i with
      | zero =>
        simp at hk
        subst hk
        exact .inl ⟨q, hq, rfl⟩
      | succ i => exact .inr ⟨i, k, q, by simpa using hk, by rw [show n + 1 + i = n + (i + 1) by omega], hq⟩
theorem mem_spots : ∀ (p : Pa) (t : Tr), p ∈ spots t ↔ (get t p).isSome = true
  | [], .node f a b ks => by simp [spots, get]
  | i :: p, .node f a b ks => by
    rw [spots, List.mem_cons, mem_spotsL]
    constructor
    · rintro (h | ⟨j, k, r, hk, e, hr⟩)
      · cases h
      · rw [Nat.zero_add] at e
        cases e
        rw [get, hk]
        exact (mem_spots p k).mp hr
    · intro h
      rw [get] at h
      cases hk : ks[i]? with
      | none => rw [hk] at h; simp at h
      | some k =>
        rw [hk] at h
        exact .inr ⟨i, k, p, hk, by rw [Nat.zero_add], (mem_spots p k).mpr h⟩
theorem inf_get {P : Fm → Pd} {t : Tr} {p : Pa} : (inf P t p).isSome = (get t p).isSome := by simp [inf]
theorem inf_none {P : Fm → Pd} {t : Tr} {p : Pa} : inf P t p = none ↔ get t p = none := by simp [inf]
theorem inf_cons {P : Fm → Pd} {f a b ks i p} : inf P (.node f a b ks) (i :: p) = (ks[i]?).bind fun k => inf P k p := by
  unfold inf
  rw [get]
  cases ks[i]? <;> rfl
theorem inf_nil {P : Fm → Pd} {f a b ks} : inf P (.node f a b ks) [] = some ⟨(P f).od, ks.length, deed P (.node f a b ks)⟩ := rfl

/-! ### when the next points agree -/
theorem nlc_congr {I J : Pa → Option In} {p : Pa} (h : ∀ q, isL (I q) = isL (J q)) : ∀ c, nlc I p c = nlc J p c
  | 0 => rfl
  | c + 1 => by rw [nlc, nlc, h, nlc_congr h c]
theorem nl_congr {I J : Pa → Option In} (p : Pa) (h : ∀ q, isL (I q) = isL (J q)) : nl I p = nl J p := nlc_congr h _
theorem goDeed_congr {I J : Pa → Option In} (p : Pa) (o : Od) (h : ∀ q, isL (I q) = isL (J q)) : goDeed I p o = goDeed J p o := by
  cases o <;> simp only [goDeed, nl_congr p h]
theorem stp_congr {I J : Pa → Option In} {p : Pa} {w : W} (ha : I p = J p) (hb : ∀ q, isL (I q) = isL (J q)) (hc : J p ≠ none → p ≠ [] → I p.dropLast = J p.dropLast) : stp I (p, w) = stp J (p, w) := by
  unfold stp
  simp only [ha]
  cases hj : J p with
  | none => rfl
  | some q =>
    cases w with
    | inn => rfl
    | deed => exact goDeed_congr p q.od hb
    | out =>
      cases p with
      | nil => rfl
      | cons j r =>
        have e := hc (by rw [hj]; exact fun z => nomatch z) (fun z => nomatch z)
        simp only [e]
/-! ### Reach: monotone -/
theorem Rch.mono {nx nx' : Pt → List Pt} {bar bar' : Pt → Prop} {s q : Pt} (h : Rch nx bar s q) (hn : ∀ p q, q ∈ nx p → q ∈ nx' p) (hb : ∀ p, bar' p → bar p) : Rch nx' bar' s q := by
  induction h with
  | first h => exact .first (hn _ _ h)
  | step _ hb' hq ih => exact .step ih (fun z => hb' (hb _ z)) (hn _ _ hq)

/-! ### law A: jumps outside of loops are stops -/
/-- what the law's helper makes -/
def stopped (P : Fm → Pd) : Bool → Tr → Tr
  | b, .node f x y ks => if (f = .leave ∨ f = .again) ∧ b = false then .node .stop x y [] else .node f x y (ks.map fun k => stopped P (b || decide ((P f).od = .loop)) k)
/-- leaves have no children -/
inductive Lf : Tr → Prop where
  | mk {f a b ks} (h : (f = .leave ∨ f = .again) → ks = []) (hk : ∀ k ∈ ks, Lf k) : Lf (.node f a b ks)
structure Plain (P : Fm → Pd) : Prop where
  seq : P .seq = ⟨.steps, none⟩
  loop : P .loop = ⟨.loop, none⟩
  leave : P .leave = ⟨.leave, none⟩
  again : P .again = ⟨.again, none⟩
  stop : P .stop = ⟨.stop, none⟩
theorem stopped_yes {P : Fm → Pd} {b f x y ks} (h : (f = .leave ∨ f = .again) ∧ b = false) : stopped P b (.node f x y ks) = .node .stop x y [] := by rw [stopped, if_pos h]
theorem stopped_no {P : Fm → Pd} {b f x y ks} (h : ¬ ((f = .leave ∨ f = .again) ∧ b = false)) : stopped P b (.node f x y ks) = .node f x y (ks.map fun k => stopped P (b || decide ((P f).od = .loop)) k) := by rw [stopped, if_neg h]
theorem stopped_inf {P : Fm → Pd} (hP : Plain P) : ∀ (p : Pa) (t : Tr) (b : Bool), Lf t →
    inf P (stopped P b t) p = inf P t p ∨ (∃ o, (o = .leave ∨ o = .again) ∧ inf P t p = some ⟨o, 0, none⟩ ∧ inf P (stopped P b t) p = some ⟨.stop, 0, none⟩ ∧ b = false ∧ ∀ c, c < p.length → isL (inf P t (p.take c)) = false)
  | [], .node f x y ks, b, hl => by
    obtain ⟨h, hk⟩ := hl
    by_cases c : (f = .leave ∨ f = .again) ∧ b = false
    · rw [stopped_yes c]
      have e := h c.1
      subst e
      refine .inr ?_
      rcases c.1 with rfl | rfl
      · exact ⟨.leave, .inl rfl, by rw [inf_nil]; simp [deed, Tr.f, hP.leave], by rw [inf_nil]; simp [deed, Tr.f, hP.stop], c.2, fun c hc => absurd hc (Nat.not_lt_zero c)⟩
      · exact ⟨.again, .inr rfl, by rw [inf_nil]; simp [deed, Tr.f, hP.again], by rw [inf_nil]; simp [deed, Tr.f, hP.stop], c.2, fun c hc => absurd hc (Nat.not_lt_zero c)⟩
    · rw [stopped_no c, inf_nil, inf_nil, List.length_map]
      exact .inl rfl
  | i :: p, .node f x y ks, b, hl => by
    obtain ⟨h, hk⟩ := hl
    by_cases c : (f = .leave ∨ f = .again) ∧ b = false
    · rw [stopped_yes c]
      have e := h c.1
      subst e
      exact .inl rfl
    · rw [stopped_no c, inf_cons, inf_cons, List.getElem?_map]
      cases e : ks[i]? with
      | none => exact .inl rfl
      | some k =>
        rcases stopped_inf hP p k (b || decide ((P f).od = .loop)) (hk k (List.mem_of_getElem? e)) with q | ⟨o, ho, q1, q2, q3, q4⟩
        · exact .inl q
        · refine .inr ⟨o, ho, q1, q2, ?_, fun c hc => ?_⟩
          · cases b with
            | true => simp at q3
            | false => rfl
          · cases c with
            | zero =>
              rw [List.take_zero, inf_nil]
              cases b with
              | true => simp at q3
              | false => simpa [isL] using q3
            | succ c =>
              rw [List.take_succ_cons, inf_cons, e]
              exact q4 c (by simpa using hc)
theorem nlc_none {I : Pa → Option In} {p : Pa} : ∀ c, (∀ d, d < c → isL (I (p.take d)) = false) → nlc I p c = none
  | 0, _ => rfl
  | c + 1, h => by
    rw [nlc, h c (Nat.lt_succ_self c), if_neg (by decide)]
    exact nlc_none c fun d hd => h d (Nat.lt_succ_of_lt hd)
theorem stopped_step {P : Fm → Pd} (hP : Plain P) {t : Tr} (hl : Lf t) : stp (inf P (stopped P false t)) = stp (inf P t) := by
  have hL : ∀ q, isL (inf P (stopped P false t) q) = isL (inf P t q) := fun q => by
    rcases stopped_inf hP q t false hl with e | ⟨o, ho, e1, e2, _⟩
    · rw [e]
    · rw [e1, e2]
      rcases ho with rfl | rfl <;> rfl
  funext ⟨p, w⟩
  -- the node above is the same: it has children
  have up : inf P t p ≠ none → p ≠ [] → inf P (stopped P false t) p.dropLast = inf P t p.dropLast := fun hn hp => by
    rcases stopped_inf hP p.dropLast t false hl with e | ⟨o, ho, e1, e2, _⟩
    · exact e
    · exfalso
      obtain ⟨k, hk⟩ : ∃ k, get t p.dropLast = some k := by
        have z : (inf P t p.dropLast).isSome = true := by rw [e1]; rfl
        rw [inf_get] at z
        exact Option.isSome_iff_exists.mp z
      have hz : k.ks = [] := by
        unfold inf at e1
        rw [hk] at e1
        have e1' := Option.some.inj e1
        injection e1' with _ hz _
        exact List.eq_nil_of_length_eq_zero hz
      refine hn ?_
      rw [inf_none]
      obtain ⟨u, i, rfl⟩ : ∃ u i, p = u ++ [i] := ⟨p.dropLast, p.getLast hp, (List.dropLast_concat_getLast hp).symm⟩
      rw [List.dropLast_concat] at hk
      clear e1 e2 hn hL hl hp
      rename_i hx
      clear hx
      induction u generalizing t with
      | nil =>
        cases t with
        | node f a b ks =>
          rw [get] at hk
          cases hk
          have hz' : ks = [] := hz
          subst hz'
          rfl
      | cons j u ih =>
        cases t with
        | node f a b ks =>
          rw [get] at hk
          rw [List.cons_append, get]
          cases e : ks[j]? with
          | none => rfl
          | some k' =>
            rw [e] at hk
            exact ih hk
  rcases stopped_inf hP p t false hl with e | ⟨o, ho, e1, e2, _, e3⟩
  · exact stp_congr e hL up
  · cases w with
    | inn => simp [stp, e1, e2, goIn]
    | deed =>
      simp only [stp, e1, e2]
      have hn : nl (inf P t) p = none := nlc_none _ e3
      rcases ho with rfl | rfl
      · simp only [goDeed, hn]
      · simp only [goDeed, hn]
    | out =>
      simp only [stp, e1, e2]
      cases p with
      | nil => rfl
      | cons j r =>
        have e := up (by rw [e1]; exact fun z => nomatch z) (fun z => nomatch z)
        simp only [e]
theorem stopped_dee {P : Fm → Pd} (hP : Plain P) {t : Tr} (hl : Lf t) (p : Pa) : dee (inf P (stopped P false t)) p = dee (inf P t) p := by
  unfold dee
  rcases stopped_inf hP p t false hl with e | ⟨o, ho, e1, e2, _⟩
  · rw [e]
  · rw [e1, e2]; rfl
mutual
theorem stopped_spots {P : Fm → Pd} : ∀ (t : Tr) (b : Bool), Lf t → spots (stopped P b t) = spots t
  | .node f x y ks, b, hl => by
    have hl' := hl
    obtain ⟨h, hk⟩ := hl
    by_cases c : (f = .leave ∨ f = .again) ∧ b = false
    · rw [stopped_yes c]
      have e := h c.1
      subst e
      rfl
    · rw [stopped_no c, spots, spots, stopped_spotsL ks _ _ hk]
theorem stopped_spotsL {P : Fm → Pd} : ∀ (ks : List Tr) (b : Bool) (n : Nat), (∀ k ∈ ks, Lf k) → spotsL n (ks.map fun k => stopped P b k) = spotsL n ks
  | [], _, _, _ => rfl
  | k :: r, b, n, hk => by
    rw [List.map_cons, spotsL, spotsL, stopped_spots k b (hk k List.mem_cons_self), stopped_spotsL r b (n + 1) fun x hx => hk x (List.mem_cons_of_mem _ hx)]
end
/-- the lists hang on the next points and the deeds alone -/
theorem res_congr {P : Fm → Pd} {t u : Tr} (hs : spots t = spots u) (hn : stp (inf P t) = stp (inf P u)) (hd : ∀ p, dee (inf P t) p = dee (inf P u) p) : res P t = res P u := by
  have hb : ∀ v, barS (inf P t) v = barS (inf P u) v := fun v => by
    funext x
    unfold barS
    rw [hd]
  have hd' : dee (inf P t) = dee (inf P u) := funext hd
  have hb' : barS (inf P t) = barS (inf P u) := funext hb
  have e1 : unr (inf P t) (spots t) = unr (inf P u) (spots u) := by
    unfold unr
    rw [hs, hn]
  have e2 : uns (inf P t) (spots t) = uns (inf P u) (spots u) := by
    unfold uns
    rw [hs, hn, hd', hb']
  have e3 : idl (inf P t) (spots t) = idl (inf P u) (spots u) := by
    unfold idl
    rw [hs, hn, hd', hb']
  unfold res
  rw [e1, e2, e3]
theorem law_a {P : Fm → Pd} (hP : Plain P) {t : Tr} (hl : Lf t) : res P t = res P (stopped P false t) :=
  (res_congr (stopped_spots t false hl) (stopped_step hP hl) (stopped_dee hP hl)).symm

/-! ### two graphs that part at one point -/
theorem swap_reach {nx1 nx2 : Pt → List Pt} {bar : Pt → Prop} {s d o : Pt} (hid : Pt → Prop) (hne : ∀ x, x ≠ d → nx1 x = nx2 x) (h2 : nx2 d = [o]) (hsd : s ≠ d) (hbd : ¬ bar d) (hbo : ¬ bar o)
    (ho : hid o) (hinv : ∀ x, o ∈ nx2 x → x = d) (hidc : ∀ x q, hid x → x ≠ o → q ∈ nx2 x → hid q ∧ q ≠ o)
    (hL1 : ∀ q, q ∈ nx1 d → q ∈ nx2 o) (hL2 : ∀ q, q ∈ nx2 o → q ≠ o ∧ (hid q ∨ q ∈ nx1 d ∨ (Rch nx1 bar s d → Rch nx1 bar s q))) :
    ∀ q, ¬ hid q → (Rch nx1 bar s q ↔ Rch nx2 bar s q) := by
  have r1 : ∀ q, Rch nx1 bar s q → Rch nx2 bar s q := fun q h => by
    induction h with
    | first h => exact .first (by rw [← hne s hsd]; exact h)
    | @step p q _ hb hq ih =>
      by_cases hp : p = d
      · subst hp
        exact .step (.step ih hb (by rw [h2]; exact List.mem_singleton.mpr rfl)) hbo (hL1 q hq)
      · exact .step ih hb (by rw [← hne p hp]; exact hq)
  have r2 : ∀ q, Rch nx2 bar s q → (¬ hid q → Rch nx1 bar s q) ∧ (q = o → Rch nx1 bar s d) := fun q h => by
    induction h with
    | @first q h =>
      refine ⟨fun _ => .first (by rw [hne s hsd]; exact h), fun e => ?_⟩
      subst e
      exact absurd (hinv s h) hsd
    | @step p q _ hb hq ih =>
      by_cases hpo : p = o
      · subst hpo
        obtain ⟨hqo, z⟩ := hL2 q hq
        refine ⟨fun hn => ?_, fun e => absurd e hqo⟩
        have rd := ih.2 rfl
        rcases z with z | z | z
        · exact absurd z hn
        · exact .step rd hbd z
        · exact z rd
      · by_cases hp : hid p
        · obtain ⟨a, b⟩ := hidc p q hp hpo hq
          exact ⟨fun hn => absurd a hn, fun e => absurd e b⟩
        · have rp := ih.1 hp
          by_cases hpd : p = d
          · subst hpd
            rw [h2] at hq
            have e : q = o := List.mem_singleton.mp hq
            subst e
            exact ⟨fun hn => absurd ho hn, fun _ => rp⟩
          · refine ⟨fun _ => .step rp hb (by rw [hne p hpd]; exact hq), fun e => ?_⟩
            subst e
            exact absurd (hinv p hq) hpd
  exact fun q hq => ⟨r1 q, fun h => (r2 q h).1 hq⟩
theorem filter_ins {α : Type} {L1 X L2 : List α} {f g : α → Bool} (h : ∀ x ∈ L1 ++ L2, f x = g x) (hX : ∀ x ∈ X, g x = false) : (L1 ++ L2).filter f = (L1 ++ X ++ L2).filter g := by
  rw [List.filter_append, List.filter_append, List.filter_append]
  have e : X.filter g = [] := List.filter_eq_nil_iff.mpr fun x hx => by rw [hX x hx]; decide
  rw [e, List.append_nil, List.filter_congr fun x hx => h x (List.mem_append_left _ hx), List.filter_congr fun x hx => h x (List.mem_append_right _ hx)]
open Classical in
theorem res_swap {P : Fm → Pd} {t u : Tr} {L1 X L2 : List Pa} (hid : Pt → Prop) (hs : spots t = [] :: (L1 ++ L2)) (hu : spots u = [] :: (L1 ++ X ++ L2)) (hd : ∀ p, dee (inf P t) p = dee (inf P u) p)
    (hX : ∀ x ∈ X, dee (inf P u) x = none ∧ Rch (stp (inf P u)) bar0 ([], .inn) (x, .inn)) (hin : ∀ p, p ∈ L1 ++ L2 → ¬ hid (p, .inn)) (hde : ∀ p, dee (inf P t) p ≠ none → ¬ hid (p, .deed))
    (hr : ∀ bar s, (bar = bar0 ∨ ∃ v, bar = barS (inf P t) v) → (s = ([], .inn) ∨ ∃ p, s = (p, .deed) ∧ dee (inf P t) p ≠ none) → ∀ q, ¬ hid q → (Rch (stp (inf P t)) bar s q ↔ Rch (stp (inf P u)) bar s q)) : res P t = res P u := by
  have hd' : dee (inf P t) = dee (inf P u) := funext hd
  have hb' : barS (inf P t) = barS (inf P u) := funext fun v => by
    funext x
    unfold barS
    rw [hd]
  have e1 : unr (inf P t) (spots t) = unr (inf P u) (spots u) := by
    unfold unr
    rw [hs, hu, List.tail_cons, List.tail_cons]
    refine filter_ins (fun p hp => ?_) fun x hx => ?_
    · exact decide_eq_decide.mpr (not_congr (hr _ _ (.inl rfl) (.inl rfl) _ (hin p hp)))
    · exact decide_eq_false fun z => z (hX x hx).2
  have e2 : uns (inf P t) (spots t) = uns (inf P u) (spots u) := by
    unfold uns
    rw [hs, hu, ← List.cons_append, ← List.cons_append, ← List.cons_append]
    refine filter_ins (fun p hp => ?_) fun x hx => ?_
    · refine decide_eq_decide.mpr (exists_congr fun v => ?_)
      rw [← hd']
      refine and_congr_right fun h => ?_
      rw [← hb']
      exact hr _ _ (.inr ⟨v, rfl⟩) (.inl rfl) _ (hde p (by rw [h]; exact fun z => nomatch z))
    · refine decide_eq_false fun z => ?_
      obtain ⟨v, h, _⟩ := z
      rw [(hX x hx).1] at h
      exact nomatch h
  have e3 : idl (inf P t) (spots t) = idl (inf P u) (spots u) := by
    unfold idl
    have hq : ∀ q, dee (inf P t) q ≠ none → (q ∈ spots t ↔ q ∈ spots u) := fun q hn => by
      rw [hs, hu]
      simp only [List.mem_cons, List.mem_append]
      constructor
      · rintro (h | h | h)
        · exact .inl h
        · exact .inr (.inl (.inl h))
        · exact .inr (.inr h)
      · rintro (h | (h | h) | h)
        · exact .inl h
        · exact .inr (.inl h)
        · rw [hd'] at hn
          exact absurd (hX q h).1 hn
        · exact .inr (.inr h)
    have hF : ∀ p, (∃ v, dee (inf P t) p = some (true, v) ∧ Rch (stp (inf P t)) bar0 ([], .inn) (p, .deed) ∧ ∀ q ∈ spots t, dee (inf P t) q = some (false, v) → ¬ Rch (stp (inf P t)) (barS (inf P t) v) (p, .deed) (q, .deed)) ↔
        (∃ v, dee (inf P u) p = some (true, v) ∧ Rch (stp (inf P u)) bar0 ([], .inn) (p, .deed) ∧ ∀ q ∈ spots u, dee (inf P u) q = some (false, v) → ¬ Rch (stp (inf P u)) (barS (inf P u) v) (p, .deed) (q, .deed)) := fun p => by
      refine exists_congr fun v => ?_
      rw [← hd', ← hb']
      refine and_congr_right fun h => ?_
      have hp : dee (inf P t) p ≠ none := by rw [h]; exact fun z => nomatch z
      refine and_congr (hr _ _ (.inl rfl) (.inl rfl) _ (hde p hp)) ?_
      refine forall_congr' fun q => ?_
      constructor
      · intro z hm h'
        have hn : dee (inf P t) q ≠ none := by rw [h']; exact fun z => nomatch z
        exact fun y => z ((hq q hn).mpr hm) h' ((hr _ _ (.inr ⟨v, rfl⟩) (.inr ⟨p, rfl, hp⟩) _ (hde q hn)).mpr y)
      · intro z hm h'
        have hn : dee (inf P t) q ≠ none := by rw [h']; exact fun z => nomatch z
        exact fun y => z ((hq q hn).mp hm) h' ((hr _ _ (.inr ⟨v, rfl⟩) (.inr ⟨p, rfl, hp⟩) _ (hde q hn)).mp y)
    conv => lhs; rw [hs]
    conv => rhs; rw [hu]
    rw [← List.cons_append, ← List.cons_append, ← List.cons_append]
    refine filter_ins (fun p hp => ?_) fun x hx => ?_
    · have z := hF p
      rw [hs, hu] at z
      exact decide_eq_decide.mpr z
    · refine decide_eq_false fun z => ?_
      obtain ⟨v, h, _⟩ := z
      rw [(hX x hx).1] at h
      exact nomatch h
  unfold res
  rw [e1, e2, e3]
/-- an «out» comes of its own deed alone -/
theorem out_of {I : Pa → Option In} {x : Pt} {p : Pa} (h : (p, W.out) ∈ stp I x) : x = (p, .deed) := by
  obtain ⟨q, w⟩ := x
  simp only [stp] at h
  cases hq : I q with
  | none => rw [hq] at h; simp at h
  | some k =>
    rw [hq] at h
    cases w with
    | inn =>
      simp only [goIn] at h
      split at h
      · simp at h
      · split at h
        · simp at h
        · split at h <;> simp at h
    | deed =>
      simp only [goDeed] at h
      split at h
      · simp at h
      · split at h <;> simp at h
      · split at h <;> simp at h
      · rw [List.mem_singleton] at h
        injection h with h1
        rw [h1]
    | out =>
      cases q with
      | nil => simp at h
      | cons j r =>
        simp only at h
        split at h
        · simp at h
        · simp only [goOut] at h
          split at h
          · simp at h
          · split at h <;> simp at h
/-- the two trees part at the leaf e: a jump here, an empty row there -/
structure Sw (P : Fm → Pd) (t u : Tr) (e : Pa) (o : Od) : Prop where
  ne : e ≠ []
  oth : ∀ p, p ≠ e → inf P t p = inf P u p
  one : inf P t e = some ⟨o, 0, none⟩
  two : inf P u e = some ⟨.steps, 0, none⟩
  jmp : o = .stop ∨ o = .leave ∨ o = .again
  low : ∀ i, inf P u (e ++ [i]) = none
  sp : spots t = spots u
section
variable {P : Fm → Pd} {t u : Tr} {e : Pa} {o : Od}
theorem Sw.dee (S : Sw P t u e o) (p : Pa) : dee (inf P t) p = Jz.dee (inf P u) p := by
  unfold Jz.dee
  by_cases h : p = e
  · subst h; rw [S.one, S.two]; rfl
  · rw [S.oth p h]
theorem Sw.isL (S : Sw P t u e o) (p : Pa) : isL (inf P t p) = Jz.isL (inf P u p) := by
  by_cases h : p = e
  · subst h; rw [S.one, S.two]
    rcases S.jmp with rfl | rfl | rfl <;> rfl
  · rw [S.oth p h]
theorem Sw.up (S : Sw P t u e o) {p : Pa} (hn : inf P u p ≠ none) (hp : p ≠ []) : inf P t p.dropLast = inf P u p.dropLast := by
  by_cases h : p.dropLast = e
  · exfalso
    refine hn ?_
    have e1 : p = e ++ [p.getLast hp] := by rw [← h]; exact (List.dropLast_concat_getLast hp).symm
    rw [e1]
    exact S.low _
  · exact S.oth _ h
theorem Sw.step (S : Sw P t u e o) (x : Pt) (hx : x ≠ (e, .deed)) : stp (inf P t) x = stp (inf P u) x := by
  obtain ⟨p, w⟩ := x
  by_cases h : p = e
  · subst h
    cases w with
    | inn => simp [stp, S.one, S.two, goIn]
    | deed => exact absurd rfl hx
    | out =>
      simp only [stp, S.one, S.two]
      cases p with
      | nil => rfl
      | cons j r =>
        have z := S.up (p := j :: r) (by rw [S.two]; exact fun z => nomatch z) (fun z => nomatch z)
        simp only [z]
  · exact stp_congr (S.oth p h) S.isL fun hn hp => S.up hn hp
theorem Sw.two' (S : Sw P t u e o) : stp (inf P u) (e, .deed) = [(e, .out)] := by simp [stp, S.two, goDeed]
theorem Sw.bar (S : Sw P t u e o) {bar : Pt → Prop} (h : bar = bar0 ∨ ∃ v, bar = barS (inf P t) v) (w : W) : ¬ bar (e, w) := by
  rcases h with rfl | ⟨v, rfl⟩
  · exact fun z => z
  · rintro ⟨_, z⟩
    unfold Jz.dee at z
    rw [S.one] at z
    cases z
theorem Sw.start (S : Sw P t u e o) {s : Pt} (h : s = ([], .inn) ∨ ∃ p, s = (p, .deed) ∧ Jz.dee (inf P t) p ≠ none) : s ≠ (e, .deed) := by
  rcases h with rfl | ⟨p, rfl, h⟩
  · intro z
    injection z with _ z
    cases z
  · intro z
    injection z with z
    subst z
    refine h ?_
    unfold Jz.dee
    rw [S.one]
    rfl
theorem Sw.tail (S : Sw P t u e o) : ∃ L, spots t = [] :: (L ++ []) ∧ spots u = [] :: (L ++ [] ++ []) := by
  obtain ⟨L, hL⟩ : ∃ L, spots t = [] :: L := by
    cases t with
    | node f a b ks => exact ⟨_, rfl⟩
  exact ⟨L, by rw [List.append_nil]; exact hL, by rw [List.append_nil, List.append_nil, ← S.sp]; exact hL⟩
/-- where what follows the jump is what follows the leaf's end: an again at a loop's end -/
theorem Sw.alike (S : Sw P t u e o) (hL1 : ∀ q, q ∈ stp (inf P t) (e, .deed) → q ∈ stp (inf P u) (e, .out))
    (hL2 : ∀ bar s, (bar = bar0 ∨ ∃ v, bar = barS (inf P t) v) → (s = ([], .inn) ∨ ∃ p, s = (p, .deed) ∧ Jz.dee (inf P t) p ≠ none) → ∀ q, q ∈ stp (inf P u) (e, .out) → q.2 ≠ .out ∧ (q ∈ stp (inf P t) (e, .deed) ∨ (Rch (stp (inf P t)) bar s (e, .deed) → Rch (stp (inf P t)) bar s q))) : res P t = res P u := by
  obtain ⟨L, h1, h2⟩ := S.tail
  refine res_swap (fun x => x = (e, .out)) h1 h2 S.dee (fun x hx => nomatch hx) (fun p _ z => by injection z with _ z; cases z) (fun p _ z => by injection z with _ z; cases z) fun bar s hb hs => ?_
  refine swap_reach (d := (e, .deed)) (o := (e, .out)) _ S.step S.two' (S.start hs) (S.bar hb _) (S.bar hb _) rfl (fun x hx => out_of hx) (fun x q h h' _ => absurd h h') hL1 fun q hq => ?_
  obtain ⟨a, b⟩ := hL2 bar s hb hs q hq
  exact ⟨fun z => a (by rw [z]), .inr b⟩
end

/-! ### the laws B -/
abbrev lf (f : Fm) : Tr := .node f false false []
theorem spotsL_snoc (x : Tr) : ∀ (ks : List Tr) (n : Nat), spotsL n (ks ++ [x]) = spotsL n ks ++ (spots x).map ((n + ks.length) :: ·)
  | [], n => by rw [List.nil_append, spotsL, spotsL, spotsL, List.append_nil, List.nil_append]; rfl
  | k :: r, n => by rw [List.cons_append, spotsL, spotsL, spotsL_snoc x r (n + 1), List.append_assoc, List.length_cons, show n + 1 + r.length = n + (r.length + 1) by omega]
abbrev inLoop (items : List Tr) (x behind : Tr) : Tr := .node .seq false false [.node .loop false false (items ++ [x]), behind]
theorem inf_leaf {P : Fm → Pd} {f : Fm} {i : Nat} {p : Pa} : inf P (lf f) (i :: p) = none := rfl
theorem sw_loop {P : Fm → Pd} (hP : Plain P) (items : List Tr) (behind : Tr) {f : Fm} {o : Od} (hf : P f = ⟨o, none⟩) (hj : o = .stop ∨ o = .leave ∨ o = .again) :
    Sw P (inLoop items (lf f) behind) (inLoop items (lf .seq) behind) [0, items.length] o where
  ne := fun z => nomatch z
  oth := fun p hp => by
    cases p with
    | nil => rfl
    | cons i p =>
      rw [inf_cons, inf_cons]
      cases i with
      | succ i => rfl
      | zero =>
        show inf P _ p = inf P _ p
        cases p with
        | nil => rw [inf_nil, inf_nil, List.length_append, List.length_append]; rfl
        | cons j p =>
          rw [inf_cons, inf_cons]
          by_cases h : j < items.length
          · rw [List.getElem?_append_left h, List.getElem?_append_left h]
          · by_cases h' : j = items.length
            · subst h'
              rw [List.getElem?_concat_length, List.getElem?_concat_length]
              cases p with
              | nil => exact absurd rfl hp
              | cons c p => rfl
            · rw [List.getElem?_eq_none (by rw [List.length_append, List.length_singleton]; omega), List.getElem?_eq_none (by rw [List.length_append, List.length_singleton]; omega)]
  one := by
    rw [inf_cons]
    show inf P _ [items.length] = _
    rw [inf_cons, List.getElem?_concat_length]
    show inf P (lf f) [] = _
    rw [inf_nil]
    simp [deed, Tr.f, hf]
  two := by
    rw [inf_cons]
    show inf P _ [items.length] = _
    rw [inf_cons, List.getElem?_concat_length]
    show inf P (lf .seq) [] = _
    rw [inf_nil]
    simp [deed, Tr.f, hP.seq]
  jmp := hj
  low := fun i => by
    show inf P _ (0 :: items.length :: [i]) = none
    rw [inf_cons]
    show inf P _ (items.length :: [i]) = none
    rw [inf_cons, List.getElem?_concat_length]
    rfl
  sp := by simp only [spots, spotsL, spotsL_snoc]
theorem inf_loop {P : Fm → Pd} (hP : Plain P) (items : List Tr) (x behind : Tr) : inf P (inLoop items x behind) [0] = some ⟨.loop, items.length + 1, none⟩ := by
  rw [inf_cons]
  show inf P _ [] = _
  rw [inf_nil, List.length_append]
  simp [deed, Tr.f, hP.loop]
theorem nl_loop {P : Fm → Pd} (hP : Plain P) (items : List Tr) (x behind : Tr) (k : Nat) : nl (inf P (inLoop items x behind)) [0, k] = some [0] := by
  show nlc _ _ 2 = _
  rw [nlc, if_pos]
  · rfl
  · show isL (inf P _ [0]) = true
    rw [inf_loop hP]
    rfl
theorem end_out {P : Fm → Pd} (hP : Plain P) (items : List Tr) (behind : Tr) : stp (inf P (inLoop items (lf .seq) behind)) ([0, items.length], .out) = [([0], .deed), ([0, 0], .inn)] := by
  have h : inf P (inLoop items (lf .seq) behind) [0, items.length] = some ⟨.steps, 0, none⟩ := (sw_loop hP items behind (f := .stop) hP.stop (.inl rfl)).two
  have h1 : inf P (inLoop items (lf .seq) behind) [0, items.length].dropLast = some ⟨.loop, items.length + 1, none⟩ := inf_loop hP items _ behind
  simp only [stp, h, h1]
  simp [goOut]
/-- B1: an again at a loop's end is an empty row -/
theorem law_b1 {P : Fm → Pd} (hP : Plain P) (items : List Tr) (behind : Tr) : res P (inLoop items (lf .again) behind) = res P (inLoop items (lf .seq) behind) := by
  have S := sw_loop hP items behind hP.again (.inr (.inr rfl))
  have e : stp (inf P (inLoop items (lf .again) behind)) ([0, items.length], .deed) = [([0], .deed), ([0, 0], .inn)] := by
    simp only [stp, S.one, goDeed, nl_loop hP]
    rfl
  refine S.alike (fun q hq => ?_) fun bar s hb hs q hq => ?_
  · rw [end_out hP]
    rw [e] at hq
    exact hq
  · rw [end_out hP] at hq
    rw [e]
    refine ⟨?_, .inl hq⟩
    simp only [List.mem_cons, List.not_mem_nil, or_false] at hq
    rcases hq with rfl | rfl <;> exact fun z => nomatch z
/-- B3: a lone jump in a loop is an empty row -/
theorem law_b3 {P : Fm → Pd} (hP : Plain P) (behind : Tr) {f : Fm} (hf : f = .leave ∨ f = .again) : res P (inLoop [] (lf f) behind) = res P (inLoop [] (lf .seq) behind) := by
  rcases hf.symm with rfl | rfl
  · exact law_b1 hP [] behind
  have S := sw_loop hP [] behind hP.leave (.inr (.inl rfl))
  have e : stp (inf P (inLoop [] (lf .leave) behind)) ([0, 0], .deed) = [([0], .deed)] := by
    simp only [stp, S.one, goDeed, nl_loop hP, show ([0, 0] : Pa) = [0, ([] : List Tr).length] from rfl]
  have e2 := end_out hP [] behind
  -- the leaf's deed comes of its «in» alone
  have inv : ∀ x, (([0, 0], .deed) : Pt) ∈ stp (inf P (inLoop [] (lf .leave) behind)) x → x = ([0, 0], .inn) := fun ⟨p, w⟩ h => by
    simp only [stp] at h
    cases hq : inf P (inLoop [] (lf .leave) behind) p with
    | none => rw [hq] at h; simp at h
    | some k =>
      rw [hq] at h
      cases w with
      | inn =>
        simp only [goIn] at h
        split at h
        · simp at h; rw [h]
        · split at h
          · simp at h
          · split at h
            · simp at h; rw [h]
            · simp at h
      | deed =>
        exfalso
        have nlp : ∀ l, nl (inf P (inLoop [] (lf .leave) behind)) p = some l → isL (inf P (inLoop [] (lf .leave) behind) l) = true := fun l => by
          unfold nl
          generalize p.length = c
          induction c with
          | zero => intro z; cases z
          | succ c ih =>
            rw [nlc]
            split
            · rename_i y
              intro z
              cases z
              exact y
            · exact ih
        have no : ∀ l, nl (inf P (inLoop [] (lf .leave) behind)) p = some l → l ≠ [0, 0] := fun l hl z => by
          have y := nlp l hl
          subst z
          have o := S.one
          rw [show ([0, 0] : Pa) = [0, ([] : List Tr).length] from rfl, o] at y
          cases y
        simp only [goDeed] at h
        split at h
        · simp at h
        · split at h
          · simp at h
          · rename_i l hl
            simp at h
            exact no l hl h.symm
        · split at h
          · simp at h
          · rename_i l hl
            simp at h
            exact no l hl h.symm
        · simp at h
      | out =>
        exfalso
        cases p with
        | nil => simp at h
        | cons j r =>
          have low : (j :: r).dropLast ≠ [0, 0] := fun z => by
            have e1 : (j :: r) = [0, 0] ++ [(j :: r).getLast (by simp)] := by rw [← z]; exact (List.dropLast_concat_getLast (by simp)).symm
            rw [e1] at hq
            have hz : inf P (inLoop [] (lf .leave) behind) ([0, 0] ++ [(j :: r).getLast (by simp)]) = none := by
              rw [S.oth _ (by simp)]
              exact S.low _
            rw [hz] at hq
            cases hq
          simp only at h
          split at h
          · simp at h
          · simp only [goOut] at h
            split at h
            · simp at h
            · split at h
              · simp at h
                exact low (by simpa using h.symm)
              · simp at h
                exact low (by simpa using h.symm)
  refine S.alike (fun q hq => ?_) fun bar s hb hs q hq => ?_
  · show q ∈ stp _ ([0, ([] : List Tr).length], .out)
    rw [e2]
    have hq' : q ∈ stp (inf P (inLoop [] (lf .leave) behind)) ([0, 0], .deed) := hq
    rw [e] at hq'
    rw [List.mem_singleton.mp hq']
    exact List.mem_cons_self
  · have hq' : q ∈ stp (inf P (inLoop [] (lf .seq) behind)) ([0, ([] : List Tr).length], .out) := hq
    rw [e2] at hq'
    show q.2 ≠ .out ∧ (q ∈ stp (inf P (inLoop [] (lf .leave) behind)) ([0, 0], .deed) ∨ (Rch _ bar s ([0, 0], .deed) → _))
    rw [e]
    simp only [List.mem_cons, List.not_mem_nil, or_false] at hq'
    rcases hq' with rfl | rfl
    · exact ⟨fun z => (nomatch z), .inl (List.mem_singleton.mpr rfl)⟩
    · refine ⟨fun z => (nomatch z), .inr fun h => ?_⟩
      cases h with
      | first h =>
        have z := inv s h
        subst z
        rcases hs with hs | ⟨p, hs, _⟩
        · cases hs
        · cases hs
      | step h hb' hq => rw [inv _ hq] at h; exact h
/-- B2: a stop at the root's end is an empty row -/
theorem law_b2 {P : Fm → Pd} (hP : Plain P) (plant : Tr) : res P (.node .seq false false [plant, lf .stop]) = res P (.node .seq false false [plant, lf .seq]) := by
  have S : Sw P (.node .seq false false [plant, lf .stop]) (.node .seq false false [plant, lf .seq]) [1] .stop := by
    refine ⟨fun z => (nomatch z), fun p hp => ?_, ?_, ?_, .inl rfl, fun i => rfl, by simp only [spots, spotsL]⟩
    · cases p with
      | nil => rfl
      | cons i p =>
        rw [inf_cons, inf_cons]
        match i with
        | 0 => rfl
        | 1 =>
          cases p with
          | nil => exact absurd rfl hp
          | cons j p => rfl
        | i + 2 => rfl
    · rw [inf_cons]
      show inf P (lf .stop) [] = _
      rw [inf_nil]
      simp [deed, Tr.f, hP.stop]
    · rw [inf_cons]
      show inf P (lf .seq) [] = _
      rw [inf_nil]
      simp [deed, Tr.f, hP.seq]
  have root : inf P (.node .seq false false [plant, lf .seq]) [] = some ⟨.steps, 2, none⟩ := by
    rw [inf_nil]
    simp [deed, Tr.f, hP.seq]
  have e1 : stp (inf P (.node .seq false false [plant, lf .stop])) ([1], .deed) = [] := by simp only [stp, S.one, goDeed]
  have e2 : stp (inf P (.node .seq false false [plant, lf .seq])) ([1], .out) = [([], .deed)] := by
    have r : inf P (.node .seq false false [plant, lf .seq]) ([1] : Pa).dropLast = some ⟨.steps, 2, none⟩ := root
    simp only [stp, S.two, r]
    simp [goOut]
  have e3 : stp (inf P (.node .seq false false [plant, lf .seq])) ([], .deed) = [([], .out)] := by simp only [stp, root, goDeed]
  have e4 : stp (inf P (.node .seq false false [plant, lf .seq])) ([], .out) = [] := by simp only [stp, root]
  obtain ⟨L, h1, h2⟩ := S.tail
  refine res_swap (fun x => x = ([1], .out) ∨ x = ([], .deed) ∨ x = ([], .out)) h1 h2 S.dee (fun x hx => nomatch hx) (fun p _ z => ?_) (fun p hp z => ?_) fun bar s hb hs => ?_
  · rcases z with z | z | z <;> cases z
  · rcases z with z | z | z
    · cases z
    · cases z
      refine hp ?_
      rw [S.dee]
      unfold Jz.dee
      rw [root]
      rfl
    · cases z
  · refine swap_reach (d := ([1], .deed)) (o := ([1], .out)) _ S.step S.two' (S.start hs) (S.bar hb _) (S.bar hb _) (.inl rfl) (fun x hx => out_of hx) (fun x q h h' hq => ?_) (fun q hq => ?_) fun q hq => ?_
    · rcases h with h | h | h
      · exact absurd h h'
      · subst h
        rw [e3] at hq
        rw [List.mem_singleton.mp hq]
        exact ⟨.inr (.inr rfl), fun z => nomatch z⟩
      · subst h
        rw [e4] at hq
        cases hq
    · rw [e1] at hq
      cases hq
    · rw [e2] at hq
      rw [List.mem_singleton.mp hq]
      exact ⟨fun z => (nomatch z), .inl (.inr (.inl rfl))⟩

/-! ### the next points are points of the tree -/
theorem get_append : ∀ (p r : Pa) (t : Tr), get t (p ++ r) = (get t p).bind fun k => get k r
  | [], r, t => by cases t; rfl
  | i :: p, r, .node f a b ks => by
    rw [List.cons_append, get, get]
    cases ks[i]? with
    | none => rfl
    | some k => exact get_append p r k
theorem get_one {t : Tr} {i : Nat} : get t [i] = t.ks[i]? := by
  cases t with
  | node f a b ks =>
    rw [get]
    show (ks[i]?).bind _ = ks[i]?
    cases ks[i]? with
    | none => rfl
    | some k => cases k; rfl
theorem get_snoc {t k : Tr} {p : Pa} {i : Nat} (h : get t p = some k) : get t (p ++ [i]) = k.ks[i]? := by
  rw [get_append, h]
  exact get_one
theorem inf_some {P : Fm → Pd} {t : Tr} {p : Pa} {q : In} (h : inf P t p = some q) : ∃ k, get t p = some k ∧ q.od = (P k.f).od ∧ q.n = k.ks.length ∧ q.de = deed P k := by
  unfold inf at h
  obtain ⟨k, hk, e⟩ := Option.map_eq_some_iff.mp h
  subst e
  exact ⟨k, hk, rfl, rfl, rfl⟩
theorem inf_kid {P : Fm → Pd} {t : Tr} {p : Pa} {q : In} {i : Nat} (h : inf P t p = some q) : (inf P t (p ++ [i])).isSome = decide (i < q.n) := by
  obtain ⟨k, hk, _, hn, _⟩ := inf_some h
  rw [inf_get, get_snoc hk, hn]
  by_cases c : i < k.ks.length
  · rw [List.getElem?_eq_getElem c, decide_eq_true c]; rfl
  · rw [List.getElem?_eq_none (by omega), decide_eq_false c]; rfl
theorem inf_take {P : Fm → Pd} {t : Tr} {p : Pa} (h : (inf P t p).isSome = true) (c : Nat) : (inf P t (p.take c)).isSome = true := by
  rw [inf_get] at *
  rw [← List.take_append_drop c p, get_append] at h
  cases q : get t (p.take c) with
  | none => rw [q] at h; simp at h
  | some k => rfl
theorem nlc_some {I : Pa → Option In} {p l : Pa} : ∀ c, nlc I p c = some l → ∃ d, d < c ∧ l = p.take d ∧ isL (I l) = true
  | 0, h => by cases h
  | c + 1, h => by
    rw [nlc] at h
    split at h
    · rename_i y
      cases h
      exact ⟨c, Nat.lt_succ_self c, rfl, y⟩
    · obtain ⟨d, a, b, e⟩ := nlc_some c h
      exact ⟨d, Nat.lt_succ_of_lt a, b, e⟩
/-- the nearest loop has a child -/
theorem nl_some {P : Fm → Pd} {t : Tr} {p l : Pa} (hp : (inf P t p).isSome = true) (h : nl (inf P t) p = some l) : ∃ q, inf P t l = some q ∧ q.od = .loop ∧ 0 < q.n := by
  obtain ⟨d, hd, rfl, y⟩ := nlc_some _ h
  have h1 := inf_take hp d
  obtain ⟨q, hq⟩ := Option.isSome_iff_exists.mp h1
  rw [hq] at y
  refine ⟨q, hq, by simpa [isL] using y, ?_⟩
  have h2 := inf_take hp (d + 1)
  rw [List.take_succ_eq_append_getElem hd, inf_kid hq] at h2
  have := of_decide_eq_true h2
  omega
theorem stp_valid {P : Fm → Pd} {t : Tr} {x q : Pt} (h : q ∈ stp (inf P t) x) : (inf P t q.1).isSome = true := by
  obtain ⟨p, w⟩ := x
  simp only [stp] at h
  cases hq : inf P t p with
  | none => rw [hq] at h; simp at h
  | some k =>
    have hp : (inf P t p).isSome = true := by rw [hq]; rfl
    rw [hq] at h
    cases w with
    | inn =>
      simp only [goIn] at h
      split at h
      · simp at h; rw [h]; exact hp
      · rename_i hn
        have h0 : (inf P t (p ++ [0])).isSome = true := by rw [inf_kid hq]; exact decide_eq_true (by omega)
        split at h
        · simp at h
          obtain ⟨i, hi, rfl⟩ := h
          show (inf P t (p ++ [i])).isSome = true
          rw [inf_kid hq]
          exact decide_eq_true hi
        · split at h
          · simp at h
            rcases h with rfl | rfl
            · exact hp
            · exact h0
          · simp at h
            rw [h]
            exact h0
    | deed =>
      have lp : ∀ l, nl (inf P t) p = some l → (inf P t l).isSome = true ∧ (inf P t (l ++ [0])).isSome = true := fun l hl => by
        obtain ⟨q', e, _, z⟩ := nl_some hp hl
        exact ⟨by rw [e]; rfl, by rw [inf_kid e]; exact decide_eq_true z⟩
      simp only [goDeed] at h
      split at h
      · simp at h
      · split at h
        · simp at h
        · rename_i l hl
          simp at h
          rw [h]
          exact (lp l hl).1
      · split at h
        · simp at h
        · rename_i l hl
          simp at h
          rcases h with rfl | rfl
          · exact (lp l hl).1
          · exact (lp l hl).2
      · simp at h
        rw [h]
        exact hp
    | out =>
      cases p with
      | nil => simp at h
      | cons j r =>
        simp only at h
        split at h
        · simp at h
        · rename_i q' hq'
          have hj := hp
          rw [← List.dropLast_concat_getLast (l := j :: r) (by simp), inf_kid hq'] at hj
          have hj' := of_decide_eq_true hj
          have h0 : (inf P t ((j :: r).dropLast ++ [0])).isSome = true := by rw [inf_kid hq']; exact decide_eq_true (by omega)
          simp only [goOut] at h
          split at h
          · rename_i c
            simp only [List.mem_singleton] at h
            rw [h]
            show (inf P t ((j :: r).dropLast ++ [_ + 1])).isSome = true
            rw [inf_kid hq']
            exact decide_eq_true c.2
          · split at h
            · simp only [List.mem_cons, List.not_mem_nil, or_false] at h
              rcases h with rfl | rfl
              · show (inf P t (j :: r).dropLast).isSome = true
                rw [hq']; rfl
              · exact h0
            · simp only [List.mem_singleton] at h
              rw [h]
              show (inf P t (j :: r).dropLast).isSome = true
              rw [hq']; rfl
/-- B4: a loop that loses its lone leave -/
theorem law_b4 {P : Fm → Pd} (hP : Plain P) (behind : Tr) : res P (.node .seq false false [.node .loop false false [], behind]) = res P (inLoop [] (lf .leave) behind) := by
  let t : Tr := .node .seq false false [.node .loop false false [], behind]
  let u : Tr := inLoop [] (lf .leave) behind
  have oth : ∀ p, p ≠ [0] → p ≠ [0, 0] → inf P t p = inf P u p := fun p h1 h2 => by
    cases p with
    | nil => rfl
    | cons i p =>
      show inf P (.node .seq false false [.node .loop false false [], behind]) (i :: p) = inf P (.node .seq false false [.node .loop false false ([] ++ [lf .leave]), behind]) (i :: p)
      rw [inf_cons, inf_cons]
      cases i with
      | succ i => rfl
      | zero =>
        show inf P (.node .loop false false []) p = inf P (.node .loop false false ([] ++ [lf .leave])) p
        cases p with
        | nil => exact absurd rfl h1
        | cons j p =>
          rw [inf_cons, inf_cons]
          cases j with
          | succ j => rfl
          | zero =>
            cases p with
            | nil => exact absurd rfl h2
            | cons k p => rfl
  have t0 : inf P t [0] = some ⟨.loop, 0, none⟩ := by
    show some (In.mk _ _ _) = _
    simp [deed, Tr.f, Tr.ks, hP.loop]
  have u0 : inf P u [0] = some ⟨.loop, 1, none⟩ := by
    show some (In.mk _ _ _) = _
    simp [deed, Tr.f, Tr.ks, hP.loop]
  have t00 : inf P t [0, 0] = none := rfl
  have u00 : inf P u [0, 0] = some ⟨.leave, 0, none⟩ := by
    show some (In.mk _ _ _) = _
    simp [deed, Tr.f, Tr.ks, hP.leave]
  have hd : ∀ p, dee (inf P t) p = dee (inf P u) p := fun p => by
    unfold dee
    by_cases h1 : p = [0]
    · rw [h1, t0, u0]; rfl
    · by_cases h2 : p = [0, 0]
      · rw [h2, t00, u00]; rfl
      · rw [oth p h1 h2]
  have hL : ∀ q, isL (inf P t q) = isL (inf P u q) := fun p => by
    by_cases h1 : p = [0]
    · rw [h1, t0, u0]; rfl
    · by_cases h2 : p = [0, 0]
      · rw [h2, t00, u00]; rfl
      · rw [oth p h1 h2]
  have r0 : inf P t [] = inf P u [] := oth [] (by simp) (by simp)
  have st : ∀ x : Pt, x.1 ≠ [0, 0] → x ≠ ([0], .inn) → stp (inf P t) x = stp (inf P u) x := fun ⟨p, w⟩ h1 h2 => by
    by_cases h : p = [0]
    · subst h
      cases w with
      | inn => exact absurd rfl h2
      | deed => simp [stp, t0, u0, goDeed]
      | out =>
        simp only [stp, t0, u0]
        show (match inf P t [] with | none => [] | some q' => goOut _ _ q'.od q'.n) = (match inf P u [] with | none => [] | some q' => goOut _ _ q'.od q'.n)
        rw [r0]
    · refine stp_congr (oth p h h1) hL fun hn hp => ?_
      by_cases h3 : p.dropLast = [0]
      · exfalso
        have e1 : p = [0] ++ [p.getLast hp] := by rw [← h3]; exact (List.dropLast_concat_getLast hp).symm
        have z : (inf P u p).isSome = true := by
          cases q : inf P u p with
          | none => exact absurd q hn
          | some _ => rfl
        rw [e1, inf_kid u0] at z
        have z' : p.getLast hp < 1 := of_decide_eq_true z
        refine h1 ?_
        show p = [0, 0]
        rw [e1, show p.getLast hp = 0 by omega]
        rfl
      · by_cases h4 : p.dropLast = [0, 0]
        · exfalso
          have e1 : p = [0, 0] ++ [p.getLast hp] := by rw [← h4]; exact (List.dropLast_concat_getLast hp).symm
          have z : (inf P u p).isSome = true := by
            cases q : inf P u p with
            | none => exact absurd q hn
            | some _ => rfl
          rw [e1, inf_kid u00] at z
          have z' : p.getLast hp < 0 := of_decide_eq_true z
          omega
        · exact oth _ h3 h4
  have tin : stp (inf P t) ([0], .inn) = [([0], .deed)] := by simp [stp, t0, goIn]
  have uin : stp (inf P u) ([0], .inn) = [([0], .deed), ([0, 0], .inn)] := by simp [stp, u0, goIn]
  have uin2 : stp (inf P u) ([0, 0], .inn) = [([0, 0], .deed)] := by simp [stp, u00, goIn]
  have ude2 : stp (inf P u) ([0, 0], .deed) = [([0], .deed)] := by
    have n : nl (inf P u) [0, 0] = some [0] := nl_loop hP [] (lf .leave) behind 0
    simp [stp, u00, goDeed, n]
  have tno : ∀ w, stp (inf P t) ([0, 0], w) = [] := fun w => by simp [stp, t00]
  have up : inf P u [] = some ⟨.steps, 2, none⟩ := by
    show some (In.mk (P .seq).od 2 ((P .seq).ac.map _)) = _
    rw [hP.seq]
    rfl
  have hs : spots t = [] :: ([[0]] ++ (spots behind).map (1 :: ·)) := by simp [t, spots, spotsL]
  have hu : spots u = [] :: ([[0]] ++ [[0, 0]] ++ (spots behind).map (1 :: ·)) := by simp [u, spots, spotsL]
  refine res_swap (t := t) (u := u) (fun x => x.1 = [0, 0]) hs hu hd (fun x hx => ?_) (fun p hp z => ?_) (fun p hp z => ?_) fun bar s hb hs' => ?_
  · have e : x = [0, 0] := List.mem_singleton.mp hx
    subst e
    refine ⟨by unfold dee; rw [u00]; rfl, ?_⟩
    refine .step (p := ([0], .inn)) (.first ?_) (fun z => z) (by rw [uin]; simp)
    simp [stp, up, goIn]
  · have e : p = [0, 0] := z
    subst e
    simp at hp
  · have e : p = [0, 0] := z
    subst e
    refine hp ?_
    unfold dee
    rw [t00]; rfl
  · have nb : ∀ p w, w ≠ .deed → ¬ bar (p, w) := fun p w hw z => by
      rcases hb with rfl | ⟨v, rfl⟩
      · exact z
      · exact hw z.1
    have s1 : s.1 ≠ [0, 0] ∧ s ≠ ([0], .inn) := by
      rcases hs' with rfl | ⟨p, rfl, hp⟩
      · exact ⟨fun z => (nomatch z), fun z => nomatch z⟩
      · refine ⟨fun z => ?_, fun z => by injection z with _ z; cases z⟩
        have e : p = [0, 0] := z
        subst e
        refine hp ?_
        unfold dee
        rw [t00]; rfl
    have r1 : ∀ q, Rch (stp (inf P t)) bar s q → Rch (stp (inf P u)) bar s q := fun q h => by
      refine h.mono (fun x q hq => ?_) fun _ z => z
      by_cases h1 : x.1 = [0, 0]
      · obtain ⟨p, w⟩ := x
        have e : p = [0, 0] := h1
        subst e
        rw [tno] at hq
        cases hq
      · by_cases h2 : x = ([0], .inn)
        · subst h2
          rw [tin] at hq
          rw [uin, List.mem_singleton.mp hq]
          exact List.mem_cons_self
        · rw [← st x h1 h2]
          exact hq
    have val : ∀ x q, q ∈ stp (inf P t) x → q.1 ≠ [0, 0] := fun x q hq z => by
      have := stp_valid hq
      rw [z, t00] at this
      cases this
    have r2 : ∀ q, Rch (stp (inf P u)) bar s q → (q.1 ≠ [0, 0] → Rch (stp (inf P t)) bar s q) ∧ (q.1 = [0, 0] → q.2 ≠ .out ∧ Rch (stp (inf P t)) bar s ([0], .deed)) := fun q h => by
      induction h with
      | @first q h =>
        rw [← st s s1.1 s1.2] at h
        exact ⟨fun _ => .first h, fun e => absurd e (val _ _ h)⟩
      | @step p q _ hb' hq ih =>
        by_cases h1 : p.1 = [0, 0]
        · obtain ⟨a, b⟩ := ih.2 h1
          obtain ⟨pp, w⟩ := p
          have e : pp = [0, 0] := h1
          subst e
          cases w with
          | inn =>
            rw [uin2] at hq
            rw [List.mem_singleton.mp hq]
            exact ⟨fun z => absurd rfl z, fun _ => ⟨fun z => (nomatch z), b⟩⟩
          | deed =>
            rw [ude2] at hq
            rw [List.mem_singleton.mp hq]
            exact ⟨fun _ => b, fun z => nomatch z⟩
          | out => exact absurd rfl a
        · by_cases h2 : p = ([0], .inn)
          · subst h2
            have rp := ih.1 h1
            have rd : Rch (stp (inf P t)) bar s ([0], .deed) := .step rp hb' (by rw [tin]; exact List.mem_singleton.mpr rfl)
            rw [uin] at hq
            simp only [List.mem_cons, List.not_mem_nil, or_false] at hq
            rcases hq with rfl | rfl
            · exact ⟨fun _ => rd, fun z => nomatch z⟩
            · exact ⟨fun z => absurd rfl z, fun _ => ⟨fun z => (nomatch z), rd⟩⟩
          · rw [← st p h1 h2] at hq
            exact ⟨fun _ => .step (ih.1 h1) hb' hq, fun e => absurd e (val _ _ hq)⟩
    exact fun q hq => ⟨r1 q, fun h => (r2 q h).1 hq⟩
end Jz
end
section
set_option maxHeartbeats 4000000
/-! for and if in a generator's body -/
namespace Jz
open PySem PySem.Spec PyProof.Rows L2

section
variable {X : Cx} {st : Stmt} {rest : List Stmt}
def tGIf (c : TT) (t u : TGn) : TGn := fun D ys σ H => c σ H fun b H1 => if b = true then t D ys σ H1 else u D ys σ H1
theorem gs_if {test : Expr} {body orelse : List Stmt} {pos : Pos} {tc : TT} {t u : TGn} (hc : PT X test tc) (ha : GSs X body t) (hb : GSs X orelse u) : GS X (.If test body orelse pos) (tGIf tc t u) := by
  refine ⟨fun A S ip R n ys s₀ c fs K J gd lv s σ H D g hn k hI ht => ?_⟩
  obtain ⟨acc, cc, r, I⟩ := hI
  show Seg _ A R (GY X S) n s₀ c (.at pos fun _ => ((isTrue test X.env (eval test X.env)) >>= fun b => if b = true then execs body X.env else execs orelse X.env).wrap K J gd lv) fs s
  refine seg_at ?_
  rw [Sem.bind_eq_wrap', Sem.wrap_wrap]
  refine seg_wrap ?_
  rw [g.over]
  refine wpAny_mono (hc.run _ s σ H _ I ht) (fun b s' hb' => ?_) fun x s' hx => k.exc n s₀ x s' hx
  obtain ⟨H2, I2, q2⟩ := hb'
  cases b with
  | true =>
    rw [if_pos rfl] at q2 ⊢
    exact ha.run A S ip R n ys s₀ c fs K J gd lv s' σ H2 D g hn k ⟨acc, cc, r, I2⟩ q2
  | false =>
    rw [if_neg Bool.false_ne_true] at q2 ⊢
    exact hb.run A S ip R n ys s₀ c fs K J gd lv s' σ H2 D g hn k ⟨acc, cc, r, I2⟩ q2
end

section
variable {M : Model} {A : Around} {R : GenEnd} {Y : Protocol} {n : Nat} {s₀ : Shared} {c : Code} {fs : List Frame} {s : Shared} {env : Env}
  {K : Flow → Sem PySem.Fin} {J : Value → Sem PySem.Fin} {gd : Bool → Bool} {lv : List Value → List Value}
theorem seg_For {tg iter : Expr} {body : List Stmt} {pos : Pos} (hs : ∀ x, foldedSetIterable iter env x = pure x)
    (h : wpAny M (A.over c fs) (eval iter env) (fun v s1 => wpAny M (A.over c fs) (pyIter v) (fun it s2 => ∀ p, Seg M A R Y n s₀ (.forLoop tg it body [] env) (M.den (.forLoop tg it body [] env))
      (.ret (fun r => ((match r with | .ok f => (.pure f : Sem Flow) | .error e => .raise e).onRaise fun (x : Value) => do
        if (← field x 1) == Value.none then unsupported "frame.own-activation:exception-without-traceback"
        setFlight x env.frame).wrap K J gd lv) none (gd false) (lv []) c p [] :: fs) s2) (fun x s' => Seg M A R Y n s₀ c (J x) fs s') s1) (fun x s' => Seg M A R Y n s₀ c (J x) fs s') s) :
    Seg M A R Y n s₀ c ((exec (.For tg iter body [] pos) env).wrap K J gd lv) fs s := by
  rw [exec_For]
  show Seg M A R Y n s₀ c (.at pos fun _ => (eval iter env >>= fun v => foldedSetIterable iter env v >>= fun x => standAt iter.pos >>= fun _ => holding [x] (pyIter x) >>= fun it => runOwn (.forLoop tg it body [] env) env).wrap K J gd lv) fs s
  refine seg_at ?_
  rw [Sem.bind_eq_wrap', Sem.wrap_wrap]
  refine seg_wrap (wpAny_mono h (fun v s1 h1 => ?_) fun _ _ x => x)
  rw [hs v]
  show Seg M A R Y n s₀ c (.at iter.pos fun _ => (holding [v] (pyIter v) >>= fun it => runOwn (.forLoop tg it body [] env) env).wrap K J gd lv) fs s1
  refine seg_at ?_
  rw [Sem.bind_eq_wrap', Sem.wrap_wrap]
  refine seg_wrap (wpAny_holding (wpAny_mono h1 (fun it s2 h2 => ?_) fun _ _ x => x))
  exact seg_call h2
end

section
variable {prog : Program} {w : World} {A : Around} {R : GenEnd} {Y : Protocol} {n : Nat} {s₀ : Shared} {fs : List Frame} {s : Shared} {env : Env}
theorem seg_forLoop {tg : Expr} {it : Value} {body : List Stmt}
    (h : wpAny (model prog w) (A.over (.forLoop tg it body [] env) fs) (pyNext it) (fun r s1 => match r with
        | none => Seg (model prog w) A R Y n s₀ (.block [] env) ((model prog w).den (.block [] env)) fs s1
        | some v => wpAny (model prog w) (A.over (.forLoop tg it body [] env) fs) (letOwnedTupleGo tg it v) (fun _ s2 => wpAny (model prog w) (A.over (.forLoop tg it body [] env) fs) (assign tg env v) (fun _ s3 =>
            Seg (model prog w) A R Y n s₀ (.forLoop tg it body [] env) ((execs body env).wrap (fun f => match f with
              | .next | .cont => .pure (.again (.forLoop tg it body [] env))
              | .brk => .pure (.done .next)
              | .ret v => .pure (.done (.ret v))) (fun e => (do noteFrame e env; theTreesLotGoes e : Sem Unit).wrap (fun _ => .raise e) .raise id id) id id) fs s3)
            (fun x s' => Seg (model prog w) A R Y n s₀ (.forLoop tg it body [] env) ((do noteFrame x env; theTreesLotGoes x : Sem Unit).wrap (fun _ => .raise x) .raise id id) fs s') s2)
            (fun x s' => Seg (model prog w) A R Y n s₀ (.forLoop tg it body [] env) ((do noteFrame x env; theTreesLotGoes x : Sem Unit).wrap (fun _ => .raise x) .raise id id) fs s') s1)
      (fun x s' => Seg (model prog w) A R Y n s₀ (.forLoop tg it body [] env) ((do noteFrame x env; theTreesLotGoes x : Sem Unit).wrap (fun _ => .raise x) .raise id id) fs s') s) :
    Seg (model prog w) A R Y n s₀ (.forLoop tg it body [] env) ((model prog w).den (.forLoop tg it body [] env)) fs s := by
  show Seg _ A R Y n s₀ _ ((forTurn tg it body [] env).onRaise (fun x => do noteFrame x env; theTreesLotGoes x)) fs s
  have hH : ∀ x s', Seg (model prog w) A R Y n s₀ (.forLoop tg it body [] env) ((do noteFrame x env; theTreesLotGoes x : Sem Unit).wrap (fun _ => .raise x) .raise id id) fs s' →
      Seg (model prog w) A R Y n s₀ (.forLoop tg it body [] env) ((do noteFrame x env; theTreesLotGoes x : Sem Unit).bind fun _ => (.raise x : Sem PySem.Fin)) fs s' := fun x s' hx => by
    rw [Sem.bind_eq_wrap]
    exact hx
  unfold forTurn
  rw [Sem.onRaise_eq_wrap]
  rw [Sem.bind_eq_wrap', Sem.wrap_wrap]
  refine seg_wrap (wpAny_standAt ?_)
  rw [Sem.bind_eq_wrap', Sem.wrap_wrap]
  refine seg_wrap (wpAny_onRaise (wpAny_mono h (fun r s1 h1 => ?_) fun x s' hx => wpAny_standAt (hH x s' hx)))
  cases r with
  | none => exact seg_again rfl h1
  | some v =>
    dsimp only
    rw [Sem.bind_eq_wrap', Sem.wrap_wrap]
    refine seg_wrap (wpAny_mono h1 (fun _ s2 h2 => ?_) fun x s' hx => hH x s' hx)
    rw [Sem.bind_eq_wrap', Sem.wrap_wrap]
    refine seg_wrap (wpAny_mono h2 (fun _ s3 h3 => ?_) fun x s' hx => hH x s' hx)
    rw [Sem.bind_eq_wrap', Sem.wrap_wrap]
    rw [Sem.wrap_congr (execs body env) _ _ (K' := fun f => match f with
            | .next | .cont => .pure (.again (.forLoop tg it body [] env))
            | .brk => .pure (.done .next)
            | .ret v => .pure (.done (.ret v))) (H' := (fun e => (do noteFrame e env; theTreesLotGoes e : Sem Unit).wrap (fun _ => .raise e) .raise id id))
        (fun f => by cases f <;> rfl)
        (fun e => by first | exact Sem.bind_eq_wrap _ _ | (show (do noteFrame e env; theTreesLotGoes e : Sem Unit).bind (fun _ => .raise e) = _; rw [Sem.bind_eq_wrap]))]
    exact h3
end

section
variable {X : Cx} {st : Stmt} {rest : List Stmt}
/-- for, in a generator: W by the turn, a measure, what is out -/
def tGFor (wi : TI) (g : TG) (tb : TGn) : TGn := fun D ys σ H => wi σ H fun J H1 => ∃ W : Nat → Nat → List V → L2.St → Hp → Prop, (∃ m, W 0 m ys σ H1) ∧ ∀ i m ys σ H, W i m ys σ H →
  (J.stop i H ∧ D.nx ys σ H) ∨ (J.go i H ∧ ∃ N : List V → L2.St → Hp → Prop, (∀ ys' σ' H', N ys' σ' H' → ∃ m', m' < m ∧ W (i + 1) m' ys' σ' H') ∧ ∀ x H', J.yld i H x H' → g x σ H' fun σ2 H2 => tb { D with nx := N, ct := N, bk := D.nx } ys σ2 H2)
theorem gs_for {tg iter : Expr} {body : List Stmt} {wi : TI} {gg : TG} {tb : TGn} {pos : Pos} (hp : PassesOwn (model X.prog X.w) X.A X.env X.xe) (hc : X.calm = true) (hi : PI X tg iter wi) (hg : PG X tg gg) (hb : GSs X body tb)
    (hs : ∀ x, foldedSetIterable iter X.env x = pure x := by intro _; rfl) : GS X (.For tg iter body [] pos) (tGFor wi gg tb) := by
  refine ⟨fun A S ip R n ys s₀ c fs K J gd lv s σ H D g hn k hI ht => ?_⟩
  obtain ⟨acc, cc, r, I⟩ := hI
  refine seg_For hs ?_
  rw [g.over]
  refine wpAny_mono (hi.run _ s σ H _ I ht) (fun v s1 h1 => wpAny_mono h1 (fun itv s2 h2 => ?_) fun x s' hx => k.exc n s₀ x s' hx) fun x s' hx => k.exc n s₀ x s' hx
  intro p
  obtain ⟨it, fp, tn, JJ, H2, e, I2, T, st2, f2, W, ⟨m0, w0⟩, turn⟩ := h2
  subst e
  -- where the loop's code stands
  have gl := fun (kk : Result → Sem PySem.Fin) => gc_loop (k := kk) (c' := .forLoop tg (.ref it) body [] X.env) (l := lv []) (kp := []) (p := p) g rfl rfl
  have gb := fun (kk : Result → Sem PySem.Fin) => gc_loop (k := kk) (c' := .block [] X.env) (l := lv []) (kp := []) (p := p) g rfl rfl
  -- what stays true of the iterator's objects: not the list S, not pinned by ip
  have fs1 : ∀ b ∈ fp, b ∉ X.fs ∧ b ≠ X.env.locals ∧ (b ∈ X.ex ∨ X.s_0.heap.objs.size ≤ b) ∧ (∀ x c, X.env.cells.lookup x = some c → c ≠ b) ∧ b ≠ S ∧ ∀ p ∈ X.pn ++ ip, p.1 ≠ b := fun b hb => by
    obtain ⟨f0, f1, f3, f4, f5, f6⟩ := f2 b hb
    refine ⟨f3, f1, f4, f5, fun z => ?_, fun p hp => ?_⟩
    · exact f6 (S, lstObj acc cc) (List.mem_append_right _ List.mem_cons_self) z.symm
    · rcases List.mem_append.mp hp with z | z
      · exact f6 p (List.mem_append_left _ z)
      · exact f6 p (List.mem_append_right _ (List.mem_cons_of_mem _ z))
  have stat : ∀ {H' : Hp} (acc' : Array Value) (c' : Nat), (∀ b ∈ fp, H' b = none) → ∀ b ∈ fp, FpOk X ((S, lstObj acc' c') :: ip) H' b := fun acc' c' hn b hb => by
    obtain ⟨f3, f1, f4, f5, fS, f6⟩ := fs1 b hb
    refine ⟨hn b hb, f1, f3, f4, f5, fun p hp => ?_⟩
    rcases List.mem_append.mp hp with z | z
    · exact f6 p (List.mem_append_left _ z)
    · rcases List.mem_cons.mp z with z | z
      · rw [z]; exact fun y => fS y.symm
      · exact f6 p (List.mem_append_right _ z)
  have loop : ∀ (m n : Nat) (i : Nat) (ys : List V) (s₀ s : Shared) (σ : L2.St) (H : Hp), n + ys.length = sizeLine → W i m ys σ H → GI X S ip ys σ H s → tn i s.heap → (∀ b ∈ fp, H b = none) →
      Seg (model X.prog X.w) A R (GY X S) n s₀ (.forLoop tg (.ref it) body [] X.env) ((model X.prog X.w).den (.forLoop tg (.ref it) body [] X.env))
        (.ret (fun r => ((match r with | .ok f => (.pure f : Sem Flow) | .error e => .raise e).onRaise (cameBack X.env)).wrap K J gd lv) none (gd false) (lv []) c p [] :: fs) s := by
    intro m
    induction m using Nat.strongRecOn with
    | ind m ih =>
      intro n i ys s₀ s σ H hn w hI st fr
      have ee : ∀ (n : Nat) (s₀ : Shared) (x : Value) (s' : Shared), X.xe x s' → Seg (model X.prog X.w) A R (GY X S) n s₀ (.forLoop tg (.ref it) body [] X.env)
          ((do noteFrame x X.env; theTreesLotGoes x : Sem Unit).wrap (fun _ => .raise x) .raise id id)
          (.ret (fun r => ((match r with | .ok f => (.pure f : Sem Flow) | .error e => .raise e).onRaise (cameBack X.env)).wrap K J gd lv) none (gd false) (lv []) c p [] :: fs) s' := fun n s₀ x s' hx => by
        refine seg_wrap ?_
        rw [(gl _).over]
        refine wpAny_bind (wpAny_mono (hp x s' hx) (fun _ s'' hcb => wpAny_theTreesLotGoes ?_) fun y s'' hcb => ?_)
        · exact seg_leaf (.error x) (seg_cameBack g k hcb)
        · exact seg_leaf (.error y) (seg_cameBack g k hcb)
      obtain ⟨acc, cc, r, I⟩ := hI
      refine seg_forLoop ?_
      rw [(gl _).over]
      rcases turn i m ys σ H w with ⟨stop, qn⟩ | ⟨go, N, hN, step⟩
      · refine wpAny_mono (T.done X rfl rfl rfl hc i _ s σ H X.xe I (stat acc cc fr) st stop) (fun rr s4 hr => ?_) fun x s' hx => ee n s₀ x s' hx
        obtain ⟨hr, I4⟩ := hr
        subst hr
        show Seg _ A R (GY X S) n s₀ (.block [] X.env) (.pure (.done .next)) _ s4
        exact seg_leaf (.ok .next) (k.ok n ys s₀ s4 .next hn ⟨σ, H, ⟨acc, cc, r, I4⟩, qn⟩)
      · refine wpAny_mono (T.item X rfl rfl rfl hc i _ s σ H X.xe I (stat acc cc fr) st go) (fun rr s4 hr => ?_) fun x s' hx => ee n s₀ x s' hx
        obtain ⟨u, hr, h4⟩ := hr
        subst hr
        refine wpAny_mono h4 (fun _ s5 h5 => ?_) fun x s' hx => ee n s₀ x s' hx
        obtain ⟨x, H5, I5, r5, y5, st5, fr5⟩ := h5
        have I5' := I5.pinned (stat acc cc fr5) (T.obj _ _ st5)
        refine wpAny_mono (hg.run _ s5 σ H5 x u _ I5' r5 (step x H5 y5)) (fun _ s6 h6 => ?_) fun x s' hx => ee n s₀ x s' hx
        obtain ⟨σ6, H6, I6, q6⟩ := h6
        have gl' : ∀ kk, GC X S (ip ++ pinsAt fp s5.heap) A (.forLoop tg (.ref it) body [] X.env) (.ret kk none (gd false) (lv []) c p [] :: fs) id := fun kk =>
          ⟨(gl kk).pn, fun q hq => by
            rcases List.mem_append.mp hq with z | z
            · exact g.ip q z
            · exact (fs1 q.1 (of_pinsAt z).1).2.2.2.2.1, (gl kk).apart, (gl kk).over, (gl kk).split, (gl kk).guard, (gl kk).gd⟩
        refine hb.run A S (ip ++ pinsAt fp s5.heap) R n ys s₀ _ _ _ _ id id s6 σ6 H6 { D with nx := N, ct := N, bk := D.nx } (gl' _) hn ⟨fun n' ys' s₀' s7 f hn' hs => ?_, fun n' s₀' x s7 hx => ee n' s₀' x s7 hx⟩ ⟨acc, cc, r, I6⟩ q6
        have again : ∀ {σ7 : L2.St} {H7 : Hp}, GI X S (ip ++ pinsAt fp s5.heap) ys' σ7 H7 s7 → N ys' σ7 H7 → Seg (model X.prog X.w) A R (GY X S) n' s₀' (.forLoop tg (.ref it) body [] X.env) (.pure (.again (.forLoop tg (.ref it) body [] X.env)))
            (.ret (fun r => ((match r with | .ok f => (.pure f : Sem Flow) | .error e => .raise e).onRaise (cameBack X.env)).wrap K J gd lv) none (gd false) (lv []) c p [] :: fs) s7 := fun {σ7 H7} I7 n7 => by
          obtain ⟨m', hm, w7⟩ := hN ys' σ7 H7 n7
          obtain ⟨acc7, c7, r7, I7⟩ := I7
          have pin7 : ∀ b ∈ fp, ∀ o, s5.heap.get? b = some o → s7.heap.get? b = some o ∧ H7 b = none := fun b hb o e =>
            let z := I7.pin (b, o) (List.mem_append_right _ (List.mem_cons_of_mem _ (List.mem_append_right _ (mem_pinsAt hb e))))
            ⟨z.1, z.2.1⟩
          refine seg_again rfl (ih m' hm n' (i + 1) ys' s₀' s7 σ7 H7 hn' w7 ⟨acc7, c7, r7, I7.pins_of fun q hq => I7.pin q ?_⟩ (T.keep _ _ _ st5 fun b hb o e => (pin7 b hb o e).1) fun b hb => ?_)
          · rcases List.mem_cons.mp hq with z | z
            · exact List.mem_append_right _ (by rw [z]; exact List.mem_cons_self)
            · exact List.mem_append_right _ (List.mem_cons_of_mem _ (List.mem_append_left _ z))
          · obtain ⟨o, e, d⟩ := T.obj _ _ st5 b hb
            exact (pin7 b hb o e).2
        have low : ∀ {σ7 : L2.St} {H7 : Hp}, GI X S (ip ++ pinsAt fp s5.heap) ys' σ7 H7 s7 → GI X S ip ys' σ7 H7 s7 := fun {σ7 H7} I7 => by
          obtain ⟨acc7, c7, r7, I7⟩ := I7
          refine ⟨acc7, c7, r7, I7.pins_of fun q hq => I7.pin q ?_⟩
          rcases List.mem_cons.mp hq with z | z
          · exact List.mem_append_right _ (by rw [z]; exact List.mem_cons_self)
          · exact List.mem_append_right _ (List.mem_cons_of_mem _ (List.mem_append_left _ z))
        cases f with
        | next => obtain ⟨σ7, H7, I7, n7⟩ := hs; exact again I7 n7
        | cont => obtain ⟨σ7, H7, I7, n7⟩ := hs; exact again I7 n7
        | brk =>
          obtain ⟨σ7, H7, I7, q7⟩ := hs
          exact seg_leaf (.ok .next) (k.ok n' ys' s₀' s7 .next hn' ⟨σ7, H7, low I7, q7⟩)
        | ret v =>
          obtain ⟨x7, σ7, H7, I7, rr7, q7⟩ := hs
          exact seg_leaf (.ok (.ret v)) (k.ok n' ys' s₀' s7 (.ret v) hn' ⟨x7, σ7, H7, low I7, rr7, q7⟩)
  exact loop m0 n 0 ys s₀ s2 σ H2 hn w0 ⟨acc, cc, r, I2⟩ st2 fun b hb => (f2 b hb).1
end
end Jz
end
section
set_option maxHeartbeats 4000000
/-! own in and own subscripts over the layer; dicts whose keys are points -/
namespace Jz
open PySem PySem.Spec PyProof.Rows L2

/-! ### x in o, o[x], by an own method -/
section
variable {X : Cx} {CX : CXT} {k : Nat} {f C : Addr} {fd : FuncData} {ps : List Str} {sp : Sp} {E : XK}
def rInOwn (C : Addr) (sp : Sp) (E : XK) : R2 := fun x y H Q => ∃ a dx fs, y = .ref a ∧ H a = some (.ins C dx fs) ∧ sp [.ref a, x] H (fun v H1 => ∃ b, v = .bl b ∧ Q (.bl b) H1) E
def rNotInOwn (C : Addr) (sp : Sp) (E : XK) : R2 := fun x y H Q => ∃ a dx fs, y = .ref a ∧ H a = some (.ins C dx fs) ∧ sp [.ref a, x] H (fun v H1 => ∃ b, v = .bl b ∧ Q (.bl (!b)) H1) E
def rIxOwn (C : Addr) (sp : Sp) (E : XK) : R2 := fun x y H Q => ∃ a dx fs, x = .ref a ∧ H a = some (.ins C dx fs) ∧ sp [.ref a, y] H Q E
theorem inst_of {pins : List (Addr × Obj)} {σ : L2.St} {H : Hp} {s : Shared} {a dx : Addr} {fs : List (Str × V)} (I : Inv X pins σ H s) (ea : H a = some (.ins C dx fs)) : ∃ od, PySem.W.InstAt s.heap a (PySem.W.instObj C dx) C (some od) := by
  obtain ⟨mA, O, _⟩ := ins_get I.hok ea
  obtain ⟨od, J, _⟩ := O.look
  exact ⟨od, J⟩
theorem op_inOwn (hs : PySem.W.findIn X.K (.ref C) "__contains__" = some (some (.ref f))) (hf : PySem.W.isFn X.K (.ref f) = true) (F : FnOk X.prog X.w X.K X.mg X.base CX k f fd ps sp) (hr : Room k X.A) (hb : Binds X.K fd ps []) (hx : Passes CX X E) : OpR X (compareOp .In) (rInOwn C sp E) := by
  intro pins s σ H x y v u Q I rx ry h
  obtain ⟨a, dx, fs, ey, ea, h⟩ := h
  subst ey
  obtain rfl : u = Value.ref a := ry
  obtain ⟨od, J⟩ := inst_of I ea
  obtain ⟨m, Fr⟩ := I.fr
  refine PySem.W.in_K Fr I.mod.kin J hs hf (thn (run_fn (us := [.ref a, v]) (vs := [.ref a, x]) (ds := []) (dvs := []) F hr hb .nil hx I (.cons rfl (.cons rx .nil)) h) fun r s1 h1 => ?_)
  obtain ⟨z, H1, I1, rz, hq⟩ := h1
  obtain ⟨b, ez, q⟩ := hq
  subst ez
  cases (show r = Value.bool b from rz)
  exact wpAny_truthy_bool ⟨.bl b, H1, I1, rfl, q⟩
theorem op_notInOwn (hs : PySem.W.findIn X.K (.ref C) "__contains__" = some (some (.ref f))) (hf : PySem.W.isFn X.K (.ref f) = true) (F : FnOk X.prog X.w X.K X.mg X.base CX k f fd ps sp) (hr : Room k X.A) (hb : Binds X.K fd ps []) (hx : Passes CX X E) : OpR X (compareOp .NotIn) (rNotInOwn C sp E) := by
  intro pins s σ H x y v u Q I rx ry h
  obtain ⟨a, dx, fs, ey, ea, h⟩ := h
  subst ey
  obtain rfl : u = Value.ref a := ry
  obtain ⟨od, J⟩ := inst_of I ea
  obtain ⟨m, Fr⟩ := I.fr
  refine PySem.W.notIn_K Fr I.mod.kin J hs hf (thn (run_fn (us := [.ref a, v]) (vs := [.ref a, x]) (ds := []) (dvs := []) F hr hb .nil hx I (.cons rfl (.cons rx .nil)) h) fun r s1 h1 => ?_)
  obtain ⟨z, H1, I1, rz, hq⟩ := h1
  obtain ⟨b, ez, q⟩ := hq
  subst ez
  cases (show r = Value.bool b from rz)
  exact wpAny_truthy_bool ⟨.bl (!b), H1, I1, rfl, q⟩
theorem pe_ixOwn {a b : Expr} {ta tb : TE} {pos : Pos} (hs : PySem.W.findIn X.K (.ref C) "__getitem__" = some (some (.ref f))) (hfi : PySem.W.fnIn X.K f = true) (hf : PySem.W.isFn X.K (.ref f) = true) (F : FnOk X.prog X.w X.K X.mg X.base CX k f fd ps sp) (hr : Room (k + 1) X.A)
    (hb : Binds X.K fd ps []) (hx : Passes CX X E) (ha : PE X a ta) (hi : PE X b tb) (hsl : ∀ v u, subscripted b true v u = runValue (.builtin "lifetime.subscript" ⟨[v, u], []⟩) := by intro _ _; with_unfolding_all rfl) : PE X (.Subscript a b pos) (tOp (rIxOwn C sp E) ta tb) := by
  refine ⟨fun pins s σ H Q I h => ?_⟩
  refine Subscript_ (binT ha hi I h fun v u s2 x y H2 I2 rx ry q => ?_)
  obtain ⟨o, dx, fs, ex, eo, q⟩ := q
  subst ex
  obtain rfl : v = Value.ref o := rx
  obtain ⟨od, J⟩ := inst_of I2 eo
  obtain ⟨m, Fr⟩ := I2.fr
  have hl : ([Value.ref o, u] ++ []).length = ps.length := (F.len _ _ _ _ q)
  refine PySem.W.sub_K Fr I2.mod.kin J hs hfi hf (wpAny_call (codeAny_mono (F.run X.A.in1 X.stack s2 H2 ⟨[.ref o, u], []⟩ ([.ref o, u] ++ []) [.ref o, y] Q E hr.in1 I2.env0.in1 (hb _ [.ref o, u] I2.kIn hl) (.cons rfl (.cons ry .nil)) q) fun r s' hq => ?_)) (hsl _ _)
  cases r with
  | error er => exact hx pins σ H2 s2 er s' I2 hq
  | ok fl =>
    cases fl with
    | ret u' => exact I2.after hq
    | next => exact False.elim hq
    | brk => exact False.elim hq
    | cont => exact False.elim hq
end

/-! ### points, paths in the heap -/
def wn : W → Str
  | .deed => "deed"
  | .inn => "in"
  | .out => "out"
def PaAt (H : Hp) (p : Pa) (a : Addr) : Prop := H a = some (.tup (p.map fun n : Nat => V.int (n : Int)))
def PtAt (H : Hp) (q : Pt) (a : Addr) : Prop := ∃ b, H a = some (.tup [.ref b, .str (wn q.2)]) ∧ PaAt H q.1 b
def kyP (p : Pa) : List NestedKey := p.map fun n : Nat => NestedKey.num (n : Int)
def ky (q : Pt) : NestedKey := .tup [.tup (kyP q.1), .text (wn q.2)]
theorem wn_inj {a b : W} (h : wn a = wn b) : a = b := by
  cases a <;> cases b <;> first | rfl | (exfalso; revert h; decide +kernel)
theorem kyP_inj : ∀ {p q : Pa}, kyP p = kyP q → p = q
  | [], [], _ => rfl
  | [], _ :: _, h => by cases h
  | _ :: _, [], h => by cases h
  | a :: p, b :: q, h => by
    unfold kyP at h
    rw [List.map_cons, List.map_cons] at h
    injection h with h1 h2
    injection h1 with h1
    rw [show a = b by omega, kyP_inj (p := p) (q := q) h2]
theorem ky_inj {p q : Pt} (h : ky p = ky q) : p = q := by
  obtain ⟨p, w⟩ := p
  obtain ⟨q, v⟩ := q
  unfold ky at h
  injection h with h
  injection h with h1 h2
  injection h1 with h1
  injection h2 with h2 _
  injection h2 with h2
  have e1 : p = q := kyP_inj h1
  have e2 : w = v := wn_inj h2
  rw [e1, e2]
theorem kyP_depth : ∀ p : Pa, NestedKey.depthAll (kyP p) = 0
  | [] => by simp [kyP, NestedKey.depthAll]
  | a :: p => by
    have := kyP_depth p
    unfold kyP at this ⊢
    rw [List.map_cons, NestedKey.depthAll, this, NestedKey.depth]
    rfl
theorem ky_depth (q : Pt) : (ky q).depth ≤ 8 := by
  unfold ky
  simp only [NestedKey.depth, NestedKey.depthAll, kyP_depth]
  decide
theorem kyP_all {h : Heap} : ∀ {p : Pa} {us : List Value}, Vals (p.map fun n : Nat => V.int (n : Int)) us → NestedAll h (kyP p) us
  | [], [], _ => .nil
  | n :: p, u :: us, .cons r t => by
    obtain ⟨tk, rfl⟩ := r
    exact .cons (.int _ _) (kyP_all t)
theorem PaAt.is {P : Program} {w : World} {H : Hp} {h : Heap} {p : Pa} {b : Addr} (ok : HOk P w H h) (e : PaAt H p b) : NestedIs h (.tup (kyP p)) (.ref b) := by
  obtain ⟨_, its, r, o, h1, h2, n, h3⟩ := (show ObjOk P w H h b (.tup (p.map fun n : Nat => V.int (n : Int))) from ok b _ e)
  exact .tup h1 h2 h3 (by simpa using kyP_all r)
theorem PtAt.is {P : Program} {w : World} {H : Hp} {h : Heap} {q : Pt} {a : Addr} (ok : HOk P w H h) (e : PtAt H q a) : (nestedKind P w).is h (ky q) a := by
  obtain ⟨b, ea, eb⟩ := e
  obtain ⟨_, its, r, o, h1, h2, n, h3⟩ := (show ObjOk P w H h a (.tup [.ref b, .str (wn q.2)]) from ok a _ ea)
  obtain ⟨u1, u2, rfl, r1, r2⟩ := vals2 r
  obtain rfl : u1 = Value.ref b := r1
  obtain ⟨tk, rfl⟩ := r2
  exact ⟨.tup h1 h2 h3 (by simpa using .cons (eb.is ok) (.cons (.text _ _) .nil)), ky_depth q⟩
theorem PaAt.mono {H H' : Hp} {p : Pa} {b : Addr} (e : PaAt H p b) (s : Same H H') : PaAt H' p b := s _ _ e
theorem PtAt.mono {H H' : Hp} {q : Pt} {a : Addr} (e : PtAt H q a) (s : Same H H') : PtAt H' q a :=
  let ⟨b, ea, eb⟩ := e
  ⟨b, s _ _ ea, eb.mono s⟩

/-! ### dicts whose keys are points -/
def pdf (P : Program) (w : World) (d : Addr) (xs : List (NestedKey × Addr × Value)) : Heap → Prop := fun h => ∃ o es ep, h.get? d = some o ∧ o.ExactDict ∧ o.data = .dict es ep ∧ es.toList = xs.map (entryOfKey (nestedKind P w)) ∧ (xs.map (·.1)).Nodup
/-- at d stands a dict whose keys are the points qs -/
structure PD (P : Program) (w : World) (H : Hp) (d : Addr) (qs : List Pt) : Prop where
  ex : ∃ xs : List (NestedKey × Addr × Value), H d = some (.ext (pdf P w d xs)) ∧ xs.map (·.1) = qs.map ky ∧ ∀ x ∈ xs, ∃ q, PtAt H q x.2.1 ∧ x.1 = ky q
  sm : (d == sysModules) = false
  ln : qs.length ≤ sizeLine
section
variable {X : Cx} {pins : List (Addr × Obj)} {σ : L2.St} {H : Hp} {s : Shared} {d a : Addr} {qs : List Pt} {q : Pt} {A : Around} {E : Value → Shared → Prop}
theorem PD.raw {P : Program} {w : World} {h : Heap} (ok : HOk P w H h) (D : PD P w H d qs) : ∃ xs, H d = some (.ext (pdf P w d xs)) ∧ xs.map (·.1) = qs.map ky ∧ (∀ x ∈ xs, ∃ q, PtAt H q x.2.1 ∧ x.1 = ky q) ∧ h.DictOfH (nestedKind P w) d xs := by
  obtain ⟨xs, e, em, hk⟩ := D.ex
  obtain ⟨⟨o, es, ep, h1, h2, h3, h4, h5⟩, _⟩ := (show ObjOk P w H h d (.ext (pdf P w d xs)) from ok d _ e)
  refine ⟨xs, e, em, hk, o, es, ep, h1, h2, h3, h4, fun x hx => ?_, h5⟩
  obtain ⟨q, hq, ex⟩ := hk x hx
  rw [ex]
  exact hq.is ok
theorem pd_new {P : Program} {w : World} {H : Hp} (h : Heap) : ObjOk P w H (h.push { cls := .type "dict", data := .dict #[] }) h.objs.size (.ext (pdf P w h.objs.size [])) :=
  ⟨⟨_, #[], 0, Heap.get?_push_size _ rfl, ⟨rfl, rfl, rfl⟩, rfl, rfl, List.nodup_nil⟩, ⟨_, Heap.get?_push_size _ rfl⟩, fun _ _ x k => by
    obtain ⟨o, es, ep, e, r⟩ := x
    exact ⟨o, es, ep, k o e, r⟩⟩
theorem atKey_mem {xs : List (NestedKey × Addr × Value)} (em : xs.map (·.1) = qs.map ky) : (atKey xs (ky q)).isSome = decide (q ∈ qs) := by
  have e1 : (atKey xs (ky q)).isSome = decide (ky q ∈ xs.map (·.1)) := by
    rw [Bool.eq_iff_iff, decide_eq_true_iff]
    unfold atKey
    rw [Option.isSome_map, List.find?_isSome, List.mem_map]
    constructor
    · rintro ⟨x, hx, e⟩
      exact ⟨x, hx, of_decide_eq_true e⟩
    · rintro ⟨x, hx, e⟩
      exact ⟨x, hx, decide_eq_true e⟩
  rw [e1, em, Bool.eq_iff_iff, decide_eq_true_iff, decide_eq_true_iff, List.mem_map]
  constructor
  · rintro ⟨p, hp, e⟩
    rw [← ky_inj e]
    exact hp
  · exact fun h => ⟨q, h, rfl⟩
theorem room8 (hu : A.units + 64 < cLine) : (nestedKind X.prog X.w).room A.in1 := by
  show A.units + 1 + 8 < cLine
  omega
theorem pd_in {Q : Value → Shared → Prop} (hu : A.units + 64 < cLine) (I : Inv X pins σ H s) (D : PD X.prog X.w H d qs) (ha : PtAt H q a) (h : ∀ s', Inv X pins σ H s' → Q (.bool (decide (q ∈ qs))) s') : wpAny (model X.prog X.w) A (compareOp .In (.ref a) (.ref d)) Q E s := by
  obtain ⟨xs, e, em, hk, dd⟩ := D.raw I.hok
  refine wpAny_in_heap (room8 hu) (ha.is I.hok) D.sm dd ?_
  rw [atKey_mem em]
  exact h _ (I.tok _)
theorem pd_notIn {Q : Value → Shared → Prop} (hu : A.units + 64 < cLine) (I : Inv X pins σ H s) (D : PD X.prog X.w H d qs) (ha : PtAt H q a) (h : ∀ s', Inv X pins σ H s' → Q (.bool (!decide (q ∈ qs))) s') : wpAny (model X.prog X.w) A (compareOp .NotIn (.ref a) (.ref d)) Q E s := by
  obtain ⟨xs, e, em, hk, dd⟩ := D.raw I.hok
  refine wpAny_notIn_heap (room8 hu) (ha.is I.hok) D.sm dd ?_
  rw [atKey_mem em]
  exact h _ (I.tok _)
def addP (qs : List Pt) (q : Pt) : List Pt := if q ∈ qs then qs else qs ++ [q]
/-- what a store leaves -/
def PDput (P : Program) (w : World) (H : Hp) (d : Addr) (qs : List Pt) (q : Pt) (H' : Hp) : Prop := (∀ b, b ≠ d → H' b = H b) ∧ PD P w H' d (addP qs q)
theorem pd_stored {xs : List (NestedKey × Addr × Value)} {v : Value} (em : xs.map (·.1) = qs.map ky) : (storedH xs (ky q) a v).map (·.1) = (addP qs q).map ky := by
  unfold storedH addP
  rw [atKey_mem em]
  by_cases h : q ∈ qs
  · rw [decide_eq_true h, if_pos rfl, if_pos h, List.map_map, ← em]
    refine List.map_congr_left fun x _ => ?_
    show (putAt (ky q) v x).1 = x.1
    unfold putAt
    split <;> rfl
  · rw [decide_eq_false h, if_neg (by decide), if_neg h, List.map_append, List.map_append, em]
    rfl
theorem pd_keys {xs : List (NestedKey × Addr × Value)} {v : Value} (hk : ∀ x ∈ xs, ∃ q, PtAt H q x.2.1 ∧ x.1 = ky q) (ha : PtAt H q a) : ∀ x ∈ storedH xs (ky q) a v, ∃ q, PtAt H q x.2.1 ∧ x.1 = ky q := by
  unfold storedH
  split
  · intro x hx
    obtain ⟨y, hy, e⟩ := List.mem_map.mp hx
    obtain ⟨q', h1, h2⟩ := hk y hy
    subst e
    unfold putAt
    split
    · exact ⟨q', h1, h2⟩
    · exact ⟨q', h1, h2⟩
  · intro x hx
    rcases List.mem_append.mp hx with hx | hx
    · exact hk x hx
    · rw [List.mem_singleton.mp hx]
      exact ⟨q, ha, rfl⟩
/-- the heap behind a store of the raw form -/
theorem pd_after {h' : Heap} {xs : List (NestedKey × Addr × Value)} {v : Value} {t' : Nat} (I : Inv X pins σ H s) (D : PD X.prog X.w H d qs) (e : H d = some (.ext (pdf X.prog X.w d xs))) (em : xs.map (·.1) = qs.map ky) (hk : ∀ x ∈ xs, ∃ q, PtAt H q x.2.1 ∧ x.1 = ky q) (ha : PtAt H q a) (hz : qs.length < sizeLine)
    (dd : h'.DictOfH (nestedKind X.prog X.w) d (storedH xs (ky q) a v)) (hs : Heap.SameBut d s.heap h') : ∃ H', PDput X.prog X.w H d qs q H' ∧ Inv X pins σ H' { s with heap := h', toks := t' } := by
  obtain ⟨o, es, ep, h1, h2, h3, h4, _, h5⟩ := dd
  have nt : ∀ {b : Addr} {ys : List V}, H b = some (.tup ys) → b ≠ d := fun {b ys} hb z => by
    rw [z, e] at hb
    cases hb
  have pt : ∀ {q : Pt} {b : Addr}, PtAt H q b → PtAt (upd H d (.ext (pdf X.prog X.w d (storedH xs (ky q) a v)))) q b → True := fun _ _ => trivial
  refine ⟨upd H d (.ext (pdf X.prog X.w d (storedH xs (ky q) a v))), ⟨fun b hb => upd_ne hb, ⟨⟨_, upd_same, pd_stored em, fun x hx => ?_⟩, D.sm, ?_⟩⟩, ?_⟩
  · obtain ⟨q', ⟨b, hb1, hb2⟩, h7⟩ := pd_keys hk ha x hx
    exact ⟨q', ⟨b, by rw [upd_ne (nt hb1)]; exact hb1, by unfold PaAt; rw [upd_ne (nt hb2)]; exact hb2⟩, h7⟩
  · unfold addP
    split
    · exact D.ln
    · rw [List.length_append, List.length_singleton]
      exact hz
  · refine d_write I (by rw [e]; exact True.intro) hs ⟨o, h1⟩ ⟨⟨o, es, ep, h1, h2, h3, h4, h5⟩, ⟨o, h1⟩, fun _ _ x k => ?_⟩
    obtain ⟨o', es', ep', e', r⟩ := x
    exact ⟨o', es', ep', k o' e', r⟩
theorem pd_set {u : Value} {Q : Unit → Shared → Prop} (hu : A.units + 64 < cLine) (I : Inv X pins σ H s) (D : PD X.prog X.w H d qs) (ha : PtAt H q a) (hz : qs.length < sizeLine) (h : ∀ H' s', PDput X.prog X.w H d qs q H' → Inv X pins σ H' s' → Q () s') :
    wpAny (model X.prog X.w) A (setItem (.ref d) (.ref a) u) Q E s := by
  obtain ⟨xs, e, em, hk, dd⟩ := D.raw I.hok
  have hl : xs.length = qs.length := by rw [← List.length_map (f := fun x : NestedKey × Addr × Value => x.1), em, List.length_map]
  refine wpAny_setItem_heap (hsz := by rw [hl]; exact D.ln) (room8 hu) (ha.is I.hok) dd fun h' dd' hs => ?_
  obtain ⟨H', p, I'⟩ := pd_after (t' := s.toks + (nestedKind X.prog X.w).draws (ky q)) I D e em hk ha hz dd' hs
  exact h H' _ p I'
end
section
variable {X : Cx} {pos : Pos}
/-- {}, whose keys will be points -/
def tDNewP (P : Program) (w : World) : TE := fun _ H Q => ∀ p H', H p = none → (∀ b, b ≠ p → H' b = H b) → PD P w H' p [] → Q (.ref p) H'
theorem pe_dnewP : PE X (.Dict [] [] pos) (tDNewP X.prog X.w) := ⟨fun pins s σ H Q I h =>
  wpAny_Dict_empty ⟨.ref s.heap.objs.size, upd H s.heap.objs.size (.ext (pdf X.prog X.w s.heap.objs.size [])), I.laid (t' := s.toks) (fun _ _ q => Heap.get?_push_of_some _ q) (Nat.le_refl _) (pd_new s.heap), rfl,
    h _ _ (I.hok.fresh (Nat.le_refl _)) (fun b hb => upd_ne hb) ⟨⟨[], upd_same, rfl, fun x hx => nomatch hx⟩, beq_eq_false_iff_ne.mpr (Ne.symm (Nat.ne_of_lt I.big)), Nat.zero_le _⟩⟩⟩
def rInP (P : Program) (w : World) : R2 := fun x y H Q => ∃ a d q qs, x = .ref a ∧ y = .ref d ∧ PtAt H q a ∧ PD P w H d qs ∧ Q (.bl (decide (q ∈ qs))) H
def rNotInP (P : Program) (w : World) : R2 := fun x y H Q => ∃ a d q qs, x = .ref a ∧ y = .ref d ∧ PtAt H q a ∧ PD P w H d qs ∧ Q (.bl (!decide (q ∈ qs))) H
theorem op_inP (hu : X.A.units + 64 < cLine) : OpR X (compareOp .In) (rInP X.prog X.w) := by
  intro pins s σ H x y v u Q I rx ry h
  obtain ⟨a, d, q, qs, ex, ey, ha, D, z⟩ := h
  subst ex ey
  obtain rfl : v = Value.ref a := rx
  obtain rfl : u = Value.ref d := ry
  exact pd_in hu I D ha fun s' I' => ⟨.bl _, H, I', rfl, z⟩
theorem op_notInP (hu : X.A.units + 64 < cLine) : OpR X (compareOp .NotIn) (rNotInP X.prog X.w) := by
  intro pins s σ H x y v u Q I rx ry h
  obtain ⟨a, d, q, qs, ex, ey, ha, D, z⟩ := h
  subst ex ey
  obtain rfl : v = Value.ref a := rx
  obtain rfl : u = Value.ref d := ry
  exact pd_notIn hu I D ha fun s' I' => ⟨.bl _, H, I', rfl, z⟩
/-- d[q] = v, by values -/
def rSetP (P : Program) (w : World) : TSet := fun o i _ H Q => ∃ d a q qs, o = .ref d ∧ i = .ref a ∧ PtAt H q a ∧ PD P w H d qs ∧ qs.length < sizeLine ∧ ∀ H', PDput P w H d qs q H' → Q H'
theorem set_p (hu : X.A.units + 64 < cLine) : PSet X (rSetP X.prog X.w) := by
  intro pins s σ H o i v ov iv u Q I ro ri rv h
  obtain ⟨d, a, q, qs, eo, ei, ha, D, hz, z⟩ := h
  subst eo ei
  obtain rfl : ov = Value.ref d := ro
  obtain rfl : iv = Value.ref a := ri
  exact pd_set hu I D ha hz fun H' s' p I' => ⟨H', I', z H' p⟩
end
end Jz
end
section
set_option maxHeartbeats 4000000
/-! enumerate of a tuple -/
namespace Jz
open PySem PySem.Spec PyProof.Rows L2

theorem meets_enum1 {v : Value} {o : Obj} {H : Heap → Prop} (B : Begins v o H) :
    Meets (Builtin.«enumerate.__new__» ⟨[.type "enumerate", v], []⟩) (fun _ R s => H s.heap ∧
      R (.ok (.ret (.ref (s.heap.push o).objs.size))) { s with heap := (s.heap.push o).push { cls := .type "enumerate", data := .fields #[.none, .bool false, .ref s.heap.objs.size, rawInt 0, .none, .none] } }) :=
  .of_wp fun prog w A R s h => by
    obtain ⟨hp, g, d, tk, os⟩ := s
    obtain ⟨h1, h⟩ := h
    have hsub := sub_enumerate
    have q1 : ∀ {A' : Around} {E : Value → Shared → Prop} {Q : Value → Shared → Prop}, Q (.ref hp.objs.size) ⟨hp.push o, g, d, tk, os⟩ → wpAny (model prog w) A' (pyIter v) Q E ⟨hp, g, d, tk, os⟩ :=
      fun q => B.iter prog w _ _ ⟨hp, g, d, tk, os⟩ _ h1 q
    wp_walk using q1
    refine wpAny_stack_any fun st => wpAny_pure ?_
    split
    · rename_i c _ _ _ _ _
      cases (c == Value.type "enumerate")
      · wp_walk using q1
        exact ⟨_, rfl, h⟩
      · wp_walk using q1
        exact ⟨_, rfl, h⟩
    · wp_walk using q1
      exact ⟨_, rfl, h⟩
section
variable {prog : Program} {w : World} {A : Around} {E : Value → Shared → Prop} {s : Shared}
theorem call_enum_tuple {l : Addr} {items : Array Value} {Q : Value → Shared → Prop} (hl : s.heap.IsTuple l items)
    (h : ∀ h', IsEnum h' (s.heap.objs.size + 1) s.heap.objs.size 0 .none → h'.IsTupleIter s.heap.objs.size l 0 → h'.objs.size = s.heap.objs.size + 2 →
      (∀ b o, s.heap.get? b = some o → h'.get? b = some o) → Q (.ref (s.heap.objs.size + 1)) { s with heap := h' }) :
    wpAny (model prog w) A (call (.type "enumerate") [.ref l]) Q E s := by
  refine callType_new F.called_enumerate (by decide) (F.typeCall_enumerate_1 _) (F.newCall_enumerate_1 _) (fun obj => F.args_object_init_2 obj _) F.entry_enumerate_new
    (meets_enum1 (begins_tuple l items)) ⟨hl, ?_⟩
  have hz : (s.heap.push { cls := .type "tuple_iterator", data := .fields #[.ref l, .int 0 0] }).objs.size = s.heap.objs.size + 1 := Heap.size_push ..
  show _ ∧ _
  rw [hz]
  have he : IsEnum ((s.heap.push { cls := .type "tuple_iterator", data := .fields #[.ref l, .int 0 0] }).push
      { cls := .type "enumerate", data := .fields #[.none, .bool false, .ref s.heap.objs.size, rawInt 0, .none, .none] }) (s.heap.objs.size + 1) s.heap.objs.size 0 .none := by
    have := Heap.get?_push_size (s.heap.push { cls := .type "tuple_iterator", data := .fields #[.ref l, .int 0 0] })
      (o := { cls := .type "enumerate", data := .fields #[.none, .bool false, .ref s.heap.objs.size, rawInt 0, .none, .none] }) rfl
    rw [hz] at this
    exact this
  refine ⟨⟨_, he, rfl⟩, h _ he ⟨_, Heap.get?_push_of_some _ (Heap.get?_push_size _ rfl), rfl, rfl⟩ (by rw [Heap.size_push, hz]) fun b o x => Heap.get?_push_of_some _ (Heap.get?_push_of_some _ x)⟩
end
/-- the tuple at a, each item in a new pair -/
def ItT (K : PySem.W.Frag) (a : Addr) : It :=
  ⟨fun i H => ∃ (xs : List V) (x : V), SqT K H a xs ∧ xs[i]? = some x, fun i H v H' => ∃ T x, v = .ref T ∧ H T = none ∧ H' = upd H T (.tup [.int (i : Nat), x]) ∧ ∀ xs, SqT K H a xs → xs[i]? = some x, fun i H => ∃ xs : List V, SqT K H a xs ∧ xs.length ≤ i⟩
theorem turn_enumT {P : Program} {w : World} {K : PySem.W.Frag} {elts : List Expr} {kk : Nat} {tpos : Pos} (a e it : Addr) :
    Turn P w K (.Tuple elts kk tpos) (ItT K a) [e, it] e (fun i h => (∃ old, IsEnum h e it ((i : Nat) : Int) old) ∧ h.IsTupleIter it a i ∧ e ≠ it ∧ a ≠ it ∧ a ≠ e) where
  mem := List.mem_cons_self
  obj := fun i h st b hb => by
    obtain ⟨⟨old, he⟩, ⟨o, ho, hc, hd⟩, _⟩ := st
    rcases List.mem_cons.mp hb with z | z
    · rw [z]
      exact ⟨_, he, fun v q => nomatch q⟩
    · rw [List.mem_singleton.mp z]
      exact ⟨o, ho, fun v q => by rw [hd] at q; cases q⟩
  keep := fun i h h' st k => by
    obtain ⟨⟨old, he⟩, hi, hne⟩ := st
    exact ⟨⟨old, k e (by simp) _ he⟩, hi.at fun o q => k it (by simp) o q, hne⟩
  item := by
    intro X hP hw hK hc i pins s σ H E I hf st hg
    subst hP hw hK
    obtain ⟨⟨old, he⟩, hit, hne, hai, hae⟩ := st
    obtain ⟨xs, x, hq, hx⟩ := hg
    obtain ⟨its, rv, p, hz⟩ := I.tuple hq
    obtain ⟨u, hu, ru⟩ := rv.get hx
    have hil : i < its.length := (List.getElem?_eq_some_iff.mp hu).1
    have hel : e < s.heap.objs.size := Heap.lt_size he
    have hitl : it < s.heap.objs.size := by obtain ⟨_, q, _⟩ := hit; exact Heap.lt_size q
    have D := Draws.tuple (prog := X.prog) (w := X.w) (A := X.A.in1) (I.ok.hd hc) it a hai its.toArray
    refine wpAny_pyNext_enum_itemC D he ⟨hit, p⟩ (by simpa using hil) hne (by simp [hne, Ne.symm hae]) fun u' h' tk hP ho hst' hT hsz hk => ?_
    have eu : u' = u := by
      have q : its.toArray[i]? = some u' := hP
      rw [List.getElem?_toArray, hu] at q
      exact (Option.some.inj q).symm
    subst eu
    refine ⟨_, rfl, wpAny_letOwnedTupleGo_enum (s := { s with heap := h', toks := tk + 1 }) ho fun h'' he' sb => ?_⟩
    have hT2 : h''.get? s.heap.objs.size = some { cls := .type "tuple", data := .seq #[.int i tk, u'] } := (sb.2 _ (Nat.ne_of_gt hel)).trans hT
    have new : ObjOk X.prog X.w (upd H s.heap.objs.size (.tup [.int (i : Nat), x])) h'' s.heap.objs.size (.tup [.int (i : Nat), x]) :=
      ⟨by show 2 ≤ sizeLine; decide, [.int i tk, u'], .cons ⟨_, rfl⟩ (.cons ru .nil), ⟨_, hT2, rfl, _, rfl⟩⟩
    have I1 : Inv X pins σ (upd H s.heap.objs.size (.tup [.int (i : Nat), x])) { s with heap := h'', toks := tk + 1 } :=
      I.turnedNew (ch := [e, it]) (fun b ob hb q => (sb.2 b (fun z => hb (by simp [z]))).trans (hk b ob (fun z => hb (by simp [z])) (fun z => hb (by simp [z])) q)) hf (Nat.le_refl _) new
    refine ⟨.ref s.heap.objs.size, _, I1, rfl, ⟨_, x, rfl, I.hok.fresh (Nat.le_refl _), rfl, fun ys hy => by rw [I.tuple_inj hy hq]; exact hx⟩, ⟨⟨u', ?_⟩, hst'.1.at fun o q => (sb.2 it (Ne.symm hne)).trans q, hne, hai, hae⟩, fun b hb => ?_⟩
    · rw [show ((i + 1 : Nat) : Int) = (i : Int) + 1 by omega]
      exact he'
    · have hb' : b < s.heap.objs.size := by
        rcases List.mem_cons.mp hb with z | z
        · rw [z]; exact hel
        · rw [List.mem_singleton.mp z]; exact hitl
      rw [upd_ne (Nat.ne_of_lt hb')]
      exact (hf b hb).1
  done := by
    intro X hP hw hK hc i pins s σ H E I hf st hg
    subst hP hw hK
    obtain ⟨⟨old, he⟩, hit, hne, hai, hae⟩ := st
    obtain ⟨xs, hq, hx⟩ := hg
    obtain ⟨its, rv, p, hz⟩ := I.tuple hq
    have hl := rv.length
    have D0 : its.toArray[i]? = none := by simp; omega
    have hT : s.TypeIs (.ref e) "enumerate" := ⟨_, he, rfl⟩
    obtain ⟨f0, f1, f2, f3, f4, f5⟩ := hf it (by simp)
    unfold pyNext
    refine wpAny_bind (wpAny_attempt (wpAny_callSpecial?_slot (name := Str.ofString "__next__") hT F.slot_enumerate_next
      (wpAny_call_entry F.slot_enumerate_next hT F.entry_enumerate_next ?_ (F.args_enumerate_next_1 _))))
    show wpAny _ _ (field (.ref e) 2 >>= _) _ _ _
    refine wpAny_bind (wpAny_field he rfl (x := .ref it) rfl ?_)
    refine wpAny_bind (RZ.nextOf_tuple_end (I.ok.hd hc) hit p D0 fun h' x he' hx' => ?_)
    obtain ⟨o, ho, hco⟩ := hx'
    refine wpAny_bind (wpAny_isInstance (T := "StopIteration") (b := true) ⟨o, ho, hco⟩ isSubtype_stop ?_)
    exact wpAny_pure ⟨rfl, I.turned (t' := s.toks) (fun b o hb q => he' b o hb q) f0 f1 f3 f4 f5⟩
  self := fun A i s Q E st h => let ⟨⟨_, he⟩, _⟩ := st; wpAny_pyIter_enum he h
def iEnT (K : PySem.W.Frag) (ta : TA) : TI := fun σ H R => ta σ H fun vs H1 => ∃ a xs, vs = [.ref a] ∧ SqT K H1 a xs ∧ R (ItT K a) H1
theorem pi_enumT {X : Cx} {e : Expr} {ta : TA} {p pos tpos : Pos} {elts : List Expr} {kk : Nat} (hg : Gl X "enumerate") (hm : X.mg "enumerate" = none) (ha : PA X [e] ta) (hs : starEach [e] X.env = [(false, eval e X.env)] := by rfl) :
    PI X (.Tuple elts kk tpos) (.Call (.Name "enumerate" p) [e] [] pos) (iEnT X.K ta) := by
  refine ⟨fun pins s σ H R I h => ?_⟩
  refine Call_ (ld_blt I hg hm boot_enumerate (PyProof.Rows.callWith_type1 (thn (ha.run pos pins s σ H _ I h) fun us s1 ⟨vs, H1, I1, r1, q1⟩ => ?_) hs rfl))
  obtain ⟨a, xs, ex, hq, q⟩ := q1
  subst ex
  cases r1 with
  | cons r rr =>
    cases rr
    cases r
    obtain ⟨its, rv, p', hz⟩ := I1.tuple hq
    refine call_enum_tuple p' fun h' he hit hsz hk => wpAny_pyIter_enum he ?_
    have I2 : Inv X pins σ H1 { s1 with heap := h' } := I1.kept (t' := s1.toks) hk
    have hal : a < s1.heap.objs.size := p'.lt
    refine ⟨s1.heap.objs.size + 1, [s1.heap.objs.size + 1, s1.heap.objs.size], _, _, H1, rfl, I2, turn_enumT a (s1.heap.objs.size + 1) s1.heap.objs.size, ⟨⟨.none, he⟩, hit, Nat.succ_ne_self _, Nat.ne_of_lt hal, Nat.ne_of_lt (Nat.lt_succ_of_lt hal)⟩, fun b hb => ?_, q⟩
    have hle : s1.heap.objs.size ≤ b := by
      rcases List.mem_cons.mp hb with z | z
      · rw [z]; exact Nat.le_succ _
      · rw [List.mem_singleton.mp z]; exact Nat.le_refl _
    exact I1.fpOk hle (I1.hok.fresh hle)
/-- over a tuple that stays: the reading of such a loop -/
theorem for_enT {K : PySem.W.Frag} {a : Addr} {xs : List V} {g : TG} {tb : TS} {D : Ends} {σ : L2.St} {H : Hp} (Pv : Nat → L2.St → Hp → Prop) (h0 : Pv 0 σ H) (hl : ∀ i σ H, i ≤ xs.length → Pv i σ H → SqT K H a xs)
    (hs : ∀ i x T σ H, xs[i]? = some x → H T = none → Pv i σ H → g (.ref T) σ (upd H T (.tup [.int (i : Nat), x])) fun σ2 H2 => tb { D with nx := Pv (i + 1), ct := Pv (i + 1), bk := D.nx } σ2 H2) (hd : ∀ σ H, Pv xs.length σ H → D.nx σ H) :
    ∃ W : Nat → Nat → L2.St → Hp → Prop, (∃ m, W 0 m σ H) ∧ ∀ i m σ H, W i m σ H →
      ((ItT K a).stop i H ∧ D.nx σ H) ∨ ((ItT K a).go i H ∧ ∃ N : L2.St → Hp → Prop, (∀ σ' H', N σ' H' → ∃ m', m' < m ∧ W (i + 1) m' σ' H') ∧ ∀ x H', (ItT K a).yld i H x H' → g x σ H' fun σ2 H2 => tb { D with nx := N, ct := N, bk := D.nx } σ2 H2) := by
  refine ⟨fun i m σ H => m = xs.length - i ∧ i ≤ xs.length ∧ Pv i σ H, ⟨xs.length, by simp, Nat.zero_le _, h0⟩, ?_⟩
  rintro i m σ H ⟨rfl, hi, p⟩
  have q := hl i σ H hi p
  by_cases hlt : i < xs.length
  · refine .inr ⟨⟨xs, xs[i], q, by simp [hlt]⟩, Pv (i + 1), fun σ' H' p' => ⟨xs.length - (i + 1), by omega, rfl, hlt, p'⟩, fun x H' y => ?_⟩
    obtain ⟨T, z, e1, e2, e3, y⟩ := y
    subst e1 e3
    exact hs i z T σ H (y xs q) e2 p
  · have e : i = xs.length := by omega
    subst e
    exact .inl ⟨⟨xs, q, Nat.le_refl _⟩, hd σ H p⟩
end Jz
end
section
set_option maxHeartbeats 4000000
/-! zip of two tuples of one length, strict -/
namespace Jz
open PySem PySem.Spec PyProof.Rows L2

abbrev IsZS (h : Heap) (z TI TO : Addr) (f0 : Value) : Prop :=
  h.get? z = some { cls := .type "zip", dict := none, data := .fields #[f0, .bool false, .bool true, .ref TI, .ref TO], slots := #[] }
section
variable {prog : Program} {w : World} {A : Around} {E : Value → Shared → Prop} {s : Shared}
theorem nextOr_item {it l : Addr} {i : Nat} {items : Array Value} {x : Value} {Q : Option Value → Shared → Prop} (hit : s.heap.IsTupleIter it l i) (hl : s.heap.IsTuple l items) (hx : items[i]? = some x)
    (hQ : ∀ h', h'.IsTupleIter it l (i + 1) → Heap.SameBut it s.heap h' → Q (some x) { s with heap := h' }) : wpAny (model prog w) A (Builtin.SmallTypes.nextOrEnd (.ref it)) Q E s := by
  unfold Builtin.SmallTypes.nextOrEnd
  exact wpAny_bind (wpAny_attempt (RZ.nextOf_tuple_item hit hl hx fun h' a b => wpAny_pure (hQ h' a b)))
theorem nextOr_end {it l : Addr} {i : Nat} {items : Array Value} {Q : Option Value → Shared → Prop} (hh : A.handled = none) (hit : s.heap.IsTupleIter it l i) (hl : s.heap.IsTuple l items) (hx : items[i]? = none)
    (hQ : ∀ h', Heap.ExtBut it s.heap h' → Q none { s with heap := h' }) : wpAny (model prog w) A (Builtin.SmallTypes.nextOrEnd (.ref it)) Q E s := by
  unfold Builtin.SmallTypes.nextOrEnd
  refine wpAny_bind (wpAny_attempt (RZ.nextOf_tuple_end hh hit hl hx fun h' e a b => ?_))
  obtain ⟨o, ho, hc⟩ := b
  exact wpAny_bind (wpAny_isInstance (T := "StopIteration") (b := true) ⟨o, ho, hc⟩ isSubtype_stop (wpAny_pure (hQ h' a)))
theorem zs_item {z TI TO i1 i2 l1 l2 : Addr} {k1 k2 : Nat} {xs ys : Array Value} {x y a b : Value} {Q : Value → Shared → Prop} (D : ZipApart z TI TO i1 i2 l1 l2)
    (hz : IsZS s.heap z TI TO .none) (hTI : IsPair s.heap TI (.ref i1) (.ref i2)) (hTO : IsPair s.heap TO a b)
    (h1 : s.heap.IsTupleIter i1 l1 k1) (h2 : s.heap.IsTupleIter i2 l2 k2) (hl1 : s.heap.IsTuple l1 xs) (hl2 : s.heap.IsTuple l2 ys) (hx : xs[k1]? = some x) (hy : ys[k2]? = some y)
    (hQ : ∀ h', IsZS h' z TI TO (rawInt s.heap.objs.size) → IsPair h' TO x y → h'.IsTupleIter i1 l1 (k1 + 1) → h'.IsTupleIter i2 l2 (k2 + 1) → IsPair h' s.heap.objs.size x y → h'.objs.size = s.heap.objs.size + 1 →
      (∀ c o, c ≠ z → c ≠ TO → c ≠ i1 → c ≠ i2 → s.heap.get? c = some o → h'.get? c = some o) → Q (.ref s.heap.objs.size) { s with heap := h' }) :
    wpAny (model prog w) A (Builtin.«zip.__next__» ⟨[.ref z], []⟩) (fun fin s' => ∃ v, fin = .done (.ret v) ∧ Q v s') E s := by
  show wpAny _ _ (field (.ref z) 2 >>= _) _ _ _
  refine wpAny_bind (wpAny_field hz rfl (x := .bool true) rfl ?_)
  show wpAny _ _ (field (.ref z) 3 >>= _) _ _ _
  refine wpAny_bind (wpAny_field hz rfl (x := .ref TI) rfl ?_)
  refine wpAny_bind (wpAny_seqItems hTI rfl ?_)
  show wpAny _ _ (Builtin.SmallTypes.ownedTupleIsFree (.ref z) >>= _) _ _ _
  refine wpAny_bind ?_
  unfold Builtin.SmallTypes.ownedTupleIsFree
  refine wpAny_bind (wpAny_field hz rfl (x := .none) rfl (wpAny_pure ?_))
  simp only [if_true]
  refine wpAny_bind (wpAny_rule ?_)
  refine wpAny_bind (wpAny_field hz rfl (x := .ref TO) rfl ?_)
  refine wpAny_bind (wpAny_setField_rec hz (by simp) fun h₁ hz₁ hs₁ => ?_)
  replace hz₁ : IsZS h₁ z TI TO .ellipsis := hz₁
  refine wpAny_bind ?_
  simp only [List.zipIdx_cons, List.zipIdx_nil, List.forIn_cons, List.forIn_nil]
  refine wpAny_bind (wpAny_bind (wpAny_onRaise ?_))
  show wpAny _ _ (Builtin.SmallTypes.nextOrEnd (.ref i1)) _ _ _
  refine nextOr_item (h1.extBut hs₁.extBut D.i1z) (hl1.extBut hs₁.extBut D.l1z) hx fun h₂ h1₂ hs₂ => ?_
  have hTO₂ : IsPair h₂ TO a b := hs₂.extBut _ _ D.TOi1 (hs₁.extBut _ _ D.TOz hTO)
  refine wpAny_bind (wpAny_seqItems hTO₂ rfl ?_)
  refine wpAny_bind (wpAny_updateSeq_pair hTO₂ fun h₃ hTO₃ hs₃ => ?_)
  replace hTO₃ : IsPair h₃ TO x b := hTO₃
  refine wpAny_bind (wpAny_letGo (wpAny_pure ?_))
  refine wpAny_bind (wpAny_bind (wpAny_onRaise ?_))
  show wpAny _ _ (Builtin.SmallTypes.nextOrEnd (.ref i2)) _ _ _
  refine nextOr_item (((h2.extBut hs₁.extBut D.i2z).extBut hs₂.extBut D.i12.symm).extBut hs₃.extBut D.TOi2.symm)
    (((hl2.extBut hs₁.extBut D.l2z).extBut hs₂.extBut D.l2i1).extBut hs₃.extBut D.l2TO) hy fun h₄ h2₄ hs₄ => ?_
  have hTO₄ : IsPair h₄ TO x b := hs₄.extBut _ _ D.TOi2 hTO₃
  refine wpAny_bind (wpAny_seqItems hTO₄ rfl ?_)
  refine wpAny_bind (wpAny_updateSeq_pair hTO₄ fun h₅ hTO₅ hs₅ => ?_)
  replace hTO₅ : IsPair h₅ TO x y := hTO₅
  refine wpAny_bind (wpAny_letGo (wpAny_pure (wpAny_pure ?_)))
  refine wpAny_bind (wpAny_seqItems hTO₅ rfl ?_)
  refine wpAny_bind (wpAny_newTuple ?_)
  have hsz : h₅.objs.size = s.heap.objs.size := by rw [hs₅.1, hs₄.1, hs₃.1, hs₂.1, hs₁.1]
  have hz₅ : IsZS h₅ z TI TO .ellipsis := hs₅.extBut _ _ D.TOz.symm (hs₄.extBut _ _ D.i2z.symm (hs₃.extBut _ _ D.TOz.symm (hs₂.extBut _ _ D.i1z.symm hz₁)))
  have hk₅ : ∀ c o, c ≠ z → c ≠ TO → c ≠ i1 → c ≠ i2 → s.heap.get? c = some o → h₅.get? c = some o := fun c o c1 c2 c3 c4 e =>
    hs₅.extBut _ _ c2 (hs₄.extBut _ _ c4 (hs₃.extBut _ _ c2 (hs₂.extBut _ _ c3 (hs₁.extBut _ _ c1 e))))
  have h1₅ : h₅.IsTupleIter i1 l1 (k1 + 1) := ((h1₂.extBut hs₃.extBut D.TOi1.symm).extBut hs₄.extBut D.i12).extBut hs₅.extBut D.TOi1.symm
  have h2₅ : h₅.IsTupleIter i2 l2 (k2 + 1) := h2₄.extBut hs₅.extBut D.TOi2.symm
  have hzlt : z < h₅.objs.size := Heap.lt_size hz₅
  show wpAny _ _ (Builtin.SmallTypes.ownedTupleHandOut (.ref z) (.ref h₅.objs.size) >>= _) _ _ _
  refine wpAny_bind ?_
  unfold Builtin.SmallTypes.ownedTupleHandOut
  have hz₆ : IsZS (h₅.push { cls := .type "tuple", data := .seq #[x, y] }) z TI TO .ellipsis := Heap.get?_push_of_some _ hz₅
  refine wpAny_bind (wpAny_setField_rec hz₆ (by simp) fun h₇ hz₇ hs₇ => ?_)
  replace hz₇ : IsZS h₇ z TI TO (rawInt h₅.objs.size) := hz₇
  refine wpAny_setField_rec hz₇ (by simp) fun h₈ hz₈ hs₈ => ?_
  replace hz₈ : IsZS h₈ z TI TO (rawInt h₅.objs.size) := hz₈
  have up : ∀ c o, c ≠ z → h₅.get? c = some o → h₈.get? c = some o := fun c o c1 e => hs₈.extBut _ _ c1 (hs₇.extBut _ _ c1 (Heap.get?_push_of_some _ e))
  have hT₈ : IsPair h₈ h₅.objs.size x y := hs₈.extBut _ _ (Nat.ne_of_gt hzlt) (hs₇.extBut _ _ (Nat.ne_of_gt hzlt) (Heap.get?_push_size _ rfl))
  have hz8 : h₈.objs.size = h₅.objs.size + 1 := by rw [hs₈.1, hs₇.1, Heap.size_push]
  rw [hsz] at hz₈ hT₈ hz8
  refine wpAny_pure ⟨_, rfl, ?_⟩
  show Q (.ref h₅.objs.size) _
  rw [hsz]
  exact hQ h₈ hz₈ (up _ _ D.TOz hTO₅) (h1₅.at fun o e => up _ o D.i1z e) (h2₅.at fun o e => up _ o D.i2z e) hT₈ hz8 fun c o c1 c2 c3 c4 e => up c o c1 (hk₅ c o c1 c2 c3 c4 e)
theorem zs_end {z TI TO i1 i2 l1 l2 : Addr} {k1 k2 : Nat} {xs ys : Array Value} {a b : Value} {Q : PySem.Fin → Shared → Prop} (hh : A.handled = none) (D : ZipApart z TI TO i1 i2 l1 l2)
    (hz : IsZS s.heap z TI TO .none) (hTI : IsPair s.heap TI (.ref i1) (.ref i2)) (hTO : IsPair s.heap TO a b)
    (h1 : s.heap.IsTupleIter i1 l1 k1) (h2 : s.heap.IsTupleIter i2 l2 k2) (hl1 : s.heap.IsTuple l1 xs) (hl2 : s.heap.IsTuple l2 ys) (hx : xs[k1]? = none) (hy : ys[k2]? = none)
    (hE : ∀ h' e, (∀ c o, c ≠ z → c ≠ TO → c ≠ i1 → c ≠ i2 → s.heap.get? c = some o → h'.get? c = some o) → (∃ o, h'.get? e = some o ∧ o.cls = .type "StopIteration") → E (.ref e) { s with heap := h' }) :
    wpAny (model prog w) A (Builtin.«zip.__next__» ⟨[.ref z], []⟩) Q E s := by
  show wpAny _ _ (field (.ref z) 2 >>= _) _ _ _
  refine wpAny_bind (wpAny_field hz rfl (x := .bool true) rfl ?_)
  show wpAny _ _ (field (.ref z) 3 >>= _) _ _ _
  refine wpAny_bind (wpAny_field hz rfl (x := .ref TI) rfl ?_)
  refine wpAny_bind (wpAny_seqItems hTI rfl ?_)
  show wpAny _ _ (Builtin.SmallTypes.ownedTupleIsFree (.ref z) >>= _) _ _ _
  refine wpAny_bind ?_
  unfold Builtin.SmallTypes.ownedTupleIsFree
  refine wpAny_bind (wpAny_field hz rfl (x := .none) rfl (wpAny_pure ?_))
  simp only [if_true]
  refine wpAny_bind (wpAny_rule ?_)
  refine wpAny_bind (wpAny_field hz rfl (x := .ref TO) rfl ?_)
  refine wpAny_bind (wpAny_setField_rec hz (by simp) fun h₁ hz₁ hs₁ => ?_)
  replace hz₁ : IsZS h₁ z TI TO .ellipsis := hz₁
  refine wpAny_bind ?_
  simp only [List.zipIdx_cons, List.zipIdx_nil, List.forIn_cons, List.forIn_nil]
  refine wpAny_bind (wpAny_bind (wpAny_onRaise ?_))
  show wpAny _ _ (Builtin.SmallTypes.nextOrEnd (.ref i1)) _ _ _
  refine nextOr_end hh (h1.extBut hs₁.extBut D.i1z) (hl1.extBut hs₁.extBut D.l1z) hx fun h₂ hs₂ => ?_
  have hz₂ : IsZS h₂ z TI TO .ellipsis := hs₂ _ _ D.i1z.symm hz₁
  refine wpAny_bind (wpAny_setField_rec hz₂ (by simp) fun h₃ hz₃ hs₃ => ?_)
  refine wpAny_bind (wpAny_bind ?_)
  have h2₃ : h₃.IsTupleIter i2 l2 k2 := ((h2.extBut hs₁.extBut D.i2z).extBut hs₂ D.i12.symm).extBut hs₃.extBut D.i2z
  have hl2₃ : h₃.IsTuple l2 ys := ((hl2.extBut hs₁.extBut D.l2z).extBut hs₂ D.l2i1).extBut hs₃.extBut D.l2z
  show wpAny _ _ (_ >>= _) _ _ _
  refine wpAny_bind ?_
  show wpAny _ _ (Builtin.SmallTypes.nextOrEnd (.ref i2) >>= _) _ _ _
  refine wpAny_bind (nextOr_end hh h2₃ hl2₃ hy fun h₄ hs₄ => ?_)
  refine wpAny_pure ?_
  show wpAny _ _ (pure _) _ _ _
  refine wpAny_pure ?_
  refine wpAny_bind (wpAny_rule ?_)
  show wpAny _ _ (newExc (.type "StopIteration") [] >>= _) _ _ _
  refine wpAny_bind ?_
  simp only [newExc, newTuple]
  refine wpAny_bind (wpAny_newObj_type ?_ (by size_fits))
  refine wpAny_bind (m := firstArgMember _ _) (wpAny_of_eq (a := Value.none) (by first | rfl | (simp only [firstArgMember]; rfl)) ?_)
  refine wpAny_newObj_type ?_ (by size_fits)
  simp only [raiseNew]
  refine wpAny_bind (wpAny_handled ?_)
  rw [hh]
  refine wpAny_bind (wpAny_pure (wpAny_throw ?_))
  refine hE _ _ (fun c o c1 _ c3 c4 x => ?_) ⟨_, Heap.get?_push_size _ rfl, rfl⟩
  exact Heap.get?_push_of_some _ (Heap.get?_push_of_some _ (hs₄ _ _ c4 (hs₃.extBut _ _ c1 (hs₂ _ _ c3 (hs₁.extBut _ _ c1 x)))))
end

section
variable {prog : Program} {w : World} {A : Around} {E : Value → Shared → Prop} {s : Shared}
theorem zs_next {z TI TO i1 i2 l1 l2 : Addr} {k1 k2 : Nat} {xs ys : Array Value} {x y a b : Value} {Q : Option Value → Shared → Prop} (D : ZipApart z TI TO i1 i2 l1 l2)
    (hz : IsZS s.heap z TI TO .none) (hTI : IsPair s.heap TI (.ref i1) (.ref i2)) (hTO : IsPair s.heap TO a b)
    (h1 : s.heap.IsTupleIter i1 l1 k1) (h2 : s.heap.IsTupleIter i2 l2 k2) (hl1 : s.heap.IsTuple l1 xs) (hl2 : s.heap.IsTuple l2 ys) (hx : xs[k1]? = some x) (hy : ys[k2]? = some y)
    (hQ : ∀ h', IsZS h' z TI TO (rawInt s.heap.objs.size) → IsPair h' TO x y → h'.IsTupleIter i1 l1 (k1 + 1) → h'.IsTupleIter i2 l2 (k2 + 1) → IsPair h' s.heap.objs.size x y → h'.objs.size = s.heap.objs.size + 1 →
      (∀ c o, c ≠ z → c ≠ TO → c ≠ i1 → c ≠ i2 → s.heap.get? c = some o → h'.get? c = some o) → Q (some (.ref s.heap.objs.size)) { s with heap := h' }) :
    wpAny (model prog w) A (pyNext (.ref z)) Q E s := by
  have hT : s.TypeIs (.ref z) "zip" := ⟨_, hz, rfl⟩
  unfold pyNext
  exact wpAny_bind (wpAny_attempt (wpAny_callSpecial?_slot (name := Str.ofString "__next__") hT F.slot_zip_next
    (wpAny_call_entry F.slot_zip_next hT F.entry_zip_next
      (zs_item D hz hTI hTO h1 h2 hl1 hl2 hx hy fun h' a1 a2 a3 a4 a5 a6 a7 => wpAny_pure (hQ h' a1 a2 a3 a4 a5 a6 a7)) (F.args_zip_next_1 _))))
theorem zs_stop {z TI TO i1 i2 l1 l2 : Addr} {k1 k2 : Nat} {xs ys : Array Value} {a b : Value} {Q : Option Value → Shared → Prop} (hh : A.handled = none) (D : ZipApart z TI TO i1 i2 l1 l2)
    (hz : IsZS s.heap z TI TO .none) (hTI : IsPair s.heap TI (.ref i1) (.ref i2)) (hTO : IsPair s.heap TO a b)
    (h1 : s.heap.IsTupleIter i1 l1 k1) (h2 : s.heap.IsTupleIter i2 l2 k2) (hl1 : s.heap.IsTuple l1 xs) (hl2 : s.heap.IsTuple l2 ys) (hx : xs[k1]? = none) (hy : ys[k2]? = none)
    (hQ : ∀ h', (∀ c o, c ≠ z → c ≠ TO → c ≠ i1 → c ≠ i2 → s.heap.get? c = some o → h'.get? c = some o) → Q none { s with heap := h' }) : wpAny (model prog w) A (pyNext (.ref z)) Q E s := by
  have hT : s.TypeIs (.ref z) "zip" := ⟨_, hz, rfl⟩
  unfold pyNext
  refine wpAny_bind (wpAny_attempt (wpAny_callSpecial?_slot (name := Str.ofString "__next__") hT F.slot_zip_next
    (wpAny_call_entry F.slot_zip_next hT F.entry_zip_next (zs_end hh D hz hTI hTO h1 h2 hl1 hl2 hx hy fun h' e hk he => ?_) (F.args_zip_next_1 _))))
  obtain ⟨o, ho, hc⟩ := he
  refine wpAny_bind (wpAny_isInstance (T := "StopIteration") (b := true) ⟨o, ho, hc⟩ isSubtype_stop ?_)
  exact wpAny_pure (hQ _ hk)
theorem zs_go {elts : List Expr} {x1} {pos : Pos} {z TI TO T : Addr} {Q : Unit → Shared → Prop} (hz : IsZS s.heap z TI TO (rawInt T))
    (hQ : ∀ h', IsZS h' z TI TO .none → Heap.SameBut z s.heap h' → Q () { s with heap := h' }) :
    wpAny (model prog w) A (letOwnedTupleGo (.Tuple elts x1 pos) (.ref z) (.ref T)) Q E s := by
  unfold letOwnedTupleGo
  refine wpAny_bind (wpAny_load hz ?_)
  show wpAny _ _ (if (["enumerate", "zip", "dict_itemiterator", "dict_reverseitemiterator", "odict_iterator", "itertools.zip_longest", "itertools.pairwise"].contains "zip" &&
      (#[rawInt T, .bool false, .bool true, .ref TI, .ref TO] : Array Value)[0]? == some (rawInt T)) = true then _ else _) Q E s
  rw [if_pos (by simp)]
  refine wpAny_bind (wpAny_rule ?_)
  show wpAny _ _ (setField (.ref z) 0 .none) Q E s
  exact wpAny_setField_rec hz (by simp) fun h' hz' hs' => hQ h' hz' hs'
theorem zs_self {z TI TO : Addr} {f0 : Value} {Q : Value → Shared → Prop} (hz : IsZS s.heap z TI TO f0) (h : Q (.ref z) s) : wpAny (model prog w) A (pyIter (.ref z)) Q E s := by
  have hT : s.TypeIs (.ref z) "zip" := ⟨_, hz, rfl⟩
  refine wpAny_pyIter_slot hT F.slot_zip_iter (wpAny_call_entry F.slot_zip_iter hT F.entry_zip_iter ?_ (F.args_zip_iter_1 _))
  show wpAny _ _ (ret (.ref z)) _ _ s
  exact wpAny_pure ⟨_, rfl, "zip", _, hT, F.slot_zip_next.lookup, h⟩
end
/-! ### zip(v1, v2, strict=True) begins -/
theorem typeCall_zs (a b c : Value) : checkTypeCall "zip" ⟨[a, b], [(Str.ofString "strict", c)]⟩ = pure () := by kernel_rfl
theorem newCall_zs (a b c : Value) : checkBuiltinCall "zip.__new__" ⟨[.type "zip", a, b], [(Str.ofString "strict", c)]⟩ = pure () := by kernel_rfl
theorem args_zs (obj a b c : Value) : argsOk "object.__init__" ⟨[obj, a, b], [(Str.ofString "strict", c)]⟩ := by unfold argsOk; kernel_rfl
abbrev zsZ (h : Heap) (l1 l2 : Addr) : Heap := (RZ.zipTH4 h l1 l2).push { cls := .type "zip", data := .fields #[.none, .bool false, .bool true, .ref (RZ.zipTH2 h l1 l2).objs.size, .ref (RZ.zipTH3 h l1 l2).objs.size] }
theorem meets_zs (l1 l2 : Addr) (xs ys : Array Value) :
    Meets (Builtin.«zip.__new__» ⟨[.type "zip", .ref l1, .ref l2], [(Str.ofString "strict", .bool true)]⟩) (fun _ R s => (s.heap.IsTuple l1 xs ∧ s.heap.IsTuple l2 ys) ∧
      R (.ok (.ret (.ref (RZ.zipTH4 s.heap l1 l2).objs.size))) { s with heap := zsZ s.heap l1 l2 }) :=
  .of_wp fun prog w A R s h => by
    obtain ⟨hp, g, d, tk, os⟩ := s
    obtain ⟨⟨hl1, hl2⟩, h⟩ := h
    have hsub := sub_zip
    have hL1 : Heap.IsTuple (Shared.heap ⟨hp, g, d, tk, os⟩) l1 xs := hl1
    have hL2 : Heap.IsTuple (Shared.heap ⟨hp.push { cls := .type "tuple_iterator", data := .fields #[.ref l1, .int 0 0] }, g, d, tk, os⟩) l2 ys := Heap.IsTuple.push hl2 _
    have e1 : (Str.ofString "strict" != ("strict" : Str)) = false := by decide +kernel
    have q0 : ∀ {A' : Around} {E : Value → Shared → Prop} {Q : Bool → Shared → Prop} {s : Shared}, Q true s → wpAny (model prog w) A' (truthy (.bool true)) Q E s := fun q => wpAny_truthy_bool q
    wp_walk using wpAny_pyIter_tuple hL1, wpAny_pyIter_tuple hL2, q0
    exact ⟨_, rfl, h⟩
end Jz
end
section
set_option maxHeartbeats 4000000
namespace Jz
open PySem PySem.Spec PyProof.Rows L2
section
variable {prog : Program} {w : World} {A : Around} {E : Value → Shared → Prop} {s : Shared}
theorem call_zs {l1 l2 : Addr} {xs ys : Array Value} {Q : Value → Shared → Prop} (hl1 : s.heap.IsTuple l1 xs) (hl2 : s.heap.IsTuple l2 ys)
    (h : ∀ h', IsZS h' (s.heap.objs.size + 4) (s.heap.objs.size + 2) (s.heap.objs.size + 3) .none → IsPair h' (s.heap.objs.size + 2) (.ref s.heap.objs.size) (.ref (s.heap.objs.size + 1)) →
      IsPair h' (s.heap.objs.size + 3) .none .none → h'.IsTupleIter s.heap.objs.size l1 0 → h'.IsTupleIter (s.heap.objs.size + 1) l2 0 → h'.objs.size = s.heap.objs.size + 5 →
      (∀ c o, s.heap.get? c = some o → h'.get? c = some o) → Q (.ref (s.heap.objs.size + 4)) { s with heap := h' }) :
    wpAny (model prog w) A (call (.type "zip") [.ref l1, .ref l2] [(Str.ofString "strict", .bool true)]) Q E s := by
  refine callType_newKw F.called_zip (by decide) (typeCall_zs _ _ _) (newCall_zs _ _ _) (fun obj => args_zs obj _ _ _) F.entry_zip_new
    (meets_zs l1 l2 xs ys) ⟨⟨hl1, hl2⟩, ?_⟩
  have z1 : (RZ.zipTH1 s.heap l1).objs.size = s.heap.objs.size + 1 := Heap.size_push ..
  have z2 : (RZ.zipTH2 s.heap l1 l2).objs.size = s.heap.objs.size + 2 := by rw [Heap.size_push, z1]
  have z3 : (RZ.zipTH3 s.heap l1 l2).objs.size = s.heap.objs.size + 3 := by rw [Heap.size_push, z2]
  have z4 : (RZ.zipTH4 s.heap l1 l2).objs.size = s.heap.objs.size + 4 := by rw [Heap.size_push, z3]
  have z5 : (zsZ s.heap l1 l2).objs.size = s.heap.objs.size + 5 := by rw [Heap.size_push, z4]
  have g5 : (zsZ s.heap l1 l2).get? (RZ.zipTH4 s.heap l1 l2).objs.size = some _ := Heap.get?_push_size _ rfl
  have g4 : (zsZ s.heap l1 l2).get? (RZ.zipTH3 s.heap l1 l2).objs.size = some _ := Heap.get?_push_of_some _ (Heap.get?_push_size _ rfl)
  have g3 : (zsZ s.heap l1 l2).get? (RZ.zipTH2 s.heap l1 l2).objs.size = some _ := Heap.get?_push_of_some _ (Heap.get?_push_of_some _ (Heap.get?_push_size _ rfl))
  have g2 : (zsZ s.heap l1 l2).get? (RZ.zipTH1 s.heap l1).objs.size = some _ := Heap.get?_push_of_some _ (Heap.get?_push_of_some _ (Heap.get?_push_of_some _ (Heap.get?_push_size _ rfl)))
  have g1 : (zsZ s.heap l1 l2).get? s.heap.objs.size = some _ := Heap.get?_push_of_some _ (Heap.get?_push_of_some _ (Heap.get?_push_of_some _ (Heap.get?_push_of_some _ (Heap.get?_push_size _ rfl))))
  show _ ∧ _
  rw [z2, z3, z4] at g5
  rw [z1, z2] at g3
  rw [z3] at g4
  rw [z1] at g2
  rw [z4]
  exact ⟨⟨_, g5, rfl⟩, h _ g5 g3 g4 ⟨_, g1, rfl, rfl⟩ ⟨_, g2, rfl, rfl⟩ z5 fun c o x =>
    Heap.get?_push_of_some _ (Heap.get?_push_of_some _ (Heap.get?_push_of_some _ (Heap.get?_push_of_some _ (Heap.get?_push_of_some _ x))))⟩
end
section
variable {M : Model} {A : Around} {E : Value → Shared → Prop} {s : Shared} {env : Env}
/-- a built-in type called with keywords -/
theorem callWith_typeKw {pos : Pos} {T : String} {e : Expr} {rest : List Expr} {kws : List Keyword} {Q : Value → Shared → Prop}
    (h : wpAny M A (spliced (backTo pos (starEach (e :: rest) env))) (fun vs s₁ => wpAny M A (evalAll ((backToKw pos (keywordEach kws env)).map (·.2)))
      (fun kvs s₂ => wpAny M A (call (.type T) vs (((backToKw pos (keywordEach kws env)).filterMap (·.1)).zip kvs)) Q E s₂) E s₁) E s)
    (he : backTo pos (starEach (e :: rest) env) = (false, eval e env) :: backTo pos (starEach rest env) := by rfl)
    (hplain : (backTo pos (starEach (e :: rest) env)).any (·.1) = false := by rfl)
    (hall : (backToKw pos (keywordEach kws env)).all (·.1.isSome) = true := by rfl)
    (hkw : (backToKw pos (keywordEach kws env)).any (·.1.isNone) = false := by rfl) :
    wpAny M A (callWith pos (.type T) [] (backTo pos (starEach (e :: rest) env)) (backToKw pos (keywordEach kws env))) Q E s := by
  unfold callWith
  rw [he] at h ⊢
  refine wpAny_bind (wpAny_holding (wpAny_mono (evalArgs_kwB (Q := fun a s₁ => wpAny M A (call (.type T) a.pos a.kw) Q E s₁) hall h) (fun a s₁ h₁ => wpAny_bind (wpAny_standAt ?_)) fun _ _ x => x))
  rw [he] at hplain
  simp only [hplain, hkw, Bool.or_false]
  refine wpAny_bind (wpAny_pure ?_)
  exact wpAny_bind (wpAny_mono h₁ (fun r s₂ hr => wpAny_bind (wpAny_holding (wpAny_point (wpAny_pure hr)))) fun _ _ x => x)
end
/-- the tuples at a and b, of one length -/
def ItZ (K : PySem.W.Frag) (a b : Addr) : It :=
  ⟨fun i H => ∃ (xs ys : List V) (x y : V), SqT K H a xs ∧ SqT K H b ys ∧ xs[i]? = some x ∧ ys[i]? = some y,
    fun i H v H' => ∃ T x y, v = .ref T ∧ H T = none ∧ H' = upd H T (.tup [x, y]) ∧ (∀ xs, SqT K H a xs → xs[i]? = some x) ∧ ∀ ys, SqT K H b ys → ys[i]? = some y,
    fun i H => ∃ xs ys : List V, SqT K H a xs ∧ SqT K H b ys ∧ xs.length ≤ i ∧ ys.length ≤ i⟩
theorem five {c z TI TO i1 i2 : Addr} (h : c ∈ [z, TI, TO, i1, i2]) : c = z ∨ c = TI ∨ c = TO ∨ c = i1 ∨ c = i2 := by simpa using h
theorem turn_zs {P : Program} {w : World} {K : PySem.W.Frag} {elts : List Expr} {kk : Nat} {tpos : Pos} {a b z TI TO i1 i2 : Addr} (D : ZipApart z TI TO i1 i2 a b) :
    Turn P w K (.Tuple elts kk tpos) (ItZ K a b) [z, TI, TO, i1, i2] z (fun i h => IsZS h z TI TO .none ∧ IsPair h TI (.ref i1) (.ref i2) ∧ (∃ x y, IsPair h TO x y) ∧ h.IsTupleIter i1 a i ∧ h.IsTupleIter i2 b i) where
  mem := List.mem_cons_self
  obj := fun i h st c hc => by
    obtain ⟨hz, hTI, ⟨x, y, hTO⟩, ⟨o1, e1, _, d1⟩, ⟨o2, e2, _, d2⟩⟩ := st
    rcases five hc with q | q | q | q | q
    · rw [q]; exact ⟨_, hz, fun v q => nomatch q⟩
    · rw [q]; exact ⟨_, hTI, fun v q => nomatch q⟩
    · rw [q]; exact ⟨_, hTO, fun v q => nomatch q⟩
    · rw [q]; exact ⟨o1, e1, fun v q => by rw [d1] at q; cases q⟩
    · rw [q]; exact ⟨o2, e2, fun v q => by rw [d2] at q; cases q⟩
  keep := fun i h h' st k => by
    obtain ⟨hz, hTI, ⟨x, y, hTO⟩, h1, h2⟩ := st
    exact ⟨k z (by simp) _ hz, k TI (by simp) _ hTI, ⟨x, y, k TO (by simp) _ hTO⟩, h1.at fun o q => k i1 (by simp) o q, h2.at fun o q => k i2 (by simp) o q⟩
  item := by
    intro X hP hw hK hc i pins s σ H E I hf st hg
    subst hP hw hK
    obtain ⟨hz, hTI, ⟨x0, y0, hTO⟩, h1, h2⟩ := st
    obtain ⟨xs, ys, x, y, hqx, hqy, hx, hy⟩ := hg
    obtain ⟨its, rv, p, _⟩ := I.tuple hqx
    obtain ⟨its2, rv2, p2, _⟩ := I.tuple hqy
    obtain ⟨u, hu, ru⟩ := rv.get hx
    obtain ⟨u2, hu2, ru2⟩ := rv2.get hy
    have hzl : z < s.heap.objs.size := Heap.lt_size hz
    refine zs_next D hz hTI hTO h1 h2 p p2 (x := u) (y := u2) (by simpa using hu) (by simpa using hu2) fun h' z' TO' h1' h2' hT hsz hk => ?_
    refine ⟨_, rfl, zs_go (s := { s with heap := h' }) z' fun h'' z'' sb => ?_⟩
    have hT2 : h''.get? s.heap.objs.size = some { cls := .type "tuple", data := .seq #[u, u2] } := (sb.2 _ (Nat.ne_of_gt hzl)).trans hT
    have new : ObjOk X.prog X.w (upd H s.heap.objs.size (.tup [x, y])) h'' s.heap.objs.size (.tup [x, y]) :=
      ⟨by show 2 ≤ sizeLine; decide, [u, u2], .cons ru (.cons ru2 .nil), ⟨_, hT2, rfl, _, rfl⟩⟩
    have I1 : Inv X pins σ (upd H s.heap.objs.size (.tup [x, y])) { s with heap := h'' } :=
      I.turnedNew (t' := s.toks) (ch := [z, TI, TO, i1, i2]) (fun c o hb q => (sb.2 c (fun q' => hb (by simp [q']))).trans (hk c o (fun q' => hb (by simp [q'])) (fun q' => hb (by simp [q'])) (fun q' => hb (by simp [q'])) (fun q' => hb (by simp [q'])) q)) hf (Nat.le_refl _) new
    refine ⟨.ref s.heap.objs.size, _, I1, rfl, ⟨_, x, y, rfl, I.hok.fresh (Nat.le_refl _), rfl, fun l hl => by rw [I.tuple_inj hl hqx]; exact hx, fun l hl => by rw [I.tuple_inj hl hqy]; exact hy⟩, ⟨z'', ?_, ⟨u, u2, ?_⟩, ?_, ?_⟩, fun c hcm => ?_⟩
    · exact (sb.2 _ D.TIz).trans (hk _ _ D.TIz D.TITO D.TIi1 D.TIi2 hTI)
    · exact (sb.2 _ D.TOz).trans TO'
    · exact h1'.at fun o q => (sb.2 _ D.i1z).trans q
    · exact h2'.at fun o q => (sb.2 _ D.i2z).trans q
    · have hlt : c < s.heap.objs.size := by
        rcases five hcm with q | q | q | q | q
        · rw [q]; exact hzl
        · rw [q]; exact Heap.lt_size hTI
        · rw [q]; exact Heap.lt_size hTO
        · rw [q]; obtain ⟨_, e1, _⟩ := h1; exact Heap.lt_size e1
        · rw [q]; obtain ⟨_, e2, _⟩ := h2; exact Heap.lt_size e2
      rw [upd_ne (Nat.ne_of_lt hlt)]
      exact (hf c hcm).1
  done := by
    intro X hP hw hK hc i pins s σ H E I hf st hg
    subst hP hw hK
    obtain ⟨hz, hTI, ⟨x0, y0, hTO⟩, h1, h2⟩ := st
    obtain ⟨xs, ys, hqx, hqy, e1, e2⟩ := hg
    obtain ⟨its, rv, p, _⟩ := I.tuple hqx
    obtain ⟨its2, rv2, p2, _⟩ := I.tuple hqy
    have l1 := rv.length
    have l2 := rv2.length
    exact zs_stop (I.ok.hd hc) D hz hTI hTO h1 h2 p p2 (by simp; omega) (by simp; omega) fun h' hk => ⟨rfl, I.turnedL (t' := s.toks) (ch := [z, TI, TO, i1, i2]) (fun c o hb q =>
      hk c o (fun q' => hb (by simp [q'])) (fun q' => hb (by simp [q'])) (fun q' => hb (by simp [q'])) (fun q' => hb (by simp [q'])) q) hf⟩
  self := fun A i s Q E st h => zs_self st.1 h
def iZS (K : PySem.W.Frag) (ta : TA) : TI := fun σ H R => ta σ H fun vs H1 => ∃ a b xs ys, vs = [.ref a, .ref b] ∧ SqT K H1 a xs ∧ SqT K H1 b ys ∧ R (ItZ K a b) H1
theorem pi_zs {X : Cx} {e e2 : Expr} {ta : TA} {p pos tpos kp kp2 : Pos} {kj : Nat} {elts : List Expr} {kk : Nat} (hg : Gl X "zip") (hm : X.mg "zip" = none) (ha : PA X [e, e2] ta)
    (hs : starEach [e, e2] X.env = (false, eval e X.env) :: starEach [e2] X.env := by rfl) (hs2 : starEach [e2] X.env = [(false, eval e2 X.env)] := by rfl) :
    PI X (.Tuple elts kk tpos) (.Call (.Name "zip" p) [e, e2] [⟨some "strict", .Constant (.bool true) kj kp, kp2⟩] pos) (iZS X.K ta) := by
  refine ⟨fun pins s σ H R I h => ?_⟩
  refine wpAny_Call_Name_kw (ld_blt I hg hm PyProof.Rows.boot_zip ?_)
  refine callWith_typeKw (thn (ha.run pos pins s σ H _ I h) fun us s1 ⟨vs, H1, I1, r1, q1⟩ => ?_) (by rw [hs]; rfl) (by rw [hs, hs2]; rfl)
  refine kws_cons (Constant_bool (kws_nil ?_))
  obtain ⟨a, b, xs, ys, ex, hqx, hqy, q⟩ := q1
  subst ex
  obtain ⟨u1, u2, eu, r2, r3⟩ := vals2 r1
  obtain rfl : u1 = Value.ref a := r2
  obtain rfl : u2 = Value.ref b := r3
  subst eu
  obtain ⟨its, rv, p1, _⟩ := I1.tuple hqx
  obtain ⟨its2, rv2, p2, _⟩ := I1.tuple hqy
  refine call_zs (show s1.heap.IsTuple a its.toArray from p1) (show s1.heap.IsTuple b its2.toArray from p2) fun h' hz hTI hTO h1 h2 hsz hk => zs_self hz ?_
  have I2 : Inv X pins σ H1 { s1 with heap := h' } := I1.kept (t' := s1.toks) hk
  refine ⟨s1.heap.objs.size + 4, [s1.heap.objs.size + 4, s1.heap.objs.size + 2, s1.heap.objs.size + 3, s1.heap.objs.size, s1.heap.objs.size + 1], _, _, H1, rfl, I2, turn_zs (PySem.W.ktu_apart s1.heap.objs.size a b p1.lt p2.lt), ⟨hz, hTI, ⟨_, _, hTO⟩, h1, h2⟩, fun c hcm => ?_, q⟩
  have hle : s1.heap.objs.size ≤ c := by
    rcases five hcm with z | z | z | z | z
    · rw [z]; exact Nat.le_add_right _ _
    · rw [z]; exact Nat.le_add_right _ _
    · rw [z]; exact Nat.le_add_right _ _
    · rw [z]; exact Nat.le_refl _
    · rw [z]; exact Nat.le_add_right _ _
  exact I1.fpOk hle (I1.hok.fresh hle)
theorem for_zs {K : PySem.W.Frag} {a b : Addr} {xs ys : List V} {g : TG} {tb : TS} {D : Ends} {σ : L2.St} {H : Hp} (hl : xs.length = ys.length) (Pv : Nat → L2.St → Hp → Prop) (h0 : Pv 0 σ H) (hq : ∀ i σ H, Pv i σ H → SqT K H a xs ∧ SqT K H b ys)
    (hs : ∀ (i : Nat) (x y : V) (T : Addr) (σ : L2.St) (H : Hp), xs[i]? = some x → ys[i]? = some y → Pv i σ H → H T = none → g (.ref T) σ (upd H T (.tup [x, y])) fun σ2 H2 => tb { D with nx := Pv (i + 1), ct := Pv (i + 1), bk := D.nx } σ2 H2) (hd : ∀ σ H, Pv xs.length σ H → D.nx σ H) :
    ∃ W : Nat → Nat → L2.St → Hp → Prop, (∃ m, W 0 m σ H) ∧ ∀ i m σ H, W i m σ H →
      ((ItZ K a b).stop i H ∧ D.nx σ H) ∨ ((ItZ K a b).go i H ∧ ∃ N : L2.St → Hp → Prop, (∀ σ' H', N σ' H' → ∃ m', m' < m ∧ W (i + 1) m' σ' H') ∧ ∀ v H', (ItZ K a b).yld i H v H' → g v σ H' fun σ2 H2 => tb { D with nx := N, ct := N, bk := D.nx } σ2 H2) := by
  refine ⟨fun i m σ H => m = xs.length - i ∧ i ≤ xs.length ∧ Pv i σ H, ⟨xs.length, rfl, Nat.zero_le _, h0⟩, ?_⟩
  rintro i m σ H ⟨rfl, hi, p⟩
  obtain ⟨qx, qy⟩ := hq i σ H p
  by_cases hlt : i < xs.length
  · have hx : xs[i]? = some xs[i] := List.getElem?_eq_getElem hlt
    have hlt2 : i < ys.length := by omega
    have hy : ys[i]? = some ys[i] := List.getElem?_eq_getElem hlt2
    refine .inr ⟨⟨xs, ys, _, _, qx, qy, hx, hy⟩, Pv (i + 1), fun σ' H' p' => ⟨xs.length - (i + 1), by omega, rfl, hlt, p'⟩, fun v H' y => ?_⟩
    obtain ⟨T, x', y', rfl, hT, rfl, f1, f2⟩ := y
    exact hs i x' y' T σ H (f1 xs qx) (f2 ys qy) p hT
  · have e : i = xs.length := by omega
    subst e
    exact .inl ⟨⟨xs, ys, qx, qy, Nat.le_refl _, Nat.le_of_eq hl.symm⟩, hd σ H p⟩
end Jz
end
section
set_option maxHeartbeats 4000000
namespace Jz
open PySem PySem.Spec PyProof.Rows L2
open AutoSeq1 (wpAny_loadPart' idx_int sub_tuple_tuple sub_list_list sub_tuple_list sub_list_tuple)
theorem meets_extT (l : Addr) (items : Array Value) (n : Nat) (b : Addr) (items2 : Array Value) (n2 : Nat) (dct : Option Addr) (sl : Array (Option Value)) (hs0 : ¬(!items.isEmpty && Builtin.List.listTooLong (items.size + items2.size)) = true) (hs1 : items.size ≤ sizeLine) (hs2 : items.size + items2.size ≤ sizeLine + 1) :
    Meets (Builtin.«list.extend» ⟨[.ref l, .ref b], []⟩) (fun _ R s => (s.heap.get? l = some { cls := .type "list", dict := none, data := .seq items n, slots := #[] } ∧ s.heap.get? b = some { cls := .type "tuple", dict := dct, data := .seq items2 n2, slots := sl }) ∧
      R (.ok (.ret Value.none)) { s with heap := s.heap.update l (Obj.mapSeq fun x => x ++ items2), toks := s.toks }) :=
  .of_wp fun prog w A R s h => by
    obtain ⟨hp, g, d, tk, os⟩ := s
    obtain ⟨⟨hl, hb⟩, h⟩ := h
    have f1 := AutoSeq1.idx_int
    have f2 := AutoSeq1.sub_tuple_tuple
    have f3 := AutoSeq1.sub_list_list
    have f4 := AutoSeq1.sub_tuple_list
    have f5 := AutoSeq1.sub_list_tuple
    have hz' : (items ++ items2).size ≤ sizeLine + 1 := by rw [Array.size_append]; exact hs2
    wp_walk using (wpAny_updateSeq hl rfl (hz := hs1) (_hz' := hz')), wpAny_loadPart' hl, wpAny_loadPart' hb
    exact ⟨_, rfl, h⟩
section
variable {X : Cx}
/-- xs.extend(t), t a tuple -/
def rExtT (K : PySem.W.Frag) : V → List V → Hp → VK → Prop := fun x vs H Q => ∃ l b xs zs, x = .ref l ∧ vs = [.ref b] ∧ H l = some (.lst xs) ∧ SqT K H b zs ∧ xs.length + zs.length ≤ sizeLine ∧ Q .non (upd H l (.lst (xs ++ zs)))
theorem mt_extT : MtR X "list.extend" (rExtT X.K) := by
  intro pins s σ H x vs v us Q I rx rv h
  obtain ⟨l, b, xs, zs, ex, ev, hH, hB, hz, q⟩ := h
  subst ex ev
  obtain rfl : v = Value.ref l := rx
  obtain ⟨u, rfl, ru⟩ := vals1 rv
  obtain rfl : u = Value.ref b := ru
  obtain ⟨z, its, n, r, hl, e⟩ := I.lstM hH
  obtain ⟨its2, r2, p2, hl2⟩ := I.tuple hB
  obtain ⟨⟨c, dct, dt, sl⟩, e2, hc, n2, hd⟩ := p2
  replace hc : c = .type "tuple" := hc
  replace hd : dt = .seq its2.toArray n2 := hd
  subst hc hd
  have hl3 := r2.length
  have hsz : its.toArray.size + its2.toArray.size ≤ sizeLine := by rw [List.size_toArray, List.size_toArray]; omega
  have hlong : ¬ (!its.toArray.isEmpty && Builtin.List.listTooLong (its.toArray.size + its2.toArray.size)) = true := by
    rw [notLongL hsz, Bool.and_false]
    exact Bool.false_ne_true
  refine call_meets F.slot_list_extend ⟨_, e, rfl⟩ F.entry_list_extend (F.args_list_extend_2 _ _)
    (meets_extT l its.toArray n b its2.toArray n2 dct sl hlong (by rw [List.size_toArray]; omega) (by omega)) ⟨⟨e, e2⟩, ?_⟩
  refine ⟨.non, _, I.lset (its' := its ++ its2) hH e (by simp) (r.append r2) ?_, rfl, q⟩
  rw [List.length_append]
  omega
/-- o.f = .. as one target of several -/
def gAttr (K : PySem.W.Frag) (to : TE) (f : Str) : TG := fun v σ H Q => to σ H fun x H1 => ∃ a C dx fs, x = .ref a ∧ H1 a = some (.ins C dx fs) ∧ Cls K C ∧ NoAttr K C f ∧ fs.length < 1000 ∧ Q σ (upd H1 a (.ins C dx (putF f v fs)))
theorem pg_attr {o : Expr} {f : Str} {pos : Pos} {to : TE} (ho : PE X o to) : PG X (.Attribute o f pos) (gAttr X.K to f) := by
  refine ⟨fun pins s σ H v u Q I r h => ?_⟩
  rw [assign_Attribute]
  refine wpAny_bind (wpAny_holding (thn (ho.run pins s σ H _ I h) fun ov s1 h1 => ?_))
  obtain ⟨x, H1, I1, rx, a, C, dx, fs, ex, ea, c, n, l, q⟩ := h1
  subst ex
  obtain rfl : ov = Value.ref a := rx
  refine wpAny_bind (wpAny_standAt (wpAny_bind (wpAny_holding (setattr_ok I1 ea c n l r fun s2 I2 => ?_))))
  exact wpAny_release ⟨σ, _, I2, q⟩
end
end Jz
end
section
set_option maxHeartbeats 4000000
/-! {q: v for q in t}, the keys points -/
namespace Jz
open PySem PySem.Spec PyProof.Rows L2
theorem pd_dictSet {X : Cx} {pins : List (Addr × Obj)} {σ : L2.St} {H : Hp} {s : Shared} {d a : Addr} {qs : List Pt} {q : Pt} {A : Around} {E : Value → Shared → Prop} {u : Value} {Q : Unit → Shared → Prop} (hu : A.units + 64 < cLine) (I : Inv X pins σ H s) (D : PD X.prog X.w H d qs) (ha : PtAt H q a) (hz : qs.length < sizeLine)
    (h : ∀ H' s', PDput X.prog X.w H d qs q H' → Inv X pins σ H' s' → Q () s') : wpAny (model X.prog X.w) A (dictSet d (.ref a) u) Q E s := by
  obtain ⟨xs, e, em, hk, dd⟩ := D.raw I.hok
  have hl : xs.length = qs.length := by rw [← List.length_map (f := fun x : NestedKey × Addr × Value => x.1), em, List.length_map]
  refine wpAny_dictSet_heap (hsz := by rw [hl]; exact D.ln) (show (nestedKind X.prog X.w).room A by show A.units + 8 < cLine; omega) (ha.is I.hok) dd fun h' dd' hs => ?_
  obtain ⟨H', p, I'⟩ := pd_after (t' := s.toks + (nestedKind X.prog X.w).draws (ky q)) I D e em hk ha hz dd' hs
  exact h H' _ p I'
def tDcP (P : Program) (w : World) (wi : TI) (g : TG) (tt : TT) (tk tv : TE) (vs : List Nat) : TE := fun σ H Q => wi σ H fun J H1 => ∀ D H3, H1 D = none → (∀ b, b ≠ D → H3 b = H1 b) → PD P w H3 D [] → ∃ W : Nat → Nat → Hp → Prop, (∃ m, W 0 m H3) ∧ ∀ i m H, W i m H →
  (J.stop i H ∧ Q (.ref D) H) ∨ (J.go i H ∧ ∃ Nx : Hp → Prop, (∀ H', Nx H' → ∃ m', m' < m ∧ W (i + 1) m' H') ∧ ∀ x H', J.yld i H x H' → g x (wipe σ vs) H' fun σ2 H2 => wipe σ2 vs = wipe σ vs ∧ tt σ2 H2 fun b H3 =>
    if b = true then tk σ2 H3 fun y H4 => tv σ2 H4 fun z H5 => ∃ a q qs, y = .ref a ∧ PtAt H5 q a ∧ PD P w H5 D qs ∧ qs.length < sizeLine ∧ ∀ H6, PDput P w H5 D qs q H6 → Nx H6 else Nx H3)
section
variable {X : Cx}
theorem dcP_core {pins : List (Addr × Obj)} {s : Shared} {σ : L2.St} {H : Hp} {Q : VK} {kx vx tg iter : Expr} {ifs : List Expr} {scope : Scope} {own : List (Str × Nat)} {pos pos' : Pos} {wi : TI} {g : TG} {tt : TT} {tk tv : TE} {use : Option (Value → Sem Unit)} {Qf : Value → Shared → Prop}
    (hu : X.A.units + 64 < cLine) (hc : X.calm = true) (hN : X.N.Nodup) (I : Inv X pins σ H s) (hi : PI X tg iter wi) (ok : BlkOk X.N X.env.scope scope own)
    (hg : ∀ (s : Shared) (H : Hp) (C : Addr) (cl : List (Str × Addr)) (fp : List Addr), PG (X.blk s H scope (compEnvC scope cl C X.env) fp) tg g) (ht : ∀ (s : Shared) (H : Hp) (C : Addr) (cl : List (Str × Addr)) (fp : List Addr), PTs (X.blk s H scope (compEnvC scope cl C X.env) fp) ifs tt)
    (hk : ∀ (s : Shared) (H : Hp) (C : Addr) (cl : List (Str × Addr)) (fp : List Addr), PE (X.blk s H scope (compEnvC scope cl C X.env) fp) kx tk)
    (he : ∀ (s : Shared) (H : Hp) (C : Addr) (cl : List (Str × Addr)) (fp : List Addr), PE (X.blk s H scope (compEnvC scope cl C X.env) fp) vx tv) (hs : ∀ x, foldedSetIterable iter X.env x = pure x)
    (h : tDcP X.prog X.w wi g tt tk tv (own.map (·.2)) σ H Q)
    (hRR : ∀ D C s' m H', Inv X pins σ H' s' → Q (.ref D) H' → s'.heap.Ns C m → FpOk X pins H' C → compPost (model X.prog X.w) X.A X.xe use Qf (.ref D) C (.ok .next) s') :
    wpAny (model X.prog X.w) X.A (comprehension (.DictComp kx vx [⟨tg, iter, ifs, 0⟩] scope pos) scope X.env pos' newDict false (eval iter X.env) use) Qf X.xe s := by
  have hfree : ∀ y ∈ scope.names, y.2 = .free → ∃ c, X.env.cells.lookup y.1 = some c := fun y hy e => by
    rcases ok.free y hy e with k | k
    · exact I.ok.has _ (.inl k)
    · exact I.ok.has _ (.inr k)
  refine wpAny_comprehension_free (use := use) rfl hs (closure_ok hfree) ok.kind (fun y hy e => by rw [ok.uniq y hy, e])
    (thn (hi.run pins s σ H _ I h) fun xv s1 hx => thn hx fun itv s2 h2 => ?_)
  obtain ⟨it, fp, tn, J, H2, e, I2, T, st2, f2, q⟩ := h2
  subst e
  refine wpAny_newObj_type (newEnv_comp ?_)
  generalize hD : s2.heap.objs.size = D
  have hDn : H2 D = none := I2.hok.fresh (Nat.le_of_eq hD)
  -- the new list
  generalize hs3 : ({ s2 with heap := s2.heap.push { cls := .type "dict", data := .dict #[] } } : Shared) = s3
  have I3 : Inv X pins σ (upd H2 D (.ext (pdf X.prog X.w D []))) s3 := by
    rw [← hs3]
    refine I2.laid (t' := s2.toks) (fun b o e => Heap.get?_push_of_some _ e) (Nat.le_of_eq hD) ?_
    rw [← hD]
    exact pd_new s2.heap
  obtain ⟨W, ⟨m0, w0⟩, turn⟩ := q D (upd H2 D (.ext (pdf X.prog X.w D []))) hDn (fun b hb => upd_ne hb) ⟨⟨[], upd_same, rfl, fun x hx => nomatch hx⟩, beq_eq_false_iff_ne.mpr (by rw [← hD]; exact Ne.symm (Nat.ne_of_lt I2.big)), Nat.zero_le _⟩
  have h3 : s3.heap = s2.heap.push { cls := .type "dict", data := .dict #[] } := by rw [← hs3]
  have sz : ∀ b ∈ fp, b < s2.heap.objs.size := fun b hb => by
    obtain ⟨o, e, _⟩ := T.obj _ _ st2 b hb
    exact Heap.lt_size e
  have f3 : ∀ b ∈ fp, FpOk X pins (upd H2 D (.ext (pdf X.prog X.w D []))) b ∧ b < s3.heap.objs.size := fun b hb => by
    have hlt := sz b hb
    refine ⟨⟨?_, (f2 b hb).2⟩, by rw [h3, Heap.size_push]; exact Nat.lt_succ_of_lt hlt⟩
    rw [upd_ne (by rw [← hD]; exact Nat.ne_of_lt hlt)]
    exact (f2 b hb).1
  have st3 : tn 0 s3.heap := T.keep _ _ _ st2 fun b _ o e => by rw [h3]; exact Heap.get?_push_of_some _ e
  have I4 := block_start I3 ok hN f3
  have pg := hg s3 (upd H2 D (.ext (pdf X.prog X.w D []))) s3.heap.objs.size (cellsFrom (s3.heap.objs.size + 1) scope.names (cloFrom X.env.cells scope.names [])) fp
  have pt := ht s3 (upd H2 D (.ext (pdf X.prog X.w D []))) s3.heap.objs.size (cellsFrom (s3.heap.objs.size + 1) scope.names (cloFrom X.env.cells scope.names [])) fp
  have pk := hk s3 (upd H2 D (.ext (pdf X.prog X.w D []))) s3.heap.objs.size (cellsFrom (s3.heap.objs.size + 1) scope.names (cloFrom X.env.cells scope.names [])) fp
  have pe := he s3 (upd H2 D (.ext (pdf X.prog X.w D []))) s3.heap.objs.size (cellsFrom (s3.heap.objs.size + 1) scope.names (cloFrom X.env.cells scope.names [])) fp
  show codeAny _ _ (.compStart (.DictComp kx vx [⟨tg, iter, ifs, 0⟩] scope pos) 0 (.ref it) (.ref D) (compEnvC scope (cellsFrom (s3.heap.objs.size + 1) scope.names (cloFrom X.env.cells scope.names [])) s3.heap.objs.size X.env)) (compPost (model X.prog X.w) X.A X.xe use Qf (.ref D) s3.heap.objs.size) { s3 with heap := pushCells (s3.heap.push { cls := .type "dict", data := .dict #[] }) scope.names }
  have nfp : ∀ b ∈ fp, (upd H2 D (.ext (pdf X.prog X.w D []))) b = none := fun b hb => (f3 b hb).1.1
  generalize hce : compEnvC scope (cellsFrom (s3.heap.objs.size + 1) scope.names (cloFrom X.env.cells scope.names [])) s3.heap.objs.size X.env = ce at I4 pg pt pk pe ⊢
  have cL : ce.locals = s3.heap.objs.size := by subst hce; rfl
  generalize hH3 : upd H2 D (.ext (pdf X.prog X.w D [])) = H3 at I3 I4 pg pt pk pe w0 nfp f3
  generalize hs4 : ({ s3 with heap := pushCells (s3.heap.push { cls := .type "dict", data := .dict #[] }) scope.names } : Shared) = s4 at I4 ⊢
  have st4 : tn 0 s4.heap := T.keep _ _ _ st3 fun b _ o e => by rw [← hs4]; exact pushCells_keeps _ _ _ _ (Heap.get?_push_of_some _ e)
  have stat : ∀ {σ' : L2.St} {H' : Hp} {s' : Shared}, Inv (X.blk s3 H3 scope ce fp) [] σ' H' s' → (∀ b ∈ fp, H' b = none) → ∀ b ∈ fp, FpOk (X.blk s3 H3 scope ce fp) [] H' b := fun {σ' H' s'} I' hn b hb =>
    ⟨hn b hb, (I'.ok.exf b hb).1, I'.ok.exfs b hb, .inl hb, fun x c e => (I'.ok.exf b hb).2 x c e, fun p hp => absurd (show p ∈ ([] : List (Addr × Obj)) ++ [] from hp) (by simp)⟩
  have loop : codeAny (model X.prog X.w) X.A (.compLoop (.DictComp kx vx [⟨tg, iter, ifs, 0⟩] scope pos) 0 (.ref it) (.ref D) ce) (compPost (model X.prog X.w) X.A X.xe use Qf (.ref D) s3.heap.objs.size) s4 := by
    refine compLoop_anyD (fun n s' => ∃ i H', Inv (X.blk s3 H3 scope ce fp) [] (wipe σ (own.map (·.2))) H' s' ∧ tn i s'.heap ∧ (∀ b ∈ fp, H' b = none) ∧ W i n H') ?_ m0 ⟨0, H3, I4, st4, nfp, w0⟩
    rintro n s5 ⟨i, H5, I5, st5, n5, w5⟩
    rcases turn i n H5 w5 with ⟨stop, qq⟩ | ⟨go, Nx, hNx, step⟩
    · have td := T.done (X.blk s3 H3 scope ce fp) rfl rfl rfl hc i [] s5 _ H5 (fun _ _ => False) I5 (stat I5 n5) st5 stop
      refine thnF td fun r s6 ⟨hr, I6⟩ => ?_
      subst hr
      -- back in the def's context
      have I7 : Inv X pins σ H5 s6 := I3.call' (ch := fp) I6.os I6.base I6.hok I6.bare fun b hb => ⟨(f3 b hb).1.2.2.2.1, (f3 b hb).1.2.1, (f3 b hb).1.2.2.2.2.1, (f3 b hb).1.2.2.2.2.2⟩
      have nC : H5 s3.heap.objs.size = none := by
        have z : H5 ce.locals = none := I6.free
        rw [cL] at z
        exact z
      obtain ⟨m, hn, _⟩ := I6.loc
      have hn : s6.heap.Ns ce.locals m := hn
      rw [cL] at hn
      exact hRR D s3.heap.objs.size s6 m H5 I7 qq hn (I3.fpOk (Nat.le_refl _) nC)
    · have ti := T.item (X.blk s3 H3 scope ce fp) rfl rfl rfl hc i [] s5 _ H5 (fun _ _ => False) I5 (stat I5 n5) st5 go
      refine thnF ti fun r s6 ⟨u, hr, h6⟩ => ?_
      subst hr
      refine thnF h6 fun _ s7 ⟨x, H7, I7, r7, y7, st7, n7⟩ => ?_
      have I7' := I7.pinned (stat I7 n7) (T.obj _ _ st7)
      refine thnF (pg.run _ s7 _ H7 x u _ I7' r7 (step x H7 y7)) fun _ s8 ⟨σ8, H8, I8, hw8, q8⟩ => ?_
      refine thnF (pt.run _ s8 σ8 H8 _ I8 q8) fun b s9 ⟨H9, I9, q9⟩ => ?_
      -- the turn's end
      have fin : ∀ {s' : Shared} {H' : Hp}, Inv (X.blk s3 H3 scope ce fp) ([] ++ pinsAt fp s7.heap) σ8 H' s' → Nx H' → ∃ m, m < n ∧ ∃ i H', Inv (X.blk s3 H3 scope ce fp) [] (wipe σ (own.map (·.2))) H' s' ∧ tn i s'.heap ∧ (∀ b ∈ fp, H' b = none) ∧ W i m H' := fun {s' H'} I' nx => by
        obtain ⟨m', hm, w'⟩ := hNx H' nx
        have pin' : ∀ b ∈ fp, ∀ o, s7.heap.get? b = some o → s'.heap.get? b = some o ∧ H' b = none := fun b hb o e =>
          let z := I'.pin (b, o) (List.mem_append_right _ (List.mem_append_right _ (mem_pinsAt hb e)))
          ⟨z.1, z.2.1⟩
        have hl : (wipe σ (own.map (·.2))).length = σ8.length := by rw [← hw8, wipe_length]
        refine ⟨m', hm, i + 1, H', (I'.unpinned (pins := [])).weak hl (fun j v e => ?_), T.keep _ _ _ st7 fun b hb o e => (pin' b hb o e).1, fun b hb => ?_, w'⟩
        · rw [← hw8] at e
          exact (wipe_some e).1
        · obtain ⟨o, e, _⟩ := T.obj _ _ st7 b hb
          exact (pin' b hb o e).2
      cases b with
      | false =>
        simp only [Bool.false_eq_true, if_false] at q9 ⊢
        exact fin I9 q9
      | true =>
        simp only [if_true] at q9 ⊢
        refine thnF (pk.run _ s9 σ8 H9 _ I9 q9) fun z s10 ⟨yk, H10, I10, r10, q10⟩ => ?_
        refine thnF (pe.run _ s10 σ8 H10 _ I10 q10) fun z2 s11 ⟨yv, H11, I11, r11, a, q, qs, ek, ha, hD11, hz11, nx⟩ => ?_
        subst ek
        obtain rfl : z = Value.ref a := r10
        exact pd_dictSet (X := X.blk s3 H3 scope ce fp) hu I11 hD11 ha hz11 fun H' s12 p I12 => fin I12 (nx H' p)
  exact codeAny_compStart_dict loop (T.self X.A 0 _ _ _ st4 loop)
theorem pe_dcP {kx vx tg iter : Expr} {ifs : List Expr} {scope : Scope} {own : List (Str × Nat)} {pos : Pos} {wi : TI} {g : TG} {tt : TT} {tk tv : TE} (hu : X.A.units + 64 < cLine) (hc : X.calm = true) (hN : X.N.Nodup) (hi : PI X tg iter wi) (ok : BlkOk X.N X.env.scope scope own)
    (hg : ∀ (s : Shared) (H : Hp) (C : Addr) (cl : List (Str × Addr)) (fp : List Addr), PG (X.blk s H scope (compEnvC scope cl C X.env) fp) tg g) (ht : ∀ (s : Shared) (H : Hp) (C : Addr) (cl : List (Str × Addr)) (fp : List Addr), PTs (X.blk s H scope (compEnvC scope cl C X.env) fp) ifs tt)
    (hk : ∀ (s : Shared) (H : Hp) (C : Addr) (cl : List (Str × Addr)) (fp : List Addr), PE (X.blk s H scope (compEnvC scope cl C X.env) fp) kx tk)
    (he : ∀ (s : Shared) (H : Hp) (C : Addr) (cl : List (Str × Addr)) (fp : List Addr), PE (X.blk s H scope (compEnvC scope cl C X.env) fp) vx tv) (hs : ∀ x, foldedSetIterable iter X.env x = pure x := by intro _; rfl) :
    PE X (.DictComp kx vx [⟨tg, iter, ifs, 0⟩] scope pos) (tDcP X.prog X.w wi g tt tk tv (own.map (·.2))) := by
  refine ⟨fun pins s σ H Q I h => ?_⟩
  rw [arm_eval_DictComp]
  refine dcP_core hu hc hN I hi ok hg ht hk he hs h fun D C s' m H' I' q hn f => ⟨m, hn, fun h'' sb => ?_⟩
  obtain ⟨f0, f1, f2, f3, f4, f5⟩ := f
  exact ⟨.ref D, H', I'.turned (t' := s'.toks) (fun b o hb e => (sb.2 b hb).trans e) f0 f1 f3 f4 f5, rfl, q⟩
end
theorem dcP_tup {P : Program} {w : World} {K : PySem.W.Frag} {a : Addr} {xs : List V} {g : TG} {tt : TT} {tk tv : TE} {vs : List Nat} {σ : L2.St} {H3 : Hp} {D : Addr} {Qd : Hp → Prop} (Pv : Nat → Hp → Prop) (h0 : Pv 0 H3) (hl : ∀ i H, i ≤ xs.length → Pv i H → SqT K H a xs)
    (hs : ∀ i x H, xs[i]? = some x → Pv i H → g x (wipe σ vs) H fun σ2 H2 => wipe σ2 vs = wipe σ vs ∧ tt σ2 H2 fun b H3 =>
      if b = true then tk σ2 H3 fun y H4 => tv σ2 H4 fun z H5 => ∃ a q qs, y = .ref a ∧ PtAt H5 q a ∧ PD P w H5 D qs ∧ qs.length < sizeLine ∧ ∀ H6, PDput P w H5 D qs q H6 → Pv (i + 1) H6 else Pv (i + 1) H3) (hd : ∀ H, Pv xs.length H → Qd H) :
    ∃ W : Nat → Nat → Hp → Prop, (∃ m, W 0 m H3) ∧ ∀ i m H, W i m H →
      ((Itt K a).stop i H ∧ Qd H) ∨ ((Itt K a).go i H ∧ ∃ Nx : Hp → Prop, (∀ H', Nx H' → ∃ m', m' < m ∧ W (i + 1) m' H') ∧ ∀ x H', (Itt K a).yld i H x H' → g x (wipe σ vs) H' fun σ2 H2 => wipe σ2 vs = wipe σ vs ∧ tt σ2 H2 fun b H3 =>
        if b = true then tk σ2 H3 fun y H4 => tv σ2 H4 fun z H5 => ∃ a q qs, y = .ref a ∧ PtAt H5 q a ∧ PD P w H5 D qs ∧ qs.length < sizeLine ∧ ∀ H6, PDput P w H5 D qs q H6 → Nx H6 else Nx H3) := by
  refine ⟨fun i m H => m = xs.length - i ∧ i ≤ xs.length ∧ Pv i H, ⟨xs.length, by simp, Nat.zero_le _, h0⟩, ?_⟩
  rintro i m H ⟨rfl, hi, p⟩
  have q := hl i H hi p
  by_cases hlt : i < xs.length
  · refine .inr ⟨⟨xs, xs[i], q, by simp [hlt]⟩, Pv (i + 1), fun H' p' => ⟨xs.length - (i + 1), by omega, rfl, hlt, p'⟩, fun x H' y => ?_⟩
    obtain ⟨e, y⟩ := y
    subst e
    exact hs i x _ (y xs q) p
  · have e : i = xs.length := by omega
    subst e
    exact .inl ⟨⟨xs, q, Nat.le_refl _⟩, hd H p⟩
end Jz
end
section
set_option maxHeartbeats 4000000
/-! the text by places; what stands in the heap; what the top has written -/
namespace Jz
open PySem PySem.Spec PyProof.Rows L2

def top (i : Nat) : Stmt := PySem.Challenge.pw_ruleengine_k54_whole_jumps_written_other.main.body.getD i (.Pass ⟨0, 0, 0, 0⟩)
abbrev inC (i j : Nat) : Stmt := inClass (top i) j

/-! ### names -/
def fmN : Fm → Str
  | .seq => "Seq" | .pick => "Pick" | .loop => "Loop" | .pair => "Pair" | .full => "Full" | .wrap => "Wrap" | .set => "Set" | .use => "Use"
  | .letf => "Let" | .leave => "Leave" | .again => "Again" | .stop => "Stop" | .raw => "raw_s"
def odN : Od → Str
  | .steps => "steps" | .choice => "choice" | .loop => "loop" | .stop => "stop" | .leave => "leave" | .again => "again"
def sh (b : Bool) : Str := if b then "b" else "a"
/-- a part: a text, a node, a row -/
inductive Kd where
  | tx (s : Str) | on | rw
  deriving DecidableEq
def kinds (f : Fm) (a b : Bool) : List Kd := match f with
  | .seq | .pick | .loop => [.rw]
  | .pair => [.on, .on]
  | .full => [.tx (sh a), .rw]
  | .wrap => [.tx (sh a), .on]
  | .set | .use | .raw => [.tx (sh a)]
  | .letf => [.tx (sh a), .tx (sh b)]
  | .leave | .again | .stop => []
def slots (f : Fm) : List (Str × Str) := match f with
  | .seq | .pick | .loop => [("items", "s*")]
  | .pair => [("one", "s"), ("two", "s")]
  | .full => [("who", "text"), ("items", "s*")]
  | .wrap => [("who", "text"), ("body", "s")]
  | .set | .use => [("who", "text")]
  | .raw => [("text", "text")]
  | .letf => [("what", "text"), ("who", "text")]
  | .leave | .again | .stop => []
def slotN (f : Fm) : Str := if f = .raw then "text" else "who"
/-- a part as it stands: its address, and for a row those of its items -/
inductive Pv where
  | tx (s : Str) | on (a : Addr) | rw (r : Addr) (as : List Addr)
def Pv.v : Pv → V
  | .tx s => .str s
  | .on a => .ref a
  | .rw r _ => .ref r
def Pv.k : Pv → Kd
  | .tx s => .tx s
  | .on _ => .on
  | .rw _ _ => .rw
def Pv.as : Pv → List Addr
  | .tx _ => []
  | .on a => [a]
  | .rw _ as => as
def kidsA (ps : List Pv) : List Addr := ps.flatMap Pv.as

/-! ### what stands in the heap -/
abbrev rl (as : List Addr) : List V := as.map V.ref
/-- the law's own plants: tuples, rows are lists -/
inductive PlAt (H : Hp) : Tr → Addr → Prop
  | mk {f : Fm} {a b : Bool} {ks : List Tr} {x : Addr} {ps : List Pv} (hx : H x = some (.tup (.str (fmN f) :: ps.map Pv.v))) (hr : ∀ r as, Pv.rw r as ∈ ps → H r = some (.lst (rl as)))
      (hk : ps.map Pv.k = kinds f a b) (hl : (kidsA ps).length = ks.length) (hc : ∀ (i : Nat) k c, ks[i]? = some k → (kidsA ps)[i]? = some c → PlAt H k c) : PlAt H (.node f a b ks) x
/-- a part of a term -/
def TpAt (H : Hp) (q : Addr) : Pv → Prop
  | .tx s => H q = some (.tup [.str "text", .str s])
  | .on c => q = c
  | .rw r as => H q = some (.tup [.str "row", .ref r, .str ""]) ∧ H r = some (.tup (rl as))
inductive TmAt (H : Hp) : Tr → Addr → Prop
  | mk {f : Fm} {a b : Bool} {ks : List Tr} {x pa : Addr} {qs : List Addr} {ps : List Pv} (hx : H x = some (.tup [.str "node", .str (fmN f), .ref pa])) (hp : H pa = some (.tup (rl qs))) (hq : Paired (TpAt H) qs ps)
      (hk : ps.map Pv.k = kinds f a b) (hl : (kidsA ps).length = ks.length) (hc : ∀ (i : Nat) k c, ks[i]? = some k → (kidsA ps)[i]? = some c → TmAt H k c) : TmAt H (.node f a b ks) x
/-- a tuple of paths -/
def SpAt (H : Hp) (L : List Pa) (sp : Addr) : Prop := ∃ qs : List Addr, H sp = some (.tup (rl qs)) ∧ Paired (PaAt H) L qs
def trF (f : Fm) (g bl : Addr) (h : Nat) (sp tm : Addr) : List (Str × V) := [("kind", .str (fmN f)), ("given", .ref g), ("below", .ref bl), ("height", .int (h : Int)), ("spots", .ref sp), ("term", .ref tm)]
mutual
def height : Tr → Nat
  | .node _ _ _ ks => heightL ks + 1
def heightL : List Tr → Nat
  | [] => 0
  | t :: r => max (height t) (heightL r)
end
/-- a tree of the program -/
inductive TrAt (C : Addr) (H : Hp) : Tr → Addr → Prop
  | mk {f : Fm} {a b : Bool} {ks : List Tr} {x dx g bl sp tm : Addr} {ps : List Pv} (hx : H x = some (.ins C dx (trF f g bl (height (.node f a b ks)) sp tm))) (hg : H g = some (.tup (ps.map Pv.v))) (hr : ∀ r as, Pv.rw r as ∈ ps → H r = some (.tup (rl as)))
      (hk : ps.map Pv.k = kinds f a b) (hb : H bl = some (.tup (rl (kidsA ps)))) (hl : (kidsA ps).length = ks.length) (hs : SpAt H (spots (.node f a b ks)) sp) (ht : TmAt H (.node f a b ks) tm)
      (hc : ∀ (i : Nat) k c, ks[i]? = some k → (kidsA ps)[i]? = some c → TrAt C H k c) : TrAt C H (.node f a b ks) x
def setV (f : Fm) (p : Pd) : V := if p.ac = some true then .str (slotN f) else .non
def useV (f : Fm) (p : Pd) : V := if p.ac = some false then .str (slotN f) else .non
def PlanAt (C : Addr) (H : Hp) (f : Fm) (p : Pd) (x : Addr) : Prop := ∃ dx, H x = some (.ins C dx [("mode", .str (odN p.od)), ("setting", setV f p), ("using", useV f p)])
def FormAt (C : Addr) (H : Hp) (f : Fm) (x : Addr) : Prop := ∃ dx op qs, H x = some (.ins C dx [("word", .str (fmN f)), ("own_kin", .str "s"), ("openings", .ref op)]) ∧ H op = some (.tup (rl qs)) ∧
  Paired (fun (s : Str × Str) q => H q = some (.tup [.str s.1, .str s.2])) (slots f) qs
def SchAt (CS CF : Addr) (H : Hp) (x : Addr) : Prop := ∃ dx d e b kvs, H x = some (.ins CS dx [("declared", d), ("by_word", .ref b), ("kins", e)]) ∧ H b = some (.dK kvs) ∧ ∀ f, ∃ fa, valV kvs (.inr (fmN f) : Key) = some (.ref fa) ∧ FormAt CF H f fa
def FlwAt (CW CS CF CP : Addr) (H : Hp) (P : Fm → Pd) (x : Addr) : Prop := ∃ dx s b c kvs, H x = some (.ins CW dx [("basis", .ref s), ("by_form", .ref b), ("common", .ref c)]) ∧ SchAt CS CF H s ∧ H b = some (.dK kvs) ∧
  ∀ f, ∃ pa, (valV kvs (.inr (fmN f) : Key)).getD (.ref c) = .ref pa ∧ PlanAt CP H f (P f) pa

/-! ### they stand while what is tracked stands -/
section
variable {H H' : Hp}
theorem PlAt.mono (s : Same H H') {t : Tr} {x : Addr} (h : PlAt H t x) : PlAt H' t x := by
  induction h with
  | mk hx hr hk hl _ ih => exact .mk (s _ _ hx) (fun r as hm => s _ _ (hr r as hm)) hk hl ih
theorem TpAt.mono (s : Same H H') {q : Addr} {p : Pv} (h : TpAt H q p) : TpAt H' q p := by
  cases p with
  | tx _ => exact s _ _ h
  | on _ => exact h
  | rw _ _ => exact ⟨s _ _ h.1, s _ _ h.2⟩
theorem TmAt.mono (s : Same H H') {t : Tr} {x : Addr} (h : TmAt H t x) : TmAt H' t x := by
  induction h with
  | mk hx hp hq hk hl _ ih => exact .mk (s _ _ hx) (s _ _ hp) (Paired.mapP hq fun _ _ z => z.mono s) hk hl ih
theorem SpAt.mono (s : Same H H') {L : List Pa} {x : Addr} (h : SpAt H L x) : SpAt H' L x :=
  let ⟨qs, h1, h2⟩ := h
  ⟨qs, s _ _ h1, Paired.mapP h2 fun _ _ z => z.mono s⟩
theorem TrAt.mono (s : Same H H') {C : Addr} {t : Tr} {x : Addr} (h : TrAt C H t x) : TrAt C H' t x := by
  induction h with
  | mk hx hg hr hk hb hl hs ht _ ih => exact .mk (s _ _ hx) (s _ _ hg) (fun r as hm => s _ _ (hr r as hm)) hk (s _ _ hb) hl (hs.mono s) (ht.mono s) ih
theorem PlanAt.mono (s : Same H H') {C f p x} (h : PlanAt C H f p x) : PlanAt C H' f p x := let ⟨dx, h⟩ := h; ⟨dx, s _ _ h⟩
theorem FormAt.mono (s : Same H H') {C f x} (h : FormAt C H f x) : FormAt C H' f x :=
  let ⟨dx, op, qs, h1, h2, h3⟩ := h
  ⟨dx, op, qs, s _ _ h1, s _ _ h2, Paired.mapP h3 fun _ _ z => s _ _ z⟩
theorem SchAt.mono (s : Same H H') {CS CF x} (h : SchAt CS CF H x) : SchAt CS CF H' x :=
  let ⟨dx, d, e, b, kvs, h1, h2, h3⟩ := h
  ⟨dx, d, e, b, kvs, s _ _ h1, s _ _ h2, fun f => let ⟨fa, e1, e2⟩ := h3 f; ⟨fa, e1, e2.mono s⟩⟩
theorem FlwAt.mono (s : Same H H') {CW CS CF CP P x} (h : FlwAt CW CS CF CP H P x) : FlwAt CW CS CF CP H' P x :=
  let ⟨dx, s1, b, c, kvs, h1, h2, h3, h4⟩ := h
  ⟨dx, s1, b, c, kvs, s _ _ h1, h2.mono s, s _ _ h3, fun f => let ⟨pa, e1, e2⟩ := h4 f; ⟨pa, e1, e2.mono s⟩⟩
end
theorem same_new {H : Hp} {p : Addr} (h : H p = none) (o : HO) : Same H (upd H p o) := fun b u q => by rw [upd_ne (ne_of_none q h)]; exact q
end Jz
end
section
set_option maxHeartbeats 4000000
/-! what the top has written, by names -/
namespace Jz
open PySem PySem.Spec PyProof.Rows L2 ClX
abbrev cA (K : PySem.W.Frag) (x : Str) : Addr := He.ga K x
/-- the def behind a property, a classmethod -/
def gA (K : PySem.W.Frag) (c m : Str) (t : String) : Addr := match PySem.W.recIn K (He.ma K (cA K c) m) t with
  | some (.ref g :: _) => g
  | _ => 0
def emptyA (K : PySem.W.Frag) : Addr := He.dflAt ("wrong_path", none) 0 K
def icB (K : PySem.W.Frag) (c : Str) : Bool := decide (PySem.W.findIn K (.ref (cA K c)) "__class__" = some (some (.builtin "object.__class__"))) && (decide (PySem.W.specialIn K (.builtin "object.__class__") "__get__" = some (some (.builtin "getset_descriptor.__get__"))) &&
  (decide (PySem.W.takesIn K (.builtin "object.__class__") = some true) && decide (PySem.W.mroIn K (cA K c) (.type "object") = some true)))
def propB (K : PySem.W.Frag) (c m : Str) : Bool := He.eqO (PySem.W.findIn K (.ref (cA K c)) m) (some (some (.ref (He.ma K (cA K c) m)))) && (decide (PySem.W.specialIn K (.ref (He.ma K (cA K c) m)) "__get__" = some (some (.builtin "property.__get__"))) &&
  (decide (PySem.W.takesIn K (.ref (He.ma K (cA K c) m)) = some true) && (match PySem.W.recIn K (He.ma K (cA K c) m) "property" with
    | some (.ref _ :: _) => true
    | _ => false)))
def creadB (K : PySem.W.Frag) (c : Str) : Bool := PySem.W.readsIn K (cA K c) (.type "type") && decide (PySem.W.specialIn K (.ref (cA K c)) "__getattribute__" = some (some (.builtin "type.__getattribute__")))
def cvalB (K : PySem.W.Frag) (c m : Str) (i : Int) : Bool := match PySem.W.findCls K (.ref (cA K c)) (.type "type") m with
  | some (.val (.int j _)) => decide (j = i)
  | _ => false
def cmetB (K : PySem.W.Frag) (c m : Str) : Bool := (match PySem.W.findCls K (.ref (cA K c)) (.type "type") m with
  | some (.get (.builtin x) (.ref p) .none (.ref q)) => decide (x = "classmethod.__get__") && (decide (p = He.ma K (cA K c) m) && decide (q = cA K c))
  | _ => false) && ((match PySem.W.recIn K (He.ma K (cA K c) m) "classmethod" with
    | some (.ref _ :: _) => true
    | _ => false) && PySem.W.fnIn K (gA K c m "classmethod"))
section
variable {K : PySem.W.Frag} {c m : Str}
open He (ba)
theorem icB_ok (h : icB K c = true) (cl : Cls K (cA K c)) {H : Hp} {a dx : Addr} {fs : List (Str × V)} (e : H a = some (.ins (cA K c) dx fs)) : TyX K H (.ref a) (.ref (cA K c)) := by
  obtain ⟨h1, h⟩ := ba h
  obtain ⟨h2, h⟩ := ba h
  obtain ⟨h3, h4⟩ := ba h
  exact .base (.ins e cl (of_decide_eq_true h1) (of_decide_eq_true h2) (of_decide_eq_true h3) (of_decide_eq_true h4))
theorem rec_head {p : Addr} {t : String} {g : Addr} (hg : g = match PySem.W.recIn K p t with
  | some (.ref g :: _) => g
  | _ => 0) (h : (match PySem.W.recIn K p t with
    | some (.ref _ :: _) => true
    | _ => false) = true) : ∃ rest, PySem.W.recIn K p t = some (.ref g :: rest) := by
  split at h
  · rename_i b r e
    rw [e] at hg
    exact ⟨r, by rw [e, hg]⟩
  · cases h
theorem propB_ok (h : propB K c m = true) : PropOf K (cA K c) m (He.ma K (cA K c) m) (gA K c m "property") := by
  obtain ⟨h1, h⟩ := ba h
  obtain ⟨h2, h⟩ := ba h
  obtain ⟨h3, h4⟩ := ba h
  exact ⟨He.eqO_ok h1, of_decide_eq_true h2, of_decide_eq_true h3, rec_head rfl h4⟩
theorem creadB_ok (h : creadB K c = true) : CRead K (cA K c) (.type "type") := by
  obtain ⟨h1, h2⟩ := ba h
  exact ⟨h1, of_decide_eq_true h2⟩
theorem cvalB_ok {i : Int} (h : cvalB K c m i = true) : ∃ u, CVal K (cA K c) (.type "type") m (.int i) u := by
  unfold cvalB at h
  split at h
  · rename_i j t e
    exact ⟨_, e, t, by rw [of_decide_eq_true h]⟩
  · cases h
theorem cmetB_ok (h : cmetB K c m = true) : CMet K (cA K c) (.type "type") m (He.ma K (cA K c) m) (gA K c m "classmethod") := by
  obtain ⟨h1, h⟩ := ba h
  obtain ⟨h2, h3⟩ := ba h
  split at h1
  · rename_i x p q e
    obtain ⟨e1, h1⟩ := ba h1
    obtain ⟨e2, e3⟩ := ba h1
    rw [of_decide_eq_true e1, of_decide_eq_true e2, of_decide_eq_true e3] at e
    exact ⟨e, rec_head rfl h2, h3⟩
  · cases h1
end
/-! ### defs -/
structure Dq where
  adr : PySem.W.Frag → Addr
  name : Str
  qual : Str
  params : Arguments
  body : List Stmt
  scope : Scope
  dfl : List He.Dv := []
  kwd : List (Str × He.Dv) := []
def Dq.fn (K : PySem.W.Frag) (d : Dq) : He.FnW := match K.lookup (d.adr K) with
  | some ⟨_, _, .func fd, _⟩ => some (fd.name, fd.qualname, fd.params, fd.body, fd.scope, fd.globals, fd.closure, fd.builtins)
  | _ => none
def Dq.val (d : Dq) : He.FnW := some (d.name, d.qual, d.params, .stmts d.body, d.scope, mainGlobals, [], builtinsNs)
def Dq.dvs (K : PySem.W.Frag) (d : Dq) : List V := d.dfl.map (He.Dv.v K)
def Dq.kws (K : PySem.W.Frag) (d : Dq) : List (Str × V) := d.kwd.map fun q => (q.1, q.2.v K)
def Dq.ok (K : PySem.W.Frag) (d : Dq) : Bool := PySem.W.keepIn K (.ref (d.adr K)) && (match K.lookup (d.adr K) with
  | some ⟨_, _, .func fd, _⟩ => PySem.W.codeIn K fd.code d.qual && (He.dflB K fd.defaults (d.dvs K) && He.kwdB K fd.kwdefaults (d.kws K))
  | _ => false)
theorem Dq.funD {K : PySem.W.Frag} {d : Dq} (e : d.fn K = d.val) (c : d.ok K = true) : ∃ fd, FunD K d.name d.qual d.params d.body d.scope (d.dvs K) (d.kws K) (d.adr K) fd := by
  obtain ⟨kp, c2⟩ := He.ba c
  unfold Dq.fn at e
  cases q : K.lookup (d.adr K) with
  | none =>
    rw [q] at c2
    cases c2
  | some o =>
    obtain ⟨oc, od, dt, osl⟩ := o
    rw [q] at c2 e
    cases dt with
    | func fd =>
      obtain ⟨n1, n2, n3, n4, n5, n6, n7, n8, n9, n10, n11, n12, n13, n14, n15⟩ := fd
      have e2 : (some (n1, n2, n3, n4, n5, n6, n7, n15) : He.FnW) = some (d.name, d.qual, d.params, .stmts d.body, d.scope, mainGlobals, [], builtinsNs) := e
      simp only [Option.some.injEq, Prod.mk.injEq] at e2
      obtain ⟨h1, h2, h3, h4, h5, h6, h7, h8⟩ := e2
      subst h1 h2 h3 h4 h5 h6 h7 h8
      have c3 : (PySem.W.codeIn K n13 d.qual && (He.dflB K n8 (d.dvs K) && He.kwdB K n9 (d.kws K))) = true := c2
      obtain ⟨k1, k2⟩ := He.ba c3
      obtain ⟨k3, k4⟩ := He.ba k2
      exact ⟨_, ⟨oc, od, n8, n9, n10, n11, n12, n13, n14, osl, rfl, q, k1, He.dflB_ok k3, He.kwdB_ok k4⟩, kp⟩
    | _ => cases c2
def fqL : List (PySem.W.Frag → Bool) := [
  fun K => He.Fa.ok K (.free "isinstance"),
  fun K => He.Fa.ok K (.free "str"),
  fun K => He.Fa.ok K (.free "len"),
  fun K => He.Fa.ok K (.free "all"),
  fun K => He.Fa.ok K (.free "tuple"),
  fun K => He.Fa.ok K (.free "bool"),
  fun K => He.Fa.ok K (.free "int"),
  fun K => He.Fa.ok K (.free "enumerate"),
  fun K => He.Fa.ok K (.free "sum"),
  fun K => He.Fa.ok K (.free "zip"),
  fun K => He.Fa.ok K (.free "range"),
  fun K => He.Fa.ok K (.free "list"),
  fun K => He.Fa.ok K (.free "dict"),
  fun K => He.Fa.ok K (.free "min"),
  fun K => He.Fa.ok K (.glo "is_name"),
  fun K => He.Fa.ok K (.glo "is_slot"),
  fun K => He.Fa.ok K (.glo "sorts_in"),
  fun K => He.Fa.ok K (.glo "children_of"),
  fun K => He.Fa.ok K (.glo "is_text"),
  fun K => He.Fa.ok K (.glo "is_row_of_trees"),
  fun K => He.Fa.ok K (.glo "term_of"),
  fun K => He.Fa.ok K (.glo "below_of"),
  fun K => He.Fa.ok K (.glo "spots_of"),
  fun K => He.Fa.ok K (.glo "greatest_height"),
  fun K => He.Fa.ok K (.glo "is_path"),
  fun K => He.Fa.ok K (.glo "kind_of_part"),
  fun K => He.Fa.ok K (.glo "kind_of_slot"),
  fun K => He.Fa.ok K (.glo "wrong_path"),
  fun K => He.Fa.ok K (.glo "check_tree"),
  fun K => He.Fa.ok K (.glo "has_right_parts")] ++ [
  fun K => He.Fa.ok K (.glo "next_points"),
  fun K => He.Fa.ok K (.glo "behind_deed"),
  fun K => He.Fa.ok K (.glo "behind_child"),
  fun K => He.Fa.ok K (.glo "come_to"),
  fun K => He.Fa.ok K (.glo "_law_mixed"),
  fun K => He.Fa.ok K (.glo "_law_folded"),
  fun K => He.Fa.ok K (.glo "_law_draw"),
  fun K => He.Fa.ok K (.glo "_law_begun"),
  fun K => He.Fa.ok K (.glo "_law_base"),
  fun K => He.Fa.ok K (.glo "_law_plans"),
  fun K => He.Fa.ok K (.glo "_law_flow"),
  fun K => He.Fa.ok K (.glo "_law_stmt"),
  fun K => He.Fa.ok K (.glo "_law_program"),
  fun K => He.Fa.ok K (.glo "_law_grown"),
  fun K => He.Fa.ok K (.glo "_law_mode"),
  fun K => He.Fa.ok K (.glo "_law_all"),
  fun K => He.Fa.ok K (.glo "_law_stopped"),
  fun K => He.Fa.ok K (.glo "_law_alike"),
  fun K => He.Fa.ok K (.glo "_law_ends_right"),
  fun K => He.Fa.ok K (.glo "law"),
  fun K => He.Fa.ok K (.glo "Form"),
  fun K => He.Fa.ok K (.glo "Schema"),
  fun K => He.Fa.ok K (.glo "Tree"),
  fun K => He.Fa.ok K (.glo "Rest"),
  fun K => He.Fa.ok K (.glo "Plan"),
  fun K => He.Fa.ok K (.glo "Flow"),
  fun K => He.Fa.ok K (.str "FIRST" "abcdefghijklmnopqrstuvwxyzABCDEFGHIJKLMNOPQRSTUVWXYZ"),
  fun K => He.Fa.ok K (.str "LATER" "abcdefghijklmnopqrstuvwxyzABCDEFGHIJKLMNOPQRSTUVWXYZ0123456789_"),
  fun K => He.Fa.ok K (.glo "ORDERS"),
  fun K => He.Fa.ok K (.glo "WORDS")] ++ [
  fun K => He.tupB K "ORDERS" [.str "steps", .str "choice", .str "loop", .str "stop", .str "leave", .str "again"],
  fun K => He.tupB K "WORDS" [.str "deed", .str "in", .str "out"],
  fun K => He.Fa.ok K (.cls "Form"),
  fun K => He.Fa.ok K (.noat "Form" "word"),
  fun K => He.Fa.ok K (.noat "Form" "own_kin"),
  fun K => He.Fa.ok K (.noat "Form" "openings"),
  fun K => He.Fa.ok K (.mkr "Form"),
  fun K => He.Fa.ok K (.cls "Schema"),
  fun K => He.Fa.ok K (.noat "Schema" "declared"),
  fun K => He.Fa.ok K (.noat "Schema" "by_word"),
  fun K => He.Fa.ok K (.noat "Schema" "kins"),
  fun K => He.Fa.ok K (.mkr "Schema"),
  fun K => He.Fa.ok K (.cls "Tree"),
  fun K => He.Fa.ok K (.noat "Tree" "kind"),
  fun K => He.Fa.ok K (.noat "Tree" "given"),
  fun K => He.Fa.ok K (.noat "Tree" "below"),
  fun K => He.Fa.ok K (.noat "Tree" "height"),
  fun K => He.Fa.ok K (.noat "Tree" "spots"),
  fun K => He.Fa.ok K (.noat "Tree" "term"),
  fun K => He.Fa.ok K (.mkr "Tree"),
  fun K => He.Fa.ok K (.cls "Plan"),
  fun K => He.Fa.ok K (.noat "Plan" "mode"),
  fun K => He.Fa.ok K (.noat "Plan" "setting"),
  fun K => He.Fa.ok K (.noat "Plan" "using"),
  fun K => He.Fa.ok K (.mkr "Plan"),
  fun K => He.Fa.ok K (.cls "Flow"),
  fun K => He.Fa.ok K (.noat "Flow" "basis"),
  fun K => He.Fa.ok K (.noat "Flow" "by_form"),
  fun K => He.Fa.ok K (.noat "Flow" "common"),
  fun K => He.Fa.ok K (.mkr "Flow")] ++ [
  fun K => icB K "Form",
  fun K => icB K "Tree",
  fun K => icB K "Plan",
  fun K => He.Fa.ok K (.meth "Schema" "__contains__"),
  fun K => He.Fa.ok K (.meth "Schema" "__getitem__"),
  fun K => He.Fa.ok K (.meth "Tree" "__getitem__"),
  fun K => He.Fa.ok K (.meth "Flow" "order_of"),
  fun K => He.Fa.ok K (.meth "Flow" "deed_of"),
  fun K => He.Fa.ok K (.meth "Flow" "deeds"),
  fun K => He.Fa.ok K (.meth "Flow" "unreached"),
  fun K => He.Fa.ok K (.meth "Flow" "unset_uses"),
  fun K => He.Fa.ok K (.meth "Flow" "idle_sets"),
  fun K => PySem.W.fnIn K (He.ma K (cA K "Schema") "__getitem__"),
  fun K => PySem.W.fnIn K (He.ma K (cA K "Tree") "__getitem__"),
  fun K => propB K "Form" "kin",
  fun K => propB K "Form" "slots",
  fun K => propB K "Tree" "form",
  fun K => propB K "Tree" "parts",
  fun K => propB K "Tree" "children",
  fun K => creadB K "Form",
  fun K => creadB K "Schema",
  fun K => creadB K "Tree",
  fun K => cvalB K "Form" "MAX_SLOTS" 5,
  fun K => cvalB K "Schema" "MAX_FORMS" 20,
  fun K => cvalB K "Tree" "MAX_NODES" 400,
  fun K => cvalB K "Tree" "MAX_LEVELS" 100,
  fun K => cmetB K "Form" "of",
  fun K => cmetB K "Schema" "of",
  fun K => decide (PySem.W.kitOne K (.ref (cA K "Tree")) (.ref (cA K "Tree")) = some true),
  fun K => decide (PySem.W.kitOne K (.ref (cA K "Form")) (.ref (cA K "Form")) = some true)] ++ [
  fun K => decide (PySem.W.kitOne K (.ref (cA K "Plan")) (.ref (cA K "Plan")) = some true),
  fun K => decide (PySem.W.kitOne K (.ref (cA K "Tree")) (.ref (cA K "Rest")) = some false),
  fun K => decide (PySem.W.kitOne K (.type "str") (.ref (cA K "Tree")) = some false),
  fun K => decide (PySem.W.kitOne K (.type "tuple") (.ref (cA K "Tree")) = some false),
  fun K => decide (PySem.W.kitOne K (.ref (cA K "Tree")) (.type "str") = some false),
  fun K => decide (PySem.W.kitOne K (.ref (cA K "Tree")) (.type "tuple") = some false),
  fun K => decide (PySem.W.kitOne K (.type "str") (.ref (cA K "Rest")) = some false),
  fun K => He.Fa.ok K (.keep "is_name"),
  fun K => He.Fa.ok K (.keep "is_slot"),
  fun K => He.Fa.ok K (.keep "sorts_in"),
  fun K => He.Fa.ok K (.keep "children_of"),
  fun K => He.Fa.ok K (.keep "is_text"),
  fun K => He.Fa.ok K (.keep "is_row_of_trees"),
  fun K => He.Fa.ok K (.keep "term_of"),
  fun K => He.Fa.ok K (.keep "below_of"),
  fun K => He.Fa.ok K (.keep "spots_of"),
  fun K => He.Fa.ok K (.keep "greatest_height"),
  fun K => He.Fa.ok K (.keep "is_path"),
  fun K => He.Fa.ok K (.keep "kind_of_part"),
  fun K => He.Fa.ok K (.keep "kind_of_slot"),
  fun K => He.Fa.ok K (.keep "wrong_path"),
  fun K => He.Fa.ok K (.keep "check_tree"),
  fun K => He.Fa.ok K (.keep "has_right_parts"),
  fun K => He.Fa.ok K (.keep "next_points"),
  fun K => He.Fa.ok K (.keep "behind_deed"),
  fun K => He.Fa.ok K (.keep "behind_child"),
  fun K => He.Fa.ok K (.keep "come_to"),
  fun K => He.Fa.ok K (.keep "_law_mixed"),
  fun K => He.Fa.ok K (.keep "_law_folded"),
  fun K => He.Fa.ok K (.keep "_law_draw")] ++ [
  fun K => He.Fa.ok K (.keep "_law_begun"),
  fun K => He.Fa.ok K (.keep "_law_base"),
  fun K => He.Fa.ok K (.keep "_law_plans"),
  fun K => He.Fa.ok K (.keep "_law_flow"),
  fun K => He.Fa.ok K (.keep "_law_stmt"),
  fun K => He.Fa.ok K (.keep "_law_program"),
  fun K => He.Fa.ok K (.keep "_law_grown"),
  fun K => He.Fa.ok K (.keep "_law_mode"),
  fun K => He.Fa.ok K (.keep "_law_all"),
  fun K => He.Fa.ok K (.keep "_law_stopped"),
  fun K => He.Fa.ok K (.keep "_law_alike"),
  fun K => He.Fa.ok K (.keep "_law_ends_right"),
  fun K => He.Fa.ok K (.keep "law")]
def dqL : List Dq := [
  { adr := fun K => cA K "is_name", name := "is_name", qual := "is_name", params := defArgs (top 15), body := defBody (top 15), scope := defScope (top 15) },
  { adr := fun K => cA K "is_slot", name := "is_slot", qual := "is_slot", params := defArgs (top 16), body := defBody (top 16), scope := defScope (top 16) },
  { adr := fun K => cA K "sorts_in", name := "sorts_in", qual := "sorts_in", params := defArgs (top 18), body := defBody (top 18), scope := defScope (top 18) },
  { adr := fun K => cA K "children_of", name := "children_of", qual := "children_of", params := defArgs (top 21), body := defBody (top 21), scope := defScope (top 21) },
  { adr := fun K => cA K "is_text", name := "is_text", qual := "is_text", params := defArgs (top 23), body := defBody (top 23), scope := defScope (top 23) },
  { adr := fun K => cA K "is_row_of_trees", name := "is_row_of_trees", qual := "is_row_of_trees", params := defArgs (top 24), body := defBody (top 24), scope := defScope (top 24) },
  { adr := fun K => cA K "term_of", name := "term_of", qual := "term_of", params := defArgs (top 25), body := defBody (top 25), scope := defScope (top 25) },
  { adr := fun K => cA K "below_of", name := "below_of", qual := "below_of", params := defArgs (top 28), body := defBody (top 28), scope := defScope (top 28) },
  { adr := fun K => cA K "spots_of", name := "spots_of", qual := "spots_of", params := defArgs (top 29), body := defBody (top 29), scope := defScope (top 29) },
  { adr := fun K => cA K "greatest_height", name := "greatest_height", qual := "greatest_height", params := defArgs (top 30), body := defBody (top 30), scope := defScope (top 30) },
  { adr := fun K => cA K "is_path", name := "is_path", qual := "is_path", params := defArgs (top 31), body := defBody (top 31), scope := defScope (top 31) },
  { adr := fun K => cA K "kind_of_part", name := "kind_of_part", qual := "kind_of_part", params := defArgs (top 34), body := defBody (top 34), scope := defScope (top 34) },
  { adr := fun K => cA K "kind_of_slot", name := "kind_of_slot", qual := "kind_of_slot", params := defArgs (top 35), body := defBody (top 35), scope := defScope (top 35) },
  { adr := fun K => cA K "wrong_path", name := "wrong_path", qual := "wrong_path", params := defArgs (top 36), body := defBody (top 36), scope := defScope (top 36), dfl := [.adr emptyA] },
  { adr := fun K => cA K "check_tree", name := "check_tree", qual := "check_tree", params := defArgs (top 37), body := defBody (top 37), scope := defScope (top 37) },
  { adr := fun K => cA K "has_right_parts", name := "has_right_parts", qual := "has_right_parts", params := defArgs (top 38), body := defBody (top 38), scope := defScope (top 38) },
  { adr := fun K => cA K "next_points", name := "next_points", qual := "next_points", params := defArgs (top 44), body := defBody (top 44), scope := defScope (top 44) },
  { adr := fun K => cA K "behind_deed", name := "behind_deed", qual := "behind_deed", params := defArgs (top 45), body := defBody (top 45), scope := defScope (top 45) },
  { adr := fun K => cA K "behind_child", name := "behind_child", qual := "behind_child", params := defArgs (top 46), body := defBody (top 46), scope := defScope (top 46) },
  { adr := fun K => cA K "come_to", name := "come_to", qual := "come_to", params := defArgs (top 47), body := defBody (top 47), scope := defScope (top 47) },
  { adr := fun K => cA K "_law_mixed", name := "_law_mixed", qual := "_law_mixed", params := defArgs (top 49), body := defBody (top 49), scope := defScope (top 49) },
  { adr := fun K => cA K "_law_folded", name := "_law_folded", qual := "_law_folded", params := defArgs (top 50), body := defBody (top 50), scope := defScope (top 50) },
  { adr := fun K => cA K "_law_draw", name := "_law_draw", qual := "_law_draw", params := defArgs (top 51), body := defBody (top 51), scope := defScope (top 51) },
  { adr := fun K => cA K "_law_begun", name := "_law_begun", qual := "_law_begun", params := defArgs (top 52), body := defBody (top 52), scope := defScope (top 52) },
  { adr := fun K => cA K "_law_base", name := "_law_base", qual := "_law_base", params := defArgs (top 53), body := defBody (top 53), scope := defScope (top 53) },
  { adr := fun K => cA K "_law_plans", name := "_law_plans", qual := "_law_plans", params := defArgs (top 54), body := defBody (top 54), scope := defScope (top 54) },
  { adr := fun K => cA K "_law_flow", name := "_law_flow", qual := "_law_flow", params := defArgs (top 55), body := defBody (top 55), scope := defScope (top 55) },
  { adr := fun K => cA K "_law_stmt", name := "_law_stmt", qual := "_law_stmt", params := defArgs (top 56), body := defBody (top 56), scope := defScope (top 56) },
  { adr := fun K => cA K "_law_program", name := "_law_program", qual := "_law_program", params := defArgs (top 57), body := defBody (top 57), scope := defScope (top 57) },
  { adr := fun K => cA K "_law_grown", name := "_law_grown", qual := "_law_grown", params := defArgs (top 58), body := defBody (top 58), scope := defScope (top 58) }] ++ [
  { adr := fun K => cA K "_law_mode", name := "_law_mode", qual := "_law_mode", params := defArgs (top 59), body := defBody (top 59), scope := defScope (top 59) },
  { adr := fun K => cA K "_law_all", name := "_law_all", qual := "_law_all", params := defArgs (top 60), body := defBody (top 60), scope := defScope (top 60) },
  { adr := fun K => cA K "_law_stopped", name := "_law_stopped", qual := "_law_stopped", params := defArgs (top 61), body := defBody (top 61), scope := defScope (top 61) },
  { adr := fun K => cA K "_law_alike", name := "_law_alike", qual := "_law_alike", params := defArgs (top 62), body := defBody (top 62), scope := defScope (top 62) },
  { adr := fun K => cA K "_law_ends_right", name := "_law_ends_right", qual := "_law_ends_right", params := defArgs (top 63), body := defBody (top 63), scope := defScope (top 63) },
  { adr := fun K => cA K "law", name := "law", qual := "law", params := defArgs (top 64), body := defBody (top 64), scope := defScope (top 64) },
  { adr := fun K => He.ma K (cA K "Form") "__init__", name := "__init__", qual := "Form.__init__", params := defArgs (inC 17 1), body := defBody (inC 17 1), scope := defScope (inC 17 1) },
  { adr := fun K => He.ma K (cA K "Schema") "__init__", name := "__init__", qual := "Schema.__init__", params := defArgs (inC 19 1), body := defBody (inC 19 1), scope := defScope (inC 19 1) },
  { adr := fun K => He.ma K (cA K "Schema") "__contains__", name := "__contains__", qual := "Schema.__contains__", params := defArgs (inC 19 5), body := defBody (inC 19 5), scope := defScope (inC 19 5) },
  { adr := fun K => He.ma K (cA K "Schema") "__getitem__", name := "__getitem__", qual := "Schema.__getitem__", params := defArgs (inC 19 6), body := defBody (inC 19 6), scope := defScope (inC 19 6) },
  { adr := fun K => He.ma K (cA K "Tree") "__init__", name := "__init__", qual := "Tree.__init__", params := defArgs (inC 27 2), body := defBody (inC 27 2), scope := defScope (inC 27 2) },
  { adr := fun K => He.ma K (cA K "Tree") "__getitem__", name := "__getitem__", qual := "Tree.__getitem__", params := defArgs (inC 27 11), body := defBody (inC 27 11), scope := defScope (inC 27 11) },
  { adr := fun K => He.ma K (cA K "Plan") "__init__", name := "__init__", qual := "Plan.__init__", params := defArgs (inC 42 0), body := defBody (inC 42 0), scope := defScope (inC 42 0), dfl := [.str "steps"], kwd := [("sets", .non), ("uses", .non)] },
  { adr := fun K => He.ma K (cA K "Flow") "__init__", name := "__init__", qual := "Flow.__init__", params := defArgs (inC 43 0), body := defBody (inC 43 0), scope := defScope (inC 43 0) },
  { adr := fun K => He.ma K (cA K "Flow") "order_of", name := "order_of", qual := "Flow.order_of", params := defArgs (inC 43 3), body := defBody (inC 43 3), scope := defScope (inC 43 3) },
  { adr := fun K => He.ma K (cA K "Flow") "deed_of", name := "deed_of", qual := "Flow.deed_of", params := defArgs (inC 43 4), body := defBody (inC 43 4), scope := defScope (inC 43 4) },
  { adr := fun K => He.ma K (cA K "Flow") "deeds", name := "deeds", qual := "Flow.deeds", params := defArgs (inC 43 5), body := defBody (inC 43 5), scope := defScope (inC 43 5) },
  { adr := fun K => He.ma K (cA K "Flow") "unreached", name := "unreached", qual := "Flow.unreached", params := defArgs (inC 43 16), body := defBody (inC 43 16), scope := defScope (inC 43 16) },
  { adr := fun K => He.ma K (cA K "Flow") "unset_uses", name := "unset_uses", qual := "Flow.unset_uses", params := defArgs (inC 43 17), body := defBody (inC 43 17), scope := defScope (inC 43 17) },
  { adr := fun K => He.ma K (cA K "Flow") "idle_sets", name := "idle_sets", qual := "Flow.idle_sets", params := defArgs (inC 43 18), body := defBody (inC 43 18), scope := defScope (inC 43 18) },
  { adr := fun K => gA K "Form" "kin" "property", name := "kin", qual := "Form.kin", params := defArgs (inC 17 4), body := defBody (inC 17 4), scope := defScope (inC 17 4) },
  { adr := fun K => gA K "Form" "slots" "property", name := "slots", qual := "Form.slots", params := defArgs (inC 17 5), body := defBody (inC 17 5), scope := defScope (inC 17 5) },
  { adr := fun K => gA K "Tree" "form" "property", name := "form", qual := "Tree.form", params := defArgs (inC 27 3), body := defBody (inC 27 3), scope := defScope (inC 27 3) },
  { adr := fun K => gA K "Tree" "parts" "property", name := "parts", qual := "Tree.parts", params := defArgs (inC 27 4), body := defBody (inC 27 4), scope := defScope (inC 27 4) },
  { adr := fun K => gA K "Tree" "children" "property", name := "children", qual := "Tree.children", params := defArgs (inC 27 5), body := defBody (inC 27 5), scope := defScope (inC 27 5) },
  { adr := fun K => gA K "Form" "of" "classmethod", name := "of", qual := "Form.of", params := defArgs (inC 17 2), body := defBody (inC 17 2), scope := defScope (inC 17 2) },
  { adr := fun K => gA K "Schema" "of" "classmethod", name := "of", qual := "Schema.of", params := defArgs (inC 19 2), body := defBody (inC 19 2), scope := defScope (inC 19 2) }]
def obsQ (K : PySem.W.Frag) : He.AlD := ((fqL.all fun f => f K) && dqL.all fun d => d.ok K, dqL.map fun d => d.fn K)
def valQ : He.AlD := (true, dqL.map Dq.val)
structure Tx (K : PySem.W.Frag) (mg : Str → Option Value) : Prop where
  ex : ∃ h : Heap, K.In h ∧ h.Ns mainGlobals mg
  ob : obsQ K = valQ
section
variable {K : PySem.W.Frag} {mg : Str → Option Value}
theorem Tx.fact (T : Tx K mg) {i : Nat} {f : PySem.W.Frag → Bool} (h : fqL[i]? = some f) : f K = true := by
  have c1 := (He.ba (show ((fqL.all fun f => f K) && dqL.all fun d => d.ok K) = true from congrArg (fun z : He.AlD => z.1) T.ob)).1
  exact List.all_eq_true.mp c1 f (List.mem_of_getElem? h)
theorem Tx.def_ (T : Tx K mg) {i : Nat} {d : Dq} (h : dqL[i]? = some d) : ∃ fd, FunD K d.name d.qual d.params d.body d.scope (d.dvs K) (d.kws K) (d.adr K) fd := by
  have c2 := (He.ba (show ((fqL.all fun f => f K) && dqL.all fun d => d.ok K) = true from congrArg (fun z : He.AlD => z.1) T.ob)).2
  have e : dqL.map (fun d => d.fn K) = dqL.map Dq.val := congrArg (fun z : He.AlD => z.2) T.ob
  have e2 : (dqL.map fun d => d.fn K)[i]? = (dqL.map Dq.val)[i]? := by rw [e]
  rw [List.getElem?_map, List.getElem?_map, h] at e2
  exact Dq.funD (Option.some.inj e2) (List.all_eq_true.mp c2 d (List.mem_of_getElem? h))
theorem Tx.free_ (T : Tx K mg) {x : Str} (h : (He.Fa.free x).ok K = true) : mg x = none := let ⟨_, X, G⟩ := T.ex; He.free_ok X G h
theorem Tx.glo_ (T : Tx K mg) {x : Str} (h : (He.Fa.glo x).ok K = true) : mg x = some (.ref (cA K x)) := let ⟨_, X, G⟩ := T.ex; He.glo_ok X G h
theorem Tx.str_ (T : Tx K mg) {x z : Str} (h : (He.Fa.str x z).ok K = true) : ∃ t, mg x = some (.str z t) := let ⟨_, X, G⟩ := T.ex; He.str_ok X G h
theorem Tx.n_isinstance (T : Tx K mg) : mg "isinstance" = none := T.free_ (T.fact (i := 0) rfl)
theorem Tx.n_str (T : Tx K mg) : mg "str" = none := T.free_ (T.fact (i := 1) rfl)
theorem Tx.n_len (T : Tx K mg) : mg "len" = none := T.free_ (T.fact (i := 2) rfl)
theorem Tx.n_all (T : Tx K mg) : mg "all" = none := T.free_ (T.fact (i := 3) rfl)
theorem Tx.n_tuple (T : Tx K mg) : mg "tuple" = none := T.free_ (T.fact (i := 4) rfl)
theorem Tx.n_bool (T : Tx K mg) : mg "bool" = none := T.free_ (T.fact (i := 5) rfl)
theorem Tx.n_int (T : Tx K mg) : mg "int" = none := T.free_ (T.fact (i := 6) rfl)
theorem Tx.n_enumerate (T : Tx K mg) : mg "enumerate" = none := T.free_ (T.fact (i := 7) rfl)
theorem Tx.n_sum (T : Tx K mg) : mg "sum" = none := T.free_ (T.fact (i := 8) rfl)
theorem Tx.n_zip (T : Tx K mg) : mg "zip" = none := T.free_ (T.fact (i := 9) rfl)
theorem Tx.n_range (T : Tx K mg) : mg "range" = none := T.free_ (T.fact (i := 10) rfl)
theorem Tx.n_list (T : Tx K mg) : mg "list" = none := T.free_ (T.fact (i := 11) rfl)
theorem Tx.n_dict (T : Tx K mg) : mg "dict" = none := T.free_ (T.fact (i := 12) rfl)
theorem Tx.n_min (T : Tx K mg) : mg "min" = none := T.free_ (T.fact (i := 13) rfl)
theorem Tx.m_is_name (T : Tx K mg) : mg "is_name" = some (.ref (cA K "is_name")) := T.glo_ (T.fact (i := 14) rfl)
theorem Tx.m_is_slot (T : Tx K mg) : mg "is_slot" = some (.ref (cA K "is_slot")) := T.glo_ (T.fact (i := 15) rfl)
theorem Tx.m_sorts_in (T : Tx K mg) : mg "sorts_in" = some (.ref (cA K "sorts_in")) := T.glo_ (T.fact (i := 16) rfl)
theorem Tx.m_children_of (T : Tx K mg) : mg "children_of" = some (.ref (cA K "children_of")) := T.glo_ (T.fact (i := 17) rfl)
theorem Tx.m_is_text (T : Tx K mg) : mg "is_text" = some (.ref (cA K "is_text")) := T.glo_ (T.fact (i := 18) rfl)
theorem Tx.m_is_row_of_trees (T : Tx K mg) : mg "is_row_of_trees" = some (.ref (cA K "is_row_of_trees")) := T.glo_ (T.fact (i := 19) rfl)
theorem Tx.m_term_of (T : Tx K mg) : mg "term_of" = some (.ref (cA K "term_of")) := T.glo_ (T.fact (i := 20) rfl)
theorem Tx.m_below_of (T : Tx K mg) : mg "below_of" = some (.ref (cA K "below_of")) := T.glo_ (T.fact (i := 21) rfl)
theorem Tx.m_spots_of (T : Tx K mg) : mg "spots_of" = some (.ref (cA K "spots_of")) := T.glo_ (T.fact (i := 22) rfl)
theorem Tx.m_greatest_height (T : Tx K mg) : mg "greatest_height" = some (.ref (cA K "greatest_height")) := T.glo_ (T.fact (i := 23) rfl)
theorem Tx.m_is_path (T : Tx K mg) : mg "is_path" = some (.ref (cA K "is_path")) := T.glo_ (T.fact (i := 24) rfl)
theorem Tx.m_kind_of_part (T : Tx K mg) : mg "kind_of_part" = some (.ref (cA K "kind_of_part")) := T.glo_ (T.fact (i := 25) rfl)
theorem Tx.m_kind_of_slot (T : Tx K mg) : mg "kind_of_slot" = some (.ref (cA K "kind_of_slot")) := T.glo_ (T.fact (i := 26) rfl)
theorem Tx.m_wrong_path (T : Tx K mg) : mg "wrong_path" = some (.ref (cA K "wrong_path")) := T.glo_ (T.fact (i := 27) rfl)
theorem Tx.m_check_tree (T : Tx K mg) : mg "check_tree" = some (.ref (cA K "check_tree")) := T.glo_ (T.fact (i := 28) rfl)
theorem Tx.m_has_right_parts (T : Tx K mg) : mg "has_right_parts" = some (.ref (cA K "has_right_parts")) := T.glo_ (T.fact (i := 29) rfl)
theorem Tx.m_next_points (T : Tx K mg) : mg "next_points" = some (.ref (cA K "next_points")) := T.glo_ (T.fact (i := 30) rfl)
theorem Tx.m_behind_deed (T : Tx K mg) : mg "behind_deed" = some (.ref (cA K "behind_deed")) := T.glo_ (T.fact (i := 31) rfl)
theorem Tx.m_behind_child (T : Tx K mg) : mg "behind_child" = some (.ref (cA K "behind_child")) := T.glo_ (T.fact (i := 32) rfl)
theorem Tx.m_come_to (T : Tx K mg) : mg "come_to" = some (.ref (cA K "come_to")) := T.glo_ (T.fact (i := 33) rfl)
theorem Tx.m__law_mixed (T : Tx K mg) : mg "_law_mixed" = some (.ref (cA K "_law_mixed")) := T.glo_ (T.fact (i := 34) rfl)
theorem Tx.m__law_folded (T : Tx K mg) : mg "_law_folded" = some (.ref (cA K "_law_folded")) := T.glo_ (T.fact (i := 35) rfl)
theorem Tx.m__law_draw (T : Tx K mg) : mg "_law_draw" = some (.ref (cA K "_law_draw")) := T.glo_ (T.fact (i := 36) rfl)
theorem Tx.m__law_begun (T : Tx K mg) : mg "_law_begun" = some (.ref (cA K "_law_begun")) := T.glo_ (T.fact (i := 37) rfl)
theorem Tx.m__law_base (T : Tx K mg) : mg "_law_base" = some (.ref (cA K "_law_base")) := T.glo_ (T.fact (i := 38) rfl)
theorem Tx.m__law_plans (T : Tx K mg) : mg "_law_plans" = some (.ref (cA K "_law_plans")) := T.glo_ (T.fact (i := 39) rfl)
theorem Tx.m__law_flow (T : Tx K mg) : mg "_law_flow" = some (.ref (cA K "_law_flow")) := T.glo_ (T.fact (i := 40) rfl)
theorem Tx.m__law_stmt (T : Tx K mg) : mg "_law_stmt" = some (.ref (cA K "_law_stmt")) := T.glo_ (T.fact (i := 41) rfl)
theorem Tx.m__law_program (T : Tx K mg) : mg "_law_program" = some (.ref (cA K "_law_program")) := T.glo_ (T.fact (i := 42) rfl)
theorem Tx.m__law_grown (T : Tx K mg) : mg "_law_grown" = some (.ref (cA K "_law_grown")) := T.glo_ (T.fact (i := 43) rfl)
theorem Tx.m__law_mode (T : Tx K mg) : mg "_law_mode" = some (.ref (cA K "_law_mode")) := T.glo_ (T.fact (i := 44) rfl)
theorem Tx.m__law_all (T : Tx K mg) : mg "_law_all" = some (.ref (cA K "_law_all")) := T.glo_ (T.fact (i := 45) rfl)
theorem Tx.m__law_stopped (T : Tx K mg) : mg "_law_stopped" = some (.ref (cA K "_law_stopped")) := T.glo_ (T.fact (i := 46) rfl)
theorem Tx.m__law_alike (T : Tx K mg) : mg "_law_alike" = some (.ref (cA K "_law_alike")) := T.glo_ (T.fact (i := 47) rfl)
theorem Tx.m__law_ends_right (T : Tx K mg) : mg "_law_ends_right" = some (.ref (cA K "_law_ends_right")) := T.glo_ (T.fact (i := 48) rfl)
theorem Tx.m_law (T : Tx K mg) : mg "law" = some (.ref (cA K "law")) := T.glo_ (T.fact (i := 49) rfl)
theorem Tx.m_Form (T : Tx K mg) : mg "Form" = some (.ref (cA K "Form")) := T.glo_ (T.fact (i := 50) rfl)
theorem Tx.m_Schema (T : Tx K mg) : mg "Schema" = some (.ref (cA K "Schema")) := T.glo_ (T.fact (i := 51) rfl)
theorem Tx.m_Tree (T : Tx K mg) : mg "Tree" = some (.ref (cA K "Tree")) := T.glo_ (T.fact (i := 52) rfl)
theorem Tx.m_Rest (T : Tx K mg) : mg "Rest" = some (.ref (cA K "Rest")) := T.glo_ (T.fact (i := 53) rfl)
theorem Tx.m_Plan (T : Tx K mg) : mg "Plan" = some (.ref (cA K "Plan")) := T.glo_ (T.fact (i := 54) rfl)
theorem Tx.m_Flow (T : Tx K mg) : mg "Flow" = some (.ref (cA K "Flow")) := T.glo_ (T.fact (i := 55) rfl)
theorem Tx.v_FIRST (T : Tx K mg) : ∃ t, mg "FIRST" = some (.str "abcdefghijklmnopqrstuvwxyzABCDEFGHIJKLMNOPQRSTUVWXYZ" t) := T.str_ (T.fact (i := 56) rfl)
theorem Tx.v_LATER (T : Tx K mg) : ∃ t, mg "LATER" = some (.str "abcdefghijklmnopqrstuvwxyzABCDEFGHIJKLMNOPQRSTUVWXYZ0123456789_" t) := T.str_ (T.fact (i := 57) rfl)
theorem Tx.m_ORDERS (T : Tx K mg) : mg "ORDERS" = some (.ref (cA K "ORDERS")) := T.glo_ (T.fact (i := 58) rfl)
theorem Tx.m_WORDS (T : Tx K mg) : mg "WORDS" = some (.ref (cA K "WORDS")) := T.glo_ (T.fact (i := 59) rfl)
theorem Tx.t_ORDERS (T : Tx K mg) : ∀ H, SqT K H (cA K "ORDERS") ([.str "steps", .str "choice", .str "loop", .str "stop", .str "leave", .str "again"] : List V) := fun H => He.tupB_ok (T.fact (i := 60) rfl) H
theorem Tx.t_WORDS (T : Tx K mg) : ∀ H, SqT K H (cA K "WORDS") ([.str "deed", .str "in", .str "out"] : List V) := fun H => He.tupB_ok (T.fact (i := 61) rfl) H
theorem Tx.c_Form (T : Tx K mg) : Cls K (cA K "Form") := He.cls_ok (T.fact (i := 62) rfl)
theorem Tx.a_Form_word (T : Tx K mg) : NoAttr K (cA K "Form") "word" := He.noat_ok (T.fact (i := 63) rfl)
theorem Tx.a_Form_own_kin (T : Tx K mg) : NoAttr K (cA K "Form") "own_kin" := He.noat_ok (T.fact (i := 64) rfl)
theorem Tx.a_Form_openings (T : Tx K mg) : NoAttr K (cA K "Form") "openings" := He.noat_ok (T.fact (i := 65) rfl)
theorem Tx.k_Form (T : Tx K mg) : Mk K (cA K "Form") (He.ma K (cA K "Form") "__init__") := He.mkr_ok (T.fact (i := 66) rfl)
theorem Tx.c_Schema (T : Tx K mg) : Cls K (cA K "Schema") := He.cls_ok (T.fact (i := 67) rfl)
theorem Tx.a_Schema_declared (T : Tx K mg) : NoAttr K (cA K "Schema") "declared" := He.noat_ok (T.fact (i := 68) rfl)
theorem Tx.a_Schema_by_word (T : Tx K mg) : NoAttr K (cA K "Schema") "by_word" := He.noat_ok (T.fact (i := 69) rfl)
theorem Tx.a_Schema_kins (T : Tx K mg) : NoAttr K (cA K "Schema") "kins" := He.noat_ok (T.fact (i := 70) rfl)
theorem Tx.k_Schema (T : Tx K mg) : Mk K (cA K "Schema") (He.ma K (cA K "Schema") "__init__") := He.mkr_ok (T.fact (i := 71) rfl)
theorem Tx.c_Tree (T : Tx K mg) : Cls K (cA K "Tree") := He.cls_ok (T.fact (i := 72) rfl)
theorem Tx.a_Tree_kind (T : Tx K mg) : NoAttr K (cA K "Tree") "kind" := He.noat_ok (T.fact (i := 73) rfl)
theorem Tx.a_Tree_given (T : Tx K mg) : NoAttr K (cA K "Tree") "given" := He.noat_ok (T.fact (i := 74) rfl)
theorem Tx.a_Tree_below (T : Tx K mg) : NoAttr K (cA K "Tree") "below" := He.noat_ok (T.fact (i := 75) rfl)
theorem Tx.a_Tree_height (T : Tx K mg) : NoAttr K (cA K "Tree") "height" := He.noat_ok (T.fact (i := 76) rfl)
theorem Tx.a_Tree_spots (T : Tx K mg) : NoAttr K (cA K "Tree") "spots" := He.noat_ok (T.fact (i := 77) rfl)
theorem Tx.a_Tree_term (T : Tx K mg) : NoAttr K (cA K "Tree") "term" := He.noat_ok (T.fact (i := 78) rfl)
theorem Tx.k_Tree (T : Tx K mg) : Mk K (cA K "Tree") (He.ma K (cA K "Tree") "__init__") := He.mkr_ok (T.fact (i := 79) rfl)
theorem Tx.c_Plan (T : Tx K mg) : Cls K (cA K "Plan") := He.cls_ok (T.fact (i := 80) rfl)
theorem Tx.a_Plan_mode (T : Tx K mg) : NoAttr K (cA K "Plan") "mode" := He.noat_ok (T.fact (i := 81) rfl)
theorem Tx.a_Plan_setting (T : Tx K mg) : NoAttr K (cA K "Plan") "setting" := He.noat_ok (T.fact (i := 82) rfl)
theorem Tx.a_Plan_using (T : Tx K mg) : NoAttr K (cA K "Plan") "using" := He.noat_ok (T.fact (i := 83) rfl)
theorem Tx.k_Plan (T : Tx K mg) : Mk K (cA K "Plan") (He.ma K (cA K "Plan") "__init__") := He.mkr_ok (T.fact (i := 84) rfl)
theorem Tx.c_Flow (T : Tx K mg) : Cls K (cA K "Flow") := He.cls_ok (T.fact (i := 85) rfl)
theorem Tx.a_Flow_basis (T : Tx K mg) : NoAttr K (cA K "Flow") "basis" := He.noat_ok (T.fact (i := 86) rfl)
theorem Tx.a_Flow_by_form (T : Tx K mg) : NoAttr K (cA K "Flow") "by_form" := He.noat_ok (T.fact (i := 87) rfl)
theorem Tx.a_Flow_common (T : Tx K mg) : NoAttr K (cA K "Flow") "common" := He.noat_ok (T.fact (i := 88) rfl)
theorem Tx.k_Flow (T : Tx K mg) : Mk K (cA K "Flow") (He.ma K (cA K "Flow") "__init__") := He.mkr_ok (T.fact (i := 89) rfl)
theorem Tx.i_Form (T : Tx K mg) : ∀ {H : Hp} {a dx : Addr} {fs : List (Str × V)}, H a = some (.ins (cA K "Form") dx fs) → TyX K H (.ref a) (.ref (cA K "Form")) := fun e => icB_ok (T.fact (i := 90) rfl) T.c_Form e
theorem Tx.i_Tree (T : Tx K mg) : ∀ {H : Hp} {a dx : Addr} {fs : List (Str × V)}, H a = some (.ins (cA K "Tree") dx fs) → TyX K H (.ref a) (.ref (cA K "Tree")) := fun e => icB_ok (T.fact (i := 91) rfl) T.c_Tree e
theorem Tx.i_Plan (T : Tx K mg) : ∀ {H : Hp} {a dx : Addr} {fs : List (Str × V)}, H a = some (.ins (cA K "Plan") dx fs) → TyX K H (.ref a) (.ref (cA K "Plan")) := fun e => icB_ok (T.fact (i := 92) rfl) T.c_Plan e
theorem Tx.h_Schema___contains__ (T : Tx K mg) : Meth K (cA K "Schema") "__contains__" (He.ma K (cA K "Schema") "__contains__") := He.meth_ok (T.fact (i := 93) rfl)
theorem Tx.h_Schema___getitem__ (T : Tx K mg) : Meth K (cA K "Schema") "__getitem__" (He.ma K (cA K "Schema") "__getitem__") := He.meth_ok (T.fact (i := 94) rfl)
theorem Tx.h_Tree___getitem__ (T : Tx K mg) : Meth K (cA K "Tree") "__getitem__" (He.ma K (cA K "Tree") "__getitem__") := He.meth_ok (T.fact (i := 95) rfl)
theorem Tx.h_Flow_order_of (T : Tx K mg) : Meth K (cA K "Flow") "order_of" (He.ma K (cA K "Flow") "order_of") := He.meth_ok (T.fact (i := 96) rfl)
theorem Tx.h_Flow_deed_of (T : Tx K mg) : Meth K (cA K "Flow") "deed_of" (He.ma K (cA K "Flow") "deed_of") := He.meth_ok (T.fact (i := 97) rfl)
theorem Tx.h_Flow_deeds (T : Tx K mg) : Meth K (cA K "Flow") "deeds" (He.ma K (cA K "Flow") "deeds") := He.meth_ok (T.fact (i := 98) rfl)
theorem Tx.h_Flow_unreached (T : Tx K mg) : Meth K (cA K "Flow") "unreached" (He.ma K (cA K "Flow") "unreached") := He.meth_ok (T.fact (i := 99) rfl)
theorem Tx.h_Flow_unset_uses (T : Tx K mg) : Meth K (cA K "Flow") "unset_uses" (He.ma K (cA K "Flow") "unset_uses") := He.meth_ok (T.fact (i := 100) rfl)
theorem Tx.h_Flow_idle_sets (T : Tx K mg) : Meth K (cA K "Flow") "idle_sets" (He.ma K (cA K "Flow") "idle_sets") := He.meth_ok (T.fact (i := 101) rfl)
theorem Tx.fi_Schema (T : Tx K mg) : PySem.W.fnIn K (He.ma K (cA K "Schema") "__getitem__") = true := (T.fact (i := 102) rfl)
theorem Tx.fi_Tree (T : Tx K mg) : PySem.W.fnIn K (He.ma K (cA K "Tree") "__getitem__") = true := (T.fact (i := 103) rfl)
theorem Tx.p_Form_kin (T : Tx K mg) : PropOf K (cA K "Form") "kin" (He.ma K (cA K "Form") "kin") (gA K "Form" "kin" "property") := propB_ok (T.fact (i := 104) rfl)
theorem Tx.p_Form_slots (T : Tx K mg) : PropOf K (cA K "Form") "slots" (He.ma K (cA K "Form") "slots") (gA K "Form" "slots" "property") := propB_ok (T.fact (i := 105) rfl)
theorem Tx.p_Tree_form (T : Tx K mg) : PropOf K (cA K "Tree") "form" (He.ma K (cA K "Tree") "form") (gA K "Tree" "form" "property") := propB_ok (T.fact (i := 106) rfl)
theorem Tx.p_Tree_parts (T : Tx K mg) : PropOf K (cA K "Tree") "parts" (He.ma K (cA K "Tree") "parts") (gA K "Tree" "parts" "property") := propB_ok (T.fact (i := 107) rfl)
theorem Tx.p_Tree_children (T : Tx K mg) : PropOf K (cA K "Tree") "children" (He.ma K (cA K "Tree") "children") (gA K "Tree" "children" "property") := propB_ok (T.fact (i := 108) rfl)
theorem Tx.r_Form (T : Tx K mg) : CRead K (cA K "Form") (.type "type") := creadB_ok (T.fact (i := 109) rfl)
theorem Tx.r_Schema (T : Tx K mg) : CRead K (cA K "Schema") (.type "type") := creadB_ok (T.fact (i := 110) rfl)
theorem Tx.r_Tree (T : Tx K mg) : CRead K (cA K "Tree") (.type "type") := creadB_ok (T.fact (i := 111) rfl)
theorem Tx.w_Form_MAX_SLOTS (T : Tx K mg) : ∃ u, CVal K (cA K "Form") (.type "type") "MAX_SLOTS" (.int 5) u := cvalB_ok (T.fact (i := 112) rfl)
theorem Tx.w_Schema_MAX_FORMS (T : Tx K mg) : ∃ u, CVal K (cA K "Schema") (.type "type") "MAX_FORMS" (.int 20) u := cvalB_ok (T.fact (i := 113) rfl)
theorem Tx.w_Tree_MAX_NODES (T : Tx K mg) : ∃ u, CVal K (cA K "Tree") (.type "type") "MAX_NODES" (.int 400) u := cvalB_ok (T.fact (i := 114) rfl)
theorem Tx.w_Tree_MAX_LEVELS (T : Tx K mg) : ∃ u, CVal K (cA K "Tree") (.type "type") "MAX_LEVELS" (.int 100) u := cvalB_ok (T.fact (i := 115) rfl)
theorem Tx.q_Form_of (T : Tx K mg) : CMet K (cA K "Form") (.type "type") "of" (He.ma K (cA K "Form") "of") (gA K "Form" "of" "classmethod") := cmetB_ok (T.fact (i := 116) rfl)
theorem Tx.q_Schema_of (T : Tx K mg) : CMet K (cA K "Schema") (.type "type") "of" (He.ma K (cA K "Schema") "of") (gA K "Schema" "of" "classmethod") := cmetB_ok (T.fact (i := 117) rfl)
theorem Tx.kit_Tree_Tree (T : Tx K mg) : PySem.W.kitOne K (.ref (cA K "Tree")) (.ref (cA K "Tree")) = some true := of_decide_eq_true (T.fact (i := 118) rfl)
theorem Tx.kit_Form_Form (T : Tx K mg) : PySem.W.kitOne K (.ref (cA K "Form")) (.ref (cA K "Form")) = some true := of_decide_eq_true (T.fact (i := 119) rfl)
theorem Tx.kit_Plan_Plan (T : Tx K mg) : PySem.W.kitOne K (.ref (cA K "Plan")) (.ref (cA K "Plan")) = some true := of_decide_eq_true (T.fact (i := 120) rfl)
theorem Tx.kit_Tree_Rest (T : Tx K mg) : PySem.W.kitOne K (.ref (cA K "Tree")) (.ref (cA K "Rest")) = some false := of_decide_eq_true (T.fact (i := 121) rfl)
theorem Tx.kit_str_Tree (T : Tx K mg) : PySem.W.kitOne K (.type "str") (.ref (cA K "Tree")) = some false := of_decide_eq_true (T.fact (i := 122) rfl)
theorem Tx.kit_tuple_Tree (T : Tx K mg) : PySem.W.kitOne K (.type "tuple") (.ref (cA K "Tree")) = some false := of_decide_eq_true (T.fact (i := 123) rfl)
theorem Tx.kit_Tree_str (T : Tx K mg) : PySem.W.kitOne K (.ref (cA K "Tree")) (.type "str") = some false := of_decide_eq_true (T.fact (i := 124) rfl)
theorem Tx.kit_Tree_tuple (T : Tx K mg) : PySem.W.kitOne K (.ref (cA K "Tree")) (.type "tuple") = some false := of_decide_eq_true (T.fact (i := 125) rfl)
theorem Tx.kit_str_Rest (T : Tx K mg) : PySem.W.kitOne K (.type "str") (.ref (cA K "Rest")) = some false := of_decide_eq_true (T.fact (i := 126) rfl)
theorem Tx.kp_is_name (T : Tx K mg) : PySem.W.keepIn K (.ref (cA K "is_name")) = true := (T.fact (i := 127) rfl)
theorem Tx.kp_is_slot (T : Tx K mg) : PySem.W.keepIn K (.ref (cA K "is_slot")) = true := (T.fact (i := 128) rfl)
theorem Tx.kp_sorts_in (T : Tx K mg) : PySem.W.keepIn K (.ref (cA K "sorts_in")) = true := (T.fact (i := 129) rfl)
theorem Tx.kp_children_of (T : Tx K mg) : PySem.W.keepIn K (.ref (cA K "children_of")) = true := (T.fact (i := 130) rfl)
theorem Tx.kp_is_text (T : Tx K mg) : PySem.W.keepIn K (.ref (cA K "is_text")) = true := (T.fact (i := 131) rfl)
theorem Tx.kp_is_row_of_trees (T : Tx K mg) : PySem.W.keepIn K (.ref (cA K "is_row_of_trees")) = true := (T.fact (i := 132) rfl)
theorem Tx.kp_term_of (T : Tx K mg) : PySem.W.keepIn K (.ref (cA K "term_of")) = true := (T.fact (i := 133) rfl)
theorem Tx.kp_below_of (T : Tx K mg) : PySem.W.keepIn K (.ref (cA K "below_of")) = true := (T.fact (i := 134) rfl)
theorem Tx.kp_spots_of (T : Tx K mg) : PySem.W.keepIn K (.ref (cA K "spots_of")) = true := (T.fact (i := 135) rfl)
theorem Tx.kp_greatest_height (T : Tx K mg) : PySem.W.keepIn K (.ref (cA K "greatest_height")) = true := (T.fact (i := 136) rfl)
theorem Tx.kp_is_path (T : Tx K mg) : PySem.W.keepIn K (.ref (cA K "is_path")) = true := (T.fact (i := 137) rfl)
theorem Tx.kp_kind_of_part (T : Tx K mg) : PySem.W.keepIn K (.ref (cA K "kind_of_part")) = true := (T.fact (i := 138) rfl)
theorem Tx.kp_kind_of_slot (T : Tx K mg) : PySem.W.keepIn K (.ref (cA K "kind_of_slot")) = true := (T.fact (i := 139) rfl)
theorem Tx.kp_wrong_path (T : Tx K mg) : PySem.W.keepIn K (.ref (cA K "wrong_path")) = true := (T.fact (i := 140) rfl)
theorem Tx.kp_check_tree (T : Tx K mg) : PySem.W.keepIn K (.ref (cA K "check_tree")) = true := (T.fact (i := 141) rfl)
theorem Tx.kp_has_right_parts (T : Tx K mg) : PySem.W.keepIn K (.ref (cA K "has_right_parts")) = true := (T.fact (i := 142) rfl)
theorem Tx.kp_next_points (T : Tx K mg) : PySem.W.keepIn K (.ref (cA K "next_points")) = true := (T.fact (i := 143) rfl)
theorem Tx.kp_behind_deed (T : Tx K mg) : PySem.W.keepIn K (.ref (cA K "behind_deed")) = true := (T.fact (i := 144) rfl)
theorem Tx.kp_behind_child (T : Tx K mg) : PySem.W.keepIn K (.ref (cA K "behind_child")) = true := (T.fact (i := 145) rfl)
theorem Tx.kp_come_to (T : Tx K mg) : PySem.W.keepIn K (.ref (cA K "come_to")) = true := (T.fact (i := 146) rfl)
theorem Tx.kp__law_mixed (T : Tx K mg) : PySem.W.keepIn K (.ref (cA K "_law_mixed")) = true := (T.fact (i := 147) rfl)
theorem Tx.kp__law_folded (T : Tx K mg) : PySem.W.keepIn K (.ref (cA K "_law_folded")) = true := (T.fact (i := 148) rfl)
theorem Tx.kp__law_draw (T : Tx K mg) : PySem.W.keepIn K (.ref (cA K "_law_draw")) = true := (T.fact (i := 149) rfl)
theorem Tx.kp__law_begun (T : Tx K mg) : PySem.W.keepIn K (.ref (cA K "_law_begun")) = true := (T.fact (i := 150) rfl)
theorem Tx.kp__law_base (T : Tx K mg) : PySem.W.keepIn K (.ref (cA K "_law_base")) = true := (T.fact (i := 151) rfl)
theorem Tx.kp__law_plans (T : Tx K mg) : PySem.W.keepIn K (.ref (cA K "_law_plans")) = true := (T.fact (i := 152) rfl)
theorem Tx.kp__law_flow (T : Tx K mg) : PySem.W.keepIn K (.ref (cA K "_law_flow")) = true := (T.fact (i := 153) rfl)
theorem Tx.kp__law_stmt (T : Tx K mg) : PySem.W.keepIn K (.ref (cA K "_law_stmt")) = true := (T.fact (i := 154) rfl)
theorem Tx.kp__law_program (T : Tx K mg) : PySem.W.keepIn K (.ref (cA K "_law_program")) = true := (T.fact (i := 155) rfl)
theorem Tx.kp__law_grown (T : Tx K mg) : PySem.W.keepIn K (.ref (cA K "_law_grown")) = true := (T.fact (i := 156) rfl)
theorem Tx.kp__law_mode (T : Tx K mg) : PySem.W.keepIn K (.ref (cA K "_law_mode")) = true := (T.fact (i := 157) rfl)
theorem Tx.kp__law_all (T : Tx K mg) : PySem.W.keepIn K (.ref (cA K "_law_all")) = true := (T.fact (i := 158) rfl)
theorem Tx.kp__law_stopped (T : Tx K mg) : PySem.W.keepIn K (.ref (cA K "_law_stopped")) = true := (T.fact (i := 159) rfl)
theorem Tx.kp__law_alike (T : Tx K mg) : PySem.W.keepIn K (.ref (cA K "_law_alike")) = true := (T.fact (i := 160) rfl)
theorem Tx.kp__law_ends_right (T : Tx K mg) : PySem.W.keepIn K (.ref (cA K "_law_ends_right")) = true := (T.fact (i := 161) rfl)
theorem Tx.kp_law (T : Tx K mg) : PySem.W.keepIn K (.ref (cA K "law")) = true := (T.fact (i := 162) rfl)
theorem Tx.d_is_name (T : Tx K mg) : ∃ fd, FunD K "is_name" "is_name" (defArgs (top 15)) (defBody (top 15)) (defScope (top 15)) [] [] (cA K "is_name") fd := T.def_ (i := 0) rfl
theorem Tx.d_is_slot (T : Tx K mg) : ∃ fd, FunD K "is_slot" "is_slot" (defArgs (top 16)) (defBody (top 16)) (defScope (top 16)) [] [] (cA K "is_slot") fd := T.def_ (i := 1) rfl
theorem Tx.d_sorts_in (T : Tx K mg) : ∃ fd, FunD K "sorts_in" "sorts_in" (defArgs (top 18)) (defBody (top 18)) (defScope (top 18)) [] [] (cA K "sorts_in") fd := T.def_ (i := 2) rfl
theorem Tx.d_children_of (T : Tx K mg) : ∃ fd, FunD K "children_of" "children_of" (defArgs (top 21)) (defBody (top 21)) (defScope (top 21)) [] [] (cA K "children_of") fd := T.def_ (i := 3) rfl
theorem Tx.d_is_text (T : Tx K mg) : ∃ fd, FunD K "is_text" "is_text" (defArgs (top 23)) (defBody (top 23)) (defScope (top 23)) [] [] (cA K "is_text") fd := T.def_ (i := 4) rfl
theorem Tx.d_is_row_of_trees (T : Tx K mg) : ∃ fd, FunD K "is_row_of_trees" "is_row_of_trees" (defArgs (top 24)) (defBody (top 24)) (defScope (top 24)) [] [] (cA K "is_row_of_trees") fd := T.def_ (i := 5) rfl
theorem Tx.d_term_of (T : Tx K mg) : ∃ fd, FunD K "term_of" "term_of" (defArgs (top 25)) (defBody (top 25)) (defScope (top 25)) [] [] (cA K "term_of") fd := T.def_ (i := 6) rfl
theorem Tx.d_below_of (T : Tx K mg) : ∃ fd, FunD K "below_of" "below_of" (defArgs (top 28)) (defBody (top 28)) (defScope (top 28)) [] [] (cA K "below_of") fd := T.def_ (i := 7) rfl
theorem Tx.d_spots_of (T : Tx K mg) : ∃ fd, FunD K "spots_of" "spots_of" (defArgs (top 29)) (defBody (top 29)) (defScope (top 29)) [] [] (cA K "spots_of") fd := T.def_ (i := 8) rfl
theorem Tx.d_greatest_height (T : Tx K mg) : ∃ fd, FunD K "greatest_height" "greatest_height" (defArgs (top 30)) (defBody (top 30)) (defScope (top 30)) [] [] (cA K "greatest_height") fd := T.def_ (i := 9) rfl
theorem Tx.d_is_path (T : Tx K mg) : ∃ fd, FunD K "is_path" "is_path" (defArgs (top 31)) (defBody (top 31)) (defScope (top 31)) [] [] (cA K "is_path") fd := T.def_ (i := 10) rfl
theorem Tx.d_kind_of_part (T : Tx K mg) : ∃ fd, FunD K "kind_of_part" "kind_of_part" (defArgs (top 34)) (defBody (top 34)) (defScope (top 34)) [] [] (cA K "kind_of_part") fd := T.def_ (i := 11) rfl
theorem Tx.d_kind_of_slot (T : Tx K mg) : ∃ fd, FunD K "kind_of_slot" "kind_of_slot" (defArgs (top 35)) (defBody (top 35)) (defScope (top 35)) [] [] (cA K "kind_of_slot") fd := T.def_ (i := 12) rfl
theorem Tx.d_wrong_path (T : Tx K mg) : ∃ fd, FunD K "wrong_path" "wrong_path" (defArgs (top 36)) (defBody (top 36)) (defScope (top 36)) [.ref (emptyA K)] [] (cA K "wrong_path") fd := T.def_ (i := 13) rfl
theorem Tx.d_check_tree (T : Tx K mg) : ∃ fd, FunD K "check_tree" "check_tree" (defArgs (top 37)) (defBody (top 37)) (defScope (top 37)) [] [] (cA K "check_tree") fd := T.def_ (i := 14) rfl
theorem Tx.d_has_right_parts (T : Tx K mg) : ∃ fd, FunD K "has_right_parts" "has_right_parts" (defArgs (top 38)) (defBody (top 38)) (defScope (top 38)) [] [] (cA K "has_right_parts") fd := T.def_ (i := 15) rfl
theorem Tx.d_next_points (T : Tx K mg) : ∃ fd, FunD K "next_points" "next_points" (defArgs (top 44)) (defBody (top 44)) (defScope (top 44)) [] [] (cA K "next_points") fd := T.def_ (i := 16) rfl
theorem Tx.d_behind_deed (T : Tx K mg) : ∃ fd, FunD K "behind_deed" "behind_deed" (defArgs (top 45)) (defBody (top 45)) (defScope (top 45)) [] [] (cA K "behind_deed") fd := T.def_ (i := 17) rfl
theorem Tx.d_behind_child (T : Tx K mg) : ∃ fd, FunD K "behind_child" "behind_child" (defArgs (top 46)) (defBody (top 46)) (defScope (top 46)) [] [] (cA K "behind_child") fd := T.def_ (i := 18) rfl
theorem Tx.d_come_to (T : Tx K mg) : ∃ fd, FunD K "come_to" "come_to" (defArgs (top 47)) (defBody (top 47)) (defScope (top 47)) [] [] (cA K "come_to") fd := T.def_ (i := 19) rfl
theorem Tx.d__law_mixed (T : Tx K mg) : ∃ fd, FunD K "_law_mixed" "_law_mixed" (defArgs (top 49)) (defBody (top 49)) (defScope (top 49)) [] [] (cA K "_law_mixed") fd := T.def_ (i := 20) rfl
theorem Tx.d__law_folded (T : Tx K mg) : ∃ fd, FunD K "_law_folded" "_law_folded" (defArgs (top 50)) (defBody (top 50)) (defScope (top 50)) [] [] (cA K "_law_folded") fd := T.def_ (i := 21) rfl
theorem Tx.d__law_draw (T : Tx K mg) : ∃ fd, FunD K "_law_draw" "_law_draw" (defArgs (top 51)) (defBody (top 51)) (defScope (top 51)) [] [] (cA K "_law_draw") fd := T.def_ (i := 22) rfl
theorem Tx.d__law_begun (T : Tx K mg) : ∃ fd, FunD K "_law_begun" "_law_begun" (defArgs (top 52)) (defBody (top 52)) (defScope (top 52)) [] [] (cA K "_law_begun") fd := T.def_ (i := 23) rfl
theorem Tx.d__law_base (T : Tx K mg) : ∃ fd, FunD K "_law_base" "_law_base" (defArgs (top 53)) (defBody (top 53)) (defScope (top 53)) [] [] (cA K "_law_base") fd := T.def_ (i := 24) rfl
theorem Tx.d__law_plans (T : Tx K mg) : ∃ fd, FunD K "_law_plans" "_law_plans" (defArgs (top 54)) (defBody (top 54)) (defScope (top 54)) [] [] (cA K "_law_plans") fd := T.def_ (i := 25) rfl
theorem Tx.d__law_flow (T : Tx K mg) : ∃ fd, FunD K "_law_flow" "_law_flow" (defArgs (top 55)) (defBody (top 55)) (defScope (top 55)) [] [] (cA K "_law_flow") fd := T.def_ (i := 26) rfl
theorem Tx.d__law_stmt (T : Tx K mg) : ∃ fd, FunD K "_law_stmt" "_law_stmt" (defArgs (top 56)) (defBody (top 56)) (defScope (top 56)) [] [] (cA K "_law_stmt") fd := T.def_ (i := 27) rfl
theorem Tx.d__law_program (T : Tx K mg) : ∃ fd, FunD K "_law_program" "_law_program" (defArgs (top 57)) (defBody (top 57)) (defScope (top 57)) [] [] (cA K "_law_program") fd := T.def_ (i := 28) rfl
theorem Tx.d__law_grown (T : Tx K mg) : ∃ fd, FunD K "_law_grown" "_law_grown" (defArgs (top 58)) (defBody (top 58)) (defScope (top 58)) [] [] (cA K "_law_grown") fd := T.def_ (i := 29) rfl
theorem Tx.d__law_mode (T : Tx K mg) : ∃ fd, FunD K "_law_mode" "_law_mode" (defArgs (top 59)) (defBody (top 59)) (defScope (top 59)) [] [] (cA K "_law_mode") fd := T.def_ (i := 30) rfl
theorem Tx.d__law_all (T : Tx K mg) : ∃ fd, FunD K "_law_all" "_law_all" (defArgs (top 60)) (defBody (top 60)) (defScope (top 60)) [] [] (cA K "_law_all") fd := T.def_ (i := 31) rfl
theorem Tx.d__law_stopped (T : Tx K mg) : ∃ fd, FunD K "_law_stopped" "_law_stopped" (defArgs (top 61)) (defBody (top 61)) (defScope (top 61)) [] [] (cA K "_law_stopped") fd := T.def_ (i := 32) rfl
theorem Tx.d__law_alike (T : Tx K mg) : ∃ fd, FunD K "_law_alike" "_law_alike" (defArgs (top 62)) (defBody (top 62)) (defScope (top 62)) [] [] (cA K "_law_alike") fd := T.def_ (i := 33) rfl
theorem Tx.d__law_ends_right (T : Tx K mg) : ∃ fd, FunD K "_law_ends_right" "_law_ends_right" (defArgs (top 63)) (defBody (top 63)) (defScope (top 63)) [] [] (cA K "_law_ends_right") fd := T.def_ (i := 34) rfl
theorem Tx.d_law (T : Tx K mg) : ∃ fd, FunD K "law" "law" (defArgs (top 64)) (defBody (top 64)) (defScope (top 64)) [] [] (cA K "law") fd := T.def_ (i := 35) rfl
theorem Tx.d_Form___init__ (T : Tx K mg) : ∃ fd, FunD K "__init__" "Form.__init__" (defArgs (inC 17 1)) (defBody (inC 17 1)) (defScope (inC 17 1)) [] [] (He.ma K (cA K "Form") "__init__") fd := T.def_ (i := 36) rfl
theorem Tx.d_Schema___init__ (T : Tx K mg) : ∃ fd, FunD K "__init__" "Schema.__init__" (defArgs (inC 19 1)) (defBody (inC 19 1)) (defScope (inC 19 1)) [] [] (He.ma K (cA K "Schema") "__init__") fd := T.def_ (i := 37) rfl
theorem Tx.d_Schema___contains__ (T : Tx K mg) : ∃ fd, FunD K "__contains__" "Schema.__contains__" (defArgs (inC 19 5)) (defBody (inC 19 5)) (defScope (inC 19 5)) [] [] (He.ma K (cA K "Schema") "__contains__") fd := T.def_ (i := 38) rfl
theorem Tx.d_Schema___getitem__ (T : Tx K mg) : ∃ fd, FunD K "__getitem__" "Schema.__getitem__" (defArgs (inC 19 6)) (defBody (inC 19 6)) (defScope (inC 19 6)) [] [] (He.ma K (cA K "Schema") "__getitem__") fd := T.def_ (i := 39) rfl
theorem Tx.d_Tree___init__ (T : Tx K mg) : ∃ fd, FunD K "__init__" "Tree.__init__" (defArgs (inC 27 2)) (defBody (inC 27 2)) (defScope (inC 27 2)) [] [] (He.ma K (cA K "Tree") "__init__") fd := T.def_ (i := 40) rfl
theorem Tx.d_Tree___getitem__ (T : Tx K mg) : ∃ fd, FunD K "__getitem__" "Tree.__getitem__" (defArgs (inC 27 11)) (defBody (inC 27 11)) (defScope (inC 27 11)) [] [] (He.ma K (cA K "Tree") "__getitem__") fd := T.def_ (i := 41) rfl
theorem Tx.d_Plan___init__ (T : Tx K mg) : ∃ fd, FunD K "__init__" "Plan.__init__" (defArgs (inC 42 0)) (defBody (inC 42 0)) (defScope (inC 42 0)) [.str "steps"] [("sets", .non), ("uses", .non)] (He.ma K (cA K "Plan") "__init__") fd := T.def_ (i := 42) rfl
theorem Tx.d_Flow___init__ (T : Tx K mg) : ∃ fd, FunD K "__init__" "Flow.__init__" (defArgs (inC 43 0)) (defBody (inC 43 0)) (defScope (inC 43 0)) [] [] (He.ma K (cA K "Flow") "__init__") fd := T.def_ (i := 43) rfl
theorem Tx.d_Flow_order_of (T : Tx K mg) : ∃ fd, FunD K "order_of" "Flow.order_of" (defArgs (inC 43 3)) (defBody (inC 43 3)) (defScope (inC 43 3)) [] [] (He.ma K (cA K "Flow") "order_of") fd := T.def_ (i := 44) rfl
theorem Tx.d_Flow_deed_of (T : Tx K mg) : ∃ fd, FunD K "deed_of" "Flow.deed_of" (defArgs (inC 43 4)) (defBody (inC 43 4)) (defScope (inC 43 4)) [] [] (He.ma K (cA K "Flow") "deed_of") fd := T.def_ (i := 45) rfl
theorem Tx.d_Flow_deeds (T : Tx K mg) : ∃ fd, FunD K "deeds" "Flow.deeds" (defArgs (inC 43 5)) (defBody (inC 43 5)) (defScope (inC 43 5)) [] [] (He.ma K (cA K "Flow") "deeds") fd := T.def_ (i := 46) rfl
theorem Tx.d_Flow_unreached (T : Tx K mg) : ∃ fd, FunD K "unreached" "Flow.unreached" (defArgs (inC 43 16)) (defBody (inC 43 16)) (defScope (inC 43 16)) [] [] (He.ma K (cA K "Flow") "unreached") fd := T.def_ (i := 47) rfl
theorem Tx.d_Flow_unset_uses (T : Tx K mg) : ∃ fd, FunD K "unset_uses" "Flow.unset_uses" (defArgs (inC 43 17)) (defBody (inC 43 17)) (defScope (inC 43 17)) [] [] (He.ma K (cA K "Flow") "unset_uses") fd := T.def_ (i := 48) rfl
theorem Tx.d_Flow_idle_sets (T : Tx K mg) : ∃ fd, FunD K "idle_sets" "Flow.idle_sets" (defArgs (inC 43 18)) (defBody (inC 43 18)) (defScope (inC 43 18)) [] [] (He.ma K (cA K "Flow") "idle_sets") fd := T.def_ (i := 49) rfl
theorem Tx.d_Form_kin (T : Tx K mg) : ∃ fd, FunD K "kin" "Form.kin" (defArgs (inC 17 4)) (defBody (inC 17 4)) (defScope (inC 17 4)) [] [] (gA K "Form" "kin" "property") fd := T.def_ (i := 50) rfl
theorem Tx.d_Form_slots (T : Tx K mg) : ∃ fd, FunD K "slots" "Form.slots" (defArgs (inC 17 5)) (defBody (inC 17 5)) (defScope (inC 17 5)) [] [] (gA K "Form" "slots" "property") fd := T.def_ (i := 51) rfl
theorem Tx.d_Tree_form (T : Tx K mg) : ∃ fd, FunD K "form" "Tree.form" (defArgs (inC 27 3)) (defBody (inC 27 3)) (defScope (inC 27 3)) [] [] (gA K "Tree" "form" "property") fd := T.def_ (i := 52) rfl
theorem Tx.d_Tree_parts (T : Tx K mg) : ∃ fd, FunD K "parts" "Tree.parts" (defArgs (inC 27 4)) (defBody (inC 27 4)) (defScope (inC 27 4)) [] [] (gA K "Tree" "parts" "property") fd := T.def_ (i := 53) rfl
theorem Tx.d_Tree_children (T : Tx K mg) : ∃ fd, FunD K "children" "Tree.children" (defArgs (inC 27 5)) (defBody (inC 27 5)) (defScope (inC 27 5)) [] [] (gA K "Tree" "children" "property") fd := T.def_ (i := 54) rfl
theorem Tx.d_Form_of (T : Tx K mg) : ∃ fd, FunD K "of" "Form.of" (defArgs (inC 17 2)) (defBody (inC 17 2)) (defScope (inC 17 2)) [] [] (gA K "Form" "of" "classmethod") fd := T.def_ (i := 55) rfl
theorem Tx.d_Schema_of (T : Tx K mg) : ∃ fd, FunD K "of" "Schema.of" (defArgs (inC 19 2)) (defBody (inC 19 2)) (defScope (inC 19 2)) [] [] (gA K "Schema" "of" "classmethod") fd := T.def_ (i := 56) rfl
end
end Jz
end
section
set_option maxHeartbeats 0
/-! the head's run, with the facts -/
namespace Jz
open PySem PySem.W PySem.Calls PyProof.Rows
abbrev R : OpenRow := OpenLaw.row PySem.Challenge.rw_ruleengine_k54_whole_jumps_written_other
abbrev qv : Program := view R.prog [64]
def namesA : List PySem.Str := ["_wall", "RuleengineError", "InvalidForm", "InvalidSchema", "InvalidTree", "InvalidPath", "InvalidPart", "WrongTree", "UnknownName", "InvalidPlan", "InvalidFlow", "FIRST", "LATER", "is_name", "is_slot", "Form", "sorts_in", "Schema", "children_of", "is_text", "is_row_of_trees", "term_of", "written", "Tree", "below_of", "spots_of", "greatest_height", "is_path", "Rest", "kind_of_part"]
def namesB : List PySem.Str := ["kind_of_slot", "wrong_path", "check_tree", "has_right_parts", "ORDERS", "WORDS", "Plan", "Flow", "next_points", "behind_deed", "behind_child", "come_to", "_law_mixed", "_law_folded", "_law_draw", "_law_begun", "_law_base", "_law_plans", "_law_flow", "_law_stmt", "_law_program", "_law_grown", "_law_mode", "_law_all", "_law_stopped", "_law_alike", "_law_ends_right"]
def names : List PySem.Str := namesA ++ namesB
def gloN0 : List PySem.Str := ["is_name", "is_slot", "sorts_in", "children_of", "is_text", "is_row_of_trees", "term_of", "below_of", "spots_of", "greatest_height", "is_path", "kind_of_part", "kind_of_slot", "wrong_path", "check_tree", "has_right_parts", "next_points", "behind_deed", "behind_child", "come_to", "_law_mixed", "_law_folded", "_law_draw", "_law_begun", "_law_base", "_law_plans", "_law_flow", "_law_stmt", "_law_program", "_law_grown"]
def gloN1 : List PySem.Str := ["_law_mode", "_law_all", "_law_stopped", "_law_alike", "_law_ends_right", "law", "Form", "Schema", "Tree", "Rest", "Plan", "Flow", "ORDERS", "WORDS"]
def gloN : List PySem.Str := gloN0 ++ gloN1
def memN0 : List (PySem.Str × PySem.Str) := [("Form", "__init__"), ("Schema", "__init__"), ("Schema", "__contains__"), ("Schema", "__getitem__"), ("Tree", "__init__"), ("Tree", "__getitem__"), ("Plan", "__init__"), ("Flow", "__init__"), ("Flow", "order_of"), ("Flow", "deed_of"), ("Flow", "deeds"), ("Flow", "unreached"), ("Flow", "unset_uses"), ("Flow", "idle_sets"), ("Form", "kin"), ("Form", "slots"), ("Tree", "form"), ("Tree", "parts"), ("Tree", "children"), ("Form", "of"), ("Schema", "of")]
def memN : List (PySem.Str × PySem.Str) := memN0
def refsQ (g : Addr → Option Obj) (a : Addr) : List Addr := match g a with
  | some o => He.refsD o
  | none => []
def as2 (g : Addr → Option Obj) : List Addr := let a1 := gloN.map (He.ga (He.frG g [mainGlobals])); mainGlobals :: 2 :: (a1 ++ a1.flatMap (refsQ g))
def as5 (g : Addr → Option Obj) : List Addr := let a3 := memN.map fun p => He.ma (He.frG g (as2 g)) (He.ga (He.frG g (as2 g)) p.1) p.2; let a4 := a3.flatMap (refsQ g); as2 g ++ (a3 ++ (a4 ++ a4.flatMap (refsQ g)))
def obsQG (g : Addr → Option Obj) : He.AlD := obsQ (He.frG g (as5 g))
def hookQ : Hook where
  α := He.AlD
  obs := fun s => obsQG s.heap.get?
  val := fun _ => valQ
  says := fun _ h => ∃ K : PySem.W.Frag, K.In h ∧ obsQ K = valQ
  of := fun _ _ e => ⟨_, He.frG_in, e⟩
  keeps := fun _ _ _ ⟨K, hK, c⟩ k => ⟨K, PySem.W.Frag.In.keeps hK k, c⟩
theorem obsQG_eq {g : Addr → Option Obj} {s : Shared} (h : ∀ a, g a = s.heap.get? a) : obsQG g = hookQ.obs s := by
  have e : g = s.heap.get? := funext h
  rw [e] <;> rfl
abbrev hk : Hook := hookQ
def ob (s : SharedT) : He.AlD := obsQG (HandSHeadRun.getT s)
theorem ob_eq (s : SharedT) : ob s = hk.obs s.abs := obsQG_eq (HandSHeadRun.getT_eq s)
theorem run (w : World) : HandSHeadRun.RunEq R qv hk ob 9000 names w := by
  intro os
  kernel_rfl
end Jz
end
section
set_option maxHeartbeats 4000000
/-! bundles: a global def, a method, a property with what it keeps -/
namespace Jz
open PySem PySem.Spec PyProof.Rows L2 ClX
section
variable {P : Program} {w : World} {K : PySem.W.Frag} {mg : Str → Option Value} {base : Heap} {k : Nat} {x m : Str} {C : Addr} {ps : List Str} {sp : Sp}
/-- the module's def x keeps sp -/
structure GF (P : Program) (w : World) (K : PySem.W.Frag) (mg : Str → Option Value) (base : Heap) (k : Nat) (x : Str) (ps : List Str) (sp : Sp) : Prop where
  ex : ∃ f fd, FnOk P w K mg base CX0 k f fd ps sp ∧ mg x = some (.ref f) ∧ PySem.W.keepIn K (.ref f) = true ∧ Binds K fd ps []
/-- the method m of the class at C keeps sp -/
structure MF (P : Program) (w : World) (K : PySem.W.Frag) (mg : Str → Option Value) (base : Heap) (k : Nat) (C : Addr) (m : Str) (ps : List Str) (sp : Sp) : Prop where
  ex : ∃ f fd, FnOk P w K mg base CX0 k f fd ps sp ∧ Meth K C m f ∧ Binds K fd ps []
/-- the property m of the class at C keeps sp -/
structure PF (P : Program) (w : World) (K : PySem.W.Frag) (mg : Str → Option Value) (base : Heap) (k : Nat) (C : Addr) (m : Str) (sp : Sp) : Prop where
  ex : ∃ p f fd, FnOk P w K mg base CX0 k f fd ["self"] sp ∧ PropOf K C m p f ∧ Binds K fd ["self"] []
theorem gf_of {a : Addr} {qual : Str} {pa : Arguments} {bd : List Stmt} {sc : Scope} (m : mg x = some (.ref a)) (d : ∃ fd, FunD K x qual pa bd sc [] [] a fd)
    (hb : ∀ (kV doc pm : Value) (an : Option Addr) (cdv ct : Value) (us : List Value), us.length = ps.length → bindArgs (PySem.W.fnOf x qual pa bd sc .none kV doc pm an cdv ct) ⟨us, []⟩ = pure (ps.zip us))
    (ok : ∀ fd, FunD K x qual pa bd sc [] [] a fd → FnOk P w K mg base CX0 k a fd ps sp) : GF P w K mg base k x ps sp :=
  let ⟨fd, F⟩ := d
  ⟨a, fd, ok fd F, m, F.kp, F.bindsN hb⟩
theorem mf_of {a : Addr} {qual : Str} {pa : Arguments} {bd : List Stmt} {sc : Scope} (h : Meth K C m a) (d : ∃ fd, FunD K m qual pa bd sc [] [] a fd)
    (hb : ∀ (kV doc pm : Value) (an : Option Addr) (cdv ct : Value) (us : List Value), us.length = ps.length → bindArgs (PySem.W.fnOf m qual pa bd sc .none kV doc pm an cdv ct) ⟨us, []⟩ = pure (ps.zip us))
    (ok : ∀ fd, FunD K m qual pa bd sc [] [] a fd → FnOk P w K mg base CX0 k a fd ps sp) : MF P w K mg base k C m ps sp :=
  let ⟨fd, F⟩ := d
  ⟨a, fd, ok fd F, h, F.bindsN hb⟩
theorem pf_get {N : List Str} {p a : Addr} {qual f : Str} {pa : Arguments} {bd : List Stmt} {sc : Scope} {p1 p2 p3 : Pos} (S : FnScope N ["self"] sc) (hN : N[0]? = some ("self" : Str)) (h : PropOf K C m p a) (d : ∃ fd, FunD K m qual pa bd sc [] [] a fd)
    (hb : ∀ (kV doc pm : Value) (an : Option Addr) (cdv ct : Value) (us : List Value), us.length = 1 → bindArgs (PySem.W.fnOf m qual pa bd sc .none kV doc pm an cdv ct) ⟨us, []⟩ = pure ((["self"] : List Str).zip us))
    (hbd : bd = [.Return (some (.Attribute (.Name "self" p1) f p2)) p3]) (c : Cls K C) (n : NoAttr K C f) : PF P w K mg base 1 C m (getSp C f) := by
  obtain ⟨fd, F⟩ := d
  have bi := F.bindsN (ps := ["self"]) hb
  obtain ⟨oc, od, dV, kV, doc, pm, an, cdv, ct, osl, rfl, lk, hcd, _, _⟩ := F.ex
  exact ⟨p, a, _, fn_getter lk hcd S hN hbd c n, h, bi⟩
end
theorem GF.mono {P : Program} {w : World} {K : PySem.W.Frag} {mg : Str → Option Value} {base : Heap} {j k : Nat} {x : Str} {ps : List Str} {sp : Sp} (G : GF P w K mg base j x ps sp) (h : j ≤ k) : GF P w K mg base k x ps sp :=
  let ⟨f, fd, F, r⟩ := G.ex; ⟨f, fd, F.mono h, r⟩
section
variable {X : Cx} {k : Nat} {x m : Str} {C : Addr} {ps : List Str} {sp : Sp} {e o : Expr} {es : List Expr} {t : TA} {ta : TE} {p pos apos : Pos}
theorem pe_g (G : GF X.prog X.w X.K X.mg X.base k x ps sp) (hr : Room k X.A) (ha : PA X (e :: es) t) (hg : Gl X x := by rfl) (hdb : (x == ("__debug__" : Str)) = false := by decide)
    (he : starEach (e :: es) X.env = (false, eval e X.env) :: starEach es X.env := by rfl) (hpl : (backTo pos (starEach es X.env)).any (·.1) = false := by rfl) : PE X (.Call (.Name x p) (e :: es) [] pos) (tCall sp [] E0 t) := by
  obtain ⟨f, fd, F, hm, hk, hb⟩ := G.ex
  exact pe_call F hr hg hm hk hb .nil pass0 ha hdb he hpl
theorem pe_g0 (G : GF X.prog X.w X.K X.mg X.base k x ps sp) (hr : Room k X.A) (hg : Gl X x := by rfl) (hdb : (x == ("__debug__" : Str)) = false := by decide) : PE X (.Call (.Name x p) [] [] pos) (tCall sp [] E0 tNil) := by
  obtain ⟨f, fd, F, hm, hk, hb⟩ := G.ex
  exact pe_call0 F hr hg hm hk hb .nil pass0 hdb
theorem pe_mf {pl : Sem Bool} (G : MF X.prog X.w X.K X.mg X.base k C m ps sp) (c : Cls X.K C) (hr : Room k X.A) (he : PE X o ta) (ha : PA X (e :: es) t)
    (hst : starEach (e :: es) X.env = (false, eval e X.env) :: starEach es X.env := by rfl) (hpl : (backTo pos (starEach es X.env)).any (·.1) = false := by rfl)
    (ht : eval (.Call (.Attribute o m apos) (e :: es) [] pos) X.env = (do
      let ov ← eval o X.env
      standAt apos.atName
      let (f, first) ← holding [ov] (getMethod ov m pl)
      callWith pos f first (backTo pos (starEach (e :: es) X.env)) (backToKw pos (keywordEach [] X.env))) := by rfl) : PE X (.Call (.Attribute o m apos) (e :: es) [] pos) (tMeth C m sp [] E0 ta t) := by
  obtain ⟨f, fd, F, hm, hb⟩ := G.ex
  exact pe_meth he c hm F hr hb .nil pass0 ha hst hpl ht
theorem pe_pf (G : PF X.prog X.w X.K X.mg X.base k C m sp) (c : Cls X.K C) (hr : Room (k + 1) X.A) (he : PE X o ta) (hab : attributeBase o m X.env (eval o X.env) = eval o X.env := by rfl) : PE X (.Attribute o m pos) (tProp C sp [] E0 ta) := by
  obtain ⟨q, f, fd, F, hm, hb⟩ := G.ex
  exact pe_prop he c hm F hr hb .nil pass0 hab
/-- xs.append(e) -/
theorem pe_app {to : TE} (ho : PE X o to) (ha : PE X e ta) (hbase : attributeBase o "append" X.env (eval o X.env) = eval o X.env := by rfl)
    (hfew : ((backTo pos (starEach [e] X.env)).all (fun x => !x.1) && (backToKw pos (keywordEach [] X.env)).all (fun x => x.1.isSome)
      && decide (([e] : List Expr).length + ([] : List Keyword).length + (if ([] : List Keyword).isEmpty then 0 else 1) < 30)) = true := by rfl)
    (hline : (apos.endLine == pos.line) = true := by rfl) (hs : starEach [e] X.env = (false, eval e X.env) :: starEach [] X.env := by rfl) (hplain : (backTo pos (starEach [] X.env)).any (·.1) = false := by rfl) :
    PE X (.Call (.Attribute o "append" apos) [e] [] pos) (tBM X.K "list" rAppend to (tCons ta tNil)) :=
  pe_bm PySem.F.plainAttrs_list PySem.F.slot_list_append PySem.F.type_list_append mt_append ho (pa_cons ha pa_nil (by exact hs)) hbase hfew hline hs hplain
/-- isinstance(x, T): own and built-in -/
theorem pe_own (hm : X.mg x = some (.ref C)) (hg : Gl X x := by rfl) (hd : (x == ("__debug__" : Str)) = false := by decide) : PE X (.Name x pos) (tC (.ref C)) := pe_glob hg hm rfl hd
theorem pe_ty {n : String} (hm : X.mg x = none) (hv : bootBuiltins x = some (.type n)) (hg : Gl X x := by rfl) (hn : x ≠ "__name__" := by decide) (hd : (x == ("__debug__" : Str)) = false := by decide) : PE X (.Name x pos) (tC (.ty n)) :=
  pe_bltn (v := .ty n) hg hm hv rfl hn hd
/-- isinstance(e, c) -/
theorem pe_isi {c : Expr} {te tc : TE} (hm : X.mg "isinstance" = none) (he : PE X e te) (hc : PE X c tc) (hg : Gl X "isinstance" := by rfl) (h1 : starEach [e, c] X.env = (false, eval e X.env) :: starEach [c] X.env := by rfl)
    (h2 : starEach [c] X.env = (false, eval c X.env) :: starEach [] X.env := by rfl) (hpl : (backTo pos (starEach [c] X.env)).any (·.1) = false := by rfl) : PE X (.Call (.Name "isinstance" p) [e, c] [] pos) (tCB (rIsi X.K) (tCons te (tCons tc tNil))) :=
  pe_callB call_isi hg hm (by decide +kernel) (pa_cons he (pa_cons hc pa_nil h2) h1) (by decide) (by decide) h1 hpl
end
/-! ### a list that grows at D while all else stands -/
def Acc (H0 : Hp) (D : Addr) (xs : List V) (H : Hp) : Prop := Same H0 H ∧ H0 D = none ∧ H D = some (.lst xs)
theorem same_rfl {H : Hp} : Same H H := fun _ _ e => e
theorem same_tr {H1 H2 H3 : Hp} (a : Same H1 H2) (b : Same H2 H3) : Same H1 H3 := fun x o e => b x o (a x o e)
theorem Acc.start {H0 : Hp} {D : Addr} (h : H0 D = none) : Acc H0 D [] (upd H0 D (.lst [])) := ⟨same_new h _, h, upd_same⟩
theorem Acc.startL {H0 : Hp} {D : Addr} {xs : List V} (h : H0 D = none) : Acc H0 D xs (upd H0 D (.lst xs)) := ⟨same_new h _, h, upd_same⟩
theorem Acc.push {H0 H : Hp} {D : Addr} {xs ys : List V} (h : Acc H0 D xs H) : Acc H0 D ys (upd H D (.lst ys)) :=
  ⟨fun b o e => by rw [upd_ne (ne_of_none e h.2.1)]; exact h.1 _ _ e, h.2.1, upd_same⟩
theorem Acc.new {H0 H : Hp} {D p : Addr} {xs : List V} {o : HO} (h : Acc H0 D xs H) (n : H p = none) : Acc H0 D xs (upd H p o) :=
  ⟨same_tr h.1 (same_new n o), h.2.1, same_new n o _ _ h.2.2⟩
theorem Acc.same {H0 H H' : Hp} {D : Addr} {xs : List V} (h : Acc H0 D xs H) (s : Same H H') : Acc H0 D xs H' := ⟨same_tr h.1 s, h.2.1, s _ _ h.2.2⟩
theorem Acc.at' {H0 H : Hp} {D : Addr} {xs : List V} (h : Acc H0 D xs H) : H D = some (.lst xs) := h.2.2
theorem yes1 {σ : L2.St} {H : Hp} {A B : Hp → Prop} (h : A H) : tYes σ H fun b H3 => if b = true then A H3 else B H3 := by
  show if true = true then A H else B H
  rw [if_pos rfl]
  exact h
end Jz
end
section
set_option maxHeartbeats 4000000
/-! names, texts, rows -/
namespace Jz
open PySem PySem.Spec PyProof.Rows L2 ClX
def firstZ : Str := "abcdefghijklmnopqrstuvwxyzABCDEFGHIJKLMNOPQRSTUVWXYZ"
def laterZ : Str := "abcdefghijklmnopqrstuvwxyzABCDEFGHIJKLMNOPQRSTUVWXYZ0123456789_"
def nameOk (z : Str) : Bool := decide (1 ≤ z.length) && (decide (z.length ≤ 20) && ((z.cps.toList.take 1).all (fun c => decide (c ∈ firstZ.cps.toList)) && z.cps.toList.all fun c => decide (c ∈ laterZ.cps.toList)))
def spIsName : Sp := fun vs H Q _ => ∃ z, vs = [.str z] ∧ nameOk z = true ∧ ∀ H', Same H H' → Q (.bl true) H'
section
variable {P : Program} {w : World} {K : PySem.W.Frag} {mg : Str → Option Value} {base : Heap}
abbrev sIsName : Stmt := top 15
theorem sc_is_name : FnScope ["value", "letter"] ["value"] (defScope sIsName) := ⟨rfl, rfl, rfl, by decide +kernel, rfl, by decide +kernel, by decide +kernel⟩
theorem g_is_name (T : Tx K mg) : GF P w K mg base 1 "is_name" ["value"] spIsName := by
  obtain ⟨t1, e1⟩ := T.v_FIRST
  obtain ⟨t2, e2⟩ := T.v_LATER
  refine gf_of T.m_is_name T.d_is_name (fun _ _ _ _ _ _ us hl => match us, hl with | [_], _ => rfl) fun fd F => F.ok sc_is_name (fun vs H Q E h => ?_) (fun cdv A outer s H vs Q E hr h => ?_)
  · obtain ⟨z, rfl, _⟩ := h
    rfl
  · obtain ⟨z, rfl, hz, k⟩ := h
    refine ⟨_, pss_cons (ps_if (PW.pt (pw_or (pt_not (pt_val (pe_callB call_isi (by rfl) T.n_isinstance (by decide +kernel) (pa_cons (pv 0) (pa_cons (pe_ty T.n_str rfl) pa_nil)))))
        (pw_or1 (pt_not (pt_chain op_le op_le pe_int (pe_callB call_len (by rfl) T.n_len PySem.boot_len (pa_cons (pv 0) pa_nil)) pe_int))))) (pss_one (ps_ret pe_bl)) pss_nil)
      (pss_one (ps_ret (pe_and (pe_cmpR op_in_sign (pe_item_str (pv 0) pe_int (fun _ _ => rfl)) (pe_glob (v := .str firstZ) (by rfl) e1 ⟨t1, rfl⟩) (by rfl))
        (pe_one (pe_callB (cr_all rfl) (by rfl) T.n_all (by decide +kernel) (pa_cons (pe_lc (own := [("letter", 1)]) (g := gName 1) (by rfl) sc_is_name.nd (pi_str (pv 0)) (blkOk_by (own := [("letter", 1)]) (N := ["value", "letter"]) (sc := defScope sIsName) (by decide +kernel))
          (fun _ _ _ _ _ => pg_name (i := 1) sc_is_name.nd rfl (Or.inl rfl)) (fun _ _ _ _ _ => pts_nil) (fun _ _ _ _ _ => pe_cmpR op_in_sign (pv 1) (pe_glob (v := .str laterZ) (by rfl) e2 ⟨t2, rfl⟩) (by rfl))) pa_nil)))))), ?_⟩
    simp only [nameOk, Bool.and_eq_true, decide_eq_true_eq, List.all_eq_true] at hz
    obtain ⟨h1, h20, hf, hl⟩ := hz
    refine ⟨_, rfl, .str z, .ty "str", _, _, true, rfl, .ty "str", .base (.str z), kit_ty (by decide +kernel), true, rfl, ?_⟩
    refine iteF ?_
    refine ⟨_, rfl, .str z, z.length, rfl, ⟨Nat.le_trans h20 (by decide), rfl⟩, ?_⟩
    have e1' : decide ((1 : Int) ≤ (z.length : Int)) = true := decide_eq_true (by omega)
    have e2' : decide ((z.length : Int) ≤ (20 : Int)) = true := decide_eq_true (by omega)
    refine ⟨_, _, rfl, rfl, _, rfl, ?_⟩
    rw [e1']
    refine iteT ⟨_, _, rfl, rfl, _, rfl, ?_⟩
    rw [e2']
    refine iteF ?_
    obtain ⟨c, hc⟩ : ∃ c, z.cps[0]? = some c := ⟨z.cps[0]'(show 0 < z.cps.size from h1), Array.getElem?_eq_getElem (show 0 < z.cps.size from h1)⟩
    have hcf : c ∈ firstZ.cps.toList := hf c (by
      rw [← Array.getElem?_toList] at hc
      cases hz : z.cps.toList with
      | nil => rw [hz] at hc; cases hc
      | cons d r => rw [hz] at hc; cases hc; simp)
    refine ⟨_, rfl, z, 0, c, rfl, rfl, Int.le_refl _, by decide, by omega, hc, c, firstZ, rfl, rfl, ?_⟩
    rw [decide_eq_true hcf]
    refine ⟨true, rfl, ?_⟩
    refine iteT ⟨_, rfl, z, rfl, fun D hD => lc_it walk_str (fun i H' => Acc H D (List.replicate i (.bl true)) H') (Acc.start hD) (fun _ _ _ _ => trivial) ?_ ?_⟩
    · rintro i x H1 H' hi A ⟨rfl, c, hc, rfl⟩
      refine ⟨rfl, ?_⟩
      refine yes1 ⟨_, rfl, c, laterZ, rfl, rfl, _, A.at', ?_, ?_⟩
      · rw [List.length_replicate]
        exact Nat.lt_of_lt_of_le hi (Nat.le_trans h20 (by decide))
      · have : c ∈ z.cps.toList := List.mem_of_getElem? (by rw [Array.getElem?_toList]; exact hc)
        rw [decide_eq_true (hl c this), show [V.bl true] = List.replicate 1 (V.bl true) from rfl, List.replicate_append_replicate]
        exact A.push
    · intro H1 A
      refine ⟨D, List.replicate z.cps.size true, rfl, SqL.of (by rw [A.at', List.map_replicate]), ?_⟩
      rw [show (List.replicate z.cps.size true).all id = true from List.all_eq_true.mpr fun x hx => (List.mem_replicate.mp hx).2]
      exact k _ A.1
end
end Jz
end
section
set_option maxHeartbeats 4000000
/-! texts, rows of trees, kids -/
namespace Jz
open PySem PySem.Spec PyProof.Rows L2 ClX
def spIsText : Sp := fun vs H Q _ => (∃ z, vs = [.str z] ∧ z.length ≤ 60 ∧ Q (.bl true) H) ∨ (∃ a xs, vs = [.ref a] ∧ H a = some (.tup xs) ∧ Q (.bl false) H)
/-- trees stand at all of them -/
def InsAll (C : Addr) (H : Hp) (as : List Addr) : Prop := ∀ c ∈ as, ∃ dx fs, H c = some (.ins C dx fs)
def spIsRow (C : Addr) : Sp := fun vs H Q _ => ∃ a as, vs = [.ref a] ∧ H a = some (.tup (rl as)) ∧ as.length ≤ 1000 ∧ InsAll C H as ∧ ∀ H', Same H H' → Q (.bl true) H'
def spBelow (C : Addr) : Sp := fun vs H Q _ => ∃ a ps, vs = [.ref a] ∧ H a = some (.tup (ps.map Pv.v)) ∧ (kidsA ps).length ≤ 1000 ∧ (∀ r as, Pv.rw r as ∈ ps → H r = some (.tup (rl as))) ∧ (∀ c, Pv.on c ∈ ps → ∃ dx fs, H c = some (.ins C dx fs)) ∧
  ∀ H' p, Acc H p (rl (kidsA ps)) H' → Q (.ref p) H'
section
variable {P : Program} {w : World} {K : PySem.W.Frag} {mg : Str → Option Value} {base : Heap}
abbrev sIsText : Stmt := top 23
theorem sc_is_text : FnScope ["value"] ["value"] (defScope sIsText) := ⟨rfl, rfl, rfl, by decide +kernel, rfl, by decide +kernel, by decide +kernel⟩
theorem g_is_text (T : Tx K mg) : GF P w K mg base 1 "is_text" ["value"] spIsText := by
  refine gf_of T.m_is_text T.d_is_text (fun _ _ _ _ _ _ us hl => match us, hl with | [_], _ => rfl) fun fd F => F.ok sc_is_text (fun vs H Q E h => ?_) (fun cdv A outer s H vs Q E hr h => ?_)
  · obtain ⟨z, rfl, _⟩ | ⟨a, xs, rfl, _⟩ := h <;> rfl
  · refine ⟨_, PSs.nox <| pss_one (ps_ret (pe_and (pe_isi T.n_isinstance (pv 0) (pe_ty T.n_str rfl))
      (pe_one (pe_cmpR op_le (pe_callB call_len_str (by rfl) T.n_len PySem.boot_len (pa_cons (pv 0) pa_nil)) pe_int (nomark _))))), ?_⟩
    obtain ⟨z, rfl, hz, k⟩ | ⟨a, xs, rfl, ha, k⟩ := h
    · refine ⟨_, rfl, .str z, .ty "str", _, _, true, rfl, .ty "str", .base (.str z), kit_ty (by decide +kernel), true, rfl, ?_⟩
      refine iteT ⟨_, rfl, z, rfl, Nat.le_trans hz (by decide), _, _, rfl, rfl, ?_⟩
      have e : decide ((z.length : Int) ≤ 60) = true := decide_eq_true (by omega)
      show Q (.bl (decide ((z.length : Int) ≤ 60))) H
      rw [e]
      exact k
    · refine ⟨_, rfl, .ref a, .ty "str", _, _, false, rfl, .ty "str", .base (.tup ha), kit_ty (by decide +kernel), false, rfl, ?_⟩
      exact iteF k
abbrev sIsRow : Stmt := top 24
theorem sc_is_row : FnScope ["value", "item"] ["value"] (defScope sIsRow) := ⟨rfl, rfl, rfl, by decide +kernel, rfl, by decide +kernel, by decide +kernel⟩
theorem g_is_row (T : Tx K mg) : GF P w K mg base 1 "is_row_of_trees" ["value"] (spIsRow (cA K "Tree")) := by
  refine gf_of T.m_is_row_of_trees T.d_is_row_of_trees (fun _ _ _ _ _ _ us hl => match us, hl with | [_], _ => rfl) fun fd F => F.ok sc_is_row (fun vs H Q E h => ?_) (fun cdv A outer s H vs Q E hr h => ?_)
  · obtain ⟨a, as, rfl, _⟩ := h
    rfl
  · obtain ⟨a, as, rfl, ha, hl, hi, k⟩ := h
    refine ⟨_, PSs.nox <| pss_one (ps_ret (pe_and (pe_isi T.n_isinstance (pv 0) (pe_ty T.n_tuple rfl))
      (pe_one (pe_callB (cr_all rfl) (by rfl) T.n_all (by decide +kernel) (pa_cons (pe_lc (own := [("item", 1)]) (g := gName 1) (te := tCB (rIsi K) (tCons (tVar 1) (tCons (tC (.ref (cA K "Tree"))) tNil))) (by rfl) sc_is_row.nd (pi_tup (pv 0)) (blkOk_by (own := [("item", 1)]) (N := ["value", "item"]) (sc := defScope sIsRow) (by decide +kernel))
          (fun _ _ _ _ _ => pg_name (i := 1) sc_is_row.nd rfl (Or.inl rfl)) (fun _ _ _ _ _ => pts_nil) (fun _ _ _ _ _ => by exact pe_isi T.n_isinstance (pv 1) (pe_own T.m_Tree))) pa_nil))))), ?_⟩
    refine ⟨_, rfl, .ref a, .ty "tuple", _, _, true, rfl, .ty "tuple", .base (.tup ha), kit_ty (by decide +kernel), true, rfl, ?_⟩
    refine iteT ⟨_, rfl, a, rfl, ⟨_, SqT.of ha⟩, fun D hD => lc_tup (xs := rl as) (fun i H' => Acc H D (List.replicate i (.bl true)) H') (Acc.start hD) (fun i H' _ A => SqT.of (A.1 _ _ ha)) ?_ ?_⟩
    · intro i x H1 hx A
      obtain ⟨c, rfl, hc⟩ : ∃ c, x = .ref c ∧ c ∈ as := by
        have := List.mem_of_getElem? hx
        obtain ⟨c, hc, e⟩ := List.mem_map.mp this
        exact ⟨c, e.symm, hc⟩
      obtain ⟨dx, fs, e⟩ := hi c hc
      refine ⟨rfl, yes1 ⟨_, rfl, .ref c, .ref (cA K "Tree"), _, _, true, rfl, .own _, T.i_Tree (A.1 _ _ e), T.kit_Tree_Tree, _, A.at', ?_, ?_⟩⟩
      · rw [List.length_replicate]
        have := (List.getElem?_eq_some_iff.mp hx).1
        rw [List.length_map] at this
        exact Nat.lt_of_lt_of_le this (Nat.le_trans hl (by decide))
      · rw [show [V.bl true] = List.replicate 1 (V.bl true) from rfl, List.replicate_append_replicate]
        exact A.push
    · intro H1 A
      refine ⟨D, List.replicate (rl as).length true, rfl, SqL.of (by rw [A.at', List.map_replicate]), ?_⟩
      rw [show (List.replicate (rl as).length true).all id = true from List.all_eq_true.mpr fun x hx => (List.mem_replicate.mp hx).2]
      exact k _ A.1
abbrev sBelow : Stmt := top 28
theorem sc_below : FnScope ["parts", "found", "part"] ["parts"] (defScope sBelow) := ⟨rfl, rfl, rfl, by decide +kernel, rfl, by decide +kernel, by decide +kernel⟩
theorem g_below (T : Tx K mg) : GF P w K mg base 1 "below_of" ["parts"] (spBelow (cA K "Tree")) := by
  refine gf_of T.m_below_of T.d_below_of (fun _ _ _ _ _ _ us hl => match us, hl with | [_], _ => rfl) fun fd F => F.ok sc_below (fun vs H Q E h => ?_) (fun cdv A outer s H vs Q E hr h => ?_)
  · obtain ⟨a, ps, rfl, _⟩ := h
    rfl
  · obtain ⟨a, ps, rfl, ha, hl, hrw, hon, k⟩ := h
    refine ⟨_, PSs.nox <| pss_cons (ps_set (i := 1) sc_below.nd rfl (.inl rfl) (pe_lst pa_nil)) (pss_cons (ps_for PassesOwn.never rfl (pi_tup (pv 0)) (pg_name (i := 2) sc_below.nd rfl (.inl rfl))
        (pss_one (ps_if (pt_val (pe_isi T.n_isinstance (pv 2) (pe_ty T.n_tuple rfl)))
          (pss_one (ps_expr (pe_bm PySem.F.plainAttrs_list PySem.F.slot_list_extend PySem.F.type_list_extend mt_extT (pv 1) (pa_cons (pv 2) pa_nil))))
          (pss_one (ps_if (pt_val (pe_isi T.n_isinstance (pv 2) (pe_own T.m_Tree))) (pss_one (ps_expr (pe_app (pv 1) (pv 2)))) pss_nil)))))
      (pss_one (ps_ret (pv 1)))), ?_⟩
    refine ⟨Nat.zero_le _, fun l hl0 => ?_⟩
    refine ⟨_, rfl, a, rfl, ⟨_, SqT.of (same_new hl0 _ _ _ ha)⟩, for_tup (xs := ps.map Pv.v) (fun i σ H' => ∃ v, σ = [some (.ref a), some (.ref l), v] ∧ Acc H l (rl (kidsA (ps.take i))) H') ⟨_, rfl, Acc.start hl0⟩ (fun i σ H' _ ⟨_, _, A⟩ => SqT.of (A.1 _ _ ha)) ?_ ?_⟩
    · rintro i x σ H1 hx ⟨v, rfl, A⟩
      have hi := (List.getElem?_eq_some_iff.mp hx).1
      rw [List.length_map] at hi
      rw [List.getElem?_map, List.getElem?_eq_getElem hi] at hx
      obtain rfl := Option.some.inj hx
      have hm : ps[i] ∈ ps := List.getElem_mem hi
      have ht : ps.take (i + 1) = ps.take i ++ [ps[i]] := (List.take_append_getElem hi).symm
      have hk : kidsA (ps.take (i + 1)) = kidsA (ps.take i) ++ ps[i].as := by
        unfold kidsA
        rw [ht, List.flatMap_append, List.flatMap_singleton]
      have hle : (kidsA (ps.take (i + 1))).length ≤ 1000 := by
        refine Nat.le_trans ?_ hl
        have : kidsA ps = kidsA (ps.take (i + 1)) ++ kidsA (ps.drop (i + 1)) := by
          unfold kidsA
          rw [← List.flatMap_append, List.take_append_drop]
        rw [this, List.length_append]
        omega
      rw [hk, List.length_append] at hle
      cases e : ps[i] with
      | tx z =>
        rw [e] at hk
        refine ⟨_, rfl, .str z, .ty "tuple", _, _, false, rfl, .ty "tuple", .base (.str z), kit_ty (by decide +kernel), false, rfl, iteF ?_⟩
        refine ⟨_, rfl, .str z, .ref (cA K "Tree"), _, _, false, rfl, .own _, .base (.str z), T.kit_str_Tree, false, rfl, iteF ?_⟩
        exact ⟨_, rfl, by rw [hk]; simpa [Pv.as] using A⟩
      | on c =>
        rw [e] at hm hk hle
        obtain ⟨dx, fs, ec⟩ := hon c hm
        refine ⟨_, rfl, .ref c, .ty "tuple", _, _, false, rfl, .ty "tuple", T.i_Tree (A.1 _ _ ec), T.kit_Tree_tuple, false, rfl, iteF ?_⟩
        refine ⟨_, rfl, .ref c, .ref (cA K "Tree"), _, _, true, rfl, .own _, T.i_Tree (A.1 _ _ ec), T.kit_Tree_Tree, true, rfl, iteT ?_⟩
        refine ⟨_, rfl, .inl ⟨rfl, _, SqL.of A.at'⟩, _, rfl, l, _, _, rfl, rfl, A.at', ?_, ?_⟩
        · rw [List.length_map]
          simp only [Pv.as, List.length_singleton] at hle
          exact Nat.lt_of_lt_of_le (show _ < 1001 by omega) (by decide)
        · exact ⟨_, rfl, by rw [hk]; unfold rl at *; rw [List.map_append]; exact A.push⟩
      | rw r as =>
        rw [e] at hm hk hle
        have er := hrw r as hm
        refine ⟨_, rfl, .ref r, .ty "tuple", _, _, true, rfl, .ty "tuple", .base (.tup (A.1 _ _ er)), kit_ty (by decide +kernel), true, rfl, iteT ?_⟩
        refine ⟨_, rfl, .inl ⟨rfl, _, SqL.of A.at'⟩, _, rfl, l, r, _, _, rfl, rfl, A.at', SqT.of (A.1 _ _ er), ?_, ?_⟩
        · rw [List.length_map, List.length_map]
          exact Nat.le_trans hle (by decide)
        · exact ⟨_, rfl, by rw [hk]; unfold rl at *; rw [List.map_append]; exact A.push⟩
    · rintro σ H1 ⟨v, rfl, A⟩
      refine ⟨_, rfl, k _ l ?_⟩
      rw [List.length_map, List.take_length] at A
      exact A
end
end Jz
end
section
set_option maxHeartbeats 4000000
/-! terms, paths -/
namespace Jz
open PySem PySem.Spec PyProof.Rows L2 ClX
section
variable {f : Fm} {g bl sp tm : Addr} {h : Nat}
theorem tr_kind : (trF f g bl h sp tm).lookup ("kind" : Str) = some (.str (fmN f)) := by with_unfolding_all rfl
theorem tr_given : (trF f g bl h sp tm).lookup ("given" : Str) = some (.ref g) := by with_unfolding_all rfl
theorem tr_below : (trF f g bl h sp tm).lookup ("below" : Str) = some (.ref bl) := by with_unfolding_all rfl
theorem tr_height : (trF f g bl h sp tm).lookup ("height" : Str) = some (.int (h : Int)) := by with_unfolding_all rfl
theorem tr_spots : (trF f g bl h sp tm).lookup ("spots" : Str) = some (.ref sp) := by with_unfolding_all rfl
theorem tr_term : (trF f g bl h sp tm).lookup ("term" : Str) = some (.ref tm) := by with_unfolding_all rfl
end
def rNeE (K : PySem.W.Frag) : R2 := fun x y H Q => ∃ a b xs, x = .ref a ∧ y = .ref b ∧ SqT K H a xs ∧ SqT K H b [] ∧ Q (.bl (!xs.isEmpty)) H
theorem op_neE {X : Cx} (hu : X.A.units < cLine) : OpR X (compareOp .NotEq) (rNeE X.K) := by
  intro pins s σ H x y v u Q I rx ry h
  obtain ⟨a, b, xs, rfl, rfl, ha, hb, q⟩ := h
  obtain rfl : v = Value.ref a := rx
  obtain rfl : u = Value.ref b := ry
  obtain ⟨its, r, p, _⟩ := I.tuple ha
  obtain ⟨its2, r2, p2, _⟩ := I.tuple hb
  cases r2
  refine PySem.SeqAt.RcNeAt.tuples (e := fun _ => true) (items := its.toArray) (items2 := ([] : List Value).toArray) ?_ ?_ hu (fun j h1 h2 => absurd h2 (Nat.not_lt_zero _)) X.prog X.w _ _ ?_
  · exact p
  · exact p2
  · refine ⟨_, H, I, ?_, q⟩
    show _ = Value.bool _
    have := r.length
    cases xs with
    | nil => cases r; rfl
    | cons x xs => cases r; rfl

theorem ifN {c A B : Prop} [Decidable c] (h : ¬ c) (b : B) : if c then A else B := by
  rw [if_neg h]
  exact b
theorem ifP {c A B : Prop} [Decidable c] (h : c) (a : A) : if c then A else B := by
  rw [if_pos h]
  exact a
theorem paired_len {α β : Type} {F : α → β → Prop} : ∀ {l : List α} {m : List β}, Paired F l m → l.length = m.length
  | _, _, .nil => rfl
  | _, _, .cons _ t => congrArg (· + 1) (paired_len t)
theorem paired_get {α β : Type} {F : α → β → Prop} : ∀ {l : List α} {m : List β}, Paired F l m → ∀ {i : Nat} (h1 : i < l.length) (h2 : i < m.length), F l[i] m[i]
  | _, _, .cons h _, 0, _, _ => h
  | _, _, .cons _ t, i + 1, h1, h2 => paired_get t (Nat.lt_of_succ_lt_succ h1) (Nat.lt_of_succ_lt_succ h2)
theorem kid_of {as : List Addr} {ks : List Tr} {R : Tr → Addr → Prop} (hl : as.length = ks.length) (hc : ∀ (i : Nat) k c, ks[i]? = some k → as[i]? = some c → R k c) {c : Addr} (h : c ∈ as) : ∃ k ∈ ks, R k c := by
  obtain ⟨i, hi, e⟩ := List.mem_iff_getElem.mp h
  have hk : i < ks.length := by omega
  exact ⟨ks[i], List.getElem_mem hk, hc i _ _ (List.getElem?_eq_getElem hk) (by rw [List.getElem?_eq_getElem hi, e])⟩
theorem kidsA_take {ps : List Pv} {i : Nat} (hi : i < ps.length) : kidsA (ps.take (i + 1)) = kidsA (ps.take i) ++ ps[i].as := by
  unfold kidsA
  rw [← List.take_append_getElem hi, List.flatMap_append, List.flatMap_singleton]
theorem kidsA_le (ps : List Pv) (i : Nat) : (kidsA (ps.take i)).length ≤ (kidsA ps).length := by
  have : kidsA ps = kidsA (ps.take i) ++ kidsA (ps.drop i) := by
    unfold kidsA
    rw [← List.flatMap_append, List.take_append_drop]
  rw [this, List.length_append]
  omega
theorem kidsA_mem {ps : List Pv} {p : Pv} (h : p ∈ ps) {c : Addr} (hc : c ∈ p.as) : c ∈ kidsA ps := List.mem_flatMap.mpr ⟨p, h, hc⟩
def spKids : Sp := fun vs H Q _ => ∃ t x, vs = [.ref x] ∧ TmAt H t x ∧ t.ks.length ≤ 1000 ∧
  ∀ H' p as, Acc H p (rl as) H' → as.length = t.ks.length → (∀ (i : Nat) k c, t.ks[i]? = some k → as[i]? = some c → TmAt H k c) → Q (.ref p) H'
def spTerm (C : Addr) : Sp := fun vs H Q _ => ∃ (p : Pv) (τ : Addr → Addr), vs = [p.v] ∧ (∀ c ∈ p.as, ∃ dx fs, H c = some (.ins C dx fs) ∧ fs.lookup ("term" : Str) = some (.ref (τ c))) ∧ (∀ r as, p = .rw r as → H r = some (.tup (rl as))) ∧ p.as.length ≤ 1000 ∧
  ∀ H' q p', Same H H' → TpAt H' q p' → p'.k = p.k → p'.as = p.as.map τ → Q (.ref q) H'
section
variable {P : Program} {w : World} {K : PySem.W.Frag} {mg : Str → Option Value} {base : Heap}
abbrev sKids : Stmt := top 21
theorem sc_kids : FnScope ["term", "found", "part"] ["term"] (defScope sKids) := ⟨rfl, rfl, rfl, by decide +kernel, rfl, by decide +kernel, by decide +kernel⟩
theorem g_kids (T : Tx K mg) : GF P w K mg base 1 "children_of" ["term"] spKids := by
  refine gf_of T.m_children_of T.d_children_of (fun _ _ _ _ _ _ us hl => match us, hl with | [_], _ => rfl) fun fd F => F.ok sc_kids (fun vs H Q E h => ?_) (fun cdv A outer s H vs Q E hr h => ?_)
  · obtain ⟨t, x, rfl, _⟩ := h
    rfl
  · obtain ⟨t, x, rfl, ht, hl, k⟩ := h
    cases ht with
    | mk hx hp hq hk hlen hc =>
    rename_i f a b ks pa qs ps
    have pl : qs.length = ps.length := paired_len hq
    refine ⟨_, PSs.nox <| pss_cons (ps_set (i := 1) sc_kids.nd rfl (.inl rfl) (pe_lst pa_nil)) (pss_cons (ps_for PassesOwn.never rfl (pi_tup (pe_ix ix_tup (pv 0) pe_int (fun _ _ => rfl))) (pg_name (i := 2) sc_kids.nd rfl (.inl rfl))
        (pss_one (ps_if (pt_cmpR op_eq (pe_ix ix_tup (pv 2) pe_int (fun _ _ => rfl)) pe_str (nomark _))
          (pss_one (ps_expr (pe_bm PySem.F.plainAttrs_list PySem.F.slot_list_extend PySem.F.type_list_extend mt_extT (pv 1) (pa_cons (pe_ix ix_tup (pv 2) pe_int (fun _ _ => rfl)) pa_nil))))
          (pss_one (ps_if (pt_cmpR op_in_seq (pe_ix ix_tup (pv 2) pe_int (fun _ _ => rfl)) (pe_tup (pa_cons pe_str (pa_cons pe_str pa_nil))) (by rfl)) (pss_one (ps_expr (pe_app (pv 1) (pv 2)))) pss_nil)))))
      (pss_one (ps_ret (pv 1)))), ?_⟩
    refine ⟨Nat.zero_le _, fun l hl0 => ?_⟩
    have A0 : Acc H l (rl (kidsA (ps.take 0))) (upd H l (.lst [])) := Acc.start hl0
    refine ⟨_, rfl, x, _, _, _, rfl, rfl, SqT.of (A0.1 _ _ hx), rfl, pa, rfl, ⟨_, SqT.of (A0.1 _ _ hp)⟩, for_tup (xs := rl qs) (fun i σ H' => ∃ v, σ = [some (.ref x), some (.ref l), v] ∧ Acc H l (rl (kidsA (ps.take i))) H') ⟨_, rfl, A0⟩ (fun i σ H' _ ⟨_, _, A⟩ => SqT.of (A.1 _ _ hp)) ?_ ?_⟩
    · rintro i y σ H1 hy ⟨v, rfl, A⟩
      have hi := (List.getElem?_eq_some_iff.mp hy).1
      rw [List.length_map] at hi
      rw [List.getElem?_map, List.getElem?_eq_getElem hi] at hy
      obtain rfl := Option.some.inj hy
      have hip : i < ps.length := by omega
      have hm : ps[i] ∈ ps := List.getElem_mem hip
      have tp : TpAt H qs[i] ps[i] := paired_get hq hi hip
      have hk1 := kidsA_take hip
      have hle : (kidsA (ps.take (i + 1))).length ≤ 1000 := Nat.le_trans (kidsA_le ps (i + 1)) (by rw [hlen]; exact hl)
      rw [hk1, List.length_append] at hle
      generalize qs[i] = q at *
      generalize ps[i] = p at *
      cases p with
      | tx z =>
        refine ⟨_, rfl, q, _, _, _, rfl, rfl, SqT.of (A.1 _ _ tp), rfl, rfl, _, rfl, ifN (by decide +kernel) ?_⟩
        refine ⟨_, rfl, q, _, _, _, rfl, rfl, SqT.of (A.1 _ _ tp), rfl, by show 2 ≤ sizeLine; decide, fun p hp => ?_⟩
        refine ⟨p, _, rfl, .inr (SqT.of upd_same), rfl, rfl, _, rfl, ifN (by decide +kernel) ?_⟩
        exact ⟨_, rfl, by rw [hk1]; simpa [Pv.as] using A.new hp⟩
      | on c =>
        obtain rfl : q = c := tp
        obtain ⟨kd, _, hkd⟩ := kid_of hlen hc (kidsA_mem hm (c := q) (List.mem_singleton.mpr rfl))
        obtain ⟨nm, pa', eq⟩ : ∃ nm pa', H q = some (.tup [.str "node", .str nm, .ref pa']) := by
          cases hkd with
          | mk hx _ _ _ _ _ => exact ⟨_, _, hx⟩
        refine ⟨_, rfl, q, _, _, _, rfl, rfl, SqT.of (A.1 _ _ eq), rfl, rfl, _, rfl, ifN (by decide +kernel) ?_⟩
        refine ⟨_, rfl, q, _, _, _, rfl, rfl, SqT.of (A.1 _ _ eq), rfl, by show 2 ≤ sizeLine; decide, fun p hp => ?_⟩
        refine ⟨p, _, rfl, .inr (SqT.of upd_same), rfl, rfl, _, rfl, ifP (by decide +kernel) ?_⟩
        have A2 := A.new (o := .tup [.str "node", .str "var"]) hp
        refine ⟨_, rfl, .inl ⟨rfl, _, SqL.of A2.at'⟩, _, rfl, l, _, _, rfl, rfl, A2.at', ?_, ?_⟩
        · rw [List.length_map]
          simp only [Pv.as, List.length_singleton] at hle
          exact Nat.lt_of_lt_of_le (show _ < 1001 by omega) (by decide)
        · exact ⟨_, rfl, by rw [hk1]; unfold rl at *; rw [List.map_append]; exact A2.push⟩
      | rw r as =>
        refine ⟨_, rfl, q, _, _, _, rfl, rfl, SqT.of (A.1 _ _ tp.1), rfl, rfl, _, rfl, ifP (by decide +kernel) ?_⟩
        refine ⟨_, rfl, .inl ⟨rfl, _, SqL.of A.at'⟩, _, rfl, q, _, _, _, rfl, rfl, SqT.of (A.1 _ _ tp.1), rfl, l, r, _, _, rfl, rfl, A.at', SqT.of (A.1 _ _ tp.2), ?_, ?_⟩
        · rw [List.length_map, List.length_map]
          exact Nat.le_trans hle (by decide)
        · exact ⟨_, rfl, by rw [hk1]; unfold rl at *; rw [List.map_append]; exact A.push⟩
    · rintro σ H1 ⟨v, rfl, A⟩
      refine ⟨_, rfl, k _ l (kidsA ps) ?_ hlen hc⟩
      rw [List.length_map, pl, List.take_length] at A
      exact A
end
end Jz
end
section
set_option maxHeartbeats 4000000
/-! heights, spots, paths -/
namespace Jz
open PySem PySem.Spec PyProof.Rows L2 ClX
theorem heightL_take {ks : List Tr} : ∀ {i : Nat} (hi : i < ks.length), heightL (ks.take (i + 1)) = max (heightL (ks.take i)) (height ks[i]) := by
  induction ks with
  | nil => intro i hi; exact absurd hi (Nat.not_lt_zero _)
  | cons k r ih =>
    intro i hi
    cases i with
    | zero => simp [heightL]
    | succ i =>
      have := ih (Nat.lt_of_succ_lt_succ hi)
      rw [List.take_succ_cons, List.take_succ_cons, heightL, heightL, this]
      simp only [List.getElem_cons_succ]
      omega
theorem spotsL_take {ks : List Tr} : ∀ {i n : Nat} (hi : i < ks.length), spotsL n (ks.take (i + 1)) = spotsL n (ks.take i) ++ (spots ks[i]).map ((n + i) :: ·) := by
  induction ks with
  | nil => intro i n hi; exact absurd hi (Nat.not_lt_zero _)
  | cons k r ih =>
    intro i n hi
    cases i with
    | zero => simp [spotsL]
    | succ i =>
      have := ih (n := n + 1) (Nat.lt_of_succ_lt_succ hi)
      rw [List.take_succ_cons, List.take_succ_cons, spotsL, spotsL, this, List.append_assoc]
      simp only [List.getElem_cons_succ, Nat.add_assoc, Nat.add_comm 1 i]
/-- the number of nodes -/
def size (t : Tr) : Nat := (spots t).length
theorem spotsL_len : ∀ (ks : List Tr) (n : Nat), (spotsL n ks).length = (ks.map size).sum
  | [], _ => by simp [spotsL]
  | k :: r, n => by rw [spotsL, List.length_append, List.length_map, spotsL_len r, List.map_cons, List.sum_cons]; rfl
theorem size_eq {f a b ks} : size (.node f a b ks) = (ks.map size).sum + 1 := by rw [size, spots, List.length_cons, spotsL_len]
theorem size_pos (t : Tr) : 0 < size t := by
  cases t with
  | node f a b ks => rw [size_eq]; omega
theorem le_sum : ∀ {ks : List Tr} {k : Tr}, k ∈ ks → size k ≤ (ks.map size).sum
  | x :: r, k, h => by
    rw [List.map_cons, List.sum_cons]
    rcases List.mem_cons.mp h with h | h
    · rw [h]; omega
    · have := le_sum h
      omega
theorem len_sum : ∀ ks : List Tr, ks.length ≤ (ks.map size).sum
  | [] => Nat.zero_le _
  | k :: r => by
    rw [List.map_cons, List.sum_cons, List.length_cons]
    have := len_sum r
    have := size_pos k
    omega
theorem size_ks (t : Tr) : t.ks.length < size t := by
  cases t with
  | node f a b ks =>
    rw [size_eq]
    have := len_sum ks
    show ks.length < _
    omega
theorem size_kid {t k : Tr} (h : k ∈ t.ks) : size k < size t := by
  cases t with
  | node f a b ks =>
    rw [size_eq]
    have := le_sum (ks := ks) h
    omega
theorem spot_len : ∀ (p : Pa) (t : Tr), p ∈ spots t → p.length < size t
  | [], t, _ => size_pos t
  | j :: r, .node f a b ks, h => by
    rw [spots] at h
    rcases List.mem_cons.mp h with h | h
    · cases h
    · obtain ⟨i, k, q, e1, e2, e3⟩ := (mem_spotsL 0 ks (j :: r)).mp h
      obtain ⟨rfl, rfl⟩ := List.cons.inj e2
      have h1 := spot_len r k e3
      have h2 := size_kid (t := .node f a b ks) (k := k) (List.mem_of_getElem? e1)
      rw [List.length_cons]
      omega
def spGreat (C : Addr) : Sp := fun vs H Q _ => ∃ a as ks, vs = [.ref a] ∧ H a = some (.tup (rl as)) ∧ as.length = ks.length ∧
  (∀ (i : Nat) k c, ks[i]? = some k → as[i]? = some c → ∃ dx fs, H c = some (.ins C dx fs) ∧ fs.lookup ("height" : Str) = some (.int (height k : Nat))) ∧ Q (.int (heightL ks : Nat)) H
def spSpots (C : Addr) : Sp := fun vs H Q _ => ∃ a as ks, vs = [.ref a] ∧ H a = some (.tup (rl as)) ∧ as.length = ks.length ∧
  (∀ (i : Nat) k c, ks[i]? = some k → as[i]? = some c → ∃ dx fs sp, H c = some (.ins C dx fs) ∧ fs.lookup ("spots" : Str) = some (.ref sp) ∧ SpAt H (spots k) sp) ∧ (ks.map size).sum ≤ 1000 ∧
  ∀ H' p qs, Acc H p (rl qs) H' → Paired (PaAt H') ([] :: spotsL 0 ks) qs → Q (.ref p) H'
theorem paired_app {α β : Type} {F : α → β → Prop} : ∀ {l : List α} {m : List β} {l2 : List α} {m2 : List β}, Paired F l m → Paired F l2 m2 → Paired F (l ++ l2) (m ++ m2)
  | _, _, _, _, .nil, h => h
  | _, _, _, _, .cons h t, h2 => .cons h (paired_app t h2)
theorem paired_snoc {α β : Type} {F : α → β → Prop} {l : List α} {m : List β} {x : α} {y : β} (h : Paired F l m) (h2 : F x y) : Paired F (l ++ [x]) (m ++ [y]) := paired_app h (.cons h2 .nil)
section
variable {P : Program} {w : World} {K : PySem.W.Frag} {mg : Str → Option Value} {base : Heap}
abbrev sGreat : Stmt := top 30
theorem sc_great : FnScope ["children", "found", "child"] ["children"] (defScope sGreat) := ⟨rfl, rfl, rfl, by decide +kernel, rfl, by decide +kernel, by decide +kernel⟩
theorem at_two {as : List Addr} {ks : List Tr} {y : V} {i : Nat} (hl : as.length = ks.length) (h : (rl as)[i]? = some y) : ∃ c k, y = .ref c ∧ as[i]? = some c ∧ ks[i]? = some k ∧ ∃ hi : i < ks.length, ks[i] = k := by
  have hi := (List.getElem?_eq_some_iff.mp h).1
  rw [List.length_map] at hi
  rw [List.getElem?_map, List.getElem?_eq_getElem hi] at h
  have hk : i < ks.length := by omega
  exact ⟨as[i], ks[i], (Option.some.inj h).symm, List.getElem?_eq_getElem hi, List.getElem?_eq_getElem hk, hk, rfl⟩
theorem g_great (T : Tx K mg) : GF P w K mg base 1 "greatest_height" ["children"] (spGreat (cA K "Tree")) := by
  refine gf_of T.m_greatest_height T.d_greatest_height (fun _ _ _ _ _ _ us hl => match us, hl with | [_], _ => rfl) fun fd F => F.ok sc_great (fun vs H Q E h => ?_) (fun cdv A outer s H vs Q E hr h => ?_)
  · obtain ⟨a, as, ks, rfl, _⟩ := h
    rfl
  · obtain ⟨a, as, ks, rfl, ha, hl, hc, k⟩ := h
    refine ⟨_, PSs.nox <| pss_cons (ps_set (i := 1) sc_great.nd rfl (.inl rfl) pe_int) (pss_cons (ps_for PassesOwn.never rfl (pi_tup (pv 0)) (pg_name (i := 2) sc_great.nd rfl (.inl rfl))
        (pss_one (ps_set (i := 1) sc_great.nd rfl (.inl rfl) (pe_ifExp (pt_cmpR op_gt (pe_fld (pv 2) rfl) (pv 1) (nomark _)) (pe_fld (pv 2) rfl) (pv 1)))))
      (pss_one (ps_ret (pv 1)))), ?_⟩
    refine ⟨_, rfl, a, rfl, ⟨_, SqT.of ha⟩, for_tup (xs := rl as) (fun i σ H' => ∃ v, σ = [some (.ref a), some (.int (heightL (ks.take i) : Nat)), v] ∧ H' = H) ⟨_, rfl, rfl⟩ (fun i σ H' _ ⟨_, _, e⟩ => by rw [e]; exact SqT.of ha) ?_ ?_⟩
    · rintro i y σ H1 hy ⟨v, rfl, rfl⟩
      obtain ⟨c, kd, rfl, h1, h2, hi, rfl⟩ := at_two hl hy
      obtain ⟨dx, fs, ec, lk⟩ := hc i _ _ h2 h1
      refine ⟨_, rfl, c, _, dx, _, _, rfl, ec, T.c_Tree, T.a_Tree_height, lk, _, rfl, _, _, rfl, rfl, _, rfl, ?_⟩
      refine ite2 (fun q => ?_) (fun q => ?_)
      · refine ⟨_, rfl, c, _, dx, _, _, rfl, ec, T.c_Tree, T.a_Tree_height, lk, some (.ref c), ?_, rfl⟩
        have q2 := of_decide_eq_true q
        rw [heightL_take hi, Nat.max_eq_right (by omega)]
        rfl
      · refine ⟨_, rfl, some (.ref c), ?_, rfl⟩
        have q2 := of_decide_eq_false (Bool.eq_false_iff.mpr q)
        rw [heightL_take hi, Nat.max_eq_left (by omega)]
        rfl
    · rintro σ H1 ⟨v, rfl, rfl⟩
      rw [List.length_map, hl, List.take_length]
      exact ⟨_, rfl, k⟩
abbrev sSpots : Stmt := top 29
theorem sc_spots : FnScope ["children", "found", "number", "child", "path"] ["children"] (defScope sSpots) := ⟨rfl, rfl, rfl, by decide +kernel, rfl, by decide +kernel, by decide +kernel⟩
theorem g_spots (T : Tx K mg) : GF P w K mg base 1 "spots_of" ["children"] (spSpots (cA K "Tree")) := by
  refine gf_of T.m_spots_of T.d_spots_of (fun _ _ _ _ _ _ us hl => match us, hl with | [_], _ => rfl) fun fd F => F.ok sc_spots (fun vs H Q E h => ?_) (fun cdv A outer s H vs Q E hr h => ?_)
  · obtain ⟨a, as, ks, rfl, _⟩ := h
    rfl
  · obtain ⟨a, as, ks, rfl, ha, hl, hc, hz, k⟩ := h
    refine ⟨_, PSs.nox <| pss_cons (ps_set (i := 1) sc_spots.nd rfl (.inl rfl) (pe_lst (pa_cons (pe_tup pa_nil) pa_nil))) (pss_cons (ps_for PassesOwn.never rfl (pi_enumT (by rfl) T.n_enumerate (pa_cons (pv 0) pa_nil))
        (pg_tup rfl (pgs_cons (pg_name (i := 2) sc_spots.nd rfl (.inr rfl)) (pgs_cons (pg_name (i := 3) sc_spots.nd rfl (.inl rfl)) pgs_nil)))
        (pss_one (ps_expr (pe_bm PySem.F.plainAttrs_list PySem.F.slot_list_extend PySem.F.type_list_extend mt_extend (pv 1) (pa_cons
          (pe_lc (own := [("path", 4)]) (g := gName 4) (te := tOp (rCatA K) (tTup (tCons (tVar 2) tNil)) (tVar 4)) (by rfl) sc_spots.nd (pi_tup (pe_fld (pv 3) rfl)) (blkOk_by (own := [("path", 4)]) (N := ["children", "found", "number", "child", "path"]) (sc := defScope sSpots) (by decide +kernel))
            (fun _ _ _ _ _ => pg_name (i := 4) sc_spots.nd rfl (Or.inl rfl)) (fun _ _ _ _ _ => pts_nil) (fun _ _ _ _ _ => pe_op op_catA (pe_tup (pa_cons (pv 2) pa_nil)) (pv 4))) pa_nil)))))
      (pss_one (ps_ret (pv 1)))), ?_⟩
    refine ⟨Nat.zero_le _, fun e0 he0 => ⟨by show 1 ≤ sizeLine; decide, fun l hl0 => ?_⟩⟩
    have nel : e0 ≠ l := fun z => by rw [z, upd_same] at hl0; cases hl0
    have A0 : Acc (upd H e0 (.tup [])) l (rl [e0]) (upd (upd H e0 (.tup [])) l (.lst [.ref e0])) := Acc.startL hl0
    have A0' : Acc H l (rl [e0]) (upd (upd H e0 (.tup [])) l (.lst [.ref e0])) := ⟨same_tr (same_new he0 _) A0.1, by rw [upd_ne nel.symm] at hl0; exact hl0, upd_same⟩
    refine ⟨_, rfl, a, _, rfl, SqT.of (A0'.1 _ _ ha), for_enT (xs := rl as) (fun i σ H' => ∃ v1 v2 qs, σ = [some (.ref a), some (.ref l), v1, v2, none] ∧ Acc H l (rl qs) H' ∧ Paired (PaAt H') ([] :: spotsL 0 (ks.take i)) qs)
      ⟨_, _, [e0], rfl, A0', .cons (A0.1 _ _ upd_same) .nil⟩ (fun i σ H' _ ⟨_, _, _, _, A, _⟩ => SqT.of (A.1 _ _ ha)) ?_ ?_⟩
    · rintro i y T1 σ H1 hy hT ⟨v1, v2, qs, rfl, A, pq⟩
      obtain ⟨c, kd, rfl, h1, h2, hi, rfl⟩ := at_two hl hy
      obtain ⟨dx, fs, sp, ec, lk, ps, hps, pps⟩ := hc i _ _ h2 h1
      refine ⟨T1, _, rfl, SqT.of upd_same, rfl, _, _, rfl, _, _, rfl, rfl, ?_⟩
      have A1 := A.new (o := .tup [.int (i : Nat), .ref c]) hT
      have pl := paired_len pps
      have hle : (spots ks[i]).length ≤ 1000 := Nat.le_trans (le_sum (List.getElem_mem hi)) hz
      have hq := paired_len pq
      have hq2 : ([] :: spotsL 0 (ks.take i)).length ≤ 1001 := by
        rw [List.length_cons, spotsL_len]
        have : ((ks.take i).map size).sum ≤ (ks.map size).sum := by
          have e : (ks.map size).sum = ((ks.take i).map size).sum + ((ks.drop i).map size).sum := by rw [← List.sum_append, ← List.map_append, List.take_append_drop]
          omega
        omega
      refine ⟨_, rfl, .inl ⟨rfl, _, SqL.of A1.at'⟩, _, rfl, c, _, dx, _, _, rfl, A1.1 _ _ ec, T.c_Tree, T.a_Tree_spots, lk, sp, rfl, ⟨_, SqT.of (A1.1 _ _ hps)⟩, fun D hD => ?_⟩
      refine lc_tup (xs := rl ps) (fun j H2 => ∃ rs, Acc (upd H1 T1 (.tup [.int (i : Nat), .ref c])) D (rl rs) H2 ∧ Paired (PaAt H2) (((spots ks[i]).take j).map (i :: ·)) rs) ⟨[], Acc.start hD, .nil⟩ (fun j H2 _ ⟨rs, B, _⟩ => SqT.of (B.1 _ _ (A1.1 _ _ hps))) ?_ ?_
      · rintro j z H2 hz2 ⟨rs, B, prs⟩
        have hj := (List.getElem?_eq_some_iff.mp hz2).1
        rw [List.length_map] at hj
        rw [List.getElem?_map, List.getElem?_eq_getElem hj] at hz2
        obtain rfl := Option.some.inj hz2
        have hj2 : j < (spots ks[i]).length := by omega
        have hp : PaAt H2 (spots ks[i])[j] ps[j] := PaAt.mono (PaAt.mono (paired_get pps hj2 hj) A1.1) B.1
        have tk : ((spots ks[i]).take (j + 1)).map (i :: ·) = ((spots ks[i]).take j).map (i :: ·) ++ [i :: (spots ks[i])[j]] := by
          rw [← List.take_append_getElem hj2, List.map_append]
          rfl
        have hrl := paired_len prs
        rw [List.length_map, List.length_take] at hrl
        refine ⟨rfl, yes1 ⟨_, rfl, by show 1 ≤ sizeLine; decide, fun t ht => ?_⟩⟩
        have B1 := B.new (o := .tup [.int (i : Nat)]) ht
        have fin : ∀ (t' : Addr) (H3 : Hp), Acc (upd H1 T1 (.tup [.int (i : Nat), .ref c])) D (rl rs) H3 → Same H2 H3 → PaAt H3 (i :: (spots ks[i])[j]) t' →
            ∃ acc, H3 D = some (.lst acc) ∧ acc.length < sizeLine ∧ ∃ rs, Acc (upd H1 T1 (.tup [.int (i : Nat), .ref c])) D (rl rs) (upd H3 D (.lst (acc ++ [.ref t']))) ∧ Paired (PaAt (upd H3 D (.lst (acc ++ [.ref t'])))) (((spots ks[i]).take (j + 1)).map (i :: ·)) rs := by
          intro t' H3 B3 s3 ht'
          have up : ∀ {q : Pa} {b : Addr}, PaAt H3 q b → PaAt (upd H3 D (.lst (rl rs ++ [.ref t']))) q b := fun {q b} e => by
            unfold PaAt at e ⊢
            rw [upd_ne (fun z => by rw [z, B3.at'] at e; cases e)]
            exact e
          refine ⟨_, B3.at', ?_, rs ++ [t'], ?_, ?_⟩
          · rw [List.length_map]; exact Nat.lt_of_le_of_lt (show rs.length ≤ 1000 by omega) (by decide)
          · unfold rl; rw [List.map_append]; exact B3.push
          · rw [tk]
            exact paired_snoc (Paired.mapP prs fun _ _ e => up (PaAt.mono e s3)) (up ht')
        have hpl : ((spots ks[i])[j]).length ≤ 1000 := Nat.le_trans (Nat.le_of_lt (spot_len _ _ (List.getElem_mem hj2))) hle
        refine ⟨_, rfl, t, ps[j], _, _, rfl, rfl, SqT.of upd_same, SqT.of (same_new ht _ _ _ hp), ?_, (fun z => nomatch z), (fun _ z => ?_), (fun _ z u hu => ?_)⟩
        · rw [List.length_map, List.length_singleton]
          exact Nat.le_trans (show 1 + _ ≤ 1001 by omega) (by decide)
        · refine fin t _ B1 (same_new ht _) ?_
          rw [List.map_eq_nil_iff.mp z]
          exact upd_same
        · exact fin u _ (B1.new hu) (same_tr (same_new ht _) (same_new hu _)) upd_same
      · rintro H2 ⟨rs, B, prs⟩
        rw [List.length_map, ← pl, List.take_length] at prs
        have hrl := paired_len prs
        rw [List.length_map] at hrl
        have A2 := A1.same B.1
        have up : ∀ {q : Pa} {b : Addr} {ys : List V}, PaAt H2 q b → PaAt (upd H2 l (.lst ys)) q b := fun {q b ys} e => by
          unfold PaAt at e ⊢
          rw [upd_ne (fun z => by rw [z, A2.at'] at e; cases e)]
          exact e
        refine ⟨l, D, _, _, rfl, rfl, A2.at', B.at', ?_, some (.int (i : Nat)), some (.ref c), qs ++ rs, ?_, ?_, ?_⟩
        · rw [List.length_map, List.length_map]
          exact Nat.le_trans (show _ ≤ 2001 by omega) (by decide)
        · rfl
        · unfold rl; rw [List.map_append]; exact A2.push
        · rw [spotsL_take hi, ← List.cons_append, Nat.zero_add]
          exact paired_app (Paired.mapP pq fun _ _ e => up (PaAt.mono e (same_tr (same_new hT _) B.1))) (Paired.mapP prs fun _ _ e => up e)
    · rintro σ H1 ⟨v1, v2, qs, rfl, A, pq⟩
      rw [List.length_map, hl, List.take_length] at pq
      exact ⟨_, rfl, k _ l qs A pq⟩
end
end Jz
end
section
set_option maxHeartbeats 4000000
/-! paths in trees, terms of parts -/
namespace Jz
open PySem PySem.Spec PyProof.Rows L2 ClX
def spIsPath (C : Addr) : Sp := fun vs H Q _ => ∃ t x p tm pa dx fs, vs = [.ref x, .ref p] ∧ H x = some (.ins C dx fs) ∧ fs.lookup ("term" : Str) = some (.ref tm) ∧ TmAt H t tm ∧ PaAt H pa p ∧ (get t pa).isSome = true ∧ size t ≤ 1000 ∧ ∀ H', Same H H' → Q (.bl true) H'
theorem get_size : ∀ (p : Pa) (t k : Tr), get t p = some k → size k ≤ size t
  | [], t, k, h => by
    cases h
    exact Nat.le_refl _
  | i :: p, .node f a b ks, k, h => by
    rw [get] at h
    obtain ⟨c, e1, e2⟩ := Option.bind_eq_some_iff.mp h
    exact Nat.le_trans (get_size p c k e2) (Nat.le_of_lt (size_kid (t := .node f a b ks) (List.mem_of_getElem? e1)))
section
variable {P : Program} {w : World} {K : PySem.W.Frag} {mg : Str → Option Value} {base : Heap}
abbrev sIsPath : Stmt := top 31
theorem sc_is_path : FnScope ["tree", "path", "here", "number", "below"] ["tree", "path"] (defScope sIsPath) := ⟨rfl, rfl, rfl, by decide +kernel, rfl, by decide +kernel, by decide +kernel⟩
theorem g_is_path (T : Tx K mg) : GF P w K mg base 2 "is_path" ["tree", "path"] (spIsPath (cA K "Tree")) := by
  refine gf_of T.m_is_path T.d_is_path (fun _ _ _ _ _ _ us hl => match us, hl with | [_, _], _ => rfl) fun fd F => F.ok sc_is_path (fun vs H Q E h => ?_) (fun cdv A outer s H vs Q E hr h => ?_)
  · obtain ⟨t, x, p, tm, pa, dx, fs, rfl, _⟩ := h
    rfl
  · obtain ⟨t, x, p, tm, pa, dx, fs, rfl, hx, lk, ht, hp, hg, hz, k⟩ := h
    refine ⟨_, PSs.nox <| pss_cons (ps_if (pt_not (pt_val (pe_isi T.n_isinstance (pv 1) (pe_ty T.n_tuple rfl)))) (pss_one (ps_ret pe_bl)) pss_nil)
      (pss_cons (ps_set (i := 2) sc_is_path.nd rfl (.inl rfl) (pe_fld (pv 0) rfl))
      (pss_cons (ps_for PassesOwn.never rfl (pi_tup (pv 1)) (pg_name (i := 3) sc_is_path.nd rfl (.inl rfl))
        (pss_cons (ps_set (i := 4) sc_is_path.nd rfl (.inl rfl) (pe_g (g_kids T) hr (pa_cons (pv 2) pa_nil)))
        (pss_cons (ps_if (PW.pt (pw_or (pt_not (pt_val (pe_isi T.n_isinstance (pv 3) (pe_ty T.n_int rfl)))) (pw_or (pt_val (pe_isi T.n_isinstance (pv 3) (pe_ty T.n_bool rfl)))
            (pw_or1 (pt_not (pt_chain op_le op_lt pe_int (pv 3) (pe_callB call_len_seq (by rfl) T.n_len PySem.boot_len (pa_cons (pv 4) pa_nil)))))))) (pss_one (ps_ret pe_bl)) pss_nil)
        (pss_one (ps_set (i := 2) sc_is_path.nd rfl (.inl rfl) (pe_ix ix_list (pv 4) (pv 3) (fun _ _ => rfl)))))))
      (pss_one (ps_ret pe_bl)))), ?_⟩
    refine ⟨_, rfl, .ref p, .ty "tuple", _, _, true, rfl, .ty "tuple", .base (.tup hp), kit_ty (by decide +kernel), true, rfl, iteF ?_⟩
    refine ⟨_, rfl, x, _, dx, _, _, rfl, hx, T.c_Tree, T.a_Tree_term, lk, ?_⟩
    refine ⟨_, rfl, p, rfl, ⟨_, SqT.of hp⟩, for_tup (xs := pa.map fun n : Nat => V.int (n : Int)) (fun i σ H' => ∃ here v1 v2 kd, σ = [some (.ref x), some (.ref p), some (.ref here), v1, v2] ∧ Same H H' ∧ get t (pa.take i) = some kd ∧ TmAt H' kd here)
      ⟨tm, _, _, t, rfl, same_rfl, rfl, ht⟩ (fun i σ H' _ ⟨_, _, _, _, _, s1, _⟩ => SqT.of (s1 _ _ hp)) ?_ ?_⟩
    · rintro i y σ H1 hy ⟨here, v1, v2, kd, rfl, s1, hg1, htm⟩
      have hi := (List.getElem?_eq_some_iff.mp hy).1
      rw [List.length_map] at hi
      rw [List.getElem?_map, List.getElem?_eq_getElem hi] at hy
      obtain rfl := Option.some.inj hy
      obtain ⟨c, hc⟩ : ∃ c, get t (pa.take (i + 1)) = some c := by
        have e : pa = pa.take (i + 1) ++ pa.drop (i + 1) := (List.take_append_drop _ _).symm
        rw [e, get_append] at hg
        cases q : get t (pa.take (i + 1)) with
        | none => rw [q] at hg; cases hg
        | some c => exact ⟨c, rfl⟩
      have hc2 := hc
      rw [← List.take_append_getElem hi, get_append, hg1] at hc2
      have hck : kd.ks[pa[i]]? = some c := by
        cases kd with
        | node f a b ks =>
          have h3 : (ks[pa[i]]?).bind (fun k => get k []) = some c := hc2
          obtain ⟨c', e1, e2⟩ := Option.bind_eq_some_iff.mp h3
          cases e2
          exact e1
      have hks : kd.ks.length ≤ 1000 := Nat.le_trans (Nat.le_of_lt (size_ks kd)) (Nat.le_trans (get_size _ _ _ hg1) hz)
      refine ⟨_, rfl, kd, here, rfl, htm, hks, fun H2 l as A2 hl has => ?_⟩
      have hlt : pa[i] < kd.ks.length := (List.getElem?_eq_some_iff.mp hck).1
      refine ⟨_, rfl, .int _, .ty "int", _, _, true, rfl, .ty "int", .base (.int _), kit_ty (by decide +kernel), true, rfl, iteF ?_⟩
      refine ⟨_, rfl, .int _, .ty "bool", _, _, false, rfl, .ty "bool", .base (.int _), kit_ty (by decide +kernel), false, rfl, iteF ?_⟩
      refine ⟨_, rfl, _, _, rfl, rfl, _, rfl, ?_⟩
      refine ifP (decide_eq_true (by omega)) ⟨_, rfl, l, _, rfl, .inl (SqL.of A2.at'), _, _, rfl, rfl, _, rfl, ?_⟩
      have e1 : decide (((pa[i] : Nat) : Int) < ((rl as).length : Nat)) = true := decide_eq_true (by rw [List.length_map, hl]; omega)
      rw [e1]
      refine iteF ?_
      have hla : pa[i] < as.length := by omega
      refine ⟨_, rfl, _, rfl, l, _, _, .ref as[pa[i]], rfl, rfl, SqL.of A2.at', atI_nat (by rw [List.getElem?_map, List.getElem?_eq_getElem hla]; rfl), ?_⟩
      exact ⟨_, _, _, c, rfl, same_tr s1 A2.1, hc, (has _ _ _ hck (List.getElem?_eq_getElem hla)).mono A2.1⟩
    · rintro σ H1 ⟨here, v1, v2, kd, rfl, s1, _⟩
      exact k _ s1
end
end Jz
end
section
set_option maxHeartbeats 4000000
/-! terms of parts, kinds -/
namespace Jz
open PySem PySem.Spec PyProof.Rows L2 ClX
section
variable {P : Program} {w : World} {K : PySem.W.Frag} {mg : Str → Option Value} {base : Heap}
abbrev sTerm : Stmt := top 25
theorem sc_term : FnScope ["part", "rest", "item"] ["part"] (defScope sTerm) := ⟨rfl, rfl, rfl, by decide +kernel, rfl, by decide +kernel, by decide +kernel⟩
theorem g_term (T : Tx K mg) : GF P w K mg base 1 "term_of" ["part"] (spTerm (cA K "Tree")) := by
  refine gf_of T.m_term_of T.d_term_of (fun _ _ _ _ _ _ us hl => match us, hl with | [_], _ => rfl) fun fd F => F.ok sc_term (fun vs H Q E h => ?_) (fun cdv A outer s H vs Q E hr h => ?_)
  · obtain ⟨p, τ, rfl, _⟩ := h
    rfl
  · obtain ⟨p, τ, rfl, hc, hrw, hl, k⟩ := h
    refine ⟨_, PSs.nox <| pss_cons (ps_if (pt_val (pe_isi T.n_isinstance (pv 0) (pe_ty T.n_str rfl))) (pss_one (ps_ret (pe_tup (pa_cons pe_str (pa_cons (pv 0) pa_nil))))) pss_nil)
      (pss_cons (ps_if (pt_val (pe_isi T.n_isinstance (pv 0) (pe_ty T.n_tuple rfl)))
        (pss_cons (ps_set (i := 1) sc_term.nd rfl (.inl rfl) (pe_ifExp (PW.pt (pw_and (pt_cmpR (op_neE hr.units0) (pv 0) (pe_tup pa_nil) (nomark _)) (pw_and1 (pt_val (pe_isi T.n_isinstance (pe_ix ix_tup (pv 0) (pe_un un_neg pe_int) (fun _ _ => rfl)) (pe_own T.m_Rest))))))
            (pe_fld (pe_ix ix_tup (pv 0) (pe_un un_neg pe_int) (fun _ _ => rfl)) rfl) pe_str))
          (pss_one (ps_ret (pe_tup (pa_cons pe_str (pa_cons (pe_callTy call_tuple_of (by rfl) T.n_tuple (by decide +kernel) (pa_cons
            (pe_lc (own := [("item", 2)]) (g := gName 2) (tt := tNot (tB (tCB (rIsi K) (tCons (tVar 2) (tCons (tC (.ref (cA K "Rest"))) tNil))))) (te := tFld K (tVar 2) "term") (by rfl) sc_term.nd (pi_tup (pv 0)) (blkOk_by (own := [("item", 2)]) (N := ["part", "rest", "item"]) (sc := defScope sTerm) (by decide +kernel))
              (fun _ _ _ _ _ => pg_name (i := 2) sc_term.nd rfl (Or.inl rfl)) (fun _ _ _ _ _ => pts_one (pt_not (pt_val (pe_isi T.n_isinstance (pv 2) (pe_own T.m_Rest))))) (fun _ _ _ _ _ => pe_fld (pv 2) rfl)) pa_nil)) (pa_cons (pv 1) pa_nil)))))) ) pss_nil)
      (pss_one (ps_ret (pe_fld (pv 0) rfl)))), ?_⟩
    cases p with
    | tx z =>
      refine ⟨_, rfl, .str z, .ty "str", _, _, true, rfl, .ty "str", .base (.str z), kit_ty (by decide +kernel), true, rfl, iteT ?_⟩
      refine ⟨_, rfl, by show 2 ≤ sizeLine; decide, fun q hq => ?_⟩
      exact k _ q (.tx z) (same_new hq _) upd_same rfl rfl
    | on c =>
      obtain ⟨dx, fs, ec, lk⟩ := hc c (List.mem_singleton.mpr rfl)
      refine ⟨_, rfl, .ref c, .ty "str", _, _, false, rfl, .ty "str", T.i_Tree ec, T.kit_Tree_str, false, rfl, iteF ?_⟩
      refine ⟨_, rfl, .ref c, .ty "tuple", _, _, false, rfl, .ty "tuple", T.i_Tree ec, T.kit_Tree_tuple, false, rfl, iteF ?_⟩
      refine ⟨_, rfl, c, _, dx, _, _, rfl, ec, T.c_Tree, T.a_Tree_term, lk, ?_⟩
      exact k _ (τ c) (.on (τ c)) same_rfl rfl rfl rfl
    | rw r as =>
      have er := hrw r as rfl
      refine ⟨_, rfl, .ref r, .ty "str", _, _, false, rfl, .ty "str", .base (.tup er), kit_ty (by decide +kernel), false, rfl, iteF ?_⟩
      refine ⟨_, rfl, .ref r, .ty "tuple", _, _, true, rfl, .ty "tuple", .base (.tup er), kit_ty (by decide +kernel), true, rfl, iteT ?_⟩
      refine ⟨_, rfl, by show 0 ≤ sizeLine; decide, fun e0 he0 => ?_⟩
      have s0 := same_new he0 (.tup [])
      refine ⟨r, e0, _, rfl, rfl, SqT.of (s0 _ _ er), SqT.of upd_same, _, rfl, ?_⟩
      refine (fun w => ite2 (fun hne => ?_) (fun _ => w)) ?_
      · obtain ⟨x, hx⟩ : ∃ x, atI (rl as) (-1) = some x ∧ ∃ c ∈ as, x = .ref c := by
          have hn : as ≠ [] := fun z => by rw [z] at hne; cases hne
          refine ⟨.ref (as.getLast hn), ?_, _, List.getLast_mem hn, rfl⟩
          have e := List.dropLast_concat_getLast hn
          generalize as.getLast hn = g at *
          rw [← e]
          unfold rl
          rw [List.map_append]
          exact atI_last (as.dropLast.map V.ref) (V.ref g)
        obtain ⟨hx, c, hm, rfl⟩ := hx
        obtain ⟨dx, fs, ec, lk⟩ := hc c hm
        exact ⟨_, rfl, _, rfl, r, _, _, .ref c, rfl, rfl, SqT.of (s0 _ _ er), hx, .ref c, .ref (cA K "Rest"), _, _, false, rfl, .own _, T.i_Tree (s0 _ _ ec), T.kit_Tree_Rest, false, rfl, w⟩
      · refine iteF ?_
        refine ⟨_, rfl, r, rfl, ⟨_, SqT.of (s0 _ _ er)⟩, fun D hD => ?_⟩
        refine lc_tup (xs := rl as) (fun i H' => Acc (upd H e0 (.tup [])) D (rl ((as.take i).map τ)) H') (Acc.start hD) (fun i H' _ B => SqT.of (B.1 _ _ (s0 _ _ er))) ?_ ?_
        · intro i y H2 hy B
          have hi := (List.getElem?_eq_some_iff.mp hy).1
          rw [List.length_map] at hi
          rw [List.getElem?_map, List.getElem?_eq_getElem hi] at hy
          obtain rfl := Option.some.inj hy
          obtain ⟨dx, fs, ec, lk⟩ := hc as[i] (List.getElem_mem hi)
          have ec2 := B.1 _ _ (s0 _ _ ec)
          refine ⟨rfl, _, rfl, .ref as[i], .ref (cA K "Rest"), _, _, false, rfl, .own _, T.i_Tree ec2, T.kit_Tree_Rest, false, rfl, iteT ?_⟩
          refine ⟨_, rfl, as[i], _, dx, _, _, rfl, ec2, T.c_Tree, T.a_Tree_term, lk, _, B.at', ?_, ?_⟩
          · rw [List.length_map, List.length_map, List.length_take]
            have hl' : as.length ≤ 1000 := hl
            exact Nat.lt_of_le_of_lt (show _ ≤ 1000 by omega) (by decide)
          · rw [← List.take_append_getElem hi, List.map_append]
            unfold rl
            rw [List.map_append]
            exact B.push
        · intro H2 B
          rw [List.length_map, List.take_length] at B
          refine ⟨D, _, rfl, .inl ⟨SqL.of B.at', fun l hl0 => ?_⟩⟩
          have B2 := B.new (o := .tup (rl (as.map τ))) hl0
          refine ⟨_, rfl, by show 3 ≤ sizeLine; decide, fun q hq => ?_⟩
          have B3 := B2.new (o := .tup [.str "row", .ref l, .str ""]) hq
          exact k _ q (.rw l (as.map τ)) (same_tr s0 B3.1) ⟨upd_same, same_new hq _ _ _ upd_same⟩ rfl rfl
end
end Jz
end
section
set_option maxHeartbeats 4000000
/-! making a tree -/
namespace Jz
open PySem PySem.Spec PyProof.Rows L2 ClX StX
/-- H without what stands at x -/
def rm (H : Hp) (x : Addr) : Hp := fun b => if b = x then none else H b
theorem rm_x {H : Hp} {x : Addr} : rm H x x = none := if_pos rfl
theorem rm_ne {H : Hp} {x b : Addr} (h : b ≠ x) : rm H x b = H b := if_neg h
theorem rm_same {H : Hp} {x : Addr} : Same (rm H x) H := fun b o e => by
  by_cases h : b = x
  · rw [h, rm_x] at e; cases e
  · rw [rm_ne h] at e; exact e
theorem same_rm {H0 H : Hp} {x : Addr} (s : Same H0 H) (h : H0 x = none) : Same H0 (rm H x) := fun b o e => by
  rw [rm_ne (ne_of_none e h)]
  exact s _ _ e
/-- at x stands o, all else of H0 as it was -/
def At1 (H0 : Hp) (x : Addr) (o : HO) (H : Hp) : Prop := Same H0 H ∧ H0 x = none ∧ H x = some o
section
variable {B H H' : Hp} {x p : Addr} {o o' : HO}
theorem At1.start (h : H x = some o) : At1 (rm H x) x o H := ⟨rm_same, rm_x, h⟩
theorem At1.put (h : At1 B x o H) : At1 B x o' (upd H x o') := ⟨fun b u e => by rw [upd_ne (ne_of_none e h.2.1)]; exact h.1 _ _ e, h.2.1, upd_same⟩
theorem At1.new (h : At1 B x o H) (n : H p = none) (u : HO) : At1 B x o (upd H p u) := ⟨same_tr h.1 (same_new n u), h.2.1, same_new n u _ _ h.2.2⟩
theorem At1.same (h : At1 B x o H) (s : Same H H') : At1 B x o H' := ⟨same_tr h.1 s, h.2.1, s _ _ h.2.2⟩
end
/-- the class x makes: its __init__ keeps sp -/
structure KR (P : Program) (w : World) (K : PySem.W.Frag) (mg : Str → Option Value) (base : Heap) (k : Nat) (x : Str) (C : Addr) (sp : Sp) : Prop where
  ex : ∃ f, Mk K C f ∧ FnR P w K mg base CX0 k f sp ∧ mg x = some (.ref C)
theorem pe_kr {X : Cx} {k : Nat} {x : Str} {C : Addr} {sp : Sp} {e : Expr} {es : List Expr} {t : TA} {p pos : Pos} (G : KR X.prog X.w X.K X.mg X.base k x C sp) (hr : Room (k + 1) X.A) (ha : PA X (e :: es) t) (hg : Gl X x := by rfl) (hdb : (x == ("__debug__" : Str)) = false := by decide)
    (he : starEach (e :: es) X.env = (false, eval e X.env) :: starEach es X.env := by rfl) (hpl : (backTo pos (starEach es X.env)).any (·.1) = false := by rfl) : PE X (.Call (.Name x p) (e :: es) [] pos) (tMakeR C sp E0 t) := by
  obtain ⟨f, M, F, hm⟩ := G.ex
  exact pe_makeR M F hr hg hm pass0 ha hdb he hpl
theorem nameOk_fm (f : Fm) : nameOk (fmN f) = true := by cases f <;> decide +kernel
def tmA (H : Hp) (c : Addr) : Addr := match H c with
  | some (.ins _ _ fs) => (match fs.lookup ("term" : Str) with
    | some (.ref a) => a
    | _ => 0)
  | _ => 0
theorem tmA_eq {H : Hp} {c C dx tm : Addr} {fs : List (Str × V)} (h : H c = some (.ins C dx fs)) (l : fs.lookup ("term" : Str) = some (.ref tm)) : tmA H c = tm := by
  unfold tmA
  rw [h]
  simp only [l]
theorem TrAt.fld {C : Addr} {H : Hp} {t : Tr} {c : Addr} (h : TrAt C H t c) : ∃ dx f g bl sp tm, H c = some (.ins C dx (trF f g bl (height t) sp tm)) ∧ f = t.f ∧ SpAt H (spots t) sp ∧ TmAt H t tm := by
  cases h with
  | mk hx _ _ _ _ _ hs ht _ => exact ⟨_, _, _, _, _, _, hx, rfl, hs, ht⟩
def spTree (C : Addr) : Sp := fun vs H Q _ => ∃ H0 x dx g f a b ks ps, vs = [.ref x, .str (fmN f), .ref g] ∧ Same H0 H ∧ H0 x = none ∧ H x = some (.ins C dx []) ∧ H g = some (.tup (ps.map Pv.v)) ∧ (∀ r as, Pv.rw r as ∈ ps → H0 r = some (.tup (rl as))) ∧
  ps.map Pv.k = kinds f a b ∧ (kidsA ps).length = ks.length ∧ (∀ (i : Nat) k c, ks[i]? = some k → (kidsA ps)[i]? = some c → TrAt C H0 k c) ∧ size (.node f a b ks) ≤ 400 ∧ height (.node f a b ks) ≤ 100 ∧
  ∀ H', Same H0 H' → TrAt C H' (.node f a b ks) x → Q .non H'
theorem kidsA_one : ∀ {ps : List Pv} {p : Pv}, p ∈ ps → p.as.length ≤ (kidsA ps).length
  | q :: r, p, h => by
    have e : kidsA (q :: r) = q.as ++ kidsA r := by unfold kidsA; rw [List.flatMap_cons]
    rw [e, List.length_append]
    rcases List.mem_cons.mp h with h | h
    · rw [h]; omega
    · have := kidsA_one h
      omega
theorem sum_cast : ∀ ks : List Tr, (ks.map fun k => ((size k : Nat) : Int)).sum = (((ks.map size).sum : Nat) : Int)
  | [] => rfl
  | k :: r => by
    rw [List.map_cons, List.sum_cons, List.map_cons, List.sum_cons, sum_cast r]
    omega
theorem tp_upd {H : Hp} {D q : Addr} {xs ys : List V} {p : Pv} (h : H D = some (.lst xs)) (t : TpAt H q p) : TpAt (upd H D (.lst ys)) q p := by
  have up : ∀ {b : Addr} {zs : List V}, H b = some (.tup zs) → upd H D (.lst ys) b = some (.tup zs) := fun {b zs} e => by
    rw [upd_ne (fun z => by rw [z, h] at e; cases e)]
    exact e
  cases p with
  | tx _ => exact up t
  | on _ => exact t
  | rw _ _ => exact ⟨up t.1, up t.2⟩
theorem kinds_len (f : Fm) (a b : Bool) : (kinds f a b).length ≤ 2 := by cases f <;> simp [kinds]
section
variable {P : Program} {w : World} {K : PySem.W.Frag} {mg : Str → Option Value} {base : Heap}
abbrev sTree : Stmt := inC 27 2
theorem sc_tree : FnScope ["self", "form", "parts", "spot", "part", "child"] ((["self", "form"] : List Str) ++ (["parts"] : List Str)) (defScope sTree) := ⟨rfl, rfl, rfl, by decide +kernel, rfl, by decide +kernel, by decide +kernel⟩
theorem k_tree (T : Tx K mg) : KR P w K mg base 2 "Tree" (cA K "Tree") (fun vs H Q E => ∃ ws rest, vs = ws ++ rest ∧ ws.length = (["self", "form"] : List Str).length ∧ rest.length ≤ sizeLine ∧ ∀ p, H p = none → spTree (cA K "Tree") (ws ++ [V.ref p]) (upd H p (.tup rest)) Q E) := by
  obtain ⟨fd, F⟩ := T.d_Tree___init__
  obtain ⟨oc, od, dV, kV, doc, pm, an, cdv, ct, osl, rfl, lk, hcd, hdv, _⟩ := F.ex
  refine ⟨_, T.k_Tree, fn_star (ps := ["self", "form"]) (pv := "parts") (sp := spTree (cA K "Tree")) (N := ["self", "form", "parts", "spot", "part", "child"]) lk hcd sc_tree cxUp_none ?_ (fun A outer s H vs Q E hr h => ?_), T.m_Tree⟩
  · have e : dV = .none := by
      rcases hdv with ⟨_, e⟩ | ⟨e, _⟩
      · exact e
      · exact absurd rfl e
    subst e
    exact bind_star2 (B := fun us => bindArgs (PySem.W.fnOf "__init__" "Tree.__init__" (defArgs sTree) (defBody sTree) (defScope sTree) .none kV doc pm an cdv ct) ⟨us, []⟩) (p1 := "self") (p2 := "form") (pv := "parts") (fun _ _ => rfl) (fun _ _ _ _ => rfl)
  · obtain ⟨H0, x, dx, g, f, a, b, ks, ps, rfl, s0, hx0, hx, hg, hrw, hk, hl, hc, hsz, hht, k⟩ := h
    obtain ⟨umf, ecf⟩ := T.w_Tree_MAX_NODES
    obtain ⟨uml, ecl⟩ := T.w_Tree_MAX_LEVELS
    refine ⟨_, PSs.nox <| pss_cons (ps_if (pt_not (pt_val (pe_g (g_is_name T) hr (pa_cons (pv 1) pa_nil)))) (pss_one ps_never) pss_nil)
      (pss_cons (ps_for PassesOwn.never rfl (pi_enumT (by rfl) T.n_enumerate (pa_cons (pv 2) pa_nil)) (pg_tup rfl (pgs_cons (pg_name (i := 3) sc_tree.nd rfl (.inl rfl)) (pgs_cons (pg_name (i := 4) sc_tree.nd rfl (.inl rfl)) pgs_nil)))
        (pss_one (ps_if (PW.pt (pw_and (pt_not (pt_val (pe_isi T.n_isinstance (pv 4) (pe_own T.m_Tree)))) (pw_and (pt_not (pt_val (pe_g (g_is_text T) hr (pa_cons (pv 4) pa_nil)))) (pw_and1 (pt_not (pt_val (pe_g (g_is_row T) hr (pa_cons (pv 4) pa_nil)))))))) (pss_one ps_never) pss_nil)))
      (pss_cons (ps_asg (pe_tup (pa_cons (pv 1) (pa_cons (pv 2) (pa_cons (pe_callTy call_tuple_of (by rfl) T.n_tuple (by decide +kernel) (pa_cons (pe_g (g_below T) hr (pa_cons (pv 2) pa_nil)) pa_nil)) pa_nil))))
        (pg_tup rfl (pgs_cons (pg_attr (pv 0)) (pgs_cons (pg_attr (pv 0)) (pgs_cons (pg_attr (pv 0)) pgs_nil)))))
      (pss_cons (ps_fld (pv 0) (pe_op op_add pe_int (pe_g (g_great T) hr (pa_cons (pe_fld (pv 0) rfl) pa_nil))) rfl)
      (pss_cons (ps_if (PW.pt (pw_or (pt_cmpR op_ge (pe_callB (cr_sum rfl) (by rfl) T.n_sum (by decide +kernel) (pa_cons
          (pe_lc (own := [("child", 5)]) (g := gName 5) (te := tCB (fun xs H Q => ∃ p ys, xs = [.ref p] ∧ (SqL K H p ys ∨ SqT K H p ys) ∧ Q (.int ys.length) H) (tCons (tFld K (tVar 5) "spots") tNil)) (by rfl) sc_tree.nd (pi_tup (pe_fld (pv 0) rfl))
            (blkOk_by (own := [("child", 5)]) (N := ["self", "form", "parts", "spot", "part", "child"]) (sc := defScope sTree) (by decide +kernel))
            (fun _ _ _ _ _ => pg_name (i := 5) sc_tree.nd rfl (Or.inl rfl)) (fun _ _ _ _ _ => pts_nil) (fun _ _ _ _ _ => pe_callB call_len_seq (by rfl) T.n_len PySem.boot_len (pa_cons (pe_fld (pv 5) rfl) pa_nil))) pa_nil)) (pe_cval (pe_own T.m_Tree)) (nomark _))
          (pw_or1 (pt_cmpR op_gt (pe_fld (pv 0) rfl) (pe_cval (pe_own T.m_Tree)) (nomark _))))) (pss_one ps_never) pss_nil)
      (pss_cons (ps_fld (pv 0) (pe_callTy call_tuple_of (by rfl) T.n_tuple (by decide +kernel) (pa_cons (pe_g (g_spots T) hr (pa_cons (pe_fld (pv 0) rfl) pa_nil)) pa_nil)) rfl)
      (pss_one (ps_fld (pv 0) (pe_tup (pa_cons pe_str (pa_cons (pv 1) (pa_cons (pe_callTy call_tuple_of (by rfl) T.n_tuple (by decide +kernel) (pa_cons
          (pe_lc (own := [("part", 4)]) (g := gName 4) (te := tCall (spTerm (cA K "Tree")) [] E0 (tCons (tVar 4) tNil)) (by rfl) sc_tree.nd (pi_tup (pv 2))
            (blkOk_by (own := [("part", 4)]) (N := ["self", "form", "parts", "spot", "part", "child"]) (sc := defScope sTree) (by decide +kernel))
            (fun _ _ _ _ _ => pg_name (i := 4) sc_tree.nd rfl (Or.inl rfl)) (fun _ _ _ _ _ => pts_nil) (fun _ _ _ _ _ => pe_g (g_term T) hr (pa_cons (pv 4) pa_nil))) pa_nil)) pa_nil)))) rfl))))))), ?_⟩
    have nxg : g ≠ x := ne_of hg hx (by intro z; cases z)
    have A0 := At1.start hx
    have sB : Same H0 (rm H x) := same_rm s0 hx0
    have hg0 : (rm H x) g = some (.tup (ps.map Pv.v)) := by rw [rm_ne nxg]; exact hg
    have hpl : ps.length ≤ 2 := by
      have := congrArg List.length hk
      rw [List.length_map] at this
      rw [this]
      exact kinds_len f a b
    have hsum : (ks.map size).sum < 400 := by rw [size_eq] at hsz; omega
    have hkl : (kidsA ps).length ≤ 1000 := by
      rw [hl]
      have := len_sum ks
      omega
    have insK : ∀ {H' : Hp}, Same (rm H x) H' → ∀ c ∈ kidsA ps, ∃ dx fs, H' c = some (.ins (cA K "Tree") dx fs) := fun s1 c hm => by
      obtain ⟨kd, _, hkd⟩ := kid_of hl hc hm
      obtain ⟨dx, _, _, _, _, _, e, _⟩ := hkd.fld
      exact ⟨dx, _, s1 _ _ (sB _ _ e)⟩
    -- if not is_name(form)
    refine ⟨_, rfl, fmN f, rfl, nameOk_fm f, fun H1 s1 => ⟨true, rfl, iteF ?_⟩⟩
    have A1 := A0.same s1
    -- for spot, part in enumerate(parts)
    refine ⟨_, rfl, g, _, rfl, SqT.of (A1.1 _ _ hg0), for_enT (xs := ps.map Pv.v) (fun i σ H' => ∃ v1 v2, σ = [some (.ref x), some (.str (fmN f)), some (.ref g), v1, v2, none] ∧ At1 (rm H x) x (.ins (cA K "Tree") dx []) H') ⟨_, _, rfl, A1⟩ (fun i σ H' _ ⟨_, _, _, A⟩ => SqT.of (A.1 _ _ hg0)) ?_ ?_⟩
    · rintro i y T1 σ H2 hy hT ⟨v1, v2, rfl, A2⟩
      have hi := (List.getElem?_eq_some_iff.mp hy).1
      rw [List.length_map] at hi
      rw [List.getElem?_map, List.getElem?_eq_getElem hi] at hy
      obtain rfl := Option.some.inj hy
      have hm : ps[i] ∈ ps := List.getElem_mem hi
      refine ⟨T1, _, rfl, SqT.of upd_same, rfl, _, _, rfl, _, _, rfl, rfl, ?_⟩
      have A3 := A2.new hT (.tup [.int (i : Nat), ps[i].v])
      generalize ps[i] = p at *
      cases p with
      | tx z =>
        refine ⟨_, rfl, .str z, .ref (cA K "Tree"), _, _, false, rfl, .own _, .base (.str z), T.kit_str_Tree, false, rfl, iteT ?_⟩
        refine ⟨_, rfl, .inl ⟨z, rfl, ?_, true, rfl, iteF (iteF ⟨_, _, rfl, A3⟩)⟩⟩
        have hz : Pv.k (.tx z) ∈ kinds f a b := by rw [← hk]; exact List.mem_map.mpr ⟨_, hm, rfl⟩
        have hz2 : z = sh a ∨ z = sh b := by
          cases f <;> simp [kinds, Pv.k] at hz
          all_goals first | exact .inl hz | exact hz
        have : ∀ q, (sh q).length ≤ 60 := fun q => by cases q <;> decide +kernel
        rcases hz2 with e | e <;> rw [e] <;> exact this _
      | on c =>
        obtain ⟨dx', fs', ec⟩ := insK A3.1 c (kidsA_mem hm (List.mem_singleton.mpr rfl))
        exact ⟨_, rfl, .ref c, .ref (cA K "Tree"), _, _, true, rfl, .own _, T.i_Tree ec, T.kit_Tree_Tree, true, rfl, iteF (iteF ⟨_, _, rfl, A3⟩)⟩
      | rw r as =>
        have er := A3.1 _ _ (sB _ _ (hrw r as hm))
        refine ⟨_, rfl, .ref r, .ref (cA K "Tree"), _, _, false, rfl, .own _, .base (.tup er), T.kit_tuple_Tree, false, rfl, iteT ?_⟩
        refine ⟨_, rfl, .inr ⟨r, _, rfl, er, false, rfl, iteT ?_⟩⟩
        refine ⟨_, rfl, r, as, rfl, er, ?_, fun c hcm => insK A3.1 c (kidsA_mem hm hcm), fun H4 s4 => ⟨true, rfl, iteF ⟨_, _, rfl, A3.same s4⟩⟩⟩
        refine Nat.le_trans ?_ hkl
        exact kidsA_one hm
    rintro σ H2 ⟨v1, v2, rfl, A2⟩
    -- self.kind, self.given, self.below = ..
    refine ⟨_, rfl, _, rfl, _, rfl, g, ps, rfl, A2.1 _ _ hg0, hkl, fun r as hm => A2.1 _ _ (sB _ _ (hrw r as hm)), fun c hm => insK A2.1 c (kidsA_mem hm (List.mem_singleton.mpr rfl)), fun H3 l B3 => ?_⟩
    refine ⟨l, _, rfl, .inl ⟨SqL.of B3.at', fun bl hbl => ⟨by show 3 ≤ sizeLine; decide, fun t ht => ?_⟩⟩⟩
    have A5 := ((A2.same B3.1).new hbl (.tup (rl (kidsA ps)))).new ht (.tup [.str (fmN f), .ref g, .ref bl])
    have hbl5 : (upd (upd H3 bl (.tup (rl (kidsA ps)))) t (.tup [.str (fmN f), .ref g, .ref bl])) bl = some (.tup (rl (kidsA ps))) := same_new ht _ _ _ upd_same
    refine ⟨t, _, rfl, SqT.of upd_same, rfl, _, _, rfl, _, rfl, x, _, dx, _, rfl, A5.2.2, T.c_Tree, T.a_Tree_kind, (by show 0 < 1000; decide), ?_⟩
    have A6 := A5.put (o' := .ins (cA K "Tree") dx (putF "kind" (.str (fmN f)) []))
    refine ⟨_, _, rfl, _, rfl, x, _, dx, _, rfl, A6.2.2, T.c_Tree, T.a_Tree_given, (by show 1 < 1000; decide), ?_⟩
    have A7 := A6.put (o' := .ins (cA K "Tree") dx (putF "given" (.ref g) (putF "kind" (.str (fmN f)) [])))
    refine ⟨_, _, rfl, _, rfl, x, _, dx, _, rfl, A7.2.2, T.c_Tree, T.a_Tree_below, (by show 2 < 1000; decide), rfl, ?_⟩
    have A8 := A7.put (o' := .ins (cA K "Tree") dx (putF "below" (.ref bl) (putF "given" (.ref g) (putF "kind" (.str (fmN f)) []))))
    have l8 : (putF "below" (V.ref bl) (putF "given" (.ref g) (putF "kind" (.str (fmN f)) []))).lookup ("below" : Str) = some (.ref bl) := by with_unfolding_all rfl
    generalize hf8 : putF "below" (V.ref bl) (putF "given" (.ref g) (putF "kind" (.str (fmN f)) [])) = f8 at *
    have n8 : f8.length = 3 := by rw [← hf8]; with_unfolding_all rfl
    have s5 : Same (rm H x) (rm (upd (upd H3 bl (.tup (rl (kidsA ps)))) t (.tup [.str (fmN f), .ref g, .ref bl])) x) := same_rm A5.1 A5.2.1
    have A8' : At1 (rm (upd (upd H3 bl (.tup (rl (kidsA ps)))) t (.tup [.str (fmN f), .ref g, .ref bl])) x) x (.ins (cA K "Tree") dx f8) _ := (((At1.start A5.2.2).put (o' := .ins (cA K "Tree") dx (putF "kind" (.str (fmN f)) []))).put (o' := .ins (cA K "Tree") dx (putF "given" (.ref g) (putF "kind" (.str (fmN f)) [])))).put (o' := .ins (cA K "Tree") dx f8)
    have nbx : bl ≠ x := ne_of hbl5 A5.2.2 (by intro z; cases z)
    have hb5 : rm (upd (upd H3 bl (.tup (rl (kidsA ps)))) t (.tup [.str (fmN f), .ref g, .ref bl])) x bl = some (.tup (rl (kidsA ps))) := by rw [rm_ne nbx]; exact hbl5
    clear A8 A7 A6 hbl5
    generalize rm (upd (upd H3 bl (.tup (rl (kidsA ps)))) t (.tup [.str (fmN f), .ref g, .ref bl])) x = B at *
    generalize upd (upd (upd (upd (upd H3 bl (.tup (rl (kidsA ps)))) t (.tup [.str (fmN f), .ref g, .ref bl])) x (.ins (cA K "Tree") dx (putF "kind" (.str (fmN f)) []))) x (.ins (cA K "Tree") dx (putF "given" (.ref g) (putF "kind" (.str (fmN f)) [])))) x (.ins (cA K "Tree") dx f8) = H8 at *
    have sHB : Same H0 B := same_tr sB s5
    have tr : ∀ {H' : Hp}, Same B H' → ∀ (i : Nat) kd c, ks[i]? = some kd → (kidsA ps)[i]? = some c → TrAt (cA K "Tree") H' kd c := fun s' i kd c h1 h2 => (hc i kd c h1 h2).mono (same_tr sHB s')
    -- self.height = 1 + greatest_height(self.below)
    refine ⟨_, rfl, x, _, dx, _, _, rfl, A8'.2.2, T.c_Tree, T.a_Tree_below, l8, bl, kidsA ps, ks, rfl, A8'.1 _ _ hb5, hl, (fun i kd c h1 h2 => ?_), _, _, rfl, rfl, _, rfl, x, _, dx, _, rfl, A8'.2.2, T.c_Tree, T.a_Tree_height, (by rw [n8]; decide), ?_⟩
    · obtain ⟨dx', f', g', bl', sp', tm', e, _⟩ := (tr A8'.1 i kd c h1 h2).fld
      exact ⟨dx', _, e, tr_height⟩
    have A9 := A8'.put (o' := .ins (cA K "Tree") dx (putF "height" (.int (1 + (heightL ks : Nat))) f8))
    have l9 : (putF "height" (.int (1 + (heightL ks : Nat))) f8).lookup ("below" : Str) = some (.ref bl) := by rw [← hf8]; with_unfolding_all rfl
    have l9h : (putF "height" (.int (1 + (heightL ks : Nat))) f8).lookup ("height" : Str) = some (.int (1 + (heightL ks : Nat))) := by rw [← hf8]; with_unfolding_all rfl
    generalize hf9 : putF "height" (.int (1 + (heightL ks : Nat))) f8 = f9 at *
    have n9 : f9.length = 4 := by rw [← hf9, ← hf8]; with_unfolding_all rfl
    -- if sum(..) >= Tree.MAX_NODES or self.height > Tree.MAX_LEVELS
    refine ⟨_, rfl, x, _, dx, _, _, rfl, A9.2.2, T.c_Tree, T.a_Tree_below, l9, bl, rfl, ⟨_, SqT.of (A9.1 _ _ hb5)⟩, fun D hD => lc_tup (xs := rl (kidsA ps)) (fun i H' => Acc _ D (((ks.take i).map fun k => ((size k : Nat) : Int)).map V.int) H') (Acc.start hD) (fun i H' _ C => SqT.of (C.1 _ _ (A9.1 _ _ hb5))) ?_ ?_⟩
    · intro i y H' hy C
      obtain ⟨c, kd, rfl, h1, h2, hi, rfl⟩ := at_two hl hy
      obtain ⟨dx', f', g', bl', sp', tm', e, _, ⟨qs, hqs, pqs⟩, _⟩ := (tr (same_tr A9.1 C.1) i _ c h2 h1).fld
      refine ⟨rfl, yes1 ⟨_, rfl, c, _, dx', _, _, rfl, e, T.c_Tree, T.a_Tree_spots, tr_spots, sp', _, rfl, .inr (SqT.of hqs), _, C.at', ?_, ?_⟩⟩
      · rw [List.length_map, List.length_map, List.length_take]
        have := len_sum ks
        exact Nat.lt_of_le_of_lt (show _ ≤ 1000 by omega) (by decide)
      · have e2 : (rl qs).length = size ks[i] := by rw [List.length_map]; exact (paired_len pqs).symm
        rw [← List.take_append_getElem hi, List.map_append, List.map_append, e2]
        exact C.push
    intro H10 C10
    rw [List.length_map, hl, List.take_length] at C10
    have A10 := A9.same C10.1
    refine ⟨D, _, rfl, SqL.of C10.at', _, _, _, _, rfl, T.r_Tree, ecf, _, _, rfl, rfl, _, rfl, ?_⟩
    rw [sum_cast]
    refine ifN (by rw [decide_eq_false (by omega)]; exact Bool.false_ne_true) ?_
    refine ⟨_, rfl, x, _, dx, _, _, rfl, A10.2.2, T.c_Tree, T.a_Tree_height, l9h, _, _, _, _, rfl, T.r_Tree, ecl, _, _, rfl, rfl, _, rfl, ?_⟩
    have hh : heightL ks + 1 ≤ 100 := by rw [height] at hht; exact hht
    refine ifN (by rw [decide_eq_false (by omega)]; exact Bool.false_ne_true) ?_
    -- self.spots = tuple(spots_of(self.below))
    refine ⟨_, rfl, x, _, dx, _, _, rfl, A10.2.2, T.c_Tree, T.a_Tree_below, l9, bl, kidsA ps, ks, rfl, A10.1 _ _ hb5, hl, (fun i kd c h1 h2 => ?_), Nat.le_trans (Nat.le_of_lt hsum) (by decide), fun H11 sl qs C11 pq => ?_⟩
    · obtain ⟨dx', f', g', bl', sp', tm', e, _, hs', _⟩ := (tr A10.1 i kd c h1 h2).fld
      exact ⟨dx', _, sp', e, tr_spots, hs'⟩
    refine ⟨sl, _, rfl, .inl ⟨SqL.of C11.at', fun sp hsp => ?_⟩⟩
    have A12 := (A10.same C11.1).new hsp (.tup (rl qs))
    have hS12 : SpAt (upd H11 sp (.tup (rl qs))) (spots (.node f a b ks)) sp := ⟨qs, upd_same, by rw [spots]; exact Paired.mapP pq fun _ _ z => PaAt.mono z (same_new hsp _)⟩
    refine ⟨_, rfl, x, _, dx, _, rfl, A12.2.2, T.c_Tree, T.a_Tree_spots, (by rw [n9]; decide), ?_⟩
    have A13 := (At1.start A12.2.2).put (o' := .ins (cA K "Tree") dx (putF "spots" (.ref sp) f9))
    have s12 : Same B (rm (upd H11 sp (.tup (rl qs))) x) := same_rm A12.1 A12.2.1
    have nsx : sp ≠ x := ne_of (upd_same (H := H11)) A12.2.2 (by intro z; cases z)
    have hS13 : SpAt (rm (upd H11 sp (.tup (rl qs))) x) (spots (.node f a b ks)) sp := by
      obtain ⟨qs', e1, e2⟩ := hS12
      refine ⟨qs', by rw [rm_ne nsx]; exact e1, Paired.mapP e2 fun p' b' z => ?_⟩
      unfold PaAt at z ⊢
      rw [rm_ne (ne_of z A12.2.2 (by intro z; cases z))]
      exact z
    generalize rm (upd H11 sp (.tup (rl qs))) x = B2 at *
    generalize upd (upd H11 sp (.tup (rl qs))) x (.ins (cA K "Tree") dx (putF "spots" (.ref sp) f9)) = H13 at *
    have trT : ∀ c ∈ kidsA ps, ∃ dx fs, B2 c = some (.ins (cA K "Tree") dx fs) ∧ fs.lookup ("term" : Str) = some (.ref (tmA B2 c)) := fun c hm => by
      obtain ⟨kd, _, hkd⟩ := kid_of hl (tr s12) hm
      obtain ⟨dx', f', g', bl', sp', tm', e, _⟩ := hkd.fld
      exact ⟨dx', _, e, by rw [tmA_eq e tr_term]; exact tr_term⟩
    have sHB2 : Same H0 B2 := same_tr sHB s12
    have hg2 : B2 g = some (.tup (ps.map Pv.v)) := s12 _ _ (s5 _ _ hg0)
    -- self.term = ('node', form, tuple([term_of(part) for part in parts]))
    refine ⟨_, rfl, _, rfl, g, rfl, ⟨_, SqT.of (A13.1 _ _ hg2)⟩, fun D2 hD2 => lc_tup (xs := ps.map Pv.v) (fun i H' => ∃ qs ps', Acc H13 D2 (rl qs) H' ∧ Paired (TpAt H') qs ps' ∧ ps'.map Pv.k = (ps.take i).map Pv.k ∧ kidsA ps' = (kidsA (ps.take i)).map (tmA B2)) ⟨[], [], Acc.start hD2, .nil, rfl, rfl⟩ (fun i H' _ ⟨_, _, C, _⟩ => SqT.of (C.1 _ _ (A13.1 _ _ hg2))) ?_ ?_⟩
    · rintro i y H' hy ⟨qs', ps', C, pq', ek, ekid⟩
      have hi := (List.getElem?_eq_some_iff.mp hy).1
      rw [List.length_map] at hi
      rw [List.getElem?_map, List.getElem?_eq_getElem hi] at hy
      obtain rfl := Option.some.inj hy
      have hm : ps[i] ∈ ps := List.getElem_mem hi
      have sC := same_tr A13.1 C.1
      refine ⟨rfl, yes1 ⟨_, rfl, ps[i], tmA B2, rfl, (fun c hcm => ?_), (fun r as e => ?_), Nat.le_trans (kidsA_one hm) hkl, fun H4 q p' s4 tp e1 e2 => ?_⟩⟩
      · obtain ⟨dx', fs', e1, e2⟩ := trT c (kidsA_mem hm hcm)
        exact ⟨dx', fs', sC _ _ e1, e2⟩
      · exact sC _ _ (sHB2 _ _ (hrw r as (e ▸ hm)))
      · have C4 := C.same s4
        have lq := paired_len pq'
        have lp := congrArg List.length ek
        rw [List.length_map, List.length_map, List.length_take] at lp
        refine ⟨_, C4.at', ?_, qs' ++ [q], ps' ++ [p'], ?_, ?_, ?_, ?_⟩
        · rw [List.length_map]
          exact Nat.lt_of_le_of_lt (show _ ≤ 2 by omega) (by decide)
        · unfold rl; rw [List.map_append]; exact C4.push
        · exact paired_snoc (Paired.mapP pq' fun _ _ z => tp_upd C4.at' (z.mono s4)) (tp_upd C4.at' tp)
        · rw [← List.take_append_getElem hi, List.map_append, List.map_append, ek, List.map_singleton, List.map_singleton, e1]
        · have e3 : kidsA (ps' ++ [p']) = kidsA ps' ++ p'.as := by unfold kidsA; rw [List.flatMap_append, List.flatMap_singleton]
          rw [e3, kidsA_take hi, List.map_append, ekid, e2]
    rintro H14 ⟨qs', ps', C, pq', ek, ekid⟩
    rw [List.length_map, List.take_length] at ek ekid
    refine ⟨D2, _, rfl, .inl ⟨SqL.of C.at', fun pt hpt => ⟨by show 3 ≤ sizeLine; decide, fun tm htm => ?_⟩⟩⟩
    have s14 := same_tr (same_new hpt (.tup (rl qs'))) (same_new htm (.tup [.str "node", .str (fmN f), .ref pt]))
    have A16 := (A13.same C.1).same s14
    refine ⟨_, rfl, x, _, dx, _, rfl, A16.2.2, T.c_Tree, T.a_Tree_term, (by rw [show (putF "spots" (V.ref sp) f9).length = 5 by rw [← hf9, ← hf8]; with_unfolding_all rfl]; decide), ?_⟩
    have ntx : tm ≠ x := ne_of (upd_same (H := upd H14 pt (.tup (rl qs')))) A16.2.2 (by intro z; cases z)
    have npx : pt ≠ x := ne_of (same_new htm (.tup [.str "node", .str (fmN f), .ref pt]) _ _ (upd_same (H := H14))) A16.2.2 (by intro z; cases z)
    have A17 := A16.put (o' := .ins (cA K "Tree") dx (putF "term" (.ref tm) (putF "spots" (.ref sp) f9)))
    have sF : Same (rm (upd (upd H14 pt (.tup (rl qs'))) tm (.tup [.str "node", .str (fmN f), .ref pt])) x) (upd (upd (upd H14 pt (.tup (rl qs'))) tm (.tup [.str "node", .str (fmN f), .ref pt])) x (.ins (cA K "Tree") dx (putF "term" (.ref tm) (putF "spots" (.ref sp) f9)))) := fun b o e => by
      by_cases q : b = x
      · rw [q, rm_x] at e; cases e
      · rw [rm_ne q] at e
        rw [upd_ne q]
        exact e
    have sB3 : Same B2 (upd (upd (upd H14 pt (.tup (rl qs'))) tm (.tup [.str "node", .str (fmN f), .ref pt])) x (.ins (cA K "Tree") dx (putF "term" (.ref tm) (putF "spots" (.ref sp) f9)))) := A17.1
    refine k _ (same_tr sHB2 sB3) (.mk (dx := dx) (g := g) (bl := bl) (sp := sp) (tm := tm) (ps := ps) ?_ (sB3 _ _ hg2) (fun r as hm => sB3 _ _ (sHB2 _ _ (hrw r as hm))) hk (sB3 _ _ (s12 _ _ hb5)) hl (hS13.mono sB3) ?_ (tr (same_tr s12 sB3)))
    · rw [upd_same, ← hf9, ← hf8, height, show (1 : Int) + ((heightL ks : Nat) : Int) = ((heightL ks + 1 : Nat) : Int) by omega]
      with_unfolding_all rfl
    · refine .mk (pa := pt) (qs := qs') (ps := ps') ?_ ?_ ?_ ?_ ?_ ?_
      · exact sF _ _ (by rw [rm_ne ntx]; exact upd_same)
      · exact sF _ _ (by rw [rm_ne npx]; exact same_new htm _ _ _ upd_same)
      · refine Paired.mapP pq' fun q p' z => TpAt.mono sF ?_
        have z2 := z.mono s14
        cases p' with
        | tx _ => show rm _ _ _ = _; rw [rm_ne (ne_of z2 A16.2.2 (by intro z; cases z))]; exact z2
        | on _ => exact z2
        | rw r as => exact ⟨by rw [rm_ne (ne_of z2.1 A16.2.2 (by intro z; cases z))]; exact z2.1, by rw [rm_ne (ne_of z2.2 A16.2.2 (by intro z; cases z))]; exact z2.2⟩
      · rw [ek]; exact hk
      · rw [ekid, List.length_map]; exact hl
      · intro i kd c h1 h2
        rw [ekid, List.getElem?_map] at h2
        have hi : i < (kidsA ps).length := by
          rw [hl]
          exact (List.getElem?_eq_some_iff.mp h1).1
        rw [List.getElem?_eq_getElem hi] at h2
        obtain rfl := Option.some.inj h2
        obtain ⟨dx', f', g', bl', sp', tm', e, _, _, ht⟩ := (tr s12 i kd _ h1 (List.getElem?_eq_getElem hi)).fld
        rw [tmA_eq e tr_term]
        exact ht.mono sB3
end
end Jz
end
section
set_option maxHeartbeats 4000000
/-! subscripts of trees, schemas -/
namespace Jz
open PySem PySem.Spec PyProof.Rows L2 ClX StX
/-- o[k] by an own method -/
structure IF (P : Program) (w : World) (K : PySem.W.Frag) (mg : Str → Option Value) (base : Heap) (k : Nat) (C : Addr) (ps : List Str) (sp : Sp) : Prop where
  ex : ∃ f fd, FnOk P w K mg base CX0 k f fd ps sp ∧ PySem.W.findIn K (.ref C) "__getitem__" = some (some (.ref f)) ∧ PySem.W.fnIn K f = true ∧ PySem.W.isFn K (.ref f) = true ∧ Binds K fd ps []
theorem pe_if {X : Cx} {k : Nat} {C : Addr} {ps : List Str} {sp : Sp} {a b : Expr} {ta tb : TE} {pos : Pos} (G : IF X.prog X.w X.K X.mg X.base k C ps sp) (hr : Room (k + 1) X.A) (ha : PE X a ta) (hi : PE X b tb)
    (hsl : ∀ v u, subscripted b true v u = runValue (.builtin "lifetime.subscript" ⟨[v, u], []⟩) := by intro _ _; with_unfolding_all rfl) : PE X (.Subscript a b pos) (tOp (rIxOwn C sp E0) ta tb) := by
  obtain ⟨f, fd, F, h1, h2, h3, hb⟩ := G.ex
  exact pe_ixOwn h1 h2 h3 F hr hb pass0 ha hi hsl
/-- k in o by an own method -/
theorem op_inM {X : Cx} {k : Nat} {C : Addr} {ps : List Str} {sp : Sp} (G : MF X.prog X.w X.K X.mg X.base k C "__contains__" ps sp) (hr : Room k X.A) : OpR X (compareOp .In) (rInOwn C sp E0) := by
  obtain ⟨f, fd, F, hm, hb⟩ := G.ex
  exact op_inOwn hm.at_ hm.fn F hr hb pass0
theorem op_notInM {X : Cx} {k : Nat} {C : Addr} {ps : List Str} {sp : Sp} (G : MF X.prog X.w X.K X.mg X.base k C "__contains__" ps sp) (hr : Room k X.A) : OpR X (compareOp .NotIn) (rNotInOwn C sp E0) := by
  obtain ⟨f, fd, F, hm, hb⟩ := G.ex
  exact op_notInOwn hm.at_ hm.fn F hr hb pass0
def spGetT (C : Addr) : Sp := fun vs H Q _ => ∃ t k x p pa, vs = [.ref x, .ref p] ∧ TrAt C H t x ∧ PaAt H pa p ∧ get t pa = some k ∧ size t ≤ 1000 ∧ ∀ H' y, Same H H' → TrAt C H' k y → Q (.ref y) H'
def spHasS (CS CF : Addr) : Sp := fun vs H Q _ => ∃ s f, vs = [.ref s, .str (fmN f)] ∧ SchAt CS CF H s ∧ Q (.bl true) H
def spGetS (CS CF : Addr) : Sp := fun vs H Q _ => ∃ s f, vs = [.ref s, .str (fmN f)] ∧ SchAt CS CF H s ∧ ∀ fa, FormAt CF H f fa → Q (.ref fa) H
section
variable {P : Program} {w : World} {K : PySem.W.Frag} {mg : Str → Option Value} {base : Heap}
theorem sc_self {c j : Nat} (h1 : (defScope (inC c j)).kind = .function := by rfl) (h2 : (defScope (inC c j)).isCoroutine = false := by rfl) (h3 : (defScope (inC c j)).isGenerator = false := by rfl)
    (h4 : ∀ x ∈ (["self"] : List Str), (defScope (inC c j)).names.lookup x = some .local ∨ (defScope (inC c j)).names.lookup x = some .cell := by decide +kernel) (h5 : ∀ y ∈ (defScope (inC c j)).names, y.2 ≠ .free := by decide +kernel) : FnScope ["self"] ["self"] (defScope (inC c j)) :=
  ⟨h1, h2, h3, by decide +kernel, rfl, h4, h5⟩
theorem p_form (T : Tx K mg) : PF P w K mg base 1 (cA K "Tree") "form" (getSp (cA K "Tree") "kind") := pf_get (sc_self (c := 27) (j := 3)) rfl T.p_Tree_form T.d_Tree_form (fun _ _ _ _ _ _ us hl => match us, hl with | [_], _ => rfl) rfl T.c_Tree T.a_Tree_kind
theorem p_parts (T : Tx K mg) : PF P w K mg base 1 (cA K "Tree") "parts" (getSp (cA K "Tree") "given") := pf_get (sc_self (c := 27) (j := 4)) rfl T.p_Tree_parts T.d_Tree_parts (fun _ _ _ _ _ _ us hl => match us, hl with | [_], _ => rfl) rfl T.c_Tree T.a_Tree_given
theorem p_children (T : Tx K mg) : PF P w K mg base 1 (cA K "Tree") "children" (getSp (cA K "Tree") "below") := pf_get (sc_self (c := 27) (j := 5)) rfl T.p_Tree_children T.d_Tree_children (fun _ _ _ _ _ _ us hl => match us, hl with | [_], _ => rfl) rfl T.c_Tree T.a_Tree_below
theorem p_kin (T : Tx K mg) : PF P w K mg base 1 (cA K "Form") "kin" (getSp (cA K "Form") "own_kin") := pf_get (sc_self (c := 17) (j := 4)) rfl T.p_Form_kin T.d_Form_kin (fun _ _ _ _ _ _ us hl => match us, hl with | [_], _ => rfl) rfl T.c_Form T.a_Form_own_kin
theorem p_slots (T : Tx K mg) : PF P w K mg base 1 (cA K "Form") "slots" (getSp (cA K "Form") "openings") := pf_get (sc_self (c := 17) (j := 5)) rfl T.p_Form_slots T.d_Form_slots (fun _ _ _ _ _ _ us hl => match us, hl with | [_], _ => rfl) rfl T.c_Form T.a_Form_openings
abbrev sGetT : Stmt := inC 27 11
theorem sc_getT : FnScope ["self", "path", "found", "number"] ["self", "path"] (defScope sGetT) := ⟨rfl, rfl, rfl, by decide +kernel, rfl, by decide +kernel, by decide +kernel⟩
theorem i_getT (T : Tx K mg) : IF P w K mg base 3 (cA K "Tree") ["self", "path"] (spGetT (cA K "Tree")) := by
  obtain ⟨fd, F⟩ := T.d_Tree___getitem__
  refine ⟨_, fd, F.ok sc_getT (fun vs H Q E h => ?_) (fun cdv A outer s H vs Q E hr h => ?_), T.h_Tree___getitem__.at_, T.fi_Tree, T.h_Tree___getitem__.fn, F.bindsN (fun _ _ _ _ _ _ us hl => match us, hl with | [_, _], _ => rfl)⟩
  · obtain ⟨t, kd, x, p, pa, rfl, _⟩ := h
    rfl
  · obtain ⟨t, kd, x, p, pa, rfl, ht, hp, hg, hz, k⟩ := h
    refine ⟨_, PSs.nox <| pss_cons (ps_if (pt_not (pt_val (pe_g (g_is_path T) hr (pa_cons (pv 0) (pa_cons (pv 1) pa_nil))))) (pss_one ps_never) pss_nil)
      (pss_cons (ps_set (i := 2) sc_getT.nd rfl (.inl rfl) (pv 0))
      (pss_cons (ps_for PassesOwn.never rfl (pi_tup (pv 1)) (pg_name (i := 3) sc_getT.nd rfl (.inl rfl)) (pss_one (ps_set (i := 2) sc_getT.nd rfl (.inl rfl) (pe_ix ix_tup (pe_fld (pv 2) rfl) (pv 3) (fun _ _ => rfl)))))
      (pss_one (ps_ret (pv 2))))), ?_⟩
    obtain ⟨dx, f, g, bl, sp, tm, e, _, hs, htm⟩ := ht.fld
    refine ⟨_, rfl, _, rfl, t, x, p, tm, pa, dx, _, rfl, e, tr_term, htm, hp, by rw [hg]; rfl, hz, fun H1 s1 => ⟨true, rfl, iteF ?_⟩⟩
    refine ⟨_, rfl, _, rfl, p, rfl, ⟨_, SqT.of (s1 _ _ hp)⟩, for_tup (xs := pa.map fun n : Nat => V.int (n : Int)) (fun i σ H' => H' = H1 ∧ ∃ y v kd, σ = [some (.ref x), some (.ref p), some (.ref y), v] ∧ get t (pa.take i) = some kd ∧ TrAt (cA K "Tree") H1 kd y)
      ⟨rfl, x, _, t, rfl, rfl, ht.mono s1⟩ (fun i σ H' _ ⟨q, _⟩ => by rw [q]; exact SqT.of (s1 _ _ hp)) ?_ ?_⟩
    · rintro i z σ H2 hy ⟨rfl, y, v, k2, rfl, hg2, hy2⟩
      have hi := (List.getElem?_eq_some_iff.mp hy).1
      rw [List.length_map] at hi
      rw [List.getElem?_map, List.getElem?_eq_getElem hi] at hy
      obtain rfl := Option.some.inj hy
      obtain ⟨c, hc⟩ : ∃ c, get t (pa.take (i + 1)) = some c := by
        have e : pa = pa.take (i + 1) ++ pa.drop (i + 1) := (List.take_append_drop _ _).symm
        rw [e, get_append] at hg
        cases q : get t (pa.take (i + 1)) with
        | none => rw [q] at hg; cases hg
        | some c => exact ⟨c, rfl⟩
      have hc2 := hc
      rw [← List.take_append_getElem hi, get_append, hg2] at hc2
      cases hy2 with
      | mk hx hg' hr' hk' hb hl hs' ht' hcc =>
      rename_i f' a' b' ks dx' g2 bl2 sp2 tm2 ps
      have h3 : (ks[pa[i]]?).bind (fun k => get k []) = some c := hc2
      obtain ⟨c', e1, e2⟩ := Option.bind_eq_some_iff.mp h3
      cases e2
      have hlt : pa[i] < (kidsA ps).length := by
        rw [hl]
        exact (List.getElem?_eq_some_iff.mp e1).1
      refine ⟨_, rfl, y, _, dx', _, _, rfl, hx, T.c_Tree, T.a_Tree_below, tr_below, _, rfl, bl2, _, _, .ref (kidsA ps)[pa[i]], rfl, rfl, SqT.of hb, atI_nat (by rw [List.getElem?_map, List.getElem?_eq_getElem hlt]; rfl), ?_⟩
      exact ⟨rfl, _, _, c, rfl, hc, hcc _ _ _ e1 (List.getElem?_eq_getElem hlt)⟩
    · rintro σ H2 ⟨rfl, y, v, k2, rfl, hg2, hy2⟩
      rw [List.length_map, List.take_length, hg] at hg2
      cases hg2
      exact ⟨_, rfl, k _ y s1 hy2⟩
abbrev sHasS : Stmt := inC 19 5
theorem sc_hasS : FnScope ["self", "name"] ["self", "name"] (defScope sHasS) := ⟨rfl, rfl, rfl, by decide +kernel, rfl, by decide +kernel, by decide +kernel⟩
theorem h_hasS (T : Tx K mg) : MF P w K mg base 1 (cA K "Schema") "__contains__" ["self", "name"] (spHasS (cA K "Schema") (cA K "Form")) := by
  refine mf_of T.h_Schema___contains__ T.d_Schema___contains__ (fun _ _ _ _ _ _ us hl => match us, hl with | [_, _], _ => rfl) fun fd F => F.ok sc_hasS (fun vs H Q E h => ?_) (fun cdv A outer s H vs Q E hr h => ?_)
  · obtain ⟨t, f, rfl, _⟩ := h
    rfl
  · obtain ⟨x, f, rfl, ⟨dx, d, e, b, kvs, h1, h2, h3⟩, k⟩ := h
    refine ⟨_, PSs.nox <| pss_one (ps_ret (pe_and (pe_isi T.n_isinstance (pv 1) (pe_ty T.n_str rfl)) (pe_one (pe_cmp (pc_din (hu_of hr) (pv 1) (pe_fld (pv 0) rfl)) rfl)))), ?_⟩
    obtain ⟨fa, e1, _⟩ := h3 f
    refine ⟨_, rfl, .str _, .ty "str", _, _, true, rfl, .ty "str", .base (.str _), kit_ty (by decide +kernel), true, rfl, iteT ?_⟩
    refine ⟨_, rfl, _, rfl, x, _, dx, _, _, rfl, h1, T.c_Schema, T.a_Schema_by_word, (by with_unfolding_all rfl : _ = some (V.ref b)), b, _, rfl, DGet.k (k := Sum.inr (fmN f)) h2, ?_⟩
    rw [e1]
    exact k
abbrev sGetS : Stmt := inC 19 6
theorem sc_getS : FnScope ["self", "name"] ["self", "name"] (defScope sGetS) := ⟨rfl, rfl, rfl, by decide +kernel, rfl, by decide +kernel, by decide +kernel⟩
theorem i_getS (T : Tx K mg) : IF P w K mg base 1 (cA K "Schema") ["self", "name"] (spGetS (cA K "Schema") (cA K "Form")) := by
  obtain ⟨fd, F⟩ := T.d_Schema___getitem__
  refine ⟨_, fd, F.ok sc_getS (fun vs H Q E h => ?_) (fun cdv A outer s H vs Q E hr h => ?_), T.h_Schema___getitem__.at_, T.fi_Schema, T.h_Schema___getitem__.fn, F.bindsN (fun _ _ _ _ _ _ us hl => match us, hl with | [_, _], _ => rfl)⟩
  · obtain ⟨t, f, rfl, _⟩ := h
    rfl
  · obtain ⟨x, f, rfl, ⟨dx, d, e, b, kvs, h1, h2, h3⟩, k⟩ := h
    refine ⟨_, PSs.nox <| pss_cons (ps_if (PW.pt (pw_or (pt_not (pt_val (pe_isi T.n_isinstance (pv 1) (pe_ty T.n_str rfl)))) (pw_or1 (pt_cmp (pc_dnotin (hu_of hr) (pv 1) (pe_fld (pv 0) rfl)))))) (pss_one ps_never) pss_nil)
      (pss_one (ps_ret (pe_dget (hu_of hr) (pe_fld (pv 0) rfl) (pv 1) (fun _ _ => rfl)))), ?_⟩
    obtain ⟨fa, e1, e2⟩ := h3 f
    refine ⟨_, rfl, .str _, .ty "str", _, _, true, rfl, .ty "str", .base (.str _), kit_ty (by decide +kernel), true, rfl, iteF ?_⟩
    refine ⟨_, rfl, _, rfl, x, _, dx, _, _, rfl, h1, T.c_Schema, T.a_Schema_by_word, (by with_unfolding_all rfl : _ = some (V.ref b)), b, _, rfl, DGet.k (k := Sum.inr (fmN f)) h2, _, rfl, ?_⟩
    rw [e1]
    refine iteF ?_
    refine ⟨_, rfl, x, _, dx, _, _, rfl, h1, T.c_Schema, T.a_Schema_by_word, (by with_unfolding_all rfl : _ = some (V.ref b)), _, rfl, b, _, rfl, e1 ▸ DGet.k (k := Sum.inr (fmN f)) h2, k fa e2⟩
end
end Jz
end
section
set_option maxHeartbeats 4000000
/-! kinds, right parts, checks -/
namespace Jz
open PySem PySem.Spec PyProof.Rows L2 ClX StX
/-- over a list or a tuple -/
def iSeq (K : PySem.W.Frag) (tl : TE) : TI := fun σ H R => tl σ H fun x H1 => (∃ a, x = .ref a ∧ (∃ xs, SqL K H1 a xs) ∧ R (Itl K a) H1) ∨ ∃ a, x = .ref a ∧ (∃ xs, SqT K H1 a xs) ∧ R (Itt K a) H1
theorem pi_seq {X : Cx} {tg l : Expr} {tl : TE} (hl : PE X l tl) : PI X tg l (iSeq X.K tl) := by
  refine ⟨fun pins s σ H R I h => ?_⟩
  refine thn (hl.run pins s σ H _ I h) fun v s1 ⟨x, H1, I1, r1, q1⟩ => ?_
  rcases q1 with ⟨a, e, ⟨xs, hq⟩, q⟩ | ⟨a, e, ⟨xs, hq⟩, q⟩
  · subst e
    cases r1
    obtain ⟨its, rv, p, hz⟩ := I1.list hq
    refine wpAny_pyIter_list p.isList ?_
    refine ⟨s1.heap.objs.size, [s1.heap.objs.size], _, _, H1, rfl, I1.kept (t' := s1.toks) fun b o e => Heap.get?_push_of_some _ e, turn_list a _, ⟨_, Heap.get?_push_size _ rfl, rfl, rfl⟩, fun b hb => ?_, q⟩
    have e : b = s1.heap.objs.size := by simpa using hb
    subst e
    exact I1.fpOk (Nat.le_refl _) (I1.hok.fresh (Nat.le_refl _))
  · subst e
    cases r1
    obtain ⟨its, rv, p, hz⟩ := I1.tuple hq
    refine wpAny_pyIter_tuple (show s1.heap.IsTuple a its.toArray from p) ?_
    refine ⟨s1.heap.objs.size, [s1.heap.objs.size], _, _, H1, rfl, I1.kept (t' := s1.toks) fun b o e => Heap.get?_push_of_some _ e, turn_tuple a _, ⟨_, Heap.get?_push_size _ rfl, rfl, rfl⟩, fun b hb => ?_, q⟩
    have e : b = s1.heap.objs.size := by simpa using hb
    subst e
    exact I1.fpOk (Nat.le_refl _) (I1.hok.fresh (Nat.le_refl _))
def kZ : Kd → Str
  | .tx _ => "text"
  | .on => "node"
  | .rw => "row"
def slotZ : Kd → Str
  | .tx _ => "text"
  | .on => "s"
  | .rw => "s*"
theorem slots_kinds (f : Fm) (a b : Bool) : (slots f).map (·.2) = (kinds f a b).map slotZ := by cases f <;> rfl
def spKindP : Sp := fun vs H Q _ => ∃ q p, vs = [.ref q] ∧ TpAt H q p ∧ (∀ c, p = .on c → ∃ nm pa, H c = some (.tup [.str "node", .str nm, .ref pa])) ∧ ∀ H', Same H H' → Q (.str (kZ p.k)) H'
def spKindS : Sp := fun vs H Q _ => ∃ k, vs = [.str (slotZ k)] ∧ Q (.str (kZ k)) H
section
variable {P : Program} {w : World} {K : PySem.W.Frag} {mg : Str → Option Value} {base : Heap}
abbrev sKindP : Stmt := top 34
theorem sc_kindP : FnScope ["term"] ["term"] (defScope sKindP) := ⟨rfl, rfl, rfl, by decide +kernel, rfl, by decide +kernel, by decide +kernel⟩
theorem g_kindP (T : Tx K mg) : GF P w K mg base 1 "kind_of_part" ["term"] spKindP := by
  refine gf_of T.m_kind_of_part T.d_kind_of_part (fun _ _ _ _ _ _ us hl => match us, hl with | [_], _ => rfl) fun fd F => F.ok sc_kindP (fun vs H Q E h => ?_) (fun cdv A outer s H vs Q E hr h => ?_)
  · obtain ⟨q, p, rfl, _⟩ := h
    rfl
  · obtain ⟨q, p, rfl, tp, hon, k⟩ := h
    refine ⟨_, PSs.nox <| pss_cons (ps_if (pt_cmpR op_eq (pe_ix ix_tup (pv 0) pe_int (fun _ _ => rfl)) pe_str (nomark _)) (pss_one (ps_ret pe_str)) pss_nil)
      (pss_one (ps_ret (pe_ifExp (pt_cmpR op_in_seq (pe_ix ix_tup (pv 0) pe_int (fun _ _ => rfl)) (pe_tup (pa_cons pe_str (pa_cons pe_str pa_nil))) (by rfl)) pe_str pe_str))), ?_⟩
    cases p with
    | tx z =>
      refine ⟨_, rfl, q, _, _, _, rfl, rfl, SqT.of tp, rfl, rfl, _, rfl, ifN (by decide +kernel) ?_⟩
      refine ⟨_, rfl, q, _, _, _, rfl, rfl, SqT.of tp, rfl, by show 2 ≤ sizeLine; decide, fun p hp => ?_⟩
      exact ⟨p, _, rfl, .inr (SqT.of upd_same), rfl, rfl, _, rfl, ifP (by decide +kernel) (k _ (same_new hp _))⟩
    | on c =>
      obtain rfl : q = c := tp
      obtain ⟨nm, pa, eq⟩ := hon q rfl
      refine ⟨_, rfl, q, _, _, _, rfl, rfl, SqT.of eq, rfl, rfl, _, rfl, ifN (by decide +kernel) ?_⟩
      refine ⟨_, rfl, q, _, _, _, rfl, rfl, SqT.of eq, rfl, by show 2 ≤ sizeLine; decide, fun p hp => ?_⟩
      exact ⟨p, _, rfl, .inr (SqT.of upd_same), rfl, rfl, _, rfl, ifN (by decide +kernel) (k _ (same_new hp _))⟩
    | rw r as =>
      exact ⟨_, rfl, q, _, _, _, rfl, rfl, SqT.of tp.1, rfl, rfl, _, rfl, ifP (by decide +kernel) (k _ same_rfl)⟩
abbrev sKindS : Stmt := top 35
theorem sc_kindS : FnScope ["takes"] ["takes"] (defScope sKindS) := ⟨rfl, rfl, rfl, by decide +kernel, rfl, by decide +kernel, by decide +kernel⟩
theorem g_kindS (T : Tx K mg) : GF P w K mg base 1 "kind_of_slot" ["takes"] spKindS := by
  refine gf_of T.m_kind_of_slot T.d_kind_of_slot (fun _ _ _ _ _ _ us hl => match us, hl with | [_], _ => rfl) fun fd F => F.ok sc_kindS (fun vs H Q E h => ?_) (fun cdv A outer s H vs Q E hr h => ?_)
  · obtain ⟨q, rfl, _⟩ := h
    rfl
  · obtain ⟨q, rfl, k⟩ := h
    refine ⟨_, PSs.nox <| pss_one (ps_ret (pe_ifExp (pt_cmpR op_eq (pv 0) pe_str (nomark _)) pe_str (pe_ifExp (pt_val (pe_m1 PySem.F.slot_str_endswith PySem.F.type_str_endswith mt_endswith (pv 0) pe_str)) pe_str pe_str))), ?_⟩
    cases q with
    | tx z => exact ⟨_, rfl, rfl, _, rfl, ifP (decide_eq_true rfl) k⟩
    | on =>
      refine ⟨_, rfl, rfl, _, rfl, ifN (by decide +kernel) ⟨_, rfl, ⟨_, rfl⟩, _, _, rfl, rfl, _, rfl, ifN (by decide +kernel) k⟩⟩
    | rw =>
      refine ⟨_, rfl, rfl, _, rfl, ifN (by decide +kernel) ⟨_, rfl, ⟨_, rfl⟩, _, _, rfl, rfl, _, rfl, ifP (by decide +kernel) k⟩⟩
end
end Jz
end
section
set_option maxHeartbeats 4000000
/-! right parts, checks -/
namespace Jz
open PySem PySem.Spec PyProof.Rows L2 ClX StX
theorem paired_ex {α β : Type} {F : α → β → Prop} {l : List α} {m : List β} (h : Paired F l m) {i : Nat} {y : β} (hy : m[i]? = some y) : ∃ x, l[i]? = some x ∧ F x y := by
  have h2 := (List.getElem?_eq_some_iff.mp hy).1
  have h1 : i < l.length := by rw [paired_len h]; exact h2
  refine ⟨l[i], List.getElem?_eq_getElem h1, ?_⟩
  have := paired_get h h1 h2
  rw [(List.getElem?_eq_some_iff.mp hy).2] at this
  exact this
def spRight (CT CS CF : Addr) : Sp := fun vs H Q _ => ∃ s x t, vs = [.ref s, .ref x] ∧ SchAt CS CF H s ∧ TrAt CT H t x ∧ size t ≤ 1000 ∧ ∀ H', Same H H' → Q (.bl true) H'
section
variable {P : Program} {w : World} {K : PySem.W.Frag} {mg : Str → Option Value} {base : Heap}
abbrev sRight : Stmt := top 38
theorem sc_right : FnScope ["schema", "node", "slots", "part", "slot", "child"] ["schema", "node"] (defScope sRight) := ⟨rfl, rfl, rfl, by decide +kernel, rfl, by decide +kernel, by decide +kernel⟩
theorem g_right (T : Tx K mg) : GF P w K mg base 3 "has_right_parts" ["schema", "node"] (spRight (cA K "Tree") (cA K "Schema") (cA K "Form")) := by
  refine gf_of T.m_has_right_parts T.d_has_right_parts (fun _ _ _ _ _ _ us hl => match us, hl with | [_, _], _ => rfl) fun fd F => F.ok sc_right (fun vs H Q E h => ?_) (fun cdv A outer s H vs Q E hr h => ?_)
  · obtain ⟨s, x, t, rfl, _⟩ := h
    rfl
  · obtain ⟨sa, x, t, rfl, hs, ht, hz, k⟩ := h
    have hr1 : Room 1 _ := hr.mono (by decide)
    refine ⟨_, PSs.nox <| pss_cons (ps_set (i := 2) sc_right.nd rfl (.inl rfl) (pe_pf (p_slots T) T.c_Form hr (pe_if (i_getS T) hr (pv 0) (pe_pf (p_form T) T.c_Tree hr (pv 1)))))
      (pss_cons (ps_if (pt_cmpR op_ne (pe_callB call_len_seq (by rfl) T.n_len PySem.boot_len (pa_cons (pv 2) pa_nil)) (pe_callB call_len_seq (by rfl) T.n_len PySem.boot_len (pa_cons (pe_pf (p_parts T) T.c_Tree hr (pv 1)) pa_nil)) (nomark _)) (pss_one (ps_ret pe_bl)) pss_nil)
      (pss_cons (ps_for PassesOwn.never rfl (pi_zs (by rfl) T.n_zip (pa_cons (pe_pf (p_parts T) T.c_Tree hr (pv 1)) (pa_cons (pv 2) pa_nil))) (pg_tup rfl (pgs_cons (pg_name (i := 3) sc_right.nd rfl (.inl rfl)) (pgs_cons (pg_name (i := 4) sc_right.nd rfl (.inl rfl)) pgs_nil)))
        (pss_cons (ps_if (pt_cmpR op_ne (pe_g (g_kindP T) hr1 (pa_cons (pe_g (g_term T) hr1 (pa_cons (pv 3) pa_nil)) pa_nil)) (pe_g (g_kindS T) hr1 (pa_cons (pe_ix ix_tup (pv 4) pe_int (fun _ _ => rfl)) pa_nil)) (nomark _)) (pss_one (ps_ret pe_bl)) pss_nil)
        (pss_one (ps_for PassesOwn.never rfl (pi_seq (pe_ifExp (pt_val (pe_isi T.n_isinstance (pv 3) (pe_ty T.n_tuple rfl))) (pv 3) (pe_ifExp (pt_val (pe_isi T.n_isinstance (pv 3) (pe_own T.m_Tree))) (pe_lst (pa_cons (pv 3) pa_nil)) (pe_lst pa_nil)))) (pg_name (i := 5) sc_right.nd rfl (.inl rfl))
          (pss_one (ps_if (PW.pt (pw_or (pt_cmpR (op_notInM (h_hasS T) hr1) (pe_pf (p_form T) T.c_Tree hr (pv 5)) (pv 0) (by rfl)) (pw_or1 (pt_cmpR op_ne (pe_pf (p_kin T) T.c_Form hr (pe_if (i_getS T) hr (pv 0) (pe_pf (p_form T) T.c_Tree hr (pv 5))))
              (pe_m1 PySem.F.slot_str_rstrip PySem.F.type_str_rstrip mt_rstripChars (pe_ix ix_tup (pv 4) pe_int (fun _ _ => rfl)) pe_str) (nomark _))))) (pss_one (ps_ret pe_bl)) pss_nil))))))
      (pss_one (ps_ret pe_bl)))), ?_⟩
    cases ht with
    | mk hx hg hrw hk hb hl hsp htm hc =>
    rename_i f a b ks dxn g bl sp tm ps
    obtain ⟨dxs, d, e, bw, kvs, h1, h2, h3⟩ := id hs
    -- slots = schema[node.form].slots
    refine ⟨_, rfl, _, rfl, x, dxn, _, rfl, hx, x, dxn, _, _, rfl, hx, tr_kind, sa, dxs, _, rfl, h1, sa, f, rfl, hs, fun fa hfa => ?_⟩
    obtain ⟨dxf, op, qs, f1, f2, f3⟩ := hfa
    refine ⟨fa, dxf, _, rfl, f1, fa, dxf, _, _, rfl, f1, (by with_unfolding_all rfl : _ = some (V.ref op)), ?_⟩
    have hkl : (kinds f a b).length = (slots f).length := by
      have := congrArg List.length (slots_kinds f a b)
      rw [List.length_map, List.length_map] at this
      exact this.symm
    have hpl : ps.length = (slots f).length := by
      have := congrArg List.length hk
      rw [List.length_map] at this
      rw [this, hkl]
    have hql : qs.length = (slots f).length := (paired_len f3).symm
    -- if len(slots) != len(node.parts)
    refine ⟨_, rfl, op, _, rfl, .inr (SqT.of f2), _, rfl, x, dxn, _, rfl, hx, x, dxn, _, _, rfl, hx, tr_given, g, _, rfl, .inr (SqT.of hg), rfl, _, rfl, ?_⟩
    rw [List.length_map, List.length_map, hql, hpl]
    refine ifN (by rw [decide_eq_true rfl]; exact Bool.false_ne_true) ?_
    -- for part, slot in zip(node.parts, slots, strict=True)
    refine ⟨_, rfl, x, dxn, _, rfl, hx, x, dxn, _, _, rfl, hx, tr_given, _, rfl, g, op, _, _, rfl, SqT.of hg, SqT.of f2, for_zs (xs := ps.map Pv.v) (ys := rl qs) (by rw [List.length_map, List.length_map, hql, hpl])
      (fun i σ H' => ∃ v1 v2 v3, σ = [some (.ref sa), some (.ref x), some (.ref op), v1, v2, v3] ∧ Same H H') ⟨_, _, _, rfl, same_rfl⟩ (fun i σ H' ⟨_, _, _, _, s1⟩ => ⟨SqT.of (s1 _ _ hg), SqT.of (s1 _ _ f2)⟩) ?_ ?_⟩
    · rintro i y z T1 σ H1 hy hy2 ⟨v1, v2, v3, rfl, s1⟩ hT
      have hi := (List.getElem?_eq_some_iff.mp hy).1
      rw [List.length_map] at hi
      rw [List.getElem?_map, List.getElem?_eq_getElem hi] at hy
      obtain rfl := Option.some.inj hy
      rw [List.getElem?_map] at hy2
      obtain ⟨q, hq, rfl⟩ := Option.map_eq_some_iff.mp hy2
      obtain ⟨sl, hsl, hqt⟩ := paired_ex f3 hq
      have hm : ps[i] ∈ ps := List.getElem_mem hi
      have hslk : sl.2 = slotZ ps[i].k := by
        have e1 : ((slots f).map (·.2))[i]? = some sl.2 := by rw [List.getElem?_map, hsl]; rfl
        rw [slots_kinds f a b, ← hk, List.map_map, List.getElem?_map, List.getElem?_eq_getElem hi] at e1
        exact (Option.some.inj e1).symm
      have s2 : Same H (upd H1 T1 (.tup [ps[i].v, .ref q])) := same_tr s1 (same_new hT _)
      generalize hH2 : upd H1 T1 (.tup [ps[i].v, .ref q]) = H2 at *
      have kid : ∀ c ∈ ps[i].as, ∃ kd, TrAt (cA K "Tree") H kd c := fun c hcm => by
        obtain ⟨kd, _, hkd⟩ := kid_of hl hc (kidsA_mem hm hcm)
        exact ⟨kd, hkd⟩
      have kidT : ∀ c ∈ ps[i].as, ∃ kd dx' fs', H c = some (.ins (cA K "Tree") dx' fs') ∧ fs'.lookup ("term" : Str) = some (.ref (tmA H c)) ∧ fs'.lookup ("kind" : Str) = some (.str (fmN kd)) ∧ ∃ t', TmAt H t' (tmA H c) := fun c hcm => by
        obtain ⟨kd, hkd⟩ := kid c hcm
        obtain ⟨dx', f', g', bl', sp', tm', e, _, _, ht'⟩ := hkd.fld
        exact ⟨f', dx', _, e, by rw [tmA_eq e tr_term]; exact tr_term, tr_kind, kd, by rw [tmA_eq e tr_term]; exact ht'⟩
      have hq2 := s2 _ _ hqt
      refine ⟨T1, _, rfl, SqT.of (by rw [← hH2]; exact upd_same), rfl, _, _, rfl, _, _, rfl, rfl, ?_⟩
      -- if kind_of_part(term_of(part)) != kind_of_slot(slot[1])
      refine ⟨_, rfl, ps[i], tmA H, rfl, (fun c hcm => ?_), (fun r as e => s2 _ _ (hrw r as (e ▸ hm))), ?_, fun H3 tq p' s3 tp e1 e2 => ?_⟩
      · obtain ⟨_, dx', fs', e1, e2, _⟩ := kidT c hcm
        exact ⟨dx', fs', s2 _ _ e1, e2⟩
      · refine Nat.le_trans (kidsA_one hm) ?_
        rw [hl]
        exact Nat.le_trans (Nat.le_of_lt (size_ks (.node f a b ks))) hz
      have s3' : Same H H3 := same_tr s2 s3
      refine ⟨tq, p', rfl, tp, (fun c e => ?_), fun H4 s4 => ?_⟩
      · have hcc : c ∈ ps[i].as.map (tmA H) := by rw [← e2, e]; exact List.mem_singleton.mpr rfl
        obtain ⟨c0, hc0, rfl⟩ := List.mem_map.mp hcc
        obtain ⟨_, _, _, _, _, _, t', ht'⟩ := kidT c0 hc0
        cases ht' with
        | mk hx' _ _ _ _ _ => exact ⟨_, _, s3' _ _ hx'⟩
      have s4' : Same H H4 := same_tr s3' s4
      refine ⟨_, rfl, q, _, _, _, rfl, rfl, SqT.of (s4' _ _ hqt), rfl, ps[i].k, by rw [hslk]; rfl, rfl, _, rfl, ?_⟩
      rw [e1]
      refine ifN (by rw [decide_eq_true rfl]; exact Bool.false_ne_true) ?_
      -- the children
      have strip : ∀ c ∈ ps[i].as, Txt.rstripChars (slotZ ps[i].k) "*" = "s" ∧ (slotZ ps[i].k).length ≤ sizeLine := fun c hcm => by
        cases hp : ps[i] with
        | tx z => rw [hp] at hcm; cases hcm
        | on c => exact ⟨by show Txt.rstripChars "s" "*" = "s"; decide +kernel, by show (("s" : Str)).length ≤ sizeLine; decide +kernel⟩
        | rw r as => exact ⟨by show Txt.rstripChars "s*" "*" = "s"; decide +kernel, by show (("s*" : Str)).length ≤ sizeLine; decide +kernel⟩
      cases hp : ps[i] with
      | tx z =>
        refine ⟨_, rfl, .str z, .ty "tuple", _, _, false, rfl, .ty "tuple", .base (.str z), kit_ty (by decide +kernel), false, rfl, iteF ?_⟩
        refine ⟨_, rfl, .str z, .ref (cA K "Tree"), _, _, false, rfl, .own _, .base (.str z), T.kit_str_Tree, false, rfl, iteF ?_⟩
        refine ⟨Nat.zero_le _, fun l hl0 => .inl ⟨l, rfl, ⟨_, SqL.of upd_same⟩, for_list (K := K) (a := l) (xs := []) (fun i σ H' => (∃ v, σ = [some (.ref sa), some (.ref x), some (.ref op), some (.str z), some (.ref q), v]) ∧ Same H H' ∧ H' l = some (.lst [])) ⟨⟨_, rfl⟩, same_tr s4' (same_new hl0 _), upd_same⟩ (fun i σ H' _ z => SqL.of z.2.2) (fun i y σ H' h => nomatch h) ?_⟩⟩
        rintro σ H' ⟨⟨v, rfl⟩, s5, _⟩
        exact ⟨_, _, _, rfl, s5⟩
      | on c =>
        have hcm : c ∈ ps[i].as := by rw [hp]; exact List.mem_singleton.mpr rfl
        have ecT := s4' _ _ (kidT c hcm).choose_spec.choose_spec.choose_spec.1
        refine ⟨_, rfl, .ref c, .ty "tuple", _, _, false, rfl, .ty "tuple", T.i_Tree ecT, T.kit_Tree_tuple, false, rfl, iteF ?_⟩
        refine ⟨_, rfl, .ref c, .ref (cA K "Tree"), _, _, true, rfl, .own _, T.i_Tree ecT, T.kit_Tree_Tree, true, rfl, iteT ?_⟩
        refine ⟨_, rfl, by show 1 ≤ sizeLine; decide, fun l hl0 => .inl ⟨l, rfl, ⟨_, SqL.of upd_same⟩, for_list (K := K) (a := l) (xs := [.ref c]) (fun i σ H' => (∃ v, σ = [some (.ref sa), some (.ref x), some (.ref op), some (.ref c), some (.ref q), v]) ∧ Same H H' ∧ H' l = some (.lst [.ref c])) ⟨⟨_, rfl⟩, same_tr s4' (same_new hl0 _), upd_same⟩ (fun i σ H' _ z => SqL.of z.2.2) ?_ ?_⟩⟩
        · rintro i2 y σ H5 hy5 ⟨⟨v, rfl⟩, s5, hl5⟩
          obtain rfl : y = .ref c := by
            cases i2 with
            | zero => exact (Option.some.inj hy5).symm
            | succ _ => cases hy5
          obtain ⟨kd, dx', fs', ec, _, lk, _⟩ := kidT c hcm
          obtain ⟨st1, st2⟩ := strip c hcm
          have ec5 := s5 _ _ ec
          refine ⟨_, rfl, c, dx', _, rfl, ec5, c, dx', _, _, rfl, ec5, lk, _, rfl, sa, dxs, _, rfl, s5 _ _ h1, ⟨sa, kd, rfl, hs.mono s5, true, rfl, _, rfl, iteF ?_⟩⟩
          refine ⟨_, rfl, _, rfl, c, dx', _, rfl, ec5, c, dx', _, _, rfl, ec5, lk, sa, dxs, _, rfl, s5 _ _ h1, sa, kd, rfl, hs.mono s5, fun fa' hfa' => ?_⟩
          obtain ⟨dxg, op', qs', g1, g2, g3⟩ := hfa'
          refine ⟨fa', dxg, _, rfl, g1, fa', dxg, _, _, rfl, g1, (by with_unfolding_all rfl : _ = some (V.str "s")), ?_⟩
          refine ⟨_, rfl, q, _, _, _, rfl, rfl, SqT.of (s5 _ _ hqt), rfl, ⟨_, rfl⟩, _, _, rfl, rfl, by rw [hslk]; exact st2, rfl, _, rfl, ?_⟩
          rw [hslk, st1]
          refine ifN (by rw [decide_eq_true rfl]; exact Bool.false_ne_true) ?_
          exact ⟨⟨_, rfl⟩, s5, hl5⟩
        · rintro σ H' ⟨⟨v, rfl⟩, s5, _⟩
          exact ⟨_, _, _, rfl, s5⟩
      | rw r as =>
        have er := hrw r as (hp ▸ hm)
        refine ⟨_, rfl, .ref r, .ty "tuple", _, _, true, rfl, .ty "tuple", .base (.tup (s4' _ _ er)), kit_ty (by decide +kernel), true, rfl, iteT ?_⟩
        refine ⟨_, rfl, .inr ⟨r, rfl, ⟨_, SqT.of (s4' _ _ er)⟩, for_tup (K := K) (a := r) (xs := rl as) (fun i σ H' => (∃ v, σ = [some (.ref sa), some (.ref x), some (.ref op), some (.ref r), some (.ref q), v]) ∧ Same H H') ⟨⟨_, rfl⟩, s4'⟩ (fun i σ H' _ z => SqT.of (z.2 _ _ er)) ?_ ?_⟩⟩
        · rintro i2 y σ H5 hy5 ⟨⟨v, rfl⟩, s5⟩
          obtain ⟨c, hcas, rfl⟩ : ∃ c ∈ as, y = .ref c := by
            obtain ⟨c, h1, h2⟩ := List.mem_map.mp (List.mem_of_getElem? hy5)
            exact ⟨c, h1, h2.symm⟩
          have hcm : c ∈ ps[i].as := by rw [hp]; exact hcas
          obtain ⟨kd, dx', fs', ec, _, lk, _⟩ := kidT c hcm
          obtain ⟨st1, st2⟩ := strip c hcm
          have ec5 := s5 _ _ ec
          refine ⟨_, rfl, c, dx', _, rfl, ec5, c, dx', _, _, rfl, ec5, lk, _, rfl, sa, dxs, _, rfl, s5 _ _ h1, ⟨sa, kd, rfl, hs.mono s5, true, rfl, _, rfl, iteF ?_⟩⟩
          refine ⟨_, rfl, _, rfl, c, dx', _, rfl, ec5, c, dx', _, _, rfl, ec5, lk, sa, dxs, _, rfl, s5 _ _ h1, sa, kd, rfl, hs.mono s5, fun fa' hfa' => ?_⟩
          obtain ⟨dxg, op', qs', g1, g2, g3⟩ := hfa'
          refine ⟨fa', dxg, _, rfl, g1, fa', dxg, _, _, rfl, g1, (by with_unfolding_all rfl : _ = some (V.str "s")), ?_⟩
          refine ⟨_, rfl, q, _, _, _, rfl, rfl, SqT.of (s5 _ _ hqt), rfl, ⟨_, rfl⟩, _, _, rfl, rfl, by rw [hslk]; exact st2, rfl, _, rfl, ?_⟩
          rw [hslk, st1]
          refine ifN (by rw [decide_eq_true rfl]; exact Bool.false_ne_true) ?_
          exact ⟨⟨_, rfl⟩, s5⟩
        · rintro σ H' ⟨⟨v, rfl⟩, s5⟩
          exact ⟨_, _, _, rfl, s5⟩
    · rintro σ H1 ⟨v1, v2, v3, rfl, s1⟩
      exact k _ s1
end
end Jz
end
section
set_option maxHeartbeats 4000000
/-! trees of the schema -/
namespace Jz
open PySem PySem.Spec PyProof.Rows L2 ClX StX
def spWrong (CT CS CF : Addr) (n : Nat) : Sp := fun vs H Q _ => ∃ s x p t pa, vs = [.ref s, .ref x, .ref p] ∧ SchAt CS CF H s ∧ TrAt CT H t x ∧ height t ≤ n ∧ size t ≤ 400 ∧ PaAt H pa p ∧ pa.length + height t ≤ 1000 ∧ ∀ H', Same H H' → Q .non H'
def spCheck (CT CS CF : Addr) : Sp := fun vs H Q _ => ∃ s x t, vs = [.ref s, .ref x] ∧ SchAt CS CF H s ∧ TrAt CT H t x ∧ height t ≤ 8 ∧ size t ≤ 400 ∧ ∀ H', Same H H' → Q .non H'
theorem height_kid : ∀ {ks : List Tr} {k : Tr}, k ∈ ks → height k ≤ heightL ks
  | x :: r, k, h => by
    rw [heightL]
    rcases List.mem_cons.mp h with h | h
    · rw [h]; omega
    · have := height_kid h
      omega
section
variable {P : Program} {w : World} {K : PySem.W.Frag} {mg : Str → Option Value} {base : Heap}
abbrev sWrong : Stmt := top 36
theorem sc_wrong : FnScope ["schema", "tree", "path", "number", "child", "found"] ["schema", "tree", "path"] (defScope sWrong) := ⟨rfl, rfl, rfl, by decide +kernel, rfl, by decide +kernel, by decide +kernel⟩
theorem g_wrong (T : Tx K mg) : ∀ n, GF P w K mg base (n + 4) "wrong_path" ["schema", "tree", "path"] (spWrong (cA K "Tree") (cA K "Schema") (cA K "Form") n) := by
  intro n
  induction n with
  | zero =>
    obtain ⟨fd, F⟩ := T.d_wrong_path
    obtain ⟨ds, hv, hb⟩ := F.binds1 (ps := ["schema", "tree", "path"]) 3 1 (List.cons_ne_nil _ _) rfl (fun _ _ _ _ _ _ _ us its hl hl2 => match us, hl, its, hl2 with | [_, _, _], _, [_], _ => ⟨_, rfl, rfl⟩)
    cases hv
    refine ⟨_, fd, F.ok sc_wrong (fun vs H Q E h => ?_) (fun cdv A outer s H vs Q E hr h => ?_), T.m_wrong_path, F.kp, hb⟩
    · obtain ⟨s, x, p, t, pa, rfl, _⟩ := h
      rfl
    · exfalso
      obtain ⟨s, x, p, t, pa, rfl, _, _, hh, _⟩ := h
      cases t with
      | node f a b ks => rw [height] at hh; omega
  | succ n ih =>
    obtain ⟨fd, F⟩ := T.d_wrong_path
    obtain ⟨ds, hv, hb⟩ := F.binds1 (ps := ["schema", "tree", "path"]) 3 1 (List.cons_ne_nil _ _) rfl (fun _ _ _ _ _ _ _ us its hl hl2 => match us, hl, its, hl2 with | [_, _, _], _, [_], _ => ⟨_, rfl, rfl⟩)
    cases hv
    refine ⟨_, fd, F.ok sc_wrong (fun vs H Q E h => ?_) (fun cdv A outer s H vs Q E hr h => ?_), T.m_wrong_path, F.kp, hb⟩
    · obtain ⟨s, x, p, t, pa, rfl, _⟩ := h
      rfl
    · obtain ⟨sa, x, p, t, pa, rfl, hs, ht, hh, hz, hp, hpl, k⟩ := h
      have hr1 : Room 1 _ := hr.mono (by omega)
      have hr2 : Room (1 + 1) _ := hr.mono (by omega)
      have hr3 : Room 3 _ := hr.mono (by omega)
      refine ⟨_, PSs.nox <| pss_cons (ps_if (PW.pt (pw_or (pt_cmpR (op_notInM (h_hasS T) hr1) (pe_pf (p_form T) T.c_Tree hr2 (pv 1)) (pv 0) (by rfl)) (pw_or1 (pt_not (pt_val (pe_g (g_right T) hr3 (pa_cons (pv 0) (pa_cons (pv 1) pa_nil)))))))) (pss_one (ps_ret (pv 2))) pss_nil)
        (pss_cons (ps_for PassesOwn.never rfl (pi_enumT (by rfl) T.n_enumerate (pa_cons (pe_pf (p_children T) T.c_Tree hr2 (pv 1)) pa_nil)) (pg_tup rfl (pgs_cons (pg_name (i := 3) sc_wrong.nd rfl (.inl rfl)) (pgs_cons (pg_name (i := 4) sc_wrong.nd rfl (.inl rfl)) pgs_nil)))
          (pss_cons (ps_set (i := 5) sc_wrong.nd rfl (.inl rfl) (pe_g ih hr (pa_cons (pv 0) (pa_cons (pv 4) (pa_cons (pe_op op_catA (pv 2) (pe_tup (pa_cons (pv 3) pa_nil))) pa_nil)))))
          (pss_one (ps_if (pt_cmpR op_notN (pv 5) pe_non (nomark _)) (pss_one (ps_ret (pv 5))) pss_nil))))
        (pss_one (ps_ret pe_non))), ?_⟩
      cases ht with
      | mk hx hg hrw hk hb' hl hsp htm hc =>
      rename_i f a b ks dxn g bl sp tm ps
      obtain ⟨dxs, d, e, bw, kvs, h1, h2, h3⟩ := id hs
      have hT : TrAt (cA K "Tree") H (.node f a b ks) x := .mk hx hg hrw hk hb' hl hsp htm hc
      refine ⟨_, rfl, x, dxn, _, rfl, hx, x, dxn, _, _, rfl, hx, tr_kind, _, rfl, sa, dxs, _, rfl, h1, ⟨sa, f, rfl, hs, true, rfl, _, rfl, iteF ?_⟩⟩
      refine ⟨_, rfl, _, rfl, sa, x, _, rfl, hs, hT, Nat.le_trans hz (by decide), fun H1 s1 => ⟨true, rfl, iteF ?_⟩⟩
      refine ⟨_, rfl, x, dxn, _, rfl, s1 _ _ hx, x, dxn, _, _, rfl, s1 _ _ hx, tr_below, bl, _, rfl, SqT.of (s1 _ _ hb'), for_enT (xs := rl (kidsA ps)) (fun i σ H' => ∃ v1 v2 v3, σ = [some (.ref sa), some (.ref x), some (.ref p), v1, v2, v3] ∧ Same H H') ⟨_, _, _, rfl, s1⟩ (fun i σ H' _ ⟨_, _, _, _, s⟩ => SqT.of (s _ _ hb')) ?_ ?_⟩
      · rintro i y T1 σ H2 hy hT1 ⟨v1, v2, v3, rfl, s2⟩
        obtain ⟨c, kd, rfl, hc1, hc2, hi, rfl⟩ := at_two hl hy
        have s3 : Same H (upd H2 T1 (.tup [.int (i : Nat), .ref c])) := same_tr s2 (same_new hT1 _)
        refine ⟨T1, _, rfl, SqT.of upd_same, rfl, _, _, rfl, _, _, rfl, rfl, ?_⟩
        generalize upd H2 T1 (.tup [.int (i : Nat), .ref c]) = H3 at *
        have hkh : height ks[i] ≤ heightL ks := height_kid (List.getElem_mem hi)
        rw [height] at hh hpl
        have fin : ∀ (q : Addr) (H4 : Hp), Same H H4 → PaAt H4 (pa ++ [i]) q → ∃ s x p t pa, [V.ref sa, .ref c, .ref q] = [.ref s, .ref x, .ref p] ∧ SchAt (cA K "Schema") (cA K "Form") H4 s ∧ TrAt (cA K "Tree") H4 t x ∧ height t ≤ n ∧ size t ≤ 400 ∧ PaAt H4 pa p ∧ pa.length + height t ≤ 1000 := fun q H4 s4 hq =>
          ⟨sa, c, q, ks[i], pa ++ [i], rfl, hs.mono s4, (hc i _ _ hc2 hc1).mono s4, by omega, Nat.le_trans (Nat.le_of_lt (size_kid (t := .node f a b ks) (List.getElem_mem hi))) hz, hq, by rw [List.length_append, List.length_singleton]; omega⟩
        refine ⟨_, rfl, _, rfl, _, rfl, _, rfl, by show 1 ≤ sizeLine; decide, fun q hq => ?_⟩
        have s4 : Same H (upd H3 q (.tup [.int (i : Nat)])) := same_tr s3 (same_new hq _)
        refine ⟨p, q, _, _, rfl, rfl, SqT.of (s4 _ _ hp), SqT.of upd_same, ?_, (fun z => ?_), (fun _ z => nomatch z), (fun _ _ r hr0 => ?_)⟩
        · rw [List.length_map, List.length_singleton]
          exact Nat.le_trans (show pa.length + 1 ≤ 1001 by omega) (by decide)
        · have e0 : pa = [] := List.map_eq_nil_iff.mp z
          obtain ⟨s', x', p', t', pa', e1, q1, q2, q3, q4, q5, q6⟩ := fin q _ s4 (by rw [e0]; exact upd_same)
          refine ⟨s', x', p', t', pa', e1, q1, q2, q3, q4, q5, q6, fun H5 s5 => ?_⟩
          exact ⟨_, rfl, rfl, _, rfl, iteF ⟨_, _, _, rfl, same_tr s4 s5⟩⟩
        · have s6 : Same H (upd (upd H3 q (.tup [.int (i : Nat)])) r (.tup (pa.map (fun n : Nat => V.int (n : Int)) ++ [.int (i : Nat)]))) := same_tr s4 (same_new hr0 _)
          obtain ⟨s', x', p', t', pa', e1, q1, q2, q3, q4, q5, q6⟩ := fin r _ s6 (by unfold PaAt; rw [upd_same, List.map_append]; rfl)
          refine ⟨s', x', p', t', pa', e1, q1, q2, q3, q4, q5, q6, fun H5 s5 => ?_⟩
          exact ⟨_, rfl, rfl, _, rfl, iteF ⟨_, _, _, rfl, same_tr s6 s5⟩⟩
      · rintro σ H2 ⟨v1, v2, v3, rfl, s2⟩
        exact k _ s2
abbrev sCheck : Stmt := top 37
theorem sc_check : FnScope ["schema", "tree", "path"] ["schema", "tree"] (defScope sCheck) := ⟨rfl, rfl, rfl, by decide +kernel, rfl, by decide +kernel, by decide +kernel⟩
theorem g_check (T : Tx K mg) : GF P w K mg base 13 "check_tree" ["schema", "tree"] (spCheck (cA K "Tree") (cA K "Schema") (cA K "Form")) := by
  refine gf_of T.m_check_tree T.d_check_tree (fun _ _ _ _ _ _ us hl => match us, hl with | [_, _], _ => rfl) fun fd F => F.ok sc_check (fun vs H Q E h => ?_) (fun cdv A outer s H vs Q E hr h => ?_)
  · obtain ⟨s, x, t, rfl, _⟩ := h
    rfl
  · obtain ⟨sa, x, t, rfl, hs, ht, hh, hz, k⟩ := h
    refine ⟨_, PSs.nox <| pss_cons (ps_set (i := 2) sc_check.nd rfl (.inl rfl) (pe_g (g_wrong T 8) hr (pa_cons (pv 0) (pa_cons (pv 1) (pa_cons (pe_tup pa_nil) pa_nil)))))
      (pss_one (ps_if (pt_cmpR op_notN (pv 2) pe_non (nomark _)) (pss_one ps_never) pss_nil)), ?_⟩
    refine ⟨_, rfl, _, rfl, Nat.zero_le _, fun e0 he0 => ⟨sa, x, e0, t, [], rfl, hs.mono (same_new he0 _), ht.mono (same_new he0 _), hh, hz, upd_same, by show 0 + _ ≤ _; omega, fun H1 s1 => ?_⟩⟩
    exact ⟨_, rfl, rfl, _, rfl, iteF (k _ (same_tr (same_new he0 _) s1))⟩
end
end Jz
end
section
set_option maxHeartbeats 4000000
/-! orders and deeds -/
namespace Jz
open PySem PySem.Spec PyProof.Rows L2 ClX StX
/-- a flow of plans pl at x -/
abbrev Fl (K : PySem.W.Frag) (H : Hp) (pl : Fm → Pd) (x : Addr) : Prop := FlwAt (cA K "Flow") (cA K "Schema") (cA K "Form") (cA K "Plan") H pl x
abbrev Tt (K : PySem.W.Frag) (H : Hp) (t : Tr) (x : Addr) : Prop := TrAt (cA K "Tree") H t x
def PlanOk (pl : Fm → Pd) : Prop := ∀ f, (pl f).ac ≠ none → slotN f ∈ (slots f).map (·.1)
def su (s : Bool) : Str := if s then "set" else "use"
def spOrder (K : PySem.W.Frag) : Sp := fun vs H Q _ => ∃ fw x pl t, vs = [.ref fw, .ref x] ∧ Fl K H pl fw ∧ Tt K H t x ∧ Q (.str (odN (pl t.f).od)) H
def spDeed (K : PySem.W.Frag) : Sp := fun vs H Q _ => ∃ fw x pl t, vs = [.ref fw, .ref x] ∧ Fl K H pl fw ∧ PlanOk pl ∧ Tt K H t x ∧ (deed pl t = none → ∀ H', Same H H' → Q .non H') ∧
  (∀ s v, deed pl t = some (s, v) → ∀ H' q, Same H H' → H' q = some (.tup [.str (su s), .str (sh v)]) → Q (.ref q) H')
theorem slot_tx (f : Fm) (a b : Bool) (i : Nat) (s : Str × Str) (h : (slots f)[i]? = some s) (e : s.1 = slotN f) : (kinds f a b)[i]? = some (.tx (sh (if f = .letf then b else a))) := by
  have ne : ∀ {x y : Str}, decide (x = y) = false → x = y → False := fun h1 h2 => by rw [h2, decide_eq_true rfl] at h1; cases h1
  cases f <;> (match i with
    | 0 => first | (cases h; done) | (cases h; rfl) | (cases h; exact (ne (by decide +kernel) e).elim)
    | 1 => first | (cases h; done) | (cases h; rfl) | (cases h; exact (ne (by decide +kernel) e).elim)
    | _ + 2 => cases h)
section
variable {P : Program} {w : World} {K : PySem.W.Frag} {mg : Str → Option Value} {base : Heap}
abbrev sOrder : Stmt := inC 43 3
theorem sc_order : FnScope ["self", "node"] ["self", "node"] (defScope sOrder) := ⟨rfl, rfl, rfl, by decide +kernel, rfl, by decide +kernel, by decide +kernel⟩
theorem h_order (T : Tx K mg) : MF P w K mg base 3 (cA K "Flow") "order_of" ["self", "node"] (spOrder K) := by
  refine mf_of T.h_Flow_order_of T.d_Flow_order_of (fun _ _ _ _ _ _ us hl => match us, hl with | [_, _], _ => rfl) fun fd F => F.ok sc_order (fun vs H Q E h => ?_) (fun cdv A outer s H vs Q E hr h => ?_)
  · obtain ⟨fw, x, pl, t, rfl, _⟩ := h
    rfl
  · obtain ⟨fw, x, pl, t, rfl, ⟨dxw, sa, b, c, kvs, h1, h2, h3, h4⟩, ht, k⟩ := h
    refine ⟨_, PSs.nox <| pss_one (ps_ret (pe_fld (pe_dget2 (hu_of hr) (pe_fld (pv 0) rfl) (pe_pf (p_form T) T.c_Tree hr (pv 1)) (pe_fld (pv 0) rfl) ⟨rfl, rfl, rfl, rfl⟩) rfl)), ?_⟩
    obtain ⟨dx, f, g, bl, sp, tm, e, ef, _⟩ := ht.fld
    subst ef
    obtain ⟨pa, e1, dxp, e2⟩ := h4 t.f
    exact ⟨_, rfl, fw, _, dxw, _, _, rfl, h1, T.c_Flow, T.a_Flow_by_form, (by with_unfolding_all rfl : _ = some (V.ref b)), b, rfl, .inl ⟨kvs, .inl h3⟩, _, rfl, x, dx, _, rfl, e, x, dx, _, _, rfl, e, tr_kind,
      _, rfl, fw, _, dxw, _, _, rfl, h1, T.c_Flow, T.a_Flow_common, (by with_unfolding_all rfl : _ = some (V.ref c)), _, DGet.k (k := Sum.inr (fmN t.f)) h3, pa, _, dxp, _, _, e1, e2, T.c_Plan, T.a_Plan_mode, (by with_unfolding_all rfl : _ = some (V.str (odN (pl t.f).od))), k⟩
abbrev sDeed : Stmt := inC 43 4
theorem sc_deed : FnScope ["self", "node", "plan", "spot", "slot"] ["self", "node"] (defScope sDeed) := ⟨rfl, rfl, rfl, by decide +kernel, rfl, by decide +kernel, by decide +kernel⟩
theorem h_deed (T : Tx K mg) : MF P w K mg base 3 (cA K "Flow") "deed_of" ["self", "node"] (spDeed K) := by
  refine mf_of T.h_Flow_deed_of T.d_Flow_deed_of (fun _ _ _ _ _ _ us hl => match us, hl with | [_, _], _ => rfl) fun fd F => F.ok sc_deed (fun vs H Q E h => ?_) (fun cdv A outer s H vs Q E hr h => ?_)
  · obtain ⟨fw, x, pl, t, rfl, _⟩ := h
    rfl
  · obtain ⟨fw, x, pl, t, rfl, ⟨dxw, sa, b, c, kvs, h1, h2, h3, h4⟩, hok, ht, kn, ks⟩ := h
    refine ⟨_, PSs.nox <| pss_cons (ps_set (i := 2) sc_deed.nd rfl (.inl rfl) (pe_dget2 (hu_of hr) (pe_fld (pv 0) rfl) (pe_pf (p_form T) T.c_Tree hr (pv 1)) (pe_fld (pv 0) rfl) ⟨rfl, rfl, rfl, rfl⟩))
      (pss_cons (ps_for PassesOwn.never rfl (pi_enumT (by rfl) T.n_enumerate (pa_cons (pe_pf (p_slots T) T.c_Form hr (pe_if (i_getS T) hr (pe_fld (pv 0) rfl) (pe_pf (p_form T) T.c_Tree hr (pv 1)))) pa_nil)) (pg_tup rfl (pgs_cons (pg_name (i := 3) sc_deed.nd rfl (.inl rfl)) (pgs_cons (pg_name (i := 4) sc_deed.nd rfl (.inl rfl)) pgs_nil)))
        (pss_cons (ps_if (pt_cmpR op_eq (pe_ix ix_tup (pv 4) pe_int (fun _ _ => rfl)) (pe_fld (pv 2) rfl) (nomark _)) (pss_one (ps_ret (pe_tup (pa_cons pe_str (pa_cons (pe_ix ix_tup (pe_pf (p_parts T) T.c_Tree hr (pv 1)) (pv 3) (fun _ _ => rfl)) pa_nil))))) pss_nil)
        (pss_one (ps_if (pt_cmpR op_eq (pe_ix ix_tup (pv 4) pe_int (fun _ _ => rfl)) (pe_fld (pv 2) rfl) (nomark _)) (pss_one (ps_ret (pe_tup (pa_cons pe_str (pa_cons (pe_ix ix_tup (pe_pf (p_parts T) T.c_Tree hr (pv 1)) (pv 3) (fun _ _ => rfl)) pa_nil))))) pss_nil))))
      (pss_one (ps_ret pe_non))), ?_⟩
    cases ht with
    | mk hx hg hrw hk hb' hl hsp htm hc =>
    rename_i f a b' ks' dxn g bl sp tm ps
    obtain ⟨pa, e1, dxp, e2⟩ := h4 f
    obtain ⟨dxs, d, e, bw, kvs2, s1, s2, s3⟩ := id h2
    -- plan = self.by_form.get(node.form, self.common)
    refine ⟨_, rfl, fw, _, dxw, _, _, rfl, h1, T.c_Flow, T.a_Flow_by_form, (by with_unfolding_all rfl : _ = some (V.ref b)), b, rfl, .inl ⟨kvs, .inl h3⟩, _, rfl, x, dxn, _, rfl, hx, x, dxn, _, _, rfl, hx, tr_kind,
      _, rfl, fw, _, dxw, _, _, rfl, h1, T.c_Flow, T.a_Flow_common, (by with_unfolding_all rfl : _ = some (V.ref c)), _, DGet.k (k := Sum.inr (fmN f)) h3, ?_⟩
    rw [e1]
    -- for spot, slot in enumerate(..)
    refine ⟨_, rfl, fw, _, dxw, _, _, rfl, h1, T.c_Flow, T.a_Flow_basis, (by with_unfolding_all rfl : _ = some (V.ref sa)), _, rfl, x, dxn, _, rfl, hx, x, dxn, _, _, rfl, hx, tr_kind, sa, dxs, _, rfl, s1, sa, f, rfl, h2, fun fa hfa => ?_⟩
    obtain ⟨dxf, op, qs, f1, f2, f3⟩ := hfa
    refine ⟨fa, dxf, _, rfl, f1, fa, dxf, _, _, rfl, f1, (by with_unfolding_all rfl : _ = some (V.ref op)), op, _, rfl, SqT.of f2, ?_⟩
    refine for_enT (xs := rl qs) (fun i σ H' => ∃ v1 v2, σ = [some (.ref fw), some (.ref x), some (.ref pa), v1, v2] ∧ Same H H' ∧ ∀ j s, j < i → (slots f)[j]? = some s → (pl f).ac ≠ none → s.1 ≠ slotN f) ⟨_, _, rfl, same_rfl, fun j s h => absurd h (Nat.not_lt_zero _)⟩ (fun i σ H' _ ⟨_, _, _, s', _⟩ => SqT.of (s' _ _ f2)) ?_ ?_
    · rintro i y T1 σ H2 hy hT1 ⟨v1, v2, rfl, s4, hno⟩
      rw [List.getElem?_map] at hy
      obtain ⟨q, hq, rfl⟩ := Option.map_eq_some_iff.mp hy
      obtain ⟨sl, hsl, hqt⟩ := paired_ex f3 hq
      have s5 : Same H (upd H2 T1 (.tup [.int (i : Nat), .ref q])) := same_tr s4 (same_new hT1 _)
      refine ⟨T1, _, rfl, SqT.of upd_same, rfl, _, _, rfl, _, _, rfl, rfl, ?_⟩
      generalize upd H2 T1 (.tup [.int (i : Nat), .ref q]) = H3 at *
      have lkS : ([("mode", .str (odN (pl f).od)), ("setting", setV f (pl f)), ("using", useV f (pl f))] : List (Str × V)).lookup ("setting" : Str) = some (setV f (pl f)) := by with_unfolding_all rfl
      have lkU : ([("mode", .str (odN (pl f).od)), ("setting", setV f (pl f)), ("using", useV f (pl f))] : List (Str × V)).lookup ("using" : Str) = some (useV f (pl f)) := by with_unfolding_all rfl
      have scS : scal (.str sl.1) (setV f (pl f)) = true := by unfold setV; split <;> rfl
      have scU : scal (.str sl.1) (useV f (pl f)) = true := by unfold useV; split <;> rfl
      have eS : decide (V.str sl.1 = setV f (pl f)) = true ↔ (pl f).ac = some true ∧ sl.1 = slotN f := by
        rw [decide_eq_true_iff]
        unfold setV
        split
        · rename_i z; rw [z]; exact ⟨fun h => ⟨rfl, V.str.inj h⟩, fun h => by rw [h.2]⟩
        · rename_i z; exact ⟨fun h => (nomatch h), fun h => absurd h.1 z⟩
      have eU : decide (V.str sl.1 = useV f (pl f)) = true ↔ (pl f).ac = some false ∧ sl.1 = slotN f := by
        rw [decide_eq_true_iff]
        unfold useV
        split
        · rename_i z; rw [z]; exact ⟨fun h => ⟨rfl, V.str.inj h⟩, fun h => by rw [h.2]⟩
        · rename_i z; exact ⟨fun h => (nomatch h), fun h => absurd h.1 z⟩
      have got : sl.1 = slotN f → atI (ps.map Pv.v) ((i : Nat) : Int) = some (.str (sh (if f = .letf then b' else a))) := fun e => by
        have := slot_tx f a b' i sl hsl e
        rw [← hk, List.getElem?_map] at this
        obtain ⟨p, h5, h6⟩ := Option.map_eq_some_iff.mp this
        refine atI_nat ?_
        rw [List.getElem?_map, h5]
        cases p with
        | tx z => cases h6; rfl
        | on _ => cases h6
        | rw _ _ => cases h6
      refine ⟨_, rfl, q, _, _, _, rfl, rfl, SqT.of (s5 _ _ hqt), rfl, _, rfl, pa, _, dxp, _, _, rfl, s5 _ _ e2, T.c_Plan, T.a_Plan_setting, lkS, scS, _, rfl, ?_⟩
      refine ite2 (fun z => ?_) (fun z => ?_)
      · obtain ⟨z1, z2⟩ := eS.mp z
        refine ⟨_, rfl, x, dxn, _, rfl, s5 _ _ hx, x, dxn, _, _, rfl, s5 _ _ hx, tr_given, _, rfl, g, _, _, _, rfl, rfl, SqT.of (s5 _ _ hg), got z2, by show 2 ≤ sizeLine; decide, fun u hu => ?_⟩
        exact ks true _ (by unfold deed; show Option.map _ (pl f).ac = _; rw [z1]; rfl) _ u (same_tr s5 (same_new hu _)) upd_same
      refine ⟨_, rfl, q, _, _, _, rfl, rfl, SqT.of (s5 _ _ hqt), rfl, _, rfl, pa, _, dxp, _, _, rfl, s5 _ _ e2, T.c_Plan, T.a_Plan_using, lkU, scU, _, rfl, ?_⟩
      refine ite2 (fun z' => ?_) (fun z' => ?_)
      · obtain ⟨z1, z2⟩ := eU.mp z'
        refine ⟨_, rfl, x, dxn, _, rfl, s5 _ _ hx, x, dxn, _, _, rfl, s5 _ _ hx, tr_given, _, rfl, g, _, _, _, rfl, rfl, SqT.of (s5 _ _ hg), got z2, by show 2 ≤ sizeLine; decide, fun u hu => ?_⟩
        exact ks false _ (by unfold deed; show Option.map _ (pl f).ac = _; rw [z1]; rfl) _ u (same_tr s5 (same_new hu _)) upd_same
      · refine ⟨_, _, rfl, s5, fun j s hj hs hn e => ?_⟩
        rcases Nat.lt_or_ge j i with h5 | h5
        · exact hno j s h5 hs hn e
        · obtain rfl : j = i := by omega
          rw [hsl] at hs
          cases hs
          cases q7 : (pl f).ac with
          | none => exact hn q7
          | some bb => cases bb with
            | true => exact z (eS.mpr ⟨q7, e⟩)
            | false => exact z' (eU.mpr ⟨q7, e⟩)
    · rintro σ H2 ⟨v1, v2, rfl, s4, hno⟩
      refine kn ?_ _ s4
      unfold deed
      show Option.map _ (pl f).ac = _
      cases q7 : (pl f).ac with
      | none => rfl
      | some bb =>
        exfalso
        have hn : (pl f).ac ≠ none := by rw [q7]; intro z; cases z
        obtain ⟨s, hs, e⟩ := List.mem_map.mp (hok f hn)
        obtain ⟨j, hj, e3⟩ := List.mem_iff_getElem.mp hs
        refine hno j s ?_ (by rw [List.getElem?_eq_getElem hj, e3]) hn e
        rw [List.length_map, ← paired_len f3]
        exact hj
end
end Jz
end
section
set_option maxHeartbeats 4000000
/-! the points of a deed -/
namespace Jz
open PySem PySem.Spec PyProof.Rows L2 ClX StX
theorem pa_upd {H : Hp} {D a : Addr} {xs ys : List V} {p : Pa} (h : H D = some (.lst xs)) (t : PaAt H p a) : PaAt (upd H D (.lst ys)) p a := by
  unfold PaAt at t ⊢
  rw [upd_ne (fun z => by rw [z, h] at t; cases t)]
  exact t
theorem pt_upd {H : Hp} {D a : Addr} {xs ys : List V} {q : Pt} (h : H D = some (.lst xs)) (t : PtAt H q a) : PtAt (upd H D (.lst ys)) q a := by
  obtain ⟨b, e1, e2⟩ := t
  exact ⟨b, by rw [upd_ne (fun z => by rw [z, h] at e1; cases e1)]; exact e1, pa_upd h e2⟩
theorem pt_new {H : Hp} {u b : Addr} {p : Pa} {x : W} (hu : H u = none) (h : PaAt H p b) : PtAt (upd H u (.tup [.ref b, .str (wn x)])) (p, x) u := ⟨b, upd_same, h.mono (same_new hu _)⟩
theorem su_inj {a b : Bool} : su a = su b ↔ a = b := ⟨fun h => by cases a <;> cases b <;> first | rfl | (exfalso; revert h; decide +kernel), fun h => by rw [h]⟩
theorem sh_inj {a b : Bool} : sh a = sh b ↔ a = b := ⟨fun h => by cases a <;> cases b <;> first | rfl | (exfalso; revert h; decide +kernel), fun h => by rw [h]⟩
theorem shaped2 (s v : Bool) : SeqAt.shaped (.tuple [.str (su s), .str (sh v)]) = true := by
  have h1 : PyData.strOk (su s) = true := by cases s <;> decide +kernel
  have h2 : PyData.strOk (sh v) = true := by cases v <;> decide +kernel
  simp [SeqAt.shaped, PyData.canLay0, PyData.canLayAll0, PyData.depth, PyData.depthAll, h1, h2]
/-- the points at which it is done -/
def ptsOf (pl : Fm → Pd) (t : Tr) (s v : Bool) (ps : List Pa) : List Pt := (ps.filter fun p => decide (dee (inf pl t) p = some (s, v))).map fun p => (p, W.deed)
def spDeeds (K : PySem.W.Frag) : Sp := fun vs H Q _ => ∃ fw x d pl t s v, vs = [.ref fw, .ref x, .ref d] ∧ Fl K H pl fw ∧ PlanOk pl ∧ Tt K H t x ∧ size t ≤ 400 ∧ H d = some (.tup [.str (su s), .str (sh v)]) ∧
  ∀ H' q qs, Same H H' → H' q = some (.tup (rl qs)) → Paired (PtAt H') (ptsOf pl t s v (spots t)) qs → qs.length ≤ 400 → Q (.ref q) H'
theorem spots_at {t : Tr} {i : Nat} (h : i < (spots t).length) : ∃ k, get t (spots t)[i] = some k := by
  have := (mem_spots _ t).mp (List.getElem_mem h)
  exact Option.isSome_iff_exists.mp this
section
variable {P : Program} {w : World} {K : PySem.W.Frag} {mg : Str → Option Value} {base : Heap}
abbrev sDeeds : Stmt := inC 43 5
theorem sc_deeds : FnScope ["self", "tree", "deed", "path"] ["self", "tree", "deed"] (defScope sDeeds) := ⟨rfl, rfl, rfl, by decide +kernel, rfl, by decide +kernel, by decide +kernel⟩
theorem h_deeds (T : Tx K mg) : MF P w K mg base 5 (cA K "Flow") "deeds" ["self", "tree", "deed"] (spDeeds K) := by
  refine mf_of T.h_Flow_deeds T.d_Flow_deeds (fun _ _ _ _ _ _ us hl => match us, hl with | [_, _, _], _ => rfl) fun fd F => F.ok sc_deeds (fun vs H Q E h => ?_) (fun cdv A outer s H vs Q E hr h => ?_)
  · obtain ⟨fw, x, d, pl, t, s, v, rfl, _⟩ := h
    rfl
  · obtain ⟨fw, x, d, pl, t, sb, vb, rfl, hf, hok, ht, hz, hd, k⟩ := h
    have hr3 : Room 3 _ := hr.mono (by decide)
    refine ⟨_, PSs.nox <| pss_one (ps_ret (pe_callTy call_tuple_of (by rfl) T.n_tuple (by decide +kernel) (pa_cons
      (pe_lc (own := [("path", 3)]) (g := gName 3) (tt := tTest (tOp (rEqD K) (tMeth (cA K "Flow") "deed_of" (spDeed K) [] E0 (tVar 0) (tCons (tOp (rIxOwn (cA K "Tree") (spGetT (cA K "Tree")) E0) (tVar 1) (tVar 3)) tNil)) (tVar 2))) (te := tTup (tCons (tVar 3) (tCons (tC (.str "deed")) tNil))) (by rfl) sc_deeds.nd (pi_tup (pe_fld (pv 1) rfl))
        (blkOk_by (own := [("path", 3)]) (N := ["self", "tree", "deed", "path"]) (sc := defScope sDeeds) (by decide +kernel)) (fun _ _ _ _ _ => pg_name (i := 3) sc_deeds.nd rfl (Or.inl rfl))
        (fun _ _ _ _ _ => pts_one (pt_cmpR (op_eqD hr.units) (pe_mf (h_deed T) T.c_Flow hr3 (pv 0) (pa_cons (pe_if (i_getT T) hr (pv 1) (pv 3)) pa_nil)) (pv 2) (nomark _))) (fun _ _ _ _ _ => pe_tup (pa_cons (pv 3) (pa_cons pe_str pa_nil)))) pa_nil))), ?_⟩
    obtain ⟨dx, f, g, bl, sp, tm, e, _, ⟨ps, hps, pps⟩, _⟩ := ht.fld
    obtain ⟨dxw, sa, b, c, kvs, h1, h2, h3, h4⟩ := id hf
    refine ⟨_, rfl, x, _, dx, _, _, rfl, e, T.c_Tree, T.a_Tree_spots, tr_spots, sp, rfl, ⟨_, SqT.of hps⟩, fun D hD => lc_tup (xs := rl ps) (fun i H' => ∃ qs, Acc H D (rl qs) H' ∧ Paired (PtAt H') (ptsOf pl t sb vb ((spots t).take i)) qs) ⟨[], Acc.start hD, .nil⟩ (fun i H' _ ⟨_, A, _⟩ => SqT.of (A.1 _ _ hps)) ?_ ?_⟩
    · rintro i y H1 hy ⟨qs, A, pq⟩
      have hi := (List.getElem?_eq_some_iff.mp hy).1
      rw [List.length_map] at hi
      rw [List.getElem?_map, List.getElem?_eq_getElem hi] at hy
      obtain rfl := Option.some.inj hy
      have hi2 : i < (spots t).length := by rw [paired_len pps]; exact hi
      obtain ⟨kd, hkd⟩ := spots_at hi2
      have hpa : PaAt H1 (spots t)[i] ps[i] := PaAt.mono (paired_get pps hi2 hi) A.1
      have hdee : dee (inf pl t) (spots t)[i] = deed pl kd := by unfold dee inf; rw [hkd]; rfl
      have tk : ∀ bb, decide (dee (inf pl t) (spots t)[i] = some (sb, vb)) = bb → ptsOf pl t sb vb ((spots t).take (i + 1)) = ptsOf pl t sb vb ((spots t).take i) ++ (if bb then [((spots t)[i], W.deed)] else []) := fun bb hb => by
        unfold ptsOf
        rw [← List.take_append_getElem hi2, List.filter_append, List.map_append, List.filter_cons, hb]
        cases bb <;> rfl
      have ql : qs.length ≤ 400 := by
        rw [← paired_len pq]
        unfold ptsOf
        rw [List.length_map]
        refine Nat.le_trans (List.length_filter_le _ _) ?_
        rw [List.length_take]
        exact Nat.le_trans (Nat.min_le_right _ _) hz
      have kN : ∀ H3, Same H1 H3 → decide (dee (inf pl t) (spots t)[i] = some (sb, vb)) = false → ∃ qs, Acc H D (rl qs) H3 ∧ Paired (PtAt H3) (ptsOf pl t sb vb ((spots t).take (i + 1))) qs := fun H3 s3 hb => by
        rw [tk false hb]
        exact ⟨qs, A.same s3, by rw [if_neg (by decide), List.append_nil]; exact Paired.mapP pq fun _ _ z => PtAt.mono z s3⟩
      have kY : ∀ H3, Same H1 H3 → decide (dee (inf pl t) (spots t)[i] = some (sb, vb)) = true → ∀ u, H3 u = none → ∃ acc, (upd H3 u (.tup [.ref ps[i], .str "deed"])) D = some (.lst acc) ∧ acc.length < sizeLine ∧ ∃ qs, Acc H D (rl qs) (upd (upd H3 u (.tup [.ref ps[i], .str "deed"])) D (.lst (acc ++ [.ref u]))) ∧
          Paired (PtAt (upd (upd H3 u (.tup [.ref ps[i], .str "deed"])) D (.lst (acc ++ [.ref u])))) (ptsOf pl t sb vb ((spots t).take (i + 1))) qs := fun H3 s3 hb u hu => by
        have A3 := (A.same s3).new (o := .tup [.ref ps[i], .str "deed"]) hu
        refine ⟨_, A3.at', ?_, qs ++ [u], ?_, ?_⟩
        · rw [List.length_map]; exact Nat.lt_of_le_of_lt ql (by decide)
        · unfold rl; rw [List.map_append]; exact A3.push
        · rw [tk true hb, if_pos rfl]
          exact paired_snoc (Paired.mapP pq fun _ _ z => pt_upd A3.at' (PtAt.mono z (same_tr s3 (same_new hu _)))) (pt_upd A3.at' (pt_new (x := .deed) hu (hpa.mono s3)))
      refine ⟨rfl, _, rfl, fw, dxw, _, rfl, A.1 _ _ h1, (by with_unfolding_all rfl), _, rfl, _, rfl, x, dx, _, rfl, A.1 _ _ e, t, kd, x, ps[i], (spots t)[i], rfl, ht.mono A.1, hpa, hkd, Nat.le_trans hz (by decide), fun H2 y s2 hy => ?_⟩
      refine ⟨fw, y, pl, kd, rfl, hf.mono (same_tr A.1 s2), hok, hy, (fun q H3 s3 => ?_), (fun s' v' q H3 u s3 hu => ?_)⟩
      · have hd3 := same_tr A.1 (same_tr s2 s3) _ _ hd
        refine ⟨_, rfl, .none, .tuple [.str (su sb), .str (sh vb)], .non, .tup (SqT.of hd3) (.cons (.str _) (.cons (.str _) .nil)), rfl, shaped2 _ _, _, rfl, ?_⟩
        exact kN H3 (same_tr s2 s3) (by rw [hdee, q]; exact decide_eq_false (fun z => nomatch z))
      · have hd3 := same_tr A.1 (same_tr s2 s3) _ _ hd
        refine ⟨_, rfl, .tuple [.str (su s'), .str (sh v')], .tuple [.str (su sb), .str (sh vb)], .tup (SqT.of hu) (.cons (.str _) (.cons (.str _) .nil)), .tup (SqT.of hd3) (.cons (.str _) (.cons (.str _) .nil)), shaped2 _ _, shaped2 _ _, _, rfl, ?_⟩
        have ee : PyData.eqv (.tuple [.str (su s'), .str (sh v')]) (.tuple [.str (su sb), .str (sh vb)]) = decide (dee (inf pl t) (spots t)[i] = some (sb, vb)) := by
          rw [hdee, q, Bool.eq_iff_iff, decide_eq_true_iff]
          simp only [PyData.eqv, PyData.eqvAll, Bool.and_true, Bool.and_eq_true, beq_iff_eq, su_inj, sh_inj, Option.some.injEq, Prod.mk.injEq]
        rw [ee]
        refine ite2 (fun z => ?_) (fun z => ?_)
        · exact ⟨_, rfl, by show 2 ≤ sizeLine; decide, fun u2 hu2 => kY H3 (same_tr s2 s3) z u2 hu2⟩
        · exact kN H3 (same_tr s2 s3) (Bool.eq_false_iff.mpr z)
    · rintro H1 ⟨qs, A, pq⟩
      rw [List.length_map, ← paired_len pps, List.take_length] at pq
      refine ⟨D, _, rfl, .inl ⟨SqL.of A.at', fun l hl => k _ l qs (same_tr A.1 (same_new hl _)) upd_same (Paired.mapP pq fun _ _ z => PtAt.mono z (same_new hl _)) ?_⟩⟩
      rw [← paired_len pq]
      unfold ptsOf
      rw [List.length_map]
      exact Nat.le_trans (List.length_filter_le _ _) hz
end
end Jz
end
section
set_option maxHeartbeats 4000000
/-! behind a deed, behind a child -/
namespace Jz
open PySem PySem.Spec PyProof.Rows L2 ClX StX
def rEqE (K : PySem.W.Frag) : R2 := fun x y H Q => ∃ a b xs, x = .ref a ∧ y = .ref b ∧ SqT K H a xs ∧ SqT K H b [] ∧ Q (.bl xs.isEmpty) H
theorem op_eqE {X : Cx} (hu : X.A.units < cLine) : OpR X (compareOp .Eq) (rEqE X.K) := by
  intro pins s σ H x y v u Q I rx ry h
  obtain ⟨a, b, xs, rfl, rfl, ha, hb, q⟩ := h
  obtain rfl : v = Value.ref a := rx
  obtain rfl : u = Value.ref b := ry
  obtain ⟨its, r, p, _⟩ := I.tuple ha
  obtain ⟨its2, r2, p2, _⟩ := I.tuple hb
  cases r2
  refine PySem.SeqAt.RcAt.tuples (e := fun _ => true) (items := its.toArray) (items2 := ([] : List Value).toArray) p p2 hu (fun j h1 h2 => absurd h2 (Nat.not_lt_zero _)) X.prog X.w _ _ ?_
  refine ⟨_, H, I, ?_, q⟩
  show _ = Value.bool _
  cases xs with
  | nil => cases r; rfl
  | cons x xs => cases r; rfl
theorem rCat_pa {K : PySem.W.Frag} {H : Hp} {Q : VK} {p t : Addr} {pa : Pa} {n : Nat} (hp : PaAt H pa p) (ht : H t = some (.tup [.int (n : Int)])) (hl : pa.length ≤ 1000) (k : ∀ H' q, Same H H' → PaAt H' (pa ++ [n]) q → Q (.ref q) H') : rCatA K (.ref p) (.ref t) H Q := by
  refine ⟨p, t, _, _, rfl, rfl, SqT.of hp, SqT.of ht, ?_, (fun z => ?_), (fun _ z => nomatch z), (fun _ _ r hr => ?_)⟩
  · rw [List.length_map, List.length_singleton]
    exact Nat.le_trans (show pa.length + 1 ≤ 1001 by omega) (by decide)
  · have e0 : pa = [] := List.map_eq_nil_iff.mp z
    exact k _ t same_rfl (by rw [e0]; exact ht)
  · exact k _ r (same_new hr _) (by unfold PaAt; rw [upd_same, List.map_append]; rfl)
theorem cutV_take {xs : List V} {c : Nat} (h : c ≤ xs.length) : cutV xs none (some (c : Int)) = xs.take c := by
  unfold cutV
  rw [HT.sIx_none, HT.sIx_nat, List.drop_zero, Nat.sub_zero, Nat.min_eq_left h]
theorem rSl_pa {K : PySem.W.Frag} {H : Hp} {Q : VK} {p : Addr} {pa : Pa} {c : Nat} (hp : PaAt H pa p) (h : c ≤ pa.length) (k : ∀ H' q, Same H H' → PaAt H' (pa.take c) q → Q (.ref q) H') : rSlA K (.ref p) none (some (c : Int)) H Q := by
  refine ⟨p, _, rfl, SqT.of hp, (fun z => ?_), (fun _ r hr => ?_)⟩
  · rw [HT.sIx_nat, List.length_map] at z
    have : c = pa.length := by omega
    exact k _ p same_rfl (by rw [this, List.take_length]; exact hp)
  · exact k _ r (same_new hr _) (by unfold PaAt; rw [upd_same, cutV_take (by rw [List.length_map]; exact h), List.map_take])
/-- the points of L in a new list -/
def Pts (H : Hp) (L : List Pt) (Q : VK) : Prop := ∀ H' l qs, H l = none → Same H H' → H' l = some (.lst (rl qs)) → Paired (PtAt H') L qs → Q (.ref l) H'
def spBehind (K : PySem.W.Frag) : Sp := fun vs H Q _ => ∃ fw x p pl t pa kd, vs = [.ref fw, .ref x, .ref p] ∧ Fl K H pl fw ∧ Tt K H t x ∧ size t ≤ 400 ∧ PaAt H pa p ∧ get t pa = some kd ∧ Pts H (goDeed (inf pl t) pa (pl kd.f).od) Q
theorem pa_len {t k : Tr} {pa : Pa} (h : get t pa = some k) (hz : size t ≤ 400) : pa.length ≤ 400 := by
  have := spot_len pa t ((mem_spots pa t).mpr (by rw [h]; rfl))
  omega
def ofJump (o : Od) : Bool := decide (o = .stop ∨ o = .leave ∨ o = .again)
section
variable {P : Program} {w : World} {K : PySem.W.Frag} {mg : Str → Option Value} {base : Heap}
abbrev sBehind : Stmt := top 45
theorem sc_behind : FnScope ["flow", "tree", "path", "order", "count", "again"] ["flow", "tree", "path"] (defScope sBehind) := ⟨rfl, rfl, rfl, by decide +kernel, rfl, by decide +kernel, by decide +kernel⟩
theorem g_behind (T : Tx K mg) : GF P w K mg base 5 "behind_deed" ["flow", "tree", "path"] (spBehind K) := by
  refine gf_of T.m_behind_deed T.d_behind_deed (fun _ _ _ _ _ _ us hl => match us, hl with | [_, _, _], _ => rfl) fun fd F => F.ok sc_behind (fun vs H Q E h => ?_) (fun cdv A outer s H vs Q E hr h => ?_)
  · obtain ⟨fw, x, p, pl, t, pa, kd, rfl, _⟩ := h
    rfl
  · obtain ⟨fw, x, p, pl, t, pa, kd, rfl, hf, ht, hz, hp, hk, k⟩ := h
    have hr3 : Room 3 _ := hr.mono (by decide)
    refine ⟨_, PSs.nox <| pss_cons (ps_set (i := 3) sc_behind.nd rfl (.inl rfl) (pe_mf (h_order T) T.c_Flow hr3 (pv 0) (pa_cons (pe_if (i_getT T) hr (pv 1) (pv 2)) pa_nil)))
      (pss_cons (ps_if (pt_cmpR op_notIn_seq (pv 3) (pe_tup (pa_cons pe_str (pa_cons pe_str (pa_cons pe_str pa_nil)))) (by rfl)) (pss_one (ps_ret (pe_lst (pa_cons (pe_tup (pa_cons (pv 2) (pa_cons pe_str pa_nil))) pa_nil)))) pss_nil)
      (pss_cons (ps_if (pt_cmpR op_ne (pv 3) pe_str (nomark _)) (pss_one (ps_for PassesOwn.never rfl
          (pi_range3 (by rfl) T.n_range (pa_cons (pe_op op_sub (pe_callB call_len_seq (by rfl) T.n_len PySem.boot_len (pa_cons (pv 2) pa_nil)) pe_int) (pa_cons (pe_un un_neg pe_int) (pa_cons (pe_un un_neg pe_int) pa_nil)))) (pg_name (i := 4) sc_behind.nd rfl (.inl rfl))
          (pss_one (ps_if (pt_cmpR op_eq (pe_mf (h_order T) T.c_Flow hr3 (pv 0) (pa_cons (pe_if (i_getT T) hr (pv 1) (pe_slice sl_tupA (pv 2) po_none (po_some (pv 4)))) pa_nil)) pe_str (nomark _))
            (pss_cons (ps_set (i := 5) sc_behind.nd rfl (.inl rfl) (pe_ifExp (pt_cmpR op_eq (pv 3) pe_str (nomark _)) (pe_lst (pa_cons (pe_tup (pa_cons (pe_op op_catA (pe_slice sl_tupA (pv 2) po_none (po_some (pv 4))) (pe_tup (pa_cons pe_int pa_nil))) (pa_cons pe_str pa_nil))) pa_nil)) (pe_lst pa_nil)))
            (pss_one (ps_ret (pe_lst (pa_cons (pe_tup (pa_cons (pe_slice sl_tupA (pv 2) po_none (po_some (pv 4))) (pa_cons pe_str pa_nil))) (pa_star (pv 5) pa_nil)))))) pss_nil)))) pss_nil)
      (pss_one (ps_ret (pe_lst pa_nil))))), ?_⟩
    obtain ⟨dx, f, g, bl, sp, tm, e, _⟩ := ht.fld
    obtain ⟨dxw, sa, b, c, kvs, h1, h2, h3, h4⟩ := id hf
    have hpl := pa_len hk hz
    -- order = flow.order_of(tree[path])
    refine ⟨_, rfl, fw, dxw, _, rfl, h1, (by with_unfolding_all rfl), _, rfl, _, rfl, x, dx, _, rfl, e, t, kd, x, p, pa, rfl, ht, hp, hk, Nat.le_trans hz (by decide), fun H1 y s1 hy => ⟨fw, y, pl, kd, rfl, hf.mono s1, hy, ?_⟩⟩
    generalize ho : (pl kd.f).od = o at *
    refine ⟨_, rfl, by show 3 ≤ sizeLine; decide, fun t3 ht3 => ⟨t3, _, rfl, .inr (SqT.of upd_same), rfl, rfl, _, rfl, ?_⟩⟩
    have s2 := same_tr s1 (same_new ht3 (.tup [.str "stop", .str "leave", .str "again"]))
    generalize upd H1 t3 (.tup [.str "stop", .str "leave", .str "again"]) = H2 at *
    have eo : (!inV (V.str (odN o)) [.str "stop", .str "leave", .str "again"]) = !ofJump o := by cases o <;> decide +kernel
    rw [if_pos rfl, eo]
    refine ite2 (fun z => ?_) (fun z => ?_)
    · -- [(path, 'out')]
      have hg : goDeed (inf pl t) pa o = [(pa, .out)] := by cases o <;> first | rfl | (exfalso; revert z; decide)
      rw [hg] at k
      refine ⟨_, rfl, by show 2 ≤ sizeLine; decide, fun u hu => ⟨by show 1 ≤ sizeLine; decide, fun l hl => ?_⟩⟩
      exact k _ l [u] ((same_tr s2 (same_new hu _)).free hl) (same_tr s2 (same_tr (same_new hu _) (same_new hl _))) upd_same (.cons (PtAt.mono (pt_new (x := .out) hu (PaAt.mono hp s2)) (same_new hl _)) .nil)
    refine ⟨_, rfl, rfl, _, rfl, ?_⟩
    refine ite2 (fun z2 => ?_) (fun z2 => ?_)
    · -- the loops above
      refine ⟨_, rfl, p, _, rfl, .inr (SqT.of (s2 _ _ hp)), _, _, rfl, rfl, _, rfl, _, rfl, _, _, _, _, rfl, RgC.neg ?_ ?_ (by decide) (by decide), ?_⟩
      · rw [List.length_map]; have : (-(2 : Int) ^ 62) ≤ -1 := by decide
        omega
      · rw [List.length_map]; have : (1000 : Int) < 2 ^ 62 := by decide
        omega
      rw [List.length_map, show (((pa.length : Nat) : Int) - 1 - -1).toNat = pa.length by omega]
      refine for_rangeC (n := pa.length) (fun i σ H' => ∃ v1 v2, σ = [some (.ref fw), some (.ref x), some (.ref p), some (.str (odN o)), v1, v2] ∧ Same H H' ∧ nl (inf pl t) pa = nlc (inf pl t) pa (pa.length - i)) ⟨_, _, rfl, s2, rfl⟩ ?_ ?_
      · rintro i σ H3 hi ⟨v1, v2, rfl, s3, hnl⟩
        obtain ⟨c, hc⟩ : ∃ c, pa.length = c + 1 + i := ⟨pa.length - 1 - i, by omega⟩
        have ec : ((pa.length : Nat) : Int) - 1 + ((i : Nat) : Int) * -1 = ((c : Nat) : Int) := by omega
        rw [ec]
        rw [show pa.length - i = c + 1 by omega, nlc] at hnl
        have hcl : c ≤ pa.length := by omega
        obtain ⟨k2, hk2⟩ : ∃ k2, get t (pa.take c) = some k2 := by
          have := inf_take (P := pl) (t := t) (p := pa) (by rw [inf_get, hk]; rfl) c
          rw [inf_get] at this
          exact Option.isSome_iff_exists.mp this
        have hisl : isL (inf pl t (pa.take c)) = decide ((pl k2.f).od = .loop) := by unfold inf; rw [hk2]; rfl
        refine ⟨_, rfl, fw, dxw, _, rfl, s3 _ _ h1, (by with_unfolding_all rfl), _, rfl, _, rfl, _, rfl, _, rfl, rSl_pa (hp.mono s3) hcl fun H4 q s4 hq => ?_⟩
        have s4' := same_tr s3 s4
        refine ⟨x, dx, _, rfl, s4' _ _ e, t, k2, x, q, pa.take c, rfl, ht.mono s4', hq, hk2, Nat.le_trans hz (by decide), fun H5 y s5 hy => ⟨fw, y, pl, k2, rfl, hf.mono (same_tr s4' s5), hy, rfl, _, rfl, ?_⟩⟩
        have s5' := same_tr s4' s5
        have el : decide (V.str (odN (pl k2.f).od) = V.str "loop") = decide ((pl k2.f).od = .loop) := by cases (pl k2.f).od <;> decide +kernel
        rw [el, ← hisl]
        refine ite2 (fun z3 => ?_) (fun z3 => ?_)
        · rw [if_pos z3] at hnl
          have fin : ∀ (H6 H8 : Hp) (lx u : Addr) (qs : List Addr) (L : List Pt), Same H H6 → H6 lx = some (.lst (rl qs)) → Paired (PtAt H6) L qs → goDeed (inf pl t) pa o = (pa.take c, .deed) :: L → Same H6 H8 → PtAt H8 (pa.take c, .deed) u → ∀ l, H8 l = none → Q (.ref l) (upd H8 l (.lst (rl (u :: qs)))) := fun H6 H8 lx u qs L s6 hlx hL hgo s8 hu l hl => by
            refine k _ l (u :: qs) ((same_tr s6 s8).free hl) (same_tr s6 (same_tr s8 (same_new hl _))) upd_same ?_
            rw [hgo]
            exact .cons (PtAt.mono hu (same_new hl _)) (Paired.mapP hL fun _ _ z => PtAt.mono z (same_tr s8 (same_new hl _)))
          refine ⟨_, rfl, rfl, _, rfl, ?_⟩
          refine ite2 (fun z4 => ?_) (fun z4 => ?_)
          · have hoa : o = .again := by cases o <;> first | rfl | (exfalso; revert z4; decide +kernel)
            refine ⟨_, rfl, _, rfl, _, rfl, rSl_pa (hp.mono s5') hcl fun H6 q6 s6 hq6 => ⟨by show 1 ≤ sizeLine; decide, fun t0 ht0 => ?_⟩⟩
            refine rCat_pa (hq6.mono (same_new ht0 _)) upd_same (by rw [List.length_take]; omega) fun H7 q7 s7 hq7 => ?_
            refine ⟨by show 2 ≤ sizeLine; decide, fun u hu => ⟨by show 1 ≤ sizeLine; decide, fun l1 hl1 => ?_⟩⟩
            have hu1 : PtAt (upd (upd H7 u (.tup [.ref q7, .str "in"])) l1 (.lst [.ref u])) (pa.take c ++ [0], .inn) u := PtAt.mono (pt_new (x := .inn) hu hq7) (same_new hl1 _)
            have s9 : Same H (upd (upd H7 u (.tup [.ref q7, .str "in"])) l1 (.lst [.ref u])) := same_tr s5' (same_tr s6 (same_tr (same_new ht0 _) (same_tr s7 (same_tr (same_new hu _) (same_new hl1 _)))))
            have hgo : goDeed (inf pl t) pa o = (pa.take c, .deed) :: [(pa.take c ++ [0], .inn)] := by rw [hoa]; unfold goDeed; rw [hnl]
            have hl1' : (upd (upd H7 u (.tup [.ref q7, .str "in"])) l1 (.lst [.ref u])) l1 = some (.lst (rl [u])) := upd_same
            generalize upd (upd H7 u (.tup [.ref q7, .str "in"])) l1 (.lst [.ref u]) = H9 at *
            refine ⟨_, rfl, _, rfl, _, rfl, rSl_pa (hp.mono s9) hcl fun H10 q10 s10 hq10 => ⟨by show 2 ≤ sizeLine; decide, fun u2 hu2 => ?_⟩⟩
            have s11 := same_tr s10 (same_new hu2 (.tup [.ref q10, .str "deed"]))
            refine ⟨_, rfl, l1, _, rfl, .inr (SqL.of (s11 _ _ hl1')), by show 2 ≤ sizeLine; decide, fun l hl => ?_⟩
            exact fin H9 _ l1 u2 [u] _ s9 hl1' (.cons hu1 .nil) hgo s11 (pt_new (x := .deed) hu2 hq10) l hl
          · have hol : o = .leave := by
              cases o <;> first | rfl | (exfalso; apply z; decide; done) | (exfalso; revert z2; decide +kernel; done) | (exfalso; apply z4; decide +kernel)
            refine ⟨Nat.zero_le _, fun l1 hl1 => ?_⟩
            have s9 : Same H (upd H5 l1 (.lst [])) := same_tr s5' (same_new hl1 _)
            have hgo : goDeed (inf pl t) pa o = (pa.take c, .deed) :: [] := by rw [hol]; unfold goDeed; rw [hnl]
            have hl1' : (upd H5 l1 (.lst [])) l1 = some (.lst (rl [])) := upd_same
            generalize upd H5 l1 (.lst []) = H9 at *
            refine ⟨_, rfl, _, rfl, _, rfl, rSl_pa (hp.mono s9) hcl fun H10 q10 s10 hq10 => ⟨by show 2 ≤ sizeLine; decide, fun u2 hu2 => ?_⟩⟩
            have s11 := same_tr s10 (same_new hu2 (.tup [.ref q10, .str "deed"]))
            refine ⟨_, rfl, l1, _, rfl, .inr (SqL.of (s11 _ _ hl1')), by show 1 ≤ sizeLine; decide, fun l hl => ?_⟩
            exact fin H9 _ l1 u2 [] _ s9 hl1' .nil hgo s11 (pt_new (x := .deed) hu2 hq10) l hl
        · rw [if_neg z3] at hnl
          exact ⟨_, _, rfl, s5', by rw [show pa.length - (i + 1) = c by omega]; exact hnl⟩
      · rintro σ H3 ⟨v1, v2, rfl, s3, hnl⟩
        rw [Nat.sub_self, nlc] at hnl
        have hg : goDeed (inf pl t) pa o = [] := by
          cases o <;> first | rfl | (exfalso; apply z; decide; done) | (unfold goDeed; rw [hnl]; done)
        rw [hg] at k
        exact ⟨Nat.zero_le _, fun l hl => k _ l [] (s3.free hl) (same_tr s3 (same_new hl _)) upd_same .nil⟩
    · have hg : goDeed (inf pl t) pa o = [] := by
        cases o <;> first | rfl | (exfalso; apply z; decide) | (exfalso; apply z2; decide +kernel)
      rw [hg] at k
      exact ⟨Nat.zero_le _, fun l hl => k _ l [] (s2.free hl) (same_tr s2 (same_new hl _)) upd_same .nil⟩
end
end Jz
end
section
set_option maxHeartbeats 4000000
/-! behind a child, next points -/
namespace Jz
open PySem PySem.Spec PyProof.Rows L2 ClX StX
theorem rSl_last {K : PySem.W.Frag} {H : Hp} {Q : VK} {p : Addr} {u : Pa} {j : Nat} (hp : PaAt H (u ++ [j]) p) (k : ∀ H' q, Same H H' → PaAt H' u q → Q (.ref q) H') : rSlA K (.ref p) none (some (-1)) H Q := by
  have e : HT.sIx ((u ++ [j]).map fun n : Nat => V.int (n : Int)).length ((u ++ [j]).map fun n : Nat => V.int (n : Int)).length (some (-1)) = u.length := by
    simp only [HT.sIx]
    rw [if_pos (by decide), List.length_map, List.length_append, List.length_singleton]
    omega
  refine ⟨p, _, rfl, SqT.of hp, (fun z => ?_), (fun _ r hr => ?_)⟩
  · exfalso
    have z2 := z.2
    rw [e, List.length_map, List.length_append, List.length_singleton] at z2
    omega
  · refine k _ r (same_new hr _) ?_
    unfold PaAt
    rw [upd_same]
    unfold cutV
    rw [e, HT.sIx_none, List.drop_zero, Nat.sub_zero, List.map_append, List.take_left' (by rw [List.length_map])]
theorem pts_one1 {H : Hp} {Q : VK} {x : Pt} (k : Pts H [x] Q) : ∀ H' u, Same H H' → PtAt H' x u → ∀ l, H' l = none → Q (.ref l) (upd H' l (.lst [.ref u])) := fun H' u s hu l hl =>
  k _ l [u] (s.free hl) (same_tr s (same_new hl _)) upd_same (.cons (PtAt.mono hu (same_new hl _)) .nil)
theorem pts_two {H : Hp} {Q : VK} {x y : Pt} (k : Pts H [x, y] Q) : ∀ H' u v, Same H H' → PtAt H' x u → PtAt H' y v → ∀ l, H' l = none → Q (.ref l) (upd H' l (.lst [.ref u, .ref v])) := fun H' u v s hu hv l hl =>
  k _ l [u, v] (s.free hl) (same_tr s (same_new hl _)) upd_same (.cons (PtAt.mono hu (same_new hl _)) (.cons (PtAt.mono hv (same_new hl _)) .nil))
def spNext (K : PySem.W.Frag) (wd : W) : Sp := fun vs H Q _ => ∃ fw x p pl t pa, vs = [.ref fw, .ref x, .ref p] ∧ Fl K H pl fw ∧ Tt K H t x ∧ size t ≤ 400 ∧ PaAt H pa p ∧ (get t pa).isSome = true ∧ Pts H (stp (inf pl t) (pa, wd)) Q
def spNxt (K : PySem.W.Frag) : Sp := fun vs H Q _ => ∃ fw x q pl t pt, vs = [.ref fw, .ref x, .ref q] ∧ Fl K H pl fw ∧ Tt K H t x ∧ size t ≤ 400 ∧ PtAt H pt q ∧ (get t pt.1).isSome = true ∧ Pts H (stp (inf pl t) pt) Q
theorem stp_out {I : Pa → Option In} {u : Pa} {j : Nat} {q q' : In} (h : I (u ++ [j]) = some q) (h' : I u = some q') : stp I (u ++ [j], .out) = goOut u j q'.od q'.n := by
  cases hc : u ++ [j] with
  | nil => simp at hc
  | cons a r =>
    have e1 : (a :: r).dropLast = u := by rw [← hc]; exact List.dropLast_concat
    have e2 : (a :: r).getLast (by simp) = j := by simp [← hc]
    rw [hc] at h
    simp only [stp, h, e1, h', e2]
theorem odN_eq (o o' : Od) : decide (V.str (odN o) = V.str (odN o')) = decide (o = o') := by cases o <;> cases o' <;> decide +kernel
section
variable {P : Program} {w : World} {K : PySem.W.Frag} {mg : Str → Option Value} {base : Heap}
abbrev sBehC : Stmt := top 46
theorem sc_behC : FnScope ["flow", "tree", "path", "above", "number", "order", "count"] ["flow", "tree", "path"] (defScope sBehC) := ⟨rfl, rfl, rfl, by decide +kernel, rfl, by decide +kernel, by decide +kernel⟩
theorem g_behC (T : Tx K mg) : GF P w K mg base 5 "behind_child" ["flow", "tree", "path"] (spNext K .out) := by
  refine gf_of T.m_behind_child T.d_behind_child (fun _ _ _ _ _ _ us hl => match us, hl with | [_, _, _], _ => rfl) fun fd F => F.ok sc_behC (fun vs H Q E h => ?_) (fun cdv A outer s H vs Q E hr h => ?_)
  · obtain ⟨fw, x, p, pl, t, pa, rfl, _⟩ := h
    rfl
  · obtain ⟨fw, x, p, pl, t, pa, rfl, hf, ht, hz, hp, hk, k⟩ := h
    have hr3 : Room 3 _ := hr.mono (by decide)
    have hr2 : Room (1 + 1) _ := hr.mono (by decide)
    refine ⟨_, PSs.nox <| pss_cons (ps_if (pt_cmpR (op_eqE hr.units0) (pv 2) (pe_tup pa_nil) (nomark _)) (pss_one (ps_ret (pe_lst pa_nil))) pss_nil)
      (pss_cons (ps_par (i := 3) (j := 4) (by rfl) sc_behC.nd rfl rfl (by decide) rfl rfl (pa_cons (pe_slice sl_tupA (pv 2) po_none (po_some (pe_un un_neg pe_int))) (pa_cons (pe_ix ix_tup (pv 2) (pe_un un_neg pe_int) (fun _ _ => rfl)) pa_nil)) (by rfl))
      (pss_cons (ps_par (i := 5) (j := 6) (by rfl) sc_behC.nd rfl rfl (by decide) rfl rfl (pa_cons (pe_mf (h_order T) T.c_Flow hr3 (pv 0) (pa_cons (pe_if (i_getT T) hr (pv 1) (pv 3)) pa_nil))
          (pa_cons (pe_callB call_len_seq (by rfl) T.n_len PySem.boot_len (pa_cons (pe_pf (p_children T) T.c_Tree hr2 (pe_if (i_getT T) hr (pv 1) (pv 3))) pa_nil)) pa_nil)) (by rfl))
      (pss_cons (ps_if (PW.pt (pw_and (pt_cmpR op_ne (pv 5) pe_str (nomark _)) (pw_and1 (pt_cmpR op_lt (pv 4) (pe_op op_sub (pv 6) pe_int) (nomark _)))))
          (pss_one (ps_ret (pe_lst (pa_cons (pe_tup (pa_cons (pe_op op_catA (pv 3) (pe_tup (pa_cons (pe_op op_add (pv 4) pe_int) pa_nil))) (pa_cons pe_str pa_nil))) pa_nil)))) pss_nil)
      (pss_one (ps_ret (pe_ifExp (pt_cmpR op_eq (pv 5) pe_str (nomark _)) (pe_lst (pa_cons (pe_tup (pa_cons (pv 3) (pa_cons pe_str pa_nil))) (pa_cons (pe_tup (pa_cons (pe_op op_catA (pv 3) (pe_tup (pa_cons pe_int pa_nil))) (pa_cons pe_str pa_nil))) pa_nil)))
          (pe_lst (pa_cons (pe_tup (pa_cons (pv 3) (pa_cons pe_str pa_nil))) pa_nil)))))))), ?_⟩
    obtain ⟨dx, f, g, bl, sp, tm, e, _⟩ := ht.fld
    obtain ⟨dxw, sa, b, c, kvs, h1, h2, h3, h4⟩ := id hf
    obtain ⟨kd, hkd⟩ := Option.isSome_iff_exists.mp hk
    have hpl := pa_len hkd hz
    refine ⟨_, rfl, Nat.zero_le _, fun e0 he0 => ⟨p, e0, _, rfl, rfl, SqT.of (same_new he0 _ _ _ hp), SqT.of upd_same, _, rfl, ?_⟩⟩
    have s0 := same_new he0 (.tup [])
    generalize upd H e0 (.tup []) = H0 at *
    rcases List.eq_nil_or_concat pa with rfl | ⟨u, j, hcc⟩
    · refine iteT ⟨Nat.zero_le _, fun l hl => k _ l [] (s0.free hl) (same_tr s0 (same_new hl _)) upd_same ?_⟩
      have : stp (inf pl t) ([], .out) = [] := by
        simp only [stp]
        split <;> rfl
      rw [this]
      exact .nil
    rw [List.concat_eq_append] at hcc
    subst hcc
    refine ifN (by rw [List.map_append]; simp) ?_
    rw [List.length_append, List.length_singleton] at hpl
    obtain ⟨ku, hku⟩ : ∃ ku, get t u = some ku := by
      rw [get_append] at hkd
      cases q : get t u with
      | none => rw [q] at hkd; cases hkd
      | some ku => exact ⟨ku, rfl⟩
    have hst : stp (inf pl t) (u ++ [j], .out) = goOut u j (pl ku.f).od ku.ks.length := stp_out (q := ⟨(pl kd.f).od, kd.ks.length, deed pl kd⟩) (q' := ⟨(pl ku.f).od, ku.ks.length, deed pl ku⟩) (by unfold inf; rw [hkd]; rfl) (by unfold inf; rw [hku]; rfl)
    rw [hst] at k
    -- above, number = (path[:-1], path[-1])
    refine ⟨_, rfl, _, rfl, _, rfl, rSl_last (hp.mono s0) fun H1 ua s1 hu => ?_⟩
    have s1' := same_tr s0 s1
    refine ⟨_, rfl, _, rfl, p, _, _, .int (j : Nat), rfl, rfl, SqT.of (s1' _ _ hp), ?_, _, _, rfl, ?_⟩
    · rw [List.map_append]; exact atI_last _ _
    -- order, count = ..
    refine ⟨_, rfl, fw, dxw, _, rfl, s1' _ _ h1, (by with_unfolding_all rfl), _, rfl, _, rfl, x, dx, _, rfl, s1' _ _ e, t, ku, x, ua, u, rfl, ht.mono s1', hu, hku, Nat.le_trans hz (by decide), fun H2 y s2 hy => ⟨fw, y, pl, ku, rfl, hf.mono (same_tr s1' s2), hy, ?_⟩⟩
    have s2' := same_tr s1' s2
    refine ⟨_, rfl, _, rfl, x, dx, _, rfl, s2' _ _ e, t, ku, x, ua, u, rfl, ht.mono s2', hu.mono s2, hku, Nat.le_trans hz (by decide), fun H3 y2 s3 hy2 => ?_⟩
    have s3' := same_tr s2' s3
    cases hy2 with
    | mk hx2 hg2 hr2 hk2 hb2 hl2 hs2 ht2 hc2 =>
    rename_i f2 a2 b2 ks dx2 g2 bl2 sp2 tm2 ps
    refine ⟨y2, dx2, _, rfl, hx2, y2, dx2, _, _, rfl, hx2, tr_below, bl2, _, rfl, .inr (SqT.of hb2), _, _, rfl, ?_⟩
    have hu3 := hu.mono (same_tr s2 s3)
    rw [List.length_map, hl2]
    generalize ho : (pl (Tr.node f2 a2 b2 ks).f).od = o at *
    have en : (Tr.node f2 a2 b2 ks).ks.length = ks.length := rfl
    rw [en] at k
    refine ⟨_, rfl, rfl, _, rfl, ?_⟩
    have e1 : (!decide (V.str (odN o) = V.str "choice")) = !decide (o = .choice) := by rw [← odN_eq o .choice]; rfl
    rw [e1]
    have rest : ¬ (o ≠ .choice ∧ j + 1 < ks.length) → (if o = .loop then [(u, W.deed), (u ++ [0], W.inn)] else [(u, W.deed)]) = goOut u j o ks.length := fun z => by unfold goOut; rw [if_neg z]
    refine (fun (w : ¬ (o ≠ .choice ∧ j + 1 < ks.length) → _) => ite2 (fun z => ?_) (fun z => w (fun z2 => z (by rw [decide_eq_false z2.1]; rfl)))) ?_
    · refine ⟨_, rfl, _, rfl, _, _, rfl, rfl, _, _, rfl, rfl, _, rfl, ?_⟩
      refine ite2 (fun z3 => ?_) (fun z3 => ?_)
      · have z4 := of_decide_eq_true z3
        have hgo : goOut u j o ks.length = [(u ++ [j + 1], .inn)] := by
          unfold goOut
          rw [if_pos ⟨fun q => by rw [q] at z; revert z; decide, by omega⟩]
        rw [hgo] at k
        refine ⟨_, rfl, _, rfl, _, _, rfl, rfl, by show 1 ≤ sizeLine; decide, fun t0 ht0 => ?_⟩
        refine rCat_pa (n := j + 1) (hu3.mono (same_new ht0 _)) upd_same (by omega) fun H4 q s4 hq => ⟨by show 2 ≤ sizeLine; decide, fun v hv => ⟨by show 1 ≤ sizeLine; decide, ?_⟩⟩
        exact pts_one1 k _ v (same_tr s3' (same_tr (same_new ht0 _) (same_tr s4 (same_new hv _)))) (pt_new (x := .inn) hv hq)
      · exact w (fun z5 => z3 (decide_eq_true (by have := z5.2; omega)))
    · intro z
      rw [← rest z] at k
      have e2 : decide (V.str (odN o) = V.str "loop") = decide (o = .loop) := odN_eq o .loop
      refine iteF ⟨_, rfl, rfl, _, rfl, ?_⟩
      rw [e2]
      refine ite2 (fun z2 => ?_) (fun z2 => ?_)
      · rw [if_pos (of_decide_eq_true z2)] at k
        refine ⟨_, rfl, by show 2 ≤ sizeLine; decide, fun v1 hv1 => ?_⟩
        have hu4 := hu3.mono (same_new hv1 (.tup [.ref ua, .str "deed"]))
        refine ⟨_, rfl, by show 1 ≤ sizeLine; decide, fun t0 ht0 => ?_⟩
        refine rCat_pa (n := 0) (hu4.mono (same_new ht0 _)) upd_same (by omega) fun H4 q s4 hq => ⟨by show 2 ≤ sizeLine; decide, fun v hv => ⟨by show 2 ≤ sizeLine; decide, ?_⟩⟩
        have s5 := same_tr (same_new ht0 _) (same_tr s4 (same_new hv (.tup [.ref q, .str "in"])))
        exact pts_two k _ v1 v (same_tr s3' (same_tr (same_new hv1 _) s5)) (PtAt.mono (pt_new (x := .deed) hv1 hu3) s5) (pt_new (x := .inn) hv hq)
      · rw [if_neg (fun q => z2 (decide_eq_true q))] at k
        refine ⟨_, rfl, by show 2 ≤ sizeLine; decide, fun v1 hv1 => ⟨by show 1 ≤ sizeLine; decide, ?_⟩⟩
        exact pts_one1 k _ v1 (same_tr s3' (same_new hv1 _)) (pt_new (x := .deed) hv1 hu3)
end
end Jz
end
section
set_option maxHeartbeats 4000000
/-! next points -/
namespace Jz
open PySem PySem.Spec PyProof.Rows L2 ClX StX
theorem wn_eq (a b : W) : decide (V.str (wn a) = V.str (wn b)) = decide (a = b) := by cases a <;> cases b <;> decide +kernel
section
variable {P : Program} {w : World} {K : PySem.W.Frag} {mg : Str → Option Value} {base : Heap}
abbrev sNext : Stmt := top 44
theorem sc_next : FnScope ["flow", "tree", "point", "path", "word", "node", "count", "order", "number"] ["flow", "tree", "point"] (defScope sNext) := ⟨rfl, rfl, rfl, by decide +kernel, rfl, by decide +kernel, by decide +kernel⟩
theorem g_next (T : Tx K mg) : GF P w K mg base 6 "next_points" ["flow", "tree", "point"] (spNxt K) := by
  refine gf_of T.m_next_points T.d_next_points (fun _ _ _ _ _ _ us hl => match us, hl with | [_, _, _], _ => rfl) fun fd F => F.ok sc_next (fun vs H Q E h => ?_) (fun cdv A outer s H vs Q E hr h => ?_)
  · obtain ⟨fw, x, q, pl, t, pt, rfl, _⟩ := h
    rfl
  · obtain ⟨fw, x, q, pl, t, ⟨pa, wd⟩, rfl, hf, ht, hz, ⟨p, hq, hp⟩, hk, k⟩ := h
    have hr4 : Room (3 + 1) _ := hr.mono (by decide)
    have hr3 : Room 3 _ := hr.mono (by decide)
    have hr2 : Room (1 + 1) _ := hr.mono (by decide)
    refine ⟨_, PSs.nox <| pss_cons (ps_asg (pv 2) (pg_tup rfl (pgs_cons (pg_name (i := 3) sc_next.nd rfl (.inr rfl)) (pgs_cons (pg_name (i := 4) sc_next.nd rfl (.inl rfl)) pgs_nil))))
      (pss_cons (ps_if (pt_cmpR op_eq (pv 4) pe_str (nomark _)) (pss_one (ps_ret (pe_g (g_behind T) hr (pa_cons (pv 0) (pa_cons (pv 1) (pa_cons (pv 3) pa_nil)))))) pss_nil)
      (pss_cons (ps_if (pt_cmpR op_eq (pv 4) pe_str (nomark _)) (pss_one (ps_ret (pe_g (g_behC T) hr (pa_cons (pv 0) (pa_cons (pv 1) (pa_cons (pv 3) pa_nil)))))) pss_nil)
      (pss_cons (ps_set (i := 5) sc_next.nd rfl (.inl rfl) (pe_if (i_getT T) hr4 (pv 1) (pv 3)))
      (pss_cons (ps_par (i := 6) (j := 7) (by rfl) sc_next.nd rfl rfl (by decide) rfl rfl (pa_cons (pe_callB call_len_seq (by rfl) T.n_len PySem.boot_len (pa_cons (pe_pf (p_children T) T.c_Tree hr2 (pv 5)) pa_nil))
          (pa_cons (pe_mf (h_order T) T.c_Flow hr3 (pv 0) (pa_cons (pv 5) pa_nil)) pa_nil)) (by rfl))
      (pss_cons (ps_if (pt_cmpR op_eq (pv 6) pe_int (nomark _)) (pss_one (ps_ret (pe_lst (pa_cons (pe_tup (pa_cons (pv 3) (pa_cons pe_str pa_nil))) pa_nil)))) pss_nil)
      (pss_cons (ps_if (pt_cmpR op_eq (pv 7) pe_str (nomark _)) (pss_one (ps_ret
          (pe_lc (own := [("number", 8)]) (g := gName 8) (te := tTup (tCons (tOp (rCatA K) (tVar 3) (tTup (tCons (tVar 8) tNil))) (tCons (tC (.str "in")) tNil))) (by rfl) sc_next.nd (pi_range1 (by rfl) T.n_range (pa_cons (pv 6) pa_nil))
            (blkOk_by (own := [("number", 8)]) (N := ["flow", "tree", "point", "path", "word", "node", "count", "order", "number"]) (sc := defScope sNext) (by decide +kernel)) (fun _ _ _ _ _ => pg_name (i := 8) sc_next.nd rfl (Or.inl rfl)) (fun _ _ _ _ _ => pts_nil)
            (fun _ _ _ _ _ => pe_tup (pa_cons (pe_op op_catA (pv 3) (pe_tup (pa_cons (pv 8) pa_nil))) (pa_cons pe_str pa_nil)))))) pss_nil)
      (pss_one (ps_ret (pe_ifExp (pt_cmpR op_eq (pv 7) pe_str (nomark _)) (pe_lst (pa_cons (pe_tup (pa_cons (pv 3) (pa_cons pe_str pa_nil))) (pa_cons (pe_tup (pa_cons (pe_op op_catA (pv 3) (pe_tup (pa_cons pe_int pa_nil))) (pa_cons pe_str pa_nil))) pa_nil)))
          (pe_lst (pa_cons (pe_tup (pa_cons (pe_op op_catA (pv 3) (pe_tup (pa_cons pe_int pa_nil))) (pa_cons pe_str pa_nil))) pa_nil))))))))))), ?_⟩
    obtain ⟨kd, hkd⟩ := Option.isSome_iff_exists.mp hk
    have hpl := pa_len hkd hz
    have hI : inf pl t pa = some ⟨(pl kd.f).od, kd.ks.length, deed pl kd⟩ := by unfold inf; rw [hkd]; rfl
    refine ⟨_, rfl, q, _, rfl, SqT.of hq, rfl, _, _, rfl, _, _, rfl, rfl, ?_⟩
    refine ⟨_, rfl, rfl, _, rfl, ?_⟩
    refine ite2 (fun z => ?_) (fun z => ?_)
    · have hw : wd = .deed := of_decide_eq_true ((wn_eq wd .deed).symm.trans z)
      subst hw
      refine ⟨_, rfl, _, rfl, _, rfl, fw, x, p, pl, t, pa, kd, rfl, hf, ht, hz, hp, hkd, ?_⟩
      have : stp (inf pl t) (pa, .deed) = goDeed (inf pl t) pa (pl kd.f).od := by simp only [stp, hI]
      rw [this] at k
      exact k
    refine ⟨_, rfl, rfl, _, rfl, ?_⟩
    refine ite2 (fun z2 => ?_) (fun z2 => ?_)
    · have hw : wd = .out := of_decide_eq_true ((wn_eq wd .out).symm.trans z2)
      subst hw
      exact ⟨_, rfl, _, rfl, _, rfl, fw, x, p, pl, t, pa, rfl, hf, ht, hz, hp, hk, k⟩
    have hw : wd = .inn := by
      cases wd with
      | deed => exact absurd (wn_eq .deed .deed) (fun q => z q)
      | inn => rfl
      | out => exact absurd (wn_eq .out .out) (fun q => z2 q)
    subst hw
    have hst : stp (inf pl t) (pa, .inn) = goIn pa kd.ks.length (pl kd.f).od := by simp only [stp, hI]
    rw [hst] at k
    obtain ⟨dx, f, g, bl, sp, tm, e, _⟩ := ht.fld
    obtain ⟨dxw, sa, b, c, kvs, h1, h2, h3, h4⟩ := id hf
    -- node = tree[path]
    refine ⟨_, rfl, _, rfl, x, dx, _, rfl, e, t, kd, x, p, pa, rfl, ht, hp, hkd, Nat.le_trans hz (by decide), fun H1 y s1 hy => ?_⟩
    cases hy with
    | mk hx2 hg2 hr2' hk2 hb2 hl2 hs2 ht2 hc2 =>
    rename_i f2 a2 b2 ks dx2 g2 bl2 sp2 tm2 ps
    have hy : TrAt (cA K "Tree") H1 (.node f2 a2 b2 ks) y := .mk hx2 hg2 hr2' hk2 hb2 hl2 hs2 ht2 hc2
    refine ⟨_, rfl, y, dx2, _, rfl, hx2, y, dx2, _, _, rfl, hx2, tr_below, bl2, _, rfl, .inr (SqT.of hb2), ?_⟩
    refine ⟨_, rfl, fw, dxw, _, rfl, s1 _ _ h1, (by with_unfolding_all rfl), _, rfl, fw, y, pl, _, rfl, hf.mono s1, hy, _, _, rfl, ?_⟩
    rw [List.length_map, hl2]
    have en : (Tr.node f2 a2 b2 ks).ks.length = ks.length := rfl
    rw [en] at k
    generalize ho : (pl (Tr.node f2 a2 b2 ks).f).od = o at *
    have hkl : ks.length ≤ 400 := by
      have h5 := get_size _ _ _ hkd
      have h6 := size_ks (.node f2 a2 b2 ks)
      rw [en] at h6
      omega
    have hp1 := hp.mono s1
    refine ⟨_, rfl, rfl, _, rfl, ?_⟩
    refine ite2 (fun z3 => ?_) (fun z3 => ?_)
    · have e0 : ks.length = 0 := by have := V.int.inj (of_decide_eq_true z3); omega
      unfold goIn at k
      rw [if_pos e0] at k
      refine ⟨_, rfl, by show 2 ≤ sizeLine; decide, fun v1 hv1 => ⟨by show 1 ≤ sizeLine; decide, ?_⟩⟩
      exact pts_one1 k _ v1 (same_tr s1 (same_new hv1 _)) (pt_new (x := .deed) hv1 hp1)
    have e0 : ¬ ks.length = 0 := fun q => z3 (decide_eq_true (by rw [q]; rfl))
    unfold goIn at k
    rw [if_neg e0] at k
    refine ⟨_, rfl, rfl, _, rfl, ?_⟩
    have e1 : decide (V.str (odN o) = V.str "choice") = decide (o = .choice) := odN_eq o .choice
    have e2 : decide (V.str (odN o) = V.str "loop") = decide (o = .loop) := odN_eq o .loop
    rw [e1]
    refine ite2 (fun z4 => ?_) (fun z4 => ?_)
    · rw [if_pos (of_decide_eq_true z4)] at k
      refine ⟨_, rfl, _, rfl, ?_, ?_, fun D hD => ?_⟩
      · have : (-(2 : Int) ^ 62) ≤ 0 := by decide
        omega
      · have : (1000 : Int) < 2 ^ 62 := by decide
        omega
      rw [Int.toNat_natCast]
      refine lc_range (lo := 0) (n := ks.length) (fun i H' => ∃ qs, Acc H1 D (rl qs) H' ∧ Paired (PtAt H') ((List.range i).map fun i => (pa ++ [i], W.inn)) qs) ⟨[], Acc.start hD, .nil⟩ ?_ ?_
      · rintro i H2 hi ⟨qs, A, pq⟩
        have ql : qs.length = i := by rw [← paired_len pq, List.length_map, List.length_range]
        rw [Int.zero_add]
        refine ⟨rfl, yes1 ⟨_, rfl, _, rfl, by show 1 ≤ sizeLine; decide, fun t0 ht0 => ?_⟩⟩
        have A1 := A.new (o := .tup [.int (i : Nat)]) ht0
        refine rCat_pa (n := i) (hp1.mono A1.1) upd_same (by omega) fun H4 u s4 hu => ⟨by show 2 ≤ sizeLine; decide, fun v hv => ?_⟩
        have A2 := (A1.same s4).new (o := .tup [.ref u, .str "in"]) hv
        refine ⟨_, A2.at', ?_, qs ++ [v], ?_, ?_⟩
        · rw [List.length_map, ql]; exact Nat.lt_of_lt_of_le hi (Nat.le_trans hkl (by decide))
        · unfold rl; rw [List.map_append]; exact A2.push
        · rw [List.range_succ, List.map_append]
          exact paired_snoc (Paired.mapP pq fun _ _ z => pt_upd A2.at' (PtAt.mono z (same_tr (same_new ht0 _) (same_tr s4 (same_new hv _))))) (pt_upd A2.at' (pt_new (x := .inn) hv hu))
      · rintro H2 ⟨qs, A, pq⟩
        exact k _ D qs (s1.free A.2.1) (same_tr s1 A.1) A.at' pq
    rw [if_neg (fun q => z4 (decide_eq_true q))] at k
    refine ⟨_, rfl, rfl, _, rfl, ?_⟩
    rw [e2]
    refine ite2 (fun z5 => ?_) (fun z5 => ?_)
    · rw [if_pos (of_decide_eq_true z5)] at k
      refine ⟨_, rfl, by show 2 ≤ sizeLine; decide, fun v1 hv1 => ?_⟩
      have hu4 := hp1.mono (same_new hv1 (.tup [.ref p, .str "deed"]))
      refine ⟨_, rfl, by show 1 ≤ sizeLine; decide, fun t0 ht0 => ?_⟩
      refine rCat_pa (n := 0) (hu4.mono (same_new ht0 _)) upd_same (by omega) fun H4 q4 s4 hq4 => ⟨by show 2 ≤ sizeLine; decide, fun v hv => ⟨by show 2 ≤ sizeLine; decide, ?_⟩⟩
      have s5 := same_tr (same_new ht0 _) (same_tr s4 (same_new hv (.tup [.ref q4, .str "in"])))
      exact pts_two k _ v1 v (same_tr s1 (same_tr (same_new hv1 _) s5)) (PtAt.mono (pt_new (x := .deed) hv1 hp1) s5) (pt_new (x := .inn) hv hq4)
    · rw [if_neg (fun q => z5 (decide_eq_true q))] at k
      refine ⟨_, rfl, by show 1 ≤ sizeLine; decide, fun t0 ht0 => ?_⟩
      refine rCat_pa (n := 0) (hp1.mono (same_new ht0 _)) upd_same (by omega) fun H4 q4 s4 hq4 => ⟨by show 2 ≤ sizeLine; decide, fun v hv => ⟨by show 1 ≤ sizeLine; decide, ?_⟩⟩
      exact pts_one1 k _ v (same_tr s1 (same_tr (same_new ht0 _) (same_tr s4 (same_new hv _)))) (pt_new (x := .inn) hv hq4)
end
end Jz
end
section
set_option maxHeartbeats 4000000
/-! what is come to -/
namespace Jz
open PySem PySem.Spec PyProof.Rows L2 ClX StX
def rNeL (K : PySem.W.Frag) : R2 := fun x y H Q => ∃ a b xs, x = .ref a ∧ y = .ref b ∧ SqL K H a xs ∧ SqL K H b [] ∧ Q (.bl (!xs.isEmpty)) H
theorem op_neL {X : Cx} (hu : X.A.units < cLine) : OpR X (compareOp .NotEq) (rNeL X.K) := by
  intro pins s σ H x y v u Q I rx ry h
  obtain ⟨a, b, xs, rfl, rfl, ha, hb, q⟩ := h
  obtain rfl : v = Value.ref a := rx
  obtain rfl : u = Value.ref b := ry
  obtain ⟨its, r, p, _⟩ := I.list ha
  obtain ⟨its2, r2, p2, _⟩ := I.list hb
  cases r2
  cases xs with
  | nil =>
    cases r
    refine PySem.SeqAt.RcNeAt.lists (e := fun _ => true) p.isList p2.isList rfl hu (fun j h1 h2 => absurd h2 (Nat.not_lt_zero _)) X.prog X.w _ _ ?_
    exact ⟨.bl false, H, I, rfl, q⟩
  | cons x xs =>
    cases r
    refine PySem.SeqAt.RcNeAt.lists_lengths p.isList p2.isList (by simp) hu X.prog X.w _ _ ?_
    exact ⟨.bl true, H, I, rfl, q⟩
/-! ### dicts of points under changes -/
theorem PD.move {P : Program} {w : World} {H H' : Hp} {d : Addr} {qs : List Pt} (D : PD P w H d qs) (h1 : H' d = H d) (h2 : ∀ a xs, H a = some (.tup xs) → H' a = some (.tup xs)) : PD P w H' d qs := by
  obtain ⟨xs, e, em, hk⟩ := D.ex
  refine ⟨⟨xs, by rw [h1]; exact e, em, fun x hx => ?_⟩, D.sm, D.ln⟩
  obtain ⟨q, ⟨b, e1, e2⟩, e3⟩ := hk x hx
  exact ⟨q, ⟨b, h2 _ _ e1, h2 _ _ e2⟩, e3⟩
theorem PD.at_ {P : Program} {w : World} {H : Hp} {d : Addr} {qs : List Pt} (D : PD P w H d qs) : ∃ φ, H d = some (.ext φ) := let ⟨_, e, _⟩ := D.ex; ⟨_, e⟩
theorem PD.same {P : Program} {w : World} {H H' : Hp} {d : Addr} {qs : List Pt} (D : PD P w H d qs) (s : Same H H') : PD P w H' d qs := by
  obtain ⟨φ, e⟩ := D.at_
  exact D.move (by rw [e]; exact s _ _ e) fun a xs h => s _ _ h
theorem put_keep {P : Program} {w : World} {H H' : Hp} {d : Addr} {qs : List Pt} {q : Pt} (D : PD P w H d qs) (p : PDput P w H d qs q H') {a : Addr} {o : HO} (h : H a = some o) (ho : ∀ φ, o ≠ .ext φ) : H' a = some o := by
  obtain ⟨φ, e⟩ := D.at_
  rw [p.1 a (fun z => by rw [z, e] at h; exact ho φ (Option.some.inj h).symm)]
  exact h
theorem put_pt {P : Program} {w : World} {H H' : Hp} {d a : Addr} {qs : List Pt} {q r : Pt} (D : PD P w H d qs) (p : PDput P w H d qs q H') (h : PtAt H r a) : PtAt H' r a :=
  let ⟨b, e1, e2⟩ := h
  ⟨b, put_keep D p e1 (fun _ z => nomatch z), put_keep D p e2 (fun _ z => nomatch z)⟩
/-- known at d, barred at b, the rest of H0 as it was -/
structure Kn (P : Program) (w : World) (H0 : Hp) (d : Addr) (qs : List Pt) (b : Addr) (bs : List Pt) (H : Hp) : Prop where
  s : Same H0 H
  d0 : H0 d = none
  kd : PD P w H d qs
  kb : PD P w H b bs
  ne : d ≠ b
theorem Kn.same {P : Program} {w : World} {H0 H H' : Hp} {d b : Addr} {qs bs : List Pt} (k : Kn P w H0 d qs b bs H) (s : Same H H') : Kn P w H0 d qs b bs H' := ⟨same_tr k.s s, k.d0, k.kd.same s, k.kb.same s, k.ne⟩
theorem Kn.put {P : Program} {w : World} {H0 H H' : Hp} {d b : Addr} {qs bs : List Pt} {q : Pt} (k : Kn P w H0 d qs b bs H) (p : PDput P w H d qs q H') : Kn P w H0 d (addP qs q) b bs H' :=
  ⟨fun a o e => by rw [p.1 a (ne_of_none e k.d0)]; exact k.s _ _ e, k.d0, p.2, k.kb.move (p.1 b k.ne.symm) (fun a xs h => put_keep k.kd p h (fun _ z => nomatch z)), k.ne⟩
/-- a list that H0 does not know grows -/
theorem Kn.lst {P : Program} {w : World} {H0 H : Hp} {d b f : Addr} {qs bs : List Pt} {xs ys : List V} (k : Kn P w H0 d qs b bs H) (h0 : H0 f = none) (h : H f = some (.lst xs)) : Kn P w H0 d qs b bs (upd H f (.lst ys)) := by
  have up : ∀ {a : Addr} {o : HO}, H a = some o → (∀ zs, o ≠ .lst zs) → upd H f (.lst ys) a = some o := fun {a o} e ho => by
    rw [upd_ne (fun z => by rw [z, h] at e; exact ho xs (Option.some.inj e).symm)]
    exact e
  obtain ⟨φ, e⟩ := k.kd.at_
  obtain ⟨ψ, e2⟩ := k.kb.at_
  exact ⟨fun a o e => by rw [upd_ne (ne_of_none e h0)]; exact k.s _ _ e, k.d0, k.kd.move (by rw [up e (fun _ z => nomatch z), e]) (fun a xs h => up h (fun _ z => nomatch z)), k.kb.move (by rw [up e2 (fun _ z => nomatch z), e2]) (fun a xs h => up h (fun _ z => nomatch z)), k.ne⟩
/-! ### how many points there are -/
def allPts (t : Tr) : List Pt := (spots t).flatMap fun p => [(p, W.deed), (p, W.inn), (p, W.out)]
theorem allPts_len (t : Tr) : (allPts t).length = 3 * size t := by
  unfold allPts size
  induction spots t with
  | nil => rfl
  | cons p r ih => rw [List.flatMap_cons, List.length_append, ih, List.length_cons]; simp only [List.length_cons, List.length_nil]; omega
theorem mem_allPts {t : Tr} {q : Pt} (h : (get t q.1).isSome = true) : q ∈ allPts t := by
  obtain ⟨p, w⟩ := q
  exact List.mem_flatMap.mpr ⟨p, (mem_spots p t).mpr h, by cases w <;> simp⟩
theorem nodup_le {α : Type} [DecidableEq α] : ∀ {l m : List α}, l.Nodup → (∀ x ∈ l, x ∈ m) → l.length ≤ m.length
  | [], m, _, _ => Nat.zero_le _
  | x :: r, m, hn, hs => by
    obtain ⟨h1, h2⟩ := List.nodup_cons.mp hn
    have hx : x ∈ m := hs x List.mem_cons_self
    have := nodup_le (l := r) (m := m.erase x) h2 fun y hy => (List.mem_erase_of_ne (fun z : y = x => h1 (by rw [← z]; exact hy))).mpr (hs y (List.mem_cons_of_mem _ hy))
    rw [List.length_erase_of_mem hx] at this
    have h3 : 0 < m.length := List.length_pos_of_mem hx
    rw [List.length_cons]
    omega
/-- all that is known is rightly known -/
structure Snd (I : Pa → Option In) (t : Tr) (bs : List Pt) (st : Pt) (qs : List Pt) : Prop where
  nd : qs.Nodup
  ok : ∀ q ∈ qs, Rch (stp I) (· ∈ bs) st q ∧ (get t q.1).isSome = true
theorem Snd.len {I : Pa → Option In} {t : Tr} {bs : List Pt} {st : Pt} {qs : List Pt} (s : Snd I t bs st qs) (hz : size t ≤ 400) : qs.length ≤ 1200 := by
  have := nodup_le s.nd fun q hq => mem_allPts (s.ok q hq).2
  rw [allPts_len] at this
  omega
/-- what must still be looked at, or is done -/
abbrev Opn (bs : List Pt) (st : Pt) (qs : List Pt) (q : Pt) : Prop := q = st ∨ (q ∈ qs ∧ q ∉ bs)
theorem Snd.done {I : Pa → Option In} {t : Tr} {bs : List Pt} {st : Pt} {qs : List Pt} (s : Snd I t bs st qs) (h : ∀ q, Opn bs st qs q → ∀ r ∈ stp I q, r ∈ qs) (q : Pt) : q ∈ qs ↔ Rch (stp I) (· ∈ bs) st q := by
  refine ⟨fun hq => (s.ok q hq).1, fun hq => ?_⟩
  induction hq with
  | first h1 => exact h st (.inl rfl) _ h1
  | step _ hb h1 ih => exact h _ (.inr ⟨ih, hb⟩) _ h1
theorem mem_addP {qs : List Pt} {q r : Pt} : r ∈ addP qs q ↔ r ∈ qs ∨ r = q := by
  unfold addP
  split
  · rename_i h
    exact ⟨.inl, fun z => z.elim id fun e => by rw [e]; exact h⟩
  · rw [List.mem_append, List.mem_singleton]
theorem addP_len {qs : List Pt} {q : Pt} : (addP qs q).length ≤ qs.length + 1 := by
  unfold addP
  split
  · omega
  · rw [List.length_append, List.length_singleton]; exact Nat.le_refl _
/-- how it stands within a turn: qs0 what was known, L the layer, D what of it is not looked at, c with the first j of its next points is being looked at -/
structure Wk (I : Pa → Option In) (t : Tr) (bs : List Pt) (st : Pt) (qs0 D : List Pt) (c : Option (Pt × Nat)) (qs F : List Pt) : Prop where
  snd : Snd I t bs st qs
  fs : ∀ q ∈ F, q ∈ qs ∧ q ∉ bs
  cl : ∀ q, Opn bs st qs q → q ∈ D ∨ q ∈ F ∨ (∀ r ∈ stp I q, r ∈ qs) ∨ ∃ j, c = some (q, j) ∧ ∀ r ∈ (stp I q).take j, r ∈ qs
  g1 : qs0.length ≤ qs.length
  g2 : F ≠ [] → qs0.length < qs.length
  fl : F.length ≤ qs.length
theorem Wk.add {I : Pa → Option In} {t : Tr} {bs : List Pt} {st : Pt} {qs0 D : List Pt} {c r : Pt} {j : Nat} {qs F : List Pt} (k : Wk I t bs st qs0 D (some (c, j)) qs F) (hr : (stp I c)[j]? = some r) (hc : Rch (stp I) (· ∈ bs) st r) (hv : (get t r.1).isSome = true) (hn : r ∉ qs) :
    (r ∉ bs → Wk I t bs st qs0 D (some (c, j + 1)) (addP qs r) (F ++ [r])) ∧ (r ∈ bs → Wk I t bs st qs0 D (some (c, j + 1)) (addP qs r) F) := by
  have el : (addP qs r).length = qs.length + 1 := by unfold addP; rw [if_neg hn, List.length_append, List.length_singleton]
  have sn : Snd I t bs st (addP qs r) := by
    refine ⟨?_, fun q hq => ?_⟩
    · unfold addP
      rw [if_neg hn]
      exact List.nodup_append.mpr ⟨k.snd.nd, List.nodup_cons.mpr ⟨List.not_mem_nil, List.nodup_nil⟩, fun a ha b hb e => hn (by rw [List.mem_singleton.mp hb] at e; rw [← e]; exact ha)⟩
    · rcases mem_addP.mp hq with h | h
      · exact k.snd.ok q h
      · rw [h]; exact ⟨hc, hv⟩
  have tk : (stp I c).take (j + 1) = (stp I c).take j ++ [r] := by
    obtain ⟨h1, h2⟩ := List.getElem?_eq_some_iff.mp hr
    rw [← h2, List.take_append_getElem h1]
  have cl' : ∀ q, Opn bs st (addP qs r) q → q ∈ D ∨ q ∈ F ∨ (∀ r' ∈ stp I q, r' ∈ addP qs r) ∨ (∃ i, some (c, j + 1) = some (q, i) ∧ ∀ r' ∈ (stp I q).take i, r' ∈ addP qs r) ∨ (q = r ∧ r ∉ bs) := fun q hq => by
    have old : Opn bs st qs q → q ∈ D ∨ q ∈ F ∨ (∀ r' ∈ stp I q, r' ∈ addP qs r) ∨ (∃ i, some (c, j + 1) = some (q, i) ∧ ∀ r' ∈ (stp I q).take i, r' ∈ addP qs r) ∨ (q = r ∧ r ∉ bs) := fun h => by
      rcases k.cl q h with h | h | h | ⟨i, e, h⟩
      · exact .inl h
      · exact .inr (.inl h)
      · exact .inr (.inr (.inl fun r' hr' => mem_addP.mpr (.inl (h r' hr'))))
      · obtain ⟨rfl, rfl⟩ := Prod.mk.inj (Option.some.inj e)
        refine .inr (.inr (.inr (.inl ⟨_, rfl, fun r' hr' => ?_⟩)))
        rw [tk] at hr'
        rcases List.mem_append.mp hr' with h2 | h2
        · exact mem_addP.mpr (.inl (h r' h2))
        · exact mem_addP.mpr (.inr (List.mem_singleton.mp h2))
    rcases hq with h | ⟨h, hb⟩
    · exact old (.inl h)
    · rcases mem_addP.mp h with h2 | h2
      · exact old (.inr ⟨h2, hb⟩)
      · exact .inr (.inr (.inr (.inr ⟨h2, by rw [← h2]; exact hb⟩)))
  have g1 := k.g1
  have fl := k.fl
  refine ⟨fun hb => ⟨sn, fun q hq => ?_, fun q hq => ?_, by omega, fun _ => by omega, by rw [List.length_append, List.length_singleton]; omega⟩, fun hb => ⟨sn, fun q hq => ?_, fun q hq => ?_, by omega, fun _ => by omega, by omega⟩⟩
  · rcases List.mem_append.mp hq with h | h
    · exact ⟨mem_addP.mpr (.inl (k.fs q h).1), (k.fs q h).2⟩
    · rw [List.mem_singleton.mp h]; exact ⟨mem_addP.mpr (.inr rfl), hb⟩
  · rcases cl' q hq with h | h | h | h | ⟨h, _⟩
    · exact .inl h
    · exact .inr (.inl (List.mem_append_left _ h))
    · exact .inr (.inr (.inl h))
    · exact .inr (.inr (.inr h))
    · exact .inr (.inl (List.mem_append_right _ (List.mem_singleton.mpr h)))
  · exact ⟨mem_addP.mpr (.inl (k.fs q hq).1), (k.fs q hq).2⟩
  · rcases cl' q hq with h | h | h | h | ⟨_, h⟩
    · exact .inl h
    · exact .inr (.inl h)
    · exact .inr (.inr (.inl h))
    · exact .inr (.inr (.inr h))
    · exact absurd hb h
theorem Wk.skip {I : Pa → Option In} {t : Tr} {bs : List Pt} {st : Pt} {qs0 D : List Pt} {c r : Pt} {j : Nat} {qs F : List Pt} (k : Wk I t bs st qs0 D (some (c, j)) qs F) (hr : (stp I c)[j]? = some r) (hn : r ∈ qs) : Wk I t bs st qs0 D (some (c, j + 1)) qs F := by
  refine ⟨k.snd, k.fs, fun q hq => ?_, k.g1, k.g2, k.fl⟩
  rcases k.cl q hq with h | h | h | ⟨i, e, h⟩
  · exact .inl h
  · exact .inr (.inl h)
  · exact .inr (.inr (.inl h))
  · obtain ⟨rfl, rfl⟩ := Prod.mk.inj (Option.some.inj e)
    refine .inr (.inr (.inr ⟨_, rfl, fun r' hr' => ?_⟩))
    obtain ⟨h1, h2⟩ := List.getElem?_eq_some_iff.mp hr
    rw [← List.take_append_getElem h1, h2] at hr'
    rcases List.mem_append.mp hr' with h3 | h3
    · exact h r' h3
    · rw [List.mem_singleton.mp h3]; exact hn
theorem Wk.next {I : Pa → Option In} {t : Tr} {bs : List Pt} {st : Pt} {qs0 L : List Pt} {i : Nat} {c : Pt} {qs F : List Pt} (k : Wk I t bs st qs0 (L.drop i) none qs F) (hc : L[i]? = some c) : Wk I t bs st qs0 (L.drop (i + 1)) (some (c, 0)) qs F := by
  refine ⟨k.snd, k.fs, fun q hq => ?_, k.g1, k.g2, k.fl⟩
  rcases k.cl q hq with h | h | h | ⟨j, e, h⟩
  · obtain ⟨h1, h2⟩ := List.getElem?_eq_some_iff.mp hc
    rw [List.drop_eq_getElem_cons h1, h2] at h
    rcases List.mem_cons.mp h with h | h
    · exact .inr (.inr (.inr ⟨0, by rw [h], fun r hr => by simp at hr⟩))
    · exact .inl h
  · exact .inr (.inl h)
  · exact .inr (.inr (.inl h))
  · cases e
theorem Wk.fin {I : Pa → Option In} {t : Tr} {bs : List Pt} {st : Pt} {qs0 D : List Pt} {c : Pt} {qs F : List Pt} (k : Wk I t bs st qs0 D (some (c, (stp I c).length)) qs F) : Wk I t bs st qs0 D none qs F := by
  refine ⟨k.snd, k.fs, fun q hq => ?_, k.g1, k.g2, k.fl⟩
  rcases k.cl q hq with h | h | h | ⟨j, e, h⟩
  · exact .inl h
  · exact .inr (.inl h)
  · exact .inr (.inr (.inl h))
  · obtain ⟨rfl, rfl⟩ := Prod.mk.inj (Option.some.inj e)
    rw [List.take_length] at h
    exact .inr (.inr (.inl h))
def spCome (P : Program) (w : World) (K : PySem.W.Frag) : Sp := fun vs H Q _ => ∃ fw x s av pl t st bs as, vs = [.ref fw, .ref x, .ref s, .ref av] ∧ Fl K H pl fw ∧ Tt K H t x ∧ size t ≤ 400 ∧ PtAt H st s ∧ (get t st.1).isSome = true ∧ H av = some (.tup (rl as)) ∧ Paired (PtAt H) bs as ∧ as.length ≤ 1000 ∧
  ∀ H' d qs, H d = none → Same H H' → PD P w H' d qs → (∀ q, q ∈ qs ↔ Rch (stp (inf pl t)) (· ∈ bs) st q) → Q (.ref d) H'
section
variable {P : Program} {w : World} {K : PySem.W.Frag} {mg : Str → Option Value} {base : Heap}
abbrev sCome : Stmt := top 47
theorem sc_come : FnScope ["flow", "tree", "start", "avoid", "point", "known", "layer", "barred", "further", "later"] ["flow", "tree", "start", "avoid"] (defScope sCome) := ⟨rfl, rfl, rfl, by decide +kernel, rfl, by decide +kernel, by decide +kernel⟩
theorem g_come (T : Tx K mg) : GF P w K mg base 7 "come_to" ["flow", "tree", "start", "avoid"] (spCome P w K) := by
  refine gf_of T.m_come_to T.d_come_to (fun _ _ _ _ _ _ us hl => match us, hl with | [_, _, _, _], _ => rfl) fun fd F => F.ok sc_come (fun vs H Q E h => ?_) (fun cdv A outer s H vs Q E hr h => ?_)
  · obtain ⟨fw, x, s, av, pl, t, st, bs, as, rfl, _⟩ := h
    rfl
  · obtain ⟨fw, x, sa, av, pl, t, st, bs, as, rfl, hfw, ht, hz, hst, hstv, hav, hbs, hal, k⟩ := h
    refine ⟨_, PSs.nox <| pss_cons (ps_par3 (i := 5) (j := 6) (l := 7) (by rfl) sc_come.nd rfl rfl rfl (by decide) (by decide) (by decide) rfl rfl rfl
        (pa_cons pe_dnewP (pa_cons (pe_lst (pa_cons (pv 2) pa_nil)) (pa_cons (pe_dcP (own := [("point", 4)]) (g := gName 4) (tk := tVar 4) (tv := tC (.bl true)) hr.units (by rfl) sc_come.nd (pi_tup (pv 3))
          (blkOk_by (own := [("point", 4)]) (N := ["flow", "tree", "start", "avoid", "point", "known", "layer", "barred", "further", "later"]) (sc := defScope sCome) (by decide +kernel)) (fun _ _ _ _ _ => pg_name (i := 4) sc_come.nd rfl (Or.inl rfl)) (fun _ _ _ _ _ => pts_nil) (fun _ _ _ _ _ => pv 4) (fun _ _ _ _ _ => pe_bl)) pa_nil))) (by rfl))
      (pss_cons (ps_while PassesOwn.never (pt_cmpR (op_neL hr.units0) (pv 6) (pe_lst pa_nil) (nomark _))
        (pss_cons (ps_set (i := 8) sc_come.nd rfl (.inl rfl) (pe_lst pa_nil))
        (pss_cons (ps_for PassesOwn.never rfl (pi_list (pv 6)) (pg_name (i := 4) sc_come.nd rfl (.inl rfl))
          (pss_one (ps_for PassesOwn.never rfl (pi_list (pe_g (g_next T) hr (pa_cons (pv 0) (pa_cons (pv 1) (pa_cons (pv 4) pa_nil))))) (pg_name (i := 9) sc_come.nd rfl (.inl rfl))
            (pss_one (ps_if (pt_cmpR (op_notInP hr.units) (pv 9) (pv 5) (by rfl))
              (pss_cons (ps_asg (pv 4) (pg_sub (pv 5) (pv 9) (set_p hr.units)))
              (pss_one (ps_if (pt_cmpR (op_notInP hr.units) (pv 9) (pv 7) (by rfl)) (pss_one (ps_expr (pe_app (pv 8) (pv 9)))) pss_nil))) pss_nil)))))
        (pss_one (ps_set (i := 6) sc_come.nd rfl (.inl rfl) (pv 8))))))
      (pss_one (ps_ret (pv 5)))), ?_⟩
    intro d H1 hd h1 pd1
    refine ⟨_, rfl, by show 1 ≤ sizeLine; decide, fun l hl => ?_⟩
    have s1 : Same H H1 := fun a o e => by rw [h1 a (ne_of_none e hd)]; exact e
    have s2 := same_tr s1 (same_new hl (.lst [.ref sa]))
    have pd2 := pd1.same (same_new hl (.lst [.ref sa]))
    have hl2 : (upd H1 l (.lst [.ref sa])) l = some (.lst [.ref sa]) := upd_same
    generalize upd H1 l (.lst [.ref sa]) = H2 at *
    refine ⟨_, rfl, av, rfl, ⟨_, SqT.of (s2 _ _ hav)⟩, fun b H3 hb h3 pd3 => dcP_tup (xs := rl as) (fun i H' => ∃ bq, Same H2 H' ∧ PD P w H' b bq ∧ bq.length ≤ i ∧ ∀ q, q ∈ bq ↔ q ∈ bs.take i) ⟨[], fun a o e => by rw [h3 a (ne_of_none e hb)]; exact e, pd3, Nat.le_refl _, fun q => by simp⟩ (fun i H' _ ⟨_, s', _⟩ => SqT.of (s' _ _ (s2 _ _ hav))) ?_ ?_⟩
    · rintro i y H4 hy ⟨bq, s4, pd4, hbl, hbm⟩
      have hi := (List.getElem?_eq_some_iff.mp hy).1
      rw [List.length_map] at hi
      rw [List.getElem?_map, List.getElem?_eq_getElem hi] at hy
      obtain rfl := Option.some.inj hy
      have hi2 : i < bs.length := by rw [paired_len hbs]; exact hi
      have hpt : PtAt H4 bs[i] as[i] := PtAt.mono (paired_get hbs hi2 hi) (same_tr s2 s4)
      refine ⟨rfl, yes1 ⟨_, rfl, as[i], bs[i], bq, rfl, hpt, pd4, ?_, fun H5 p5 => ?_⟩⟩
      · exact Nat.lt_of_le_of_lt (show bq.length ≤ 1000 by omega) (by decide)
      · refine ⟨_, fun a o e => ?_, p5.2, ?_, fun q => ?_⟩
        · rw [p5.1 a (ne_of_none e hb)]; exact s4 _ _ e
        · exact Nat.le_trans addP_len (by omega)
        · rw [mem_addP, hbm, ← List.take_append_getElem hi2, List.mem_append, List.mem_singleton]
    rintro H4 ⟨bq, s4, pd4, _, hbm⟩
    rw [List.length_map, ← paired_len hbs, List.take_length] at hbm
    have ndb : d ≠ b := fun z => by
      obtain ⟨φ, e⟩ := pd2.at_
      rw [z, hb] at e; cases e
    have kn4 : Kn P w H d [] b bq H4 := ⟨same_tr s2 s4, hd, pd2.same s4, pd4, ndb⟩
    have hl4 := s4 _ _ hl2
    have hst4 := PtAt.mono hst kn4.s
    refine ⟨_, _, _, rfl, fun m σ H' => ∃ v4 l ls L qs v8 v9, σ = [some (.ref fw), some (.ref x), some (.ref sa), some (.ref av), v4, some (.ref d), some (.ref l), some (.ref b), v8, v9] ∧ Kn P w H d qs b bq H' ∧ H' l = some (.lst (rl ls)) ∧ Paired (PtAt H') L ls ∧
        Wk (inf pl t) t bs st [] L none qs [] ∧ (∀ q ∈ L, Opn bs st qs q ∧ (get t q.1).isSome = true) ∧ m = (1200 - qs.length) + (if L = [] then 0 else 1),
      ⟨_, none, l, [sa], [st], [], none, none, rfl, kn4, hl4, .cons hst4 .nil, ⟨⟨List.nodup_nil, (fun q h => nomatch h)⟩, (fun q h => nomatch h), fun q h => ?_, Nat.le_refl _, fun h => absurd rfl h, Nat.le_refl _⟩, fun q h => ?_, rfl⟩, ?_⟩
    · rcases h with h | h
      · exact .inl (List.mem_singleton.mpr h)
      · cases h.1
    · rw [List.mem_singleton.mp h]; exact ⟨.inl rfl, hstv⟩
    rintro m σ H5 ⟨v4, l, ls, L, qs, v8, v9, rfl, kn, hl5, hL, wk, hop, rfl⟩
    refine ⟨_, rfl, Nat.zero_le _, fun e0 he0 => ⟨l, e0, _, rfl, rfl, SqL.of (same_new he0 _ _ _ hl5), SqL.of upd_same, _, rfl, ?_⟩⟩
    have se := same_new he0 (.lst [])
    have kn6 := kn.same se
    have hl6 := se _ _ hl5
    have hL6 := Paired.mapP hL fun _ _ z => PtAt.mono z se
    generalize upd H5 e0 (.lst []) = H6 at *
    refine ite2 (fun z => ?pos) (fun z => ?neg)
    case neg =>
      have eL : L = [] := by
        cases ls with
        | nil => exact List.eq_nil_of_length_eq_zero (paired_len hL)
        | cons a r => exact absurd rfl z
      subst eL
      refine ⟨_, rfl, k H6 d qs kn6.d0 kn6.s kn6.kd (wk.snd.done fun q hq => ?_)⟩
      rcases wk.cl q hq with h | h | h | ⟨j, e, _⟩
      · cases h
      · cases h
      · exact h
      · cases e
    case pos =>
      -- further = []
      have nL : L ≠ [] := fun e => by
        subst e
        cases hL
        cases z
      refine ⟨_, fun σ' H' h => h, Nat.zero_le _, fun f hf => ?_⟩
      have sf := same_new hf (.lst [])
      have kn7 := kn6.same sf
      have hl7 := sf _ _ hl6
      have hL7 := Paired.mapP hL6 fun _ _ z => PtAt.mono z sf
      have nlf : l ≠ f := ne_of_none hl6 hf
      have hf0 : H f = none := kn6.s.free hf
      have hf7 : (upd H6 f (.lst [])) f = some (.lst (rl [])) := upd_same
      generalize upd H6 f (.lst []) = H7 at *
      refine ⟨_, rfl, l, rfl, ⟨_, SqL.of hl7⟩, for_list (xs := rl ls) (fun i σ H' => ∃ v4 v9 qs' F fs, σ = [some (.ref fw), some (.ref x), some (.ref sa), some (.ref av), v4, some (.ref d), some (.ref l), some (.ref b), some (.ref f), v9] ∧ Kn P w H d qs' b bq H' ∧ H' l = some (.lst (rl ls)) ∧ H' f = some (.lst (rl fs)) ∧
          Paired (PtAt H') L ls ∧ Paired (PtAt H') F fs ∧ Wk (inf pl t) t bs st qs (L.drop i) none qs' F) ⟨_, _, qs, [], [], rfl, kn7, hl7, hf7, hL7, .nil, ⟨wk.snd, (fun q h => nomatch h), fun q h => ?_, Nat.le_refl _, fun h => absurd rfl h, Nat.zero_le _⟩⟩ (fun i σ H' _ ⟨_, _, _, _, _, _, _, q, _⟩ => SqL.of q) ?_ ?_⟩
      · rcases wk.cl q h with h | h | h | ⟨j, e, _⟩
        · exact .inl h
        · cases h
        · exact .inr (.inr (.inl h))
        · cases e
      · rintro i y σ H8 hy ⟨v4, v9, qs', F, fs, rfl, kn8, hl8, hf8, hL8, hF8, wk8⟩
        rw [List.getElem?_map] at hy
        obtain ⟨ca, hca, rfl⟩ := Option.map_eq_some_iff.mp hy
        obtain ⟨c, hc, hpc⟩ := paired_ex hL8 hca
        obtain ⟨hopc, hvc⟩ := hop c (List.mem_of_getElem? hc)
        refine ⟨_, rfl, _, rfl, _, rfl, fw, x, ca, pl, t, c, rfl, hfw.mono kn8.s, ht.mono kn8.s, hz, hpc, hvc, fun H9 l2 rs hn2 s9 hl9 hrs => ?_⟩
        have n2d : l2 ≠ d := fun z => by
          obtain ⟨φ, e⟩ := kn8.kd.at_
          rw [z, e] at hn2; cases hn2
        have n2f : l2 ≠ f := fun z => by rw [z, hf8] at hn2; cases hn2
        refine ⟨l2, rfl, ⟨_, SqL.of hl9⟩, for_list (xs := rl rs) (fun j σ H' => ∃ v9 qs' F fs, σ = [some (.ref fw), some (.ref x), some (.ref sa), some (.ref av), some (.ref ca), some (.ref d), some (.ref l), some (.ref b), some (.ref f), v9] ∧ Kn P w H d qs' b bq H' ∧ H' l = some (.lst (rl ls)) ∧ H' f = some (.lst (rl fs)) ∧
            H' l2 = some (.lst (rl rs)) ∧ Paired (PtAt H') L ls ∧ Paired (PtAt H') F fs ∧ Paired (PtAt H') (stp (inf pl t) c) rs ∧ Wk (inf pl t) t bs st qs (L.drop (i + 1)) (some (c, j)) qs' F) ⟨_, qs', F, fs, rfl, kn8.same s9, s9 _ _ hl8, s9 _ _ hf8, hl9, Paired.mapP hL8 fun _ _ z => PtAt.mono z s9, Paired.mapP hF8 fun _ _ z => PtAt.mono z s9, hrs, wk8.next hc⟩ (fun j σ H' _ ⟨_, _, _, _, _, _, _, _, q, _⟩ => SqL.of q) ?_ ?_⟩
        · rintro j y2 σ H10 hy2 ⟨v9, qs1, F1, fs1, rfl, kn10, hl10, hf10, hr10, hL10, hF10, hR10, wk10⟩
          rw [List.getElem?_map] at hy2
          obtain ⟨ra, hra, rfl⟩ := Option.map_eq_some_iff.mp hy2
          obtain ⟨r, hr0, hpr⟩ := paired_ex hR10 hra
          have hrm : r ∈ stp (inf pl t) c := List.mem_of_getElem? hr0
          have hvr : (get t r.1).isSome = true := by
            have := stp_valid hrm
            rw [inf_get] at this
            exact this
          have hrc : Rch (stp (inf pl t)) (· ∈ bs) st r := by
            rcases hopc with e | ⟨e1, e2⟩
            · rw [e] at hrm; exact .first hrm
            · exact .step (wk.snd.ok c e1).1 e2 hrm
          refine ⟨_, rfl, _, rfl, ra, d, r, qs1, rfl, rfl, hpr, kn10.kd, _, rfl, ?_⟩
          refine ite2 (fun z1 => ?_) (fun z1 => ?_)
          · have hn : r ∉ qs1 := fun h => by rw [decide_eq_true h] at z1; cases z1
            have hq12 := wk10.snd.len hz
            refine ⟨_, rfl, _, rfl, _, rfl, d, ra, r, qs1, rfl, rfl, hpr, kn10.kd, Nat.lt_of_le_of_lt hq12 (by decide), fun H11 p11 => ?_⟩
            have kn11 := kn10.put p11
            have kp : ∀ {a : Addr} {zs : List V}, H10 a = some (.lst zs) → H11 a = some (.lst zs) := fun h => put_keep kn10.kd p11 h (fun _ z => nomatch z)
            have kpt : ∀ {r : Pt} {a : Addr}, PtAt H10 r a → PtAt H11 r a := fun h => put_pt kn10.kd p11 h
            have hadd := wk10.add hr0 hrc hvr hn
            refine ⟨_, rfl, _, rfl, ra, b, r, bq, rfl, rfl, kpt hpr, kn11.kb, _, rfl, ?_⟩
            refine ite2 (fun z2 => ?_) (fun z2 => ?_)
            · have hnb : r ∉ bs := fun h => by rw [decide_eq_true ((hbm r).mpr h)] at z2; cases z2
              have hf11 := kp hf10
              have hfl := wk10.fl
              refine ⟨_, rfl, .inl ⟨rfl, _, SqL.of hf11⟩, _, rfl, f, _, _, rfl, rfl, hf11, ?_, ?_⟩
              · rw [List.length_map, ← paired_len hF10]
                exact Nat.lt_of_le_of_lt (show F1.length ≤ 1200 by omega) (by decide)
              · have up : ∀ {r : Pt} {a : Addr}, PtAt H10 r a → PtAt (upd H11 f (.lst (rl fs1 ++ [.ref ra]))) r a := fun h => pt_upd hf11 (kpt h)
                refine ⟨_, addP qs1 r, F1 ++ [r], fs1 ++ [ra], rfl, kn11.lst hf0 hf11, ?_, ?_, ?_, Paired.mapP hL10 fun _ _ z => up z, paired_snoc (Paired.mapP hF10 fun _ _ z => up z) (up hpr), Paired.mapP hR10 fun _ _ z => up z, hadd.1 hnb⟩
                · rw [upd_ne nlf]; exact kp hl10
                · rw [upd_same]; unfold rl; rw [List.map_append]; rfl
                · rw [upd_ne n2f]; exact kp hr10
            · have hnb : r ∈ bs := by
                refine (hbm r).mp (Classical.byContradiction fun h => z2 ?_)
                rw [decide_eq_false h]; rfl
              exact ⟨_, addP qs1 r, F1, fs1, rfl, kn11, kp hl10, kp hf10, kp hr10, Paired.mapP hL10 fun _ _ z => kpt z, Paired.mapP hF10 fun _ _ z => kpt z, Paired.mapP hR10 fun _ _ z => kpt z, hadd.2 hnb⟩
          · have hn : r ∈ qs1 := Classical.byContradiction fun h => z1 (by rw [decide_eq_false h]; rfl)
            exact ⟨_, qs1, F1, fs1, rfl, kn10, hl10, hf10, hr10, hL10, hF10, hR10, wk10.skip hr0 hn⟩
        · rintro σ H10 ⟨v9, qs1, F1, fs1, rfl, kn10, hl10, hf10, hr10, hL10, hF10, hR10, wk10⟩
          rw [List.length_map, ← paired_len hR10] at wk10
          exact ⟨_, _, qs1, F1, fs1, rfl, kn10, hl10, hf10, hL10, hF10, wk10.fin⟩
      · rintro σ H8 ⟨v4, v9, qs', F, fs, rfl, kn8, hl8, hf8, hL8, hF8, wk8⟩
        rw [List.length_map, ← paired_len hL, List.drop_length] at wk8
        have h12 := wk8.snd.len hz
        have g1 := wk8.g1
        refine ⟨_, rfl, _, ?_, _, f, fs, F, qs', _, _, rfl, kn8, hf8, hF8, ⟨wk8.snd, (fun q h => nomatch h), fun q h => ?_, Nat.zero_le _, fun h => absurd rfl h, Nat.zero_le _⟩, fun q hq => ⟨.inr (wk8.fs q hq), (wk8.snd.ok q (wk8.fs q hq).1).2⟩, rfl⟩
        · rw [if_neg nL]
          by_cases hF : F = []
          · rw [if_pos hF]; omega
          · rw [if_neg hF]
            have := wk8.g2 hF
            omega
        · rcases wk8.cl q h with h | h | h | ⟨j, e, _⟩
          · cases h
          · exact .inl h
          · exact .inr (.inr (.inl h))
          · cases e
end
end Jz
end
section
set_option maxHeartbeats 4000000
/-! the generators -/
namespace Jz
open PySem PySem.Spec PyProof.Rows L2 ClX StX
theorem gfor_it {J : It} {n : Nat} {G : Hp → Prop} {Y : Nat → Hp → V → Hp → Prop} (w : Walk J n G Y) {g : TG} {tb : TGn} {D : GEnds} {ys : List V} {σ : L2.St} {H : Hp} (Pv : Nat → List V → L2.St → Hp → Prop) (h0 : Pv 0 ys σ H) (hG : ∀ i ys σ H, i ≤ n → Pv i ys σ H → G H)
    (hs : ∀ i x ys σ H H', i < n → Pv i ys σ H → Y i H x H' → g x σ H' fun σ2 H2 => tb { D with nx := Pv (i + 1), ct := Pv (i + 1), bk := D.nx } ys σ2 H2) (hd : ∀ ys σ H, Pv n ys σ H → D.nx ys σ H) :
    ∃ W : Nat → Nat → List V → L2.St → Hp → Prop, (∃ m, W 0 m ys σ H) ∧ ∀ i m ys σ H, W i m ys σ H →
      (J.stop i H ∧ D.nx ys σ H) ∨ (J.go i H ∧ ∃ N : List V → L2.St → Hp → Prop, (∀ ys' σ' H', N ys' σ' H' → ∃ m', m' < m ∧ W (i + 1) m' ys' σ' H') ∧ ∀ x H', J.yld i H x H' → g x σ H' fun σ2 H2 => tb { D with nx := N, ct := N, bk := D.nx } ys σ2 H2) := by
  refine ⟨fun i m ys σ H => m = n - i ∧ i ≤ n ∧ Pv i ys σ H, ⟨n, by simp, Nat.zero_le _, h0⟩, ?_⟩
  rintro i m ys σ H ⟨rfl, hi, p⟩
  have q := hG i ys σ H hi p
  by_cases hlt : i < n
  · exact .inr ⟨w.goes i H hlt q, Pv (i + 1), fun ys' σ' H' p' => ⟨n - (i + 1), by omega, rfl, hlt, p'⟩, fun x H' y => hs i x ys σ H H' hlt p (w.yields i H x H' hlt q y)⟩
  · have e : i = n := by omega
    subst e
    exact .inl ⟨w.stops H q, hd ys σ H p⟩
/-- the generator method m of the class at C keeps sp -/
structure GM (P : Program) (w : World) (K : PySem.W.Frag) (mg : Str → Option Value) (base : Heap) (k : Nat) (C : Addr) (m : Str) (ps : List Str) (sp : SpG) : Prop where
  ex : ∃ f fd, GFn P w K mg base k f fd ps sp ∧ Meth K C m f ∧ Binds K fd ps []
theorem pass_cx {X : Cx} : Passes (L2.CX X.prog X.w) X E0 := by
  intro pins σ H s e s' I h
  obtain ⟨_, _, _, _, _, _, _, _, _, _, _, _, h⟩ := h
  exact h.elim
theorem rch_iff {nx : Pt → List Pt} {b b' : Pt → Prop} {s q : Pt} (h : ∀ p, b p ↔ b' p) : Rch nx b s q ↔ Rch nx b' s q :=
  ⟨fun z => z.mono (fun _ _ y => y) fun p y => (h p).mpr y, fun z => z.mono (fun _ _ y => y) fun p y => (h p).mp y⟩
theorem filter_take {α : Type} {L : List α} {f : α → Bool} {i : Nat} (h : i < L.length) : (L.take (i + 1)).filter f = (L.take i).filter f ++ (if f L[i] = true then [L[i]] else []) := by
  rw [← List.take_append_getElem h, List.filter_append, List.filter_cons]
  cases f L[i] <;> rfl
theorem cutV_one (xs : List V) : cutV xs (some 1) none = xs.tail := by
  unfold cutV
  cases xs with
  | nil => rfl
  | cons x r =>
    have e : HT.sIx (x :: r).length 0 (some 1) = 1 := by
      have := HT.sIx_nat (x :: r).length 0 1
      rw [show ((1 : Nat) : Int) = 1 from rfl] at this
      rw [this, List.length_cons]
      omega
    rw [e, HT.sIx_none, List.drop_one, List.tail_cons, List.length_cons]
    exact List.take_length
theorem paired_tail {α β : Type} {F : α → β → Prop} {l : List α} {m : List β} (h : Paired F l m) : Paired F l.tail m.tail := by
  cases h with
  | nil => exact .nil
  | cons _ t => exact t
def spGen (K : PySem.W.Frag) (out : (Pa → Option In) → List Pa → List Pa) : SpG := fun vs H Q _ => ∃ fw x pl t, vs = [.ref fw, .ref x] ∧ Fl K H pl fw ∧ PlanOk pl ∧ Tt K H t x ∧ size t ≤ 400 ∧ height t ≤ 8 ∧
  ∀ H' qs, Same H H' → Paired (PaAt H') (out (inf pl t) (spots t)) qs → Q (rl qs) H'
theorem get_nil {t : Tr} : get t [] = some t := by cases t; rfl
theorem spots_cons {t : Tr} : ∃ r, spots t = [] :: r := by cases t; exact ⟨_, by rw [spots]⟩
section
variable {P : Program} {w : World} {K : PySem.W.Frag} {mg : Str → Option Value} {base : Heap}
abbrev sUnr : Stmt := inC 43 16
theorem sc_unr : GScope ["self", "tree", "known", "path"] ["self", "tree"] (defScope sUnr) := ⟨rfl, rfl, rfl, by decide +kernel, rfl, by decide +kernel, by decide +kernel⟩
theorem gm_unr (T : Tx K mg) : GM P w K mg base 14 (cA K "Flow") "unreached" ["self", "tree"] (spGen K unr) := by
  obtain ⟨fd, F⟩ := T.d_Flow_unreached
  have bi := F.bindsN (ps := ["self", "tree"]) (fun _ _ _ _ _ _ us hl => match us, hl with | [_, _], _ => rfl)
  obtain ⟨oc, od, dV, kV, doc, pm, an, cdv, ct, osl, rfl, lk, hcd, _, _⟩ := F.ex
  refine ⟨_, _, gfn_of lk hcd sc_unr (fun vs H Q E h => ?_) (fun A outer s H vs Q E pn hr h => ?_), T.h_Flow_unreached, bi⟩
  · obtain ⟨fw, x, pl, t, rfl, _⟩ := h
    rfl
  · obtain ⟨fw, x, pl, t, rfl, hf, hok, ht, hz, hh, k⟩ := h
    have hr7 : Room 7 _ := hr.mono (by decide)
    refine ⟨_, gss_cons (gs_ps (ps_expr (pe_g (g_check T) hr (pa_cons (pe_fld (pv 0) rfl) (pa_cons (pv 1) pa_nil)))))
      (gss_cons (gs_ps (ps_set (i := 2) sc_unr.nd rfl (.inl rfl) (pe_g (g_come T) hr7 (pa_cons (pv 0) (pa_cons (pv 1) (pa_cons (pe_tup (pa_cons (pe_tup pa_nil) (pa_cons pe_str pa_nil))) (pa_cons (pe_tup pa_nil) pa_nil)))))))
      (gss_cons (gs_for owns_gcx rfl (pi_tup (pe_slice sl_tupA (pe_fld (pv 1) rfl) (po_some pe_int) po_none)) (pg_name (i := 3) sc_unr.nd rfl (.inl rfl))
        (gss_cons (gs_if (pt_cmpR (op_notInP hr.units) (pe_tup (pa_cons (pv 3) (pa_cons pe_str pa_nil))) (pv 2) (by rfl)) (gss_cons (gs_yield (pv 3)) gss_nil) gss_nil) gss_nil)) gss_nil)), ?_⟩
    obtain ⟨dx, f, g, bl, sp, tm, e, _, ⟨ps, hps, pps⟩, _⟩ := ht.fld
    obtain ⟨dxw, sa, b, c, kvs, h1, h2, h3, h4⟩ := id hf
    refine ⟨_, rfl, fw, _, dxw, _, _, rfl, h1, T.c_Flow, T.a_Flow_basis, (by with_unfolding_all rfl : _ = some (V.ref sa)), _, rfl, sa, x, t, rfl, h2, ht, hh, hz, fun H1 s1 => ?_⟩
    refine ⟨_, rfl, _, rfl, Nat.zero_le _, fun e0 he0 => ⟨by show 2 ≤ sizeLine; decide, fun u hu => ⟨Nat.zero_le _, fun e1 he1 => ?_⟩⟩⟩
    have su2 := same_tr (same_new he0 (.tup [])) (same_tr (same_new hu (.tup [.ref e0, .str "in"])) (same_new he1 (.tup [])))
    have hpu : PtAt (upd (upd (upd H1 e0 (.tup [])) u (.tup [.ref e0, .str "in"])) e1 (.tup [])) ([], .inn) u := PtAt.mono (pt_new (x := .inn) hu (by exact upd_same)) (same_new he1 _)
    have he1' : (upd (upd (upd H1 e0 (.tup [])) u (.tup [.ref e0, .str "in"])) e1 (.tup [])) e1 = some (.tup (rl [])) := upd_same
    have s2 := same_tr s1 su2
    generalize upd (upd (upd H1 e0 (.tup [])) u (.tup [.ref e0, .str "in"])) e1 (.tup []) = H2 at *
    refine ⟨fw, x, u, e1, pl, t, ([], .inn), [], [], rfl, hf.mono s2, ht.mono s2, hz, hpu, by rw [get_nil]; rfl, he1', .nil, Nat.zero_le _, fun H3 d qs hd s3 pd hq => ?_⟩
    have s3' := same_tr s2 s3
    have hmem : ∀ q, q ∈ qs ↔ Rch (stp (inf pl t)) bar0 ([], .inn) q := fun q => (hq q).trans (rch_iff fun p => ⟨fun h => (nomatch h), fun h => h.elim⟩)
    refine ⟨_, rfl, x, _, dx, _, _, rfl, s3' _ _ e, T.c_Tree, T.a_Tree_spots, tr_spots, _, rfl, sp, _, rfl, SqT.of (s3' _ _ hps), (fun z => ?_), fun _ r hr0 => ?_⟩
    · exfalso
      have z1 := z.1
      have := HT.sIx_nat (rl ps).length 0 1
      rw [show ((1 : Nat) : Int) = 1 from rfl] at this
      rw [this] at z1
      have hl : 0 < ps.length := by rw [← paired_len pps]; exact size_pos t
      rw [List.length_map] at z1
      omega
    rw [cutV_one, show (rl ps).tail = rl ps.tail from (List.map_tail).symm]
    have s4 := same_tr s3' (same_new hr0 (.tup (rl ps.tail)))
    have pd4 := pd.same (same_new hr0 (.tup (rl ps.tail)))
    have hr4 : (upd H3 r (.tup (rl ps.tail))) r = some (.tup (rl ps.tail)) := upd_same
    generalize upd H3 r (.tup (rl ps.tail)) = H4 at *
    have pt := paired_tail pps
    generalize hL : (spots t).tail = L at *
    refine ⟨r, rfl, ⟨_, SqT.of hr4⟩, gfor_it (walk_tup (xs := rl ps.tail)) (fun i ys σ H' => ∃ v ya, σ = [some (.ref fw), some (.ref x), some (.ref d), v] ∧ ys = rl ya ∧ Same H4 H' ∧ Paired (PaAt H') ((L.take i).filter fun p => @decide (¬ Rch (stp (inf pl t)) bar0 ([], .inn) (p, .inn)) (Classical.propDecidable _)) ya) ⟨_, [], rfl, rfl, same_rfl, .nil⟩ (fun i ys σ H' _ ⟨_, _, _, _, s', _⟩ => SqT.of (s' _ _ hr4)) ?_ ?_⟩
    · rintro i y ys σ H0 H5 hi ⟨v, ya, rfl, rfl, s5, pya⟩ ⟨rfl, hy⟩
      rw [List.length_map] at hi
      rw [List.getElem?_map, List.getElem?_eq_getElem hi] at hy
      obtain rfl := Option.some.inj hy
      have hi2 : i < L.length := by rw [paired_len pt]; exact hi
      have hp : PaAt H5 L[i] ps.tail[i] := PaAt.mono (paired_get pt hi2 hi) (same_tr s4 s5)
      refine ⟨_, rfl, by show 2 ≤ sizeLine; decide, fun u2 hu2 => ?_⟩
      have hs6 := same_tr s5 (same_new hu2 (.tup [.ref ps.tail[i], .str "in"]))
      refine ⟨_, rfl, u2, d, (L[i], .inn), qs, rfl, rfl, pt_new (x := .inn) hu2 hp, pd4.same hs6, _, rfl, ?_⟩
      have hle : ((L.take i).filter fun p => @decide (¬ Rch (stp (inf pl t)) bar0 ([], .inn) (p, .inn)) (Classical.propDecidable _)).length ≤ 400 := by
        refine Nat.le_trans (List.length_filter_le _ _) (Nat.le_trans (List.length_take_le' _ _) ?_)
        rw [← hL, List.length_tail]
        exact Nat.le_trans (Nat.sub_le _ _) hz
      have pya6 := Paired.mapP pya fun _ _ z => PaAt.mono z (same_new hu2 (.tup [.ref ps.tail[i], .str "in"]))
      refine ite2 (fun z => ?_) (fun z => ?_)
      · have hn : ¬ Rch (stp (inf pl t)) bar0 ([], .inn) (L[i], .inn) := fun h => by rw [decide_eq_true ((hmem _).mpr h)] at z; cases z
        refine ⟨?_, _, rfl, _, ya ++ [ps.tail[i]], rfl, ?_, hs6, ?_⟩
        · rw [List.length_map, ← paired_len pya]; exact Nat.lt_of_le_of_lt hle (by decide)
        · unfold rl; rw [List.map_append]; rfl
        · rw [filter_take hi2, if_pos (by exact @decide_eq_true _ (Classical.propDecidable _) hn)]
          exact paired_snoc pya6 (hp.mono (same_new hu2 _))
      · have hn : Rch (stp (inf pl t)) bar0 ([], .inn) (L[i], .inn) := Classical.byContradiction fun h => z (by rw [decide_eq_false (fun q => h ((hmem _).mp q))]; rfl)
        refine ⟨_, ya, rfl, rfl, hs6, ?_⟩
        rw [filter_take hi2, if_neg (by rw [@decide_eq_false _ (Classical.propDecidable _) (fun q => q hn)]; exact Bool.false_ne_true), List.append_nil]
        exact pya6
    · rintro ys σ H5 ⟨v, ya, rfl, rfl, s5, pya⟩
      rw [List.length_map, ← paired_len pt, List.take_length] at pya
      refine k _ ya (same_tr s4 s5) ?_
      unfold unr
      rw [hL]
      exact (congrArg (fun f => Paired (PaAt H5) (List.filter f L) ya) (funext fun p => decide_eq_decide.mpr Iff.rfl)).mp pya
end
end Jz
end
section
set_option maxHeartbeats 4000000
/-! uses that may be unset -/
namespace Jz
open PySem PySem.Spec PyProof.Rows L2 ClX StX
theorem mem_ptsOf {pl : Fm → Pd} {t : Tr} {s v : Bool} {x : Pt} : x ∈ ptsOf pl t s v (spots t) ↔ x.2 = .deed ∧ dee (inf pl t) x.1 = some (s, v) := by
  unfold ptsOf
  rw [List.mem_map]
  constructor
  · rintro ⟨p, hp, rfl⟩
    exact ⟨rfl, of_decide_eq_true (List.mem_filter.mp hp).2⟩
  · obtain ⟨p, w⟩ := x
    rintro ⟨rfl, h⟩
    refine ⟨p, List.mem_filter.mpr ⟨?_, decide_eq_true h⟩, rfl⟩
    refine (mem_spots p t).mpr ?_
    unfold dee at h
    rw [← inf_get (P := pl)]
    cases q : inf pl t p with
    | none => rw [q] at h; cases h
    | some _ => rfl
theorem nonN : ¬ (!decide (V.non = V.non)) = true := by rw [decide_eq_true rfl]; exact Bool.false_ne_true
theorem refN {u : Addr} : (!decide (V.ref u = V.non)) = true := by rw [decide_eq_false (fun z => nomatch z)]; rfl
theorem sh_key {a b : Bool} : (Sum.inr (sh a) : Key) = Sum.inr (sh b) ↔ a = b := ⟨fun h => sh_inj.mp (Sum.inr.inj h), fun h => by rw [h]⟩
/-- the tables so far -/
def Tbs (P : Program) (w : World) (I : Pa → Option In) (H : Hp) (kvs : List (Key × V)) : Prop := ∀ v : Bool, valV kvs (.inr (sh v) : Key) = none ∨ ∃ d qs, valV kvs (.inr (sh v) : Key) = some (.ref d) ∧ PD P w H d qs ∧ ∀ q, q ∈ qs ↔ Rch (stp I) (barS I v) ([], .inn) q
section
variable {P : Program} {w : World} {K : PySem.W.Frag} {mg : Str → Option Value} {base : Heap}
theorem Tbs.same {I : Pa → Option In} {H H' : Hp} {kvs : List (Key × V)} (h : Tbs P w I H kvs) (s : Same H H') : Tbs P w I H' kvs := fun v => (h v).imp id fun ⟨d, qs, e1, e2, e3⟩ => ⟨d, qs, e1, e2.same s, e3⟩
/-- the dict of tables at tb changes -/
theorem tb_keep {H : Hp} {tb a : Addr} {kvs kvs' : List (Key × V)} {o : HO} (h : H tb = some (.dK kvs)) (e : H a = some o) (ho : ∀ z, o ≠ .dK z) : upd H tb (.dK kvs') a = some o := by
  rw [upd_ne (fun z => by rw [z, h] at e; exact ho kvs (Option.some.inj e).symm)]
  exact e
abbrev sUns : Stmt := inC 43 17
theorem sc_uns : GScope ["self", "tree", "tables", "path", "deed"] ["self", "tree"] (defScope sUns) := ⟨rfl, rfl, rfl, by decide +kernel, rfl, by decide +kernel, by decide +kernel⟩
theorem gm_uns (T : Tx K mg) : GM P w K mg base 14 (cA K "Flow") "unset_uses" ["self", "tree"] (spGen K uns) := by
  obtain ⟨fd, F⟩ := T.d_Flow_unset_uses
  have bi := F.bindsN (ps := ["self", "tree"]) (fun _ _ _ _ _ _ us hl => match us, hl with | [_, _], _ => rfl)
  obtain ⟨oc, od, dV, kV, doc, pm, an, cdv, ct, osl, rfl, lk, hcd, _, _⟩ := F.ex
  refine ⟨_, _, gfn_of lk hcd sc_uns (fun vs H Q E h => ?_) (fun A outer s H vs Q E pn hr h => ?_), T.h_Flow_unset_uses, bi⟩
  · obtain ⟨fw, x, pl, t, rfl, _⟩ := h
    rfl
  · obtain ⟨fw, x, pl, t, rfl, hf, hok, ht, hz, hh, k⟩ := h
    have hr7 : Room 7 _ := hr.mono (by decide)
    have hr5 : Room 5 _ := hr.mono (by decide)
    have hr4 : Room (3 + 1) _ := hr.mono (by decide)
    have hr3 : Room 3 _ := hr.mono (by decide)
    refine ⟨_, gss_cons (gs_ps (ps_expr (pe_g (g_check T) hr (pa_cons (pe_fld (pv 0) rfl) (pa_cons (pv 1) pa_nil)))))
      (gss_cons (gs_ps (ps_set (i := 2) sc_uns.nd rfl (.inl rfl) pe_dnewK))
      (gss_cons (gs_for owns_gcx rfl (pi_tup (pe_fld (pv 1) rfl)) (pg_name (i := 3) sc_uns.nd rfl (.inl rfl))
        (gss_cons (gs_ps (ps_set (i := 4) sc_uns.nd rfl (.inl rfl) (pe_mf (h_deed T) T.c_Flow hr3 (pv 0) (pa_cons (pe_if (i_getT T) hr4 (pv 1) (pv 3)) pa_nil))))
        (gss_cons (gs_if (PW.pt (pw_and (pt_cmpR op_notN (pv 4) pe_non (nomark _)) (pw_and1 (pt_cmpR op_eq (pe_ix ix_tup (pv 4) pe_int (fun _ _ => rfl)) pe_str (nomark _)))))
          (gss_cons (gs_ps (ps_if (pt_cmp (pc_dnotin (hu_of hr) (pe_ix ix_tup (pv 4) pe_int (fun _ _ => rfl)) (pv 2)))
              (pss_one (ps_dput (hu_of hr) (pv 2) (pe_ix ix_tup (pv 4) pe_int (fun _ _ => rfl)) (pe_g (g_come T) hr7 (pa_cons (pv 0) (pa_cons (pv 1) (pa_cons (pe_tup (pa_cons (pe_tup pa_nil) (pa_cons pe_str pa_nil)))
                (pa_cons (pe_mf (h_deeds T) T.c_Flow hr5 (pv 0) (pa_cons (pv 1) (pa_cons (pe_tup (pa_cons pe_str (pa_cons (pe_ix ix_tup (pv 4) pe_int (fun _ _ => rfl)) pa_nil))) pa_nil))) pa_nil))))) rfl)) pss_nil))
          (gss_cons (gs_if (pt_cmpR (op_inP hr.units) (pe_tup (pa_cons (pv 3) (pa_cons pe_str pa_nil))) (pe_dget (hu_of hr) (pv 2) (pe_ix ix_tup (pv 4) pe_int (fun _ _ => rfl)) (fun _ _ => rfl)) (by rfl)) (gss_cons (gs_yield (pv 3)) gss_nil) gss_nil) gss_nil)) gss_nil) gss_nil))) gss_nil)), ?_⟩
    obtain ⟨dx, f, g, bl, sp, tm, e, _, ⟨ps, hps, pps⟩, _⟩ := ht.fld
    obtain ⟨dxw, sa, b, c, kvs0, h1, h2, h3, h4⟩ := id hf
    refine ⟨_, rfl, fw, _, dxw, _, _, rfl, h1, T.c_Flow, T.a_Flow_basis, (by with_unfolding_all rfl : _ = some (V.ref sa)), _, rfl, sa, x, t, rfl, h2, ht, hh, hz, fun H1 s1 => ?_⟩
    intro tb htb
    have s2 := same_tr s1 (same_new htb (.dK []))
    have htb0 : H tb = none := s1.free htb
    have htb2 : (upd H1 tb (.dK [])) tb = some (.dK []) := upd_same
    generalize upd H1 tb (.dK []) = H2 at *
    generalize hI : inf pl t = I at *
    refine ⟨_, rfl, x, _, dx, _, _, rfl, s2 _ _ e, T.c_Tree, T.a_Tree_spots, tr_spots, sp, rfl, ⟨_, SqT.of (s2 _ _ hps)⟩, gfor_it (walk_tup (xs := rl ps)) (fun i ys σ H' => ∃ v1 v2 ya kvs, σ = [some (.ref fw), some (.ref x), some (.ref tb), v1, v2] ∧ ys = rl ya ∧ Same H H' ∧ H' tb = some (.dK kvs) ∧ kvs.length ≤ i ∧ Tbs P w I H' kvs ∧
        Paired (PaAt H') (((spots t).take i).filter fun p => @decide (∃ v, dee I p = some (false, v) ∧ Rch (stp I) (barS I v) ([], .inn) (p, .deed)) (Classical.propDecidable _)) ya) ⟨_, _, [], [], rfl, rfl, s2, htb2, Nat.le_refl _, fun v => .inl rfl, .nil⟩ (fun i ys σ H' _ ⟨_, _, _, _, _, _, s', _⟩ => SqT.of (s' _ _ hps)) ?_ ?_⟩
    · rintro i y ys σ H0 H5 hi ⟨v1, v2, ya, kvs, rfl, rfl, s5, htb5, hkl, tbs, pya⟩ ⟨rfl, hy⟩
      rw [List.length_map] at hi
      rw [List.getElem?_map, List.getElem?_eq_getElem hi] at hy
      obtain rfl := Option.some.inj hy
      have hi2 : i < (spots t).length := by rw [paired_len pps]; exact hi
      obtain ⟨kd, hkd⟩ := spots_at hi2
      have hp : PaAt H5 (spots t)[i] ps[i] := PaAt.mono (paired_get pps hi2 hi) s5
      have hpH : PaAt H (spots t)[i] ps[i] := paired_get pps hi2 hi
      have hdee : dee I (spots t)[i] = deed pl kd := by rw [← hI]; unfold dee inf; rw [hkd]; rfl
      have hi400 : i < 400 := Nat.lt_of_lt_of_le hi2 hz
      have hle : ((((spots t).take i).filter fun p => @decide (∃ v, dee I p = some (false, v) ∧ Rch (stp I) (barS I v) ([], .inn) (p, .deed)) (Classical.propDecidable _))).length ≤ 400 :=
        Nat.le_trans (List.length_filter_le _ _) (Nat.le_trans (List.length_take_le' _ _) hz)
      -- what is behind a turn that yields nothing, something
      have kN : ∀ H6 v1 v2 kvs, Same H H6 → H6 tb = some (.dK kvs) → kvs.length ≤ i + 1 → Tbs P w I H6 kvs → (∀ q a, PaAt H5 q a → PaAt H6 q a) → ¬ (∃ v, dee I (spots t)[i] = some (false, v) ∧ Rch (stp I) (barS I v) ([], .inn) ((spots t)[i], .deed)) →
          ∃ v1' v2' ya' kvs', [some (V.ref fw), some (.ref x), some (.ref tb), v1, v2] = [some (.ref fw), some (.ref x), some (.ref tb), v1', v2'] ∧ rl ya = rl ya' ∧ Same H H6 ∧ H6 tb = some (.dK kvs') ∧ kvs'.length ≤ i + 1 ∧ Tbs P w I H6 kvs' ∧
            Paired (PaAt H6) (((spots t).take (i + 1)).filter fun p => @decide (∃ v, dee I p = some (false, v) ∧ Rch (stp I) (barS I v) ([], .inn) (p, .deed)) (Classical.propDecidable _)) ya' := fun H6 v1 v2 kvs s6 h6 l6 t6 p6 hn => by
        refine ⟨v1, v2, ya, kvs, rfl, rfl, s6, h6, l6, t6, ?_⟩
        rw [filter_take hi2, if_neg (by rw [@decide_eq_false _ (Classical.propDecidable _) hn]; exact Bool.false_ne_true), List.append_nil]
        exact Paired.mapP pya fun _ _ z => p6 _ _ z
      have kY : ∀ H6 v1 v2 kvs, Same H H6 → H6 tb = some (.dK kvs) → kvs.length ≤ i + 1 → Tbs P w I H6 kvs → (∀ q a, PaAt H5 q a → PaAt H6 q a) → (∃ v, dee I (spots t)[i] = some (false, v) ∧ Rch (stp I) (barS I v) ([], .inn) ((spots t)[i], .deed)) →
          (rl ya).length < sizeLine ∧ ∃ v1' v2' ya' kvs', [some (V.ref fw), some (.ref x), some (.ref tb), v1, v2] = [some (.ref fw), some (.ref x), some (.ref tb), v1', v2'] ∧ rl ya ++ [V.ref ps[i]] = rl ya' ∧ Same H H6 ∧ H6 tb = some (.dK kvs') ∧ kvs'.length ≤ i + 1 ∧ Tbs P w I H6 kvs' ∧
            Paired (PaAt H6) (((spots t).take (i + 1)).filter fun p => @decide (∃ v, dee I p = some (false, v) ∧ Rch (stp I) (barS I v) ([], .inn) (p, .deed)) (Classical.propDecidable _)) ya' := fun H6 v1 v2 kvs s6 h6 l6 t6 p6 hn => by
        refine ⟨?_, v1, v2, ya ++ [ps[i]], kvs, rfl, ?_, s6, h6, l6, t6, ?_⟩
        · rw [List.length_map, ← paired_len pya]; exact Nat.lt_of_le_of_lt hle (by decide)
        · unfold rl; rw [List.map_append]; rfl
        · rw [filter_take hi2, if_pos (by exact @decide_eq_true _ (Classical.propDecidable _) hn)]
          exact paired_snoc (Paired.mapP pya fun _ _ z => p6 _ _ z) (p6 _ _ hp)
      refine ⟨_, rfl, fw, dxw, _, rfl, s5 _ _ h1, (by with_unfolding_all rfl), _, rfl, _, rfl, x, dx, _, rfl, s5 _ _ e, t, kd, x, ps[i], (spots t)[i], rfl, ht.mono s5, hp, hkd, Nat.le_trans hz (by decide), fun H6 yk s6 hyk => ?_⟩
      refine ⟨fw, yk, pl, kd, rfl, hf.mono (same_tr s5 s6), hok, hyk, (fun q H7 s7 => ?_), (fun sb vb q H7 u s7 hu => ?_)⟩
      · have s7' := same_tr s6 s7
        refine ⟨_, rfl, rfl, _, rfl, ifN nonN (iteF ?_)⟩
        exact kN H7 _ _ kvs (same_tr s5 s7') (s7' _ _ htb5) (by omega) (tbs.same s7') (fun _ _ z => PaAt.mono z s7') (fun ⟨v, e1, _⟩ => by rw [hdee, q] at e1; cases e1)
      have s7' := same_tr s6 s7
      have s7H := same_tr s5 s7'
      refine ⟨_, rfl, rfl, _, rfl, ifP refN ⟨_, rfl, u, _, _, _, rfl, rfl, SqT.of hu, rfl, rfl, _, rfl, ?_⟩⟩
      cases sb with
      | true =>
        refine ifN (by show ¬ decide (V.str "set" = V.str "use") = true; decide +kernel) ?_
        exact kN H7 _ _ kvs s7H (s7' _ _ htb5) (by omega) (tbs.same s7') (fun _ _ z => PaAt.mono z s7') (fun ⟨v, e1, _⟩ => by rw [hdee, q] at e1; cases e1)
      | false =>
        refine ifP (by show decide (V.str "use" = V.str "use") = true; decide +kernel) ?_
        have htb7 := s7' _ _ htb5
        refine ⟨_, rfl, u, _, _, _, rfl, rfl, SqT.of hu, rfl, _, rfl, tb, _, rfl, DGet.k (k := Sum.inr (sh vb)) htb7, _, rfl, ?_⟩
        have pa7 : ∀ q a, PaAt H5 q a → PaAt H7 q a := fun _ _ z => PaAt.mono z s7'
        rcases tbs vb with hv | ⟨d, qs, hv, pd, hm⟩
        · rw [hv]
          refine ifP rfl ?_
          -- tables[deed[1]] = come_to(..)
          refine ⟨_, rfl, _, rfl, Nat.zero_le _, fun e0 he0 => ⟨by show 2 ≤ sizeLine; decide, fun u3 hu3 => ?_⟩⟩
          have s8 := same_tr (same_new he0 (.tup [])) (same_new hu3 (.tup [.ref e0, .str "in"]))
          have hpu : PtAt (upd (upd H7 e0 (.tup [])) u3 (.tup [.ref e0, .str "in"])) ([], .inn) u3 := pt_new (x := .inn) hu3 (by exact upd_same)
          generalize upd (upd H7 e0 (.tup [])) u3 (.tup [.ref e0, .str "in"]) = H8 at *
          have s8H := same_tr s7H s8
          refine ⟨_, rfl, fw, dxw, _, rfl, s8H _ _ h1, (by with_unfolding_all rfl), _, rfl, _, rfl, u, _, _, _, rfl, rfl, SqT.of (s8 _ _ hu), rfl, by show 2 ≤ sizeLine; decide, fun du hdu => ?_⟩
          have s9 := same_new hdu (.tup [.str "set", .str (sh vb)])
          have s9H := same_tr s8H s9
          refine ⟨fw, x, du, pl, t, true, vb, rfl, hf.mono s9H, hok, ht.mono s9H, hz, upd_same, fun H10 dq das s10 hdq pdas ldas => ?_⟩
          have s10' := same_tr s8 (same_tr s9 s10)
          have s10H := same_tr s7H s10'
          refine ⟨fw, x, u3, dq, pl, t, ([], .inn), _, das, rfl, hf.mono s10H, ht.mono s10H, hz, PtAt.mono hpu (same_tr s9 s10), by rw [get_nil]; rfl, hdq, pdas, Nat.le_trans ldas (by decide), fun H11 d qs hd s11 pd hm0 => ?_⟩
          have s11' := same_tr s10' s11
          have s11H := same_tr s7H s11'
          have hm : ∀ q, q ∈ qs ↔ Rch (stp I) (barS I vb) ([], .inn) q := fun q => by
            rw [hm0 q, hI]
            exact rch_iff fun p => by rw [mem_ptsOf, hI]; rfl
          have htb11 := s11' _ _ htb7
          refine ⟨_, rfl, _, rfl, u, _, _, _, rfl, rfl, SqT.of (s11' _ _ hu), rfl, tb, _, rfl, DPut.k (k := Sum.inr (sh vb)) htb11 (Nat.lt_of_le_of_lt (show kvs.length ≤ 400 by omega) (by decide)), ?_⟩
          have kp : ∀ {a : Addr} {o : HO}, H11 a = some o → (∀ z, o ≠ .dK z) → upd H11 tb (.dK (putK kvs (.inr (sh vb)) (.ref d))) a = some o := fun e1 e2 => tb_keep htb11 e1 e2
          have hu12 := kp (s11' _ _ hu) (fun _ z => nomatch z)
          have htb12 : (upd H11 tb (.dK (putK kvs (.inr (sh vb)) (.ref d)))) tb = some (.dK (putK kvs (.inr (sh vb)) (.ref d))) := upd_same
          have pmv : ∀ {d' : Addr} {qs' : List Pt}, PD P w H11 d' qs' → PD P w (upd H11 tb (.dK (putK kvs (.inr (sh vb)) (.ref d)))) d' qs' := fun pd' => by
            obtain ⟨φ, ed⟩ := pd'.at_
            exact pd'.move (by rw [kp ed (fun _ z => nomatch z), ed]) fun a xs h => kp h (fun _ z => nomatch z)
          have pd12 := pmv pd
          have s12H : Same H (upd H11 tb (.dK (putK kvs (.inr (sh vb)) (.ref d)))) := fun a o e => by rw [upd_ne (ne_of_none e htb0)]; exact s11H _ _ e
          have len12 : (putK kvs (.inr (sh vb) : Key) (.ref d)).length ≤ i + 1 := Nat.le_trans (length_putK _ _ _) (by omega)
          have val12 : valV (putK kvs (.inr (sh vb) : Key) (.ref d)) (.inr (sh vb) : Key) = some (.ref d) := by rw [valV_put, if_pos rfl]
          have tbs12 : Tbs P w I (upd H11 tb (.dK (putK kvs (.inr (sh vb)) (.ref d)))) (putK kvs (.inr (sh vb)) (.ref d)) := fun v => by
            rw [valV_put]
            by_cases hvv : (Sum.inr (sh v) : Key) = Sum.inr (sh vb)
            · rw [if_pos hvv]
              obtain rfl := sh_key.mp hvv
              exact .inr ⟨d, qs, rfl, pd12, hm⟩
            · rw [if_neg hvv]
              rcases tbs v with h | ⟨d', qs', h, pd', hm'⟩
              · exact .inl h
              · exact .inr ⟨d', qs', h, pmv (pd'.same (same_tr s7' s11')), hm'⟩
          have pa12 : ∀ q a, PaAt H5 q a → PaAt (upd H11 tb (.dK (putK kvs (.inr (sh vb)) (.ref d)))) q a := fun q a z => kp (PaAt.mono (pa7 q a z) s11') (fun _ z => nomatch z)
          generalize putK kvs (.inr (sh vb) : Key) (.ref d) = kvs12 at *
          generalize upd H11 tb (.dK kvs12) = H12 at *
          refine ⟨_, rfl, by show 2 ≤ sizeLine; decide, fun u2 hu2 => ?_⟩
          have sn := same_new hu2 (.tup [.ref ps[i], .str "deed"])
          refine ⟨_, rfl, _, rfl, u, _, _, _, rfl, rfl, SqT.of (sn _ _ hu12), rfl, tb, .ref d, rfl, val12 ▸ DGet.k (k := Sum.inr (sh vb)) (sn _ _ htb12), ?_⟩
          refine ⟨u2, d, ((spots t)[i], .deed), qs, rfl, rfl, pt_new (x := .deed) hu2 (pa12 _ _ hp), pd12.same sn, _, rfl, ?_⟩
          refine ite2 (fun z => ?_) (fun z => ?_)
          · obtain ⟨g1, g2⟩ := kY _ _ _ kvs12 (same_tr s12H sn) (sn _ _ htb12) len12 (tbs12.same sn) (fun _ _ z => PaAt.mono (pa12 _ _ z) sn) ⟨vb, by rw [hdee, q], (hm _).mp (of_decide_eq_true z)⟩
            exact ⟨g1, _, rfl, g2⟩
          · exact kN _ _ _ kvs12 (same_tr s12H sn) (sn _ _ htb12) len12 (tbs12.same sn) (fun _ _ z => PaAt.mono (pa12 _ _ z) sn) (fun ⟨v, e1, e2⟩ => by
              rw [hdee, q] at e1
              obtain ⟨_, rfl⟩ := Prod.mk.inj (Option.some.inj e1)
              exact z (decide_eq_true ((hm _).mpr e2)))
        · rw [hv]
          refine iteF ?_
          have pd7 := pd.same s7'
          have len7 : kvs.length ≤ i + 1 := by omega
          have tbs7 := tbs.same s7'
          refine ⟨_, rfl, by show 2 ≤ sizeLine; decide, fun u2 hu2 => ?_⟩
          have sn := same_new hu2 (.tup [.ref ps[i], .str "deed"])
          refine ⟨_, rfl, _, rfl, u, _, _, _, rfl, rfl, SqT.of (sn _ _ hu), rfl, tb, .ref d, rfl, hv ▸ DGet.k (k := Sum.inr (sh vb)) (sn _ _ htb7), ?_⟩
          refine ⟨u2, d, ((spots t)[i], .deed), qs, rfl, rfl, pt_new (x := .deed) hu2 (pa7 _ _ hp), pd7.same sn, _, rfl, ?_⟩
          refine ite2 (fun z => ?_) (fun z => ?_)
          · obtain ⟨g1, g2⟩ := kY _ _ _ kvs (same_tr s7H sn) (sn _ _ htb7) len7 (tbs7.same sn) (fun _ _ z => PaAt.mono (pa7 _ _ z) sn) ⟨vb, by rw [hdee, q], (hm _).mp (of_decide_eq_true z)⟩
            exact ⟨g1, _, rfl, g2⟩
          · exact kN _ _ _ kvs (same_tr s7H sn) (sn _ _ htb7) len7 (tbs7.same sn) (fun _ _ z => PaAt.mono (pa7 _ _ z) sn) (fun ⟨v, e1, e2⟩ => by
              rw [hdee, q] at e1
              obtain ⟨_, rfl⟩ := Prod.mk.inj (Option.some.inj e1)
              exact z (decide_eq_true ((hm _).mpr e2)))
    · rintro ys σ H5 ⟨v1, v2, ya, kvs, rfl, rfl, s5, _, _, _, pya⟩
      rw [List.length_map, ← paired_len pps, List.take_length] at pya
      refine k _ ya s5 ?_
      unfold uns
      exact (congrArg (fun f => Paired (PaAt H5) (List.filter f (spots t)) ya) (funext fun p => decide_eq_decide.mpr Iff.rfl)).mp pya
end
end Jz
end
section
set_option maxHeartbeats 4000000
/-! sets that are idle -/
namespace Jz
open PySem PySem.Spec PyProof.Rows L2 ClX StX
section
variable {P : Program} {w : World} {K : PySem.W.Frag} {mg : Str → Option Value} {base : Heap}
abbrev sIdl : Stmt := inC 43 18
theorem sc_idl : GScope ["self", "tree", "known", "path", "deed", "later", "point"] ["self", "tree"] (defScope sIdl) := ⟨rfl, rfl, rfl, by decide +kernel, rfl, by decide +kernel, by decide +kernel⟩
theorem gm_idl (T : Tx K mg) : GM P w K mg base 14 (cA K "Flow") "idle_sets" ["self", "tree"] (spGen K idl) := by
  obtain ⟨fd, F⟩ := T.d_Flow_idle_sets
  have bi := F.bindsN (ps := ["self", "tree"]) (fun _ _ _ _ _ _ us hl => match us, hl with | [_, _], _ => rfl)
  obtain ⟨oc, od, dV, kV, doc, pm, an, cdv, ct, osl, rfl, lk, hcd, _, _⟩ := F.ex
  refine ⟨_, _, gfn_of lk hcd sc_idl (fun vs H Q E h => ?_) (fun A outer s H vs Q E pn hr h => ?_), T.h_Flow_idle_sets, bi⟩
  · obtain ⟨fw, x, pl, t, rfl, _⟩ := h
    rfl
  · obtain ⟨fw, x, pl, t, rfl, hf, hok, ht, hz, hh, k⟩ := h
    have hr7 : Room 7 _ := hr.mono (by decide)
    have hr5 : Room 5 _ := hr.mono (by decide)
    have hr4 : Room (3 + 1) _ := hr.mono (by decide)
    have hr3 : Room 3 _ := hr.mono (by decide)
    refine ⟨_, gss_cons (gs_ps (ps_expr (pe_g (g_check T) hr (pa_cons (pe_fld (pv 0) rfl) (pa_cons (pv 1) pa_nil)))))
      (gss_cons (gs_ps (ps_set (i := 2) sc_idl.nd rfl (.inl rfl) (pe_g (g_come T) hr7 (pa_cons (pv 0) (pa_cons (pv 1) (pa_cons (pe_tup (pa_cons (pe_tup pa_nil) (pa_cons pe_str pa_nil))) (pa_cons (pe_tup pa_nil) pa_nil)))))))
      (gss_cons (gs_for owns_gcx rfl (pi_tup (pe_fld (pv 1) rfl)) (pg_name (i := 3) sc_idl.nd rfl (.inl rfl))
        (gss_cons (gs_ps (ps_set (i := 4) sc_idl.nd rfl (.inl rfl) (pe_mf (h_deed T) T.c_Flow hr3 (pv 0) (pa_cons (pe_if (i_getT T) hr4 (pv 1) (pv 3)) pa_nil))))
        (gss_cons (gs_if (PW.pt (pw_and (pt_cmpR op_notN (pv 4) pe_non (nomark _)) (pw_and (pt_cmpR op_eq (pe_ix ix_tup (pv 4) pe_int (fun _ _ => rfl)) pe_str (nomark _)) (pw_and1 (pt_cmpR (op_inP hr.units) (pe_tup (pa_cons (pv 3) (pa_cons pe_str pa_nil))) (pv 2) (by rfl))))))
          (gss_cons (gs_ps (ps_set (i := 5) sc_idl.nd rfl (.inr rfl) (pe_g (g_come T) hr7 (pa_cons (pv 0) (pa_cons (pv 1) (pa_cons (pe_tup (pa_cons (pv 3) (pa_cons pe_str pa_nil))) (pa_cons (pe_mf (h_deeds T) T.c_Flow hr5 (pv 0) (pa_cons (pv 1) (pa_cons (pv 4) pa_nil))) pa_nil)))))))
          (gss_cons (gs_if (pt_val (pe_callB (cr_all rfl) (by rfl) T.n_all (by decide +kernel) (pa_cons
              (pe_lc (own := [("point", 6)]) (g := gName 6) (te := tOp (rNotInP P w) (tVar 6) (tVar 5)) (by rfl) sc_idl.nd (pi_tup (pe_mf (h_deeds T) T.c_Flow hr5 (pv 0) (pa_cons (pv 1) (pa_cons (pe_tup (pa_cons pe_str (pa_cons (pe_ix ix_tup (pv 4) pe_int (fun _ _ => rfl)) pa_nil))) pa_nil))))
                (blkOk_by (own := [("point", 6)]) (N := ["self", "tree", "known", "path", "deed", "later", "point"]) (sc := defScope sIdl) (by decide +kernel)) (fun _ _ _ _ _ => pg_name (i := 6) sc_idl.nd rfl (Or.inl rfl)) (fun _ _ _ _ _ => pts_nil)
                (fun _ _ _ _ _ => pe_cmpR (op_notInP hr.units) (pv 6) (pv 5) (by rfl))) pa_nil))) (gss_cons (gs_yield (pv 3)) gss_nil) gss_nil) gss_nil)) gss_nil) gss_nil))) gss_nil)), ?_⟩
    obtain ⟨dx, f, g, bl, sp, tm, e, _, ⟨ps, hps, pps⟩, _⟩ := ht.fld
    obtain ⟨dxw, sa, b, c, kvs0, h1, h2, h3, h4⟩ := id hf
    generalize hI : inf pl t = I at *
    refine ⟨_, rfl, fw, _, dxw, _, _, rfl, h1, T.c_Flow, T.a_Flow_basis, (by with_unfolding_all rfl : _ = some (V.ref sa)), _, rfl, sa, x, t, rfl, h2, ht, hh, hz, fun H1 s1 => ?_⟩
    refine ⟨_, rfl, _, rfl, Nat.zero_le _, fun e0 he0 => ⟨by show 2 ≤ sizeLine; decide, fun u hu => ⟨Nat.zero_le _, fun e1 he1 => ?_⟩⟩⟩
    have su2 := same_tr (same_new he0 (.tup [])) (same_tr (same_new hu (.tup [.ref e0, .str "in"])) (same_new he1 (.tup [])))
    have hpu : PtAt (upd (upd (upd H1 e0 (.tup [])) u (.tup [.ref e0, .str "in"])) e1 (.tup [])) ([], .inn) u := PtAt.mono (pt_new (x := .inn) hu (by exact upd_same)) (same_new he1 _)
    have he1' : (upd (upd (upd H1 e0 (.tup [])) u (.tup [.ref e0, .str "in"])) e1 (.tup [])) e1 = some (.tup (rl [])) := upd_same
    have s2 := same_tr s1 su2
    generalize upd (upd (upd H1 e0 (.tup [])) u (.tup [.ref e0, .str "in"])) e1 (.tup []) = H2 at *
    refine ⟨fw, x, u, e1, pl, t, ([], .inn), [], [], rfl, hf.mono s2, ht.mono s2, hz, hpu, by rw [get_nil]; rfl, he1', .nil, Nat.zero_le _, fun H3 dk qs hd s3 pd hq => ?_⟩
    have s3' := same_tr s2 s3
    have hmem : ∀ q, q ∈ qs ↔ Rch (stp I) bar0 ([], .inn) q := fun q => (hq q).trans (by rw [hI]; exact rch_iff fun p => ⟨fun h => (nomatch h), fun h => h.elim⟩)
    refine ⟨_, rfl, x, _, dx, _, _, rfl, s3' _ _ e, T.c_Tree, T.a_Tree_spots, tr_spots, sp, rfl, ⟨_, SqT.of (s3' _ _ hps)⟩, gfor_it (walk_tup (xs := rl ps)) (fun i ys σ H' => ∃ v1 v2 v3 ya, σ = [some (.ref fw), some (.ref x), some (.ref dk), v1, v2, v3, none] ∧ ys = rl ya ∧ Same H3 H' ∧
        Paired (PaAt H') (((spots t).take i).filter fun p => @decide (∃ v, dee I p = some (true, v) ∧ Rch (stp I) bar0 ([], .inn) (p, .deed) ∧ ∀ q ∈ spots t, dee I q = some (false, v) → ¬ Rch (stp I) (barS I v) (p, .deed) (q, .deed)) (Classical.propDecidable _)) ya) ⟨_, _, _, [], rfl, rfl, same_rfl, .nil⟩ (fun i ys σ H' _ ⟨_, _, _, _, _, _, s', _⟩ => SqT.of (s' _ _ (s3' _ _ hps))) ?_ ?_⟩
    · rintro i y ys σ H0 H5 hi ⟨v1, v2, v3, ya, rfl, rfl, s5', pya⟩ ⟨rfl, hy⟩
      have s5 := same_tr s3' s5'
      rw [List.length_map] at hi
      rw [List.getElem?_map, List.getElem?_eq_getElem hi] at hy
      obtain rfl := Option.some.inj hy
      have hi2 : i < (spots t).length := by rw [paired_len pps]; exact hi
      obtain ⟨kd, hkd⟩ := spots_at hi2
      have hp : PaAt H5 (spots t)[i] ps[i] := PaAt.mono (paired_get pps hi2 hi) s5
      have hdee : dee I (spots t)[i] = deed pl kd := by rw [← hI]; unfold dee inf; rw [hkd]; rfl
      have hle : ((((spots t).take i).filter fun p => @decide (∃ v, dee I p = some (true, v) ∧ Rch (stp I) bar0 ([], .inn) (p, .deed) ∧ ∀ q ∈ spots t, dee I q = some (false, v) → ¬ Rch (stp I) (barS I v) (p, .deed) (q, .deed)) (Classical.propDecidable _))).length ≤ 400 :=
        Nat.le_trans (List.length_filter_le _ _) (Nat.le_trans (List.length_take_le' _ _) hz)
      have kN : ∀ H6 v1 v2 v3, Same H5 H6 → ¬ (∃ v, dee I (spots t)[i] = some (true, v) ∧ Rch (stp I) bar0 ([], .inn) ((spots t)[i], .deed) ∧ ∀ q ∈ spots t, dee I q = some (false, v) → ¬ Rch (stp I) (barS I v) ((spots t)[i], .deed) (q, .deed)) →
          ∃ v1' v2' v3' ya', [some (V.ref fw), some (.ref x), some (.ref dk), v1, v2, v3, none] = [some (.ref fw), some (.ref x), some (.ref dk), v1', v2', v3', none] ∧ rl ya = rl ya' ∧ Same H3 H6 ∧
            Paired (PaAt H6) (((spots t).take (i + 1)).filter fun p => @decide (∃ v, dee I p = some (true, v) ∧ Rch (stp I) bar0 ([], .inn) (p, .deed) ∧ ∀ q ∈ spots t, dee I q = some (false, v) → ¬ Rch (stp I) (barS I v) (p, .deed) (q, .deed)) (Classical.propDecidable _)) ya' := fun H6 v1 v2 v3 s6 hn => by
        refine ⟨v1, v2, v3, ya, rfl, rfl, same_tr s5' s6, ?_⟩
        rw [filter_take hi2, if_neg (by rw [@decide_eq_false _ (Classical.propDecidable _) hn]; exact Bool.false_ne_true), List.append_nil]
        exact Paired.mapP pya fun _ _ z => PaAt.mono z s6
      have kY : ∀ H6 v1 v2 v3, Same H5 H6 → (∃ v, dee I (spots t)[i] = some (true, v) ∧ Rch (stp I) bar0 ([], .inn) ((spots t)[i], .deed) ∧ ∀ q ∈ spots t, dee I q = some (false, v) → ¬ Rch (stp I) (barS I v) ((spots t)[i], .deed) (q, .deed)) →
          (rl ya).length < sizeLine ∧ ∃ v1' v2' v3' ya', [some (V.ref fw), some (.ref x), some (.ref dk), v1, v2, v3, none] = [some (.ref fw), some (.ref x), some (.ref dk), v1', v2', v3', none] ∧ rl ya ++ [V.ref ps[i]] = rl ya' ∧ Same H3 H6 ∧
            Paired (PaAt H6) (((spots t).take (i + 1)).filter fun p => @decide (∃ v, dee I p = some (true, v) ∧ Rch (stp I) bar0 ([], .inn) (p, .deed) ∧ ∀ q ∈ spots t, dee I q = some (false, v) → ¬ Rch (stp I) (barS I v) (p, .deed) (q, .deed)) (Classical.propDecidable _)) ya' := fun H6 v1 v2 v3 s6 hn => by
        refine ⟨?_, v1, v2, v3, ya ++ [ps[i]], rfl, ?_, same_tr s5' s6, ?_⟩
        · rw [List.length_map, ← paired_len pya]; exact Nat.lt_of_le_of_lt hle (by decide)
        · unfold rl; rw [List.map_append]; rfl
        · rw [filter_take hi2, if_pos (by exact @decide_eq_true _ (Classical.propDecidable _) hn)]
          exact paired_snoc (Paired.mapP pya fun _ _ z => PaAt.mono z s6) (hp.mono s6)
      refine ⟨_, rfl, fw, dxw, _, rfl, s5 _ _ h1, (by with_unfolding_all rfl), _, rfl, _, rfl, x, dx, _, rfl, s5 _ _ e, t, kd, x, ps[i], (spots t)[i], rfl, ht.mono s5, hp, hkd, Nat.le_trans hz (by decide), fun H6 yk s6 hyk => ?_⟩
      refine ⟨fw, yk, pl, kd, rfl, hf.mono (same_tr s5 s6), hok, hyk, (fun q H7 s7 => ?_), (fun sb vb q H7 u s7 hu => ?_)⟩
      · refine ⟨_, rfl, rfl, _, rfl, ifN nonN (iteF ?_)⟩
        exact kN H7 _ _ _ (same_tr s6 s7) (fun ⟨v, e1, _⟩ => by rw [hdee, q] at e1; cases e1)
      have s7' := same_tr s6 s7
      refine ⟨_, rfl, rfl, _, rfl, ifP refN ⟨_, rfl, u, _, _, _, rfl, rfl, SqT.of hu, rfl, rfl, _, rfl, ?_⟩⟩
      cases sb with
      | false =>
        refine ifN (by show ¬ decide (V.str "use" = V.str "set") = true; decide +kernel) (iteF ?_)
        exact kN H7 _ _ _ s7' (fun ⟨v, e1, _⟩ => by rw [hdee, q] at e1; cases e1)
      | true =>
        refine ifP (by show decide (V.str "set" = V.str "set") = true; decide +kernel) ?_
        refine ⟨_, rfl, by show 2 ≤ sizeLine; decide, fun u2 hu2 => ?_⟩
        have s8 := same_tr s7' (same_new hu2 (.tup [.ref ps[i], .str "deed"]))
        refine ⟨_, rfl, u2, dk, ((spots t)[i], .deed), qs, rfl, rfl, pt_new (x := .deed) hu2 (hp.mono s7'), pd.same (same_tr s5' s8), _, rfl, ?_⟩
        have hu8 := same_new hu2 (.tup [.ref ps[i], .str "deed"]) _ _ hu
        generalize upd H7 u2 (.tup [.ref ps[i], .str "deed"]) = H8 at *
        refine ite2 (fun z => ?pos) (fun z => ?neg)
        case pos =>
          have s8H := same_tr s5 s8
          refine ⟨_, rfl, _, rfl, _, rfl, by show 2 ≤ sizeLine; decide, fun u3 hu3 => ?_⟩
          have s9 := same_new hu3 (.tup [.ref ps[i], .str "deed"])
          have hpu3 : PtAt (upd H8 u3 (.tup [.ref ps[i], .str "deed"])) ((spots t)[i], .deed) u3 := pt_new (x := .deed) hu3 (hp.mono s8)
          generalize upd H8 u3 (.tup [.ref ps[i], .str "deed"]) = H9 at *
          have s9H := same_tr s8H s9
          refine ⟨_, rfl, fw, dxw, _, rfl, s9H _ _ h1, (by with_unfolding_all rfl), _, rfl, _, rfl, fw, x, u, pl, t, true, vb, rfl, hf.mono s9H, hok, ht.mono s9H, hz, s9 _ _ hu8, fun H10 dq das s10 hdq pdas ldas => ?_⟩
          have s10H := same_tr s9H s10
          refine ⟨fw, x, u3, dq, pl, t, ((spots t)[i], .deed), _, das, rfl, hf.mono s10H, ht.mono s10H, hz, PtAt.mono hpu3 s10, by rw [hkd]; rfl, hdq, pdas, Nat.le_trans ldas (by decide), fun H11 d2 qs2 hd2 s11 pd2 hm0 => ?_⟩
          have s11' := same_tr s9 (same_tr s10 s11)
          have s11H := same_tr s8H s11'
          have hm : ∀ q, q ∈ qs2 ↔ Rch (stp I) (barS I vb) ((spots t)[i], .deed) q := fun q => by
            rw [hm0 q, hI]
            exact rch_iff fun p => by rw [mem_ptsOf, hI]; rfl
          -- all([point not in later for point in ..])
          refine ⟨_, rfl, fw, dxw, _, rfl, s11H _ _ h1, (by with_unfolding_all rfl), _, rfl, _, rfl, u, _, _, _, rfl, rfl, SqT.of (s11' _ _ hu8), rfl, by show 2 ≤ sizeLine; decide, fun du hdu => ?_⟩
          have s12 := same_new hdu (.tup [.str "use", .str (sh vb)])
          have s12H := same_tr s11H s12
          refine ⟨fw, x, du, pl, t, false, vb, rfl, hf.mono s12H, hok, ht.mono s12H, hz, upd_same, fun H13 uq uas s13 huq puas luas => ?_⟩
          have s13' := same_tr s12 s13
          have pd13 := pd2.same s13'
          generalize hUL : ptsOf pl t false vb (spots t) = UL at *
          refine ⟨uq, rfl, ⟨_, SqT.of huq⟩, fun D hD => lc_tup (xs := rl uas) (fun i H' => Acc H13 D (((UL.take i).map fun q => !decide (q ∈ qs2)).map V.bl) H') (Acc.start hD) (fun i H' _ A => SqT.of (A.1 _ _ huq)) ?_ ?_⟩
          · intro j y H14 hy A
            have hj := (List.getElem?_eq_some_iff.mp hy).1
            rw [List.length_map] at hj
            rw [List.getElem?_map, List.getElem?_eq_getElem hj] at hy
            obtain rfl := Option.some.inj hy
            have hj2 : j < UL.length := by rw [paired_len puas]; exact hj
            have hpt : PtAt H14 UL[j] uas[j] := PtAt.mono (paired_get puas hj2 hj) A.1
            refine ⟨rfl, yes1 ⟨_, rfl, _, rfl, uas[j], d2, UL[j], qs2, rfl, rfl, hpt, pd13.same A.1, _, A.at', ?_, ?_⟩⟩
            · rw [List.length_map, List.length_map, List.length_take]
              exact Nat.lt_of_le_of_lt (show _ ≤ 400 by omega) (by decide)
            · rw [← List.take_append_getElem hj2, List.map_append, List.map_append]
              exact A.push
          intro H14 A
          rw [List.length_map, ← paired_len puas, List.take_length] at A
          refine ⟨D, _, rfl, SqL.of A.at', _, rfl, ?_⟩
          have s14 : Same H5 H14 := same_tr s8 (same_tr s11' (same_tr s13' A.1))
          have hall : ((UL.map fun q => !decide (q ∈ qs2)).all id = true) ↔ ∀ q ∈ spots t, dee I q = some (false, vb) → ¬ Rch (stp I) (barS I vb) ((spots t)[i], .deed) (q, .deed) := by
            rw [List.all_eq_true]
            constructor
            · intro h5 q hq1 hq2 hr1
              have hq3 : (q, W.deed) ∈ UL := by rw [← hUL]; exact mem_ptsOf.mpr ⟨rfl, by rw [hI]; exact hq2⟩
              have := h5 _ (List.mem_map.mpr ⟨_, hq3, rfl⟩)
              rw [decide_eq_true ((hm _).mpr hr1)] at this
              cases this
            · intro h5 bb hbb
              obtain ⟨q, hq3, rfl⟩ := List.mem_map.mp hbb
              obtain ⟨q, wq⟩ := q
              rw [← hUL] at hq3
              obtain ⟨e1, e2⟩ := mem_ptsOf.mp hq3
              have e1' : wq = .deed := e1
              subst e1'
              rw [hI] at e2
              have hqs : q ∈ spots t := by
                refine (mem_spots q t).mpr ?_
                rw [← inf_get (P := pl), hI]
                unfold dee at e2
                cases q5 : I q with
                | none => rw [q5] at e2; cases e2
                | some _ => rfl
              show (!decide ((q, W.deed) ∈ qs2)) = true
              rw [decide_eq_false (fun h6 => h5 q hqs e2 ((hm _).mp h6))]
              rfl
          refine ite2 (fun z2 => ?_) (fun z2 => ?_)
          · obtain ⟨g1, g2⟩ := kY H14 _ _ _ s14 ⟨vb, by rw [hdee, q], (hmem _).mp (of_decide_eq_true z), hall.mp z2⟩
            exact ⟨g1, _, rfl, g2⟩
          · exact kN H14 _ _ _ s14 (fun ⟨v, e1, _, e3⟩ => by
              rw [hdee, q] at e1
              obtain ⟨_, rfl⟩ := Prod.mk.inj (Option.some.inj e1)
              exact z2 (hall.mpr e3))
        case neg => exact kN H8 _ _ _ s8 (fun ⟨v, e1, e2, _⟩ => z (decide_eq_true ((hmem _).mpr e2)))
    · rintro ys σ H5 ⟨v1, v2, v3, ya, rfl, rfl, s5, pya⟩
      rw [List.length_map, ← paired_len pps, List.take_length] at pya
      refine k _ ya (same_tr s3' s5) ?_
      unfold idl
      exact (congrArg (fun f => Paired (PaAt H5) (List.filter f (spots t)) ya) (funext fun p => decide_eq_decide.mpr Iff.rfl)).mp pya
end
end Jz
end
section
set_option maxHeartbeats 4000000
/-! the law's plants grow -/
namespace Jz
open PySem PySem.Spec PyProof.Rows L2 ClX StX
def spTreeNew (C : Addr) : Sp := fun vs H Q E => ∃ ws rest, vs = ws ++ rest ∧ ws.length = (["self", "form"] : List Str).length ∧ rest.length ≤ sizeLine ∧ ∀ p, H p = none → spTree C (ws ++ [V.ref p]) (upd H p (.tup rest)) Q E
theorem mkTree {C : Addr} {H : Hp} {f : Fm} {a b : Bool} {ks : List Tr} {ps : List Pv} {Q : V → Hp → Prop} (hrw : ∀ r as, Pv.rw r as ∈ ps → H r = some (.tup (rl as))) (hk : ps.map Pv.k = kinds f a b) (hl : (kidsA ps).length = ks.length)
    (hc : ∀ (i : Nat) k c, ks[i]? = some k → (kidsA ps)[i]? = some c → TrAt C H k c) (hz : size (.node f a b ks) ≤ 400) (hh : height (.node f a b ks) ≤ 100) (k : ∀ H' y, Same H H' → TrAt C H' (.node f a b ks) y → Q (.ref y) H') {E : XK} :
    ∀ x dx, H x = none → H dx = none → dx ≠ x → spTreeNew C (.ref x :: (.str (fmN f) :: ps.map Pv.v)) (upd (upd H dx (.own x)) x (.ins C dx [])) (fun v H2 => v = .non ∧ Q (.ref x) H2) E := by
  intro x dx hx hdx hne
  have hpl : ps.length ≤ 2 := by
    have := congrArg List.length hk
    rw [List.length_map] at this
    rw [this]
    exact kinds_len f a b
  refine ⟨[.ref x, .str (fmN f)], ps.map Pv.v, rfl, rfl, ?_, fun p hp => ?_⟩
  · rw [List.length_map]; exact Nat.le_trans hpl (by decide)
  have hpx : p ≠ x := fun z => by rw [z, upd_same] at hp; cases hp
  have s0 : Same H (upd (upd H dx (.own x)) x (.ins C dx [])) := fun b o e => by rw [upd_ne (ne_of_none e hx), upd_ne (ne_of_none e hdx)]; exact e
  refine ⟨H, x, dx, p, f, a, b, ks, ps, rfl, same_tr s0 (same_new hp _), hx, ?_, upd_same, hrw, hk, hl, hc, hz, hh, fun H' s ht => ⟨rfl, k H' x s ht⟩⟩
  rw [upd_ne hpx.symm]
  exact upd_same
def spGrown (K : PySem.W.Frag) (n : Nat) : Sp := fun vs H Q _ => ∃ t x, vs = [.ref x] ∧ PlAt H t x ∧ height t ≤ n ∧ n ≤ 8 ∧ size t ≤ 400 ∧ ∀ H' y, Same H H' → Tt K H' t y → Q (.ref y) H'
theorem kidsA_split {ps : List Pv} {i : Nat} (hi : i < ps.length) : kidsA ps = kidsA (ps.take i) ++ ps[i].as ++ kidsA (ps.drop (i + 1)) := by
  have e : ps = ps.take i ++ ps[i] :: ps.drop (i + 1) := by rw [← List.drop_eq_getElem_cons hi, List.take_append_drop]
  have : kidsA ps = kidsA (ps.take i ++ ps[i] :: ps.drop (i + 1)) := congrArg kidsA e
  rw [this]
  unfold kidsA
  rw [List.flatMap_append, List.flatMap_cons, List.append_assoc]
theorem kidsA_at {ps : List Pv} {i j : Nat} {c : Addr} (hi : i < ps.length) (hj : ps[i].as[j]? = some c) : (kidsA ps)[(kidsA (ps.take i)).length + j]? = some c := by
  have h1 := (List.getElem?_eq_some_iff.mp hj).1
  rw [kidsA_split hi, List.append_assoc, List.getElem?_append_right (by omega), Nat.add_sub_cancel_left, List.getElem?_append_left h1, hj]
/-- what stands so far of the parts of a tree (F: what is asked of a kid) -/
structure Gr (F : Tr → Addr → Prop) (R : Addr → List Addr → Prop) (ks : List Tr) (ps ps' : List Pv) : Prop where
  k : ps'.map Pv.k = ps.map Pv.k
  l : (kidsA ps').length = (kidsA ps).length
  c : ∀ (i : Nat) kd c, ks[i]? = some kd → (kidsA ps')[i]? = some c → F kd c
  r : ∀ r as, Pv.rw r as ∈ ps' → R r as
theorem kidsA_snoc {ps : List Pv} {p : Pv} : kidsA (ps ++ [p]) = kidsA ps ++ p.as := by unfold kidsA; rw [List.flatMap_append, List.flatMap_singleton]
theorem Gr.snoc {F : Tr → Addr → Prop} {R : Addr → List Addr → Prop} {ks : List Tr} {ps ps' : List Pv} {p p' : Pv} (g : Gr F R ks ps ps') (hk : p'.k = p.k) (hl : p'.as.length = p.as.length) (hc : ∀ (j : Nat) kd c, ks[(kidsA ps).length + j]? = some kd → p'.as[j]? = some c → F kd c)
    (hr : ∀ r as, p' = .rw r as → R r as) : Gr F R ks (ps ++ [p]) (ps' ++ [p']) := by
  refine ⟨by rw [List.map_append, List.map_append, g.k, List.map_singleton, List.map_singleton, hk], by rw [kidsA_snoc, kidsA_snoc, List.length_append, List.length_append, g.l, hl], fun i kd c h1 h2 => ?_, fun r as h => ?_⟩
  · rw [kidsA_snoc] at h2
    by_cases h : i < (kidsA ps').length
    · rw [List.getElem?_append_left h] at h2
      exact g.c i kd c h1 h2
    · rw [List.getElem?_append_right (by omega)] at h2
      refine hc (i - (kidsA ps').length) kd c ?_ h2
      rw [← g.l, show (kidsA ps').length + (i - (kidsA ps').length) = i by omega]
      exact h1
  · rcases List.mem_append.mp h with h | h
    · exact g.r r as h
    · exact hr r as (List.mem_singleton.mp h).symm
theorem Gr.imp {F F' : Tr → Addr → Prop} {R R' : Addr → List Addr → Prop} {ks : List Tr} {ps ps' : List Pv} (g : Gr F R ks ps ps') (h1 : ∀ k c, F k c → F' k c) (h2 : ∀ r as, R r as → R' r as) : Gr F' R' ks ps ps' := ⟨g.k, g.l, fun i k c a b => h1 _ _ (g.c i k c a b), fun r as h => h2 _ _ (g.r r as h)⟩
theorem Gr.nil {F : Tr → Addr → Prop} {R : Addr → List Addr → Prop} {ks : List Tr} : Gr F R ks [] [] := ⟨rfl, rfl, fun _ _ _ _ h => (nomatch h), fun _ _ h => (nomatch h)⟩
/-- a tree stands while lists change -/
theorem tr_lst {C : Addr} {H : Hp} {D : Addr} {xs ys : List V} (h : H D = some (.lst xs)) : ∀ {t : Tr} {x : Addr}, TrAt C H t x → TrAt C (upd H D (.lst ys)) t x := by
  intro t x ht
  have s : Same (rm H D) (upd H D (.lst ys)) := fun b o e => by
    by_cases q : b = D
    · rw [q, rm_x] at e; cases e
    · rw [rm_ne q] at e; rw [upd_ne q]; exact e
  have up : ∀ {b : Addr} {o : HO}, H b = some o → (∀ z, o ≠ .lst z) → rm H D b = some o := fun {b o} e ho => by
    rw [rm_ne (fun z => by rw [z, h] at e; exact ho xs (Option.some.inj e).symm)]
    exact e
  refine TrAt.mono s ?_
  have tm : ∀ {t : Tr} {x : Addr}, TmAt H t x → TmAt (rm H D) t x := fun h => by
    induction h with
    | mk hx hp hq hk hl _ ih =>
      refine .mk (up hx (fun _ z => nomatch z)) (up hp (fun _ z => nomatch z)) (Paired.mapP hq fun q p z => ?_) hk hl ih
      cases p with
      | tx _ => exact up z (fun _ z => nomatch z)
      | on _ => exact z
      | rw _ _ => exact ⟨up z.1 (fun _ z => nomatch z), up z.2 (fun _ z => nomatch z)⟩
  induction ht with
  | mk hx hg hr hk hb hl hs ht _ ih =>
    obtain ⟨qs, e1, e2⟩ := hs
    exact .mk (up hx (fun _ z => nomatch z)) (up hg (fun _ z => nomatch z)) (fun r as hm => up (hr r as hm) (fun _ z => nomatch z)) hk (up hb (fun _ z => nomatch z)) hl ⟨qs, up e1 (fun _ z => nomatch z), Paired.mapP e2 fun _ _ z => up z (fun _ z => nomatch z)⟩ (tm ht) ih
end Jz
end
section
set_option maxHeartbeats 4000000
set_option pp.maxSteps 150
/-! the law's plants grow: the walk -/
namespace Jz
open PySem PySem.Spec PyProof.Rows L2 ClX StX
theorem not_whole {v : V} {xs : List V} (z : HT.sIx (v :: xs).length 0 (some 1) = 0 ∧ HT.sIx (v :: xs).length (v :: xs).length none = (v :: xs).length) : False := by
  have z1 := z.1
  have := HT.sIx_nat (v :: xs).length 0 1
  rw [show ((1 : Nat) : Int) = 1 from rfl] at this
  rw [this, List.length_cons] at z1
  omega
theorem PlAt.tup {H : Hp} {t : Tr} {x : Addr} (h : PlAt H t x) : ∃ xs, H x = some (.tup (.str (fmN t.f) :: xs)) := by
  cases h with
  | mk h1 => exact ⟨_, h1⟩
theorem at0 {v : V} {xs : List V} : atI (v :: xs) 0 = some v := atI_nat (j := 0) rfl
theorem at1 {v u : V} {xs : List V} : atI (v :: u :: xs) 1 = some u := atI_nat (j := 1) rfl
section
variable {P : Program} {w : World} {K : PySem.W.Frag} {mg : Str → Option Value} {base : Heap}
abbrev sGrown : Stmt := top 58
theorem sc_grown : FnScope ["_law_plant", "_law_rows", "_law_own", "_law_item"] ["_law_plant"] (defScope sGrown) := ⟨rfl, rfl, rfl, by decide +kernel, rfl, by decide +kernel, by decide +kernel⟩
theorem g_grown (T : Tx K mg) : ∀ n, GF P w K mg base (n + 4) "_law_grown" ["_law_plant"] (spGrown K n) := by
  intro n
  induction n with
  | zero =>
    refine gf_of T.m__law_grown T.d__law_grown (fun _ _ _ _ _ _ us hl => match us, hl with | [_], _ => rfl) fun fd F => F.ok sc_grown (fun vs H Q E h => ?_) (fun cdv A outer s H vs Q E hr h => ?_)
    · obtain ⟨t, x, rfl, _⟩ := h
      rfl
    · exfalso
      obtain ⟨t, x, rfl, _, hh, _⟩ := h
      cases t with
      | node f a b ks => rw [height] at hh; omega
  | succ n ih =>
    refine gf_of T.m__law_grown T.d__law_grown (fun _ _ _ _ _ _ us hl => match us, hl with | [_], _ => rfl) fun fd F => F.ok sc_grown (fun vs H Q E h => ?_) (fun cdv A outer s H vs Q E hr h => ?_)
    · obtain ⟨t, x, rfl, _⟩ := h
      rfl
    · obtain ⟨t, x, rfl, ht, hh, hn8, hz, k⟩ := h
      have hr3 : Room (2 + 1) _ := hr.mono (by omega)
      refine ⟨_, PSs.nox <| pss_cons (ps_set (i := 1) sc_grown.nd rfl (.inl rfl) (pe_lst pa_nil))
        (pss_cons (ps_for PassesOwn.never rfl (pi_tup (pe_slice sl_tupA (pv 0) (po_some pe_int) po_none)) (pg_name (i := 2) sc_grown.nd rfl (.inl rfl))
          (pss_one (ps_if (pt_val (pe_isi T.n_isinstance (pv 2) (pe_ty T.n_list rfl)))
            (pss_one (ps_expr (pe_app (pv 1) (pe_callTy call_tuple_of (by rfl) T.n_tuple (by decide +kernel) (pa_cons
              (pe_lc (own := [("_law_item", 3)]) (g := gName 3) (te := tCall (spGrown K n) [] E0 (tCons (tVar 3) tNil)) (by rfl) sc_grown.nd (pi_list (pv 2)) (blkOk_by (own := [("_law_item", 3)]) (N := ["_law_plant", "_law_rows", "_law_own", "_law_item"]) (sc := defScope sGrown) (by decide +kernel))
                (fun _ _ _ _ _ => pg_name (i := 3) sc_grown.nd rfl (Or.inl rfl)) (fun _ _ _ _ _ => pts_nil) (fun _ _ _ _ _ => pe_g ih hr (pa_cons (pv 3) pa_nil))) pa_nil)))))
            (pss_one (ps_expr (pe_app (pv 1) (pe_ifExp (pt_val (pe_isi T.n_isinstance (pv 2) (pe_ty T.n_str rfl))) (pv 2) (pe_g ih hr (pa_cons (pv 2) pa_nil)))))))))
        (pss_cons (ps_if (pt_cmpR op_eq (pe_callB call_len_seq (by rfl) T.n_len PySem.boot_len (pa_cons (pv 1) pa_nil)) pe_int (nomark _)) (pss_one (ps_ret (pe_kr (k_tree T) hr3 (pa_cons (pe_ix ix_tup (pv 0) pe_int (fun _ _ => rfl)) pa_nil)))) pss_nil)
        (pss_one (ps_ret (pe_ifExp (pt_cmpR op_eq (pe_callB call_len_seq (by rfl) T.n_len PySem.boot_len (pa_cons (pv 1) pa_nil)) pe_int (nomark _))
          (pe_kr (k_tree T) hr3 (pa_cons (pe_ix ix_tup (pv 0) pe_int (fun _ _ => rfl)) (pa_cons (pe_ix ix_list (pv 1) pe_int (fun _ _ => rfl)) pa_nil)))
          (pe_kr (k_tree T) hr3 (pa_cons (pe_ix ix_tup (pv 0) pe_int (fun _ _ => rfl)) (pa_cons (pe_ix ix_list (pv 1) pe_int (fun _ _ => rfl)) (pa_cons (pe_ix ix_list (pv 1) pe_int (fun _ _ => rfl)) pa_nil))))))))), ?_⟩
      cases ht with
      | mk hx hrw hk hl hc =>
      rename_i f a b ks ps
      have hpl : ps.length ≤ 2 := by
        have := congrArg List.length hk
        rw [List.length_map] at this
        rw [this]
        exact kinds_len f a b
      have hks : ks.length ≤ 400 := by
        have := size_ks (.node f a b ks)
        have e : (Tr.node f a b ks).ks.length = ks.length := rfl
        omega
      have kidP : ∀ {H' : Hp}, Same H H' → ∀ (i : Nat) kd c, ks[i]? = some kd → (kidsA ps)[i]? = some c → PlAt H' kd c ∧ height kd ≤ n ∧ n ≤ 8 ∧ size kd ≤ 400 := fun s' i kd c h1 h2 => by
        have hm := List.mem_of_getElem? h1
        have h3 := height_kid hm
        have h4 := size_kid (t := .node f a b ks) (k := kd) hm
        rw [height] at hh
        exact ⟨(hc i kd c h1 h2).mono s', by omega, by omega, by omega⟩
      refine ⟨Nat.zero_le _, fun lr hlr => ?_⟩
      have A0 : Acc H lr (([] : List Pv).map Pv.v) (upd H lr (.lst [])) := Acc.start hlr
      refine ⟨_, rfl, _, rfl, x, _, rfl, SqT.of (A0.1 _ _ hx), fun z => (not_whole z).elim, fun _ r0 hr00 => ?_⟩
      have s1 := same_new hr00 (.tup (ps.map Pv.v))
      have hr0 : (upd (upd H lr (.lst [])) r0 (.tup (ps.map Pv.v))) r0 = some (.tup (ps.map Pv.v)) := upd_same
      rw [cutV_one, List.tail_cons]
      generalize upd (upd H lr (.lst [])) r0 (.tup (ps.map Pv.v)) = H1 at *
      have A1 := A0.same s1
      refine ⟨r0, rfl, ⟨_, SqT.of hr0⟩, for_tup (xs := ps.map Pv.v) (fun i σ H' => ∃ v2 ps', σ = [some (.ref x), some (.ref lr), v2, none] ∧ Same (rm H1 lr) H' ∧ Acc H lr (ps'.map Pv.v) H' ∧ Gr (Tt K H') (fun r as => H' r = some (.tup (rl as))) ks (ps.take i) ps')
        ⟨_, [], rfl, rm_same, A1, Gr.nil⟩ (fun i σ H' _ ⟨_, _, _, s', _⟩ => SqT.of (s' _ _ (by rw [rm_ne (ne_of hr0 A1.at' (by intro z; cases z))]; exact hr0))) ?_ ?_⟩
      · rintro i y σ H2 hy ⟨v2, ps', rfl, sT, A, gr⟩
        have hi := (List.getElem?_eq_some_iff.mp hy).1
        rw [List.length_map] at hi
        rw [List.getElem?_map, List.getElem?_eq_getElem hi] at hy
        obtain rfl := Option.some.inj hy
        have hm : ps[i] ∈ ps := List.getElem_mem hi
        have hp'l : ps'.length ≤ 2 := by
          have := congrArg List.length gr.k
          rw [List.length_map, List.length_map, List.length_take] at this
          omega
        have tk : ps.take (i + 1) = ps.take i ++ [ps[i]] := (List.take_append_getElem hi).symm
        have push : ∀ (H3 : Hp) (p' : Pv) (v2 : Option V), Same H2 H3 → p'.k = ps[i].k → p'.as.length = ps[i].as.length → (∀ (j : Nat) kd c, ks[(kidsA (ps.take i)).length + j]? = some kd → p'.as[j]? = some c → Tt K H3 kd c) → (∀ r as, p' = .rw r as → H3 r = some (.tup (rl as))) →
            H3 lr = some (.lst (ps'.map Pv.v)) ∧ (ps'.map Pv.v).length < sizeLine ∧ ∃ v2' ps'', [some (V.ref x), some (.ref lr), v2, none] = [some (.ref x), some (.ref lr), v2', none] ∧ Same (rm H1 lr) (upd H3 lr (.lst (ps'.map Pv.v ++ [p'.v]))) ∧ Acc H lr (ps''.map Pv.v) (upd H3 lr (.lst (ps'.map Pv.v ++ [p'.v]))) ∧
              Gr (Tt K (upd H3 lr (.lst (ps'.map Pv.v ++ [p'.v])))) (fun r as => (upd H3 lr (.lst (ps'.map Pv.v ++ [p'.v]))) r = some (.tup (rl as))) ks (ps.take (i + 1)) ps'' := fun H3 p' v2 s3 e1 e2 e3 e4 => by
          have A3 := A.same s3
          refine ⟨A3.at', ?_, v2, ps' ++ [p'], rfl, fun b o e => ?_, ?_, ?_⟩
          · rw [List.length_map]; exact Nat.lt_of_le_of_lt hp'l (by decide)
          · by_cases q : b = lr
            · rw [q, rm_x] at e; cases e
            · rw [upd_ne q]; exact same_tr sT s3 _ _ e
          · rw [List.map_append]; exact A3.push
          · rw [tk]
            refine Gr.imp ((gr.imp (fun _ _ z => z.mono s3) (fun _ _ z => s3 _ _ z)).snoc (p := ps[i]) (p' := p') e1 e2 e3 e4) (fun _ _ z => tr_lst A3.at' z) (fun r as z => ?_)
            rw [upd_ne (ne_of z A3.at' (by intro z; cases z))]
            exact z
        cases hp : ps[i] with
        | tx z =>
          rw [hp] at push
          refine ⟨_, rfl, .str z, .ty "list", _, _, false, rfl, .ty "list", .base (.str z), kit_ty (by decide +kernel), false, rfl, iteF ?_⟩
          refine ⟨_, rfl, .inl ⟨rfl, _, SqL.of A.at'⟩, _, rfl, .str z, .ty "str", _, _, true, rfl, .ty "str", .base (.str z), kit_ty (by decide +kernel), true, rfl, iteT ⟨_, rfl, ?_⟩⟩
          obtain ⟨q1, q2, q3⟩ := push H2 (.tx z) (some (.str z)) same_rfl rfl rfl (fun j kd c _ h => nomatch h) (fun _ _ h => nomatch h)
          exact ⟨lr, _, _, rfl, rfl, q1, q2, q3⟩
        | on c =>
          rw [hp] at push
          have hcA := kidsA_at (c := c) (j := 0) hi (by rw [hp]; rfl)
          have hlt : (kidsA (ps.take i)).length + 0 < ks.length := by
            rw [← hl]
            exact (List.getElem?_eq_some_iff.mp hcA).1
          obtain ⟨pc1, pc2, pc3, pc4⟩ := kidP A.1 _ _ _ (List.getElem?_eq_getElem hlt) hcA
          obtain ⟨xs, hcx⟩ := pc1.tup
          refine ⟨_, rfl, .ref c, .ty "list", _, _, false, rfl, .ty "list", .base (.tup hcx), kit_ty (by decide +kernel), false, rfl, iteF ?_⟩
          refine ⟨_, rfl, .inl ⟨rfl, _, SqL.of A.at'⟩, _, rfl, .ref c, .ty "str", _, _, false, rfl, .ty "str", .base (.tup hcx), kit_ty (by decide +kernel), false, rfl, iteF ?_⟩
          refine ⟨_, rfl, _, c, rfl, pc1, pc2, pc3, pc4, fun H3 y s3 hy3 => ?_⟩
          have hone : ∀ (j : Nat) kd c', ks[(kidsA (ps.take i)).length + j]? = some kd → (Pv.on y).as[j]? = some c' → Tt K H3 kd c' := fun j kd c' h1 h2 => by
            cases j with
            | zero =>
              rw [List.getElem?_eq_getElem hlt] at h1
              cases h1
              cases h2
              exact hy3
            | succ _ => cases h2
          obtain ⟨q1, q2, q3⟩ := push H3 (.on y) (some (.ref c)) s3 rfl rfl hone (fun _ _ h => nomatch h)
          exact ⟨lr, _, _, rfl, rfl, q1, q2, q3⟩
        | rw r as =>
          rw [hp] at push
          have er := hrw r as (hp ▸ hm)
          have er2 := A.1 _ _ er
          refine ⟨_, rfl, .ref r, .ty "list", _, _, true, rfl, .ty "list", .base (.lst er2), kit_ty (by decide +kernel), true, rfl, iteT ?_⟩
          refine ⟨_, rfl, .inl ⟨rfl, _, SqL.of A.at'⟩, _, rfl, r, rfl, ⟨_, SqL.of er2⟩, fun D hD => lc_list (xs := rl as) (fun j H' => ∃ ys, Acc H2 D (rl ys) H' ∧ ys.length = j ∧ ∀ (j' : Nat) kd c, ks[(kidsA (ps.take i)).length + j']? = some kd → ys[j']? = some c → Tt K H' kd c) ⟨[], Acc.start hD, rfl, fun _ _ _ _ h => nomatch h⟩ (fun j H' _ ⟨_, B, _⟩ => SqL.of (B.1 _ _ er2)) ?_ ?_⟩
          · rintro j z H3 hz3 ⟨ys, B, hyl, hys⟩
            rw [List.getElem?_map] at hz3
            obtain ⟨c, hc3, rfl⟩ := Option.map_eq_some_iff.mp hz3
            have hcA := kidsA_at (c := c) (j := j) hi (by rw [hp]; exact hc3)
            have hlt : (kidsA (ps.take i)).length + j < ks.length := by
              rw [← hl]
              exact (List.getElem?_eq_some_iff.mp hcA).1
            obtain ⟨pc1, pc2, pc3, pc4⟩ := kidP (same_tr A.1 B.1) _ _ _ (List.getElem?_eq_getElem hlt) hcA
            refine ⟨rfl, yes1 ⟨_, rfl, _, c, rfl, pc1, pc2, pc3, pc4, fun H4 y s4 hy4 => ?_⟩⟩
            have B4 := B.same s4
            refine ⟨_, B4.at', ?_, ys ++ [y], ?_, by rw [List.length_append, hyl]; rfl, fun j' kd c' h1 h2 => ?_⟩
            · rw [List.length_map, hyl]; exact Nat.lt_of_lt_of_le (show j < 401 by omega) (by decide)
            · unfold rl; rw [List.map_append]; exact B4.push
            · by_cases hj : j' < ys.length
              · rw [List.getElem?_append_left hj] at h2
                exact tr_lst B4.at' ((hys j' kd c' h1 h2).mono s4)
              · rw [List.getElem?_append_right (by omega)] at h2
                have hj2 : j' - ys.length = 0 := by
                  have := (List.getElem?_eq_some_iff.mp h2).1
                  rw [List.length_singleton] at this
                  omega
                rw [hj2] at h2
                cases h2
                rw [show j' = j by omega, List.getElem?_eq_getElem hlt] at h1
                cases h1
                exact tr_lst B4.at' hy4
          · rintro H3 ⟨ys, B, hyl, hys⟩
            rw [List.length_map] at hyl
            refine ⟨D, _, rfl, .inl ⟨SqL.of B.at', fun l2 hl2 => ?_⟩⟩
            obtain ⟨q1, q2, q3⟩ := push (upd H3 l2 (.tup (rl ys))) (.rw l2 ys) (some (.ref r)) (same_tr B.1 (same_new hl2 _)) rfl hyl (fun j' kd c' h1 h2 => (hys j' kd c' h1 h2).mono (same_new hl2 _)) (fun r' as' h => by cases h; exact upd_same)
            exact ⟨lr, _, _, rfl, rfl, q1, q2, q3⟩
      · rintro σ H2 ⟨v2, ps', rfl, sT, A, gr⟩
        rw [List.length_map, List.take_length] at gr
        have hx2 := A.1 _ _ hx
        have hkd : ps'.map Pv.k = kinds f a b := by rw [gr.k]; exact hk
        have hld : (kidsA ps').length = ks.length := by rw [gr.l]; exact hl
        have mk := mkTree (C := cA K "Tree") (Q := Q) (E := E0) gr.r hkd hld gr.c hz (Nat.le_trans hh (Nat.le_trans hn8 (by decide))) (fun H' y s' hy => k H' y (same_tr A.1 s') hy)
        have hp'l : ps'.length ≤ 2 := by
          rw [← List.length_map (f := Pv.k), hkd]
          exact kinds_len f a b
        refine ⟨_, rfl, lr, _, rfl, .inl (SqL.of A.at'), rfl, _, rfl, ?_⟩
        match ps', hp'l, A, mk with
        | [], _, A, mk => exact ifP (by show decide (V.int ((0 : Nat) : Int) = V.int 0) = true; decide) ⟨_, rfl, x, _, _, _, rfl, rfl, SqT.of hx2, at0, mk⟩
        | [p0], _, A, mk =>
          refine ifN (by show ¬ decide (V.int ((1 : Nat) : Int) = V.int 0) = true; decide) ⟨_, rfl, lr, _, rfl, .inl (SqL.of A.at'), rfl, _, rfl, ?_⟩
          exact ifP (by show decide (V.int ((1 : Nat) : Int) = V.int 1) = true; decide) ⟨_, rfl, x, _, _, _, rfl, rfl, SqT.of hx2, at0, _, rfl, lr, _, _, p0.v, rfl, rfl, SqL.of A.at', at0, mk⟩
        | [p0, p1], _, A, mk =>
          refine ifN (by show ¬ decide (V.int ((2 : Nat) : Int) = V.int 0) = true; decide) ⟨_, rfl, lr, _, rfl, .inl (SqL.of A.at'), rfl, _, rfl, ?_⟩
          exact ifN (by show ¬ decide (V.int ((2 : Nat) : Int) = V.int 1) = true; decide) ⟨_, rfl, x, _, _, _, rfl, rfl, SqT.of hx2, at0, _, rfl, lr, _, _, p0.v, rfl, rfl, SqL.of A.at', at0, _, rfl, lr, _, _, p1.v, rfl, rfl, SqL.of A.at', at1, mk⟩
        | _ :: _ :: _ :: _, h, _, _ => simp at h
end
end Jz
end
section
set_option maxHeartbeats 4000000
set_option pp.maxSteps 150
/-! jumps stopped -/
namespace Jz
open PySem PySem.Spec PyProof.Rows L2 ClX StX
def actZ : Option Bool → Str
  | none => ""
  | some true => "set"
  | some false => "use"
def slZ (f : Fm) (p : Pd) : Str := if p.ac = none then "" else slotN f
/-- the law's plans -/
def PlansAt (H : Hp) (pl : Fm → Pd) (d : Addr) : Prop := ∃ kvs, H d = some (.dK kvs) ∧ (∀ k ∈ kvs, ∃ f, k.1 = (.inr (fmN f) : Key)) ∧ kvs.length ≤ 20 ∧
  ∀ f, (valV kvs (.inr (fmN f) : Key) = none ∧ pl f = ⟨.steps, none⟩) ∨ ∃ a, valV kvs (.inr (fmN f) : Key) = some (.ref a) ∧ H a = some (.tup [.str (odN (pl f).od), .str (actZ (pl f).ac), .str (slZ f (pl f))])
theorem PlansAt.mono {H H' : Hp} (s : Same H H') {pl : Fm → Pd} {d : Addr} (h : PlansAt H pl d) : PlansAt H' pl d :=
  let ⟨kvs, h1, h2, h3, h4⟩ := h
  ⟨kvs, s _ _ h1, h2, h3, fun f => (h4 f).imp id fun ⟨a, e1, e2⟩ => ⟨a, e1, s _ _ e2⟩⟩
/-- what is in H but not in B -/
def nw (B H : Hp) : Hp := fun a => if (B a).isSome = true then none else H a
/-- all of B's places are taken in H -/
def Dm (B H : Hp) : Prop := ∀ a, H a = none → B a = none
section
variable {B B' H H' : Hp} {a : Addr} {o : HO}
theorem nw_at (h : B a = none) (e : H a = some o) : nw B H a = some o := by
  unfold nw
  rw [h, if_neg (by simp)]
  exact e
theorem nw_inv (e : nw B H a = some o) : B a = none ∧ H a = some o := by
  unfold nw at e
  split at e
  · cases e
  · rename_i h
    exact ⟨Option.not_isSome_iff_eq_none.mp h, e⟩
theorem nw_same (s : Same H H') : Same (nw B H) (nw B H') := fun b o e => nw_at (nw_inv e).1 (s _ _ (nw_inv e).2)
theorem nw_sub : Same (nw B H) H := fun b o e => (nw_inv e).2
theorem nw_upd (h : B a ≠ none) : Same (nw B H) (nw B (upd H a o)) := fun b u e => nw_at (nw_inv e).1 (by rw [upd_ne (fun z : b = a => h (by rw [← z]; exact (nw_inv e).1))]; exact (nw_inv e).2)
theorem nw_dom (h : Dm B B') : Same (nw B' H) (nw B H) := fun b u e => nw_at (h b (nw_inv e).1) (nw_inv e).2
theorem Dm.of (s : Same H H') : Dm H H' := fun b e => s.free e
theorem Dm.tr {H'' : Hp} (h : Dm H H') (h' : Dm H' H'') : Dm H H'' := fun b e => h b (h' b e)
theorem Dm.upd (h : Dm B H) : Dm B (upd H a o) := fun b e => h b (by
  by_cases q : b = a
  · rw [q, upd_same] at e; cases e
  · rw [upd_ne q] at e; exact e)
theorem Dm.at_ {a : Addr} (h : Dm B H) (e : B a ≠ none) : H a ≠ none := fun z => e (h a z)
end
def spMode (K : PySem.W.Frag) : Sp := fun vs H Q _ => ∃ d x pl t, vs = [.ref d, .ref x] ∧ PlansAt H pl d ∧ PlAt H t x ∧ ∀ H', Same H H' → Q (.str (odN (pl t.f).od)) H'
def spStop (K : PySem.W.Frag) (n : Nat) : Sp := fun vs H Q _ => ∃ d x b pl t, vs = [.ref d, .ref x, .bl b] ∧ PlansAt H pl d ∧ PlAt H t x ∧ height t ≤ n ∧ size t ≤ 400 ∧ ∀ H' y, Same H H' → PlAt (nw H H') (stopped pl b t) y → Q (.ref y) H'
theorem pe_imp {X : Cx} {e : Expr} {t t' : TE} (h : PE X e t) (i : ∀ σ H Q, t' σ H Q → t σ H Q) : PE X e t' := ⟨fun pins s σ H Q I q => h.run pins s σ H Q I (i σ H Q q)⟩
/-- what is inside a loop -/
def tInn : TE := fun σ H Q => ∃ d x bb pl t, σ[0]? = some (some (V.ref d)) ∧ σ[1]? = some (some (V.ref x)) ∧ σ[2]? = some (some (V.bl bb)) ∧ PlansAt H pl d ∧ PlAt H t x ∧ ∀ H2 c, Same H H2 → c = (bb || decide ((pl t.f).od = .loop)) → Q (.bl c) H2
section
variable {P : Program} {w : World} {K : PySem.W.Frag} {mg : Str → Option Value} {base : Heap}
abbrev sMode : Stmt := top 59
theorem sc_mode : FnScope ["_law_plans_so", "_law_plant"] ["_law_plans_so", "_law_plant"] (defScope sMode) := ⟨rfl, rfl, rfl, by decide +kernel, rfl, by decide +kernel, by decide +kernel⟩
theorem g_mode (T : Tx K mg) : GF P w K mg base 1 "_law_mode" ["_law_plans_so", "_law_plant"] (spMode K) := by
  refine gf_of T.m__law_mode T.d__law_mode (fun _ _ _ _ _ _ us hl => match us, hl with | [_, _], _ => rfl) fun fd F => F.ok sc_mode (fun vs H Q E h => ?_) (fun cdv A outer s H vs Q E hr h => ?_)
  · obtain ⟨d, x, pl, t, rfl, _⟩ := h
    rfl
  · obtain ⟨d, x, pl, t, rfl, ⟨kvs, hd, _, _, hp⟩, hx, k⟩ := h
    refine ⟨_, PSs.nox <| pss_one (ps_ret (pe_ix ix_tup (pe_dget2 (hu_of hr) (pv 0) (pe_ix ix_tup (pv 1) pe_int (fun _ _ => rfl)) (pe_tup (pa_cons pe_str (pa_cons pe_str (pa_cons pe_str pa_nil)))) ⟨rfl, rfl, rfl, rfl⟩) pe_int (fun _ _ => rfl))), ?_⟩
    obtain ⟨xs, hxt⟩ := hx.tup
    refine ⟨_, rfl, d, rfl, .inl ⟨kvs, .inl hd⟩, _, rfl, x, _, _, _, rfl, rfl, SqT.of hxt, at0, by show 3 ≤ sizeLine; decide, fun u hu => ?_⟩
    have s1 := same_new hu (.tup [.str "steps", .str "", .str ""])
    refine ⟨_, DGet.k (k := Sum.inr (fmN t.f)) (s1 _ _ hd), ?_⟩
    rcases hp t.f with ⟨e1, e2⟩ | ⟨a, e1, e2⟩
    · rw [e1]
      refine ⟨u, _, _, _, rfl, rfl, SqT.of upd_same, at0, ?_⟩
      have := k _ s1
      rw [e2] at this
      exact this
    · rw [e1]
      exact ⟨a, _, _, _, rfl, rfl, SqT.of (s1 _ _ e2), at0, k _ s1⟩
abbrev sStop : Stmt := top 61
theorem sc_stop : FnScope ["_law_plans_so", "_law_plant", "_law_is_inside", "_law_inner", "_law_found", "_law_own", "_law_item"] ["_law_plans_so", "_law_plant", "_law_is_inside"] (defScope sStop) := ⟨rfl, rfl, rfl, by decide +kernel, rfl, by decide +kernel, by decide +kernel⟩
theorem g_stop (T : Tx K mg) : ∀ n, GF P w K mg base (n + 2) "_law_stopped" ["_law_plans_so", "_law_plant", "_law_is_inside"] (spStop K n) := by
  intro n
  induction n with
  | zero =>
    refine gf_of T.m__law_stopped T.d__law_stopped (fun _ _ _ _ _ _ us hl => match us, hl with | [_, _, _], _ => rfl) fun fd F => F.ok sc_stop (fun vs H Q E h => ?_) (fun cdv A outer s H vs Q E hr h => ?_)
    · obtain ⟨d, x, b, pl, t, rfl, _⟩ := h
      rfl
    · exfalso
      obtain ⟨d, x, b, pl, t, rfl, _, _, hh, _⟩ := h
      cases t with
      | node f a b ks => rw [height] at hh; omega
  | succ n ih =>
    refine gf_of T.m__law_stopped T.d__law_stopped (fun _ _ _ _ _ _ us hl => match us, hl with | [_, _, _], _ => rfl) fun fd F => F.ok sc_stop (fun vs H Q E h => ?_) (fun cdv A outer s H vs Q E hr h => ?_)
    · obtain ⟨d, x, b, pl, t, rfl, _⟩ := h
      rfl
    · obtain ⟨d, x, bb, pl, t, rfl, hp, ht, hh, hz, k⟩ := h
      have hr1 : Room 1 _ := hr.mono (by omega)
      refine ⟨_, PSs.nox <| pss_cons (ps_if (PW.pt (pw_and (pt_cmpR op_in_seq (pe_ix ix_tup (pv 1) pe_int (fun _ _ => rfl)) (pe_tup (pa_cons pe_str (pa_cons pe_str pa_nil))) (by rfl)) (pw_and1 (pt_not (pt_val (pv 2)))))) (pss_one (ps_ret (pe_tup (pa_cons pe_str pa_nil)))) pss_nil)
        (pss_cons (ps_asg (pe_tup (pa_cons (pe_imp (t' := tInn) (pe_or (pv 2) (pe_one (pe_cmpR op_eq (pe_g (g_mode T) hr1 (pa_cons (pv 0) (pa_cons (pv 1) pa_nil))) pe_str (nomark _)))) (fun σ H Q ⟨d, x, bb, pl, t, e0, e1, e2, hp, ht, k⟩ => ⟨_, e2, bb, rfl, ite2 (fun z => k H true same_rfl (by rw [z]; rfl)) (fun z => ⟨_, e0, _, e1, d, x, pl, t, rfl, hp, ht, fun H2 s2 => ⟨rfl, k H2 _ s2 (by
                rw [Bool.eq_false_iff.mpr z, Bool.false_or]
                exact odN_eq _ .loop)⟩⟩)⟩)) (pa_cons (pe_lst (pa_cons (pe_ix ix_tup (pv 1) pe_int (fun _ _ => rfl)) pa_nil)) pa_nil)))
            (pg_tup rfl (pgs_cons (pg_name (i := 3) sc_stop.nd rfl (.inr rfl)) (pgs_cons (pg_name (i := 4) sc_stop.nd rfl (.inl rfl)) pgs_nil))))
        (pss_cons (ps_for PassesOwn.never rfl (pi_tup (pe_slice sl_tupA (pv 1) (po_some pe_int) po_none)) (pg_name (i := 5) sc_stop.nd rfl (.inl rfl))
          (pss_one (ps_if (pt_val (pe_isi T.n_isinstance (pv 5) (pe_ty T.n_list rfl)))
            (pss_one (ps_expr (pe_app (pv 4) (pe_lc (own := [("_law_item", 6)]) (g := gName 6) (te := tCall (spStop K n) [] E0 (tCons (tVar 0) (tCons (tVar 6) (tCons (tVar 3) tNil)))) (by rfl) sc_stop.nd (pi_list (pv 5))
                (blkOk_by (own := [("_law_item", 6)]) (N := ["_law_plans_so", "_law_plant", "_law_is_inside", "_law_inner", "_law_found", "_law_own", "_law_item"]) (sc := defScope sStop) (by decide +kernel))
                (fun _ _ _ _ _ => pg_name (i := 6) sc_stop.nd rfl (Or.inl rfl)) (fun _ _ _ _ _ => pts_nil) (fun _ _ _ _ _ => pe_g ih hr (pa_cons (pv 0) (pa_cons (pv 6) (pa_cons (pv 3) pa_nil))))))))
            (pss_one (ps_expr (pe_app (pv 4) (pe_ifExp (pt_val (pe_isi T.n_isinstance (pv 5) (pe_ty T.n_str rfl))) (pv 5) (pe_g ih hr (pa_cons (pv 0) (pa_cons (pv 5) (pa_cons (pv 3) pa_nil)))))))))))
        (pss_one (ps_ret (pe_callTy call_tuple_of (by rfl) T.n_tuple (by decide +kernel) (pa_cons (pv 4) pa_nil)))))), ?_⟩
      cases ht with
      | mk hx hrw hk hl hc =>
      rename_i f a b ks ps
      have hT : PlAt H (.node f a b ks) x := .mk hx hrw hk hl hc
      have hpl : ps.length ≤ 2 := by
        have := congrArg List.length hk
        rw [List.length_map] at this
        rw [this]
        exact kinds_len f a b
      have hks : ks.length ≤ 400 := by
        have := size_ks (.node f a b ks)
        have e : (Tr.node f a b ks).ks.length = ks.length := rfl
        omega
      have hkk : (kidsA ps).length = ks.length := hl
      have kidP : ∀ {H' : Hp}, Same H H' → ∀ (i : Nat) kd c, ks[i]? = some kd → (kidsA ps)[i]? = some c → PlAt H' kd c ∧ height kd ≤ n ∧ size kd ≤ 400 := fun s' i kd c h1 h2 => by
        have hm := List.mem_of_getElem? h1
        have h3 := height_kid hm
        have h4 := size_kid (t := .node f a b ks) (k := kd) hm
        rw [height] at hh
        exact ⟨(hc i kd c h1 h2).mono s', by omega, by omega⟩
      have einv : inV (V.str (fmN f)) [.str "Leave", .str "Again"] = decide (f = .leave ∨ f = .again) := by cases f <;> decide +kernel
      refine ⟨_, rfl, x, _, _, _, rfl, rfl, SqT.of hx, at0, by show 2 ≤ sizeLine; decide, fun u hu => ⟨u, _, rfl, .inr (SqT.of upd_same), rfl, rfl, _, rfl, ?_⟩⟩
      have s1 := same_new hu (.tup [.str "Leave", .str "Again"])
      generalize upd H u (.tup [.str "Leave", .str "Again"]) = H1 at *
      rw [if_neg Bool.false_ne_true, einv]
      refine (fun (w0 : ¬ ((f = .leave ∨ f = .again) ∧ bb = false) → _) => ite2 (fun z => ?_) (fun z => w0 fun q => z (decide_eq_true q.1))) ?_
      · refine ⟨_, rfl, bb, rfl, ?_⟩
        refine ite2 (fun z2 => ?_) (fun z2 => w0 fun q => z2 (by rw [q.2]; rfl))
        have hb : bb = false := by cases bb <;> first | rfl | cases z2
        have hf : f = .leave ∨ f = .again := of_decide_eq_true z
        refine ⟨by show 1 ≤ sizeLine; decide, fun y hy => k _ y (same_tr s1 (same_new hy _)) ?_⟩
        rw [stopped_yes ⟨hf, hb⟩]
        refine .mk (ps := []) (nw_at (s1.free hy) upd_same) (fun _ _ h => nomatch h) rfl rfl (fun i _ _ h => nomatch h)
      intro hno
      refine iteF ?_
      refine ⟨d, x, bb, pl, _, rfl, rfl, rfl, hp.mono s1, hT.mono s1, ?_⟩
      intro H2 c s2 ec
      have s2H := same_tr s1 s2
      refine ⟨_, rfl, x, _, _, _, rfl, rfl, SqT.of (s2H _ _ hx), at0, by show 1 ≤ sizeLine; decide, fun lr hlr => ⟨by show 2 ≤ sizeLine; decide, fun t2 ht2 => ?_⟩⟩
      refine ⟨t2, _, rfl, SqT.of upd_same, rfl, _, _, rfl, _, _, rfl, rfl, ?_⟩
      have AB : Acc H2 lr (.str (fmN f) :: ([] : List Pv).map Pv.v) (upd H2 lr (.lst [.str (fmN f)])) := Acc.startL hlr
      have hBlr : (upd H2 lr (.lst [.str (fmN f)])) lr ≠ none := by rw [upd_same]; intro z; cases z
      generalize upd H2 lr (.lst [.str (fmN f)]) = B at *
      have A0 := AB.new (o := .tup [.bl c, .ref lr]) ht2
      have D0 : Dm B (upd B t2 (.tup [.bl c, .ref lr])) := Dm.of (same_new ht2 _)
      generalize upd B t2 (.tup [.bl c, .ref lr]) = H3 at *
      refine ⟨_, rfl, _, rfl, x, _, rfl, SqT.of (A0.1 _ _ (s2H _ _ hx)), fun z => (not_whole z).elim, fun _ r0 hr00 => ?_⟩
      rw [cutV_one, List.tail_cons]
      have A1 := A0.new (o := .tup (ps.map Pv.v)) hr00
      have D1 : Dm B (upd H3 r0 (.tup (ps.map Pv.v))) := D0.tr (Dm.of (same_new hr00 _))
      have hr0 : (upd H3 r0 (.tup (ps.map Pv.v))) r0 = some (.tup (ps.map Pv.v)) := upd_same
      generalize upd H3 r0 (.tup (ps.map Pv.v)) = H4 at *
      refine ⟨r0, rfl, ⟨_, SqT.of hr0⟩, for_tup (xs := ps.map Pv.v) (fun i σ H' => ∃ v5 ps', σ = [some (.ref d), some (.ref x), some (.bl bb), some (.bl c), some (.ref lr), v5, none] ∧ Same (rm H4 lr) H' ∧ Acc H2 lr (.str (fmN f) :: ps'.map Pv.v) H' ∧ Dm B H' ∧
          Gr (fun kd y => PlAt (nw B H') (stopped pl c kd) y) (fun r as => nw B H' r = some (.lst (rl as))) ks (ps.take i) ps')
        ⟨_, [], rfl, rm_same, A1, D1, Gr.nil⟩ (fun i σ H' _ ⟨_, _, _, s', _⟩ => SqT.of (s' _ _ (by rw [rm_ne (ne_of hr0 A1.at' (by intro z; cases z))]; exact hr0))) ?_ ?_⟩
      · rintro i y σ H5 hy ⟨v5, ps', rfl, sT, A, dm, gr⟩
        have hi := (List.getElem?_eq_some_iff.mp hy).1
        rw [List.length_map] at hi
        rw [List.getElem?_map, List.getElem?_eq_getElem hi] at hy
        obtain rfl := Option.some.inj hy
        have hm : ps[i] ∈ ps := List.getElem_mem hi
        have s5H := same_tr s2H A.1
        have hp'l : ps'.length ≤ 2 := by
          have := congrArg List.length gr.k
          rw [List.length_map, List.length_map, List.length_take] at this
          omega
        have tk : ps.take (i + 1) = ps.take i ++ [ps[i]] := (List.take_append_getElem hi).symm
        have push : ∀ (H6 : Hp) (p' : Pv) (v5 : Option V), Same H5 H6 → p'.k = ps[i].k → p'.as.length = ps[i].as.length → (∀ (j : Nat) kd y, ks[(kidsA (ps.take i)).length + j]? = some kd → p'.as[j]? = some y → PlAt (nw B H6) (stopped pl c kd) y) → (∀ r as, p' = .rw r as → nw B H6 r = some (.lst (rl as))) →
            H6 lr = some (.lst (.str (fmN f) :: ps'.map Pv.v)) ∧ (V.str (fmN f) :: ps'.map Pv.v).length < sizeLine ∧ ∃ v5' ps'', [some (V.ref d), some (.ref x), some (.bl bb), some (.bl c), some (.ref lr), v5, none] = [some (.ref d), some (.ref x), some (.bl bb), some (.bl c), some (.ref lr), v5', none] ∧
              Same (rm H4 lr) (upd H6 lr (.lst ((V.str (fmN f) :: ps'.map Pv.v) ++ [p'.v]))) ∧ Acc H2 lr (.str (fmN f) :: ps''.map Pv.v) (upd H6 lr (.lst ((V.str (fmN f) :: ps'.map Pv.v) ++ [p'.v]))) ∧ Dm B (upd H6 lr (.lst ((V.str (fmN f) :: ps'.map Pv.v) ++ [p'.v]))) ∧
              Gr (fun kd y => PlAt (nw B (upd H6 lr (.lst ((V.str (fmN f) :: ps'.map Pv.v) ++ [p'.v])))) (stopped pl c kd) y) (fun r as => nw B (upd H6 lr (.lst ((V.str (fmN f) :: ps'.map Pv.v) ++ [p'.v]))) r = some (.lst (rl as))) ks (ps.take (i + 1)) ps'' := fun H6 p' v5 s6 e1 e2 e3 e4 => by
          have A6 := A.same s6
          have up := nw_upd (H := H6) (o := .lst ((V.str (fmN f) :: ps'.map Pv.v) ++ [p'.v])) hBlr
          refine ⟨A6.at', ?_, v5, ps' ++ [p'], rfl, fun b o e => ?_, ?_, (dm.tr (Dm.of s6)).upd, ?_⟩
          · rw [List.length_cons, List.length_map]; exact Nat.lt_of_le_of_lt (show ps'.length + 1 ≤ 3 by omega) (by decide)
          · by_cases q : b = lr
            · rw [q, rm_x] at e; cases e
            · rw [upd_ne q]; exact same_tr sT s6 _ _ e
          · rw [List.map_append, ← List.cons_append]; exact A6.push
          · rw [tk]
            exact Gr.imp ((gr.imp (fun _ _ z => PlAt.mono (nw_same s6) z) (fun _ _ z => nw_same s6 _ _ z)).snoc (p := ps[i]) (p' := p') e1 e2 e3 e4) (fun _ _ z => PlAt.mono up z) (fun r as z => up _ _ z)
        cases hp' : ps[i] with
        | tx z =>
          rw [hp'] at push
          refine ⟨_, rfl, .str z, .ty "list", _, _, false, rfl, .ty "list", .base (.str z), kit_ty (by decide +kernel), false, rfl, iteF ?_⟩
          refine ⟨_, rfl, .inl ⟨rfl, _, SqL.of A.at'⟩, _, rfl, .str z, .ty "str", _, _, true, rfl, .ty "str", .base (.str z), kit_ty (by decide +kernel), true, rfl, iteT ⟨_, rfl, ?_⟩⟩
          obtain ⟨q1, q2, q3⟩ := push H5 (.tx z) (some (.str z)) same_rfl rfl rfl (fun j kd c _ h => nomatch h) (fun _ _ h => nomatch h)
          exact ⟨lr, _, _, rfl, rfl, q1, q2, q3⟩
        | on cd =>
          rw [hp'] at push
          have hcA := kidsA_at (c := cd) (j := 0) hi (by rw [hp']; rfl)
          have hlt : (kidsA (ps.take i)).length + 0 < ks.length := by
            rw [← hl]
            exact (List.getElem?_eq_some_iff.mp hcA).1
          obtain ⟨pc1, pc2, pc3⟩ := kidP s5H _ _ _ (List.getElem?_eq_getElem hlt) hcA
          obtain ⟨xs, hcx⟩ := pc1.tup
          refine ⟨_, rfl, .ref cd, .ty "list", _, _, false, rfl, .ty "list", .base (.tup hcx), kit_ty (by decide +kernel), false, rfl, iteF ?_⟩
          refine ⟨_, rfl, .inl ⟨rfl, _, SqL.of A.at'⟩, _, rfl, .ref cd, .ty "str", _, _, false, rfl, .ty "str", .base (.tup hcx), kit_ty (by decide +kernel), false, rfl, iteF ?_⟩
          refine ⟨_, rfl, _, rfl, _, rfl, d, cd, c, pl, _, rfl, hp.mono s5H, pc1, pc2, pc3, fun H6 y s6 hy6 => ?_⟩
          have hone : ∀ (j : Nat) kd c', ks[(kidsA (ps.take i)).length + j]? = some kd → (Pv.on y).as[j]? = some c' → PlAt (nw B H6) (stopped pl c kd) c' := fun j kd c' h1 h2 => by
            cases j with
            | zero =>
              rw [List.getElem?_eq_getElem hlt] at h1
              cases h1
              cases h2
              exact PlAt.mono (nw_dom dm) hy6
            | succ _ => cases h2
          obtain ⟨q1, q2, q3⟩ := push H6 (.on y) (some (.ref cd)) s6 rfl rfl hone (fun _ _ h => nomatch h)
          exact ⟨lr, _, _, rfl, rfl, q1, q2, q3⟩
        | rw r as =>
          rw [hp'] at push
          have er := hrw r as (hp' ▸ hm)
          have er2 := s5H _ _ er
          refine ⟨_, rfl, .ref r, .ty "list", _, _, true, rfl, .ty "list", .base (.lst er2), kit_ty (by decide +kernel), true, rfl, iteT ?_⟩
          refine ⟨_, rfl, .inl ⟨rfl, _, SqL.of A.at'⟩, _, rfl, r, rfl, ⟨_, SqL.of er2⟩, fun D hD => ?_⟩
          obtain ⟨B2, hB2⟩ : ∃ B2, B2 = upd H5 D (.lst []) := ⟨_, rfl⟩
          have BD : B2 D ≠ none := by rw [hB2, upd_same]; intro z; cases z
          have dmB : Dm B B2 := by rw [hB2]; exact dm.tr (Dm.of (same_new hD _))
          refine lc_list (xs := rl as) (fun j H' => ∃ ys, Acc H5 D (rl ys) H' ∧ Dm B2 H' ∧ ys.length = j ∧ ∀ (j' : Nat) kd y, ks[(kidsA (ps.take i)).length + j']? = some kd → ys[j']? = some y → PlAt (nw B2 H') (stopped pl c kd) y) ⟨[], Acc.start hD, by rw [hB2]; exact Dm.of same_rfl, rfl, fun _ _ _ _ h => nomatch h⟩ (fun j H' _ ⟨_, C, _⟩ => SqL.of (C.1 _ _ er2)) ?_ ?_
          · rintro j z H6 hz6 ⟨ys, C, dC, hyl, hys⟩
            rw [List.getElem?_map] at hz6
            obtain ⟨cd, hc3, rfl⟩ := Option.map_eq_some_iff.mp hz6
            have hcA := kidsA_at (c := cd) (j := j) hi (by rw [hp']; exact hc3)
            have hlt : (kidsA (ps.take i)).length + j < ks.length := by
              rw [← hl]
              exact (List.getElem?_eq_some_iff.mp hcA).1
            obtain ⟨pc1, pc2, pc3⟩ := kidP (same_tr s5H C.1) _ _ _ (List.getElem?_eq_getElem hlt) hcA
            refine ⟨rfl, yes1 ⟨_, rfl, _, rfl, _, rfl, d, cd, c, pl, _, rfl, hp.mono (same_tr s5H C.1), pc1, pc2, pc3, fun H7 y s7 hy7 => ?_⟩⟩
            have C7 := C.same s7
            have up := nw_upd (B := B2) (H := H7) (a := D) (o := .lst (rl ys ++ [.ref y])) BD
            refine ⟨_, C7.at', ?_, ys ++ [y], ?_, (dC.tr (Dm.of s7)).upd, by rw [List.length_append, hyl]; rfl, fun j' kd c' h1 h2 => PlAt.mono up ?_⟩
            · rw [List.length_map, hyl]; exact Nat.lt_of_lt_of_le (show j < 401 by omega) (by decide)
            · unfold rl; rw [List.map_append]; exact C7.push
            · by_cases hj : j' < ys.length
              · rw [List.getElem?_append_left hj] at h2
                exact PlAt.mono (nw_same s7) (hys j' kd c' h1 h2)
              · rw [List.getElem?_append_right (by omega)] at h2
                have hj2 : j' - ys.length = 0 := by
                  have := (List.getElem?_eq_some_iff.mp h2).1
                  rw [List.length_singleton] at this
                  omega
                rw [hj2] at h2
                cases h2
                rw [show j' = j by omega, List.getElem?_eq_getElem hlt] at h1
                cases h1
                exact PlAt.mono (nw_dom dC) hy7
          · rintro H6 ⟨ys, C, dC, hyl, hys⟩
            rw [List.length_map] at hyl
            obtain ⟨q1, q2, q3⟩ := push H6 (.rw D ys) (some (.ref r)) C.1 rfl hyl (fun j' kd c' h1 h2 => PlAt.mono (nw_dom dmB) (hys j' kd c' h1 h2)) (fun r' as' h => by cases h; exact nw_at (dm D C.2.1) C.at')
            exact ⟨lr, _, _, rfl, rfl, q1, q2, q3⟩
      · rintro σ H5 ⟨v5, ps', rfl, sT, A, dm, gr⟩
        rw [List.length_map, List.take_length] at gr
        refine ⟨_, rfl, lr, _, rfl, .inl ⟨SqL.of A.at', fun y hy => ?_⟩⟩
        have s5H := same_tr s2H A.1
        refine k _ y (same_tr s5H (same_new hy _)) ?_
        have dHB : Dm H B := (Dm.of s2H).tr (Dm.of AB.1)
        have up : Same (nw B H5) (nw H (upd H5 y (.tup (.str (fmN f) :: ps'.map Pv.v)))) := same_tr (nw_dom dHB) (nw_same (same_new hy _))
        have ec' : c = (bb || decide ((pl f).od = .loop)) := ec
        rw [stopped_no hno, ← ec']
        refine .mk (ps := ps') (nw_at (s5H.free hy) upd_same) (fun r as h => up _ _ (gr.r r as h)) (by rw [gr.k]; exact hk) (by rw [gr.l, List.length_map]; exact hl) (fun i kd y' h1 h2 => ?_)
        rw [List.getElem?_map] at h1
        obtain ⟨k0, h3, rfl⟩ := Option.map_eq_some_iff.mp h1
        exact PlAt.mono up (gr.c i k0 y' h3 h2)
end
end Jz
end
section
set_option maxHeartbeats 4000000
set_option pp.maxSteps 150
/-! what is told of a tree, alike -/
namespace Jz
open PySem PySem.Spec PyProof.Rows L2 ClX StX
theorem pe_gl {X : Cx} {k : Nat} {m : Str} {C : Addr} {ps : List Str} {sp : SpG} {e o : Expr} {es : List Expr} {t : TA} {ta : TE} {p pos apos pos' : Pos} {pl : Sem Bool} (G : GM X.prog X.w X.K X.mg X.base k C m ps sp) (c : Cls X.K C) (hml : X.mg "list" = none) (hr : Room (k + 3) X.A) (he : PE X o ta) (ha : PA X (e :: es) t)
    (hg : Gl X "list" := by rfl) (hst : starEach (e :: es) X.env = (false, eval e X.env) :: starEach es X.env := by rfl) (hpl : (backTo pos' (starEach es X.env)).any (·.1) = false := by rfl)
    (ht : eval (.Call (.Attribute o m apos) (e :: es) [] pos') X.env = (do
      let ov ← eval o X.env
      standAt apos.atName
      let (f, first) ← holding [ov] (getMethod ov m pl)
      callWith pos' f first (backTo pos' (starEach (e :: es) X.env)) (backToKw pos' (keywordEach [] X.env))) := by rfl)
    (hs : starEach [.Call (.Attribute o m apos) (e :: es) [] pos'] X.env = (false, eval (.Call (.Attribute o m apos) (e :: es) [] pos') X.env) :: starEach [] X.env := by rfl) :
    PE X (.Call (.Name "list" p) [.Call (.Attribute o m apos) (e :: es) [] pos'] [] pos) (tListG (tMethG C m sp [] E0 ta t)) := by
  obtain ⟨f, fd, F, hm, hb⟩ := G.ex
  exact pe_listG (pgen_meth (E := E0) he c hm F (hr.mono (by omega)) hb .nil ha hst hpl ht) pass_cx (fun _ _ _ h => h.elim) hr hg hml (by decide +kernel) (by decide) (by decide) hs
/-- what is told, as it stands -/
def ResAt (H : Hp) (L : List (List Pa)) (l : Addr) : Prop := ∃ ls, H l = some (.lst (rl ls)) ∧ Paired (fun ps a => ∃ qs, H a = some (.lst (rl qs)) ∧ Paired (PaAt H) ps qs) L ls
theorem ResAt.mono {H H' : Hp} (s : Same H H') {L : List (List Pa)} {l : Addr} (h : ResAt H L l) : ResAt H' L l :=
  let ⟨ls, h1, h2⟩ := h
  ⟨ls, s _ _ h1, Paired.mapP h2 fun _ _ ⟨qs, e1, e2⟩ => ⟨qs, s _ _ e1, Paired.mapP e2 fun _ _ z => PaAt.mono z s⟩⟩
def paD (p : Pa) : PyData := .tuple (p.map fun n : Nat => .int (n : Int))
def resD (L : List (List Pa)) : PyData := .list (L.map fun ps => .list (ps.map paD))
theorem dp_ints {K : PySem.W.Frag} {H : Hp} : ∀ p : Pa, DpAll K H (p.map fun n : Nat => V.int (n : Int)) (p.map fun n : Nat => PyData.int (n : Int))
  | [] => .nil
  | n :: r => .cons (.int _) (dp_ints r)
theorem dp_pas {K : PySem.W.Frag} {H : Hp} : ∀ {ps : List Pa} {qs : List Addr}, Paired (PaAt H) ps qs → DpAll K H (rl qs) (ps.map paD)
  | _, _, .nil => .nil
  | _, _, .cons h t => .cons (.tup (SqT.of h) (dp_ints _)) (dp_pas t)
theorem dp_res {K : PySem.W.Frag} {H : Hp} : ∀ {L : List (List Pa)} {ls : List Addr}, Paired (fun ps a => ∃ qs, H a = some (.lst (rl qs)) ∧ Paired (PaAt H) ps qs) L ls → DpAll K H (rl ls) (L.map fun ps => .list (ps.map paD))
  | _, _, .nil => .nil
  | _, _, .cons ⟨_, e1, e2⟩ t => .cons (.lst (SqL.of e1) (dp_pas e2)) (dp_res t)
theorem ResAt.dp {K : PySem.W.Frag} {H : Hp} {L : List (List Pa)} {l : Addr} (h : ResAt H L l) : Dp K H (.ref l) (resD L) := let ⟨_, e1, e2⟩ := h; .lst (SqL.of e1) (dp_res e2)
theorem lay_ints : ∀ p : Pa, PyData.canLayAll0 (p.map fun n : Nat => PyData.int (n : Int)) = true ∧ PyData.depthAll (p.map fun n : Nat => PyData.int (n : Int)) = 0
  | [] => by simp [PyData.canLayAll0, PyData.depthAll]
  | n :: r => by simp [PyData.canLayAll0, PyData.canLay0, PyData.depthAll, PyData.depth, lay_ints r]
theorem lay_pas : ∀ ps : List Pa, PyData.canLayAll0 (ps.map paD) = true ∧ PyData.depthAll (ps.map paD) ≤ 1
  | [] => by simp [PyData.canLayAll0, PyData.depthAll]
  | p :: r => by
    have h1 := lay_ints p
    have h2 := lay_pas r
    refine ⟨by simp [PyData.canLayAll0, PyData.canLay0, paD, h1.1, h2.1], ?_⟩
    simp only [List.map_cons, PyData.depthAll, paD, PyData.depth, h1.2]
    omega
theorem lay_res : ∀ L : List (List Pa), PyData.canLayAll0 (L.map fun ps => PyData.list (ps.map paD)) = true ∧ PyData.depthAll (L.map fun ps => PyData.list (ps.map paD)) ≤ 2
  | [] => by simp [PyData.canLayAll0, PyData.depthAll]
  | p :: r => by
    have h1 := lay_pas p
    have h2 := lay_res r
    refine ⟨by simp [PyData.canLayAll0, PyData.canLay0, h1.1, h2.1], ?_⟩
    simp only [List.map_cons, PyData.depthAll, PyData.depth]
    omega
theorem res_lay (L : List (List Pa)) : (resD L).canLay0 = true := by
  unfold resD
  simp only [PyData.canLay0]
  exact (lay_res L).1
theorem res_shaped (L : List (List Pa)) : SeqAt.shaped (resD L) = true := by
  have h := (lay_res L).2
  have hd : (resD L).depth ≤ 64 := by
    unfold resD
    simp only [PyData.depth]
    omega
  show ((resD L).canLay0 && decide ((resD L).depth ≤ 64)) = true
  rw [Bool.and_eq_true]
  exact ⟨res_lay L, decide_eq_true hd⟩
def spAll (K : PySem.W.Frag) : Sp := fun vs H Q _ => ∃ fw x pl t, vs = [.ref fw, .ref x] ∧ Fl K H pl fw ∧ PlanOk pl ∧ Tt K H t x ∧ size t ≤ 400 ∧ height t ≤ 8 ∧ ∀ H' l, Same H H' → ResAt H' (res pl t) l → Q (.ref l) H'
def spAlike (K : PySem.W.Frag) : Sp := fun vs H Q _ => ∃ fw x y pl t u, vs = [.ref fw, .ref x, .ref y] ∧ Fl K H pl fw ∧ PlanOk pl ∧ PlAt H t x ∧ PlAt H u y ∧ size t ≤ 400 ∧ size u ≤ 400 ∧ height t ≤ 8 ∧ height u ≤ 8 ∧ res pl t = res pl u ∧ ∀ H', Same H H' → Q (.bl true) H'
section
variable {P : Program} {w : World} {K : PySem.W.Frag} {mg : Str → Option Value} {base : Heap}
abbrev sAll : Stmt := top 60
theorem sc_all : FnScope ["_law_flow_here", "_law_grown_here"] ["_law_flow_here", "_law_grown_here"] (defScope sAll) := ⟨rfl, rfl, rfl, by decide +kernel, rfl, by decide +kernel, by decide +kernel⟩
theorem g_all (T : Tx K mg) : GF P w K mg base 18 "_law_all" ["_law_flow_here", "_law_grown_here"] (spAll K) := by
  refine gf_of T.m__law_all T.d__law_all (fun _ _ _ _ _ _ us hl => match us, hl with | [_, _], _ => rfl) fun fd F => F.ok sc_all (fun vs H Q E h => ?_) (fun cdv A outer s H vs Q E hr h => ?_)
  · obtain ⟨fw, x, pl, t, rfl, _⟩ := h
    rfl
  · obtain ⟨fw, x, pl, t, rfl, hf, hok, ht, hz, hh, k⟩ := h
    refine ⟨_, PSs.nox <| pss_one (ps_ret (pe_lst (pa_cons (pe_gl (gm_unr T) T.c_Flow T.n_list hr (pv 0) (pa_cons (pv 1) pa_nil)) (pa_cons (pe_gl (gm_uns T) T.c_Flow T.n_list hr (pv 0) (pa_cons (pv 1) pa_nil)) (pa_cons (pe_gl (gm_idl T) T.c_Flow T.n_list hr (pv 0) (pa_cons (pv 1) pa_nil)) pa_nil))))), ?_⟩
    obtain ⟨dxw, sa, b, c, kvs, h1, h2, h3, h4⟩ := id hf
    refine ⟨_, rfl, fw, dxw, _, rfl, h1, (by with_unfolding_all rfl), _, rfl, fw, x, pl, t, rfl, hf, hok, ht, hz, hh, fun H1 q1 s1 p1 l1 n1 => ?_⟩
    have s1' := same_tr s1 (same_new n1 (.lst (rl q1)))
    have a1 : (upd H1 l1 (.lst (rl q1))) l1 = some (.lst (rl q1)) := upd_same
    have p1' := Paired.mapP p1 fun _ _ z => PaAt.mono z (same_new n1 (.lst (rl q1)))
    generalize upd H1 l1 (.lst (rl q1)) = H2 at *
    refine ⟨_, rfl, fw, dxw, _, rfl, s1' _ _ h1, (by with_unfolding_all rfl), _, rfl, fw, x, pl, t, rfl, hf.mono s1', hok, ht.mono s1', hz, hh, fun H3 q2 s2 p2 l2 n2 => ?_⟩
    have s2' := same_tr s2 (same_new n2 (.lst (rl q2)))
    have a2 : (upd H3 l2 (.lst (rl q2))) l2 = some (.lst (rl q2)) := upd_same
    have p2' := Paired.mapP p2 fun _ _ z => PaAt.mono z (same_new n2 (.lst (rl q2)))
    have s2H := same_tr s1' s2'
    generalize upd H3 l2 (.lst (rl q2)) = H4 at *
    refine ⟨_, rfl, fw, dxw, _, rfl, s2H _ _ h1, (by with_unfolding_all rfl), _, rfl, fw, x, pl, t, rfl, hf.mono s2H, hok, ht.mono s2H, hz, hh, fun H5 q3 s3 p3 l3 n3 => ⟨by show 3 ≤ sizeLine; decide, fun l n => ?_⟩⟩
    have s3' := same_tr (same_new n3 (.lst (rl q3))) (same_new n (.lst [.ref l1, .ref l2, .ref l3]))
    have s34 := same_tr s3 s3'
    refine k _ l (same_tr s2H s34) ⟨[l1, l2, l3], upd_same, .cons ⟨q1, s34 _ _ (s2' _ _ a1), Paired.mapP p1' fun _ _ z => PaAt.mono z (same_tr s2' s34)⟩ (.cons ⟨q2, s34 _ _ a2, Paired.mapP p2' fun _ _ z => PaAt.mono z s34⟩ (.cons ⟨q3, same_new n _ _ _ upd_same, Paired.mapP p3 fun _ _ z => PaAt.mono z s3'⟩ .nil))⟩
abbrev sAlike : Stmt := top 62
theorem sc_alike : FnScope ["_law_flow_here", "_law_near", "_law_far"] ["_law_flow_here", "_law_near", "_law_far"] (defScope sAlike) := ⟨rfl, rfl, rfl, by decide +kernel, rfl, by decide +kernel, by decide +kernel⟩
theorem g_alike (T : Tx K mg) : GF P w K mg base 19 "_law_alike" ["_law_flow_here", "_law_near", "_law_far"] (spAlike K) := by
  refine gf_of T.m__law_alike T.d__law_alike (fun _ _ _ _ _ _ us hl => match us, hl with | [_, _, _], _ => rfl) fun fd F => F.ok sc_alike (fun vs H Q E h => ?_) (fun cdv A outer s H vs Q E hr h => ?_)
  · obtain ⟨fw, x, y, pl, t, u, rfl, _⟩ := h
    rfl
  · obtain ⟨fw, x, y, pl, t, u, rfl, hf, hok, ht, hu, hz, hzu, hh, hhu, he, k⟩ := h
    have hr12 : Room (8 + 4) _ := hr.mono (by decide)
    refine ⟨_, PSs.nox <| pss_one (ps_ret (pe_cmpR (op_eqD hr.units) (pe_g (g_all T) hr (pa_cons (pv 0) (pa_cons (pe_g (g_grown T 8) hr12 (pa_cons (pv 1) pa_nil)) pa_nil))) (pe_g (g_all T) hr (pa_cons (pv 0) (pa_cons (pe_g (g_grown T 8) hr12 (pa_cons (pv 2) pa_nil)) pa_nil))) (nomark _))), ?_⟩
    refine ⟨_, rfl, _, rfl, t, x, rfl, ht, hh, Nat.le_refl _, hz, fun H1 tx s1 htx => ⟨fw, tx, pl, t, rfl, hf.mono s1, hok, htx, hz, hh, fun H2 l1 s2 hl1 => ?_⟩⟩
    have s2' := same_tr s1 s2
    refine ⟨_, rfl, _, rfl, u, y, rfl, hu.mono s2', hhu, Nat.le_refl _, hzu, fun H3 ux s3 hux => ⟨fw, ux, pl, u, rfl, hf.mono (same_tr s2' s3), hok, hux, hzu, hhu, fun H4 l2 s4 hl2 => ?_⟩⟩
    have s4' := same_tr s3 s4
    refine ⟨_, _, (hl1.mono s4').dp, hl2.dp, res_shaped _, res_shaped _, ?_⟩
    rw [he, SeqAt.eqv_refl _ (res_lay _)]
    exact k _ (same_tr s2' s4')
end
end Jz
end
section
set_option maxHeartbeats 4000000
set_option pp.maxSteps 150
/-! jumps at the ends -/
namespace Jz
open PySem PySem.Spec PyProof.Rows L2 ClX StX
theorem pl_leaf {H : Hp} {f : Fm} {a b : Bool} {u : Addr} (hk : kinds f a b = []) (h : H u = some (.tup [.str (fmN f)])) : PlAt H (.node f a b []) u :=
  .mk (ps := []) h (fun _ _ h => nomatch h) hk.symm rfl (fun _ _ _ h => nomatch h)
theorem pl_row {H : Hp} {f : Fm} {a b : Bool} {u r : Addr} {as : List Addr} {ks : List Tr} (hk : kinds f a b = [.rw]) (h : H u = some (.tup [.str (fmN f), .ref r])) (hr : H r = some (.lst (rl as))) (hp : Paired (PlAt H) ks as) : PlAt H (.node f a b ks) u := by
  have e : kidsA [Pv.rw r as] = as := by unfold kidsA; simp [Pv.as]
  refine .mk (ps := [.rw r as]) h (fun r' as' hm => ?_) hk.symm (by rw [e]; exact (paired_len hp).symm) (fun i k c h1 h2 => ?_)
  · cases List.mem_singleton.mp hm
    exact hr
  · rw [e] at h2
    obtain ⟨i1, i2⟩ := List.getElem?_eq_some_iff.mp h1
    obtain ⟨j1, j2⟩ := List.getElem?_eq_some_iff.mp h2
    have := paired_get hp i1 j1
    rw [i2, j2] at this
    exact this
theorem heightL_app (a b : List Tr) : heightL (a ++ b) = max (heightL a) (heightL b) := by
  induction a with
  | nil => simp [heightL]
  | cons x r ih => rw [List.cons_append, heightL, heightL, ih]; omega
theorem size_lf (f : Fm) : size (lf f) = 1 := rfl
theorem height_lf (f : Fm) : height (lf f) = 1 := rfl
theorem size_in (items : List Tr) (x b : Tr) : size (inLoop items x b) = (items.map size).sum + size x + size b + 2 := by
  simp only [inLoop, size_eq, List.map_cons, List.map_nil, List.sum_cons, List.sum_nil, List.map_append, List.sum_append]
  omega
theorem height_in (items : List Tr) (x b : Tr) : height (inLoop items x b) = max (max (heightL items) (height x) + 1) (height b) + 1 := by
  simp only [inLoop, height, heightL, heightL_app]
  omega
theorem leafN {H : Hp} {x : Str} {f : Fm} {u : Addr} (hx : x = fmN f) (hk : kinds f false false = []) (hu : H u = none) : PlAt (upd H u (.tup [.str x])) (lf f) u ∧ Same H (upd H u (.tup [.str x])) := by
  subst hx
  exact ⟨pl_leaf hk upd_same, same_new hu _⟩
theorem rowN {H : Hp} {x : Str} {f : Fm} {l n : Addr} {vs : List V} {as : List Addr} {ks : List Tr} (hx : x = fmN f) (hk : kinds f false false = [.rw]) (hp : Paired (PlAt H) ks as) (hl : H l = none) (hn : upd H l (.lst vs) n = none) (hv : vs = rl as := by rfl) :
    PlAt (upd (upd H l (.lst vs)) n (.tup [.str x, .ref l])) (.node f false false ks) n ∧ Same H (upd (upd H l (.lst vs)) n (.tup [.str x, .ref l])) := by
  subst hx hv
  have s := same_tr (same_new hl (.lst (rl as))) (same_new hn (.tup [.str (fmN f), .ref l]))
  exact ⟨pl_row hk upd_same (same_new hn _ _ _ upd_same) (Paired.mapP hp fun _ _ z => z.mono s), s⟩
theorem catN {H : Hp} {l1 r1 n1 u1 : Addr} {x : Tr} {items : List Tr} {ias : List Addr} (hits : Paired (PlAt H) items ias) (hu : PlAt H x u1) (hl : H l1 = none) (hr : upd H l1 (.lst [.ref u1]) r1 = none) (hn : upd (upd H l1 (.lst [.ref u1])) r1 (.lst (rl ias ++ [.ref u1])) n1 = none) :
    PlAt (upd (upd (upd H l1 (.lst [.ref u1])) r1 (.lst (rl ias ++ [.ref u1]))) n1 (.tup [.str "Loop", .ref r1])) (.node .loop false false (items ++ [x])) n1 ∧ Same H (upd (upd (upd H l1 (.lst [.ref u1])) r1 (.lst (rl ias ++ [.ref u1]))) n1 (.tup [.str "Loop", .ref r1])) := by
  have s1 := same_new hl (.lst [.ref u1])
  have e : rl ias ++ [V.ref u1] = rl (ias ++ [u1]) := by unfold rl; rw [List.map_append]; rfl
  obtain ⟨h1, h2⟩ := rowN (x := "Loop") (f := .loop) rfl rfl (paired_snoc (Paired.mapP hits fun _ _ z => PlAt.mono s1 z) (hu.mono s1)) hr hn e
  exact ⟨h1, same_tr s1 h2⟩
def spEnds (K : PySem.W.Frag) : Sp := fun vs H Q _ => ∃ fw x il y pl p items ias b, vs = [.ref fw, .ref x, .ref il, .ref y] ∧ Fl K H pl fw ∧ PlanOk pl ∧ Plain pl ∧ PlAt H p x ∧ H il = some (.lst (rl ias)) ∧ Paired (PlAt H) items ias ∧ PlAt H b y ∧
  size p ≤ 100 ∧ size b ≤ 100 ∧ (items.map size).sum ≤ 100 ∧ height p ≤ 4 ∧ height b ≤ 4 ∧ heightL items ≤ 4 ∧ ∀ H', Same H H' → Q (.bl true) H'
section
variable {P : Program} {w : World} {K : PySem.W.Frag} {mg : Str → Option Value} {base : Heap}
abbrev sEnds : Stmt := top 63
theorem sc_ends : FnScope ["_law_flow_here", "_law_plant", "_law_items", "_law_behind", "_law_near", "_law_far", "_law_lone", "_law_told"] ["_law_flow_here", "_law_plant", "_law_items", "_law_behind"] (defScope sEnds) := ⟨rfl, rfl, rfl, by decide +kernel, rfl, by decide +kernel, by decide +kernel⟩
theorem g_ends (T : Tx K mg) : GF P w K mg base 20 "_law_ends_right" ["_law_flow_here", "_law_plant", "_law_items", "_law_behind"] (spEnds K) := by
  refine gf_of T.m__law_ends_right T.d__law_ends_right (fun _ _ _ _ _ _ us hl => match us, hl with | [_, _, _, _], _ => rfl) fun fd F => F.ok sc_ends (fun vs H Q E h => ?_) (fun cdv A outer s H vs Q E hr h => ?_)
  · obtain ⟨fw, x, il, y, pl, p, items, ias, b, rfl, _⟩ := h
    rfl
  · obtain ⟨fw, x, il, y, pl, p, items, ias, b, rfl, hf, hok, hP, hp, hil, hits, hb, zp, zb, zi, tp, tb, ti, k⟩ := h
    have hr18 : Room 18 _ := hr.mono (by decide)
    have hr12 : Room (8 + 4) _ := hr.mono (by decide)
    refine ⟨_, PSs.nox <| pss_cons (ps_par (i := 4) (j := 5) (by rfl) sc_ends.nd rfl rfl (by decide) rfl rfl
        (pa_cons (pe_tup (pa_cons pe_str (pa_cons (pe_op op_cat (pv 2) (pe_lst (pa_cons (pe_tup (pa_cons pe_str pa_nil)) pa_nil))) pa_nil)))
        (pa_cons (pe_tup (pa_cons pe_str (pa_cons (pe_op op_cat (pv 2) (pe_lst (pa_cons (pe_tup (pa_cons pe_str (pa_cons (pe_lst pa_nil) pa_nil))) pa_nil))) pa_nil))) pa_nil)) (by rfl))
      (pss_cons (ps_if (pt_not (pt_val (pe_g (g_alike T) hr (pa_cons (pv 0) (pa_cons (pe_tup (pa_cons pe_str (pa_cons (pe_lst (pa_cons (pv 4) (pa_cons (pv 3) pa_nil))) pa_nil))) (pa_cons (pe_tup (pa_cons pe_str (pa_cons (pe_lst (pa_cons (pv 5) (pa_cons (pv 3) pa_nil))) pa_nil))) pa_nil)))))) (pss_one (ps_ret pe_bl)) pss_nil)
      (pss_cons (ps_if (pt_not (pt_val (pe_g (g_alike T) hr (pa_cons (pv 0) (pa_cons (pe_tup (pa_cons pe_str (pa_cons (pe_lst (pa_cons (pv 1) (pa_cons (pe_tup (pa_cons pe_str pa_nil)) pa_nil))) pa_nil)))
          (pa_cons (pe_tup (pa_cons pe_str (pa_cons (pe_lst (pa_cons (pv 1) (pa_cons (pe_tup (pa_cons pe_str (pa_cons (pe_lst pa_nil) pa_nil))) pa_nil))) pa_nil))) pa_nil)))))) (pss_one (ps_ret pe_bl)) pss_nil)
      (pss_cons (ps_for PassesOwn.never rfl (pi_tup (pe_tup (pa_cons (pe_tup (pa_cons pe_str pa_nil)) (pa_cons (pe_tup (pa_cons pe_str pa_nil)) pa_nil)))) (pg_name (i := 6) sc_ends.nd rfl (.inl rfl))
        (pss_cons (ps_par (i := 4) (j := 5) (by rfl) sc_ends.nd rfl rfl (by decide) rfl rfl
          (pa_cons (pe_tup (pa_cons pe_str (pa_cons (pe_lst (pa_cons (pe_tup (pa_cons pe_str (pa_cons (pe_lst (pa_cons (pv 6) pa_nil)) pa_nil))) (pa_cons (pv 3) pa_nil))) pa_nil)))
          (pa_cons (pe_tup (pa_cons pe_str (pa_cons (pe_lst (pa_cons (pe_tup (pa_cons pe_str (pa_cons (pe_lst (pa_cons (pe_tup (pa_cons pe_str (pa_cons (pe_lst pa_nil) pa_nil))) pa_nil)) pa_nil))) (pa_cons (pv 3) pa_nil))) pa_nil))) pa_nil)) (by rfl))
        (pss_one (ps_if (pt_not (pt_val (pe_g (g_alike T) hr (pa_cons (pv 0) (pa_cons (pv 4) (pa_cons (pv 5) pa_nil)))))) (pss_one (ps_ret pe_bl)) pss_nil))))
      (pss_cons (ps_set (i := 7) sc_ends.nd rfl (.inl rfl) (pe_g (g_all T) hr18 (pa_cons (pv 0) (pa_cons (pe_g (g_grown T 8) hr12 (pa_cons (pe_tup (pa_cons pe_str (pa_cons (pe_lst (pa_cons (pe_tup (pa_cons pe_str (pa_cons (pe_lst pa_nil) pa_nil))) (pa_cons (pv 3) pa_nil))) pa_nil))) pa_nil)) pa_nil))))
      (pss_one (ps_ret (pe_cmpR (op_eqD hr.units) (pv 7) (pe_g (g_all T) hr18 (pa_cons (pv 0) (pa_cons (pe_g (g_grown T 8) hr12 (pa_cons (pe_tup (pa_cons pe_str (pa_cons (pe_lst (pa_cons (pe_tup (pa_cons pe_str (pa_cons (pe_lst (pa_cons (pe_tup (pa_cons pe_str pa_nil)) pa_nil)) pa_nil))) (pa_cons (pv 3) pa_nil))) pa_nil))) pa_nil)) pa_nil))) (nomark _)))))))), ?_⟩
    have hil100 : ias.length ≤ 100 := by
      rw [← paired_len hits]
      exact Nat.le_trans (len_sum items) zi
    have hlen : ∀ u : V, (rl ias).length + [u].length ≤ sizeLine := fun u => by
      rw [List.length_map, List.length_singleton]
      exact Nat.le_trans (show _ ≤ 101 by omega) (by decide)
    -- near, far
    refine ⟨_, rfl, by show 1 ≤ sizeLine; decide, fun u1 hu1 => ⟨by show 1 ≤ sizeLine; decide, fun l1 hl1 => ⟨il, l1, rl ias, _, rfl, rfl, same_new hl1 _ _ _ (same_new hu1 _ _ _ hil), upd_same, hlen _, fun r1 hr1 => ⟨by show 2 ≤ sizeLine; decide, fun n1 hn1 => ?_⟩⟩⟩⟩
    obtain ⟨q1, s1⟩ := leafN (x := "Again") (f := .again) rfl rfl hu1
    obtain ⟨near, s2⟩ := catN (Paired.mapP hits fun _ _ z => PlAt.mono s1 z) q1 hl1 hr1 hn1
    have s2H := same_tr s1 s2
    generalize upd (upd (upd (upd H u1 (.tup [.str "Again"])) l1 (.lst [.ref u1])) r1 (.lst (rl ias ++ [.ref u1]))) n1 (.tup [.str "Loop", .ref r1]) = H1 at *
    refine ⟨_, rfl, Nat.zero_le _, fun e1 he1 => ⟨by show 2 ≤ sizeLine; decide, fun u2 hu2 => ⟨by show 1 ≤ sizeLine; decide, fun l2 hl2 => ⟨il, l2, rl ias, _, rfl, rfl, ?_, upd_same, hlen _, fun r2 hr2 => ⟨by show 2 ≤ sizeLine; decide, fun n2 hn2 => ⟨_, _, rfl, ?_⟩⟩⟩⟩⟩⟩
    · exact same_new hl2 _ _ _ (same_new hu2 _ _ _ (same_new he1 _ _ _ (s2H _ _ hil)))
    obtain ⟨q2, s3⟩ := rowN (x := "Seq") (f := .seq) (as := []) (ks := []) rfl rfl .nil he1 hu2
    obtain ⟨far, s4⟩ := catN (Paired.mapP hits fun _ _ z => PlAt.mono (same_tr s2H s3) z) q2 hl2 hr2 hn2
    have s4H := same_tr s2H (same_tr s3 s4)
    have near := near.mono (same_tr s3 s4)
    generalize upd (upd (upd (upd (upd H1 e1 (.lst [])) u2 (.tup [.str "Seq", .ref e1])) l2 (.lst [.ref u2])) r2 (.lst (rl ias ++ [.ref u2]))) n2 (.tup [.str "Loop", .ref r2]) = H2 at *
    -- the first
    refine ⟨_, rfl, _, rfl, _, rfl, by show 2 ≤ sizeLine; decide, fun l3 hl3 => ⟨by show 2 ≤ sizeLine; decide, fun n3 hn3 => ?_⟩⟩
    obtain ⟨t1, s5⟩ := rowN (x := "Seq") (f := .seq) (as := [n1, y]) rfl rfl (.cons near (.cons (hb.mono s4H) .nil)) hl3 hn3
    have s5H := same_tr s4H s5
    have far := far.mono s5
    generalize upd (upd H2 l3 (.lst [.ref n1, .ref y])) n3 (.tup [.str "Seq", .ref l3]) = H3 at *
    refine ⟨_, rfl, _, rfl, by show 2 ≤ sizeLine; decide, fun l4 hl4 => ⟨by show 2 ≤ sizeLine; decide, fun n4 hn4 => ?_⟩⟩
    obtain ⟨t2, s6⟩ := rowN (x := "Seq") (f := .seq) (as := [n2, y]) rfl rfl (.cons far (.cons (hb.mono s5H) .nil)) hl4 hn4
    have s6H := same_tr s5H s6
    have t1 := t1.mono s6
    generalize upd (upd H3 l4 (.lst [.ref n2, .ref y])) n4 (.tup [.str "Seq", .ref l4]) = H4 at *
    refine ⟨fw, n3, n4, pl, inLoop items (lf .again) b, inLoop items (lf .seq) b, rfl, hf.mono s6H, hok, t1, t2, by rw [size_in, size_lf]; omega, by rw [size_in, size_lf]; omega, by rw [height_in, height_lf]; omega, by rw [height_in, height_lf]; omega, law_b1 hP items b, fun H5 s7 => ⟨true, rfl, iteF ?_⟩⟩
    have s7H := same_tr s6H s7
    -- the second
    refine ⟨_, rfl, _, rfl, by show 1 ≤ sizeLine; decide, fun u3 hu3 => ⟨by show 2 ≤ sizeLine; decide, fun l5 hl5 => ⟨by show 2 ≤ sizeLine; decide, fun n5 hn5 => ?_⟩⟩⟩
    obtain ⟨q3, s8⟩ := leafN (x := "Stop") (f := .stop) rfl rfl hu3
    obtain ⟨t3, s9⟩ := rowN (x := "Seq") (f := .seq) (as := [x, u3]) rfl rfl (.cons (hp.mono (same_tr s7H s8)) (.cons q3 .nil)) hl5 hn5
    have s9H := same_tr s7H (same_tr s8 s9)
    generalize upd (upd (upd H5 u3 (.tup [.str "Stop"])) l5 (.lst [.ref x, .ref u3])) n5 (.tup [.str "Seq", .ref l5]) = H6 at *
    refine ⟨_, rfl, Nat.zero_le _, fun e2 he2 => ⟨by show 2 ≤ sizeLine; decide, fun u4 hu4 => ⟨by show 2 ≤ sizeLine; decide, fun l6 hl6 => ⟨by show 2 ≤ sizeLine; decide, fun n6 hn6 => ?_⟩⟩⟩⟩
    obtain ⟨q4, s10⟩ := rowN (x := "Seq") (f := .seq) (as := []) (ks := []) rfl rfl .nil he2 hu4
    obtain ⟨t4, s11⟩ := rowN (x := "Seq") (f := .seq) (as := [x, u4]) rfl rfl (.cons (hp.mono (same_tr s9H s10)) (.cons q4 .nil)) hl6 hn6
    have s11H := same_tr s9H (same_tr s10 s11)
    have t3 := t3.mono (same_tr s10 s11)
    generalize upd (upd (upd (upd H6 e2 (.lst [])) u4 (.tup [.str "Seq", .ref e2])) l6 (.lst [.ref x, .ref u4])) n6 (.tup [.str "Seq", .ref l6]) = H7 at *
    refine ⟨fw, n5, n6, pl, .node .seq false false [p, lf .stop], .node .seq false false [p, lf .seq], rfl, hf.mono s11H, hok, t3, t4, ?_, ?_, ?_, ?_, law_b2 hP p, fun H8 s12 => ⟨true, rfl, iteF ?_⟩⟩
    · rw [size_eq]; simp only [List.map_cons, List.map_nil, List.sum_cons, List.sum_nil, size_lf]; omega
    · rw [size_eq]; simp only [List.map_cons, List.map_nil, List.sum_cons, List.sum_nil, size_lf]; omega
    · simp only [height, heightL, height_lf]; omega
    · simp only [height, heightL, height_lf]; omega
    have s12H := same_tr s11H s12
    -- lone jumps
    refine ⟨by show 1 ≤ sizeLine; decide, fun u5 hu5 => ⟨by show 1 ≤ sizeLine; decide, fun u6 hu6 => ⟨by show 2 ≤ sizeLine; decide, fun t7 ht7 => ?_⟩⟩⟩
    obtain ⟨q5, s13⟩ := leafN (x := "Leave") (f := .leave) rfl rfl hu5
    obtain ⟨q6, s14⟩ := leafN (x := "Again") (f := .again) rfl rfl hu6
    have q5 := q5.mono s14
    have s15 := same_new ht7 (.tup [.ref u5, .ref u6])
    have q5 := q5.mono s15
    have q6 := q6.mono s15
    have s15H := same_tr s12H (same_tr s13 (same_tr s14 s15))
    have ht7' : (upd (upd (upd H8 u5 (.tup [.str "Leave"])) u6 (.tup [.str "Again"])) t7 (.tup [.ref u5, .ref u6])) t7 = some (.tup [.ref u5, .ref u6]) := upd_same
    generalize upd (upd (upd H8 u5 (.tup [.str "Leave"])) u6 (.tup [.str "Again"])) t7 (.tup [.ref u5, .ref u6]) = H9 at *
    refine ⟨t7, rfl, ⟨_, SqT.of ht7'⟩, for_tup (xs := [.ref u5, .ref u6]) (fun i σ H' => ∃ v4 v5 v6, σ = [some (.ref fw), some (.ref x), some (.ref il), some (.ref y), v4, v5, v6, none] ∧ Same H9 H') ⟨_, _, _, rfl, same_rfl⟩ (fun i σ H' _ ⟨_, _, _, _, s'⟩ => SqT.of (s' _ _ ht7')) ?_ ?_⟩
    · rintro i z σ H10 hz ⟨v4, v5, v6, rfl, s16⟩
      obtain ⟨c, f, hfj, rfl, hc⟩ : ∃ c f, (f = .leave ∨ f = .again) ∧ z = .ref c ∧ PlAt H10 (lf f) c := by
        match i, hz with
        | 0, hz => exact ⟨u5, .leave, .inl rfl, (Option.some.inj hz).symm, q5.mono s16⟩
        | 1, hz => exact ⟨u6, .again, .inr rfl, (Option.some.inj hz).symm, q6.mono s16⟩
        | _ + 2, hz => cases hz
      have s16H := same_tr s15H s16
      refine ⟨_, rfl, by show 1 ≤ sizeLine; decide, fun l7 hl7 => ⟨by show 2 ≤ sizeLine; decide, fun n7 hn7 => ⟨_, rfl, by show 2 ≤ sizeLine; decide, fun l8 hl8 => ⟨by show 2 ≤ sizeLine; decide, fun n8 hn8 => ?_⟩⟩⟩⟩
      obtain ⟨a1, s17⟩ := rowN (x := "Loop") (f := .loop) (as := [c]) rfl rfl (.cons hc .nil) hl7 hn7
      obtain ⟨a2, s18⟩ := rowN (x := "Seq") (f := .seq) (as := [n7, y]) rfl rfl (.cons a1 (.cons (hb.mono (same_tr s16H s17)) .nil)) hl8 hn8
      have s18H := same_tr s16H (same_tr s17 s18)
      have s18' := same_tr s16 (same_tr s17 s18)
      generalize upd (upd (upd (upd H10 l7 (.lst [.ref c])) n7 (.tup [.str "Loop", .ref l7])) l8 (.lst [.ref n7, .ref y])) n8 (.tup [.str "Seq", .ref l8]) = H11 at *
      refine ⟨Nat.zero_le _, fun e3 he3 => ⟨by show 2 ≤ sizeLine; decide, fun u7 hu7 => ⟨by show 1 ≤ sizeLine; decide, fun l9 hl9 => ⟨by show 2 ≤ sizeLine; decide, fun n9 hn9 => ⟨_, rfl, by show 2 ≤ sizeLine; decide, fun l10 hl10 => ⟨by show 2 ≤ sizeLine; decide, fun n10 hn10 => ⟨_, _, rfl, ?_⟩⟩⟩⟩⟩⟩⟩
      obtain ⟨b1, s19⟩ := rowN (x := "Seq") (f := .seq) (as := []) (ks := []) rfl rfl .nil he3 hu7
      obtain ⟨b2, s20⟩ := rowN (x := "Loop") (f := .loop) (as := [u7]) rfl rfl (.cons b1 .nil) hl9 hn9
      obtain ⟨b3, s21⟩ := rowN (x := "Seq") (f := .seq) (as := [n9, y]) rfl rfl (.cons b2 (.cons (hb.mono (same_tr s18H (same_tr s19 s20))) .nil)) hl10 hn10
      have s22 := same_tr s19 (same_tr s20 s21)
      have s22H := same_tr s18H s22
      refine ⟨_, rfl, _, rfl, _, rfl, fw, n8, n10, pl, inLoop [] (lf f) b, inLoop [] (lf .seq) b, rfl, hf.mono s22H, hok, a2.mono s22, b3, by rw [size_in, size_lf, List.map_nil, List.sum_nil]; omega, by rw [size_in, size_lf, List.map_nil, List.sum_nil]; omega, by rw [height_in, height_lf, heightL]; omega, by rw [height_in, height_lf, heightL]; omega, law_b3 hP b hfj, fun H12 s23 => ⟨true, rfl, iteF ?_⟩⟩
      exact ⟨_, _, _, rfl, same_tr s18' (same_tr s22 s23)⟩
    rintro σ H10 ⟨v4, v5, v6, rfl, s16⟩
    have s16H := same_tr s15H s16
    -- the empty loop
    refine ⟨_, rfl, Nat.zero_le _, fun e4 he4 => ⟨by show 2 ≤ sizeLine; decide, fun u8 hu8 => ⟨_, rfl, by show 2 ≤ sizeLine; decide, fun l11 hl11 => ⟨by show 2 ≤ sizeLine; decide, fun n11 hn11 => ?_⟩⟩⟩⟩
    obtain ⟨b1, s17⟩ := rowN (x := "Loop") (f := .loop) (as := []) (ks := []) rfl rfl .nil he4 hu8
    obtain ⟨b2, s18⟩ := rowN (x := "Seq") (f := .seq) (as := [u8, y]) rfl rfl (.cons b1 (.cons (hb.mono (same_tr s16H s17)) .nil)) hl11 hn11
    have s18H := same_tr s16H (same_tr s17 s18)
    generalize upd (upd (upd (upd H10 e4 (.lst [])) u8 (.tup [.str "Loop", .ref e4])) l11 (.lst [.ref u8, .ref y])) n11 (.tup [.str "Seq", .ref l11]) = H11 at *
    have zt : size (.node .seq false false [.node .loop false false [], b]) ≤ 400 := by
      simp only [size_eq, List.map_cons, List.map_nil, List.sum_cons, List.sum_nil]; omega
    have tt : height (.node .seq false false [.node .loop false false [], b]) ≤ 8 := by simp only [height, heightL]; omega
    refine ⟨_, n11, rfl, b2, tt, Nat.le_refl _, zt, fun H12 g1 s19 hg1 => ⟨fw, g1, pl, _, rfl, hf.mono (same_tr s18H s19), hok, hg1, zt, tt, fun H13 r1 s20 hr1 => ?_⟩⟩
    have s20H := same_tr s18H (same_tr s19 s20)
    refine ⟨_, rfl, _, rfl, by show 1 ≤ sizeLine; decide, fun u9 hu9 => ⟨by show 1 ≤ sizeLine; decide, fun l12 hl12 => ⟨by show 2 ≤ sizeLine; decide, fun n12 hn12 => ⟨_, rfl, by show 2 ≤ sizeLine; decide, fun l13 hl13 => ⟨by show 2 ≤ sizeLine; decide, fun n13 hn13 => ?_⟩⟩⟩⟩⟩
    obtain ⟨c1, s21⟩ := leafN (x := "Leave") (f := .leave) rfl rfl hu9
    obtain ⟨c2, s22⟩ := rowN (x := "Loop") (f := .loop) (as := [u9]) rfl rfl (.cons c1 .nil) hl12 hn12
    obtain ⟨c3, s23⟩ := rowN (x := "Seq") (f := .seq) (as := [n12, y]) rfl rfl (.cons c2 (.cons (hb.mono (same_tr s20H (same_tr s21 s22))) .nil)) hl13 hn13
    have s24 := same_tr s21 (same_tr s22 s23)
    have s24H := same_tr s20H s24
    have zu : size (inLoop [] (lf .leave) b) ≤ 400 := by rw [size_in, size_lf, List.map_nil, List.sum_nil]; omega
    have tu : height (inLoop [] (lf .leave) b) ≤ 8 := by rw [height_in, height_lf, heightL]; omega
    refine ⟨_, n13, rfl, c3, tu, Nat.le_refl _, zu, fun H14 g2 s25 hg2 => ⟨fw, g2, pl, _, rfl, hf.mono (same_tr s24H s25), hok, hg2, zu, tu, fun H15 r2 s26 hr2 => ?_⟩⟩
    have s26' := same_tr s24 (same_tr s25 s26)
    refine ⟨_, _, (hr1.mono s26').dp, hr2.dp, res_shaped _, res_shaped _, ?_⟩
    rw [law_b4 hP b]
    show Q (.bl (PyData.eqv (resD (res pl (inLoop [] (lf .leave) b))) (resD (res pl (inLoop [] (lf .leave) b))))) H15
    rw [SeqAt.eqv_refl _ (res_lay _)]
    exact k _ (same_tr s20H s26')
end
end Jz
end
section
set_option maxHeartbeats 4000000
set_option pp.maxSteps 150
/-! the law's draws -/
namespace Jz
open PySem PySem.Spec PyProof.Rows L2 ClX StX
/-- H without m and g -/
def mk2 (H : Hp) (m g : Addr) : Hp := fun a => if a = m ∨ a = g then none else H a
def kvM (c g : Addr) (z : Int) : List (Key × V) := [((.inr "cells" : Key), .ref c), (.inr "great", .ref g), (.inr "spot", .int z)]
/-- the state of the draws: cells, great ones, at most b drawn -/
structure Dst (H : Hp) (m g c : Addr) (b : Nat) : Prop where
  ex : ∃ (n : Nat) (cs : List Int) (gs : List Int), H m = some (.dK (kvM c g (n : Int))) ∧ H c = some (.lst (cs.map V.int)) ∧ c ≠ g ∧ H g = some (.lst (gs.map V.int)) ∧ n ≤ b ∧ cs.length = 64 ∧ gs.length ≤ 63 ∧ ∀ x ∈ cs, 0 ≤ x ∧ x < 2147483648
theorem v_cells {c g : Addr} {z : Int} : valV (kvM c g z) (.inr "cells" : Key) = some (.ref c) := by with_unfolding_all rfl
theorem v_great {c g : Addr} {z : Int} : valV (kvM c g z) (.inr "great" : Key) = some (.ref g) := by with_unfolding_all rfl
theorem v_spot {c g : Addr} {z : Int} : valV (kvM c g z) (.inr "spot" : Key) = some (.int z) := by with_unfolding_all rfl
theorem p_spot {c g : Addr} {z y : Int} : putK (kvM c g z) (.inr "spot" : Key) (.int y) = kvM c g y := by with_unfolding_all rfl
theorem gk_cells {H : Hp} {m c g : Addr} {z : Int} (h : H m = some (.dK (kvM c g z))) : DGet H m (.str "cells") (some (.ref c)) := v_cells (c := c) (g := g) (z := z) ▸ DGet.k (k := Sum.inr "cells") h
theorem gk_great {H : Hp} {m c g : Addr} {z : Int} (h : H m = some (.dK (kvM c g z))) : DGet H m (.str "great") (some (.ref g)) := v_great (c := c) (g := g) (z := z) ▸ DGet.k (k := Sum.inr "great") h
theorem gk_spot {H : Hp} {m c g : Addr} {z : Int} (h : H m = some (.dK (kvM c g z))) : DGet H m (.str "spot") (some (.int z)) := v_spot (c := c) (g := g) (z := z) ▸ DGet.k (k := Sum.inr "spot") h
theorem mk2_at {H : Hp} {m g a : Addr} (h1 : a ≠ m) (h2 : a ≠ g) : mk2 H m g a = H a := if_neg (fun z => z.elim h1 h2)
theorem mk2_inv {H : Hp} {m g a : Addr} {o : HO} (h : mk2 H m g a = some o) : a ≠ m ∧ a ≠ g ∧ H a = some o := by
  unfold mk2 at h
  split at h
  · cases h
  · rename_i q
    exact ⟨fun z => q (.inl z), fun z => q (.inr z), h⟩
def spMixed : Sp := fun vs H Q _ => ∃ c n : Int, vs = [.int c, .int n] ∧ 0 ≤ c ∧ c < 4294967296 ∧ 0 ≤ n ∧ n < 4096 ∧ ∀ r, 0 ≤ r → r < 2147483648 → Q (.int r) H
def spDraw : Sp := fun vs H Q _ => ∃ m g c b top, vs = [.ref m, .int top] ∧ Dst H m g c b ∧ b < 1000 ∧ 0 < top ∧ top ≤ 16 ∧ ∀ H' r, Same (mk2 H m g) (mk2 H' m g) → Dm H H' → Dst H' m g c (b + 1) → 0 ≤ r → r < top → Q (.int r) H'
theorem cmul {i : Int} (h0 : 0 ≤ i) (h1 : i < 1000000000000000000) : -(2 ^ 64) < i ∧ i < 2 ^ 64 := by
  have e : (2 : Int) ^ 64 = 18446744073709551616 := by decide
  rw [e]
  omega
section
variable {P : Program} {w : World} {K : PySem.W.Frag} {mg : Str → Option Value} {base : Heap}
abbrev sMixed : Stmt := top 49
theorem sc_mixed : FnScope ["_law_cell", "_law_n", "_law_turned"] ["_law_cell", "_law_n"] (defScope sMixed) := ⟨rfl, rfl, rfl, by decide +kernel, rfl, by decide +kernel, by decide +kernel⟩
theorem g_mixed (T : Tx K mg) : GF P w K mg base 1 "_law_mixed" ["_law_cell", "_law_n"] spMixed := by
  refine gf_of T.m__law_mixed T.d__law_mixed (fun _ _ _ _ _ _ us hl => match us, hl with | [_, _], _ => rfl) fun fd F => F.ok sc_mixed (fun vs H Q E h => ?_) (fun cdv A outer s H vs Q E hr h => ?_)
  · obtain ⟨c, n, rfl, _⟩ := h
    rfl
  · obtain ⟨c, n, rfl, c0, c1, n0, n1, k⟩ := h
    refine ⟨_, PSs.nox <| pss_cons (ps_set (i := 2) sc_mixed.nd rfl (.inl rfl) (pe_op op_add (pe_op op_add (pe_op op_mod (pe_op op_mul (pe_op op_mul (pv 0) (pe_op op_add pe_int (pe_op op_mul pe_int (pv 1)))) pe_int) pe_int) (pe_op op_mul (pe_op op_mul pe_int (pv 1)) (pv 1))) (pe_op op_mul pe_int (pv 1))))
      (pss_one (ps_ret (pe_op op_fdiv (pe_op op_mod (pe_op op_mul (pv 2) pe_int) pe_int) pe_int))), ?_⟩
    have hm0 : 0 ≤ c * (1 + 2 * n) := Int.mul_nonneg c0 (by omega)
    have hm1 : c * (1 + 2 * n) < 4294967296 * 8192 := by
      have h1 : c * (1 + 2 * n) ≤ 4294967296 * (1 + 2 * n) := Int.mul_le_mul_of_nonneg_right (by omega) (by omega)
      omega
    have hn1 : 7919 * n * n ≤ 7919 * 4096 * 4096 := by
      have h1 : 7919 * n * n ≤ 7919 * n * 4096 := Int.mul_le_mul_of_nonneg_left (by omega) (by omega)
      omega
    have hn0 : 0 ≤ 7919 * n * n := Int.mul_nonneg (by omega) n0
    have hq0 : 0 ≤ c * (1 + 2 * n) * 48271 % 2147483647 := Int.emod_nonneg _ (by decide)
    have hq1 : c * (1 + 2 * n) * 48271 % 2147483647 < 2147483647 := Int.emod_lt_of_pos _ (by decide)
    refine ⟨_, rfl, _, rfl, _, _, rfl, rfl, .inl (by decide), _, _, rfl, rfl, _, _, rfl, rfl, .inl (cmul c0 (by omega)), _, _, rfl, rfl, .inl (cmul hm0 (by omega)), _, _, rfl, rfl, by show (0 : Int) < 2147483647; decide, ?_⟩
    refine ⟨_, rfl, _, _, rfl, rfl, .inl (by decide), _, rfl, _, _, rfl, rfl, .inl (cmul (by omega) (by omega)), _, _, rfl, rfl, _, rfl, _, _, rfl, rfl, .inl (by decide), _, _, rfl, rfl, ?_⟩
    refine ⟨_, rfl, _, _, rfl, rfl, .inl (cmul (by omega) (by omega)), _, _, rfl, rfl, by show (0 : Int) < 2147483629; decide, _, _, rfl, rfl, ⟨by decide, by decide⟩, ?_⟩
    generalize (c * (1 + 2 * n) * 48271 % 2147483647 + 7919 * n * n + 104729 * n) * 69621 = z
    have h1 : 0 ≤ z % 2147483629 := Int.emod_nonneg _ (by decide)
    have h2 : z % 2147483629 < 2147483629 := Int.emod_lt_of_pos _ (by decide)
    exact k _ (by omega) (by omega)
abbrev sDraw : Stmt := top 51
theorem sc_draw : FnScope ["_law_m", "_law_top", "_law_n", "_law_at", "_law_cell"] ["_law_m", "_law_top"] (defScope sDraw) := ⟨rfl, rfl, rfl, by decide +kernel, rfl, by decide +kernel, by decide +kernel⟩
theorem g_draw (T : Tx K mg) : GF P w K mg base 2 "_law_draw" ["_law_m", "_law_top"] spDraw := by
  refine gf_of T.m__law_draw T.d__law_draw (fun _ _ _ _ _ _ us hl => match us, hl with | [_, _], _ => rfl) fun fd F => F.ok sc_draw (fun vs H Q E h => ?_) (fun cdv A outer s H vs Q E hr h => ?_)
  · obtain ⟨m, g, c, b, t, rfl, _⟩ := h
    rfl
  · obtain ⟨m, g, c, b, top, rfl, ⟨n, cs, gs, hm, hc, hcg, hg, hn, hcl, hgl, hcb⟩, hb, ht0, ht1, k⟩ := h
    have hu := hu_of hr
    refine ⟨_, PSs.nox <| pss_cons (ps_set (i := 2) sc_draw.nd rfl (.inl rfl) (pe_dget hu (pv 0) pe_str (fun _ _ => rfl)))
      (pss_cons (ps_dput hu (pv 0) pe_str (pe_op op_add (pv 2) pe_int) rfl)
      (pss_cons (ps_if (pt_cmpR (op_neL hr.units0) (pe_dget hu (pv 0) pe_str (fun _ _ => rfl)) (pe_lst pa_nil) (nomark _))
        (pss_cons (ps_set (i := 3) sc_draw.nd rfl (.inl rfl) (pe_op op_modN (pv 2) (pe_callB call_len_seq (by rfl) T.n_len PySem.boot_len (pa_cons (pe_dget hu (pv 0) pe_str (fun _ _ => rfl)) pa_nil))))
        (pss_cons (ps_set (i := 4) sc_draw.nd rfl (.inl rfl) (pe_ix ix_list (pe_dget hu (pv 0) pe_str (fun _ _ => rfl)) (pv 3) (fun _ _ => rfl)))
        (pss_one (ps_if (pt_cmpR op_gt (pv 4) pe_int (nomark _))
          (pss_cons (ps_asg (pe_op op_fdiv (pv 4) (pv 1)) (pg_sub (pe_dget hu (pv 0) pe_str (fun _ _ => rfl)) (pv 3) set_list))
          (pss_one (ps_ret (pe_op op_mod (pv 4) (pv 1))))) pss_nil)))) pss_nil)
      (pss_one (ps_ret (pe_op op_mod (pe_g (g_mixed T) hr (pa_cons (pe_g (g_mixed T) hr (pa_cons (pe_op op_add (pe_ix ix_list (pe_dget hu (pv 0) pe_str (fun _ _ => rfl)) (pe_op op_mod (pv 2) pe_int) (fun _ _ => rfl)) (pe_op op_mul pe_int (pe_op op_fdiv (pv 2) pe_int))) (pa_cons (pv 2) pa_nil)))
          (pa_cons (pe_op op_add (pv 2) pe_int) pa_nil))) (pv 1)))))), ?_⟩
    have hcm : c ≠ m := ne_of hc hm (by intro z; cases z)
    have hgm : g ≠ m := ne_of hg hm (by intro z; cases z)
    refine ⟨_, rfl, m, _, rfl, gk_spot hm, _, rfl, _, _, rfl, rfl, _, rfl, m, _, rfl, DPut.k (k := Sum.inr "spot") hm (by show 3 < sizeLine; decide), ?_⟩
    rw [p_spot]
    have hm1 : (upd H m (.dK (kvM c g ((n : Int) + 1)))) m = some (.dK (kvM c g ((n : Int) + 1))) := upd_same
    have hc1 : (upd H m (.dK (kvM c g ((n : Int) + 1)))) c = some (.lst (cs.map V.int)) := by rw [upd_ne hcm]; exact hc
    have hg1 : (upd H m (.dK (kvM c g ((n : Int) + 1)))) g = some (.lst (gs.map V.int)) := by rw [upd_ne hgm]; exact hg
    refine ⟨_, rfl, m, _, rfl, gk_great hm1, Nat.zero_le _, fun e0 he0 => ⟨g, e0, _, rfl, rfl, SqL.of (same_new he0 _ _ _ hg1), SqL.of upd_same, _, rfl, ?_⟩⟩
    have sE := same_new he0 (.lst [])
    have HM := sE _ _ hm1
    have HC := sE _ _ hc1
    have HG := sE _ _ hg1
    have FR : Same (mk2 H m g) (mk2 (upd (upd H m (.dK (kvM c g ((n : Int) + 1)))) e0 (.lst [])) m g) := fun a o ha => by
      obtain ⟨a1, a2, a3⟩ := mk2_inv ha
      rw [mk2_at a1 a2]
      exact sE _ _ (by rw [upd_ne a1]; exact a3)
    have DM : Dm H (upd (upd H m (.dK (kvM c g ((n : Int) + 1)))) e0 (.lst [])) := (Dm.upd (Dm.upd (Dm.of same_rfl)))
    have DS : Dst (upd (upd H m (.dK (kvM c g ((n : Int) + 1)))) e0 (.lst [])) m g c (b + 1) := ⟨n + 1, cs, gs, HM, HC, hcg, HG, by omega, hcl, hgl, hcb⟩
    generalize upd (upd H m (.dK (kvM c g ((n : Int) + 1)))) e0 (.lst []) = H2 at *
    have hn64 : (n : Int) % 64 = ((n % 64 : Nat) : Int) := by omega
    have hlt : n % 64 < cs.length := by rw [hcl]; exact Nat.mod_lt _ (by decide)
    obtain ⟨cv, hcv, cv0, cv1⟩ : ∃ cv : Int, atI (cs.map V.int) ((n : Int) % 64) = some (.int cv) ∧ 0 ≤ cv ∧ cv < 2147483648 := by
      have := hcb _ (List.getElem_mem hlt)
      exact ⟨cs[n % 64], by rw [hn64]; exact atI_nat (by rw [List.getElem?_map, List.getElem?_eq_getElem hlt]; rfl), this.1, this.2⟩
    refine ite2 (fun z => ?_) (fun z => ?_)
    · have hgl0 : 0 < gs.length := by
        cases gs with
        | nil => cases z
        | cons _ _ => exact Nat.succ_pos _
      refine ⟨_, rfl, _, rfl, m, _, rfl, gk_great HM, g, _, rfl, .inl (SqL.of HG), _, _, rfl, rfl, ?_, ?_⟩
      · rw [List.length_map]; show ((gs.length : Nat) : Int) ≠ 0; omega
      have hat : Int.fmod (n : Int) (((gs.map V.int).length : Nat) : Int) = ((n % gs.length : Nat) : Int) := by
        rw [List.length_map, Int.fmod_eq_emod_of_nonneg _ (by omega)]
        omega
      have hgt : n % gs.length < gs.length := Nat.mod_lt _ hgl0
      refine ⟨_, rfl, m, _, rfl, gk_great HM, _, rfl, g, _, _, .int gs[n % gs.length], rfl, rfl, SqL.of HG, ?_, ?_⟩
      · show atI _ (Int.fmod (n : Int) (((gs.map V.int).length : Nat) : Int)) = _
        rw [hat]
        exact atI_nat (by rw [List.getElem?_map, List.getElem?_eq_getElem hgt]; rfl)
      refine ⟨_, rfl, _, _, rfl, rfl, _, rfl, ?_⟩
      refine ite2 (fun z2 => ?_) (fun z2 => ?_)
      · refine ⟨_, rfl, _, rfl, _, _, rfl, rfl, ⟨ht0, by omega⟩, _, rfl, m, _, rfl, gk_great HM, _, rfl, g, _, _, n % gs.length, rfl, rfl, HG, ?_, ?_⟩
        · show ixN (gs.map V.int).length (Int.fmod (n : Int) (((gs.map V.int).length : Nat) : Int)) = _
          rw [hat, List.length_map]
          unfold ixN
          rw [if_pos (by omega), if_pos (by omega), Int.toNat_natCast]
        · refine ⟨_, rfl, _, rfl, _, _, rfl, rfl, ht0, ?_⟩
          refine k _ _ (fun a o ha => ?_) DM.upd ⟨n + 1, cs, gs.set (n % gs.length) (gs[n % gs.length] / top), ?_, ?_, hcg, ?_, by omega, hcl, ?_, hcb⟩ (Int.emod_nonneg _ (by omega)) (Int.emod_lt_of_pos _ ht0)
          · obtain ⟨a1, a2, a3⟩ := mk2_inv (FR _ _ ha)
            rw [mk2_at a1 a2, upd_ne a2]
            exact a3
          · rw [upd_ne hgm.symm]; exact HM
          · rw [upd_ne hcg]; exact HC
          · rw [upd_same, List.map_set]
          · rw [List.length_set]; exact hgl
      · refine ⟨_, rfl, m, _, rfl, gk_cells HM, _, rfl, _, _, rfl, rfl, by show (0 : Int) < 64; decide, c, _, _, .int cv, rfl, rfl, SqL.of HC, hcv, ?_⟩
        refine ⟨_, rfl, _, _, rfl, rfl, ⟨by decide, by decide⟩, _, _, rfl, rfl, .inl (by decide), _, _, rfl, rfl, _, rfl, _, _, rfl, by omega, by omega, by omega, by omega, fun r1 r10 r11 => ?_⟩
        refine ⟨_, rfl, _, _, rfl, rfl, _, _, rfl, r10, by omega, by omega, by omega, fun r2 r20 r21 => ⟨_, rfl, _, _, rfl, rfl, ht0, ?_⟩⟩
        exact k _ _ FR DM DS (Int.emod_nonneg _ (by omega)) (Int.emod_lt_of_pos _ ht0)
    · refine ⟨_, rfl, m, _, rfl, gk_cells HM, _, rfl, _, _, rfl, rfl, by show (0 : Int) < 64; decide, c, _, _, .int cv, rfl, rfl, SqL.of HC, hcv, ?_⟩
      refine ⟨_, rfl, _, _, rfl, rfl, ⟨by decide, by decide⟩, _, _, rfl, rfl, .inl (by decide), _, _, rfl, rfl, _, rfl, _, _, rfl, by omega, by omega, by omega, by omega, fun r1 r10 r11 => ?_⟩
      refine ⟨_, rfl, _, _, rfl, rfl, _, _, rfl, r10, by omega, by omega, by omega, fun r2 r20 r21 => ⟨_, rfl, _, _, rfl, rfl, ht0, ?_⟩⟩
      exact k _ _ FR DM DS (Int.emod_nonneg _ (by omega)) (Int.emod_lt_of_pos _ ht0)
end
end Jz
end
section
set_option maxHeartbeats 4000000
set_option pp.maxSteps 150
/-! the draws' beginning -/
namespace Jz
open PySem PySem.Spec PyProof.Rows L2 ClX StX
def Cel (cs : List Int) : Prop := cs.length = 64 ∧ ∀ x ∈ cs, 0 ≤ x ∧ x < 2147483648
def spFolded (K : PySem.W.Frag) : Sp := fun vs H Q _ => ∃ (a : Addr) (ns : List Int), vs = [.ref a] ∧ SqL K H a (ns.map V.int) ∧ ∀ H' l (cs : List Int), Acc H l (cs.map V.int) H' → Cel cs → Q (.ref l) H'
def spBegun (K : PySem.W.Frag) : Sp := fun vs H Q _ => ∃ (a : Addr) (ns : List Int), vs = [.ref a] ∧ SqL K H a (ns.map V.int) ∧ ns.length ≤ 63 ∧ ∀ H' m g c, Same H H' → H m = none → H g = none → Dst H' m g c 0 → Q (.ref m) H'
theorem Cel.set {cs : List Int} (h : Cel cs) {i : Nat} {x : Int} (h0 : 0 ≤ x) (h1 : x < 2147483648) : Cel (cs.set i x) := ⟨by rw [List.length_set]; exact h.1, fun y hy => (List.mem_or_eq_of_mem_set hy).elim (h.2 y) fun e => by rw [e]; exact ⟨h0, h1⟩⟩
theorem ixN_nat {n i : Nat} (h : i < n) : ixN n (i : Int) = some i := by
  unfold ixN
  rw [if_pos (by omega), if_pos (by omega), Int.toNat_natCast]
section
variable {P : Program} {w : World} {K : PySem.W.Frag} {mg : Str → Option Value} {base : Heap}
abbrev sFolded : Stmt := top 50
theorem sc_folded : FnScope ["_law_script", "_law_n", "_law_found", "_law_cell"] ["_law_script"] (defScope sFolded) := ⟨rfl, rfl, rfl, by decide +kernel, rfl, by decide +kernel, by decide +kernel⟩
theorem g_folded (T : Tx K mg) : GF P w K mg base 1 "_law_folded" ["_law_script"] (spFolded K) := by
  refine gf_of T.m__law_folded T.d__law_folded (fun _ _ _ _ _ _ us hl => match us, hl with | [_], _ => rfl) fun fd F => F.ok sc_folded (fun vs H Q E h => ?_) (fun cdv A outer s H vs Q E hr h => ?_)
  · obtain ⟨a, ns, rfl, _⟩ := h
    rfl
  · obtain ⟨a, ns, rfl, hS, k⟩ := h
    refine ⟨_, PSs.nox <| pss_cons (ps_setLc (i := 2) (own := [("_law_n", 1)]) (g := gName 1) (by rfl) sc_folded.nd rfl rfl (sw_true rfl rfl rfl (by decide +kernel)) (pi_range1 (by rfl) T.n_range (pa_cons pe_int pa_nil))
        (blkOk_by (own := [("_law_n", 1)]) (N := ["_law_script", "_law_n", "_law_found", "_law_cell"]) (sc := defScope sFolded) (by decide +kernel)) (fun _ _ _ _ _ => pg_name (i := 1) sc_folded.nd rfl (Or.inl rfl)) (fun _ _ _ _ _ => pts_nil) (fun _ _ _ _ _ => pe_op op_add pe_int (pv 1)))
      (pss_cons (ps_for PassesOwn.never rfl (pi_enum (by rfl) T.n_enumerate (pa_cons (pv 0) pa_nil)) (pg_tup rfl (pgs_cons (pg_name (i := 1) sc_folded.nd rfl (.inl rfl)) (pgs_cons (pg_name (i := 3) sc_folded.nd rfl (.inl rfl)) pgs_nil)))
        (pss_one (ps_asg (pe_op op_mod (pe_op op_add (pe_op op_mul (pe_ix ix_list (pv 2) (pe_op op_mod (pv 1) pe_int) (fun _ _ => rfl)) pe_int) (pv 3)) pe_int) (pg_sub (pv 2) (pe_op op_mod (pv 1) pe_int) set_list))))
      (pss_cons (ps_for PassesOwn.never rfl (pi_range2 (by rfl) T.n_range (pa_cons pe_int (pa_cons pe_int pa_nil))) (pg_name (i := 1) sc_folded.nd rfl (.inl rfl))
        (pss_one (ps_asg (pe_op op_mod (pe_op op_add (pe_ix ix_list (pv 2) (pv 1) (fun _ _ => rfl)) (pe_op op_mul (pe_ix ix_list (pv 2) (pe_op op_sub (pv 1) pe_int) (fun _ _ => rfl)) pe_int)) pe_int) (pg_sub (pv 2) (pv 1) set_list))))
      (pss_one (ps_ret (pv 2))))), ?_⟩
    refine ⟨64, rfl, by decide, by decide, fun D hD => lc_range (lo := 0) (n := 64) (fun i H' => ∃ cs : List Int, Acc H D (cs.map V.int) H' ∧ cs.length = i ∧ ∀ x ∈ cs, 0 ≤ x ∧ x < 2147483648) ⟨[], Acc.start hD, rfl, fun x h => nomatch h⟩ ?_ ?_⟩
    · rintro i H1 hi ⟨cs, A, hl, hb⟩
      refine ⟨rfl, yes1 ⟨_, rfl, _, _, rfl, rfl, _, A.at', ?_, cs ++ [17 + (0 + (i : Int))], ?_, ?_, ?_⟩⟩
      · rw [List.length_map, hl]; exact Nat.lt_trans hi (by decide)
      · rw [List.map_append]; exact A.push
      · rw [List.length_append, hl]; rfl
      · intro x hx
        rcases List.mem_append.mp hx with h | h
        · exact hb x h
        · rw [List.mem_singleton.mp h]; omega
    rintro H1 ⟨cs, A, hl, hb⟩
    have C1 : Cel cs := ⟨hl, hb⟩
    refine ⟨_, rfl, a, _, rfl, A.1.seq hS, for_it (walk_enum (xs := ns.map V.int)) (fun i σ H' => ∃ v1 v3 cs, σ = [some (.ref a), v1, some (.ref D), v3] ∧ Acc H D (cs.map V.int) H' ∧ Cel cs) ⟨_, _, cs, rfl, A, C1⟩ (fun i σ H' _ ⟨_, _, _, _, A, _⟩ => A.1.seq hS) ?_ ?_⟩
    · rintro i v σ H2 H2' hi ⟨v1, v3, cs, rfl, A, C⟩ ⟨T1, x, y, rfl, hT, rfl, hx, hy⟩
      cases hx
      rw [List.length_map] at hi
      have hy' : (ns.map V.int)[i]? = some y := hy
      rw [List.getElem?_map, List.getElem?_eq_getElem hi] at hy'
      obtain rfl := Option.some.inj hy'
      refine ⟨T1, _, rfl, SqT.of upd_same, rfl, _, _, rfl, _, _, rfl, rfl, ?_⟩
      have A1 := A.new (o := .tup [.int (i : Nat), .int ns[i]]) hT
      have hlt : i % 64 < cs.length := by rw [C.1]; exact Nat.mod_lt _ (by decide)
      have e64 : ((i : Nat) : Int) % 64 = ((i % 64 : Nat) : Int) := by omega
      have hcb := C.2 _ (List.getElem_mem hlt)
      refine ⟨_, rfl, _, rfl, _, _, rfl, rfl, by show (0 : Int) < 64; decide, D, _, _, .int cs[i % 64], rfl, rfl, SqL.of A1.at', ?_, ?_⟩
      · show atI _ (((i : Nat) : Int) % 64) = _
        rw [e64]; exact atI_nat (by rw [List.getElem?_map, List.getElem?_eq_getElem hlt]; rfl)
      refine ⟨_, _, rfl, rfl, .inl (cmul hcb.1 (by omega)), _, rfl, _, _, rfl, rfl, _, _, rfl, rfl, by show (0 : Int) < 2147483647; decide, _, rfl, _, rfl, _, _, rfl, rfl, by show (0 : Int) < 64; decide, D, _, _, i % 64, rfl, rfl, A1.at', ?_, ?_⟩
      · show ixN _ (((i : Nat) : Int) % 64) = _
        rw [e64, List.length_map]; exact ixN_nat hlt
      · have h0 := Int.emod_nonneg (cs[i % 64] * 48271 + ns[i]) (show (2147483647 : Int) ≠ 0 by decide)
        have h1 := Int.emod_lt_of_pos (cs[i % 64] * 48271 + ns[i]) (show (0 : Int) < 2147483647 by decide)
        exact ⟨_, _, cs.set (i % 64) ((cs[i % 64] * 48271 + ns[i]) % 2147483647), rfl, by rw [List.map_set]; exact A1.push, C.set h0 (by omega)⟩
    rintro σ H2 ⟨v1, v3, cs, rfl, A, C⟩
    refine ⟨1, 64, rfl, ⟨by decide, by decide, by decide, by decide⟩, for_range (lo := 1) (n := 63) (fun i σ H' => ∃ v1 v3 cs, σ = [some (.ref a), v1, some (.ref D), v3] ∧ Acc H D (cs.map V.int) H' ∧ Cel cs) ⟨_, _, cs, rfl, A, C⟩ ?_ ?_⟩
    · rintro i σ H3 hi ⟨v1, v3, cs, rfl, A, C⟩
      have hlt : i + 1 < cs.length := by rw [C.1]; omega
      have hlt0 : i < cs.length := by omega
      have e1 : (1 : Int) + (i : Nat) = ((i + 1 : Nat) : Int) := by omega
      have e0 : (1 : Int) + (i : Nat) - 1 = ((i : Nat) : Int) := by omega
      have b1 := C.2 _ (List.getElem_mem hlt)
      have b0 := C.2 _ (List.getElem_mem hlt0)
      refine ⟨_, rfl, _, rfl, D, _, _, .int cs[i + 1], rfl, rfl, SqL.of A.at', ?_, ?_⟩
      · show atI _ ((1 : Int) + (i : Nat)) = _
        rw [e1]; exact atI_nat (by rw [List.getElem?_map, List.getElem?_eq_getElem hlt]; rfl)
      refine ⟨_, rfl, _, rfl, _, _, rfl, rfl, D, _, _, .int cs[i], rfl, rfl, SqL.of A.at', ?_, ?_⟩
      · show atI _ ((1 : Int) + (i : Nat) - 1) = _
        rw [e0]; exact atI_nat (by rw [List.getElem?_map, List.getElem?_eq_getElem hlt0]; rfl)
      refine ⟨_, _, rfl, rfl, .inl (cmul b0.1 (by omega)), _, _, rfl, rfl, _, _, rfl, rfl, by show (0 : Int) < 2147483647; decide, _, rfl, _, rfl, D, _, _, i + 1, rfl, rfl, A.at', ?_, ?_⟩
      · show ixN _ ((1 : Int) + (i : Nat)) = _
        rw [e1, List.length_map]; exact ixN_nat hlt
      · have h0 := Int.emod_nonneg (cs[i + 1] + cs[i] * 16807) (show (2147483647 : Int) ≠ 0 by decide)
        have h1 := Int.emod_lt_of_pos (cs[i + 1] + cs[i] * 16807) (show (0 : Int) < 2147483647 by decide)
        exact ⟨_, _, cs.set (i + 1) ((cs[i + 1] + cs[i] * 16807) % 2147483647), rfl, by rw [List.map_set]; exact A.push, C.set h0 (by omega)⟩
    · rintro σ H3 ⟨v1, v3, cs, rfl, A, C⟩
      exact ⟨_, rfl, k _ D cs A C⟩
abbrev sBegun : Stmt := top 52
theorem sc_begun : FnScope ["_law_script", "_law_m", "_law_cell"] ["_law_script"] (defScope sBegun) := ⟨rfl, rfl, rfl, by decide +kernel, rfl, by decide +kernel, by decide +kernel⟩
theorem g_begun (T : Tx K mg) : GF P w K mg base 2 "_law_begun" ["_law_script"] (spBegun K) := by
  refine gf_of T.m__law_begun T.d__law_begun (fun _ _ _ _ _ _ us hl => match us, hl with | [_], _ => rfl) fun fd F => F.ok sc_begun (fun vs H Q E h => ?_) (fun cdv A outer s H vs Q E hr h => ?_)
  · obtain ⟨a, ns, rfl, _⟩ := h
    rfl
  · obtain ⟨a, ns, rfl, hS, hl, k⟩ := h
    have hu := hu_of hr
    refine ⟨_, PSs.nox <| pss_cons (ps_set (i := 1) sc_begun.nd rfl (.inl rfl) (pe_disp (pps_cons pe_str (pe_g (g_folded T) hr (pa_cons (pv 0) pa_nil)) (pps_cons pe_str (pe_lst pa_nil) (pps_cons pe_str pe_int pps_nil))) (by rfl) (by rfl) (fun z => by cases z) (by decide)))
      (pss_cons (ps_dput hu (pv 1) pe_str (pe_lc (own := [("_law_cell", 2)]) (g := gName 2) (by rfl) sc_begun.nd (pi_list (pv 0)) (blkOk_by (own := [("_law_cell", 2)]) (N := ["_law_script", "_law_m", "_law_cell"]) (sc := defScope sBegun) (by decide +kernel))
          (fun _ _ _ _ _ => pg_name (i := 2) sc_begun.nd rfl (Or.inl rfl)) (fun _ _ _ _ _ => pts_nil) (fun _ _ _ _ _ => pe_ifExp (pt_cmpR op_ge (pv 2) (pe_op op_pow pe_int pe_int) (nomark _)) (pv 2) pe_int)) rfl)
      (pss_one (ps_ret (pv 1)))), ?_⟩
    intro m hm
    refine ⟨_, rfl, a, ns, rfl, (same_new hm _).seq hS, fun H1 c cs A C => ⟨Nat.zero_le _, fun g0 hg0 => ⟨?_, [((.inr "cells" : Key), .ref c), (.inr "great", .ref g0), (.inr "spot", .int 0)], rfl, by show 3 ≤ 15; decide, ?_⟩⟩⟩
    · exact same_new hg0 _ _ _ (A.1 _ _ upd_same)
    have sm : Same H (upd (upd H1 g0 (.lst [])) m (.dK (kvM c g0 0))) := fun b o e => by
      rw [upd_ne (ne_of_none e hm)]
      exact same_new hg0 _ _ _ (A.1 _ _ (same_new hm _ _ _ e))
    have hcm : c ≠ m := ne_of A.at' (A.1 _ _ (upd_same (H := H))) (by intro z; cases z)
    have hc : (upd (upd H1 g0 (.lst [])) m (.dK (kvM c g0 0))) c = some (.lst (cs.map V.int)) := by rw [upd_ne hcm]; exact same_new hg0 _ _ _ A.at'
    have hm2 : (upd (upd H1 g0 (.lst [])) m (.dK (kvM c g0 0))) m = some (.dK (kvM c g0 0)) := upd_same
    rw [show mergeK [] [((.inr "cells" : Key), V.ref c), (.inr "great", .ref g0), (.inr "spot", .int 0)] = kvM c g0 0 by with_unfolding_all rfl]
    generalize upd (upd H1 g0 (.lst [])) m (.dK (kvM c g0 0)) = H2 at *
    refine ⟨_, rfl, a, rfl, ⟨_, sm.seq hS⟩, fun D hD => lc_list (K := K) (xs := ns.map V.int) (fun i H' => ∃ gs : List Int, Acc H2 D (gs.map V.int) H' ∧ gs.length = i) ⟨[], Acc.start hD, rfl⟩ (fun i H' _ ⟨_, A, _⟩ => A.1.seq (sm.seq hS)) ?_ ?_⟩
    · rintro i y H3 hy ⟨gs, B, hgl⟩
      have hi := (List.getElem?_eq_some_iff.mp hy).1
      rw [List.length_map] at hi
      rw [List.getElem?_map, List.getElem?_eq_getElem hi] at hy
      obtain rfl := Option.some.inj hy
      have fin : ∀ z : Int, ∃ acc, H3 D = some (.lst acc) ∧ acc.length < sizeLine ∧ ∃ gs : List Int, Acc H2 D (gs.map V.int) (upd H3 D (.lst (acc ++ [.int z]))) ∧ gs.length = i + 1 := fun z => by
        refine ⟨_, B.at', ?_, gs ++ [z], ?_, by rw [List.length_append, hgl]; rfl⟩
        · rw [List.length_map, hgl]; exact Nat.lt_of_lt_of_le (show i < 64 by omega) (by decide)
        · rw [List.map_append]; exact B.push
      refine ⟨rfl, yes1 ⟨_, rfl, _, _, rfl, rfl, ⟨by decide, by decide, by decide⟩, _, _, rfl, rfl, _, rfl, ?_⟩⟩
      refine ite2 (fun z => ?_) (fun z => ?_)
      · exact ⟨_, rfl, fin _⟩
      · exact fin _
    rintro H3 ⟨gs, B, hgl⟩
    rw [List.length_map] at hgl
    refine ⟨_, rfl, m, _, rfl, DPut.k (k := Sum.inr "great") (B.1 _ _ hm2) (by show 3 < sizeLine; decide), ?_⟩
    rw [show putK (kvM c g0 0) (.inr "great" : Key) (V.ref D) = kvM c D 0 by with_unfolding_all rfl]
    have hDm : D ≠ m := ne_of B.at' (B.1 _ _ hm2) (by intro z; cases z)
    have hcD : c ≠ D := fun z => by have := B.2.1; rw [← z, hc] at this; cases this
    refine ⟨_, rfl, k _ m D c ?_ hm (sm.free B.2.1) ⟨0, cs, gs, upd_same, ?_, hcD, ?_, Nat.le_refl _, C.1, by omega, C.2⟩⟩
    · intro b o e
      rw [upd_ne (ne_of_none e hm)]
      exact B.1 _ _ (sm _ _ e)
    · rw [upd_ne hcm]; exact B.1 _ _ hc
    · rw [upd_ne hDm]; exact B.at'
end
end Jz
end
section
set_option maxHeartbeats 4000000
set_option pp.maxSteps 150
/-! drawn plants: what a step leaves -/
namespace Jz
open PySem PySem.Spec PyProof.Rows L2 ClX StX
/-- from H0 to H: the draws' state apart, all stands; at most b drawn -/
structure Stp (H0 H : Hp) (m g c : Addr) (b : Nat) : Prop where
  s : Same (mk2 H0 m g) (mk2 H m g)
  d : Dm H0 H
  t : Dst H m g c b
section
variable {H0 H H' : Hp} {m g c p : Addr} {b b' : Nat} {o : HO}
theorem Dst.dom (t : Dst H m g c b) : H m ≠ none ∧ H g ≠ none ∧ H c ≠ none := by
  obtain ⟨n, cs, gs, h1, h2, h3, h4, _⟩ := t.ex
  exact ⟨(by rw [h1]; intro z; cases z), (by rw [h4]; intro z; cases z), (by rw [h2]; intro z; cases z)⟩
theorem Dst.le (t : Dst H m g c b) (h : b ≤ b') : Dst H m g c b' := by
  obtain ⟨n, cs, gs, h1, h2, h3, h4, h5, r⟩ := t.ex
  exact ⟨n, cs, gs, h1, h2, h3, h4, Nat.le_trans h5 h, r⟩
theorem Dst.upd (t : Dst H m g c b) (h1 : p ≠ m) (h2 : p ≠ g) (h3 : p ≠ c) : Dst (upd H p o) m g c b := by
  obtain ⟨n, cs, gs, e1, e2, e3, e4, r⟩ := t.ex
  exact ⟨n, cs, gs, by rw [upd_ne h1.symm]; exact e1, by rw [upd_ne h3.symm]; exact e2, e3, by rw [upd_ne h2.symm]; exact e4, r⟩
theorem Dst.same (t : Dst H m g c b) (s : Same H H') : Dst H' m g c b := by
  obtain ⟨n, cs, gs, e1, e2, e3, e4, r⟩ := t.ex
  exact ⟨n, cs, gs, s _ _ e1, s _ _ e2, e3, s _ _ e4, r⟩
theorem mk2_same (s : Same H H') : Same (mk2 H m g) (mk2 H' m g) := fun a u e => by
  obtain ⟨a1, a2, a3⟩ := mk2_inv e
  rw [mk2_at a1 a2]
  exact s _ _ a3
theorem Stp.refl (t : Dst H m g c b) : Stp H H m g c b := ⟨same_rfl, Dm.of same_rfl, t⟩
theorem Stp.tr {H'' : Hp} (a : Stp H0 H m g c b) (x : Stp H H'' m g c b') : Stp H0 H'' m g c b' := ⟨same_tr a.s x.s, a.d.tr x.d, x.t⟩
theorem Stp.same (a : Stp H0 H m g c b) (s : Same H H') : Stp H0 H' m g c b := ⟨same_tr a.s (mk2_same s), a.d.tr (Dm.of s), a.t.same s⟩
theorem Stp.new (a : Stp H0 H m g c b) (n : H p = none) (o : HO) : Stp H0 (upd H p o) m g c b := a.same (same_new n o)
theorem Stp.le (a : Stp H0 H m g c b) (h : b ≤ b') : Stp H0 H m g c b' := ⟨a.s, a.d, a.t.le h⟩
theorem Stp.keep {a : Addr} (x : Stp H0 H m g c b) (e : H0 a = some o) (h1 : a ≠ m) (h2 : a ≠ g) : H a = some o := by
  rw [← mk2_at (H := H) h1 h2]
  exact x.s _ _ (by rw [mk2_at h1 h2]; exact e)
theorem Dst.ne (t : Dst H m g c b) (h : H p = none) : p ≠ m ∧ p ≠ g ∧ p ≠ c := ⟨fun z => t.dom.1 (by rw [← z]; exact h), fun z => t.dom.2.1 (by rw [← z]; exact h), fun z => t.dom.2.2 (by rw [← z]; exact h)⟩
/-- what is new stands -/
theorem nw_stp {B : Hp} (hm : B m ≠ none) (hg : B g ≠ none) (a : Stp H H' m g c b) : Same (nw B H) (nw B H') := fun x u e => by
  obtain ⟨e1, e2⟩ := nw_inv e
  have h1 : x ≠ m := fun z => hm (by rw [← z]; exact e1)
  have h2 : x ≠ g := fun z => hg (by rw [← z]; exact e1)
  exact nw_at e1 (by rw [← mk2_at (H := H') h1 h2]; exact a.s _ _ (by rw [mk2_at h1 h2]; exact e2))
end
/-- a drawn tree -/
structure Gd (n h : Nat) (t : Tr) : Prop where
  z : size t ≤ n
  h : height t ≤ h
  l : Lf t
theorem pl_tx1 {H : Hp} {f : Fm} {a b v : Bool} {u : Addr} (hk : kinds f a b = [.tx (sh v)]) (h : H u = some (.tup [.str (fmN f), .str (sh v)])) : PlAt H (.node f a b []) u :=
  .mk (ps := [.tx (sh v)]) h (fun _ _ h => by cases List.mem_singleton.mp h) hk.symm rfl (fun _ _ _ h => nomatch h)
theorem pl_let {H : Hp} {a b : Bool} {u : Addr} (h : H u = some (.tup [.str "Let", .str (sh a), .str (sh b)])) : PlAt H (.node .letf a b []) u :=
  .mk (ps := [.tx (sh a), .tx (sh b)]) h (fun r as h => by
    rcases List.mem_cons.mp h with h | h
    · cases h
    · cases List.mem_singleton.mp h) rfl rfl (fun _ _ _ h => nomatch h)
theorem pl_pair {H : Hp} {u x y : Addr} {t s : Tr} (h : H u = some (.tup [.str "Pair", .ref x, .ref y])) (hx : PlAt H t x) (hy : PlAt H s y) : PlAt H (.node .pair false false [t, s]) u :=
  .mk (ps := [.on x, .on y]) h (fun r as h => by
    rcases List.mem_cons.mp h with h | h
    · cases h
    · cases List.mem_singleton.mp h) rfl rfl (fun i k c h1 h2 => by
    match i, h1, h2 with
    | 0, h1, h2 => cases h1; cases h2; exact hx
    | 1, h1, h2 => cases h1; cases h2; exact hy
    | _ + 2, h1, _ => cases h1)
theorem pl_wrap {H : Hp} {u x : Addr} {t : Tr} {v : Bool} (h : H u = some (.tup [.str "Wrap", .str (sh v), .ref x])) (hx : PlAt H t x) : PlAt H (.node .wrap v false [t]) u :=
  .mk (ps := [.tx (sh v), .on x]) h (fun r as h => by
    rcases List.mem_cons.mp h with h | h
    · cases h
    · cases List.mem_singleton.mp h) rfl rfl (fun i k c h1 h2 => by
    match i, h1, h2 with
    | 0, h1, h2 => cases h1; cases h2; exact hx
    | _ + 1, h1, _ => cases h1)
theorem pl_full {H : Hp} {u r : Addr} {as : List Addr} {ks : List Tr} {v : Bool} (h : H u = some (.tup [.str "Full", .str (sh v), .ref r])) (hr : H r = some (.lst (rl as))) (hp : Paired (PlAt H) ks as) : PlAt H (.node .full v false ks) u := by
  have e : kidsA [Pv.tx (sh v), Pv.rw r as] = as := by unfold kidsA; simp [Pv.as]
  refine .mk (ps := [.tx (sh v), .rw r as]) h (fun r' as' hm => ?_) rfl (by rw [e]; exact (paired_len hp).symm) (fun i k c h1 h2 => ?_)
  · rcases List.mem_cons.mp hm with h | h
    · cases h
    · cases List.mem_singleton.mp h
      exact hr
  · rw [e] at h2
    obtain ⟨i1, i2⟩ := List.getElem?_eq_some_iff.mp h1
    obtain ⟨j1, j2⟩ := List.getElem?_eq_some_iff.mp h2
    have := paired_get hp i1 j1
    rw [i2, j2] at this
    exact this
theorem gd_leaf {f : Fm} {a b : Bool} {h : Nat} : Gd 1 (h + 1) (.node f a b []) := ⟨Nat.le_refl _, by simp only [height, heightL]; omega, .mk (fun _ => rfl) (fun _ h => nomatch h)⟩
theorem Gd.le {n h n' h' : Nat} {t : Tr} (g : Gd n h t) (a : n ≤ n') (b : h ≤ h') : Gd n' h' t := ⟨Nat.le_trans g.z a, Nat.le_trans g.h b, g.l⟩
/-- the letter that is drawn -/
def tAB : TE := fun σ H Q => ∃ m g c b, σ[0]? = some (some (V.ref m)) ∧ Dst H m g c b ∧ b < 1000 ∧ ∀ H' v, Stp H H' m g c (b + 1) → Q (.str (sh v)) H'
/-- a drawn number below top -/
def tDr (top : Int) : TE := fun σ H Q => ∃ m g c b, σ[0]? = some (some (V.ref m)) ∧ Dst H m g c b ∧ b < 1000 ∧ 0 < top ∧ top ≤ 16 ∧ ∀ H' r, Stp H H' m g c (b + 1) → 0 ≤ r → r < top → Q (.int r) H'
section
variable {X : Cx} {K : PySem.W.Frag} {top : Int} {k : Nat} {e : Expr} {es : List Expr} {p1 p2 p3 pos : Pos}
theorem dr_imp {t : TA} : ∀ σ H Q, tDr top σ H Q → tCall spDraw [] E0 (tCons (tVar 0) (tCons (tC (.int top)) tNil)) σ H Q := fun σ H Q ⟨m, g, c, b, e0, h1, h2, h3, h4, k⟩ => ⟨_, e0, m, g, c, b, top, rfl, h1, h2, h3, h4, fun H' r s d t r0 r1 => k H' r ⟨s, d, t⟩ r0 r1⟩
theorem ab_imp : ∀ σ H Q, tAB σ H Q → tOp (fun x y H Q => ∃ z i c, x = .str z ∧ y = .int i ∧ 0 ≤ i ∧ i < 2 ^ 63 ∧ i < z.length ∧ z.cps[i.toNat]? = some c ∧ Q (.str ⟨#[c]⟩) H) (tC (.str "ab")) (tCall spDraw [] E0 (tCons (tVar 0) (tCons (tC (.int 2)) tNil))) σ H Q := fun σ H Q ⟨m, g, c, b, e0, h1, h2, k⟩ =>
  ⟨_, e0, m, g, c, b, 2, rfl, h1, h2, by decide, by decide, fun H' r s d t r0 r1 => by
    have hr : r = 0 ∨ r = 1 := by omega
    rcases hr with rfl | rfl
    · exact ⟨"ab", 0, 97, rfl, rfl, by decide, by decide, by decide +kernel, by decide +kernel, k H' false ⟨s, d, t⟩⟩
    · exact ⟨"ab", 1, 98, rfl, rfl, by decide, by decide, by decide +kernel, by decide +kernel, k H' true ⟨s, d, t⟩⟩⟩
end
end Jz
end
section
set_option maxHeartbeats 4000000
set_option pp.maxSteps 150
/-! drawn plants -/
namespace Jz
open PySem PySem.Spec PyProof.Rows L2 ClX StX
theorem sum_le : ∀ {ts : List Tr} {n : Nat}, (∀ t ∈ ts, size t ≤ n) → (ts.map size).sum ≤ n * ts.length
  | [], n, _ => Nat.zero_le _
  | t :: r, n, h => by
    have h1 := sum_le (ts := r) fun t ht => h t (List.mem_cons_of_mem _ ht)
    have h2 := h t List.mem_cons_self
    rw [List.map_cons, List.sum_cons, List.length_cons, Nat.mul_succ]
    omega
theorem heightL_le : ∀ {ts : List Tr} {n : Nat}, (∀ t ∈ ts, height t ≤ n) → heightL ts ≤ n
  | [], n, _ => Nat.zero_le _
  | t :: r, n, h => by
    have h1 := heightL_le (ts := r) fun t ht => h t (List.mem_cons_of_mem _ ht)
    have h2 := h t List.mem_cons_self
    rw [heightL]
    omega
theorem gd_row {f : Fm} {a b : Bool} {ts : List Tr} {n h : Nat} (hf : ¬ (f = .leave ∨ f = .again)) (hg : ∀ t ∈ ts, Gd n h t) : Gd (n * ts.length + 1) (h + 1) (.node f a b ts) := by
  refine ⟨?_, ?_, .mk (fun z => (hf z).elim) fun t ht => (hg t ht).l⟩
  · rw [size_eq]
    have := sum_le fun t ht => (hg t ht).z
    omega
  · rw [height]
    have := heightL_le fun t ht => (hg t ht).h
    omega
def cst (d : Nat) : Nat := if d = 0 then 4 else 14
def spStmt (d : Nat) : Sp := fun vs H Q _ => ∃ m g c b, vs = [.ref m, .int (d : Int)] ∧ Dst H m g c b ∧ b + cst d ≤ 1000 ∧ ∀ H' x t, Stp H H' m g c (b + cst d) → PlAt (nw H H') t x → Gd (2 * d + 1) (d + 1) t → Q (.ref x) H'
def spPrev : Nat → Sp
  | 0 => fun _ _ _ _ => False
  | d + 1 => spStmt d
section
variable {P : Program} {w : World} {K : PySem.W.Frag} {mg : Str → Option Value} {base : Heap}
abbrev sStmt : Stmt := top 56
abbrev nStmt : List Str := ["_law_m", "_law_deep", "_law_way", "_law_some", "_law_items", "_law_n"]
theorem sc_stmt : FnScope nStmt ["_law_m", "_law_deep"] (defScope sStmt) := ⟨rfl, rfl, rfl, by decide +kernel, rfl, by decide +kernel, by decide +kernel⟩
theorem g_stmtF (T : Tx K mg) : GF P w K mg base 2 "_law_stmt" ["_law_m", "_law_deep"] (spPrev 0) := by
  refine gf_of T.m__law_stmt T.d__law_stmt (fun _ _ _ _ _ _ us hl => match us, hl with | [_, _], _ => rfl) fun fd F => F.ok sc_stmt (fun vs H Q E h => h.elim) (fun cdv A outer s H vs Q E hr h => h.elim)
theorem step_stmt (T : Tx K mg) {d : Nat} (hd : d ≤ 1) (ih : GF P w K mg base (d + 2) "_law_stmt" ["_law_m", "_law_deep"] (spPrev d)) : GF P w K mg base (d + 3) "_law_stmt" ["_law_m", "_law_deep"] (spStmt d) := by
  refine gf_of T.m__law_stmt T.d__law_stmt (fun _ _ _ _ _ _ us hl => match us, hl with | [_, _], _ => rfl) fun fd F => F.ok sc_stmt (fun vs H Q E h => ?_) (fun cdv A outer s H vs Q E hr h => ?_)
  · obtain ⟨m, g, c, b, rfl, _⟩ := h
    rfl
  · obtain ⟨m, g, c, b, rfl, ht, hb, k⟩ := h
    have hr2 : Room 2 _ := hr.mono (by omega)
    refine ⟨_, PSs.nox <| pss_cons (ps_set (i := 2) sc_stmt.nd rfl (.inl rfl) (pe_g (g_draw T) hr2 (pa_cons (pv 0) (pa_cons (pe_ifExp (pt_cmpR op_gt (pv 1) pe_int (nomark _)) pe_int pe_int) pa_nil))))
      (pss_cons (ps_if (pt_cmpR op_lt (pv 2) pe_int (nomark _)) (pss_one (ps_ret (pe_tup (pa_cons (pe_ix ix_list (pe_lst (pa_cons pe_str (pa_cons pe_str pa_nil))) (pe_op op_fdiv (pv 2) pe_int) (fun _ _ => rfl)) (pa_cons (pe_imp (pe_item_str pe_str (pe_g (g_draw T) hr2 (pa_cons (pv 0) (pa_cons pe_int pa_nil))) (fun _ _ => rfl)) ab_imp) pa_nil))))) pss_nil)
      (pss_cons (ps_if (pt_cmpR op_eq (pv 2) pe_int (nomark _)) (pss_one (ps_ret (pe_tup (pa_cons (pe_ix ix_list (pe_lst (pa_cons pe_str (pa_cons pe_str (pa_cons pe_str pa_nil)))) (pe_imp (pe_g (g_draw T) hr2 (pa_cons (pv 0) (pa_cons pe_int pa_nil))) (dr_imp (t := tNil))) (fun _ _ => rfl)) pa_nil)))) pss_nil)
      (pss_cons (ps_if (pt_cmpR op_eq (pv 2) pe_int (nomark _))
        (pss_cons (ps_set (i := 3) sc_stmt.nd rfl (.inl rfl) (pe_imp (pe_g (g_draw T) hr2 (pa_cons (pv 0) (pa_cons pe_int pa_nil))) (dr_imp (t := tNil))))
        (pss_cons (ps_if (pt_cmpR op_eq (pv 3) pe_int (nomark _)) (pss_one (ps_ret (pe_tup (pa_cons pe_str (pa_cons (pe_imp (pe_item_str pe_str (pe_g (g_draw T) hr2 (pa_cons (pv 0) (pa_cons pe_int pa_nil))) (fun _ _ => rfl)) ab_imp) (pa_cons (pe_imp (pe_item_str pe_str (pe_g (g_draw T) hr2 (pa_cons (pv 0) (pa_cons pe_int pa_nil))) (fun _ _ => rfl)) ab_imp) pa_nil)))))) pss_nil)
        (pss_one (ps_ret (pe_ifExp (pt_cmpR op_eq (pv 3) pe_int (nomark _)) (pe_tup (pa_cons pe_str (pa_cons (pe_imp (pe_item_str pe_str (pe_g (g_draw T) hr2 (pa_cons (pv 0) (pa_cons pe_int pa_nil))) (fun _ _ => rfl)) ab_imp) pa_nil))) (pe_tup (pa_cons pe_str (pa_cons (pe_lst pa_nil) pa_nil)))))))) pss_nil)
      (pss_cons (ps_if (pt_cmpR op_eq (pv 2) pe_int (nomark _)) (pss_one (ps_ret (pe_tup (pa_cons pe_str (pa_cons (pe_g ih hr (pa_cons (pv 0) (pa_cons (pe_op op_sub (pv 1) pe_int) pa_nil))) (pa_cons (pe_g ih hr (pa_cons (pv 0) (pa_cons (pe_op op_sub (pv 1) pe_int) pa_nil))) pa_nil)))))) pss_nil)
      (pss_cons (ps_if (pt_cmpR op_eq (pv 2) pe_int (nomark _)) (pss_one (ps_ret (pe_tup (pa_cons pe_str (pa_cons (pe_imp (pe_item_str pe_str (pe_g (g_draw T) hr2 (pa_cons (pv 0) (pa_cons pe_int pa_nil))) (fun _ _ => rfl)) ab_imp) (pa_cons (pe_g ih hr (pa_cons (pv 0) (pa_cons (pe_op op_sub (pv 1) pe_int) pa_nil))) pa_nil)))))) pss_nil)
      (pss_cons (ps_setLc (i := 4) (own := [("_law_n", 5)]) (g := gName 5) (te := tCall (spPrev d) [] E0 (tCons (tVar 0) (tCons (tOp (rI0 fun i j => .int (i - j)) (tVar 1) (tC (.int 1))) tNil))) (by rfl) sc_stmt.nd rfl rfl (sw_true rfl rfl rfl (by decide +kernel))
          (pi_range1 (by rfl) T.n_range (pa_cons (pe_g (g_draw T) hr2 (pa_cons (pv 0) (pa_cons (pe_ifExp (pt_cmpR op_gt (pv 1) pe_int (nomark _)) pe_int pe_int) pa_nil))) pa_nil))
          (blkOk_by (own := [("_law_n", 5)]) (N := nStmt) (sc := defScope sStmt) (by decide +kernel)) (fun _ _ _ _ _ => pg_name (i := 5) sc_stmt.nd rfl (Or.inl rfl)) (fun _ _ _ _ _ => pts_nil) (fun _ _ _ _ _ => pe_g ih hr (pa_cons (pv 0) (pa_cons (pe_op op_sub (pv 1) pe_int) pa_nil))))
      (pss_cons (ps_if (pt_cmpR op_eq (pv 2) pe_int (nomark _)) (pss_one (ps_ret (pe_tup (pa_cons pe_str (pa_cons (pe_imp (pe_item_str pe_str (pe_g (g_draw T) hr2 (pa_cons (pv 0) (pa_cons pe_int pa_nil))) (fun _ _ => rfl)) ab_imp) (pa_cons (pv 4) pa_nil)))))) pss_nil)
      (pss_one (ps_ret (pe_tup (pa_cons (pe_ix ix_list (pe_lst (pa_cons pe_str (pa_cons pe_str (pa_cons pe_str (pa_cons pe_str (pa_cons pe_str (pa_cons pe_str (pa_cons pe_str pa_nil)))))))) (pe_op op_sub (pv 2) pe_int) (fun _ _ => rfl)) (pa_cons (pv 4) pa_nil)))))))))))), ?_⟩
    have hc4 : 4 ≤ cst d := by unfold cst; split <;> omega
    have dm := ht.dom
    refine (fun (w0 : ∀ (H1 : Hp) (r : Int) (S1 : Stp H H1 m g c (b + 1)) (r0 : 0 ≤ r) (r1 : r < 16 ∧ (d = 0 → r < 6)), _) => ⟨_, rfl, _, rfl, _, _, rfl, rfl, _, rfl, ite2 (fun z => ⟨m, g, c, b, 16, rfl, ht, by omega, by decide, by decide, fun H1 r s dd t r0 r1 => w0 H1 r ⟨s, dd, t⟩ r0 ⟨r1, fun e => by
        have := of_decide_eq_true z
        omega⟩⟩) (fun z => ⟨m, g, c, b, 6, rfl, ht, by omega, by decide, by decide, fun H1 r s dd t r0 r1 => w0 H1 r ⟨s, dd, t⟩ r0 ⟨by omega, fun _ => r1⟩⟩)⟩) ?_
    intro H1 r S1 r0 r1
    obtain ⟨r16, r6⟩ := r1
    have leaf : ∀ (H3 : Hp) (u : Addr) (o : HO) (f : Fm) (x y : Bool) (b3 : Nat), Stp H H3 m g c b3 → b3 ≤ b + cst d → H3 u = none → (∀ H', H' u = some o → PlAt H' (.node f x y []) u) → Q (.ref u) (upd H3 u o) := fun H3 u o f x y b3 S3 hb3 hu hpl =>
      k _ u (.node f x y []) ((S3.le hb3).new hu _) (hpl _ (nw_at (S3.d _ hu) upd_same)) (gd_leaf.le (by omega) (Nat.le_refl _))
    refine ⟨_, rfl, _, _, rfl, rfl, _, rfl, ?_⟩
    refine ite2 (fun z => ?_) (fun z => ?_)
    · have hr4 := of_decide_eq_true z
      refine ⟨by show 2 ≤ sizeLine; decide, fun l hl => ⟨_, rfl, _, _, rfl, rfl, ⟨by decide, by decide⟩, ?_⟩⟩
      obtain ⟨f, hf, hk⟩ : ∃ f, atI [V.str "Set", .str "Use"] (r / 2) = some (.str (fmN f)) ∧ ∀ v, kinds f v false = [.tx (sh v)] := by
        rcases (show r / 2 = 0 ∨ r / 2 = 1 by omega) with e | e
        · exact ⟨.set, by rw [e]; exact at0, fun _ => rfl⟩
        · exact ⟨.use, by rw [e]; exact at1, fun _ => rfl⟩
      have S2 := S1.new hl (.lst [.str "Set", .str "Use"])
      refine ⟨l, _, _, _, rfl, rfl, SqL.of upd_same, hf, m, g, c, b + 1, rfl, S2.t, by omega, fun H3 v S3 => ⟨by show 2 ≤ sizeLine; decide, fun u hu => ?_⟩⟩
      exact leaf H3 u _ f v false (b + 1 + 1) (S2.tr S3) (by omega) hu (fun H' e => pl_tx1 (hk v) e)
    refine ⟨_, rfl, rfl, _, rfl, ?_⟩
    refine ite2 (fun z4 => ?_) (fun z4 => ?_)
    · refine ⟨by show 3 ≤ sizeLine; decide, fun l hl => ?_⟩
      have S2 := S1.new hl (.lst [.str "Leave", .str "Again", .str "Stop"])
      have nl := S1.t.ne hl
      refine ⟨m, g, c, b + 1, rfl, S2.t, by omega, by decide, by decide, fun H3 r2 S3 r20 r21 => ?_⟩
      obtain ⟨f, hf, hk⟩ : ∃ f, atI [V.str "Leave", .str "Again", .str "Stop"] r2 = some (.str (fmN f)) ∧ kinds f false false = [] := by
        rcases (show r2 = 0 ∨ r2 = 1 ∨ r2 = 2 by omega) with e | e | e
        · exact ⟨.leave, by rw [e]; exact at0, rfl⟩
        · exact ⟨.again, by rw [e]; exact at1, rfl⟩
        · exact ⟨.stop, by rw [e]; exact atI_nat (j := 2) rfl, rfl⟩
      refine ⟨l, _, _, _, rfl, rfl, SqL.of (S3.keep upd_same nl.1 nl.2.1), hf, by show 1 ≤ sizeLine; decide, fun u hu => ?_⟩
      exact leaf H3 u _ f false false (b + 1 + 1) (S2.tr S3) (by omega) hu (fun H' e => pl_leaf hk e)
    refine ⟨_, rfl, rfl, _, rfl, ?_⟩
    refine ite2 (fun z5 => ?_) (fun z5 => ?_)
    · refine ⟨m, g, c, b + 1, rfl, S1.t, by omega, by decide, by decide, fun H2 r2 S2 r20 r21 => ?_⟩
      have S2' := S1.tr S2
      refine ⟨_, rfl, rfl, _, rfl, ?_⟩
      refine ite2 (fun z6 => ?_) (fun z6 => ?_)
      · refine ⟨m, g, c, b + 1 + 1, rfl, S2.t, by omega, fun H3 v S3 => ⟨m, g, c, b + 1 + 1 + 1, rfl, S3.t, by omega, fun H4 v' S4 => ⟨by show 3 ≤ sizeLine; decide, fun u hu => ?_⟩⟩⟩
        exact leaf H4 u _ .letf v v' (b + 1 + 1 + 1 + 1) ((S2'.tr S3).tr S4) (by omega) hu (fun H' e => pl_let e)
      refine ⟨_, rfl, rfl, _, rfl, ?_⟩
      refine ite2 (fun z7 => ?_) (fun z7 => ?_)
      · refine ⟨m, g, c, b + 1 + 1, rfl, S2.t, by omega, fun H3 v S3 => ⟨by show 2 ≤ sizeLine; decide, fun u hu => ?_⟩⟩
        exact leaf H3 u _ .raw v false (b + 1 + 1 + 1) (S2'.tr S3) (by omega) hu (fun H' e => pl_tx1 (f := .raw) (a := v) (b := false) rfl e)
      · refine ⟨Nat.zero_le _, fun e0 he0 => ⟨by show 2 ≤ sizeLine; decide, fun u hu => ?_⟩⟩
        have S3 := S2'.new he0 (.lst [])
        refine k _ u (.node .seq false false []) ((S3.le (by omega)).new hu _) ?_ (gd_leaf.le (by omega) (Nat.le_refl _))
        exact pl_row (as := []) rfl (nw_at (S3.d _ hu) upd_same) (nw_at (S2'.d _ he0) (same_new hu _ _ _ upd_same)) .nil
    have hr5 : 6 ≤ r := by
      have h4 : ¬ r < 4 := fun q => z (decide_eq_true q)
      have h5 : ¬ r = 4 := fun q => z4 (decide_eq_true (by rw [q]))
      have h6 : ¬ r = 5 := fun q => z5 (decide_eq_true (by rw [q]))
      omega
    obtain rfl : d = 1 := by
      rcases (show d = 0 ∨ d = 1 by omega) with e | e
      · have := r6 e; omega
      · exact e
    have hc14 : cst 1 = 14 := rfl
    have hc04 : cst 0 = 4 := rfl
    rw [hc14] at hb k leaf
    refine ⟨_, rfl, rfl, _, rfl, ?_⟩
    refine ite2 (fun z6 => ?_) (fun z6 => ?_)
    · refine ⟨_, rfl, _, rfl, _, _, rfl, rfl, m, g, c, _, rfl, S1.t, by show b + 1 + 4 ≤ 1000; omega, fun H2 x1 t1 (S2 : Stp H1 H2 m g c (b + 1 + 4)) p1 (g1 : Gd 1 1 t1) => ⟨_, rfl, _, rfl, _, _, rfl, rfl, m, g, c, _, rfl, S2.t, by show b + 1 + 4 + 4 ≤ 1000; omega, fun H3 x2 t2 (S3 : Stp H2 H3 m g c (b + 1 + 4 + 4)) p2 (g2 : Gd 1 1 t2) => ⟨by show 3 ≤ sizeLine; decide, fun u hu => ?_⟩⟩⟩
      have S3' := (S1.tr S2).tr S3
      have n1 : Same (nw H1 H2) (nw H (upd H3 u (.tup [.str "Pair", .ref x1, .ref x2]))) := same_tr (nw_dom S1.d) (same_tr (nw_stp dm.1 dm.2.1 S3) (nw_same (same_new hu _)))
      have n2 : Same (nw H2 H3) (nw H (upd H3 u (.tup [.str "Pair", .ref x1, .ref x2]))) := same_tr (nw_dom (S1.tr S2).d) (nw_same (same_new hu _))
      refine k _ u (.node .pair false false [t1, t2]) ((S3'.le (by omega)).new hu _) (pl_pair (nw_at (S3'.d _ hu) upd_same) (p1.mono n1) (p2.mono n2)) ⟨?_, ?_, .mk (fun h => by rcases h with h | h <;> cases h) (fun kk hk => ?_)⟩
      · have := g1.z
        have := g2.z
        simp only [size_eq, List.map_cons, List.map_nil, List.sum_cons, List.sum_nil]; omega
      · have := g1.h
        have := g2.h
        simp only [height, heightL]; omega
      · rcases List.mem_cons.mp hk with h | h
        · rw [h]; exact g1.l
        · rw [List.mem_singleton.mp h]; exact g2.l
    refine ⟨_, rfl, rfl, _, rfl, ?_⟩
    refine ite2 (fun z7 => ?_) (fun z7 => ?_)
    · refine ⟨m, g, c, b + 1, rfl, S1.t, by omega, fun H2 v S2 => ⟨_, rfl, _, rfl, _, _, rfl, rfl, m, g, c, _, rfl, S2.t, by show b + 1 + 1 + 4 ≤ 1000; omega, fun H3 x1 t1 (S3 : Stp H2 H3 m g c (b + 1 + 1 + 4)) p1 (g1 : Gd 1 1 t1) => ⟨by show 3 ≤ sizeLine; decide, fun u hu => ?_⟩⟩⟩
      have S3' := (S1.tr S2).tr S3
      have n1 : Same (nw H2 H3) (nw H (upd H3 u (.tup [.str "Wrap", .str (sh v), .ref x1]))) := same_tr (nw_dom (S1.tr S2).d) (nw_same (same_new hu _))
      refine k _ u (.node .wrap v false [t1]) ((S3'.le (by omega)).new hu _) (pl_wrap (nw_at (S3'.d _ hu) upd_same) (p1.mono n1)) ⟨?_, ?_, .mk (fun h => by rcases h with h | h <;> cases h) (fun kk hk => ?_)⟩
      · have := g1.z
        simp only [size_eq, List.map_cons, List.map_nil, List.sum_cons, List.sum_nil]; omega
      · have := g1.h
        simp only [height, heightL]; omega
      · rw [List.mem_singleton.mp hk]; exact g1.l
    -- the items
    refine ⟨_, rfl, _, rfl, _, _, rfl, rfl, _, rfl, iteF ⟨m, g, c, b + 1, 3, rfl, S1.t, by omega, by decide, by decide, fun H2 r2 s2 d2 t2 r20 r21 => ?_⟩⟩
    have S2 : Stp H1 H2 m g c (b + 1 + 1) := ⟨s2, d2, t2⟩
    have S2' := S1.tr S2
    have p62 : (1000 : Int) < 2 ^ 62 := by decide
    have n62 : (-(2 : Int) ^ 62) ≤ 0 := by decide
    refine ⟨_, rfl, by omega, by omega, fun D hD => ?_⟩
    obtain ⟨B, hB⟩ : ∃ B, B = upd H2 D (.lst []) := ⟨_, rfl⟩
    have BD : B D ≠ none := by rw [hB, upd_same]; intro z; cases z
    have nD := S2.t.ne hD
    have SB : Stp H B m g c (b + 1 + 1) := by rw [hB]; exact S2'.new hD _
    refine lc_range (lo := 0) (n := r2.toNat) (fun i H' => ∃ ys ts, H' D = some (.lst (rl ys)) ∧ Stp H2 H' m g c (b + 2 + 4 * i) ∧ Dm B H' ∧ Paired (PlAt (nw B H')) ts ys ∧ ts.length = i ∧ ∀ t ∈ ts, Gd 1 1 t) ⟨[], [], upd_same, (Stp.refl S2.t).new hD _, by rw [hB]; exact Dm.of same_rfl, .nil, rfl, fun _ h => nomatch h⟩ ?_ ?_
    · rintro i H3 hi ⟨ys, ts, hDl, S3, dB, pts, hl, hg⟩
      refine ⟨rfl, yes1 ⟨_, rfl, _, rfl, _, _, rfl, rfl, m, g, c, _, rfl, S3.t, by show b + 2 + 4 * i + 4 ≤ 1000; omega, fun H4 x1 t1 (S4 : Stp H3 H4 m g c (b + 2 + 4 * i + 4)) p1 (g1 : Gd 1 1 t1) => ?_⟩⟩
      have hD3 : H3 D ≠ none := by rw [hDl]; intro z; cases z
      have hDl4 := S4.keep hDl nD.1 nD.2.1
      have S4' := S3.tr S4
      have up := nw_upd (H := H4) (o := .lst (rl ys ++ [.ref x1])) BD
      refine ⟨_, hDl4, ?_, ys ++ [x1], ts ++ [t1], ?_, ⟨?_, S4'.d.upd, ?_⟩, (dB.tr S4.d).upd, ?_, by rw [List.length_append, hl]; rfl, fun t ht' => ?_⟩
      · rw [List.length_map, ← paired_len pts, hl]; exact Nat.lt_of_lt_of_le (show i < 3 by omega) (by decide)
      · rw [upd_same]; unfold rl; rw [List.map_append]; rfl
      · intro a o e
        obtain ⟨a1, a2, a3⟩ := mk2_inv e
        rw [mk2_at a1 a2, upd_ne (ne_of_none a3 hD)]
        exact S4'.keep a3 a1 a2
      · exact (S4'.t.upd nD.1 nD.2.1 nD.2.2).le (by omega)
      · exact paired_snoc (Paired.mapP pts fun _ _ z => PlAt.mono (same_tr (nw_stp SB.t.dom.1 SB.t.dom.2.1 S4) up) z) (p1.mono (same_tr (nw_dom dB) up))
      · rcases List.mem_append.mp ht' with h | h
        · exact hg t h
        · rw [List.mem_singleton.mp h]; exact g1
    rintro H3 ⟨ys, ts, hDl, S3, dB, pts, hl, hg⟩
    have S3' := S2'.tr S3
    have dHB : Dm H B := SB.d
    have hlen : ts.length ≤ 2 := by rw [hl]; omega
    have hr2n : r2.toNat ≤ 2 := by omega
    refine ⟨_, rfl, rfl, _, rfl, ?_⟩
    refine ite2 (fun z8 => ?_) (fun z8 => ?_)
    · refine ⟨m, g, c, _, rfl, S3.t, by omega, fun H4 v S4 => ⟨_, rfl, by show 3 ≤ sizeLine; decide, fun u hu => ?_⟩⟩
      have S4' := S3'.tr S4
      have hD4 := S4.keep hDl nD.1 nD.2.1
      have n1 : Same (nw B H3) (nw H (upd H4 u (.tup [.str "Full", .str (sh v), .ref D]))) := same_tr (nw_dom dHB) (same_tr (nw_stp dm.1 dm.2.1 S4) (nw_same (same_new hu _)))
      refine k _ u (.node .full v false ts) ((S4'.le (by omega)).new hu _) (pl_full (nw_at (S4'.d _ hu) upd_same) (nw_at (S2'.d _ hD) (same_new hu _ _ _ hD4)) (Paired.mapP pts fun _ _ z => PlAt.mono n1 z)) ((gd_row (fun z => by rcases z with z | z <;> cases z) hg).le (by omega) (Nat.le_refl _))
    refine ⟨by show 7 ≤ sizeLine; decide, fun l hl2 => ⟨_, rfl, _, _, rfl, rfl, ?_⟩⟩
    have S4 := (Stp.refl S3.t).new hl2 (.lst [.str "Pick", .str "Pick", .str "Loop", .str "Loop", .str "Seq", .str "Seq", .str "Seq"])
    have hr8 : 9 ≤ r := by
      have h6 : ¬ r = 6 := fun q => z6 (decide_eq_true (by rw [q]))
      have h7 : ¬ r = 7 := fun q => z7 (decide_eq_true (by rw [q]))
      have h8 : ¬ r = 8 := fun q => z8 (decide_eq_true (by rw [q]))
      omega
    obtain ⟨f, hf, hk, hfj⟩ : ∃ f, atI [V.str "Pick", .str "Pick", .str "Loop", .str "Loop", .str "Seq", .str "Seq", .str "Seq"] (r - 9) = some (.str (fmN f)) ∧ kinds f false false = [.rw] ∧ ¬ (f = .leave ∨ f = .again) := by
      have nj : ∀ {f : Fm}, f = .pick ∨ f = .loop ∨ f = .seq → ¬ (f = .leave ∨ f = .again) := fun h z => by rcases h with h | h | h <;> rcases z with z | z <;> rw [h] at z <;> cases z
      rcases (show r - 9 = ((0 : Nat) : Int) ∨ r - 9 = ((1 : Nat) : Int) ∨ r - 9 = ((2 : Nat) : Int) ∨ r - 9 = ((3 : Nat) : Int) ∨ r - 9 = ((4 : Nat) : Int) ∨ r - 9 = ((5 : Nat) : Int) ∨ r - 9 = ((6 : Nat) : Int) by omega) with e | e | e | e | e | e | e
      · exact ⟨.pick, by rw [e]; exact atI_nat rfl, rfl, nj (.inl rfl)⟩
      · exact ⟨.pick, by rw [e]; exact atI_nat rfl, rfl, nj (.inl rfl)⟩
      · exact ⟨.loop, by rw [e]; exact atI_nat rfl, rfl, nj (.inr (.inl rfl))⟩
      · exact ⟨.loop, by rw [e]; exact atI_nat rfl, rfl, nj (.inr (.inl rfl))⟩
      · exact ⟨.seq, by rw [e]; exact atI_nat rfl, rfl, nj (.inr (.inr rfl))⟩
      · exact ⟨.seq, by rw [e]; exact atI_nat rfl, rfl, nj (.inr (.inr rfl))⟩
      · exact ⟨.seq, by rw [e]; exact atI_nat rfl, rfl, nj (.inr (.inr rfl))⟩
    refine ⟨l, _, _, _, rfl, rfl, SqL.of upd_same, hf, _, rfl, by show 2 ≤ sizeLine; decide, fun u hu => ?_⟩
    have S4' := S3'.tr S4
    have hD4 := S4.keep hDl nD.1 nD.2.1
    have n1 : Same (nw B H3) (nw H (upd (upd H3 l (.lst [.str "Pick", .str "Pick", .str "Loop", .str "Loop", .str "Seq", .str "Seq", .str "Seq"])) u (.tup [.str (fmN f), .ref D]))) := same_tr (nw_dom dHB) (same_tr (nw_stp dm.1 dm.2.1 S4) (nw_same (same_new hu _)))
    refine k _ u (.node f false false ts) ((S4'.le (by omega)).new hu _) (pl_row hk (nw_at (S4'.d _ hu) upd_same) (nw_at (S2'.d _ hD) (same_new hu _ _ _ hD4)) (Paired.mapP pts fun _ _ z => PlAt.mono n1 z)) ((gd_row hfj hg).le (by omega) (Nat.le_refl _))
end
end Jz
end
section
set_option maxHeartbeats 4000000
set_option pp.maxSteps 150
/-! drawn programs -/
namespace Jz
open PySem PySem.Spec PyProof.Rows L2 ClX StX
def spProg : Sp := fun vs H Q _ => ∃ m g c b, vs = [.ref m, .int 1] ∧ Dst H m g c b ∧ b + 45 ≤ 1000 ∧ ∀ H' x t, Stp H H' m g c (b + 45) → PlAt (nw H H') t x → Gd 10 3 t → Q (.ref x) H'
section
variable {P : Program} {w : World} {K : PySem.W.Frag} {mg : Str → Option Value} {base : Heap}
theorem g_stmt1 (T : Tx K mg) : GF P w K mg base 4 "_law_stmt" ["_law_m", "_law_deep"] (spStmt 1) := step_stmt T (d := 1) (Nat.le_refl _) (step_stmt T (d := 0) (by omega) (g_stmtF T))
abbrev sProg : Stmt := top 57
abbrev nProg : List Str := ["_law_m", "_law_deep", "_law_items", "_law_way", "_law_n"]
theorem sc_prog : FnScope nProg ["_law_m", "_law_deep"] (defScope sProg) := ⟨rfl, rfl, rfl, by decide +kernel, rfl, by decide +kernel, by decide +kernel⟩
theorem g_prog (T : Tx K mg) : GF P w K mg base 5 "_law_program" ["_law_m", "_law_deep"] spProg := by
  refine gf_of T.m__law_program T.d__law_program (fun _ _ _ _ _ _ us hl => match us, hl with | [_, _], _ => rfl) fun fd F => F.ok sc_prog (fun vs H Q E h => ?_) (fun cdv A outer s H vs Q E hr h => ?_)
  · obtain ⟨m, g, c, b, rfl, _⟩ := h
    rfl
  · obtain ⟨m, g, c, b, rfl, ht, hb, k⟩ := h
    have hr2 : Room 2 _ := hr.mono (by omega)
    refine ⟨_, PSs.nox <| pss_cons (ps_setLc (i := 2) (own := [("_law_n", 4)]) (g := gName 4) (te := tCall (spStmt 1) [] E0 (tCons (tVar 0) (tCons (tVar 1) tNil))) (by rfl) sc_prog.nd rfl rfl (sw_true rfl rfl rfl (by decide +kernel))
          (pi_range1 (by rfl) T.n_range (pa_cons (pe_op op_add pe_int (pe_imp (pe_g (g_draw T) hr2 (pa_cons (pv 0) (pa_cons pe_int pa_nil))) (dr_imp (t := tNil)))) pa_nil))
          (blkOk_by (own := [("_law_n", 4)]) (N := nProg) (sc := defScope sProg) (by decide +kernel)) (fun _ _ _ _ _ => pg_name (i := 4) sc_prog.nd rfl (Or.inl rfl)) (fun _ _ _ _ _ => pts_nil) (fun _ _ _ _ _ => pe_g (g_stmt1 T) hr (pa_cons (pv 0) (pa_cons (pv 1) pa_nil))))
      (pss_cons (ps_set (i := 3) sc_prog.nd rfl (.inl rfl) (pe_imp (pe_g (g_draw T) hr2 (pa_cons (pv 0) (pa_cons pe_int pa_nil))) (dr_imp (t := tNil))))
      (pss_cons (ps_if (pt_cmpR op_eq (pv 3) pe_int (nomark _)) (pss_one (ps_ret (pe_tup (pa_cons pe_str (pa_cons (pe_imp (pe_item_str pe_str (pe_g (g_draw T) hr2 (pa_cons (pv 0) (pa_cons pe_int pa_nil))) (fun _ _ => rfl)) ab_imp) (pa_cons (pv 2) pa_nil)))))) pss_nil)
      (pss_one (ps_ret (pe_tup (pa_cons (pe_ix ix_list (pe_lst (pa_cons pe_str (pa_cons pe_str (pa_cons pe_str (pa_cons pe_str (pa_cons pe_str (pa_cons pe_str (pa_cons pe_str pa_nil)))))))) (pv 3) (fun _ _ => rfl)) (pa_cons (pv 2) pa_nil))))))), ?_⟩
    have dm := ht.dom
    refine ⟨m, g, c, b, rfl, ht, by omega, by decide, by decide, fun H2 r2 S2' r20 r21 => ?_⟩
    have p62 : (1000 : Int) < 2 ^ 62 := by decide
    have n62 : (-(2 : Int) ^ 62) ≤ 0 := by decide
    refine ⟨_, _, rfl, rfl, _, rfl, by omega, by omega, fun D hD => ?_⟩
    obtain ⟨B, hB⟩ : ∃ B, B = upd H2 D (.lst []) := ⟨_, rfl⟩
    have BD : B D ≠ none := by rw [hB, upd_same]; intro z; cases z
    have nD := S2'.t.ne hD
    have SB : Stp H B m g c (b + 1) := by rw [hB]; exact S2'.new hD _
    refine lc_range (lo := 0) (n := (1 + r2).toNat) (fun i H' => ∃ ys ts, H' D = some (.lst (rl ys)) ∧ Stp H2 H' m g c (b + 1 + 14 * i) ∧ Dm B H' ∧ Paired (PlAt (nw B H')) ts ys ∧ ts.length = i ∧ ∀ t ∈ ts, Gd 3 2 t) ⟨[], [], upd_same, (Stp.refl S2'.t).new hD _, by rw [hB]; exact Dm.of same_rfl, .nil, rfl, fun _ h => nomatch h⟩ ?_ ?_
    · rintro i H3 hi ⟨ys, ts, hDl, S3, dB, pts, hl, hg⟩
      refine ⟨rfl, yes1 ⟨_, rfl, _, rfl, m, g, c, _, rfl, S3.t, by show b + 1 + 14 * i + 14 ≤ 1000; omega, fun H4 x1 t1 (S4 : Stp H3 H4 m g c (b + 1 + 14 * i + 14)) p1 (g1 : Gd 3 2 t1) => ?_⟩⟩
      have hDl4 := S4.keep hDl nD.1 nD.2.1
      have S4' := S3.tr S4
      have up := nw_upd (H := H4) (o := .lst (rl ys ++ [.ref x1])) BD
      refine ⟨_, hDl4, ?_, ys ++ [x1], ts ++ [t1], ?_, ⟨?_, S4'.d.upd, ?_⟩, (dB.tr S4.d).upd, ?_, by rw [List.length_append, hl]; rfl, fun t ht' => ?_⟩
      · rw [List.length_map, ← paired_len pts, hl]; exact Nat.lt_of_lt_of_le (show i < 4 by omega) (by decide)
      · rw [upd_same]; unfold rl; rw [List.map_append]; rfl
      · intro a o e
        obtain ⟨a1, a2, a3⟩ := mk2_inv e
        rw [mk2_at a1 a2, upd_ne (ne_of_none a3 hD)]
        exact S4'.keep a3 a1 a2
      · exact (S4'.t.upd nD.1 nD.2.1 nD.2.2).le (by omega)
      · exact paired_snoc (Paired.mapP pts fun _ _ z => PlAt.mono (same_tr (nw_stp SB.t.dom.1 SB.t.dom.2.1 S4) up) z) (p1.mono (same_tr (nw_dom dB) up))
      · rcases List.mem_append.mp ht' with h | h
        · exact hg t h
        · rw [List.mem_singleton.mp h]; exact g1
    rintro H3 ⟨ys, ts, hDl, S3, dB, pts, hl, hg⟩
    have S3' := S2'.tr S3
    have dHB : Dm H B := SB.d
    have hlen : ts.length ≤ 3 := by rw [hl]; omega
    have hr2n : (1 + r2).toNat ≤ 3 := by omega
    refine ⟨m, g, c, _, rfl, S3.t, by omega, by decide, by decide, fun H4 r S4 r0 r1 => ?_⟩
    have S4' := S3'.tr S4
    have hD4 := S4.keep hDl nD.1 nD.2.1
    have m4 : Same (nw B H3) (nw H H4) := same_tr (nw_dom dHB) (nw_stp dm.1 dm.2.1 S4)
    refine ⟨_, rfl, rfl, _, rfl, ?_⟩
    refine ite2 (fun z8 => ?_) (fun z8 => ?_)
    · refine ⟨m, g, c, _, rfl, S4.t, by omega, fun H5 v S5 => ⟨_, rfl, by show 3 ≤ sizeLine; decide, fun u hu => ?_⟩⟩
      have S5' := S4'.tr S5
      have hD5 := S5.keep hD4 nD.1 nD.2.1
      have n1 : Same (nw B H3) (nw H (upd H5 u (.tup [.str "Full", .str (sh v), .ref D]))) := same_tr m4 (same_tr (nw_stp dm.1 dm.2.1 S5) (nw_same (same_new hu _)))
      refine k _ u (.node .full v false ts) ((S5'.le (by omega)).new hu _) (pl_full (nw_at (S5'.d _ hu) upd_same) (nw_at (S2'.d _ hD) (same_new hu _ _ _ hD5)) (Paired.mapP pts fun _ _ z => PlAt.mono n1 z)) ((gd_row (fun z => by rcases z with z | z <;> cases z) hg).le (by omega) (Nat.le_refl _))
    refine ⟨by show 7 ≤ sizeLine; decide, fun l hl2 => ⟨_, rfl, ?_⟩⟩
    have S5 := (Stp.refl S4.t).new hl2 (.lst [.str "Seq", .str "Seq", .str "Seq", .str "Seq", .str "Loop", .str "Loop", .str "Pick"])
    have hr8 : r < 7 := by
      have h7 : ¬ r = 7 := fun q => z8 (decide_eq_true (by rw [q]))
      omega
    obtain ⟨f, hf, hk, hfj⟩ : ∃ f, atI [V.str "Seq", .str "Seq", .str "Seq", .str "Seq", .str "Loop", .str "Loop", .str "Pick"] r = some (.str (fmN f)) ∧ kinds f false false = [.rw] ∧ ¬ (f = .leave ∨ f = .again) := by
      have nj : ∀ {f : Fm}, f = .pick ∨ f = .loop ∨ f = .seq → ¬ (f = .leave ∨ f = .again) := fun h z => by rcases h with h | h | h <;> rcases z with z | z <;> rw [h] at z <;> cases z
      rcases (show r = ((0 : Nat) : Int) ∨ r = ((1 : Nat) : Int) ∨ r = ((2 : Nat) : Int) ∨ r = ((3 : Nat) : Int) ∨ r = ((4 : Nat) : Int) ∨ r = ((5 : Nat) : Int) ∨ r = ((6 : Nat) : Int) by omega) with e | e | e | e | e | e | e
      · exact ⟨.seq, by rw [e]; exact atI_nat rfl, rfl, nj (.inr (.inr rfl))⟩
      · exact ⟨.seq, by rw [e]; exact atI_nat rfl, rfl, nj (.inr (.inr rfl))⟩
      · exact ⟨.seq, by rw [e]; exact atI_nat rfl, rfl, nj (.inr (.inr rfl))⟩
      · exact ⟨.seq, by rw [e]; exact atI_nat rfl, rfl, nj (.inr (.inr rfl))⟩
      · exact ⟨.loop, by rw [e]; exact atI_nat rfl, rfl, nj (.inr (.inl rfl))⟩
      · exact ⟨.loop, by rw [e]; exact atI_nat rfl, rfl, nj (.inr (.inl rfl))⟩
      · exact ⟨.pick, by rw [e]; exact atI_nat rfl, rfl, nj (.inl rfl)⟩
    refine ⟨l, _, _, _, rfl, rfl, SqL.of upd_same, hf, _, rfl, by show 2 ≤ sizeLine; decide, fun u hu => ?_⟩
    have S5' := S4'.tr S5
    have hD5 := S5.keep hD4 nD.1 nD.2.1
    have n1 : Same (nw B H3) (nw H (upd (upd H4 l (.lst [.str "Seq", .str "Seq", .str "Seq", .str "Seq", .str "Loop", .str "Loop", .str "Pick"])) u (.tup [.str (fmN f), .ref D]))) := same_tr m4 (same_tr (nw_stp dm.1 dm.2.1 S5) (nw_same (same_new hu _)))
    refine k _ u (.node f false false ts) ((S5'.le (by omega)).new hu _) (pl_row hk (nw_at (S5'.d _ hu) upd_same) (nw_at (S2'.d _ hD) (same_new hu _ _ _ hD5)) (Paired.mapP pts fun _ _ z => PlAt.mono n1 z)) ((gd_row hfj hg).le (by omega) (Nat.le_refl _))
end
end Jz
end
section
set_option maxHeartbeats 4000000
set_option pp.maxSteps 150
/-! plans, flows -/
namespace Jz
open PySem PySem.Spec PyProof.Rows L2 ClX StX
def rNotInDT (K : PySem.W.Frag) : R2 := fun x y H Q => ∃ d ds, Dp K H x d ∧ Dp K H y (.tuple ds) ∧ SeqAt.shaped d = true ∧ SeqAt.shaped (.tuple ds) = true ∧ Q (.bl (!ds.any fun z => PyData.eqv z d)) H
theorem op_notInDT {X : Cx} (hu : X.A.units + 65 < cLine) : OpR X (compareOp .NotIn) (rNotInDT X.K) := by
  intro pins s σ H x y v u Q I rx ry h
  obtain ⟨d, ds, hd, he, sd, se, q⟩ := h
  obtain ⟨as, r1⟩ := Dp.reads I d x v hd rx
  obtain ⟨bs, r2⟩ := Dp.reads I (.tuple ds) y u he ry
  exact SeqAt.notIn_tuple_reads r2 r1 (SeqAt.canLay_of_shaped se) (SeqAt.canLay_of_shaped sd) (room_in_shaped sd hu) ⟨.bl _, H, I, rfl, q⟩
def MayName (v : V) : Prop := v = .non ∨ ∃ z, v = .str z ∧ nameOk z = true
def spPlanI (C : Addr) : Sp := fun vs H Q _ => ∃ x dx o sv uv, vs = [.ref x, .str (odN o), sv, uv] ∧ H x = some (.ins C dx []) ∧ MayName sv ∧ MayName uv ∧ (sv = .non ∨ uv = .non) ∧
  ∀ H', At1 (rm H x) x (.ins C dx [("mode", .str (odN o)), ("setting", sv), ("using", uv)]) H' → Q .non H'
section
variable {P : Program} {w : World} {K : PySem.W.Frag} {mg : Str → Option Value} {base : Heap}
abbrev sPlanI : Stmt := inC 42 0
theorem sc_planI : FnScope ["self", "order", "sets", "uses"] ["self", "order", "sets", "uses"] (defScope sPlanI) := ⟨rfl, rfl, rfl, by decide +kernel, rfl, by decide +kernel, by decide +kernel⟩
theorem ok_planI (T : Tx K mg) {fd : FuncData} (F : FunD K "__init__" "Plan.__init__" (defArgs sPlanI) (defBody sPlanI) (defScope sPlanI) [.str "steps"] [("sets", .non), ("uses", .non)] (He.ma K (cA K "Plan") "__init__") fd) :
    FnOk P w K mg base CX0 2 (He.ma K (cA K "Plan") "__init__") fd ["self", "order", "sets", "uses"] (spPlanI (cA K "Plan")) := by
  refine F.ok sc_planI (fun vs H Q E h => ?_) (fun cdv A outer s H vs Q E hr h => ?_)
  · obtain ⟨x, dx, o, sv, uv, rfl, _⟩ := h
    rfl
  · obtain ⟨x, dx, o, sv, uv, rfl, hx, hs, hu, hor, k⟩ := h
    refine ⟨_, PSs.nox <| pss_cons (ps_if (PW.pt (pw_or (pt_not (pt_val (pe_isi T.n_isinstance (pv 1) (pe_ty T.n_str rfl)))) (pw_or1 (pt_cmpR op_notIn_seq (pv 1) (pe_own T.m_ORDERS) (by rfl))))) (pss_one ps_never) pss_nil)
      (pss_cons (ps_if (PW.pt (pw_and (pt_cmpR op_notN (pv 2) pe_non (nomark _)) (pw_and1 (pt_not (pt_val (pe_g (g_is_name T) hr (pa_cons (pv 2) pa_nil))))))) (pss_one ps_never) pss_nil)
      (pss_cons (ps_if (PW.pt (pw_and (pt_cmpR op_notN (pv 3) pe_non (nomark _)) (pw_and1 (pt_not (pt_val (pe_g (g_is_name T) hr (pa_cons (pv 3) pa_nil))))))) (pss_one ps_never) pss_nil)
      (pss_cons (ps_if (PW.pt (pw_and (pt_cmpR op_notN (pv 2) pe_non (nomark _)) (pw_and1 (pt_cmpR op_notN (pv 3) pe_non (nomark _))))) (pss_one ps_never) pss_nil)
      (pss_one (ps_asg (pe_tup (pa_cons (pv 1) (pa_cons (pv 2) (pa_cons (pv 3) pa_nil)))) (pg_tup rfl (pgs_cons (pg_attr (pv 0)) (pgs_cons (pg_attr (pv 0)) (pgs_cons (pg_attr (pv 0)) pgs_nil))))))))), ?_⟩
    have ein : (!inV (V.str (odN o)) [.str "steps", .str "choice", .str "loop", .str "stop", .str "leave", .str "again"]) = false := by cases o <;> decide +kernel
    refine ⟨_, rfl, .str _, .ty "str", _, _, true, rfl, .ty "str", .base (.str _), kit_ty (by decide +kernel), true, rfl, iteF ?_⟩
    refine ⟨_, rfl, _, _, rfl, .inr (T.t_ORDERS H), rfl, rfl, _, rfl, ?_⟩
    rw [if_pos rfl, ein]
    refine iteF ?_
    have yes : ∀ {v : V} {z : Str}, v = .str z → (!decide (v = V.non)) = true := fun e => by rw [e, decide_eq_false (fun q => nomatch q)]; rfl
    have no : ∀ {v : V}, v = .non → ¬ (!decide (v = V.non)) = true := fun e => by rw [e]; exact nonN
    -- sets
    refine (fun (w1 : ∀ H1 (s1 : Same H H1), _) => ⟨_, rfl, rfl, _, rfl, hs.symm.elim (fun ⟨z, e, hz⟩ => ifP (yes e) ⟨_, rfl, z, by rw [e]; rfl, hz, fun H1 s1 => ⟨true, rfl, iteF (w1 H1 s1)⟩⟩) (fun e => ifN (no e) (iteF (w1 H same_rfl)))⟩) ?_
    intro H1 s1
    refine (fun (w1 : ∀ H2 (s2 : Same H1 H2), _) => ⟨_, rfl, rfl, _, rfl, hu.symm.elim (fun ⟨z, e, hz⟩ => ifP (yes e) ⟨_, rfl, z, by rw [e]; rfl, hz, fun H2 s2 => ⟨true, rfl, iteF (w1 H2 s2)⟩⟩) (fun e => ifN (no e) (iteF (w1 H1 same_rfl)))⟩) ?_
    intro H2 s2
    have s2H := same_tr s1 s2
    refine (fun w1 => ⟨_, rfl, rfl, _, rfl, ite2 (fun z => ⟨_, rfl, rfl, _, rfl, ifN (fun q => hor.elim (fun e => no e z) (fun e => no e q)) w1⟩) (fun z => iteF w1)⟩) ?_
    have A0 := At1.start (s2H _ _ hx)
    refine ⟨_, rfl, _, rfl, _, rfl, by show 3 ≤ sizeLine; decide, fun t ht => ?_⟩
    have A1 := A0.new ht (.tup [.str (odN o), sv, uv])
    refine ⟨t, _, rfl, SqT.of upd_same, rfl, _, _, rfl, _, rfl, x, _, dx, _, rfl, A1.2.2, T.c_Plan, T.a_Plan_mode, (by show 0 < 1000; decide), ?_⟩
    have A2 := A1.put (o' := .ins (cA K "Plan") dx (putF "mode" (.str (odN o)) []))
    refine ⟨_, _, rfl, _, rfl, x, _, dx, _, rfl, A2.2.2, T.c_Plan, T.a_Plan_setting, (by show 1 < 1000; decide), ?_⟩
    have A3 := A2.put (o' := .ins (cA K "Plan") dx (putF "setting" sv (putF "mode" (.str (odN o)) [])))
    refine ⟨_, _, rfl, _, rfl, x, _, dx, _, rfl, A3.2.2, T.c_Plan, T.a_Plan_using, (by show 2 < 1000; decide), rfl, ?_⟩
    have A4 := A3.put (o' := .ins (cA K "Plan") dx (putF "using" uv (putF "setting" sv (putF "mode" (.str (odN o)) []))))
    have e : putF "using" uv (putF "setting" sv (putF "mode" (V.str (odN o)) [])) = ([("mode", .str (odN o)), ("setting", sv), ("using", uv)] : List (Str × V)) := by with_unfolding_all rfl
    refine k _ ⟨fun a u q => A4.1 _ _ ?_, rm_x, ?_⟩
    · by_cases z : a = x
      · rw [z, rm_x] at q; cases q
      · rw [rm_ne z] at q ⊢
        exact s2H _ _ q
    · rw [← e]; exact A4.2.2
/-- Plan(o), Plan(o, sets=z), Plan(o, uses=z), Plan() -/
theorem plan_new {C : Addr} {H : Hp} {f : Fm} {p : Pd} {Q : V → Hp → Prop} {E : XK} (hn : p.ac ≠ none → nameOk (slotN f) = true) (k : ∀ H' x, Same H H' → H x = none → PlanAt C H' f p x → Q (.ref x) H') :
    ∀ x dx, H x = none → H dx = none → dx ≠ x → spPlanI C [.ref x, .str (odN p.od), setV f p, useV f p] (upd (upd H dx (.own x)) x (.ins C dx [])) (fun v H2 => v = .non ∧ Q (.ref x) H2) E := by
  intro x dx hx hdx hne
  have mn : ∀ b : Bool, MayName (if p.ac = some b then .str (slotN f) else .non) := fun b => by
    split
    · rename_i e
      exact .inr ⟨_, rfl, hn (by rw [e]; intro z; cases z)⟩
    · exact .inl rfl
  refine ⟨x, dx, p.od, _, _, rfl, upd_same, mn true, mn false, ?_, fun H' A => ⟨rfl, k H' x ?_ hx ⟨dx, A.2.2⟩⟩⟩
  · unfold setV useV
    by_cases e : p.ac = some true
    · right; rw [if_neg (by rw [e]; intro z; cases z)]
    · left; rw [if_neg e]
  · refine same_tr ?_ A.1
    intro a o e
    rw [rm_ne (ne_of_none e hx), upd_ne (ne_of_none e hx), upd_ne (ne_of_none e hdx)]
    exact e
def tPlan (C : Addr) (f : Fm) (p : Pd) : TE := fun _ H Q => ∀ H' x, Same H H' → H x = none → PlanAt C H' f p x → Q (.ref x) H'
theorem plan0_imp {C : Addr} {E : XK} : ∀ σ H Q, tPlan C .seq ⟨.steps, none⟩ σ H Q → tMake C (spPlanI C) ([V.str "steps"].drop 0 ++ [(("sets" : Str), V.non), (("uses" : Str), V.non)].map (·.2)) E tNil σ H Q := fun σ H Q k =>
  plan_new (C := C) (H := H) (f := .seq) (p := ⟨.steps, none⟩) (Q := Q) (E := E) (fun z => absurd rfl z) k
theorem room65 {k : Nat} {A : Around} (hr : Room k A) : A.units + 65 < cLine := by have := hr.un; omega
theorem slot_text (f : Fm) (h : slotN f ∈ (slots f).map (·.1)) : (slotN f, ("text" : Str)) ∈ slots f := by
  cases f <;> first | (exact absurd h (by decide +kernel)) | decide +kernel
def slD (f : Fm) : List PyData := (slots f).map fun s => .tuple [.str s.1, .str s.2]
theorem slD_shaped (f : Fm) : SeqAt.shaped (.tuple (slD f)) = true := by
  have h1 : PyData.strOk "who" = true := by decide +kernel
  have h2 : PyData.strOk "text" = true := by decide +kernel
  have h3 : PyData.strOk "items" = true := by decide +kernel
  have h4 : PyData.strOk "s*" = true := by decide +kernel
  have h5 : PyData.strOk "one" = true := by decide +kernel
  have h6 : PyData.strOk "two" = true := by decide +kernel
  have h7 : PyData.strOk "s" = true := by decide +kernel
  have h8 : PyData.strOk "body" = true := by decide +kernel
  have h9 : PyData.strOk "what" = true := by decide +kernel
  cases f <;> simp [slD, slots, SeqAt.shaped, PyData.canLay0, PyData.canLayAll0, PyData.depth, PyData.depthAll, h1, h2, h3, h4, h5, h6, h7, h8, h9]
theorem sl_shaped (f : Fm) : SeqAt.shaped (.tuple [.str (slotN f), .str "text"]) = true := by
  have h1 : PyData.strOk (slotN f) = true := by cases f <;> decide +kernel
  have h2 : PyData.strOk "text" = true := by decide +kernel
  simp [SeqAt.shaped, PyData.canLay0, PyData.canLayAll0, PyData.depth, PyData.depthAll, h1, h2]
theorem sl_any (f : Fm) (h : slotN f ∈ (slots f).map (·.1)) : ((slD f).any fun z => PyData.eqv z (.tuple [.str (slotN f), .str "text"])) = true := by
  rw [List.any_eq_true]
  exact ⟨_, List.mem_map.mpr ⟨_, slot_text f h, rfl⟩, by simp [PyData.eqv, PyData.eqvAll]⟩
theorem dp_slots {K : PySem.W.Frag} {H : Hp} : ∀ {ss : List (Str × Str)} {qs : List Addr}, Paired (fun (s : Str × Str) q => H q = some (.tup [.str s.1, .str s.2])) ss qs → DpAll K H (rl qs) (ss.map fun s => PyData.tuple [.str s.1, .str s.2])
  | _, _, .nil => .nil
  | _, _, .cons h t => .cons (.tup (SqT.of h) (.cons (.str _) (.cons (.str _) .nil))) (dp_slots t)
/-- the plans, made -/
structure Pls (C : Addr) (H : Hp) (pl : Fm → Pd) (kvs : List (Key × V)) : Prop where
  at_ : ∀ f, (valV kvs (.inr (fmN f) : Key) = none ∧ pl f = ⟨.steps, none⟩) ∨ ∃ pa, valV kvs (.inr (fmN f) : Key) = some (.ref pa) ∧ PlanAt C H f (pl f) pa
  mem : ∀ kv ∈ kvs, ∃ f pa, kv = ((.inr (fmN f) : Key), V.ref pa) ∧ PlanAt C H f (pl f) pa
theorem Pls.mono {C : Addr} {H H' : Hp} {pl : Fm → Pd} {kvs : List (Key × V)} (s : Same H H') (h : Pls C H pl kvs) : Pls C H' pl kvs :=
  ⟨fun f => (h.at_ f).imp id fun ⟨pa, e1, e2⟩ => ⟨pa, e1, e2.mono s⟩, fun kv hk => let ⟨f, pa, e1, e2⟩ := h.mem kv hk; ⟨f, pa, e1, e2.mono s⟩⟩
def spFlowI (K : PySem.W.Frag) : Sp := fun vs H Q _ => ∃ x dx s d pl kvs, vs = [.ref x, .ref s, .ref d] ∧ H x = some (.ins (cA K "Flow") dx []) ∧ SchAt (cA K "Schema") (cA K "Form") (mk2 H x d) s ∧ H d = some (.dK kvs) ∧ Pls (cA K "Plan") (mk2 H x d) pl kvs ∧ PlanOk pl ∧ kvs.length ≤ 20 ∧
  ∀ H', Same (mk2 H x d) H' → Fl K H' pl x → Q .non H'
def tSlot (K : PySem.W.Frag) : TE := fun σ H Q => ∃ f p pa, σ[4]? = some (some (V.ref pa)) ∧ PlanAt (cA K "Plan") H f p pa ∧ ∀ v, (v = .non ∨ (v = .str (slotN f) ∧ p.ac ≠ none)) → Q v H
abbrev sFlowI : Stmt := inC 43 0
abbrev nFlowI : List Str := ["self", "schema", "plans", "word", "plan", "slot"]
theorem sc_flowI : FnScope nFlowI ["self", "schema", "plans"] (defScope sFlowI) := ⟨rfl, rfl, rfl, by decide +kernel, rfl, by decide +kernel, by decide +kernel⟩
theorem ok_flowI (T : Tx K mg) {fd : FuncData} (F : FunD K "__init__" "Flow.__init__" (defArgs sFlowI) (defBody sFlowI) (defScope sFlowI) [] [] (He.ma K (cA K "Flow") "__init__") fd) :
    FnOk P w K mg base CX0 4 (He.ma K (cA K "Flow") "__init__") fd ["self", "schema", "plans"] (spFlowI K) := by
  obtain ⟨fdp, Fp⟩ := T.d_Plan___init__
  obtain ⟨ds0, hv0, hb0⟩ := Fp.binds (ps := ["self", "order", "sets", "uses"]) 1 0 (List.cons_ne_nil _ _) rfl (fun _ _ _ _ _ _ _ us its ks l1 l2 l3 => match us, its, ks, l1, l2, l3 with | [_], [_], [_, _], _, _, _ => ⟨_, rfl, ⟨_, _, _, _, _, _, rfl, rfl, _, _, _, _, _, _, rfl, rfl, rfl⟩⟩) (List.cons_ne_nil _ _)
  refine F.ok sc_flowI (fun vs H Q E h => ?_) (fun cdv A outer s H vs Q E hr h => ?_)
  · obtain ⟨x, dx, sa, d, pl, kvs, rfl, _⟩ := h
    rfl
  · obtain ⟨x, dx, sa, d, pl, kvs, rfl, hx, hs, hd, hp, hok, hl, k⟩ := h
    have hr1 : Room 1 _ := hr.mono (by decide)
    have hr2 : Room (1 + 1) _ := hr.mono (by decide)
    refine ⟨_, PSs.nox <| pss_cons (ps_lock (ps_for PassesOwn.never rfl (pi_items (pv 2)) (pg_tup rfl (pgs_cons (pg_name (i := 3) sc_flowI.nd rfl (.inl rfl)) (pgs_cons (pg_name (i := 4) sc_flowI.nd rfl (.inl rfl)) pgs_nil)))
        (pss_cons (ps_if (pt_cmpR (op_notInM (h_hasS T) hr1) (pv 3) (pv 1) (by rfl)) (pss_one ps_never) pss_nil)
        (pss_cons (ps_if (pt_not (pt_val (pe_isi T.n_isinstance (pv 4) (pe_own T.m_Plan)))) (pss_one ps_never) pss_nil)
        (pss_cons (ps_set (i := 5) sc_flowI.nd rfl (.inl rfl) (pe_imp (t' := tSlot K) (pe_ifExp (pt_cmpR op_isN (pe_fld (pv 4) rfl) pe_non (nomark _)) (pe_fld (pv 4) rfl) (pe_fld (pv 4) rfl)) (fun σ H Q ⟨f, p, pa, e4, ⟨dxp, hpa2⟩, w⟩ =>
          have lkS : ([("mode", .str (odN p.od)), ("setting", setV f p), ("using", useV f p)] : List (Str × V)).lookup ("setting" : Str) = some (setV f p) := by with_unfolding_all rfl
          have lkU : ([("mode", .str (odN p.od)), ("setting", setV f p), ("using", useV f p)] : List (Str × V)).lookup ("using" : Str) = some (useV f p) := by with_unfolding_all rfl
          ⟨_, e4, pa, _, dxp, _, _, rfl, hpa2, T.c_Plan, T.a_Plan_using, lkU, rfl, _, rfl, ite2 (fun z => ⟨_, e4, pa, _, dxp, _, _, rfl, hpa2, T.c_Plan, T.a_Plan_setting, lkS, w _ (by
            unfold setV
            split
            · rename_i e; exact .inr ⟨rfl, by rw [e]; intro z; cases z⟩
            · exact .inl rfl)⟩) (fun z => ⟨_, e4, pa, _, dxp, _, _, rfl, hpa2, T.c_Plan, T.a_Plan_using, lkU, w _ (by
            unfold useV
            split
            · rename_i e; exact .inr ⟨rfl, by rw [e]; intro z; cases z⟩
            · exact .inl rfl)⟩)⟩)))
        (pss_one (ps_if (PW.pt (pw_and (pt_cmpR op_notN (pv 5) pe_non (nomark _)) (pw_and1 (pt_cmpR (op_notInDT (room65 hr)) (pe_tup (pa_cons (pv 5) (pa_cons pe_str pa_nil))) (pe_pf (p_slots T) T.c_Form hr2 (pe_if (i_getS T) hr2 (pv 1) (pv 3))) (by rfl))))) (pss_one ps_never) pss_nil)))))))
      (pss_one (ps_asg (pe_tup (pa_cons (pv 1) (pa_cons (pe_callTy call_dictD (by rfl) T.n_dict (by decide +kernel) (pa_cons (pv 2) pa_nil)) (pa_cons (pe_imp (t' := tPlan (cA K "Plan") .seq ⟨.steps, none⟩) (pe_make0 T.k_Plan (ok_planI T Fp) hr (by rfl) T.m_Plan hb0 hv0 pass0) plan0_imp) pa_nil))))
        (pg_tup rfl (pgs_cons (pg_attr (pv 0)) (pgs_cons (pg_attr (pv 0)) (pgs_cons (pg_attr (pv 0)) pgs_nil)))))), ?_⟩
    have ndx : d ≠ x := ne_of hd hx (by intro z; cases z)
    refine ⟨d, .dK kvs, hd, trivial, fun od => ?_⟩
    have s0 : Same (mk2 H x d) (upd H d (.frz od (.dK kvs))) := fun a o e => by
      obtain ⟨a1, a2, a3⟩ := mk2_inv e
      rw [upd_ne a2]; exact a3
    have hx0 : (upd H d (.frz od (.dK kvs))) x = some (.ins (cA K "Flow") dx []) := by rw [upd_ne ndx.symm]; exact hx
    refine ⟨_, rfl, d, od, kvs, rfl, upd_same, for_it walk_items (fun i σ H' => ∃ v3 v4 v5, σ = [some (.ref x), some (.ref sa), some (.ref d), v3, v4, v5] ∧ Same (upd H d (.frz od (.dK kvs))) H') ⟨_, _, _, rfl, same_rfl⟩ (fun i σ H' _ ⟨_, _, _, _, s'⟩ => s' _ _ upd_same) ?_ ?_⟩
    · rintro i v σ H0 H1 hi ⟨v3, v4, v5, rfl, s1⟩ ⟨T1, a, b, rfl, hT, rfl, ha, hb⟩
      have ha' : kvs[i]?.map (fun kv => kV kv.1) = some a := ha
      have hb' : kvs[i]?.map Prod.snd = some b := hb
      rw [List.getElem?_eq_getElem hi] at ha' hb'
      obtain ⟨f, pa, ekv, hpa⟩ := hp.mem _ (List.getElem_mem hi)
      rw [ekv] at ha' hb'
      cases ha'
      cases hb'
      have s2 : Same (upd H d (.frz od (.dK kvs))) (upd H0 T1 (.tup [kV (.inr (fmN f)), .ref pa])) := same_tr s1 (same_new hT _)
      have s2m := same_tr s0 s2
      refine ⟨T1, _, rfl, SqT.of upd_same, rfl, _, _, rfl, _, _, rfl, rfl, ?_⟩
      generalize upd H0 T1 (.tup [kV (.inr (fmN f)), .ref pa]) = H2 at *
      have hs2 := hs.mono s2m
      obtain ⟨dxs, sd, se, bw, kv2, q1, q2, q3⟩ := id hs2
      obtain ⟨dxp, hpa2⟩ := hpa.mono s2m
      refine ⟨_, rfl, _, rfl, sa, dxs, _, rfl, q1, ⟨sa, f, rfl, hs2, true, rfl, _, rfl, iteF ?_⟩⟩
      refine ⟨_, rfl, .ref pa, .ref (cA K "Plan"), _, _, true, rfl, .own _, T.i_Plan hpa2, T.kit_Plan_Plan, true, rfl, iteF ?_⟩
      refine ⟨f, pl f, pa, rfl, ⟨dxp, hpa2⟩, fun v hv => ?_⟩
      refine ⟨_, rfl, rfl, _, rfl, hv.elim (fun e => ifN (by rw [e]; exact nonN) (iteF ⟨_, _, _, rfl, s2⟩)) fun ⟨e, hac⟩ => ifP (by rw [e, decide_eq_false (fun q => nomatch q)]; rfl) ?_⟩
      refine ⟨_, rfl, by show 2 ≤ sizeLine; decide, fun u hu => ?_⟩
      have s3 := same_new hu (.tup [v, .str "text"])
      refine ⟨_, rfl, _, rfl, sa, dxs, _, rfl, s3 _ _ q1, sa, f, rfl, hs2.mono s3, fun fa hfa => ?_⟩
      obtain ⟨dxf, op, qs, f1, f2, f3⟩ := hfa
      refine ⟨fa, dxf, _, rfl, f1, fa, dxf, _, _, rfl, f1, (by with_unfolding_all rfl : _ = some (V.ref op)), ?_⟩
      refine ⟨.tuple [.str (slotN f), .str "text"], slD f, .tup (SqT.of upd_same) (.cons (by rw [e]; exact .str _) (.cons (.str _) .nil)), .tup (SqT.of f2) (dp_slots f3), sl_shaped f, slD_shaped f, _, rfl, ?_⟩
      rw [sl_any f (hok f hac)]
      exact iteF ⟨_, _, _, rfl, same_tr s2 s3⟩
    · rintro σ H1 ⟨v3, v4, v5, rfl, s1⟩
      refine ⟨s1 _ _ upd_same, ?_⟩
      have sM : Same (mk2 H x d) (upd H1 d (.dK kvs)) := fun a o e => by
        obtain ⟨a1, a2, a3⟩ := mk2_inv e
        rw [upd_ne a2]
        exact s1 _ _ (by rw [upd_ne a2]; exact a3)
      have hx1 : (upd H1 d (.dK kvs)) x = some (.ins (cA K "Flow") dx []) := by rw [upd_ne ndx.symm]; exact s1 _ _ hx0
      have hd1 : (upd H1 d (.dK kvs)) d = some (.dK kvs) := upd_same
      generalize upd H1 d (.dK kvs) = H2 at *
      refine ⟨_, rfl, _, rfl, d, kvs, rfl, .inl hd1, fun d2 hd2 => ?_⟩
      have s3 := same_new hd2 (.dK kvs)
      have hd2' : (upd H2 d2 (.dK kvs)) d2 = some (.dK kvs) := upd_same
      have sM3 := same_tr sM s3
      have hx3 := s3 _ _ hx1
      generalize upd H2 d2 (.dK kvs) = H3 at *
      intro H4 c s4 hc4 hcp
      refine ⟨by show 3 ≤ sizeLine; decide, fun t ht => ?_⟩
      have A5 := (At1.start (s4 _ _ hx3)).new ht (.tup [.ref sa, .ref d2, .ref c])
      refine ⟨t, _, rfl, SqT.of upd_same, rfl, _, _, rfl, _, rfl, x, _, dx, _, rfl, A5.2.2, T.c_Flow, T.a_Flow_basis, (by show 0 < 1000; decide), ?_⟩
      have A6 := A5.put (o' := .ins (cA K "Flow") dx (putF "basis" (.ref sa) []))
      refine ⟨_, _, rfl, _, rfl, x, _, dx, _, rfl, A6.2.2, T.c_Flow, T.a_Flow_by_form, (by show 1 < 1000; decide), ?_⟩
      have A7 := A6.put (o' := .ins (cA K "Flow") dx (putF "by_form" (.ref d2) (putF "basis" (.ref sa) [])))
      refine ⟨_, _, rfl, _, rfl, x, _, dx, _, rfl, A7.2.2, T.c_Flow, T.a_Flow_common, (by show 2 < 1000; decide), rfl, ?_⟩
      have A8 := A7.put (o' := .ins (cA K "Flow") dx (putF "common" (.ref c) (putF "by_form" (.ref d2) (putF "basis" (.ref sa) []))))
      have e : putF "common" (V.ref c) (putF "by_form" (.ref d2) (putF "basis" (.ref sa) [])) = ([("basis", .ref sa), ("by_form", .ref d2), ("common", .ref c)] : List (Str × V)) := by with_unfolding_all rfl
      have ne2 : d2 ≠ x := ne_of hd2' hx3 (by intro z; cases z)
      have nec : c ≠ x := fun z => by rw [z, hx3] at hc4; cases hc4
      have keep : ∀ {a : Addr} {o : HO}, a ≠ x → H4 a = some o → _ := fun {a o} h1 h2 => A8.1 a o (by rw [rm_ne h1]; exact h2)
      have sMF : Same (mk2 H x d) (upd (upd (upd (upd H4 t (.tup [.ref sa, .ref d2, .ref c])) x (.ins (cA K "Flow") dx (putF "basis" (.ref sa) []))) x (.ins (cA K "Flow") dx (putF "by_form" (.ref d2) (putF "basis" (.ref sa) [])))) x (.ins (cA K "Flow") dx (putF "common" (.ref c) (putF "by_form" (.ref d2) (putF "basis" (.ref sa) []))))) := fun a o q =>
        keep (mk2_inv q).1 (s4 _ _ (sM3 _ _ q))
      refine k _ sMF ⟨dx, sa, d2, c, kvs, by rw [← e]; exact A8.2.2, hs.mono sMF, keep ne2 (s4 _ _ hd2'), fun f => ?_⟩
      rcases hp.at_ f with ⟨e1, e2⟩ | ⟨pa, e1, e2⟩
      · obtain ⟨dxc, hcc⟩ := hcp
        exact ⟨c, by rw [e1]; rfl, by rw [e2]; exact ⟨dxc, keep nec hcc⟩⟩
      · exact ⟨pa, by rw [e1]; rfl, e2.mono sMF⟩
end
end Jz
end
section
set_option maxHeartbeats 4000000
set_option pp.maxSteps 150
/-! the law's flow -/
namespace Jz
open PySem PySem.Spec PyProof.Rows L2 ClX StX
theorem fmN_inj {f g : Fm} (h : fmN f = fmN g) : f = g := by
  have key : decide (fmN f = fmN g) = true := decide_eq_true h
  have all : ∀ f g : Fm, (if decide (fmN f = fmN g) = true then f = g else True) := fun f g => by
    cases f <;> cases g <;> first | (rw [if_neg (by decide +kernel)]; trivial) | (split <;> trivial)
  have := all f g
  rw [if_pos key] at this
  exact this
/-- the plans made so far: of the first i keys -/
structure Gp (C : Addr) (H : Hp) (pl : Fm → Pd) (src kvs : List (Key × V)) (i : Nat) : Prop where
  mem : ∀ kv ∈ kvs, ∃ f pa, kv = ((.inr (fmN f) : Key), V.ref pa) ∧ PlanAt C H f (pl f) pa
  cov : ∀ j, j < i → ∀ f v, src[j]? = some ((.inr (fmN f) : Key), v) → ∃ u, valV kvs (.inr (fmN f) : Key) = some u
  sub : ∀ f, valV src (.inr (fmN f) : Key) = none → valV kvs (.inr (fmN f) : Key) = none
  len : kvs.length ≤ i
theorem Gp.mono {C : Addr} {H H' : Hp} {pl : Fm → Pd} {src kvs : List (Key × V)} {i : Nat} (s : Same H H') (h : Gp C H pl src kvs i) : Gp C H' pl src kvs i :=
  ⟨fun kv hk => let ⟨f, pa, e1, e2⟩ := h.mem kv hk; ⟨f, pa, e1, e2.mono s⟩, h.cov, h.sub, h.len⟩
theorem valV_mem {kvs : List (Key × V)} {k : Key} {v : V} (h : valV kvs k = some v) : (k, v) ∈ kvs := by
  unfold valV at h
  cases e : kvs.find? (fun kv => decide (kv.1 = k)) with
  | none => rw [e] at h; cases h
  | some q =>
    rw [e] at h
    cases h
    have h1 := List.mem_of_find?_eq_some e
    have h2 := List.find?_some e
    have h3 : q.1 = k := of_decide_eq_true h2
    rw [← h3]; exact h1
theorem mem_valV {kvs : List (Key × V)} {k : Key} {v : V} (h : (k, v) ∈ kvs) : ∃ u, valV kvs k = some u := by
  unfold valV
  cases e : kvs.find? (fun kv => decide (kv.1 = k)) with
  | none => exact absurd (decide_eq_true rfl) (List.find?_eq_none.mp e _ h)
  | some q => exact ⟨q.2, rfl⟩
theorem mem_putK {kvs : List (Key × V)} {k : Key} {v : V} {kv : Key × V} (h : kv ∈ putK kvs k v) : kv = (k, v) ∨ kv ∈ kvs := by
  unfold putK at h
  split at h
  · obtain ⟨q, hq, e⟩ := List.mem_map.mp h
    split at e
    · rename_i z; rw [← e]; exact .inl (congrArg (·, v) z)
    · exact .inr (e ▸ hq)
  · rcases List.mem_append.mp h with h | h
    · exact .inr h
    · exact .inl (List.mem_singleton.mp h)
theorem Gp.put {C : Addr} {H : Hp} {pl : Fm → Pd} {src kvs : List (Key × V)} {i : Nat} (h : Gp C H pl src kvs i) {f : Fm} {v : V} {pa : Addr} (e : src[i]? = some ((.inr (fmN f) : Key), v)) (hp : PlanAt C H f (pl f) pa) : Gp C H pl src (putK kvs (.inr (fmN f)) (.ref pa)) (i + 1) where
  mem kv hk := by
    rcases mem_putK hk with rfl | hk
    · exact ⟨f, pa, rfl, hp⟩
    · exact h.mem kv hk
  cov j hj g u eg := by
    rw [valV_put]
    split
    · exact ⟨_, rfl⟩
    · rename_i ne
      refine h.cov j (Nat.lt_of_le_of_ne (Nat.le_of_lt_succ hj) fun z => ne ?_) g u eg
      rw [z, e] at eg
      exact congrArg Prod.fst (Option.some.inj eg).symm
  sub g hg := by
    rw [valV_put, if_neg]
    · exact h.sub g hg
    · intro z
      obtain ⟨u, hu⟩ := mem_valV (List.mem_of_getElem? e)
      rw [z, hu] at hg
      cases hg
  len := Nat.le_trans (length_putK _ _ _) (Nat.succ_le_succ h.len)
theorem Gp.pls {C : Addr} {H : Hp} {pl : Fm → Pd} {src kvs : List (Key × V)} (h : Gp C H pl src kvs src.length) (hs : ∀ f, valV src (.inr (fmN f) : Key) = none → pl f = ⟨.steps, none⟩) : Pls C H pl kvs where
  mem := h.mem
  at_ f := by
    cases e : valV src (.inr (fmN f) : Key) with
    | none => exact .inl ⟨h.sub f e, hs f e⟩
    | some v =>
      have hm := valV_mem e
      obtain ⟨j, hj, ej⟩ := List.getElem_of_mem hm
      obtain ⟨u, hu⟩ := h.cov j hj f v (by rw [List.getElem?_eq_getElem hj, ej])
      obtain ⟨g, pa, e1, e2⟩ := h.mem _ (valV_mem hu)
      have := fmN_inj (Sum.inr.inj (congrArg Prod.fst e1))
      subst this
      exact .inr ⟨pa, by rw [hu]; exact congrArg some (congrArg Prod.snd e1), e2⟩
theorem un {H : Hp} {a x : Addr} {o : HO} (h : a ≠ x) (e : rm H x a = some o) : H a = some o := by rw [rm_ne h] at e; exact e
theorem rm_mono {H H' : Hp} {x : Addr} (s : Same H H') : Same (rm H x) (rm H' x) := fun a o e => by
  by_cases z : a = x
  · rw [z, rm_x] at e; cases e
  · rw [rm_ne z] at e ⊢; exact s _ _ e
theorem rm_updx {H : Hp} {x : Addr} {o : HO} : Same (rm H x) (rm (upd H x o) x) := fun a u e => by
  by_cases z : a = x
  · rw [z, rm_x] at e; cases e
  · rw [rm_ne z] at e ⊢; rw [upd_ne z]; exact e
def spFlow (K : PySem.W.Frag) : Sp := fun vs H Q _ => ∃ s d pl, vs = [.ref s, .ref d] ∧ SchAt (cA K "Schema") (cA K "Form") H s ∧ PlansAt H pl d ∧ PlanOk pl ∧ ∀ H' x, Same H H' → Fl K H' pl x → Q (.ref x) H'
def tPS (C : Addr) : TE := fun σ H Q => ∃ f od, σ[4]? = some (some (V.str (odN od))) ∧ σ[6]? = some (some (V.str (slotN f))) ∧ ∀ H' x, Same H H' → H x = none → PlanAt C H' f ⟨od, some true⟩ x → Q (.ref x) H'
def tPU (C : Addr) : TE := fun σ H Q => ∃ f od, σ[4]? = some (some (V.str (odN od))) ∧ σ[6]? = some (some (V.str (slotN f))) ∧ ∀ H' x, Same H H' → H x = none → PlanAt C H' f ⟨od, some false⟩ x → Q (.ref x) H'
def tPN (C : Addr) : TE := fun σ H Q => ∃ f od, σ[4]? = some (some (V.str (odN od))) ∧ ∀ H' x, Same H H' → H x = none → PlanAt C H' f ⟨od, none⟩ x → Q (.ref x) H'
theorem slot_ok (f : Fm) : nameOk (slotN f) = true := by cases f <;> decide +kernel
theorem ps_imp {C : Addr} {E : XK} : ∀ σ H Q, tPS C σ H Q → tMakeN C 1 1 (spPlanI C) (fun vs zs => vs ++ zs ++ [(("uses" : Str), V.non)].map (·.2)) E (tCons (tVar 4) tNil) (tCons (tVar 6) tNil) σ H Q := fun σ H Q ⟨f, od, e4, e6, k⟩ =>
  ⟨_, e4, _, e6, rfl, rfl, by
    have := plan_new (C := C) (H := H) (f := f) (p := ⟨od, some true⟩) (Q := Q) (E := E) (fun _ => slot_ok f) k
    have e1 : setV f ⟨od, some true⟩ = .str (slotN f) := if_pos rfl
    have e2 : useV f ⟨od, some true⟩ = .non := if_neg (by intro z; cases z)
    rw [e1, e2] at this
    exact this⟩
theorem pu_imp {C : Addr} {E : XK} : ∀ σ H Q, tPU C σ H Q → tMakeN C 1 1 (spPlanI C) (fun vs zs => vs ++ [(("sets" : Str), V.non)].map (·.2) ++ zs) E (tCons (tVar 4) tNil) (tCons (tVar 6) tNil) σ H Q := fun σ H Q ⟨f, od, e4, e6, k⟩ =>
  ⟨_, e4, _, e6, rfl, rfl, by
    have := plan_new (C := C) (H := H) (f := f) (p := ⟨od, some false⟩) (Q := Q) (E := E) (fun _ => slot_ok f) k
    have e1 : useV f ⟨od, some false⟩ = .str (slotN f) := if_pos rfl
    have e2 : setV f ⟨od, some false⟩ = .non := if_neg (by intro z; cases z)
    rw [e1, e2] at this
    exact this⟩
theorem pn_imp {C : Addr} {E : XK} : ∀ σ H Q, tPN C σ H Q → tMake C (spPlanI C) ([V.str "steps"].drop 1 ++ [(("sets" : Str), V.non), (("uses" : Str), V.non)].map (·.2)) E (tCons (tVar 4) tNil) σ H Q := fun σ H Q ⟨f, od, e4, k⟩ =>
  ⟨_, e4, by
    have := plan_new (C := C) (H := H) (f := f) (p := ⟨od, none⟩) (Q := Q) (E := E) (fun z => absurd rfl z) k
    have e1 : useV f ⟨od, none⟩ = .non := if_neg (by intro z; cases z)
    have e2 : setV f ⟨od, none⟩ = .non := if_neg (by intro z; cases z)
    rw [e1, e2] at this
    exact this⟩
section
variable {P : Program} {w : World} {K : PySem.W.Frag} {mg : Str → Option Value} {base : Heap}
abbrev sFlow : Stmt := top 55
abbrev nFlow : List Str := ["_law_base_here", "_law_plans_so", "_law_found", "_law_word", "_law_mode_here", "_law_act", "_law_slot"]
theorem sc_flow : FnScope nFlow ["_law_base_here", "_law_plans_so"] (defScope sFlow) := ⟨rfl, rfl, rfl, by decide +kernel, rfl, by decide +kernel, by decide +kernel⟩
theorem g_flow (T : Tx K mg) : GF P w K mg base 6 "_law_flow" ["_law_base_here", "_law_plans_so"] (spFlow K) := by
  obtain ⟨fdp, Fp⟩ := T.d_Plan___init__
  obtain ⟨fdf, Ff⟩ := T.d_Flow___init__
  have bf := Ff.bindsN (ps := ["self", "schema", "plans"]) (fun _ _ _ _ _ _ us hl => match us, hl with | [_, _, _], _ => rfl)
  obtain ⟨ds0, hv0, hb0⟩ := Fp.binds (ps := ["self", "order", "sets", "uses"]) 2 1 (List.cons_ne_nil _ _) rfl (fun _ _ _ _ _ _ _ us its ks l1 l2 l3 => match us, its, ks, l1, l2, l3 with | [_, _], [_], [_, _], _, _, _ => ⟨_, rfl, ⟨_, _, _, _, _, _, rfl, rfl, _, _, _, _, _, _, rfl, rfl, rfl⟩⟩) (List.cons_ne_nil _ _)
  obtain ⟨it1, mv1, hs1⟩ := Fp.kbinds (ps := ["self", "order", "sets", "uses"]) 2 ["sets"] [("uses", .non)] (fun us its mv ws => us ++ ws ++ mv) (List.cons_ne_nil _ _) (List.cons_ne_nil _ _) (fun q h => by simp at h; simp [h]) (fun r1 r2 r3 r4 => (r1.append r4).append r3)
    (fun _ _ _ _ _ _ _ us its mv ws l1 l2 l3 l4 => match us, its, mv, ws, l1, l2, l3, l4 with | [_, _], [_], [_], [_], _, _, _, _ => ⟨_, rfl, ⟨_, _, _, _, _, _, rfl, rfl, rfl⟩⟩)
  obtain ⟨it2, mv2, hs2⟩ := Fp.kbinds (ps := ["self", "order", "sets", "uses"]) 2 ["uses"] [("sets", .non)] (fun us its mv ws => us ++ mv ++ ws) (List.cons_ne_nil _ _) (List.cons_ne_nil _ _) (fun q h => by simp at h; simp [h]) (fun r1 r2 r3 r4 => (r1.append r3).append r4)
    (fun _ _ _ _ _ _ _ us its mv ws l1 l2 l3 l4 => match us, its, mv, ws, l1, l2, l3, l4 with | [_, _], [_], [_], [_], _, _, _, _ => ⟨_, rfl, ⟨_, _, _, _, _, _, rfl, rfl, rfl⟩⟩)
  refine gf_of T.m__law_flow T.d__law_flow (fun _ _ _ _ _ _ us hl => match us, hl with | [_, _], _ => rfl) fun fd F => F.ok sc_flow (fun vs H Q E h => ?_) (fun cdv A outer s H vs Q E hr h => ?_)
  · obtain ⟨s, d, pl, rfl, _⟩ := h
    rfl
  · obtain ⟨sa, d, pl, rfl, hs, hpl, hok, k⟩ := h
    obtain ⟨src, hd, hkeys, hlen, hat⟩ := hpl
    have hr3 : Room (2 + 1) _ := hr.mono (by decide)
    refine ⟨_, PSs.nox <| pss_cons (ps_set (i := 2) sc_flow.nd rfl (.inl rfl) pe_dnewK)
      (pss_cons (ps_lock (ps_for PassesOwn.never rfl (pi_keys (pv 1)) (pg_name (i := 3) sc_flow.nd rfl (.inl rfl))
        (pss_cons (ps_asg (pe_dget (hu_of hr) (pv 1) (pv 3) (fun _ _ => rfl)) (pg_tup rfl (pgs_cons (pg_name (i := 4) sc_flow.nd rfl (.inl rfl)) (pgs_cons (pg_name (i := 5) sc_flow.nd rfl (.inl rfl)) (pgs_cons (pg_name (i := 6) sc_flow.nd rfl (.inl rfl)) pgs_nil)))))
        (pss_one (ps_if (pt_cmpR op_eq (pv 5) pe_str (nomark _))
          (pss_one (ps_dput (hu_of hr) (pv 2) (pv 3) (pe_imp (t' := tPS (cA K "Plan")) (pe_makeN T.k_Plan (ok_planI T Fp) hr3 (by rfl) T.m_Plan hs1 pass0 (pa_cons (pv 4) pa_nil) (pk_cons (pv 6) pk_nil)) ps_imp) (by rfl)))
          (pss_one (ps_dput (hu_of hr) (pv 2) (pv 3) (pe_ifExp (pt_cmpR op_eq (pv 5) pe_str (nomark _))
            (pe_imp (t' := tPU (cA K "Plan")) (pe_makeN T.k_Plan (ok_planI T Fp) hr3 (by rfl) T.m_Plan hs2 pass0 (pa_cons (pv 4) pa_nil) (pk_cons (pv 6) pk_nil)) pu_imp)
            (pe_imp (t' := tPN (cA K "Plan")) (pe_make T.k_Plan (ok_planI T Fp) hr3 (by rfl) T.m_Plan hb0 hv0 pass0 (pa_cons (pv 4) pa_nil)) pn_imp)) (by rfl))))))))
      (pss_one (ps_ret (pe_make T.k_Flow (ok_flowI T Ff) hr (by rfl) T.m_Flow bf .nil pass0 (pa_cons (pv 0) (pa_cons (pv 2) pa_nil)))))), ?_⟩
    refine fun fo hfo => ?_
    have nfo : ∀ {a : Addr} {o : HO}, H a = some o → a ≠ fo := fun e => ne_of_none e hfo
    refine ⟨d, .dK src, (by rw [upd_ne (nfo hd)]; exact hd), trivial, fun od => ?_⟩
    have B1 : Same (rm H d) (rm (upd (upd H fo (.dK [])) d (.frz od (.dK src))) fo) := fun a o e => by
      have nd : a ≠ d := fun z => by rw [z, rm_x] at e; cases e
      rw [rm_ne nd] at e
      rw [rm_ne (nfo e), upd_ne nd, upd_ne (nfo e)]
      exact e
    have Bd : rm (upd (upd H fo (.dK [])) d (.frz od (.dK src))) fo d = some (.frz od (.dK src)) := by rw [rm_ne (nfo hd), upd_same]
    have Bf : (upd (upd H fo (.dK [])) d (.frz od (.dK src))) fo = some (.dK []) := by rw [upd_ne (nfo hd).symm, upd_same]
    generalize upd (upd H fo (.dK [])) d (.frz od (.dK src)) = B at *
    refine ⟨_, rfl, d, od, rfl, .inl ⟨src, (un (nfo hd) Bd), for_it walk_keys (fun i σ H' => ∃ v3 v4 v5 v6 kvs1, σ = [some (.ref sa), some (.ref d), some (.ref fo), v3, v4, v5, v6] ∧ Same (rm B fo) (rm H' fo) ∧ H' fo = some (.dK kvs1) ∧ Gp (cA K "Plan") (rm H' fo) pl src kvs1 i)
      ⟨_, _, _, _, [], rfl, same_rfl, Bf, ⟨fun _ h => (nomatch h), fun j h => absurd h (Nat.not_lt_zero j), fun _ _ => rfl, Nat.le_refl 0⟩⟩ (fun i σ H' _ ⟨_, _, _, _, _, _, s', _, _⟩ => un (nfo hd) (s' _ _ Bd)) ?_ ?_⟩⟩
    · rintro i x σ H0 H1 hi ⟨v3, v4, v5, v6, kvs1, rfl, s1, hf1, G⟩ ⟨rfl, kk, vv, hk, rfl⟩
      obtain ⟨f, ef⟩ := hkeys _ (List.mem_of_getElem? hk)
      have ef : kk = .inr (fmN f) := ef
      subst ef
      rcases hat f with ⟨en, _⟩ | ⟨pa, epa, hpa⟩
      · obtain ⟨u, hu⟩ := mem_valV (List.mem_of_getElem? hk)
        rw [hu] at en; cases en
      have npd : pa ≠ d := ne_of hpa hd (by intro z; cases z)
      have hp1 : H1 pa = some (.tup [.str (odN (pl f).od), .str (actZ (pl f).ac), .str (slZ f (pl f))]) :=
        un (nfo hpa) (s1 _ _ (B1 _ _ (by rw [rm_ne npd]; exact hpa)))
      have hd1 : H1 d = some (.frz od (.dK src)) := un (nfo hd) (s1 _ _ Bd)
      have hl1 : kvs1.length < sizeLine := Nat.lt_of_le_of_lt G.len (Nat.lt_trans hi (Nat.lt_of_le_of_lt hlen (by decide)))
      have fin : ∀ (H3 : Hp) (y : Addr) (v4 v5 v6 : Option V), Same H1 H3 → H1 y = none → PlanAt (cA K "Plan") H3 f (pl f) y → DPut H3 fo (.str (fmN f)) (.ref y) (upd H3 fo (.dK (putK kvs1 (.inr (fmN f)) (.ref y)))) ∧ ∃ v3 v4' v5' v6' kvs2, [some (.ref sa), some (.ref d), some (.ref fo), some (.str (fmN f)), v4, v5, v6] = [some (.ref sa), some (.ref d), some (.ref fo), v3, v4', v5', v6'] ∧
          Same (rm B fo) (rm (upd H3 fo (.dK (putK kvs1 (.inr (fmN f)) (.ref y)))) fo) ∧ (upd H3 fo (.dK (putK kvs1 (.inr (fmN f)) (.ref y)))) fo = some (.dK kvs2) ∧ Gp (cA K "Plan") (rm (upd H3 fo (.dK (putK kvs1 (.inr (fmN f)) (.ref y)))) fo) pl src kvs2 (i + 1) := fun H3 y v4 v5 v6 s3 hy hp => by
        have sr : Same (rm H1 fo) (rm (upd H3 fo (.dK (putK kvs1 (.inr (fmN f)) (.ref y)))) fo) := same_tr (rm_mono s3) rm_updx
        have nyf : y ≠ fo := fun z => by rw [z, hf1] at hy; cases hy
        obtain ⟨dxp, hdp⟩ := hp
        exact ⟨DPut.k (k := Sum.inr (fmN f)) (s3 _ _ hf1) hl1, _, _, _, _, _, rfl, same_tr s1 sr, upd_same, (G.mono sr).put hk ⟨dxp, by rw [rm_ne nyf, upd_ne nyf]; exact hdp⟩⟩
      refine ⟨_, rfl, _, rfl, d, _, rfl, .inl ⟨src, .inr (fmN f), .inr ⟨od, hd1⟩, rfl, epa.symm⟩, ?_⟩
      generalize hpl : pl f = p at *
      obtain ⟨o, ac⟩ := p
      rcases ac with _ | _ | _
      · have e6 : slZ f ⟨o, none⟩ = "" := if_pos rfl
        rw [e6] at hp1
        refine ⟨pa, _, rfl, SqT.of hp1, rfl, _, _, rfl, _, _, rfl, _, _, rfl, rfl, ?_⟩
        refine ⟨_, rfl, rfl, _, rfl, ifN (by show ¬ decide (V.str "" = V.str "set") = true; decide +kernel) ?_⟩
        refine ⟨_, rfl, rfl, _, rfl, ifN (by show ¬ decide (V.str "" = V.str "use") = true; decide +kernel) ⟨f, o, rfl, fun H3 y s3 hy hp => ?_⟩⟩
        exact ⟨_, rfl, _, rfl, fo, _, rfl, fin H3 y _ _ _ s3 hy hp⟩
      · have e6 : slZ f ⟨o, some false⟩ = slotN f := if_neg (by intro z; cases z)
        rw [e6] at hp1
        refine ⟨pa, _, rfl, SqT.of hp1, rfl, _, _, rfl, _, _, rfl, _, _, rfl, rfl, ?_⟩
        refine ⟨_, rfl, rfl, _, rfl, ifN (by show ¬ decide (V.str "use" = V.str "set") = true; decide +kernel) ?_⟩
        refine ⟨_, rfl, rfl, _, rfl, ifP (by show decide (V.str "use" = V.str "use") = true; decide +kernel) ⟨f, o, rfl, rfl, fun H3 y s3 hy hp => ?_⟩⟩
        exact ⟨_, rfl, _, rfl, fo, _, rfl, fin H3 y _ _ _ s3 hy hp⟩
      · have e6 : slZ f ⟨o, some true⟩ = slotN f := if_neg (by intro z; cases z)
        rw [e6] at hp1
        refine ⟨pa, _, rfl, SqT.of hp1, rfl, _, _, rfl, _, _, rfl, _, _, rfl, rfl, ?_⟩
        refine ⟨_, rfl, rfl, _, rfl, ifP (by show decide (V.str "set" = V.str "set") = true; decide +kernel) ⟨f, o, rfl, rfl, fun H3 y s3 hy hp => ?_⟩⟩
        exact ⟨_, rfl, _, rfl, fo, _, rfl, fin H3 y _ _ _ s3 hy hp⟩
    · rintro σ H1 ⟨v3, v4, v5, v6, kvs1, rfl, s1, hf1, G⟩
      have hd1 : H1 d = some (.frz od (.dK src)) := un (nfo hd) (s1 _ _ Bd)
      have dfo := nfo hd
      refine ⟨hd1, ?_⟩
      have hf2 : (upd H1 d (.dK src)) fo = some (.dK kvs1) := by rw [upd_ne dfo.symm]; exact hf1
      have sH : Same H (rm (upd H1 d (.dK src)) fo) := fun a o e => by
        rw [rm_ne (nfo e)]
        by_cases z : a = d
        · rw [z] at e ⊢; rw [hd] at e; rw [upd_same]; exact e
        · rw [upd_ne z]
          exact un (nfo e) (s1 _ _ (B1 _ _ (by rw [rm_ne z]; exact e)))
      have G2 : Gp (cA K "Plan") (rm (upd H1 d (.dK src)) fo) pl src kvs1 src.length := ⟨fun kv hk => let ⟨f, pa, e1, dxp, e2⟩ := G.mem kv hk; ⟨f, pa, e1, dxp, by
          have n1 : pa ≠ fo := fun z => by rw [z, rm_x] at e2; cases e2
          have n2 : pa ≠ d := fun z => by rw [z, rm_ne dfo, hd1] at e2; cases e2
          rw [rm_ne n1] at e2 ⊢
          rw [upd_ne n2]; exact e2⟩, G.cov, G.sub, G.len⟩
      generalize upd H1 d (.dK src) = H2 at *
      have PP := G2.pls (fun f e => (hat f).elim (fun z => z.2) fun ⟨a, e2, _⟩ => by rw [e2] at e; cases e)
      refine ⟨_, rfl, _, rfl, fun x dx hx hdx hne => ?_⟩
      have up : Same (rm H2 fo) (mk2 (upd (upd H2 dx (.own x)) x (.ins (cA K "Flow") dx [])) x fo) := fun a o e => by
        have n1 : a ≠ fo := fun z => by rw [z, rm_x] at e; cases e
        have e := un n1 e
        rw [mk2_at (ne_of_none e hx) n1, upd_ne (ne_of_none e hx), upd_ne (ne_of_none e hdx)]
        exact e
      have nfx : fo ≠ x := ne_of_none hf2 hx
      refine ⟨x, dx, sa, fo, pl, kvs1, rfl, upd_same, hs.mono (same_tr sH up), ?_, ⟨fun f => (PP.at_ f).imp id fun ⟨pa, e1, e2⟩ => ⟨pa, e1, e2.mono up⟩, fun kv hk => let ⟨f, pa, e1, e2⟩ := PP.mem kv hk; ⟨f, pa, e1, e2.mono up⟩⟩, hok, Nat.le_trans G.len hlen, fun H' s' hF => ⟨rfl, k H' x (same_tr (same_tr sH up) s') hF⟩⟩
      rw [upd_ne nfx, upd_ne (ne_of_none hf2 hdx)]
      exact hf2
end
end Jz
end
section
set_option maxHeartbeats 4000000
set_option pp.maxSteps 150
/-! the law's plans -/
namespace Jz
open PySem PySem.Spec PyProof.Rows L2 ClX StX
def upP (pl : Fm → Pd) (f : Fm) (p : Pd) : Fm → Pd := fun g => if g = f then p else pl g
theorem upP_ne {pl : Fm → Pd} {f g : Fm} {p : Pd} (h : g ≠ f) : upP pl f p g = pl g := if_neg h
theorem upP_at {pl : Fm → Pd} {f : Fm} {p : Pd} : upP pl f p f = p := if_pos rfl
/-- the plans so far, of a heap without the dict -/
structure PG (H : Hp) (kvs : List (Key × V)) (pl : Fm → Pd) (n : Nat) : Prop where
  keys : ∀ k ∈ kvs, ∃ f, k.1 = (.inr (fmN f) : Key)
  len : kvs.length ≤ n
  at_ : ∀ f, (valV kvs (.inr (fmN f) : Key) = none ∧ pl f = ⟨.steps, none⟩) ∨ ∃ a, valV kvs (.inr (fmN f) : Key) = some (.ref a) ∧ H a = some (.tup [.str (odN (pl f).od), .str (actZ (pl f).ac), .str (slZ f (pl f))])
theorem PG.nil {H : Hp} : PG H [] (fun _ => ⟨.steps, none⟩) 0 := ⟨fun _ h => (nomatch h), Nat.le_refl 0, fun f => .inl ⟨rfl, rfl⟩⟩
theorem PG.mono {H H' : Hp} {kvs : List (Key × V)} {pl : Fm → Pd} {n : Nat} (s : Same H H') (h : PG H kvs pl n) : PG H' kvs pl n :=
  ⟨h.keys, h.len, fun f => (h.at_ f).imp id fun ⟨a, e1, e2⟩ => ⟨a, e1, s _ _ e2⟩⟩
theorem PG.le {H : Hp} {kvs : List (Key × V)} {pl : Fm → Pd} {n n' : Nat} (h : PG H kvs pl n) (l : n ≤ n') : PG H kvs pl n' := ⟨h.keys, Nat.le_trans h.len l, h.at_⟩
theorem PG.put {H : Hp} {kvs : List (Key × V)} {pl : Fm → Pd} {n : Nat} (h : PG H kvs pl n) (f : Fm) (p : Pd) {a : Addr} (e : H a = some (.tup [.str (odN p.od), .str (actZ p.ac), .str (slZ f p)])) : PG H (putK kvs (.inr (fmN f)) (.ref a)) (upP pl f p) (n + 1) where
  keys k hk := by
    rcases mem_putK hk with rfl | hk
    · exact ⟨f, rfl⟩
    · exact h.keys k hk
  len := Nat.le_trans (length_putK _ _ _) (Nat.succ_le_succ h.len)
  at_ g := by
    rw [valV_put]
    by_cases z : g = f
    · subst z
      rw [if_pos rfl, upP_at]
      exact .inr ⟨a, rfl, e⟩
    · rw [if_neg (fun q => z (fmN_inj (Sum.inr.inj q))), upP_ne z]
      exact h.at_ g
/-- the state while the dict D of plans is made -/
structure Pg (H0 H : Hp) (m g c : Addr) (b : Nat) (D : Addr) (pl : Fm → Pd) (kvs : List (Key × V)) (n : Nat) : Prop where
  s : Stp H0 H m g c b
  z : H0 D = none
  d : H D = some (.dK kvs)
  p : PG (rm (nw H0 H) D) kvs pl n
section
variable {H0 H H' : Hp} {m g c D a : Addr} {b b' n : Nat} {pl : Fm → Pd} {kvs : List (Key × V)}
theorem Pg.ne (x : Pg H0 H m g c b D pl kvs n) (t : Dst H0 m g c b') : D ≠ m ∧ D ≠ g ∧ D ≠ c := t.ne x.z
theorem Pg.step (x : Pg H0 H m g c b D pl kvs n) (t : Dst H0 m g c b0) (y : Stp H H' m g c b') : Pg H0 H' m g c b' D pl kvs n :=
  ⟨x.s.tr y, x.z, y.keep x.d (x.ne t).1 (x.ne t).2.1, x.p.mono (rm_mono (nw_stp t.dom.1 t.dom.2.1 y))⟩
theorem Pg.new {q : Addr} (x : Pg H0 H m g c b D pl kvs n) (t : Dst H0 m g c b0) (h : H q = none) (o : HO) : Pg H0 (upd H q o) m g c b D pl kvs n := x.step t ((Stp.refl x.s.t).new h o)
theorem Pg.put (x : Pg H0 H m g c b D pl kvs n) (t : Dst H0 m g c b0) (f : Fm) (p : Pd) (ha : H0 a = none) (e : H a = some (.tup [.str (odN p.od), .str (actZ p.ac), .str (slZ f p)])) :
    Pg H0 (upd H D (.dK (putK kvs (.inr (fmN f)) (.ref a)))) m g c b D (upP pl f p) (putK kvs (.inr (fmN f)) (.ref a)) (n + 1) := by
  have hD := x.ne t
  have sr : Same (rm (nw H0 H) D) (rm (nw H0 (upd H D (.dK (putK kvs (.inr (fmN f)) (.ref a))))) D) := fun q u e => by
    have nq : q ≠ D := fun z => by rw [z, rm_x] at e; cases e
    rw [rm_ne nq] at e ⊢
    obtain ⟨e1, e2⟩ := nw_inv e
    exact nw_at e1 (by rw [upd_ne nq]; exact e2)
  have naD : a ≠ D := ne_of e x.d (by intro z; cases z)
  refine ⟨⟨fun q u e => ?_, x.s.d.upd, x.s.t.upd hD.1 hD.2.1 hD.2.2⟩, x.z, upd_same, (x.p.mono sr).put f p (by rw [rm_ne naD]; exact nw_at ha (by rw [upd_ne naD]; exact e))⟩
  obtain ⟨q1, q2, q3⟩ := mk2_inv e
  rw [mk2_at q1 q2, upd_ne (ne_of_none q3 x.z)]
  exact x.s.keep q3 q1 q2
theorem Pg.dput (x : Pg H0 H m g c b D pl kvs n) (hn : n ≤ 100) (k : Key) (v : V) : DPut H D (kV k) v (upd H D (.dK (putK kvs k v))) :=
  DPut.k x.d (Nat.lt_of_le_of_lt (Nat.le_trans x.p.len hn) (by decide))
theorem Pg.le (x : Pg H0 H m g c b D pl kvs n) (h : b ≤ b') (h2 : n ≤ n') : Pg H0 H m g c b' D pl kvs n' := ⟨x.s.le h, x.z, x.d, x.p.le h2⟩
theorem Pg.plans (x : Pg H0 H m g c b D pl kvs n) (h : n ≤ 20) : PlansAt (nw H0 H) pl D :=
  ⟨kvs, nw_at x.z x.d, x.p.keys, Nat.le_trans x.p.len h, fun f => (x.p.at_ f).imp id fun ⟨a, e1, e2⟩ => ⟨a, e1, rm_same _ _ e2⟩⟩
end
/-- the plans of the plain forms -/
structure PlI (pl : Fm → Pd) : Prop where
  p : Plain pl
  pick : (pl .pick).ac = none
  pair : (pl .pair).ac = none
def free4 (f : Fm) : Bool := match f with | .full | .wrap | .raw | .letf => true | _ => false
theorem PlI.up {pl : Fm → Pd} (h : PlI pl) {f : Fm} (p : Pd) (hf : free4 f = true) : PlI (upP pl f p) := by
  have ne : ∀ g : Fm, free4 g = false → upP pl f p g = pl g := fun g hg => upP_ne (fun z => by rw [z, hf] at hg; cases hg)
  refine ⟨⟨?_, ?_, ?_, ?_, ?_⟩, ?_, ?_⟩
  · rw [ne _ rfl]; exact h.p.seq
  · rw [ne _ rfl]; exact h.p.loop
  · rw [ne _ rfl]; exact h.p.leave
  · rw [ne _ rfl]; exact h.p.again
  · rw [ne _ rfl]; exact h.p.stop
  · rw [ne _ rfl]; exact h.pick
  · rw [ne _ rfl]; exact h.pair
theorem PlI.ok {pl : Fm → Pd} (h : PlI pl) : PlanOk pl := fun f hf => by
  cases f with
  | seq => rw [h.p.seq] at hf; exact absurd rfl hf
  | loop => rw [h.p.loop] at hf; exact absurd rfl hf
  | leave => rw [h.p.leave] at hf; exact absurd rfl hf
  | again => rw [h.p.again] at hf; exact absurd rfl hf
  | stop => rw [h.p.stop] at hf; exact absurd rfl hf
  | pick => exact absurd h.pick hf
  | pair => exact absurd h.pair hf
  | _ => decide +kernel
def pl8 : Fm → Pd := upP (upP (upP (upP (upP (upP (upP (upP (fun _ => ⟨.steps, none⟩) .pick ⟨.choice, none⟩) .loop ⟨.loop, none⟩) .pair ⟨.choice, none⟩) .set ⟨.steps, some true⟩) .use ⟨.steps, some false⟩) .leave ⟨.leave, none⟩) .again ⟨.again, none⟩) .stop ⟨.stop, none⟩
theorem pl8_ok : PlI pl8 := ⟨⟨rfl, rfl, rfl, rfl, rfl⟩, rfl, rfl⟩
theorem Pg.keepT {H0 H : Hp} {m g c D a : Addr} {b n : Nat} {pl : Fm → Pd} {kvs : List (Key × V)} {xs : List V} {o : HO} (x : Pg H0 H m g c b D pl kvs n) (e : H a = some (.tup xs)) : upd H D o a = some (.tup xs) := by
  rw [upd_ne (ne_of e x.d (by intro z; cases z))]
  exact e
def tSl : TE := fun σ H Q => ∃ ac, σ[4]? = some (some (V.str (actZ ac))) ∧ Q (.str (if ac = none then "" else "who")) H
def spPlans : Sp := fun vs H Q _ => ∃ m g c b, vs = [.ref m] ∧ Dst H m g c b ∧ b + 10 ≤ 1000 ∧ ∀ H' d pl, Stp H H' m g c (b + 10) → PlansAt (nw H H') pl d → PlI pl → Q (.ref d) H'
section
variable {P : Program} {w : World} {K : PySem.W.Frag} {mg : Str → Option Value} {base : Heap}
abbrev sPlans : Stmt := top 54
abbrev nPlans : List Str := ["_law_m", "_law_found", "_law_word", "_law_mode_here", "_law_act"]
theorem sc_plans : FnScope nPlans ["_law_m"] (defScope sPlans) := ⟨rfl, rfl, rfl, by decide +kernel, rfl, by decide +kernel, by decide +kernel⟩
theorem g_plans (T : Tx K mg) : GF P w K mg base 3 "_law_plans" ["_law_m"] spPlans := by
  refine gf_of T.m__law_plans T.d__law_plans (fun _ _ _ _ _ _ us hl => match us, hl with | [_], _ => rfl) fun fd F => F.ok sc_plans (fun vs H Q E h => ?_) (fun cdv A outer s H vs Q E hr h => ?_)
  · obtain ⟨m, g, c, b, rfl, _⟩ := h
    rfl
  · obtain ⟨m, g, c, b, rfl, ht, hb, k⟩ := h
    refine ⟨_, PSs.nox <| pss_cons (ps_set (i := 1) sc_plans.nd rfl (.inl rfl) (pe_disp (pps_cons pe_str (pe_tup (pa_cons pe_str (pa_cons pe_str (pa_cons pe_str pa_nil)))) (pps_cons pe_str (pe_tup (pa_cons pe_str (pa_cons pe_str (pa_cons pe_str pa_nil)))) (pps_cons pe_str (pe_tup (pa_cons pe_str (pa_cons pe_str (pa_cons pe_str pa_nil)))) pps_nil))) (by rfl) (by rfl) (fun z => by cases z) (by decide)))
      (pss_cons (ps_asg (pe_tup (pa_cons (pe_tup (pa_cons pe_str (pa_cons pe_str (pa_cons pe_str pa_nil)))) (pa_cons (pe_tup (pa_cons pe_str (pa_cons pe_str (pa_cons pe_str pa_nil)))) (pa_cons (pe_tup (pa_cons pe_str (pa_cons pe_str (pa_cons pe_str pa_nil)))) pa_nil))))
        (pg_tup rfl (pgs_cons (pg_sub (pv 1) pe_str (set_dict (hu_of hr))) (pgs_cons (pg_sub (pv 1) pe_str (set_dict (hu_of hr))) (pgs_cons (pg_sub (pv 1) pe_str (set_dict (hu_of hr))) pgs_nil)))))
      (pss_cons (ps_asg (pe_tup (pa_cons (pe_tup (pa_cons pe_str (pa_cons pe_str (pa_cons pe_str pa_nil)))) (pa_cons (pe_tup (pa_cons pe_str (pa_cons pe_str (pa_cons pe_str pa_nil)))) pa_nil)))
        (pg_tup rfl (pgs_cons (pg_sub (pv 1) pe_str (set_dict (hu_of hr))) (pgs_cons (pg_sub (pv 1) pe_str (set_dict (hu_of hr))) pgs_nil))))
      (pss_cons (ps_for PassesOwn.never rfl (pi_tup (pe_tup (pa_cons pe_str (pa_cons pe_str pa_nil)))) (pg_name (i := 2) sc_plans.nd rfl (.inl rfl))
        (pss_cons (ps_set (i := 3) sc_plans.nd rfl (.inl rfl) (pe_ix ix_list (pe_lst (pa_cons pe_str (pa_cons pe_str (pa_cons pe_str (pa_cons pe_str (pa_cons pe_str (pa_cons pe_str (pa_cons pe_str pa_nil)))))))) (pe_imp (pe_g (g_draw T) hr (pa_cons (pv 0) (pa_cons pe_int pa_nil))) (dr_imp (t := tNil))) (fun _ _ => rfl)))
        (pss_cons (ps_set (i := 4) sc_plans.nd rfl (.inl rfl) (pe_ix ix_list (pe_lst (pa_cons pe_str (pa_cons pe_str (pa_cons pe_str pa_nil)))) (pe_imp (pe_g (g_draw T) hr (pa_cons (pv 0) (pa_cons pe_int pa_nil))) (dr_imp (t := tNil))) (fun _ _ => rfl)))
        (pss_one (ps_if (pt_cmpR op_gt (pe_imp (pe_g (g_draw T) hr (pa_cons (pv 0) (pa_cons pe_int pa_nil))) (dr_imp (t := tNil))) pe_int (nomark _))
          (pss_one (ps_dput (hu_of hr) (pv 1) (pv 2) (pe_tup (pa_cons (pv 3) (pa_cons (pv 4) (pa_cons (pe_imp (t' := tSl) (pe_ifExp (pt_cmpR op_ne (pv 4) pe_str (nomark _)) pe_str pe_str) (fun σ H Q ⟨ac, e, q⟩ => ⟨_, e, rfl, _, rfl, by
            rcases ac with _ | _ | _
            · exact ifN (by show ¬ (!decide (V.str "" = V.str "")) = true; decide +kernel) q
            · exact ifP (by show (!decide (V.str "use" = V.str "")) = true; decide +kernel) q
            · exact ifP (by show (!decide (V.str "set" = V.str "")) = true; decide +kernel) q⟩)) pa_nil)))) (by rfl))) pss_nil)))))
      (pss_cons (ps_if (pt_cmpR op_eq (pe_imp (pe_g (g_draw T) hr (pa_cons (pv 0) (pa_cons pe_int pa_nil))) (dr_imp (t := tNil))) pe_int (nomark _))
        (pss_one (ps_dput (hu_of hr) (pv 1) pe_str (pe_tup (pa_cons (pe_ix ix_list (pe_lst (pa_cons pe_str (pa_cons pe_str pa_nil))) (pe_imp (pe_g (g_draw T) hr (pa_cons (pv 0) (pa_cons pe_int pa_nil))) (dr_imp (t := tNil))) (fun _ _ => rfl))
          (pa_cons (pe_ix ix_list (pe_lst (pa_cons pe_str (pa_cons pe_str pa_nil))) (pe_imp (pe_g (g_draw T) hr (pa_cons (pv 0) (pa_cons pe_int pa_nil))) (dr_imp (t := tNil))) (fun _ _ => rfl)) (pa_cons pe_str pa_nil)))) (by rfl))) pss_nil)
      (pss_cons (ps_dput (hu_of hr) (pv 1) pe_str (pe_tup (pa_cons pe_str (pa_cons (pe_ix ix_list (pe_lst (pa_cons pe_str (pa_cons pe_str pa_nil))) (pe_imp (pe_g (g_draw T) hr (pa_cons (pv 0) (pa_cons pe_int pa_nil))) (dr_imp (t := tNil))) (fun _ _ => rfl)) (pa_cons pe_str pa_nil)))) (by rfl))
      (pss_one (ps_ret (pv 1)))))))), ?_⟩
    refine fun D hD => ⟨by show 3 ≤ sizeLine; decide, fun t1 h1 => ⟨by show 3 ≤ sizeLine; decide, fun t2 h2 => ⟨by show 3 ≤ sizeLine; decide, fun t3 h3 => ?_⟩⟩⟩
    have P0 : Pg H (upd H D (.dK [])) m g c b D (fun _ => ⟨.steps, none⟩) [] 0 := ⟨(Stp.refl ht).new hD _, hD, upd_same, PG.nil⟩
    have n1 := P0.s.d _ h1
    have P1 := P0.new ht h1 (.tup [.str "choice", .str "", .str ""])
    have e1 : upd (upd H D (.dK [])) t1 (.tup [.str "choice", .str "", .str ""]) t1 = some (.tup [.str "choice", .str "", .str ""]) := upd_same
    generalize upd (upd H D (.dK [])) t1 (.tup [.str "choice", .str "", .str ""]) = H1 at *
    have n2 := P1.s.d _ h2
    have P2 := P1.new ht h2 (.tup [.str "loop", .str "", .str ""])
    have e1 := same_new h2 (.tup [.str "loop", .str "", .str ""]) _ _ e1
    have e2 : upd H1 t2 (.tup [.str "loop", .str "", .str ""]) t2 = some (.tup [.str "loop", .str "", .str ""]) := upd_same
    generalize upd H1 t2 (.tup [.str "loop", .str "", .str ""]) = H2 at *
    have n3 := P2.s.d _ h3
    have P3 := P2.new ht h3 (.tup [.str "choice", .str "", .str ""])
    have e1 := same_new h3 (.tup [.str "choice", .str "", .str ""]) _ _ e1
    have e2 := same_new h3 (.tup [.str "choice", .str "", .str ""]) _ _ e2
    have e3 : upd H2 t3 (.tup [.str "choice", .str "", .str ""]) t3 = some (.tup [.str "choice", .str "", .str ""]) := upd_same
    generalize upd H2 t3 (.tup [.str "choice", .str "", .str ""]) = H3 at *
    refine ⟨P3.d, [((.inr (fmN .pick) : Key), .ref t1), (.inr (fmN .loop), .ref t2), (.inr (fmN .pair), .ref t3)], rfl, by show 3 ≤ 15; decide, ?_⟩
    have P4 := P3.put ht .pick ⟨.choice, none⟩ n1 e1
    have P5 := P4.put ht .loop ⟨.loop, none⟩ n2 (P3.keepT e2)
    have P6 := P5.put ht .pair ⟨.choice, none⟩ n3 (P4.keepT (P3.keepT e3))
    rw [upd_upd, upd_upd] at P6
    have eM : mergeK [] [((.inr (fmN .pick) : Key), V.ref t1), (.inr (fmN .loop), .ref t2), (.inr (fmN .pair), .ref t3)] = putK (putK (putK [] (.inr (fmN .pick)) (.ref t1)) (.inr (fmN .loop)) (.ref t2)) (.inr (fmN .pair)) (.ref t3) := rfl
    rw [eM]
    generalize putK (putK (putK [] (.inr (fmN .pick) : Key) (V.ref t1)) (.inr (fmN .loop)) (.ref t2)) (.inr (fmN .pair)) (.ref t3) = kv6 at *
    clear P4 P5 eM
    generalize upd H3 D (.dK kv6) = H6 at *
    -- three
    refine ⟨by show 3 ≤ sizeLine; decide, fun t4 h4 => ⟨by show 3 ≤ sizeLine; decide, fun t5 h5 => ⟨by show 3 ≤ sizeLine; decide, fun t6 h6 => ⟨by show 3 ≤ sizeLine; decide, fun t7 h7 => ?_⟩⟩⟩⟩
    have n4 := P6.s.d _ h4
    have P7 := P6.new ht h4 (.tup [.str "steps", .str "set", .str "who"])
    have e4 : upd H6 t4 (.tup [.str "steps", .str "set", .str "who"]) t4 = some (.tup [.str "steps", .str "set", .str "who"]) := upd_same
    generalize upd H6 t4 (.tup [.str "steps", .str "set", .str "who"]) = H7 at *
    have n5 := P7.s.d _ h5
    have P8 := P7.new ht h5 (.tup [.str "steps", .str "use", .str "who"])
    have e4 := same_new h5 (.tup [.str "steps", .str "use", .str "who"]) _ _ e4
    have e5 : upd H7 t5 (.tup [.str "steps", .str "use", .str "who"]) t5 = some (.tup [.str "steps", .str "use", .str "who"]) := upd_same
    generalize upd H7 t5 (.tup [.str "steps", .str "use", .str "who"]) = H8 at *
    have n6 := P8.s.d _ h6
    have P9 := P8.new ht h6 (.tup [.str "leave", .str "", .str ""])
    have e4 := same_new h6 (.tup [.str "leave", .str "", .str ""]) _ _ e4
    have e5 := same_new h6 (.tup [.str "leave", .str "", .str ""]) _ _ e5
    have e6 : upd H8 t6 (.tup [.str "leave", .str "", .str ""]) t6 = some (.tup [.str "leave", .str "", .str ""]) := upd_same
    generalize upd H8 t6 (.tup [.str "leave", .str "", .str ""]) = H9 at *
    have P10 := P9.new ht h7 (.tup [.ref t4, .ref t5, .ref t6])
    have e4 := same_new h7 (.tup [.ref t4, .ref t5, .ref t6]) _ _ e4
    have e5 := same_new h7 (.tup [.ref t4, .ref t5, .ref t6]) _ _ e5
    have e6 := same_new h7 (.tup [.ref t4, .ref t5, .ref t6]) _ _ e6
    have e7 : upd H9 t7 (.tup [.ref t4, .ref t5, .ref t6]) t7 = some (.tup [.ref t4, .ref t5, .ref t6]) := upd_same
    generalize upd H9 t7 (.tup [.ref t4, .ref t5, .ref t6]) = H10 at *
    have P11 := P10.put ht .set ⟨.steps, some true⟩ n4 e4
    have P12 := P11.put ht .use ⟨.steps, some false⟩ n5 (P10.keepT e5)
    have P13 := P12.put ht .leave ⟨.leave, none⟩ n6 (P11.keepT (P10.keepT e6))
    refine ⟨t7, _, rfl, SqT.of e7, rfl, _, _, rfl, _, rfl, D, _, rfl, P10.dput (by decide) (.inr (fmN .set)) (.ref t4), ?_⟩
    refine ⟨_, _, rfl, _, rfl, D, _, rfl, P11.dput (by decide) (.inr (fmN .use)) (.ref t5), ?_⟩
    refine ⟨_, _, rfl, _, rfl, D, _, rfl, P12.dput (by decide) (.inr (fmN .leave)) (.ref t6), rfl, ?_⟩
    generalize upd (upd (upd H10 D _) D _) D _ = H13 at *
    generalize putK (putK (putK kv6 (.inr (fmN .set)) (.ref t4)) (.inr (fmN .use)) (.ref t5)) (.inr (fmN .leave)) (.ref t6) = kv13 at *
    clear P11 P12
    -- two
    refine ⟨by show 3 ≤ sizeLine; decide, fun t8 h8 => ⟨by show 3 ≤ sizeLine; decide, fun t9 h9 => ⟨by show 2 ≤ sizeLine; decide, fun ta ha => ?_⟩⟩⟩
    have n8 := P13.s.d _ h8
    have P14 := P13.new ht h8 (.tup [.str "again", .str "", .str ""])
    have e8 : upd H13 t8 (.tup [.str "again", .str "", .str ""]) t8 = some (.tup [.str "again", .str "", .str ""]) := upd_same
    generalize upd H13 t8 (.tup [.str "again", .str "", .str ""]) = H14 at *
    have n9 := P14.s.d _ h9
    have P15 := P14.new ht h9 (.tup [.str "stop", .str "", .str ""])
    have e8 := same_new h9 (.tup [.str "stop", .str "", .str ""]) _ _ e8
    have e9 : upd H14 t9 (.tup [.str "stop", .str "", .str ""]) t9 = some (.tup [.str "stop", .str "", .str ""]) := upd_same
    generalize upd H14 t9 (.tup [.str "stop", .str "", .str ""]) = H15 at *
    have P16 := P15.new ht ha (.tup [.ref t8, .ref t9])
    have e8 := same_new ha (.tup [.ref t8, .ref t9]) _ _ e8
    have e9 := same_new ha (.tup [.ref t8, .ref t9]) _ _ e9
    have ea : upd H15 ta (.tup [.ref t8, .ref t9]) ta = some (.tup [.ref t8, .ref t9]) := upd_same
    generalize upd H15 ta (.tup [.ref t8, .ref t9]) = H16 at *
    have P17 := P16.put ht .again ⟨.again, none⟩ n8 e8
    have P18 := P17.put ht .stop ⟨.stop, none⟩ n9 (P16.keepT e9)
    refine ⟨ta, _, rfl, SqT.of ea, rfl, _, _, rfl, _, rfl, D, _, rfl, P16.dput (by decide) (.inr (fmN .again)) (.ref t8), ?_⟩
    refine ⟨_, _, rfl, _, rfl, D, _, rfl, P17.dput (by decide) (.inr (fmN .stop)) (.ref t9), rfl, ?_⟩
    generalize upd (upd H16 D _) D _ = H18 at *
    generalize putK (putK kv13 (.inr (fmN .again)) (.ref t8)) (.inr (fmN .stop)) (.ref t9) = kv18 at *
    clear P17
    have P18 : Pg H H18 m g c b D pl8 kv18 8 := P18
    -- the loop
    refine ⟨by show 2 ≤ sizeLine; decide, fun tw hw => ?_⟩
    have PW := P18.new ht hw (.tup [.str "Full", .str "Wrap"])
    have ew : upd H18 tw (.tup [.str "Full", .str "Wrap"]) tw = some (.tup [.str "Full", .str "Wrap"]) := upd_same
    have nw1 := P18.s.t.ne hw
    generalize upd H18 tw (.tup [.str "Full", .str "Wrap"]) = HW at *
    refine ⟨tw, rfl, ⟨_, SqT.of ew⟩, for_tup (xs := [.str "Full", .str "Wrap"]) (fun i σ H' => ∃ v2 v3 v4 pl kvs, σ = [some (.ref m), some (.ref D), v2, v3, v4] ∧ H' tw = some (.tup [.str "Full", .str "Wrap"]) ∧ Pg H H' m g c (b + 3 * i) D pl kvs (8 + i) ∧ PlI pl)
      ⟨_, _, _, _, _, rfl, ew, PW, pl8_ok⟩ (fun i σ H' _ ⟨_, _, _, _, _, _, e, _⟩ => SqT.of e) ?_ ?_⟩
    · rintro i z σ H1 hz ⟨v2, v3, v4, pl, kvs, rfl, ew1, P1, Pi⟩
      obtain ⟨f, hf, hw, rfl⟩ : ∃ f, free4 f = true ∧ slotN f = "who" ∧ z = .str (fmN f) := by
        match i, hz with
        | 0, hz => exact ⟨.full, rfl, rfl, (Option.some.inj hz).symm⟩
        | 1, hz => exact ⟨.wrap, rfl, rfl, (Option.some.inj hz).symm⟩
        | _ + 2, hz => cases hz
      have hi : i < 2 := by
        match i, hz with
        | 0, _ => decide
        | 1, _ => decide
        | _ + 2, hz => cases hz
      -- the mode
      refine ⟨by show 7 ≤ sizeLine; decide, fun l1 hl1 => ?_⟩
      have P2 := P1.new ht hl1 (.lst [.str "steps", .str "choice", .str "loop", .str "loop", .str "stop", .str "leave", .str "again"])
      have ew2 := same_new hl1 (.lst [.str "steps", .str "choice", .str "loop", .str "loop", .str "stop", .str "leave", .str "again"]) _ _ ew1
      have nl1 := P1.s.t.ne hl1
      have el1 : upd H1 l1 (.lst [.str "steps", .str "choice", .str "loop", .str "loop", .str "stop", .str "leave", .str "again"]) l1 = some (.lst [.str "steps", .str "choice", .str "loop", .str "loop", .str "stop", .str "leave", .str "again"]) := upd_same
      generalize upd H1 l1 (.lst [.str "steps", .str "choice", .str "loop", .str "loop", .str "stop", .str "leave", .str "again"]) = H2 at *
      refine ⟨m, g, c, _, rfl, P2.s.t, by omega, by decide, by decide, fun H3 r3 S3 r30 r31 => ?_⟩
      obtain ⟨od, hod⟩ : ∃ od, atI [V.str "steps", .str "choice", .str "loop", .str "loop", .str "stop", .str "leave", .str "again"] r3 = some (.str (odN od)) := by
        rcases (show r3 = 0 ∨ r3 = 1 ∨ r3 = 2 ∨ r3 = 3 ∨ r3 = 4 ∨ r3 = 5 ∨ r3 = 6 by omega) with e | e | e | e | e | e | e
        · exact ⟨.steps, by rw [e]; exact at0⟩
        · exact ⟨.choice, by rw [e]; exact at1⟩
        · exact ⟨.loop, by rw [e]; exact atI_nat (j := 2) rfl⟩
        · exact ⟨.loop, by rw [e]; exact atI_nat (j := 3) rfl⟩
        · exact ⟨.stop, by rw [e]; exact atI_nat (j := 4) rfl⟩
        · exact ⟨.leave, by rw [e]; exact atI_nat (j := 5) rfl⟩
        · exact ⟨.again, by rw [e]; exact atI_nat (j := 6) rfl⟩
      refine ⟨l1, _, _, _, rfl, rfl, SqL.of (S3.keep el1 nl1.1 nl1.2.1), hod, ?_⟩
      have P3 := P2.step ht S3
      have ew3 := S3.keep ew2 nw1.1 nw1.2.1
      -- the act
      refine ⟨by show 3 ≤ sizeLine; decide, fun l2 hl2 => ?_⟩
      have P4 := P3.new ht hl2 (.lst [.str "", .str "set", .str "use"])
      have ew4 := same_new hl2 (.lst [.str "", .str "set", .str "use"]) _ _ ew3
      have nl2 := P3.s.t.ne hl2
      have el2 : upd H3 l2 (.lst [.str "", .str "set", .str "use"]) l2 = some (.lst [.str "", .str "set", .str "use"]) := upd_same
      generalize upd H3 l2 (.lst [.str "", .str "set", .str "use"]) = H4 at *
      refine ⟨m, g, c, _, rfl, P4.s.t, by omega, by decide, by decide, fun H5 r5 S5 r50 r51 => ?_⟩
      obtain ⟨ac, hac⟩ : ∃ ac, atI [V.str "", .str "set", .str "use"] r5 = some (.str (actZ ac)) := by
        rcases (show r5 = 0 ∨ r5 = 1 ∨ r5 = 2 by omega) with e | e | e
        · exact ⟨none, by rw [e]; exact at0⟩
        · exact ⟨some true, by rw [e]; exact at1⟩
        · exact ⟨some false, by rw [e]; exact atI_nat (j := 2) rfl⟩
      refine ⟨l2, _, _, _, rfl, rfl, SqL.of (S5.keep el2 nl2.1 nl2.2.1), hac, ?_⟩
      have P5 := P4.step ht S5
      have ew5 := S5.keep ew4 nw1.1 nw1.2.1
      refine ⟨m, g, c, _, rfl, P5.s.t, by omega, by decide, by decide, fun H6 r6 S6 r60 r61 => ?_⟩
      have P6 := P5.step ht S6
      have ew6 := S6.keep ew5 nw1.1 nw1.2.1
      refine ⟨_, _, rfl, rfl, _, rfl, ite2 (fun z => ?_) (fun z => ?_)⟩
      · refine ⟨_, rfl, _, rfl, ac, rfl, by show 3 ≤ sizeLine; decide, fun t ht' => ?_⟩
        have nt := P6.s.d _ ht'
        have P7 := P6.new ht ht' (.tup [.str (odN od), .str (actZ ac), .str (if ac = none then "" else "who")])
        have ew7 := same_new ht' (.tup [.str (odN od), .str (actZ ac), .str (if ac = none then "" else "who")]) _ _ ew6
        have et : upd H6 t (.tup [.str (odN od), .str (actZ ac), .str (if ac = none then "" else "who")]) t = some (.tup [.str (odN od), .str (actZ ac), .str (if ac = none then "" else "who")]) := upd_same
        generalize upd H6 t (.tup [.str (odN od), .str (actZ ac), .str (if ac = none then "" else "who")]) = H7 at *
        have P8 := P7.put ht f ⟨od, ac⟩ nt (by unfold slZ; rw [hw]; exact et)
        exact ⟨_, rfl, _, rfl, D, _, rfl, P7.dput (by omega) (.inr (fmN f)) (.ref t), _, _, _, _, _, rfl, P7.keepT ew7, P8.le (by omega) (by omega), Pi.up _ hf⟩
      · exact ⟨_, _, _, _, _, rfl, ew6, P6.le (by omega) (by omega), Pi⟩
    rintro σ H1 ⟨v2, v3, v4, pl, kvs, rfl, _, P1, Pi⟩
    have P1 : Pg H H1 m g c (b + 6) D pl kvs 10 := P1
    refine ⟨m, g, c, _, rfl, P1.s.t, by omega, by decide, by decide, fun H2 r2 S2 r20 r21 => ?_⟩
    have P2 := P1.step ht S2
    refine ⟨rfl, _, rfl, ite2 (fun z => ?pos) (fun z => ?neg)⟩
    case pos =>
      refine ⟨by show 2 ≤ sizeLine; decide, fun l1 hl1 => ?_⟩
      have P3 := P2.new ht hl1 (.lst [.str "steps", .str "leave"])
      have nl1 := P2.s.t.ne hl1
      have el1 : upd H2 l1 (.lst [.str "steps", .str "leave"]) l1 = some (.lst [.str "steps", .str "leave"]) := upd_same
      generalize upd H2 l1 (.lst [.str "steps", .str "leave"]) = H3 at *
      refine ⟨m, g, c, _, rfl, P3.s.t, by omega, by decide, by decide, fun H4 r4 S4 r40 r41 => ?_⟩
      obtain ⟨od, hod⟩ : ∃ od, atI [V.str "steps", .str "leave"] r4 = some (.str (odN od)) := by
        rcases (show r4 = 0 ∨ r4 = 1 by omega) with e | e
        · exact ⟨.steps, by rw [e]; exact at0⟩
        · exact ⟨.leave, by rw [e]; exact at1⟩
      refine ⟨l1, _, _, _, rfl, rfl, SqL.of (S4.keep el1 nl1.1 nl1.2.1), hod, ?_⟩
      have P4 := P3.step ht S4
      refine ⟨by show 2 ≤ sizeLine; decide, fun l2 hl2 => ?_⟩
      have P5 := P4.new ht hl2 (.lst [.str "set", .str "use"])
      have nl2 := P4.s.t.ne hl2
      have el2 : upd H4 l2 (.lst [.str "set", .str "use"]) l2 = some (.lst [.str "set", .str "use"]) := upd_same
      generalize upd H4 l2 (.lst [.str "set", .str "use"]) = H5 at *
      refine ⟨m, g, c, _, rfl, P5.s.t, by omega, by decide, by decide, fun H6 r6 S6 r60 r61 => ?_⟩
      obtain ⟨ac, hac⟩ : ∃ ac, atI [V.str "set", .str "use"] r6 = some (.str (actZ (some ac))) := by
        rcases (show r6 = 0 ∨ r6 = 1 by omega) with e | e
        · exact ⟨true, by rw [e]; exact at0⟩
        · exact ⟨false, by rw [e]; exact at1⟩
      refine ⟨l2, _, _, _, rfl, rfl, SqL.of (S6.keep el2 nl2.1 nl2.2.1), hac, ?_⟩
      have P6 := P5.step ht S6
      refine ⟨by show 3 ≤ sizeLine; decide, fun t ht' => ?_⟩
      have nt := P6.s.d _ ht'
      have P7 := P6.new ht ht' (.tup [.str (odN od), .str (actZ (some ac)), .str "text"])
      have et : upd H6 t (.tup [.str (odN od), .str (actZ (some ac)), .str "text"]) t = some (.tup [.str (odN od), .str (actZ (some ac)), .str "text"]) := upd_same
      generalize upd H6 t (.tup [.str (odN od), .str (actZ (some ac)), .str "text"]) = H7 at *
      have P8 := P7.put ht .raw ⟨od, some ac⟩ nt (by
        have e : slZ .raw ⟨od, some ac⟩ = "text" := if_neg (by intro z; cases z)
        rw [e]; exact et)
      refine ⟨_, rfl, D, _, rfl, P7.dput (by omega) (.inr (fmN .raw)) (.ref t), ?_⟩
      have h9 : ∃ pl2 kvs2, Pg H (upd H7 D (.dK (putK kvs (.inr (fmN .raw)) (.ref t)))) m g c (b + 9) D pl2 kvs2 11 ∧ PlI pl2 := ⟨_, _, P8.le (by omega) (by omega), Pi.up _ rfl⟩
      generalize upd H7 D _ = H9 at *
      obtain ⟨pl, kvs, P9, Pi⟩ := h9
      refine ⟨by show 2 ≤ sizeLine; decide, fun l2 hl2 => ?_⟩
      have P5 := P9.new ht hl2 (.lst [.str "set", .str "use"])
      have nl2 := P9.s.t.ne hl2
      have el2 : upd H9 l2 (.lst [.str "set", .str "use"]) l2 = some (.lst [.str "set", .str "use"]) := upd_same
      generalize upd H9 l2 (.lst [.str "set", .str "use"]) = H5 at *
      refine ⟨m, g, c, _, rfl, P5.s.t, by omega, by decide, by decide, fun H6 r6 S6 r60 r61 => ?_⟩
      obtain ⟨ac, hac⟩ : ∃ ac, atI [V.str "set", .str "use"] r6 = some (.str (actZ (some ac))) := by
        rcases (show r6 = 0 ∨ r6 = 1 by omega) with e | e
        · exact ⟨true, by rw [e]; exact at0⟩
        · exact ⟨false, by rw [e]; exact at1⟩
      refine ⟨l2, _, _, _, rfl, rfl, SqL.of (S6.keep el2 nl2.1 nl2.2.1), hac, ?_⟩
      have P6 := P5.step ht S6
      refine ⟨by show 3 ≤ sizeLine; decide, fun t ht' => ?_⟩
      have nt := P6.s.d _ ht'
      have P7 := P6.new ht ht' (.tup [.str "steps", .str (actZ (some ac)), .str "who"])
      have et : upd H6 t (.tup [.str "steps", .str (actZ (some ac)), .str "who"]) t = some (.tup [.str "steps", .str (actZ (some ac)), .str "who"]) := upd_same
      generalize upd H6 t (.tup [.str "steps", .str (actZ (some ac)), .str "who"]) = H7 at *
      have P8 := P7.put ht .letf ⟨.steps, some ac⟩ nt (by
        have e : slZ .letf ⟨.steps, some ac⟩ = "who" := if_neg (by intro z; cases z)
        rw [e]; exact et)
      refine ⟨_, rfl, D, _, rfl, P7.dput (by omega) (.inr (fmN .letf)) (.ref t), ?_⟩
      refine ⟨_, rfl, k _ D _ (P8.s.le (by omega)) (P8.plans (by omega)) (Pi.up _ rfl)⟩
    case neg =>
      have P9 : Pg H H2 m g c (b + 9) D pl kvs 11 := P2.le (by omega) (by omega)
      generalize H2 = H9 at *
      refine ⟨by show 2 ≤ sizeLine; decide, fun l2 hl2 => ?_⟩
      have P5 := P9.new ht hl2 (.lst [.str "set", .str "use"])
      have nl2 := P9.s.t.ne hl2
      have el2 : upd H9 l2 (.lst [.str "set", .str "use"]) l2 = some (.lst [.str "set", .str "use"]) := upd_same
      generalize upd H9 l2 (.lst [.str "set", .str "use"]) = H5 at *
      refine ⟨m, g, c, _, rfl, P5.s.t, by omega, by decide, by decide, fun H6 r6 S6 r60 r61 => ?_⟩
      obtain ⟨ac, hac⟩ : ∃ ac, atI [V.str "set", .str "use"] r6 = some (.str (actZ (some ac))) := by
        rcases (show r6 = 0 ∨ r6 = 1 by omega) with e | e
        · exact ⟨true, by rw [e]; exact at0⟩
        · exact ⟨false, by rw [e]; exact at1⟩
      refine ⟨l2, _, _, _, rfl, rfl, SqL.of (S6.keep el2 nl2.1 nl2.2.1), hac, ?_⟩
      have P6 := P5.step ht S6
      refine ⟨by show 3 ≤ sizeLine; decide, fun t ht' => ?_⟩
      have nt := P6.s.d _ ht'
      have P7 := P6.new ht ht' (.tup [.str "steps", .str (actZ (some ac)), .str "who"])
      have et : upd H6 t (.tup [.str "steps", .str (actZ (some ac)), .str "who"]) t = some (.tup [.str "steps", .str (actZ (some ac)), .str "who"]) := upd_same
      generalize upd H6 t (.tup [.str "steps", .str (actZ (some ac)), .str "who"]) = H7 at *
      have P8 := P7.put ht .letf ⟨.steps, some ac⟩ nt (by
        have e : slZ .letf ⟨.steps, some ac⟩ = "who" := if_neg (by intro z; cases z)
        rw [e]; exact et)
      refine ⟨_, rfl, D, _, rfl, P7.dput (by omega) (.inr (fmN .letf)) (.ref t), ?_⟩
      refine ⟨_, rfl, k _ D _ (P8.s.le (by omega)) (P8.plans (by omega)) (Pi.up _ rfl)⟩
end
end Jz
end
section
set_option maxHeartbeats 4000000
set_option pp.maxSteps 200
/-! calls with **d: laws of dicts -/
namespace Jz
open PySem PySem.Spec PyProof.Rows L2 ClX StX PySem.W
section
variable {prog : Program} {w : World} {A : Around} {E : Value → Shared → Prop} {d : Addr}
theorem freed_dictOf (es : List DictEntry) (n : Nat) : (dictOf es n).isFreed = false := rfl
theorem nsSet_new {s : Shared} {es : List DictEntry} {n : Nat} {k : Str} {v : Value} {Q : Unit → Shared → Prop} (D : s.heap.get? d = some (dictOf es n)) (hs : ∀ e ∈ es, e.key.isStr k = false) (hr : ∀ e ∈ es, e.refKey = false)
    (h : ∀ h', h'.get? d = some (dictOf (es ++ [⟨PyData.keyHash w.params k, .str k s.toks, v⟩]) (n + 1)) → Heap.SameBut d s.heap h' → Q () { s with heap := h', toks := s.toks + 1 }) :
    wpAny (model prog w) A (nsSet d k v) Q E s := by
  have e1 : es.any (·.key.isStr k) = false := by
    cases q : es.any (·.key.isStr k) with
    | false => rfl
    | true => obtain ⟨e, he, z⟩ := List.any_eq_true.mp q; rw [hs e he] at z; cases z
  have e2 : es.any (·.refKey) = false := by
    cases q : es.any (·.refKey) with
    | false => rfl
    | true => obtain ⟨e, he, z⟩ := List.any_eq_true.mp q; rw [hr e he] at z; cases z
  have e : Obj.putName k (PyData.keyHash w.params k) (.str k s.toks) v (dictOf es n) = dictOf (es ++ [⟨PyData.keyHash w.params k, .str k s.toks, v⟩]) (n + 1) := by
    rw [putName_dict, putL_new hs]
    show dictOf _ (if es.any (·.key.isStr k) then n else n + 1) = _
    rw [e1, if_neg Bool.false_ne_true]
  have c : aRefKeyMayBeTheName k es.toArray = false := by
    rw [aRefKeyMayBeTheName_at, ← Array.any_toList, ← Array.any_toList]
    show (!es.any (·.key.isStr k) && es.any (·.refKey)) = false
    rw [e2, Bool.and_false]
  unfold nsSet
  refine wpAny_bind (wpAny_bind (wpAny_askSetting (wpAny_pure (wpAny_bind (wpAny_mkText (wpAny_bind (wpAny_loadPart D ?_)))))))
  dsimp only
  rw [c]
  refine wpAny_updatePart D (h _ ?_ (Heap.SameBut.update ..))
  rw [← e]
  exact Heap.get?_update_self _ D (by show (Obj.putName k (PyData.keyHash w.params k) (Value.str k s.toks) v (dictOf es n)).isFreed = false; rw [e]; rfl)
theorem fill_new {Q : PUnit → Shared → Prop} : ∀ (ex : List (Str × Value)) (s : Shared) (es : List DictEntry) (n : Nat), s.heap.get? d = some (dictOf es n) →
    (∀ e ∈ es, ∀ x ∈ ex, e.key.isStr x.1 = false) → (∀ e ∈ es, e.refKey = false) → (ex.map (·.1)).Nodup →
    (∀ h', h'.get? d = some (dictOf (es ++ kwEs w.params s.toks ex) (n + ex.length)) → Heap.SameBut d s.heap h' → Q ⟨⟩ { s with heap := h', toks := s.toks + ex.length }) →
    wpAny (model prog w) A (forIn ex PUnit.unit fun x _ => (nsSet d x.1 x.2 >>= fun _ => pure (ForInStep.yield PUnit.unit))) Q E s
  | [], s, es, n, D, _, _, _, h => by
    rw [List.forIn_nil]
    refine wpAny_pure (h s.heap ?_ (Heap.SameBut.refl _ _))
    show s.heap.get? d = some (dictOf (es ++ []) n)
    rw [List.append_nil]
    exact D
  | x :: r, s, es, n, D, hs, hr, hn, h => by
    obtain ⟨hn1, hn2⟩ := List.nodup_cons.mp (show (x.1 :: r.map (·.1)).Nodup from hn)
    rw [List.forIn_cons]
    refine wpAny_bind (wpAny_bind (nsSet_new D (fun e he => hs e he x (.head _)) hr fun h' D' S' => wpAny_pure ?_))
    show wpAny (model prog w) A (forIn r PUnit.unit fun x _ => (nsSet d x.1 x.2 >>= fun _ => pure (ForInStep.yield PUnit.unit))) Q E { s with heap := h', toks := s.toks + 1 }
    refine fill_new r { s with heap := h', toks := s.toks + 1 } _ _ D' (fun e he y hy => ?_) (fun e he => ?_) hn2 fun h'' D'' S'' => ?_
    · rcases List.mem_append.mp he with he | he
      · exact hs e he y (.tail _ hy)
      · obtain rfl := List.mem_singleton.mp he
        show (x.1 == y.1) = false
        exact beq_eq_false_iff_ne.mpr fun q => hn1 (by rw [q]; exact List.mem_map_of_mem hy)
    · rcases List.mem_append.mp he with he | he
      · exact hr e he
      · obtain rfl := List.mem_singleton.mp he
        rfl
    · have t1 : s.toks + 1 + r.length = s.toks + (r.length + 1) := by omega
      have t2 : n + 1 + r.length = n + (r.length + 1) := by omega
      show Q ⟨⟩ { s with heap := h'', toks := s.toks + 1 + r.length }
      rw [t1]
      refine h h'' ?_ (S'.trans S'')
      rw [t2, List.append_assoc] at D''
      exact D''
theorem kwEs_mix : ∀ (ex : List (Str × Value)) (t : Tok), Pairs (mixKind prog w) (kwEs w.params t ex) (ex.map fun x => ((.inr x.1 : Key), x.2))
  | [], _ => Pairs.nil
  | x :: r, t => Pairs.cons (by show keyIs (.inr x.1) (.str x.1 t) = true; exact beq_self_eq_true _) rfl (kwEs_mix r (t + 1))
theorem dictOf_mix {h : Heap} {ex : List (Str × Value)} {t : Tok} {n : Nat} (D : h.get? d = some (dictOf (kwEs w.params t ex) n)) (hn : (ex.map (·.1)).Nodup) : h.DictOf (mixKind prog w) d (ex.map fun x => ((.inr x.1 : Key), x.2)) := by
  refine ⟨_, (kwEs w.params t ex).toArray, n, D, ⟨rfl, rfl, rfl⟩, rfl, fun e he => ?_, kwEs_mix ex t, ?_⟩
  · obtain ⟨k, u, hk, hh⟩ := kwEs_key ex t e (List.mem_toArray.mp he)
    exact ⟨.inr k, by rw [hk]; exact beq_self_eq_true _, hh.trans rfl⟩
  · rw [List.map_map]
    exact List.pairwise_map.mpr ((List.pairwise_map.mp hn).imp fun h z => h (Sum.inr.inj z))
end
end Jz
end
section
set_option maxHeartbeats 4000000
set_option pp.maxSteps 1500
namespace Jz
open PySem PySem.Spec PyProof.Rows L2 ClX StX PySem.W
section
variable {prog : Program} {w : World} {A : Around} {E : Value → Shared → Prop} {s : Shared} {d o : Addr}
theorem find_fresh {kvs : List (Key × Value)} {es : Array DictEntry} {k : Key} (hp : Pairs (mixKind prog w) es.toList kvs) (h : k ∉ kvs.map (·.1)) : (es.findIdx? fun e => (mixKind prog w).is k e.key) = none := by
  have hidx : (es.findIdx? fun e => (mixKind prog w).is k e.key) = kvs.findIdx? fun kv => decide (kv.1 = k) := by
    rw [← hp.findIdx k]; obtain ⟨l⟩ := es; simp
  rw [hidx, List.findIdx?_eq_none_iff]
  intro x hx
  exact decide_eq_false fun e => h (List.mem_map.mpr ⟨x, hx, e⟩)
theorem put_new {kvs : List (Key × Value)} {k : Key} {key v : Value} {Q : Unit → Shared → Prop} (hkey : (mixKind prog w).is k key = true) (hm : s.heap.DictOf (mixKind prog w) d kvs) (hf : k ∉ kvs.map (·.1))
    (hQ : ∀ h', h'.DictOf (mixKind prog w) d (kvs ++ [(k, v)]) → Heap.SameBut d s.heap h' → Q () { s with heap := h' }) (hsz : kvs.length ≤ sizeLine) :
    wpAny (model prog w) A (dictPut d ((mixKind prog w).hash k) key v) Q E s := by
  obtain ⟨o, es, ep, ho, hc, hd, hk, hp, hn⟩ := hm
  have hes : es.size ≤ sizeLine := by
    have e1 := hp.length
    have e2 : es.toList.length = es.size := by simp
    omega
  unfold dictPut
  refine wpAny_bind (wpAny_dictFind_of hkey ho hd hk ?_)
  rw [find_fresh hp hf]
  refine wpAny_updateDictKeys (hz := hes) ho hd (hQ _ ⟨_, _, ep + 1, Heap.get?_update_self _ ho (Obj.isFreed_of_dict (Obj.data_mapDictKeys hd _)),
      hc.mapDictKeys _, Obj.data_mapDictKeys hd _, hk.push hkey _, ?_, ?_⟩ (Heap.SameBut.update ..))
  · have := hp.append hkey ((mixKind prog w).hash k) v
    obtain ⟨l⟩ := es
    simpa using this
  · rw [List.map_append, List.nodup_append]
    refine ⟨hn, by simp, ?_⟩
    intro a ha b hb
    simp only [List.map_cons, List.map_nil, List.mem_singleton] at hb
    subst hb
    exact fun e => hf (e ▸ ha)
theorem merge_unique {more : List (Key × Value)} {Q : Unit → Shared → Prop} (hdo : d ≠ o) (hoS : (o == sysModules) = false) (hd : s.heap.DictOf (mixKind prog w) d []) (ho : s.heap.DictOf (mixKind prog w) o more) (hsz : more.length ≤ sizeLine)
    (hQ : ∀ h', h'.DictOf (mixKind prog w) d more → Heap.SameBut d s.heap h' → Q () { s with heap := h' }) : wpAny (model prog w) A (mergeMapping d (.ref o) true) Q E s := by
  obtain ⟨od, esd, epd, hod, hcd, hdd, hkd, hpd, hnd⟩ := id hd
  obtain ⟨oo, eso, epo, hoo, hco, hdo', hko, hpo, hno⟩ := id ho
  have hlen : more.length = eso.size := by rw [← hpo.length]; simp
  have hloop : (forIn eso PUnit.unit fun e (_ : PUnit) => (match e.key with
      | .ref _ => (do
        let g ← specialOf e.key "__eq__"
        if (g != some (.builtin "object.__eq__")) = true then
          if (eso.filter (fun x => x.hash == e.hash)).size > 1 then (do let _ ← (unsupported "dict.merge-into-an-empty-dict:keys-of-equal-hash" : Sem PUnit); pure (ForInStep.yield PUnit.unit)) else pure (ForInStep.yield PUnit.unit)
        else pure (ForInStep.yield PUnit.unit) : Sem (ForInStep PUnit))
      | _ => pure (ForInStep.yield PUnit.unit) : Sem (ForInStep PUnit))) = pure PUnit.unit := by
    rw [← Array.forIn_toList]
    refine forIn_yield_id _ fun e he c => ?_
    obtain ⟨k, hkey, _⟩ := hko e (Array.mem_toList_iff.mp he)
    rcases keyIs_shape hkey with ⟨i, t, _, e1⟩ | ⟨x, t, _, e1⟩
    · rw [e1]
    · rw [e1]
  unfold mergeMapping
  refine wpAny_bind (wpAny_isInstance ho.typeIs isSubtype_dict_dict ?_)
  dsimp only
  rw [if_pos rfl]
  refine wpAny_bind (wpAny_specialOf ho.typeIs F.slot_dict_iter.lookup ?_)
  refine wpAny_bind (wpAny_pure ?_)
  simp only [beq_self_eq_true]
  rw [if_neg (by rw [hoS]; exact Bool.false_ne_true)]
  refine wpAny_bind (wpAny_dictEntries hod hdd ?_)
  have hes : esd = #[] := by
    have := hpd.length
    exact Array.eq_empty_of_size_eq_zero (by simpa using this)
  rw [hes, if_pos (show (#[] : Array DictEntry).isEmpty = true from rfl)]
  refine wpAny_bind (wpAny_dictEntries hoo hdo' ?_)
  refine wpAny_bind (wpAny_of_eq hloop ?_)
  refine wpAny_bind (wpAny_dictEntries hoo hdo' ?_)
  refine wpAny_bind (wpAny_dictEpoch hoo hdo' ?_)
  refine wpAny_bind ?_
  rw [List.range_eq_range']
  refine wpAny_forIn_list _
    (fun rest _ s' => ∃ h' i, s' = { s with heap := h' } ∧ rest = List.range' i (eso.size - i) ∧ i ≤ eso.size ∧ h'.DictOf (mixKind prog w) d (more.take i) ∧ h'.get? o = some oo ∧ Heap.SameBut d s.heap h')
    _ ?_ ?_ _ _ ⟨s.heap, 0, rfl, by simp, Nat.zero_le _, by simpa using hd, hoo, Heap.SameBut.refl _ _⟩
  · rintro x rest b s' ⟨h', i, rfl, hr, hi, hd', hoo', hs'⟩
    have hlt : i < eso.size := by
      rcases Nat.lt_or_ge i eso.size with h | h
      · exact h
      · rw [Nat.sub_eq_zero_of_le h] at hr; simp at hr
    obtain ⟨rfl, hrest⟩ : x = i ∧ rest = List.range' (i + 1) (eso.size - (i + 1)) := by
      have e : eso.size - i = (eso.size - (i + 1)) + 1 := by omega
      rw [e, List.range'_succ] at hr
      injection hr with h1 h2
      exact ⟨h1, h2⟩
    refine wpAny_bind (wpAny_dictEntries hoo' hdo' ?_)
    rw [Array.getElem?_eq_getElem hlt]
    have hlt2 : x < more.length := by rw [hlen]; exact hlt
    have hkv : more[x]? = some more[x] := List.getElem?_eq_getElem hlt2
    obtain ⟨hkey, hval⟩ := hpo.get? (e := eso[x]) (by simp [hlt]) hkv
    obtain ⟨k', hkey', hhash⟩ := hko eso[x] (Array.getElem_mem hlt)
    obtain rfl : k' = more[x].1 := (mixKind prog w).inj _ _ _ hkey' hkey
    have hfresh : more[x].1 ∉ (more.take x).map (·.1) := fun hm => by
      have hn := hno
      rw [← List.take_append_drop x more, List.map_append, List.nodup_append] at hn
      exact hn.2.2 _ hm _ (List.mem_map.mpr ⟨more[x], List.mem_drop_iff_getElem.mpr ⟨0, by simpa using hlt2, by simp⟩, rfl⟩) rfl
    show wpAny _ _ (holding [eso[x].key, eso[x].val] (if True then _ else _) >>= _) _ _ _
    rw [if_pos trivial, hhash, hval]
    have hz : (more.take x).length ≤ sizeLine := Nat.le_trans (by rw [List.length_take]; omega) hsz
    obtain ⟨o1, es1, ep1, g1, c1, d1, k1, p1, n1⟩ := id hd'
    have hnone : (es1.findIdx? fun e => (mixKind prog w).is more[x].1 e.key) = none := find_fresh p1 hfresh
    refine wpAny_bind (wpAny_holding (wpAny_bind (wpAny_dictFind_of hkey g1 d1 k1 ?_)))
    rw [hnone, if_neg (by simp)]
    refine put_new hkey hd' hfresh (fun h'' hd'' hs'' => ?_) hz
    have hoo'' : h''.get? o = some oo := (hs''.2 o (Ne.symm hdo)).trans hoo'
    refine wpAny_bind (wpAny_dictEpoch hoo'' hdo' ?_)
    rw [if_neg (by simp)]
    exact wpAny_pure ⟨h'', x + 1, rfl, hrest, hlt, by rw [List.take_add_one, hkv]; exact hd'', hoo'', hs'.trans hs''⟩
  · rintro b s' ⟨h', i, rfl, hr, hi, hd', hoo', hs'⟩
    have hin : i = eso.size := by
      rcases Nat.lt_or_ge i eso.size with h | h
      · have e : eso.size - i = (eso.size - (i + 1)) + 1 := by omega
        rw [e, List.range'_succ] at hr; exact nomatch hr
      · exact Nat.le_antisymm hi h
    refine wpAny_pure (hQ h' ?_ hs')
    rw [hin, ← hlen, List.take_length] at hd'; exact hd'
end
end Jz
end
section
set_option maxHeartbeats 4000000
set_option pp.maxSteps 1500
namespace Jz
open PySem PySem.Spec PyProof.Rows L2 ClX StX PySem.W
def mxK (ex : List (Str × Value)) : List (Key × Value) := ex.map fun x => ((.inr x.1 : Key), x.2)
section
variable {prog : Program} {w : World} {A : Around} {E : Value → Shared → Prop} {s : Shared} {d : Addr}
theorem kw_loop {B : DictEntry → List (Str × Value) → Sem (ForInStep (List (Str × Value)))} (hB : ∀ x t h v acc, B ⟨h, .str x t, v⟩ acc = pure (.yield (acc ++ [(x, v)]))) :
    ∀ {es : List DictEntry} {ex : List (Str × Value)} (acc : List (Str × Value)), Pairs (mixKind prog w) es (mxK ex) → forIn es acc B = (pure (acc ++ ex) : Sem (List (Str × Value)))
  | [], [], acc, _ => by rw [List.forIn_nil, List.append_nil]
  | [], _ :: _, _, h => by cases h
  | _ :: _, [], _, h => by cases h
  | e :: es, x :: ex, acc, h => by
    cases h with
    | cons h1 h2 h3 =>
      obtain ⟨eh, ek, ev⟩ := e
      have hk : keyIs (.inr x.1) ek = true := h1
      rcases keyIs_shape hk with ⟨i, t, z, e1⟩ | ⟨y, t, z, e1⟩
      · cases z
      · cases Sum.inr.inj z
        subst e1
        have hv : ev = x.2 := h2
        subst hv
        rw [List.forIn_cons, hB]
        show forIn es (acc ++ [(x.1, x.2)]) B = _
        rw [kw_loop hB (acc ++ [(x.1, x.2)]) h3, List.append_assoc]
        rfl
theorem kw_in {f : Value} {ex : List (Str × Value)} {Q : List (Str × Value) → Shared → Prop} (hd : s.heap.DictOf (mixKind prog w) d (mxK ex)) (h : Q ex s) : wpAny (model prog w) A (keywordsIn f d) Q E s := by
  obtain ⟨o, es, ep, ho, hc, hdd, hk, hp, hn⟩ := hd
  unfold keywordsIn
  refine wpAny_bind (wpAny_dictEntries ho hdd ?_)
  rw [← Array.forIn_toList]
  refine wpAny_bind (wpAny_of_eq (kw_loop (ex := ex) (fun x t h v acc => ?_) [] hp) ?_)
  · rfl
  · exact wpAny_pure h
theorem evalArgs_dd {f : Value} {x y : Sem Value} {pos : Pos} {rest : List (Bool × Sem Value)} {Q : Args → Shared → Prop}
    (h : wpAny (model prog w) A (spliced ((false, x) :: rest)) (fun vs s1 => wpAny (model prog w) A y (fun v s2 => ∃ a ex, v = .ref a ∧ s1.heap.objs.size ≠ a ∧ (a == sysModules) = false ∧ s2.heap.DictOf (mixKind prog w) s1.heap.objs.size [] ∧ s2.heap.DictOf (mixKind prog w) a (mxK ex) ∧ ex.length ≤ sizeLine ∧
      ∀ h', h'.DictOf (mixKind prog w) s1.heap.objs.size (mxK ex) → Heap.SameBut s1.heap.objs.size s2.heap h' → Q ⟨vs, ex⟩ { s2 with heap := h' }) E { s1 with heap := s1.heap.push { cls := .type "dict", data := .dict #[] } }) E s) :
    wpAny (model prog w) A (evalArgs f true ((false, x) :: rest) [(none, do let v ← y; standAt pos; pure v)]) Q E s := by
  unfold evalArgs
  show wpAny (model prog w) A (spliced ((false, x) :: rest) >>= _) Q E s
  refine wpAny_bind (wpAny_mono h (fun vs s1 h1 => ?_) fun _ _ x => x)
  refine wpAny_holding ?_
  rw [if_neg (by simp)]
  unfold mergedKeywords
  refine wpAny_bind (wpAny_bind (wpAny_alloc ?_))
  refine wpAny_bind (wpAny_holding ?_)
  dsimp only
  rw [List.forIn_cons]
  refine wpAny_bind (wpAny_bind ?_)
  dsimp only
  rw [if_pos (show ([] : List (Str × Sem Value)).isEmpty = true from rfl)]
  refine wpAny_bind (wpAny_pure ?_)
  refine wpAny_bind (wpAny_bind (wpAny_mono h1 (fun v s2 hv => wpAny_bind (wpAny_standAt (wpAny_pure ?_))) fun _ _ x => x))
  obtain ⟨a, ex, rfl, na, hS, hd, ho, hz, k⟩ := hv
  refine wpAny_bind (wpAny_onRaise (wpAny_holding (wpAny_tryCatch (wpAny_onRaise (merge_unique na hS hd ho (by rw [mxK, List.length_map]; exact hz) fun h' hd' hs' => ?_)))))
  refine wpAny_pure ?_
  dsimp only
  rw [List.forIn_nil]
  refine wpAny_pure ?_
  rw [if_pos (show ([] : List (Str × Sem Value)).isEmpty = true from rfl)]
  refine wpAny_pure ?_
  refine wpAny_pure ?_
  refine wpAny_bind (wpAny_pure ?_)
  refine wpAny_bind (wpAny_holding (kw_in hd' ?_))
  exact wpAny_pure (k h' hd' hs')
end
end Jz
end
section
set_option maxHeartbeats 4000000
set_option pp.maxSteps 600
/-! defs with **d -/
namespace Jz
open PySem PySem.Spec PyProof.Rows L2 ClX StX PySem.W
def mxV (kv : List (Str × V)) : List (Key × V) := kv.map fun x => ((.inr x.1 : Key), x.2)
abbrev KwR : List (Str × V) → List (Str × Value) → Prop := Paired fun a b => a.1 = b.1 ∧ RelV a.2 b.2
theorem KwR.kv : ∀ {kv : List (Str × V)} {kw : List (Str × Value)}, KwR kv kw → KV (mxV kv) (mxK kw)
  | _, _, .nil => .nil
  | _, _, .cons h t => .cons ⟨congrArg Sum.inr h.1, h.2⟩ (KwR.kv t)
theorem KwR.names : ∀ {kv : List (Str × V)} {kw : List (Str × Value)}, KwR kv kw → kw.map (·.1) = kv.map (·.1)
  | _, _, .nil => rfl
  | _, _, .cons h t => by rw [List.map_cons, List.map_cons, KwR.names t, h.1]
abbrev SpK := List V → List (Str × V) → Hp → VK → XK → Prop
def FnKw (P : Program) (w : World) (K : PySem.W.Frag) (mg : Str → Option Value) (base : Heap) (CX : CXT) (k : Nat) (f : Addr) (sp : SpK) : Prop :=
  ∀ (A : Around) (outer : List Env) (s : Shared) (H : Hp) (us : List Value) (vs : List V) (kw : List (Str × Value)) (kv : List (Str × V)) (Q : VK) (E : XK), Room k A → Env0 P w K mg base A outer s H → Vals vs us → KwR kv kw → sp vs kv H Q E →
    codeAny (model P w) A (.call (.ref f) ⟨us, kw⟩) (CR CX outer P w H s Q E) s
section
variable {P : Program} {w : World} {K : PySem.W.Frag} {mg : Str → Option Value} {base : Heap} {A : Around} {outer : List Env} {s : Shared} {H : Hp}
theorem env0_laidG {h' : Heap} {t' : Nat} {u : HO} (e0 : Env0 P w K mg base A outer s H) (kp : ∀ b x, s.heap.get? b = some x → h'.get? b = some x) (new : ObjOk P w (upd H s.heap.objs.size u) h' s.heap.objs.size u) :
    Env0 P w K mg base A outer { s with heap := h', toks := t' } (upd H s.heap.objs.size u) := by
  refine ⟨e0.frames, e0.mod, fun b x e => ⟨kp b x (e0.bs b x e).1, ?_⟩, ?_, Heap.FunFrames.of_keeps (fun b x e _ => ⟨x, kp b x e, rfl⟩) e0.funs, fun b hb => ?_, e0.hok.laid kp (Nat.le_refl _) new, e0.bare⟩
  · rw [upd_ne (Nat.ne_of_lt (Heap.lt_size (e0.bs b x e).1))]
    exact (e0.bs b x e).2
  · exact Nat.le_of_lt (Nat.lt_of_le_of_lt e0.bsz new.lt)
  · obtain ⟨_, x, hx, _⟩ := e0.funs.mem hb
    rw [upd_ne (Nat.ne_of_lt (Heap.lt_size hx))]
    exact e0.frf b hb
variable {CX : CXT} {k : Nat} {f : Addr} {name qual : Str} {params : Arguments} {body : List Stmt} {scope : Scope} {dV kV doc pm cdv ct oc : Value} {an od : Option Addr} {osl : Array (Option Value)} {N ps : List Str} {sp : Sp}
/-- def f(a, .., **d): the keywords are a new dict -/
theorem fn_kw {pd : Str} {okK : List Str → Prop} (lk : K.lookup f = some ⟨oc, od, .func (PySem.W.fnOf name qual params body scope dV kV doc pm an cdv ct), osl⟩) (hcd : PySem.W.codeIn K cdv qual = true) (S : FnScope N (ps ++ [pd]) scope) (hCX : CXUp CX)
    (hb : ∀ (us : List Value) (kw : List (Str × Value)), us.length = ps.length → okK (kw.map (·.1)) → bindArgs (PySem.W.fnOf name qual params body scope dV kV doc pm an cdv ct) ⟨us, kw⟩ =
      ((alloc ({ cls := .type "dict", data := .dict #[] } : Obj) : Sem Addr) >>= fun d => (forIn kw PUnit.unit fun x _ => (nsSet d x.1 x.2 >>= fun _ => pure (ForInStep.yield PUnit.unit))) >>= fun _ => pure (ps.zip us ++ [(pd, Value.ref d)])))
    (hn : ∀ ns, okK ns → ns.Nodup ∧ ns.length ≤ 100)
    (hbody : ∀ (A : Around) (outer : List Env) (s : Shared) (H : Hp) (vs : List V) (Q : VK) (E : XK), Room k (A.deeper (envOfC qual scope s.heap.objs.size f cdv)) → sp vs H Q E →
      ∃ t, PSs (cxOf CX P w K mg base N qual scope f cdv A outer s H E) body t ∧ t { nx := fun _ H' => Q .non H', rt := Q } (start N vs) H) :
    FnKw P w K mg base CX (k + 1) f (fun vs kv H Q E => vs.length = ps.length ∧ okK (kv.map (·.1)) ∧ ∀ p, H p = Option.none → sp (vs ++ [V.ref p]) (upd H p (.dK (mxV kv))) Q E) := by
  intro A outer s H us vs kw kv Q E hr e0 r rk hsp
  obtain ⟨hl, hok, hq⟩ := hsp
  have hl1 : us.length = ps.length := by rw [← r.length]; exact hl
  have hnH : H s.heap.objs.size = Option.none := e0.hok.fresh (Nat.le_refl _)
  have hok' : okK (kw.map (·.1)) := by rw [rk.names]; exact hok
  obtain ⟨hnd, hz⟩ := hn _ hok'
  refine run_bnd lk hcd S hr e0 (G := fun xs H2 => ∃ p, H p = Option.none ∧ xs = vs ++ [V.ref p] ∧ H2 = upd H p (.dK (mxV kv))) (fun A' Ex Q' h => ?_) fun s2 H2 xs ⟨p, hp, ex, eH⟩ hr' => ?_
  · rw [hb us kw hl1 hok']
    refine wpAny_bind (wpAny_alloc ?_)
    refine wpAny_bind (fill_new kw _ [] 0 (Heap.get?_push_size _ rfl) (fun _ he => nomatch he) (fun _ he => nomatch he) hnd fun h' D' S' => wpAny_pure ?_)
    have kp : ∀ b x, s.heap.get? b = some x → h'.get? b = some x := fun b x e => (S'.2 b (Nat.ne_of_lt (Heap.lt_size e))).trans (Heap.get?_push_of_some _ e)
    have dd : h'.DictOf (mixKind P w) s.heap.objs.size (mxK kw) := dictOf_mix D' hnd
    have lkv : (mxV kv).length ≤ sizeLine := by
      have e1 := congrArg List.length rk.names
      rw [List.length_map, List.length_map] at e1
      rw [List.length_map] at hz
      rw [mxV, List.length_map, ← e1]
      exact Nat.le_trans hz (by decide)
    have new : ObjOk P w (upd H s.heap.objs.size (.dK (mxV kv))) h' s.heap.objs.size (.dK (mxV kv)) := dk_new lkv (beq_eq_false_iff_ne.mpr (Ne.symm (Nat.ne_of_lt (env0_big e0)))) rk.kv dd
    have un : Un (frs outer) [] H (upd H s.heap.objs.size (.dK (mxV kv))) s.heap h' := Un.laid kp (Nat.le_refl _) hnH
    have z := h { s with heap := h', toks := s.toks + kw.length } _ (vs ++ [V.ref s.heap.objs.size]) (us ++ [Value.ref s.heap.objs.size]) (env0_laidG e0 kp new) un rfl (fun e s' => hCX outer s H _ _ E e s' un kp rfl) (r.append (.cons rfl .nil))
      (by rw [List.length_append, List.length_append, hl] <;> rfl) ⟨_, hnH, rfl, rfl⟩
    rw [List.zip_append hl1.symm] at z
    exact z
  · subst ex eH
    exact hbody A outer s2 _ _ Q E hr' (hq p hp)
end
section
variable {M : Model} {A : Around} {E : Value → Shared → Prop} {s : Shared}
theorem call_dd {f : Value} {first : List Value} {pos : Pos} {Q : Value → Shared → Prop} {P : Heap → Prop} {args : List (Bool × Sem Value)} {kws : List (Option Str × Sem Value)} (hst : (args.any (·.1) || kws.any (·.1.isNone)) = true)
    (hk : ∀ h, P h → ∃ k, (k = Keeper.frame ∨ k = Keeper.machine ∨ k = Keeper.boundFrame) ∧ Looks M h (keeperOf f) k)
    (h : wpAny M A (evalArgs f true args kws) (fun a s₁ => P s₁.heap ∧ wpAny M A (call f (first ++ a.pos) a.kw) Q E s₁) E s) : wpAny M A (callWith pos f first args kws) Q E s := by
  unfold callWith
  refine wpAny_bind (wpAny_holding (wpAny_mono h (fun a s₁ h₁ => wpAny_bind (wpAny_standAt ?_)) fun _ _ x => x))
  obtain ⟨k, hk', L⟩ := hk _ h₁.1
  simp only [hst]
  refine wpAny_bind (L.here ?_)
  have tail : ∀ {t : Sem Value}, wpAny M A t Q E s₁ → wpAny M A (t >>= fun r => holding [r] point >>= fun _ => pure r) Q E s₁ :=
    fun ht => wpAny_bind (wpAny_mono ht (fun r s₂ hr => wpAny_bind (wpAny_holding (wpAny_point (wpAny_pure hr)))) fun _ _ x => x)
  have marked (mk : Value) : wpAny M A (callMarked mk f (first ++ a.pos) a.kw) Q E s₁ := by unfold callMarked; exact Calls.wpAny_keep h₁.2
  rcases hk' with rfl | rfl | rfl <;> dsimp only <;> first | exact tail (marked _) | exact tail (wpAny_operating h₁.2)
end
end Jz
end
section
set_option maxHeartbeats 4000000
set_option pp.maxSteps 600
/-! classes called with **d, with *xs, with keywords -/
namespace Jz
open PySem PySem.Spec PyProof.Rows L2 ClX StX PySem.W
theorem kv_inv : ∀ {kv : List (Str × V)} {vs : List (Key × Value)}, KV (mxV kv) vs → ∃ kw, vs = mxK kw ∧ KwR kv kw
  | [], _, r => by cases r; exact ⟨[], rfl, .nil⟩
  | a :: kv, _, r => by
    cases r with
    | @cons _ b _ bs h t =>
      obtain ⟨kw, e, q⟩ := kv_inv t
      obtain ⟨bk, bv⟩ := b
      have h1 : (.inr a.1 : Key) = bk := h.1
      subst h1 e
      exact ⟨(a.1, bv) :: kw, rfl, .cons ⟨rfl, h.2⟩ q⟩
section
variable {X : Cx} {CX : CXT} {k i : Nat} {f C : Addr} {sp : SpK} {spR : Sp} {E : XK} {x : Str} {p kpos sp_ pos : Pos} {e ed : Expr} {es : List Expr} {kws : List Keyword} {ks : List Str} {t tk : TA} {te td : TE}
theorem run_makeKw {pins : List (Addr × Obj)} {σ : L2.St} {H : Hp} {s : Shared} {Q : VK} {us : List Value} {vs : List V} {kw : List (Str × Value)} {kv : List (Str × V)} (M : Mk X.K C f) (F : FnKw X.prog X.w X.K X.mg X.base CX k f sp) (hr : Room (k + 1) X.A) (hx : Passes CX X E) (I : Inv X pins σ H s) (r : Vals vs us) (rk : KwR kv kw)
    (h : ∀ x dx, H x = Option.none → H dx = Option.none → dx ≠ x → sp (V.ref x :: vs) kv (upd (upd H dx (.own x)) x (.ins C dx [])) (fun v H2 => v = .non ∧ Q (.ref x) H2) E) :
    wpAny (model X.prog X.w) X.A (call (.ref C) us kw) (EP X pins σ Q) X.xe s := by
  have hq := h (s.heap.objs.size + 1) s.heap.objs.size (I.hok.fresh (Nat.le_succ _)) (I.hok.fresh (Nat.le_refl _)) (Nat.ne_of_lt (Nat.lt_succ_self _))
  have I2 := Inv.made (C := C) I
  have r2 : Vals (V.ref (s.heap.objs.size + 1) :: vs) (Value.ref (s.heap.objs.size + 1) :: us) := .cons rfl r
  refine wpAny_call (make_map (f := f) I.kIn M.makes M.init (beq_iff_eq.mp M.fn) (codeAny_mono (F _ X.stack _ _ (Value.ref (s.heap.objs.size + 1) :: us) _ kw _ _ E (hr.make C us kw) (I2.env0.make C us kw) r2 rk hq) fun r s' hq' => ?_))
  cases r with
  | error e => exact hx pins σ _ _ e s' I2 hq'
  | ok fl =>
    cases fl with
    | ret u =>
      obtain ⟨v, H', I3, rv, ev, q3⟩ := I2.after hq'
      subst ev
      exact ⟨rv, ⟨V.ref (s.heap.objs.size + 1), H', I3, rfl, q3⟩⟩
    | next => exact False.elim hq'
    | brk => exact False.elim hq'
    | cont => exact False.elim hq'
/-- x(e, .., **d), the i-th slot holds a class -/
def tMakeDD (i : Nat) (C : Addr) (sp : SpK) (E : XK) (t : TA) (td : TE) : TE := fun σ H Q => σ[i]? = some (some (V.ref C)) ∧ t σ H fun vs H1 => ∀ p, H1 p = none → td σ (upd H1 p (.dK [])) fun y H2 => ∃ d kv, y = .ref d ∧ p ≠ d ∧ H2 p = some (.dK []) ∧ Rd H2 d (.dK (mxV kv)) ∧
  ∀ x dx, upd H2 p (.dK (mxV kv)) x = none → upd H2 p (.dK (mxV kv)) dx = none → dx ≠ x → sp (.ref x :: vs) kv (upd (upd (upd H2 p (.dK (mxV kv))) dx (.own x)) x (.ins C dx [])) (fun v H3 => v = .non ∧ Q (.ref x) H3) E
theorem pe_makeDD (M : Mk X.K C f) (F : FnKw X.prog X.w X.K X.mg X.base CX k f sp) (hr : Room (k + 1) X.A) (hN : X.N[i]? = some x) (hv : Vis X.env.scope x) (hx : Passes CX X E) (ha : PA X (e :: es) t) (hd : PE X ed td)
    (hdb : (x == ("__debug__" : Str)) = false := by decide) (hcd : (x == ("__classdict__" : Str)) = false := by decide) (he : starEach (e :: es) X.env = (false, eval e X.env) :: starEach es X.env := by rfl) :
    PE X (.Call (.Name x p) (e :: es) [⟨none, ed, kpos⟩] pos) (tMakeDD i C sp E t td) := by
  refine ⟨fun pins s σ H Q I h => ?_⟩
  obtain ⟨hs, ht⟩ := h
  refine wpAny_Call_Name_kw (thn ((pe_var (pos := p) hN hv hdb hcd).run pins s σ H (fun v H1 => v = .ref C ∧ H1 = H) I ⟨.ref C, hs, rfl, rfl⟩) fun u s1 ⟨v, H1, I1, r1, q1⟩ => ?_)
  obtain ⟨rfl, rfl⟩ := q1
  cases r1
  have hr0 := ha.run pos pins s1 σ _ _ I1 ht
  rw [he] at hr0 ⊢
  refine call_dd (P := X.K.In) (by show ((_ || _) || true) = true; rw [Bool.or_true]) (PySem.W.keeps_K M.kp) (evalArgs_dd (wpAny_mono hr0 (fun us s2 ⟨vs, H2, I2, r, q⟩ => ?_) fun _ _ z => z))
  have hn := I2.hok.fresh (Nat.le_refl s2.heap.objs.size)
  have I3 := I2.laid (a := s2.heap.objs.size) (o := .dK []) (h' := s2.heap.push { cls := .type "dict", data := .dict #[] }) (t' := s2.toks) (fun _ _ q => Heap.get?_push_of_some _ q) (Nat.le_refl _) (dk_empty s2.heap I2.big)
  refine thn (hd.run pins _ σ _ _ I3 (q _ hn)) fun v s3 ⟨y, H3, I4, ry, d, kv, ey, nd, hp, hdk, q3⟩ => ?_
  subst ey
  cases ry
  obtain ⟨z, lo, vs3, rel, dd⟩ := dk_rd I4.hok hdk
  obtain ⟨kw, rfl, rk⟩ := kv_inv rel
  obtain ⟨z0, lo0, vs0, rel0, dd0⟩ := dk_of I4.hok hp
  cases rel0
  have hz : kw.length ≤ sizeLine := by
    have e1 := congrArg List.length rk.names
    rw [List.length_map, List.length_map] at e1
    rw [mxV, List.length_map] at z
    rw [e1]; exact z
  refine ⟨d, kw, rfl, nd, lo, dd0, dd, hz, fun h' dd' hs' => ?_⟩
  have heq : ∃ q, h'.get? s2.heap.objs.size = some q := let ⟨q, _, _, hq, _⟩ := dd'; ⟨q, hq⟩
  have I5 : Inv X pins σ (upd H3 s2.heap.objs.size (.dK (mxV kv))) { s3 with heap := h' } := d_write (t' := s3.toks) I4 (by rw [hp]; exact True.intro) hs' heq (dk_new z lo0 rk.kv dd')
  exact ⟨I5.kIn, run_makeKw M F hr hx I5 r rk q3⟩
/-- x(e, .., k = v, ..), x a class of the module -/
def tMakeNK (C : Addr) (ks : List Str) (sp : SpK) (E : XK) (t tk : TA) : TE := fun σ H Q => t σ H fun vs H1 => tk σ H1 fun zs H2 => zs.length = ks.length ∧
  ∀ x dx, H2 x = none → H2 dx = none → dx ≠ x → sp (.ref x :: vs) (ks.zip zs) (upd (upd H2 dx (.own x)) x (.ins C dx [])) (fun v H3 => v = .non ∧ Q (.ref x) H3) E
theorem kwR_zip : ∀ {ks : List Str} {zs : List V} {ws : List Value}, Vals zs ws → KwR (ks.zip zs) (ks.zip ws)
  | [], _, _, _ => .nil
  | _ :: _, _, _, .nil => .nil
  | _ :: _, _, _, .cons h t => .cons ⟨rfl, h⟩ (kwR_zip t)
theorem pe_makeNK (M : Mk X.K C f) (F : FnKw X.prog X.w X.K X.mg X.base CX k f sp) (hr : Room (k + 1) X.A) (hg : Gl X x) (hm : X.mg x = some (.ref C)) (hx : Passes CX X E)
    (ha : PA X (e :: es) t) (hkw : PK X kws tk) (hall : (backToKw pos (keywordEach kws X.env)).all (·.1.isSome) = true := by rfl) (hks : (backToKw pos (keywordEach kws X.env)).filterMap (·.1) = ks := by rfl)
    (hdb : (x == ("__debug__" : Str)) = false := by decide) (he : starEach (e :: es) X.env = (false, eval e X.env) :: starEach es X.env := by rfl)
    (hpl : ((backTo pos (starEach (e :: es) X.env)).any (·.1) || (backToKw pos (keywordEach kws X.env)).any (·.1.isNone)) = false := by rfl) :
    PE X (.Call (.Name x p) (e :: es) kws pos) (tMakeNK C ks sp E t tk) := by
  refine ⟨fun pins s σ H Q I h => ?_⟩
  refine wpAny_Call_Name_kw (ld_glob I hg hm ?_ hdb)
  refine PySem.W.callWith_KW (h₀ := X.base) I.ok.mod.kin M.kp hall (thn (ha.run pos pins s σ H _ I h) fun us s1 ⟨vs, H1, I1, r, q⟩ => ?_) hpl he
  refine thn (hkw.run pos pins s1 σ H1 _ I1 q) fun ws s2 ⟨zs, H2, I2, rz, l2, q2⟩ => ⟨I2.kIn, ?_⟩
  rw [hks]
  exact run_makeKw M F hr hx I2 r (kwR_zip rz) q2
/-- x( *y), the i-th slot holds a class -/
def tMakeStar (K : PySem.W.Frag) (i : Nat) (C : Addr) (sp : Sp) (E : XK) (te : TE) : TE := fun σ H Q => σ[i]? = some (some (V.ref C)) ∧ te σ H fun y H1 => ∃ a xs, y = .ref a ∧ (SqT K H1 a xs ∨ SqL K H1 a xs) ∧
  ∀ x dx, H1 x = none → H1 dx = none → dx ≠ x → sp (.ref x :: xs) (upd (upd H1 dx (.own x)) x (.ins C dx [])) (fun v H3 => v = .non ∧ Q (.ref x) H3) E
theorem pe_makeStar (M : Mk X.K C f) (F : FnR X.prog X.w X.K X.mg X.base CX k f spR) (hr : Room (k + 1) X.A) (hN : X.N[i]? = some x) (hv : Vis X.env.scope x) (hx : Passes CX X E) (hd : PE X e te)
    (hdb : (x == ("__debug__" : Str)) = false := by decide) (hcd : (x == ("__classdict__" : Str)) = false := by decide) (hst : starEach [.Starred e sp_] X.env = [(true, eval e X.env)] := by rfl) :
    PE X (.Call (.Name x p) [.Starred e sp_] [] pos) (tMakeStar X.K i C spR E te) := by
  refine ⟨fun pins s σ H Q I h => ?_⟩
  obtain ⟨hs, ht⟩ := h
  refine wpAny_Call_Name_kw (thn ((pe_var (pos := p) hN hv hdb hcd).run pins s σ H (fun v H1 => v = .ref C ∧ H1 = H) I ⟨.ref C, hs, rfl, rfl⟩) fun u s1 ⟨v, H1, I1, r1, q1⟩ => ?_)
  obtain ⟨rfl, rfl⟩ := q1
  cases r1
  refine PySem.W.callWith_S (h₀ := X.base) I.ok.mod.kin M.kp (thn (hd.run pins s1 σ _ _ I1 ht) fun v s2 ⟨y, H2, I2, ry, a, xs, ey, hxs, q⟩ => ?_) hst
  subst ey
  cases ry
  exact star_any I2 hxs fun us s3 I3 rv => ⟨I3.kIn, run_makeR M F hr hx I3 rv q⟩
end
end Jz
end
section
set_option maxHeartbeats 4000000
set_option pp.maxSteps 300
/-! slots, forms -/
namespace Jz
open PySem PySem.Spec PyProof.Rows L2 ClX StX PySem.W
def spIsSlot : Sp := fun vs H Q _ => ∃ z : Str, vs = [.str z] ∧ (z = "s*" ∨ z = "s" ∨ z = "text") ∧ ∀ H', Same H H' → Q (.bl true) H'
section
variable {P : Program} {w : World} {K : PySem.W.Frag} {mg : Str → Option Value} {base : Heap}
abbrev sIsSlot : Stmt := top 16
theorem sc_is_slot : FnScope ["value"] ["value"] (defScope sIsSlot) := ⟨rfl, rfl, rfl, by decide +kernel, rfl, by decide +kernel, by decide +kernel⟩
theorem g_is_slot (T : Tx K mg) : GF P w K mg base 2 "is_slot" ["value"] spIsSlot := by
  refine gf_of T.m_is_slot T.d_is_slot (fun _ _ _ _ _ _ us hl => match us, hl with | [_], _ => rfl) fun fd F => F.ok sc_is_slot (fun vs H Q E h => ?_) (fun cdv A outer s H vs Q E hr h => ?_)
  · obtain ⟨z, rfl, _⟩ := h
    rfl
  · obtain ⟨z, rfl, hz, k⟩ := h
    refine ⟨_, PSs.nox <| pss_cons (ps_if (pt_not (pt_val (pe_isi T.n_isinstance (pv 0) (pe_ty T.n_str rfl)))) (pss_one (ps_ret pe_bl)) pss_nil)
      (pss_one (ps_ret (pe_and (pe_g (g_is_name T) hr (pa_cons (pe_ifExp (pt_val (pe_m1 PySem.F.slot_str_endswith PySem.F.type_str_endswith mt_endswith (pv 0) pe_str)) (pe_slice sl_str (pv 0) po_none (po_some (pe_un un_neg pe_int))) (pv 0)) pa_nil))
        (pe_one (pe_cmpR op_ne (pv 0) pe_str (nomark _)))))), ?_⟩
    refine ⟨_, rfl, .str z, .ty "str", _, _, true, rfl, .ty "str", .base (.str z), kit_ty (by decide +kernel), true, rfl, iteF ?_⟩
    have fin : ∀ H', Same H H' → z ≠ "text*" → Q (.bl (!decide (V.str z = V.str "text*"))) H' := fun H' s' hn => by
      rw [decide_eq_false (fun q => hn (by injection q))]
      exact k H' s'
    rcases hz with rfl | rfl | rfl
    · refine ⟨_, rfl, ⟨_, rfl⟩, _, _, rfl, rfl, true, (by decide +kernel), iteT ?_⟩
      refine ⟨_, rfl, _, rfl, _, rfl, "s*", rfl, by decide +kernel, "s", ?_, by decide +kernel, fun H1 s1 => ⟨true, rfl, iteT ⟨_, rfl, rfl, fin H1 s1 (by decide +kernel)⟩⟩⟩
      have e : cutS "s*" none (some (-1)) = "s" := by decide +kernel
      exact congrArg (fun z => [V.str z]) e
    · refine ⟨_, rfl, ⟨_, rfl⟩, _, _, rfl, rfl, false, (by decide +kernel), iteF ⟨_, rfl, "s", rfl, by decide +kernel, fun H1 s1 => ⟨true, rfl, iteT ⟨_, rfl, rfl, fin H1 s1 (by decide +kernel)⟩⟩⟩⟩
    · refine ⟨_, rfl, ⟨_, rfl⟩, _, _, rfl, rfl, false, (by decide +kernel), iteF ⟨_, rfl, "text", rfl, by decide +kernel, fun H1 s1 => ⟨true, rfl, iteT ⟨_, rfl, rfl, fin H1 s1 (by decide +kernel)⟩⟩⟩⟩
end
end Jz
end
section
set_option maxHeartbeats 4000000
set_option pp.maxSteps 300
/-! forms -/
namespace Jz
open PySem PySem.Spec PyProof.Rows L2 ClX StX PySem.W
def okF (ns : List Str) : Prop := ns = [] ∨ ns = [("items" : Str)] ∨ ns = [("one" : Str), "two"] ∨ ns = [("who" : Str), "items"] ∨ ns = [("who" : Str), "body"] ∨ ns = [("who" : Str)] ∨ ns = [("what" : Str), "who"] ∨ ns = [("text" : Str)]
theorem okF_n : ∀ ns, okF ns → ns.Nodup ∧ ns.length ≤ 100 := fun ns h => by
  rcases h with rfl | rfl | rfl | rfl | rfl | rfl | rfl | rfl <;> exact ⟨by decide +kernel, by decide⟩
theorem kw0 {kw : List (Str × Value)} (h : kw.map (·.1) = []) : kw = [] := List.map_eq_nil_iff.mp h
theorem kw1 {kw : List (Str × Value)} {a : Str} (h : kw.map (·.1) = [a]) : ∃ v, kw = [(a, v)] := by
  match kw, h with
  | [(x, v)], h => exact ⟨v, by rw [show x = a from (List.cons.inj h).1]⟩
theorem kw2 {kw : List (Str × Value)} {a b : Str} (h : kw.map (·.1) = [a, b]) : ∃ v u, kw = [(a, v), (b, u)] := by
  match kw, h with
  | [(x, v), (y, u)], h => exact ⟨v, u, by rw [show x = a from (List.cons.inj h).1, show y = b from (List.cons.inj (List.cons.inj h).2).1]⟩
abbrev pF : List Str := ["self", "name", "sort"]
abbrev sFormI : Stmt := inC 17 1
section
theorem bind_form {kV doc pm cdv ct : Value} {an : Option Addr} : ∀ (us : List Value) (kw : List (Str × Value)), us.length = pF.length → okF (kw.map Prod.fst) → bindArgs (PySem.W.fnOf "__init__" "Form.__init__" (defArgs sFormI) (defBody sFormI) (defScope sFormI) .none kV doc pm an cdv ct) ⟨us, kw⟩ =
      ((alloc ({ cls := .type "dict", data := .dict #[] } : Obj) : Sem Addr) >>= fun d => (forIn kw PUnit.unit fun x _ => (nsSet d x.1 x.2 >>= fun _ => pure (ForInStep.yield PUnit.unit))) >>= fun _ => pure (pF.zip us ++ [(("slots" : Str), Value.ref d)]))
  | [a, b, c], kw, _, h => by
    rcases h with h | h | h | h | h | h | h | h
    · cases kw0 h; rfl
    · obtain ⟨v, rfl⟩ := kw1 h; rfl
    · obtain ⟨v, u, rfl⟩ := kw2 h; rfl
    · obtain ⟨v, u, rfl⟩ := kw2 h; rfl
    · obtain ⟨v, u, rfl⟩ := kw2 h; rfl
    · obtain ⟨v, rfl⟩ := kw1 h; rfl
    · obtain ⟨v, u, rfl⟩ := kw2 h; rfl
    · obtain ⟨v, rfl⟩ := kw1 h; rfl
end
end Jz
end
section
set_option maxHeartbeats 4000000
set_option pp.maxSteps 300
/-! Form.__init__ -/
namespace Jz
open PySem PySem.Spec PyProof.Rows L2 ClX StX PySem.W
def slK (f : Fm) : List (Str × V) := (slots f).map fun s => (s.1, .str s.2)
theorem slK_ok (f : Fm) : okF ((slK f).map (·.1)) := by
  cases f
  · exact .inr (.inl rfl)
  · exact .inr (.inl rfl)
  · exact .inr (.inl rfl)
  · exact .inr (.inr (.inl rfl))
  · exact .inr (.inr (.inr (.inl rfl)))
  · exact .inr (.inr (.inr (.inr (.inl rfl))))
  · exact .inr (.inr (.inr (.inr (.inr (.inl rfl)))))
  · exact .inr (.inr (.inr (.inr (.inr (.inl rfl)))))
  · exact .inr (.inr (.inr (.inr (.inr (.inr (.inl rfl))))))
  · exact .inl rfl
  · exact .inl rfl
  · exact .inl rfl
  · exact .inr (.inr (.inr (.inr (.inr (.inr (.inr rfl))))))
theorem slots_n (f : Fm) : (slots f).length ≤ 2 := by cases f <;> decide
theorem slots_ok (f : Fm) : ∀ s ∈ slots f, nameOk s.1 = true ∧ (s.2 = "s*" ∨ s.2 = "s" ∨ s.2 = "text") := by
  cases f <;> simp [slots] <;> decide +kernel
theorem fmN_ok (f : Fm) : nameOk (fmN f) = true := by cases f <;> decide +kernel
def spFormB (C : Addr) : Sp := fun vs H Q _ => ∃ x dx d f, vs = [.ref x, .str (fmN f), .str "s", .ref d] ∧ H x = some (.ins C dx []) ∧ H d = some (.dK (mxV (slK f))) ∧ ∀ H', Same (mk2 H x d) H' → FormAt C H' f x → Q .non H'
section
variable {P : Program} {w : World} {K : PySem.W.Frag} {mg : Str → Option Value} {base : Heap}
abbrev nFormI : List Str := ["self", "name", "sort", "slots", "word", "takes"]
theorem sc_formI : FnScope nFormI (pF ++ [("slots" : Str)]) (defScope sFormI) := ⟨rfl, rfl, rfl, by decide +kernel, rfl, by decide +kernel, by decide +kernel⟩
def spFormI (C : Addr) : SpK := fun vs kv H Q E => vs.length = pF.length ∧ okF (kv.map (·.1)) ∧ ∀ p, H p = Option.none → spFormB C (vs ++ [V.ref p]) (upd H p (.dK (mxV kv))) Q E
theorem k_form (T : Tx K mg) : FnKw P w K mg base CX0 3 (He.ma K (cA K "Form") "__init__") (spFormI (cA K "Form")) := by
  obtain ⟨fd, F⟩ := T.d_Form___init__
  obtain ⟨oc, od, dV, kV, doc, pm, an, cdv, ct, osl, rfl, lk, hcd, hD, hK⟩ := F.ex
  rcases hD with ⟨_, rfl⟩ | ⟨e, _⟩
  case inr => exact absurd rfl e
  refine fn_kw (ps := pF) (pd := "slots") (okK := okF) (sp := spFormB (cA K "Form")) lk hcd sc_formI cxUp_none bind_form okF_n fun A outer s H vs Q E hr h => ?_
  obtain ⟨x, dx, d, f, rfl, hx, hd, k⟩ := h
  have hr1 : Room 1 _ := hr.mono (by decide)
  obtain ⟨um, ec⟩ := T.w_Form_MAX_SLOTS
  refine ⟨_, PSs.nox <| pss_cons (ps_if (pt_not (pt_val (pe_g (g_is_name T) hr1 (pa_cons (pv 1) pa_nil)))) (pss_one ps_never) pss_nil)
    (pss_cons (ps_if (PW.pt (pw_or (pt_not (pt_val (pe_g (g_is_name T) hr1 (pa_cons (pv 2) pa_nil)))) (pw_or1 (pt_cmpR op_eq (pv 2) pe_str (nomark _))))) (pss_one ps_never) pss_nil)
    (pss_cons (ps_lock (ps_for PassesOwn.never rfl (pi_items (pv 3)) (pg_tup rfl (pgs_cons (pg_name (i := 4) sc_formI.nd rfl (.inl rfl)) (pgs_cons (pg_name (i := 5) sc_formI.nd rfl (.inl rfl)) pgs_nil)))
      (pss_one (ps_if (PW.pt (pw_or (pt_not (pt_val (pe_g (g_is_name T) hr1 (pa_cons (pv 4) pa_nil)))) (pw_or1 (pt_not (pt_val (pe_g (g_is_slot T) hr (pa_cons (pv 5) pa_nil))))))) (pss_one ps_never) pss_nil))))
    (pss_cons (ps_if (pt_cmpR op_gt (pe_callB call_lenD (by rfl) T.n_len PySem.boot_len (pa_cons (pv 3) pa_nil)) (pe_cval (pe_own T.m_Form)) (nomark _)) (pss_one ps_never) pss_nil)
    (pss_cons (ps_asg (pe_tup (pa_cons (pv 1) (pa_cons (pv 2) pa_nil))) (pg_tup rfl (pgs_cons (pg_attr (pv 0)) (pgs_cons (pg_attr (pv 0)) pgs_nil))))
    (pss_one (ps_lock (ps_fld (pv 0) (pe_callTy call_tuple_of (by rfl) T.n_tuple (by decide +kernel) (pa_cons
      (pe_lc (own := [("word", 4), ("takes", 5)]) (g := gTup K 2 (gCons (gName 4) (gCons (gName 5) gNil))) (te := tTup (tCons (tVar 4) (tCons (tVar 5) tNil))) (by rfl) sc_formI.nd (pi_items (pv 3))
        (blkOk_by (own := [("word", 4), ("takes", 5)]) (N := nFormI) (sc := defScope sFormI) (by decide +kernel))
        (fun _ _ _ _ _ => pg_tup rfl (pgs_cons (pg_name (i := 4) sc_formI.nd rfl (.inl rfl)) (pgs_cons (pg_name (i := 5) sc_formI.nd rfl (.inl rfl)) pgs_nil))) (fun _ _ _ _ _ => pts_nil) (fun _ _ _ _ _ => pe_tup (pa_cons (pv 4) (pa_cons (pv 5) pa_nil)))) pa_nil)) rfl))))))), ?_⟩
  have ndx : d ≠ x := ne_of hd hx (by intro z; cases z)
  refine ⟨_, rfl, fmN f, rfl, fmN_ok f, fun H1 s1 => ⟨true, rfl, iteF ?_⟩⟩
  refine ⟨_, rfl, "s", rfl, by decide +kernel, fun H2 s2 => ⟨true, rfl, iteF ⟨_, rfl, rfl, _, rfl, ifN (by decide +kernel) ?_⟩⟩⟩
  have s12 := same_tr s1 s2
  have hx2 := s12 _ _ hx
  have hd2 := s12 _ _ hd
  have sM2 : Same (mk2 H x d) (mk2 H2 x d) := mk2_same s12
  clear hx hd s1 s2 s12
  refine ⟨d, .dK _, hd2, trivial, fun od => ?_⟩
  refine ⟨_, rfl, d, od, mxV (slK f), rfl, upd_same, for_it walk_items (fun i σ H' => ∃ v4 v5, σ = [some (.ref x), some (.str (fmN f)), some (.str "s"), some (.ref d), v4, v5] ∧ Same (upd H2 d (.frz od (.dK (mxV (slK f))))) H') ⟨_, _, rfl, same_rfl⟩ (fun i σ H' _ ⟨_, _, _, s'⟩ => s' _ _ upd_same) ?_ ?_⟩
  · rintro i v σ H3 H4 hi ⟨v4, v5, rfl, s3⟩ ⟨T1, a, b, rfl, hT, rfl, ha, hb⟩
    obtain ⟨sl, hsl⟩ : ∃ sl, (slots f)[i]? = some sl := ⟨_, List.getElem?_eq_getElem (by simpa [mxV, slK] using hi)⟩
    have e0 : (mxV (slK f))[i]? = some ((.inr sl.1 : Key), .str sl.2) := by simp only [mxV, slK, List.getElem?_map, hsl, Option.map_some]
    have ha' : (mxV (slK f))[i]?.map (fun kv => L2.kV kv.1) = some a := ha
    have hb' : (mxV (slK f))[i]?.map Prod.snd = some b := hb
    rw [e0] at ha' hb'
    cases ha'
    cases hb'
    obtain ⟨o1, o2⟩ := slots_ok f sl (List.mem_of_getElem? hsl)
    have s4 : Same (upd H2 d (.frz od (.dK (mxV (slK f))))) (upd H3 T1 (.tup [.str sl.1, .str sl.2])) := same_tr s3 (same_new hT _)
    refine ⟨T1, _, rfl, SqT.of upd_same, rfl, _, _, rfl, _, _, rfl, rfl, ?_⟩
    exact ⟨_, rfl, sl.1, rfl, o1, fun H5 s5 => ⟨true, rfl, iteF ⟨_, rfl, sl.2, rfl, o2, fun H6 s6 => ⟨true, rfl, iteF ⟨_, _, rfl, same_tr s4 (same_tr s5 s6)⟩⟩⟩⟩⟩
  rintro σ H3 ⟨v4, v5, rfl, s3⟩
  refine ⟨s3 _ _ upd_same, ?_⟩
  have hx3 : (upd H3 d (.dK (mxV (slK f)))) x = some (.ins (cA K "Form") dx []) := by
    rw [upd_ne ndx.symm]
    exact s3 _ _ (by rw [upd_ne ndx.symm]; exact hx2)
  have hd3 : (upd H3 d (.dK (mxV (slK f)))) d = some (.dK (mxV (slK f))) := upd_same
  have sM3 : Same (mk2 H x d) (mk2 (upd H3 d (.dK (mxV (slK f)))) x d) := fun a o e => by
    obtain ⟨a1, a2, a3⟩ := mk2_inv (sM2 _ _ e)
    rw [mk2_at a1 a2, upd_ne a2]
    exact s3 _ _ (by rw [upd_ne a2]; exact a3)
  generalize upd H3 d (.dK (mxV (slK f))) = H4 at *
  refine ⟨_, rfl, d, _, rfl, hd3, _, _, _, _, rfl, T.r_Form, ec, _, _, rfl, rfl, _, rfl, ifN ?_ ?_⟩
  · have := slots_n f
    have e : (mxV (slK f)).length = (slots f).length := by simp [mxV, slK]
    rw [decide_eq_true_iff, e]
    omega
  have A0 := At1.start hx3
  refine ⟨_, rfl, _, rfl, by show 2 ≤ sizeLine; decide, fun t ht => ?_⟩
  have A1 := A0.new ht (.tup [.str (fmN f), .str "s"])
  refine ⟨t, _, rfl, SqT.of upd_same, rfl, _, _, rfl, _, rfl, x, _, dx, _, rfl, A1.2.2, T.c_Form, T.a_Form_word, (by show 0 < 1000; decide), ?_⟩
  have A2 := A1.put (o' := .ins (cA K "Form") dx (putF "word" (.str (fmN f)) []))
  refine ⟨_, _, rfl, _, rfl, x, _, dx, _, rfl, A2.2.2, T.c_Form, T.a_Form_own_kin, (by show 1 < 1000; decide), rfl, ?_⟩
  have A3 := A2.put (o' := .ins (cA K "Form") dx (putF "own_kin" (.str "s") (putF "word" (.str (fmN f)) [])))
  have e3 : putF "own_kin" (V.str "s") (putF "word" (V.str (fmN f)) []) = ([("word", .str (fmN f)), ("own_kin", .str "s")] : List (Str × V)) := by with_unfolding_all rfl
  rw [e3] at A3
  rw [e3]
  generalize upd (upd (upd H4 t _) x _) x _ = H5 at *
  have hd5 : H5 d = some (.dK (mxV (slK f))) := A3.1 _ _ (by rw [rm_ne ndx]; exact hd3)
  have hx5 := A3.2.2
  have sM5 : Same (mk2 H x d) (mk2 H5 x d) := fun a o e => by
    obtain ⟨a1, a2, a3⟩ := mk2_inv (sM3 _ _ e)
    rw [mk2_at a1 a2]
    exact A3.1 _ _ (by rw [rm_ne a1]; exact a3)
  refine ⟨d, .dK _, hd5, trivial, fun od2 => ?_⟩
  have hx6 : (upd H5 d (.frz od2 (.dK (mxV (slK f))))) x = some (.ins (cA K "Form") dx [("word", .str (fmN f)), ("own_kin", .str "s")]) := by rw [upd_ne ndx.symm]; exact hx5
  have hd6 : (upd H5 d (.frz od2 (.dK (mxV (slK f))))) d = some (.frz od2 (.dK (mxV (slK f)))) := upd_same
  have sM6 : Same (mk2 H x d) (mk2 (upd H5 d (.frz od2 (.dK (mxV (slK f))))) x d) := fun a o e => by
    obtain ⟨a1, a2, a3⟩ := mk2_inv (sM5 _ _ e)
    rw [mk2_at a1 a2, upd_ne a2]; exact a3
  generalize upd H5 d (.frz od2 (.dK (mxV (slK f)))) = H6 at *
  refine ⟨_, rfl, d, od2, _, rfl, hd6, fun D hD => lc_it walk_items (fun i H' => ∃ qs, Acc H6 D (rl qs) H' ∧ Paired (fun (s : Str × Str) q => H' q = some (.tup [.str s.1, .str s.2])) ((slots f).take i) qs) ⟨[], Acc.start hD, .nil⟩ (fun i H' _ ⟨_, A, _⟩ => A.1 _ _ hd6) ?_ ?_⟩
  · rintro i v H7 H8 hi ⟨qs, A, pq⟩ ⟨T1, a, b, rfl, hT, rfl, ha, hb⟩
    have hi2 : i < (slots f).length := by simpa [mxV, slK] using hi
    obtain ⟨sl, hsl⟩ : ∃ sl, (slots f)[i]? = some sl := ⟨_, List.getElem?_eq_getElem hi2⟩
    have e0 : (mxV (slK f))[i]? = some ((.inr sl.1 : Key), .str sl.2) := by simp only [mxV, slK, List.getElem?_map, hsl, Option.map_some]
    have ha' : (mxV (slK f))[i]?.map (fun kv => L2.kV kv.1) = some a := ha
    have hb' : (mxV (slK f))[i]?.map Prod.snd = some b := hb
    rw [e0] at ha' hb'
    cases ha'
    cases hb'
    have A1' := A.new (o := .tup [.str sl.1, .str sl.2]) hT
    refine ⟨T1, _, rfl, SqT.of upd_same, rfl, _, _, rfl, _, _, rfl, rfl, rfl, yes1 ⟨_, rfl, _, rfl, by show 2 ≤ sizeLine; decide, fun u hu => ?_⟩⟩
    have A2' := A1'.new (o := .tup [.str sl.1, .str sl.2]) hu
    refine ⟨_, A2'.at', ?_, qs ++ [u], ?_, ?_⟩
    · have e1 := paired_len pq
      rw [List.length_take] at e1
      have := slots_n f
      rw [List.length_map, ← e1]
      exact Nat.lt_of_le_of_lt (Nat.min_le_left _ _) (Nat.lt_of_lt_of_le (by omega : i < 2) (by decide))
    · unfold rl; rw [List.map_append]; exact A2'.push
    · rw [List.take_add_one, hsl]
      have nD : ∀ {q : Addr} {xs : List V}, H7 q = some (.tup xs) → q ≠ D := fun e z => by rw [z, A.at'] at e; cases e
      have hu' : (upd H7 T1 (.tup [.str sl.1, .str sl.2])) u = none := hu
      have uD : u ≠ D := fun z => by rw [z, A1'.at'] at hu'; cases hu'
      refine paired_snoc (Paired.mapP pq fun s q z => ?_) (by rw [upd_ne uD, upd_same]; rfl)
      rw [upd_ne (nD z)]
      exact same_new hu _ _ _ (same_new hT _ _ _ z)
  · rintro H7 ⟨qs, A, pq⟩
    refine ⟨D, _, rfl, .inl ⟨SqL.of A.at', fun p hp => ?_⟩⟩
    have hx7 := same_new hp (.tup (rl qs)) _ _ (A.1 _ _ hx6)
    have hd7 := same_new hp (.tup (rl qs)) _ _ (A.1 _ _ hd6)
    have hp7 : (upd H7 p (.tup (rl qs))) p = some (.tup (rl qs)) := upd_same
    have pq7 := Paired.mapP pq fun s q z => same_new hp (.tup (rl qs)) _ _ z
    have s7 := same_tr A.1 (same_new hp (.tup (rl qs)))
    generalize upd H7 p (.tup (rl qs)) = H8 at *
    refine ⟨_, rfl, x, _, dx, _, rfl, hx7, T.c_Form, T.a_Form_openings, (by show 2 < 1000; decide), ?_, ?_⟩
    · show upd H8 x _ d = _
      rw [upd_ne ndx]; exact hd7
    · have ef : putF "openings" (V.ref p) [("word", .str (fmN f)), ("own_kin", .str "s")] = ([("word", .str (fmN f)), ("own_kin", .str "s"), ("openings", .ref p)] : List (Str × V)) := by with_unfolding_all rfl
      show Q .non (upd (upd H8 x (.ins (cA K "Form") dx (putF "openings" (V.ref p) [("word", .str (fmN f)), ("own_kin", .str "s")]))) d (.dK (mxV (slK f))))
      rw [ef]
      have npx : p ≠ x := ne_of hp7 hx7 (by intro z; cases z)
      have npd : p ≠ d := ne_of hp7 hd7 (by intro z; cases z)
      have lst : (slots f).take (mxV (slK f)).length = slots f := List.take_of_length_le (by simp [mxV, slK])
      rw [lst] at pq7
      refine k _ (fun a o e => ?_) ⟨dx, p, qs, by rw [upd_ne ndx.symm, upd_same], by rw [upd_ne npd, upd_ne npx]; exact hp7, Paired.mapP pq7 fun s q z => ?_⟩
      · obtain ⟨a1, a2, a3⟩ := mk2_inv (sM6 _ _ e)
        rw [upd_ne a2, upd_ne a1]
        exact s7 _ _ a3
      · rw [upd_ne (ne_of z hd7 (by intro z; cases z)), upd_ne (ne_of z hx7 (by intro z; cases z))]
        exact z
end
end Jz
end
section
set_option maxHeartbeats 4000000
set_option pp.maxSteps 300
/-! sorts -/
namespace Jz
open PySem PySem.Spec PyProof.Rows L2 ClX StX PySem.W
def spSorts (C : Addr) : Sp := fun vs H Q _ => ∃ a as, vs = [.ref a] ∧ H a = some (.tup (rl as)) ∧ as ≠ [] ∧ (∀ c ∈ as, ∃ f, FormAt C H f c) ∧ ∀ H' l, Same H H' → H l = none → H' l = some (.lst [.str "s"]) → Q (.ref l) H'
def rsZ (z : Str) : Str := if z = "text" then "text" else "s"
section
variable {P : Program} {w : World} {K : PySem.W.Frag} {mg : Str → Option Value} {base : Heap}
abbrev sSorts : Stmt := top 18
abbrev nSorts : List Str := ["forms", "found", "form", "sort", "word", "takes"]
theorem sc_sorts : FnScope nSorts ["forms"] (defScope sSorts) := ⟨rfl, rfl, rfl, by decide +kernel, rfl, by decide +kernel, by decide +kernel⟩
theorem g_sorts (T : Tx K mg) : GF P w K mg base 1 "sorts_in" ["forms"] (spSorts (cA K "Form")) := by
  refine gf_of T.m_sorts_in T.d_sorts_in (fun _ _ _ _ _ _ us hl => match us, hl with | [_], _ => rfl) fun fd F => F.ok sc_sorts (fun vs H Q E h => ?_) (fun cdv A outer s H vs Q E hr h => ?_)
  · obtain ⟨a, as, rfl, _⟩ := h
    rfl
  · obtain ⟨a, as, rfl, ha, hne, hf, k⟩ := h
    refine ⟨_, PSs.nox <| pss_cons (ps_set (i := 1) sc_sorts.nd rfl (.inl rfl) (pe_lst pa_nil))
      (pss_cons (ps_for PassesOwn.never rfl (pi_tup (pv 0)) (pg_name (i := 2) sc_sorts.nd rfl (.inl rfl))
        (pss_one (ps_for PassesOwn.never rfl (pi_list (pe_op op_cat (pe_lst (pa_cons (pe_fld (pv 2) rfl) pa_nil))
          (pe_lc (own := [("word", 4), ("takes", 5)]) (g := gTup K 2 (gCons (gName 4) (gCons (gName 5) gNil))) (te := tM1 (fun x xs H Q => ∃ a b, x = .str a ∧ xs = [.str b] ∧ a.length ≤ sizeLine ∧ Q (.str (Txt.rstripChars a b)) H) (tVar 5) (tC (.str "*"))) (by rfl) sc_sorts.nd (pi_tup (pe_fld (pv 2) rfl))
            (blkOk_by (own := [("word", 4), ("takes", 5)]) (N := nSorts) (sc := defScope sSorts) (by decide +kernel))
            (fun _ _ _ _ _ => pg_tup rfl (pgs_cons (pg_name (i := 4) sc_sorts.nd rfl (.inl rfl)) (pgs_cons (pg_name (i := 5) sc_sorts.nd rfl (.inl rfl)) pgs_nil))) (fun _ _ _ _ _ => pts_nil)
            (fun _ _ _ _ _ => pe_m1 PySem.F.slot_str_rstrip PySem.F.type_str_rstrip mt_rstripChars (pv 5) pe_str)))) (pg_name (i := 3) sc_sorts.nd rfl (.inl rfl))
          (pss_one (ps_if (PW.pt (pw_and (pt_cmpR op_notIn_seq (pv 3) (pv 1) (by rfl)) (pw_and1 (pt_cmpR op_ne (pv 3) pe_str (nomark _)))))
            (pss_one (ps_expr (pe_app (pv 1) (pv 3)))) pss_nil)))))
      (pss_one (ps_ret (pv 1)))), ?_⟩
    refine ⟨Nat.zero_le _, fun fo hfo => ?_⟩
    refine ⟨_, rfl, a, rfl, ⟨_, SqT.of (same_new hfo _ _ _ ha)⟩, for_tup (xs := rl as) (fun i σ H' => ∃ v2 v3 v4 v5, σ = [some (.ref a), some (.ref fo), v2, v3, v4, v5] ∧ Acc H fo (if i = 0 then [] else [.str "s"]) H') ⟨_, _, _, _, rfl, Acc.start hfo⟩ (fun i σ H' _ ⟨_, _, _, _, _, A⟩ => SqT.of (A.1 _ _ ha)) ?_ ?_⟩
    · rintro i y σ H1 hy ⟨v2, v3, v4, v5, rfl, A⟩
      have hi := (List.getElem?_eq_some_iff.mp hy).1
      rw [List.length_map] at hi
      rw [List.getElem?_map, List.getElem?_eq_getElem hi] at hy
      obtain rfl := Option.some.inj hy
      obtain ⟨f, dx, op, qs, f1, f2, f3⟩ := hf _ (List.getElem_mem hi)
      generalize as[i] = c at *
      refine ⟨_, rfl, c, _, dx, _, _, rfl, A.1 _ _ f1, T.c_Form, T.a_Form_own_kin, (by with_unfolding_all rfl : _ = some (V.str "s")), by show 1 ≤ sizeLine; decide, fun l1 hl1 => ?_⟩
      have A1 := A.new (o := .lst [.str "s"]) hl1
      have el1 : (upd H1 l1 (.lst [.str "s"])) l1 = some (.lst [.str "s"]) := upd_same
      generalize upd H1 l1 (.lst [.str "s"]) = H2 at *
      refine ⟨_, rfl, c, _, dx, _, _, rfl, A1.1 _ _ f1, T.c_Form, T.a_Form_openings, (by with_unfolding_all rfl : _ = some (V.ref op)), op, rfl, ⟨_, SqT.of (A1.1 _ _ f2)⟩, fun D hD => lc_tup (xs := rl qs) (fun j H' => Acc H2 D (((slots f).take j).map fun s => V.str (rsZ s.2)) H') (Acc.start hD) (fun j H' _ A2 => SqT.of (A2.1 _ _ (A1.1 _ _ f2))) ?_ ?_⟩
      · rintro j y H3 hy A2
        have hj := (List.getElem?_eq_some_iff.mp hy).1
        rw [List.length_map] at hj
        rw [List.getElem?_map, List.getElem?_eq_getElem hj] at hy
        obtain rfl := Option.some.inj hy
        have hj2 : j < (slots f).length := by rw [paired_len f3]; exact hj
        have hq := paired_get f3 hj2 hj
        refine ⟨qs[j], _, rfl, SqT.of (A2.1 _ _ (A1.1 _ _ hq)), rfl, _, _, rfl, _, _, rfl, rfl, rfl, yes1 ⟨_, rfl, ⟨_, rfl⟩, _, _, rfl, rfl, ?_, _, A2.at', ?_, ?_⟩⟩
        · rcases (slots_ok f _ (List.getElem_mem hj2)).2 with e | e | e <;> rw [e] <;> decide +kernel
        · rw [List.length_map, List.length_take]
          have := slots_n f
          exact Nat.lt_of_le_of_lt (Nat.min_le_left _ _) (Nat.lt_of_lt_of_le (by omega : j < 2) (by decide))
        · have e : Txt.rstripChars (slots f)[j].2 "*" = rsZ (slots f)[j].2 := by
            rcases (slots_ok f _ (List.getElem_mem hj2)).2 with e | e | e <;> rw [e] <;> decide +kernel
          rw [e, ← List.take_append_getElem hj2, List.map_append]
          exact A2.push
      intro H3 A2
      have hl3 : H3 l1 = some (.lst [.str "s"]) := A2.1 _ _ el1
      refine ⟨l1, D, [.str "s"], _, rfl, rfl, hl3, A2.at', ?_, fun p hp => ?_⟩
      · rw [List.length_map, List.length_take]
        have := slots_n f
        exact Nat.le_trans (Nat.add_le_add_left (Nat.le_trans (Nat.min_le_right _ _) this) 1) (by decide)
      have A3 : Acc H fo (if i = 0 then [] else [.str "s"]) (upd H3 p (.lst ([.str "s"] ++ ((slots f).take (rl qs).length).map fun s => V.str (rsZ s.2)))) := (A1.same A2.1).new hp
      have hall : ∀ (j : Nat) y, ([V.str "s"] ++ ((slots f).take (rl qs).length).map fun s => V.str (rsZ s.2))[j]? = some y → (j = 0 ∧ y = .str "s") ∨ y = .str "s" ∨ y = .str "text" := fun j y hj => by
        match j, hj with
        | 0, hj => exact .inl ⟨rfl, (Option.some.inj hj).symm⟩
        | j + 1, hj =>
          have hj' : (((slots f).take (rl qs).length).map fun s => V.str (rsZ s.2))[j]? = some y := hj
          rw [List.getElem?_map] at hj'
          cases q : ((slots f).take (rl qs).length)[j]? with
          | none => rw [q] at hj'; cases hj'
          | some s =>
            rw [q] at hj'
            obtain rfl := Option.some.inj hj'
            right
            show V.str (rsZ s.2) = _ ∨ V.str (rsZ s.2) = _
            unfold rsZ
            split
            · exact .inr rfl
            · exact .inl rfl
      have ep : (upd H3 p (.lst ([.str "s"] ++ ((slots f).take (rl qs).length).map fun s => V.str (rsZ s.2)))) p = some (.lst ([.str "s"] ++ ((slots f).take (rl qs).length).map fun s => V.str (rsZ s.2))) := upd_same
      have npf : p ≠ fo := fun z => by rw [z, (A1.same A2.1).at'] at hp; cases hp
      generalize hxs : ([V.str "s"] ++ ((slots f).take (rl qs).length).map fun s => V.str (rsZ s.2)) = xs at *
      generalize upd H3 p (.lst xs) = H4 at *
      have hx0 : 0 < xs.length := by rw [← hxs]; simp
      refine ⟨p, rfl, ⟨_, SqL.of ep⟩, for_list (xs := xs) (fun j σ H' => ∃ v3 v4 v5, σ = [some (.ref a), some (.ref fo), some (.ref c), v3, v4, v5] ∧ Acc H fo (if i = 0 ∧ j = 0 then [] else [.str "s"]) H' ∧ H' p = some (.lst xs)) ⟨_, _, _, rfl, by
          by_cases z : i = 0
          · rw [if_pos z] at A3; rw [if_pos ⟨z, rfl⟩]; exact A3
          · rw [if_neg z] at A3; rw [if_neg (fun q => z q.1)]; exact A3, ep⟩ (fun j σ H' _ ⟨_, _, _, _, _, e⟩ => SqL.of e) ?_ ?_⟩
      · rintro j y σ H5 hy ⟨v3, v4, v5, rfl, A5, e5⟩
        by_cases h0 : i = 0 ∧ j = 0
        · rw [if_pos h0] at A5
          obtain ⟨rfl, rfl⟩ := h0
          have hy' : y = .str "s" := by
            rw [← hxs] at hy
            exact (Option.some.inj hy).symm
          subst hy'
          refine ⟨_, rfl, _, rfl, fo, _, rfl, .inl (SqL.of A5.at'), rfl, rfl, _, rfl, ifP (by decide +kernel) ⟨_, rfl, rfl, _, rfl, ifP (by decide +kernel) ?_⟩⟩
          refine ⟨_, rfl, .inl ⟨rfl, _, SqL.of A5.at'⟩, _, rfl, fo, _, _, rfl, rfl, A5.at', by show 0 < sizeLine; decide, _, _, _, rfl, A5.push, ?_⟩
          rw [upd_ne npf]; exact e5
        · rw [if_neg h0] at A5
          have fin : ∃ w3 w4 w5, [some (.ref a), some (.ref fo), some (.ref c), some y, v4, v5] = [some (.ref a), some (.ref fo), some (.ref c), w3, w4, w5] ∧ Acc H fo (if i = 0 ∧ j + 1 = 0 then [] else [.str "s"]) H5 ∧ H5 p = some (.lst xs) := ⟨_, _, _, rfl, by rw [if_neg (fun z => by cases z.2)]; exact A5, e5⟩
          rcases (show y = .str "s" ∨ y = .str "text" from (hall j y hy).elim (fun z => .inl z.2) id) with rfl | rfl
          · exact ⟨_, rfl, _, rfl, fo, _, rfl, .inl (SqL.of A5.at'), rfl, rfl, _, rfl, ifN (by decide +kernel) fin⟩
          · exact ⟨_, rfl, _, rfl, fo, _, rfl, .inl (SqL.of A5.at'), rfl, rfl, _, rfl, ifP (by decide +kernel) ⟨_, rfl, rfl, _, rfl, ifN (by decide +kernel) fin⟩⟩
      · rintro σ H5 ⟨v3, v4, v5, rfl, A5, e5⟩
        rw [if_neg (fun z => by omega)] at A5
        exact ⟨_, _, _, _, rfl, by rw [if_neg (Nat.succ_ne_zero i)]; exact A5⟩
    · rintro σ H1 ⟨v2, v3, v4, v5, rfl, A⟩
      have : (rl as).length ≠ 0 := by
        rw [List.length_map]
        intro z
        exact hne (List.length_eq_zero_iff.mp z)
      rw [if_neg this] at A
      exact ⟨_, rfl, k _ _ A.1 hfo A.at'⟩
end
end Jz
end
section
set_option maxHeartbeats 4000000
set_option pp.maxSteps 300
/-! Schema.__init__ -/
namespace Jz
open PySem PySem.Spec PyProof.Rows L2 ClX StX PySem.W
def allF : List Fm := [.seq, .pick, .loop, .pair, .full, .wrap, .set, .use, .letf, .leave, .again, .stop]
theorem dc_list {K : PySem.W.Frag} {a : Addr} {xs : List V} {g : TG} {tt : TT} {tk tv : TE} {vs : List Nat} {σ : L2.St} {H1 : Hp} {D : Addr} {Qd : Hp → Prop} (Pv : Nat → Hp → Prop) (h0 : Pv 0 (upd H1 D (.dK []))) (hl : ∀ i H, i ≤ xs.length → Pv i H → SqL K H a xs)
    (hs : ∀ i x H, xs[i]? = some x → Pv i H → g x (wipe σ vs) H fun σ2 H2 => wipe σ2 vs = wipe σ vs ∧ tt σ2 H2 fun b H3 =>
      if b = true then tk σ2 H3 fun y H4 => tv σ2 H4 fun z H5 => ∃ kvs k, y = L2.kV k ∧ H5 D = some (.dK kvs) ∧ kvs.length < sizeLine ∧ Pv (i + 1) (upd H5 D (.dK (putK kvs k z))) else Pv (i + 1) H3) (hd : ∀ H, Pv xs.length H → Qd H) :
    ∃ W : Nat → Nat → Hp → Prop, (∃ m, W 0 m (upd H1 D (.dK []))) ∧ ∀ i m H, W i m H →
      ((Itl K a).stop i H ∧ Qd H) ∨ ((Itl K a).go i H ∧ ∃ Nx : Hp → Prop, (∀ H', Nx H' → ∃ m', m' < m ∧ W (i + 1) m' H') ∧ ∀ x H', (Itl K a).yld i H x H' → g x (wipe σ vs) H' fun σ2 H2 => wipe σ2 vs = wipe σ vs ∧ tt σ2 H2 fun b H3 =>
        if b = true then tk σ2 H3 fun y H4 => tv σ2 H4 fun z H5 => ∃ kvs k, y = L2.kV k ∧ H5 D = some (.dK kvs) ∧ kvs.length < sizeLine ∧ Nx (upd H5 D (.dK (putK kvs k z))) else Nx H3) := by
  refine ⟨fun i m H => m = xs.length - i ∧ i ≤ xs.length ∧ Pv i H, ⟨xs.length, by simp, Nat.zero_le _, h0⟩, ?_⟩
  rintro i m H ⟨rfl, hi, p⟩
  have q := hl i H hi p
  by_cases hlt : i < xs.length
  · refine .inr ⟨⟨xs, xs[i], q, by simp [hlt]⟩, Pv (i + 1), fun H' p' => ⟨xs.length - (i + 1), by omega, rfl, hlt, p'⟩, fun x H' y => ?_⟩
    obtain ⟨e, y⟩ := y
    subst e
    exact hs i x _ (y xs q) p
  · have e : i = xs.length := by omega
    subst e
    exact .inl ⟨⟨xs, q, Nat.le_refl _⟩, hd H p⟩
theorem names_new : ∀ i : Fin 12, inV (V.str (fmN (allF[i.1]'i.2))) ((allF.take i.1).map fun f => V.str (fmN f)) = false := by decide +kernel
theorem names_raw : ∀ i : Fin 12, Txt.startswith (fmN (allF[i.1]'i.2)) "raw_" = false := by decide +kernel
theorem form_rm {C : Addr} {H : Hp} {D : Addr} {xs : List V} (h : H D = some (.lst xs)) {f : Fm} {x : Addr} (hf : FormAt C H f x) : FormAt C (rm H D) f x :=
  let ⟨dx, op, qs, h1, h2, h3⟩ := hf
  ⟨dx, op, qs, by rw [rm_ne (ne_of h1 h (by intro z; cases z))]; exact h1, by rw [rm_ne (ne_of h2 h (by intro z; cases z))]; exact h2, Paired.mapP h3 fun s q z => by rw [rm_ne (ne_of z h (by intro z; cases z))]; exact z⟩
theorem form_rmi {C CS : Addr} {H : Hp} {x dx : Addr} {fs : List (Str × V)} (h : H x = some (.ins CS dx fs)) (hn : ∀ (d : Addr) (v u w : V), HO.ins CS dx fs ≠ HO.ins C d [("word", v), ("own_kin", u), ("openings", w)]) {f : Fm} {c : Addr} (hf : FormAt C H f c) : FormAt C (rm H x) f c :=
  let ⟨d, op, qs, h1, h2, h3⟩ := hf
  ⟨d, op, qs, by rw [rm_ne (fun z => by rw [z, h] at h1; exact hn _ _ _ _ (Option.some.inj h1))]; exact h1, by rw [rm_ne (ne_of h2 h (by intro z; cases z))]; exact h2, Paired.mapP h3 fun s q z => by rw [rm_ne (ne_of z h (by intro z; cases z))]; exact z⟩
def all13 : List Fm := allF ++ [.raw]
def ixF : Fm → Nat
  | .seq => 0 | .pick => 1 | .loop => 2 | .pair => 3 | .full => 4 | .wrap => 5 | .set => 6 | .use => 7 | .letf => 8 | .leave => 9 | .again => 10 | .stop => 11 | .raw => 12
theorem all13_ix (f : Fm) : all13[ixF f]? = some f := by cases f <;> rfl
theorem all13_inj {i j : Nat} {f : Fm} (h1 : all13[i]? = some f) (h2 : all13[j]? = some f) : i = j :=
  (List.getElem?_inj (List.getElem?_eq_some_iff.mp h1).1 (by decide +kernel)).mp (h1.trans h2.symm)
def spSchB (K : PySem.W.Frag) : Sp := fun vs H Q _ => ∃ x dx a as, vs = [.ref x, .ref a] ∧ H x = some (.ins (cA K "Schema") dx []) ∧ H a = some (.tup (rl as)) ∧ Paired (FormAt (cA K "Form") (rm H x)) allF as ∧ ∀ H', Same (rm H x) H' → SchAt (cA K "Schema") (cA K "Form") H' x → Q .non H'
section
variable {P : Program} {w : World} {K : PySem.W.Frag} {mg : Str → Option Value} {base : Heap}
abbrev sSchI : Stmt := inC 19 1
abbrev pS : List Str := ["self"]
abbrev nSchI : List Str := ["self", "forms", "names", "spot", "form", "own", "sort", "raws"]
theorem sc_schI : FnScope nSchI (pS ++ [("forms" : Str)]) (defScope sSchI) := ⟨rfl, rfl, rfl, by decide +kernel, rfl, by decide +kernel, by decide +kernel⟩
def spSchI (K : PySem.W.Frag) : Sp := fun vs H Q E => ∃ ws rest, vs = ws ++ rest ∧ ws.length = pS.length ∧ rest.length ≤ sizeLine ∧ ∀ p, H p = none → spSchB K (ws ++ [V.ref p]) (upd H p (.tup rest)) Q E
theorem k_schema (T : Tx K mg) : FnR P w K mg base CX0 5 (He.ma K (cA K "Schema") "__init__") (spSchI K) := by
  obtain ⟨fd, F⟩ := T.d_Schema___init__
  obtain ⟨oc, od, dV, kV, doc, pm, an, cdv, ct, osl, rfl, lk, hcd, hD, hK⟩ := F.ex
  rcases hD with ⟨_, rfl⟩ | ⟨e, _⟩
  case inr => exact absurd rfl e
  refine fn_star (ps := pS) (pv := "forms") (sp := spSchB K) lk hcd sc_schI cxUp_none (bind_star1 (B := fun zs => bindArgs (PySem.W.fnOf "__init__" "Schema.__init__" (defArgs sSchI) (defBody sSchI) (defScope sSchI) .none kV doc pm an cdv ct) ⟨zs, []⟩) (p1 := "self") (pv := "forms") (fun _ => rfl) (fun _ _ _ => rfl)) fun A outer s H vs Q E hr h => ?_
  obtain ⟨x, dx, a, as, rfl, hx, ha, hf, k⟩ := h
  have hr1 : Room 1 _ := hr.mono (by decide)
  obtain ⟨um, ec⟩ := T.w_Schema_MAX_FORMS
  refine ⟨_, PSs.nox <| pss_cons (ps_fld (pv 0) (pv 1) rfl)
    (pss_cons (ps_set (i := 2) sc_schI.nd rfl (.inl rfl) (pe_lst pa_nil))
    (pss_cons (ps_for PassesOwn.never rfl (pi_enumT (by rfl) T.n_enumerate (pa_cons (pv 1) pa_nil)) (pg_tup rfl (pgs_cons (pg_name (i := 3) sc_schI.nd rfl (.inl rfl)) (pgs_cons (pg_name (i := 4) sc_schI.nd rfl (.inl rfl)) pgs_nil)))
      (pss_cons (ps_if (pt_not (pt_val (pe_isi T.n_isinstance (pv 4) (pe_own T.m_Form)))) (pss_one ps_never) pss_nil)
      (pss_cons (ps_if (PW.pt (pw_or (pt_cmpR op_in_seq (pe_fld (pv 4) rfl) (pv 2) (by rfl)) (pw_or1 (pt_val (pe_m1 PySem.F.slot_str_startswith PySem.F.type_str_startswith mt_startswith (pe_fld (pv 4) rfl) pe_str))))) (pss_one ps_never) pss_nil)
      (pss_one (ps_expr (pe_app (pv 2) (pe_fld (pv 4) rfl)))))))
    (pss_cons (ps_if (pt_not (pt_chain op_le op_le pe_int (pe_callB call_len_seq (by rfl) T.n_len PySem.boot_len (pa_cons (pv 1) pa_nil)) (pe_cval (pe_own T.m_Schema)))) (pss_one ps_never) pss_nil)
    (pss_cons (ps_setLc (i := 5) (own := [("form", 4)]) (g := gName 4) (te := tFld K (tVar 4) "own_kin") (by rfl) sc_schI.nd rfl rfl (sw_true rfl rfl rfl (by decide +kernel)) (pi_tup (pv 1))
        (blkOk_by (own := [("form", 4)]) (N := nSchI) (sc := defScope sSchI) (by decide +kernel)) (fun _ _ _ _ _ => pg_name (i := 4) sc_schI.nd rfl (Or.inl rfl)) (fun _ _ _ _ _ => pts_nil) (fun _ _ _ _ _ => pe_fld (pv 4) rfl))
    (pss_cons (ps_for PassesOwn.never rfl (pi_list (pe_g (g_sorts T) hr1 (pa_cons (pv 1) pa_nil))) (pg_name (i := 6) sc_schI.nd rfl (.inl rfl))
      (pss_one (ps_if (PW.pt (pw_or (pt_cmpR op_notIn_seq (pv 6) (pv 5) (by rfl)) (pw_or1 (pt_cmpR op_gt (pe_callB call_len_str (by rfl) T.n_len PySem.boot_len (pa_cons (pv 6) pa_nil)) pe_int (nomark _))))) (pss_one ps_never) pss_nil)))
    (pss_cons (ps_setLc (i := 7) (own := [("sort", 6)]) (g := gName 6) (te := tMakeNK (cA K "Form") ["text"] (spFormI (cA K "Form")) E0 (tCons (tOp (fun x y H Q => ∃ i j, x = .str i ∧ y = .str j ∧ i.length + j.length ≤ sizeLine ∧ Q (.str (i ++ j)) H) (tC (.str "raw_")) (tVar 6)) (tCons (tVar 6) tNil)) (tCons (tC (.str "text")) tNil)) (by rfl) sc_schI.nd rfl rfl (sw_true rfl rfl rfl (by decide +kernel)) (pi_list (pe_g (g_sorts T) hr1 (pa_cons (pv 1) pa_nil)))
        (blkOk_by (own := [("sort", 6)]) (N := nSchI) (sc := defScope sSchI) (by decide +kernel)) (fun _ _ _ _ _ => pg_name (i := 6) sc_schI.nd rfl (Or.inl rfl)) (fun _ _ _ _ _ => pts_nil)
        (fun _ _ _ _ _ => pe_makeNK T.k_Form (k_form T) hr (by rfl) T.m_Form pass0 (pa_cons (pe_op op_add_str pe_str (pv 6)) (pa_cons (pv 6) pa_nil)) (pk_cons pe_str pk_nil)))
    (pss_cons (ps_fld (pv 0) (pe_dc (own := [("form", 4)]) (g := gName 4) (tk := tFld K (tVar 4) "word") (tv := tVar 4) (by rfl) sc_schI.nd (pi_list (pe_lst (pa_star (pv 1) (pa_star (pv 7) pa_nil))))
        (blkOk_by (own := [("form", 4)]) (N := nSchI) (sc := defScope sSchI) (by decide +kernel)) (fun _ _ _ _ _ => pg_name (i := 4) sc_schI.nd rfl (Or.inl rfl)) (fun _ _ _ _ _ => pts_nil) (fun _ _ _ _ _ => pe_fld (pv 4) rfl) (fun _ _ _ _ _ => pv 4)) rfl)
    (pss_one (ps_fld (pv 0) (pe_callTy call_tuple_of (by rfl) T.n_tuple (by decide +kernel) (pa_cons (pe_g (g_sorts T) hr1 (pa_cons (pv 1) pa_nil)) pa_nil)) rfl))))))))), ?_⟩
  have A0 := At1.start hx
  have hB : (rm H x) a = some (.tup (rl as)) := by rw [rm_ne (ne_of ha hx (by intro z; cases z))]; exact ha
  have hlen : as.length = 12 := (paired_len hf).symm
  refine ⟨_, rfl, _, rfl, x, _, dx, _, rfl, hx, T.c_Schema, T.a_Schema_declared, by show 0 < 1000; decide, ?_⟩
  have A1 := A0.put (o' := .ins (cA K "Schema") dx (putF "declared" (.ref a) []))
  have e1 : putF "declared" (V.ref a) [] = ([("declared", .ref a)] : List (Str × V)) := by with_unfolding_all rfl
  rw [e1] at A1
  rw [e1]
  generalize upd H x _ = H1 at *
  refine ⟨Nat.zero_le _, fun nl hnl => ?_⟩
  have nB : (rm H x) nl = none := A1.1.free hnl
  have A2 := A1.new hnl (.lst [])
  have hn2 : (upd H1 nl (.lst [])) nl = some (.lst []) := upd_same
  generalize upd H1 nl (.lst []) = H2 at *
  refine ⟨_, rfl, a, _, rfl, SqT.of (A2.1 _ _ hB), for_enT (xs := rl as) (fun i σ H' => ∃ v3 v4, σ = [some (.ref x), some (.ref a), some (.ref nl), v3, v4, none, none, none] ∧ At1 (rm H x) x (.ins (cA K "Schema") dx [("declared", .ref a)]) H' ∧ H' nl = some (.lst ((allF.take i).map fun f => .str (fmN f)))) ⟨_, _, rfl, A2, hn2⟩ (fun i σ H' _ ⟨_, _, _, A, _⟩ => SqT.of (A.1 _ _ hB)) ?_ ?_⟩
  · rintro i y T1 σ H3 hy hT ⟨v3, v4, rfl, A3, hn3⟩
    have hi := (List.getElem?_eq_some_iff.mp hy).1
    rw [List.length_map] at hi
    rw [List.getElem?_map, List.getElem?_eq_getElem hi] at hy
    obtain rfl := Option.some.inj hy
    have hi2 : i < allF.length := by rw [hlen] at hi; exact hi
    obtain ⟨dxf, op, qs, f1, f2, f3⟩ := paired_get hf hi2 hi
    have ein : inV (V.str (fmN allF[i])) ((allF.take i).map fun f => V.str (fmN f)) = false := names_new ⟨i, hi2⟩
    have esw : Txt.startswith (fmN allF[i]) "raw_" = false := names_raw ⟨i, hi2⟩
    have A4 := A3.new hT (.tup [.int (i : Nat), .ref as[i]])
    have hn4 := same_new hT (.tup [.int (i : Nat), .ref as[i]]) _ _ hn3
    refine ⟨T1, _, rfl, SqT.of upd_same, rfl, _, _, rfl, _, _, rfl, rfl, ?_⟩
    generalize upd H3 T1 _ = H4 at *
    refine ⟨_, rfl, .ref as[i], .ref (cA K "Form"), _, _, true, rfl, .own _, T.i_Form (A4.1 _ _ f1), T.kit_Form_Form, true, rfl, iteF ?_⟩
    refine ⟨_, rfl, as[i], _, dxf, _, _, rfl, A4.1 _ _ f1, T.c_Form, T.a_Form_word, (by with_unfolding_all rfl : _ = some (V.str (fmN allF[i]))), _, rfl, nl, _, rfl, .inl (SqL.of hn4), rfl, ?_, _, rfl, ifN (by show ¬ (inV (V.str (fmN allF[i])) ((allF.take i).map fun f => V.str (fmN f))) = true; rw [ein]; exact Bool.false_ne_true) ?_⟩
    · rw [List.all_map, List.all_eq_true]; exact fun _ _ => rfl
    refine ⟨_, rfl, as[i], _, dxf, _, _, rfl, A4.1 _ _ f1, T.c_Form, T.a_Form_word, (by with_unfolding_all rfl : _ = some (V.str (fmN allF[i]))), ⟨_, rfl⟩, _, _, rfl, rfl, false, congrArg V.bl esw, iteF ?_⟩
    refine ⟨_, rfl, .inl ⟨rfl, _, SqL.of hn4⟩, _, rfl, as[i], _, dxf, _, _, rfl, A4.1 _ _ f1, T.c_Form, T.a_Form_word, (by with_unfolding_all rfl : _ = some (V.str (fmN allF[i]))), nl, _, _, rfl, rfl, hn4, ?_, _, _, rfl, ⟨fun b u e => ?_, A4.2.1, ?_⟩, ?_⟩
    · rw [List.length_map, List.length_take]; exact Nat.lt_of_le_of_lt (Nat.min_le_right _ _) (by decide)
    · rw [upd_ne (ne_of_none e nB)]; exact A4.1 _ _ e
    · rw [upd_ne (ne_of A4.2.2 hn4 (by intro z; cases z))]; exact A4.2.2
    · rw [upd_same, ← List.take_append_getElem hi2, List.map_append]; rfl
  rintro σ H3 ⟨v3, v4, rfl, A3, _⟩
  refine ⟨_, rfl, a, rl as, rfl, .inr (SqT.of (A3.1 _ _ hB)), ?_⟩
  have l12 : (rl as).length = 12 := by rw [List.length_map]; exact hlen
  rw [l12]
  refine ⟨_, _, rfl, rfl, _, rfl, ?_⟩
  refine ifP (by decide +kernel) ⟨_, _, _, _, rfl, T.r_Schema, ec, _, _, rfl, rfl, _, rfl, ?_⟩
  refine ifN (by decide +kernel) ?_
  -- own
  refine ⟨_, rfl, a, rfl, ⟨_, SqT.of (A3.1 _ _ hB)⟩, fun D hD => lc_tup (xs := rl as) (fun i H' => Acc H3 D (List.replicate i (.str "s")) H') (Acc.start hD) (fun i H' _ A => SqT.of (A.1 _ _ (A3.1 _ _ hB))) ?_ ?_⟩
  · rintro i y H4 hy A
    have hi := (List.getElem?_eq_some_iff.mp hy).1
    rw [List.length_map] at hi
    rw [List.getElem?_map, List.getElem?_eq_getElem hi] at hy
    obtain rfl := Option.some.inj hy
    have hi2 : i < allF.length := by rw [hlen] at hi; exact hi
    obtain ⟨dxf, op, qs, f1, f2, f3⟩ := paired_get hf hi2 hi
    refine ⟨rfl, yes1 ⟨_, rfl, as[i], _, dxf, _, _, rfl, A.1 _ _ (A3.1 _ _ f1), T.c_Form, T.a_Form_own_kin, (by with_unfolding_all rfl : _ = some (V.str "s")), _, A.at', ?_, ?_⟩⟩
    · rw [List.length_replicate]; exact Nat.lt_of_lt_of_le hi (by rw [hlen]; decide)
    · rw [show [V.str "s"] = List.replicate 1 (V.str "s") from rfl, List.replicate_append_replicate]
      exact A.push
  intro H4 AO
  rw [l12] at AO
  have A4 := A3.same AO.1
  have hD4 : H4 D = some (.lst (List.replicate 12 (.str "s"))) := AO.at'
  have hne : as ≠ [] := fun z => by rw [z] at hlen; cases hlen
  have hfA : ∀ {H' : Hp}, Same (rm H x) H' → ∀ c ∈ as, ∃ f, FormAt (cA K "Form") H' f c := fun s' c hc => by
    obtain ⟨i, hi, e⟩ := List.getElem_of_mem hc
    have hi2 : i < allF.length := by rw [hlen] at hi; exact hi
    exact ⟨_, by rw [← e]; exact (paired_get hf hi2 hi).mono s'⟩
  refine ⟨_, rfl, a, as, rfl, A4.1 _ _ hB, hne, hfA A4.1, fun H5 l s5 hl5 e5 => ⟨l, rfl, ⟨_, SqL.of e5⟩, for_list (xs := [.str "s"]) (fun i σ H' => ∃ v3 v4 v6, σ = [some (.ref x), some (.ref a), some (.ref nl), v3, v4, some (.ref D), v6, none] ∧ Same H5 H') ⟨_, _, _, rfl, same_rfl⟩ (fun i σ H' _ ⟨_, _, _, _, s'⟩ => SqL.of (s' _ _ e5)) ?_ ?_⟩⟩
  · rintro i y σ H6 hy ⟨v3, v4, v6, rfl, s6⟩
    have hy' : y = .str "s" := by
      match i, hy with
      | 0, hy => exact (Option.some.inj hy).symm
      | _ + 1, hy => cases hy
    subst hy'
    exact ⟨_, rfl, _, rfl, D, _, rfl, .inl (SqL.of (s6 _ _ (s5 _ _ hD4))), rfl, rfl, _, rfl, ifN (by decide +kernel) ⟨_, rfl, "s", rfl, by decide +kernel, _, _, rfl, rfl, _, rfl, ifN (by decide +kernel) ⟨_, _, _, rfl, s6⟩⟩⟩
  rintro σ H6 ⟨v3, v4, v6, rfl, s6⟩
  have A6 := (A4.same s5).same s6
  clear A4 A3 s5 s6 e5 hl5 hD4 AO
  -- raws
  refine ⟨_, rfl, a, as, rfl, A6.1 _ _ hB, hne, hfA A6.1, fun H7 l2 s7 hl7 e7 => ⟨l2, rfl, ⟨_, SqL.of e7⟩, fun D2 hD2 => ?_⟩⟩
  have A7 := A6.same s7
  refine lc_list (xs := [.str "s"]) (fun i H' => ∃ ys, ys.length = i ∧ Acc H7 D2 (rl ys) H' ∧ ∀ c ∈ ys, FormAt (cA K "Form") (rm H' D2) .raw c) ⟨[], rfl, Acc.start hD2, fun _ h => (nomatch h)⟩ (fun i H' _ ⟨_, _, A, _⟩ => SqL.of (A.1 _ _ e7)) ?_ ?_
  · rintro i y H8 hy ⟨ys, hys, A, hF⟩
    have hy' : i = 0 ∧ y = .str "s" := by
      match i, hy with
      | 0, hy => exact ⟨rfl, (Option.some.inj hy).symm⟩
      | _ + 1, hy => cases hy
    obtain ⟨rfl, rfl⟩ := hy'
    refine ⟨rfl, yes1 ⟨_, rfl, _, _, rfl, rfl, by decide +kernel, _, rfl, rfl, fun z dz hz hdz hnz => ⟨rfl, .inr (.inr (.inr (.inr (.inr (.inr (.inr rfl)))))), fun p hp => ?_⟩⟩⟩
    have npz : z ≠ p := fun q => by rw [← q, upd_same] at hp; cases hp
    have s8 : Same H8 (mk2 (upd (upd (upd H8 dz (.own z)) z (.ins (cA K "Form") dz [])) p (.dK (mxV (slK .raw)))) z p) := fun b u e => by
      have e2 : (upd (upd H8 dz (.own z)) z (.ins (cA K "Form") dz [])) b = some u := by rw [upd_ne (ne_of_none e hz), upd_ne (ne_of_none e hdz)]; exact e
      rw [mk2_at (ne_of_none e hz) (ne_of_none e2 hp), upd_ne (ne_of_none e2 hp)]
      exact e2
    refine ⟨z, dz, p, .raw, ?_, ?_, upd_same, fun H9 s9 hFz => ⟨rfl, ?_⟩⟩
    · have e : ("raw_" : Str) ++ "s" = fmN .raw := by decide +kernel
      exact congrArg (fun q => [V.ref z, V.str q, V.str "s", V.ref p]) e
    · rw [upd_ne npz]; exact upd_same
    have A9 := A.same (same_tr s8 s9)
    refine ⟨_, A9.at', ?_, ys ++ [z], ?_, ?_, fun c hc => ?_⟩
    · rw [List.length_map, hys]; decide
    · rw [List.length_append, hys]; rfl
    · unfold rl; rw [List.map_append]; exact A9.push
    · rcases List.mem_append.mp hc with hc | hc
      · exact (hF c hc).mono (same_tr (rm_mono (same_tr s8 s9)) rm_updx)
      · rw [List.mem_singleton.mp hc]
        exact (form_rm A9.at' hFz).mono rm_updx
  rintro H8 ⟨ys, hys, A, hF⟩
  have A8 := A7.same A.1
  have hlen13 : (as ++ ys).length = 13 := by rw [List.length_append, hlen, hys]; rfl
  have hform8 : Paired (FormAt (cA K "Form") H8) all13 (as ++ ys) := paired_app (Paired.mapP hf fun f c z => z.mono A8.1) (by
    match ys, hys, hF with
    | [c], _, hF => exact .cons ((hF c List.mem_cons_self).mono rm_same) .nil)
  have hcat : rl as ++ (rl ys ++ []) = rl (as ++ ys) := by unfold rl; rw [List.append_nil, List.map_append]
  refine ⟨_, rfl, a, _, rfl, .inl (SqT.of (A8.1 _ _ hB)), _, rfl, D2, _, rfl, .inr (SqL.of A.at'), ?_⟩
  refine ⟨by show (rl as ++ (rl ys ++ [])).length ≤ sizeLine; rw [hcat, List.length_map, hlen13]; decide, fun p hp => ?_⟩
  rw [hcat]
  have A9 := A8.new hp (.lst (rl (as ++ ys)))
  have hp9 : (upd H8 p (.lst (rl (as ++ ys)))) p = some (.lst (rl (as ++ ys))) := upd_same
  have hform9 := Paired.mapP hform8 fun f c z => z.mono (same_new hp (.lst (rl (as ++ ys))))
  generalize upd H8 p (.lst (rl (as ++ ys))) = H9 at *
  refine ⟨p, rfl, ⟨_, SqL.of hp9⟩, fun D3 hD3 => dc_list (xs := rl (as ++ ys)) (fun i H' => ∃ kvs, Same H9 H' ∧ H' D3 = some (.dK kvs) ∧ kvs.length ≤ i ∧ ∀ (j : Nat) f c, j < i → all13[j]? = some f → (as ++ ys)[j]? = some c → valV kvs (.inr (fmN f) : Key) = some (.ref c))
    ⟨[], same_new hD3 _, upd_same, Nat.le_refl 0, fun j _ _ h => absurd h (Nat.not_lt_zero j)⟩ (fun i H' _ ⟨_, s', _⟩ => SqL.of (s' _ _ hp9)) ?_ ?_⟩
  · rintro i y H10 hy ⟨kvs, s10, e10, hl10, hv⟩
    have hi := (List.getElem?_eq_some_iff.mp hy).1
    rw [List.length_map] at hi
    rw [List.getElem?_map, List.getElem?_eq_getElem hi] at hy
    obtain rfl := Option.some.inj hy
    have hi2 : i < all13.length := by rw [hlen13] at hi; exact hi
    obtain ⟨dxf, op, qs, f1, f2, f3⟩ := paired_get hform9 hi2 hi
    refine ⟨rfl, yes1 ⟨_, rfl, (as ++ ys)[i], _, dxf, _, _, rfl, s10 _ _ f1, T.c_Form, T.a_Form_word, (by with_unfolding_all rfl : _ = some (V.str (fmN all13[i]))), _, rfl, kvs, .inr (fmN all13[i]), rfl, e10, ?_, _, ?_, upd_same, Nat.le_trans (length_putK _ _ _) (Nat.succ_le_succ hl10), fun j f c hj hjf hjc => ?_⟩⟩
    · exact Nat.lt_of_le_of_lt hl10 (Nat.lt_of_lt_of_le hi (by rw [hlen13]; decide))
    · exact fun b u e => by rw [upd_ne (ne_of_none e hD3)]; exact s10 _ _ e
    · rw [valV_put]
      by_cases q : j = i
      · subst q
        rw [List.getElem?_eq_getElem hi2] at hjf
        rw [List.getElem?_eq_getElem hi] at hjc
        cases hjf
        cases hjc
        rw [if_pos rfl]
      · rw [if_neg]
        · exact hv j f c (by omega) hjf hjc
        · intro z
          have := fmN_inj (Sum.inr.inj z)
          rw [this] at hjf
          exact q (all13_inj hjf (List.getElem?_eq_getElem hi2))
  rintro H10 ⟨kvs, s10, e10, hl10, hv⟩
  have A10 := A9.same s10
  have hform10 := Paired.mapP hform9 fun f c z => z.mono s10
  refine ⟨_, rfl, x, _, dx, _, rfl, A10.2.2, T.c_Schema, T.a_Schema_by_word, by show 1 < 1000; decide, ?_⟩
  have A11 := A10.put (o' := .ins (cA K "Schema") dx (putF "by_word" (.ref D3) [("declared", .ref a)]))
  have e11 : putF "by_word" (V.ref D3) [("declared", .ref a)] = ([("declared", .ref a), ("by_word", .ref D3)] : List (Str × V)) := by with_unfolding_all rfl
  have nD3x : D3 ≠ x := ne_of e10 A10.2.2 (by intro z; cases z)
  have eD3 : (upd H10 x (.ins (cA K "Schema") dx (putF "by_word" (.ref D3) [("declared", .ref a)]))) D3 = some (.dK kvs) := by rw [upd_ne nD3x]; exact e10
  rw [e11] at A11 eD3
  rw [e11]
  have hf11 : ∀ f, ∃ c, valV kvs (.inr (fmN f) : Key) = some (.ref c) ∧ FormAt (cA K "Form") (rm H10 x) f c := fun f => by
    have i1 : ixF f < all13.length := (List.getElem?_eq_some_iff.mp (all13_ix f)).1
    have i2 : ixF f < (as ++ ys).length := by rw [hlen13]; exact i1
    have q := paired_get hform10 i1 i2
    have e1 : all13[ixF f] = f := (List.getElem?_eq_some_iff.mp (all13_ix f)).2
    rw [e1] at q
    refine ⟨_, hv (ixF f) f _ (by rw [List.length_map]; exact i2) (all13_ix f) (List.getElem?_eq_getElem i2), form_rmi A10.2.2 (fun _ _ _ _ z => by injection z with _ _ z; injection z with z; injection z with z; exact absurd z (by decide +kernel)) q⟩
  have hf11' : ∀ f, ∃ c, valV kvs (.inr (fmN f) : Key) = some (.ref c) ∧ FormAt (cA K "Form") (rm (upd H10 x (.ins (cA K "Schema") dx [("declared", .ref a), ("by_word", .ref D3)])) x) f c := fun f => let ⟨c, q1, q2⟩ := hf11 f; ⟨c, q1, q2.mono rm_updx⟩
  clear hf11 hform10 hform9 hform8
  generalize upd H10 x _ = H11 at *
  refine ⟨_, rfl, a, as, rfl, A11.1 _ _ hB, hne, hfA A11.1, fun H12 l3 s12 hl12 e12 => ⟨l3, _, rfl, .inl ⟨SqL.of e12, fun p2 hp2 => ?_⟩⟩⟩
  have s13 := same_tr s12 (same_new hp2 (.tup [.str "s"]))
  have A12 := A11.same s13
  have eD12 := s13 _ _ eD3
  have hf12 : ∀ f, ∃ c, valV kvs (.inr (fmN f) : Key) = some (.ref c) ∧ FormAt (cA K "Form") (rm (upd H12 p2 (.tup [.str "s"])) x) f c := fun f => let ⟨c, q1, q2⟩ := hf11' f; ⟨c, q1, q2.mono (rm_mono s13)⟩
  clear hf11'
  generalize upd H12 p2 (.tup [.str "s"]) = H13 at *
  refine ⟨_, rfl, x, _, dx, _, rfl, A12.2.2, T.c_Schema, T.a_Schema_kins, by show 2 < 1000; decide, ?_⟩
  have A13 := A12.put (o' := .ins (cA K "Schema") dx (putF "kins" (.ref p2) [("declared", .ref a), ("by_word", .ref D3)]))
  have e13 : putF "kins" (V.ref p2) [("declared", .ref a), ("by_word", .ref D3)] = ([("declared", .ref a), ("by_word", .ref D3), ("kins", .ref p2)] : List (Str × V)) := by with_unfolding_all rfl
  rw [e13] at A13
  rw [e13]
  refine k _ (fun b u e => ?_) ⟨dx, .ref a, .ref p2, D3, kvs, A13.2.2, by rw [upd_ne nD3x]; exact eD12, fun f => ?_⟩
  · have nb : b ≠ x := fun z => by rw [z, rm_x] at e; cases e
    exact A13.1 _ _ e
  · obtain ⟨c, q1, q2⟩ := hf12 f
    exact ⟨c, q1, (q2.mono rm_updx).mono rm_same⟩
end
end Jz
end
section
set_option maxHeartbeats 4000000
set_option pp.maxSteps 300
/-! the law's schema -/
namespace Jz
open PySem PySem.Spec PyProof.Rows L2 ClX StX PySem.W
def spFormOf (K : PySem.W.Frag) : Sp := fun vs H Q _ => ∃ f d, vs = [.ref (cA K "Form"), .str (fmN f), .str "s", .ref d] ∧ H d = some (.dK (mxV (slK f))) ∧ ∀ H' x, Same H H' → FormAt (cA K "Form") H' f x → Q (.ref x) H'
def spSchOf (K : PySem.W.Frag) : Sp := fun vs H Q _ => ∃ a as, vs = [.ref (cA K "Schema"), .ref a] ∧ H a = some (.tup (rl as)) ∧ Paired (FormAt (cA K "Form") H) allF as ∧ ∀ H' x, Same H H' → SchAt (cA K "Schema") (cA K "Form") H' x → Q (.ref x) H'
def spBase (K : PySem.W.Frag) : Sp := fun vs H Q _ => vs = [] ∧ ∀ H' x, Same H H' → SchAt (cA K "Schema") (cA K "Form") H' x → Q (.ref x) H'
def RwAt (H : Hp) (f : Fm) (q : Addr) : Prop := ∃ d, H q = some (.tup [.str (fmN f), .ref d]) ∧ H d = some (.dK (mxV (slK f)))
theorem RwAt.mono {H H' : Hp} (s : Same H H') {f : Fm} {q : Addr} (h : RwAt H f q) : RwAt H' f q := let ⟨d, h1, h2⟩ := h; ⟨d, s _ _ h1, s _ _ h2⟩
theorem rowL {H : Hp} {f : Fm} {w : Str} {d u : Addr} {kv : List (Key × V)} (hw : w = fmN f) (hk : kv = mxV (slK f)) (hd : H d = none) (hu : upd (upd H d (.dK [])) d (.dK kv) u = none) :
    RwAt (upd (upd (upd H d (.dK [])) d (.dK kv)) u (.tup [.str w, .ref d])) f u ∧ Same H (upd (upd (upd H d (.dK [])) d (.dK kv)) u (.tup [.str w, .ref d])) := by
  subst hw hk
  rw [upd_upd] at hu ⊢
  exact ⟨⟨d, upd_same, same_new hu _ _ _ upd_same⟩, same_tr (same_new hd _) (same_new hu _)⟩
theorem rowE {H : Hp} {f : Fm} {w : Str} {d u : Addr} (hw : w = fmN f) (hk : [] = mxV (slK f)) (hd : H d = none) (hu : upd H d (.dK []) u = none) :
    RwAt (upd (upd H d (.dK [])) u (.tup [.str w, .ref d])) f u ∧ Same H (upd (upd H d (.dK [])) u (.tup [.str w, .ref d])) := by
  subst hw
  exact ⟨⟨d, upd_same, by rw [← hk]; exact same_new hu _ _ _ upd_same⟩, same_tr (same_new hd _) (same_new hu _)⟩
section
variable {P : Program} {w : World} {K : PySem.W.Frag} {mg : Str → Option Value} {base : Heap}
abbrev sFormOf : Stmt := inC 17 2
theorem sc_formOf : FnScope ["cls", "name", "sort", "slots"] ["cls", "name", "sort", "slots"] (defScope sFormOf) := ⟨rfl, rfl, rfl, by decide +kernel, rfl, by decide +kernel, by decide +kernel⟩
theorem k_formOf (T : Tx K mg) : FnR P w K mg base CX0 5 (gA K "Form" "of" "classmethod") (spFormOf K) := by
  obtain ⟨fd, F⟩ := T.d_Form_of
  have bi := F.bindsN (ps := ["cls", "name", "sort", "slots"]) (fun _ _ _ _ _ _ us hl => match us, hl with | [_, _, _, _], _ => rfl)
  have ok : FnOk P w K mg base CX0 5 (gA K "Form" "of" "classmethod") fd ["cls", "name", "sort", "slots"] (spFormOf K) := by
    refine F.ok sc_formOf (fun vs H Q E h => ?_) (fun cdv A outer s H vs Q E hr h => ?_)
    · obtain ⟨f, d, rfl, _⟩ := h
      rfl
    · obtain ⟨f, d, rfl, hd, k⟩ := h
      refine ⟨_, PSs.nox <| pss_one (ps_ret (pe_makeDD (i := 0) T.k_Form (k_form T) hr rfl (.inl rfl) pass0 (pa_cons (pv 1) (pa_cons (pv 2) pa_nil)) (pv 3))), ?_⟩
      refine ⟨rfl, _, rfl, _, rfl, fun p hp => ⟨_, rfl, d, slK f, rfl, (ne_of_none hd hp).symm, upd_same, .inl (by rw [upd_ne (ne_of_none hd hp)]; exact hd), fun x dx hx hdx hne => ⟨rfl, slK_ok f, fun q hq => ?_⟩⟩⟩
      rw [upd_upd] at hx hdx hq ⊢
      have s1 := same_new hp (.dK (mxV (slK f)))
      generalize upd H p (.dK (mxV (slK f))) = H1 at *
      have nqx : x ≠ q := fun z => by rw [← z, upd_same] at hq; cases hq
      have s2 : Same H1 (mk2 (upd (upd (upd H1 dx (.own x)) x (.ins (cA K "Form") dx [])) q (.dK (mxV (slK f)))) x q) := fun b u e => by
        have e2 : (upd (upd H1 dx (.own x)) x (.ins (cA K "Form") dx [])) b = some u := by rw [upd_ne (ne_of_none e hx), upd_ne (ne_of_none e hdx)]; exact e
        rw [mk2_at (ne_of_none e hx) (ne_of_none e2 hq), upd_ne (ne_of_none e2 hq)]
        exact e2
      refine ⟨x, dx, q, f, rfl, ?_, upd_same, fun H' s' hF => ⟨rfl, k H' x (fun b u e => ?_) hF⟩⟩
      · rw [upd_ne nqx]; exact upd_same
      · have e3 := s2 _ _ (s1 _ _ e)
        exact s' _ _ e3
  exact (ok.raw bi .nil).imp fun vs H Q E h => by rw [List.append_nil]; exact h
abbrev sSchOf : Stmt := inC 19 2
theorem sc_schOf : FnScope ["cls", "forms"] ["cls", "forms"] (defScope sSchOf) := ⟨rfl, rfl, rfl, by decide +kernel, rfl, by decide +kernel, by decide +kernel⟩
theorem k_schOf (T : Tx K mg) : FnR P w K mg base CX0 7 (gA K "Schema" "of" "classmethod") (spSchOf K) := by
  obtain ⟨fd, F⟩ := T.d_Schema_of
  have bi := F.bindsN (ps := ["cls", "forms"]) (fun _ _ _ _ _ _ us hl => match us, hl with | [_, _], _ => rfl)
  have ok : FnOk P w K mg base CX0 7 (gA K "Schema" "of" "classmethod") fd ["cls", "forms"] (spSchOf K) := by
    refine F.ok sc_schOf (fun vs H Q E h => ?_) (fun cdv A outer s H vs Q E hr h => ?_)
    · obtain ⟨a, as, rfl, _⟩ := h
      rfl
    · obtain ⟨a, as, rfl, ha, hf, k⟩ := h
      refine ⟨_, PSs.nox <| pss_one (ps_ret (pe_makeStar (i := 0) T.k_Schema (k_schema T) hr rfl (.inl rfl) pass0 (pv 1))), ?_⟩
      have hlen : as.length = 12 := (paired_len hf).symm
      refine ⟨rfl, _, rfl, a, rl as, rfl, .inl (SqT.of ha), fun x dx hx hdx hne => ⟨[.ref x], rl as, rfl, rfl, by rw [List.length_map, hlen]; decide, fun p hp => ?_⟩⟩
      have nxp : x ≠ p := fun z => by rw [← z, upd_same] at hp; cases hp
      have s1 : Same H (rm (upd (upd (upd H dx (.own x)) x (.ins (cA K "Schema") dx [])) p (.tup (rl as))) x) := fun b u e => by
        have e2 : (upd (upd H dx (.own x)) x (.ins (cA K "Schema") dx [])) b = some u := by rw [upd_ne (ne_of_none e hx), upd_ne (ne_of_none e hdx)]; exact e
        rw [rm_ne (ne_of_none e hx), upd_ne (ne_of_none e2 hp)]
        exact e2
      refine ⟨x, dx, p, as, rfl, ?_, upd_same, Paired.mapP hf fun _ _ z => z.mono s1, fun H' s' hS => ⟨rfl, k H' x (same_tr s1 (same_tr s' same_rfl)) hS⟩⟩
      rw [upd_ne nxp]; exact upd_same
  exact (ok.raw bi .nil).imp fun vs H Q E h => by rw [List.append_nil]; exact h
abbrev sBase : Stmt := top 53
abbrev nBase : List Str := ["_law_rows", "_law_word", "_law_openings"]
theorem sc_base : FnScope nBase [] (defScope sBase) := ⟨rfl, rfl, rfl, by decide +kernel, rfl, by decide +kernel, by decide +kernel⟩
theorem g_base (T : Tx K mg) : GF P w K mg base 8 "_law_base" [] (spBase K) := by
  refine gf_of T.m__law_base T.d__law_base (fun _ _ _ _ _ _ us hl => match us, hl with | [], _ => rfl) fun fd F => F.ok sc_base (fun vs H Q E h => ?_) (fun cdv A outer s H vs Q E hr h => ?_)
  · obtain ⟨rfl, _⟩ := h
    rfl
  · obtain ⟨rfl, k⟩ := h
    have hr5 : Room 5 _ := hr.mono (by decide)
    refine ⟨_, PSs.nox <| (pss_cons (ps_set (i := 0) sc_base.nd rfl (.inl rfl) (pe_lst (pa_cons (pe_tup (pa_cons pe_str (pa_cons (pe_disp (pps_cons pe_str pe_str pps_nil) (by rfl) (by rfl) (fun z => by cases z) (by decide)) pa_nil))) (pa_cons (pe_tup (pa_cons pe_str (pa_cons (pe_disp (pps_cons pe_str pe_str pps_nil) (by rfl) (by rfl) (fun z => by cases z) (by decide)) pa_nil))) (pa_cons (pe_tup (pa_cons pe_str (pa_cons (pe_disp (pps_cons pe_str pe_str pps_nil) (by rfl) (by rfl) (fun z => by cases z) (by decide)) pa_nil))) pa_nil)))))
      (pss_cons (ps_set (i := 0) sc_base.nd rfl (.inl rfl) (pe_op op_cat (pv 0) (pe_lst (pa_cons (pe_tup (pa_cons pe_str (pa_cons (pe_disp (pps_cons pe_str pe_str (pps_cons pe_str pe_str pps_nil)) (by rfl) (by rfl) (fun z => by cases z) (by decide)) pa_nil))) (pa_cons (pe_tup (pa_cons pe_str (pa_cons (pe_disp (pps_cons pe_str pe_str (pps_cons pe_str pe_str pps_nil)) (by rfl) (by rfl) (fun z => by cases z) (by decide)) pa_nil))) pa_nil)))))
      (pss_cons (ps_set (i := 0) sc_base.nd rfl (.inl rfl) (pe_op op_cat (pv 0) (pe_lst (pa_cons (pe_tup (pa_cons pe_str (pa_cons (pe_disp (pps_cons pe_str pe_str (pps_cons pe_str pe_str pps_nil)) (by rfl) (by rfl) (fun z => by cases z) (by decide)) pa_nil))) (pa_cons (pe_tup (pa_cons pe_str (pa_cons (pe_disp (pps_cons pe_str pe_str pps_nil) (by rfl) (by rfl) (fun z => by cases z) (by decide)) pa_nil))) (pa_cons (pe_tup (pa_cons pe_str (pa_cons (pe_disp (pps_cons pe_str pe_str pps_nil) (by rfl) (by rfl) (fun z => by cases z) (by decide)) pa_nil))) pa_nil))))))
      (pss_cons (ps_set (i := 0) sc_base.nd rfl (.inl rfl) (pe_op op_cat (pv 0) (pe_lst (pa_cons (pe_tup (pa_cons pe_str (pa_cons (pe_disp (pps_cons pe_str pe_str (pps_cons pe_str pe_str pps_nil)) (by rfl) (by rfl) (fun z => by cases z) (by decide)) pa_nil))) (pa_cons (pe_tup (pa_cons pe_str (pa_cons pe_dnewK pa_nil))) (pa_cons (pe_tup (pa_cons pe_str (pa_cons pe_dnewK pa_nil))) (pa_cons (pe_tup (pa_cons pe_str (pa_cons pe_dnewK pa_nil))) pa_nil)))))))
      (pss_one (ps_ret (pe_cmeth (pe_own T.m_Schema) T.r_Schema T.q_Schema_of (k_schOf T) hr pass0 (pa_cons (pe_callTy call_tuple_of (by rfl) T.n_tuple (by decide +kernel) (pa_cons
        (pe_lc (own := [("_law_word", 1), ("_law_openings", 2)]) (g := gTup K 2 (gCons (gName 1) (gCons (gName 2) gNil))) (te := tCMeth (cA K "Form") (spFormOf K) E0 (tC (.ref (cA K "Form"))) (tCons (tVar 1) (tCons (tC (.str "s")) (tCons (tVar 2) tNil)))) (by rfl) sc_base.nd (pi_list (pv 0))
          (blkOk_by (own := [("_law_word", 1), ("_law_openings", 2)]) (N := nBase) (sc := defScope sBase) (by decide +kernel))
          (fun _ _ _ _ _ => pg_tup rfl (pgs_cons (pg_name (i := 1) sc_base.nd rfl (Or.inl rfl)) (pgs_cons (pg_name (i := 2) sc_base.nd rfl (Or.inl rfl)) pgs_nil))) (fun _ _ _ _ _ => pts_nil)
          (fun _ _ _ _ _ => pe_cmeth (pe_own T.m_Form) T.r_Form T.q_Form_of (k_formOf T) hr5 pass0 (pa_cons (pv 1) (pa_cons pe_str (pa_cons (pv 2) pa_nil))))) pa_nil)) pa_nil)))))))), ?_⟩
    refine fun d1 hd1 => ⟨upd_same, [((.inr "items" : Key), .str "s*")], rfl, by show 1 ≤ 15; decide, by show 2 ≤ sizeLine; decide, fun u1 hu1 => ?_⟩
    obtain ⟨R1, S1⟩ := rowL (f := .seq) (w := "Seq") (kv := mergeK [] [((.inr "items" : Key), .str "s*")]) rfl (by with_unfolding_all rfl) hd1 hu1
    generalize upd (upd (upd H d1 _) d1 _) u1 _ = H1 at *
    have P1 : Paired (RwAt H1) [.seq] [u1] := .cons R1 .nil
    have Z1 := S1
    clear S1 R1
    refine fun d2 hd2 => ⟨upd_same, [((.inr "items" : Key), .str "s*")], rfl, by show 1 ≤ 15; decide, by show 2 ≤ sizeLine; decide, fun u2 hu2 => ?_⟩
    obtain ⟨R2, S2⟩ := rowL (f := .pick) (w := "Pick") (kv := mergeK [] [((.inr "items" : Key), .str "s*")]) rfl (by with_unfolding_all rfl) hd2 hu2
    generalize upd (upd (upd H1 d2 _) d2 _) u2 _ = H2 at *
    have P2 := paired_snoc (Paired.mapP P1 fun _ _ z => z.mono S2) R2
    have Z2 := same_tr Z1 S2
    clear S2 R2 P1 Z1
    refine fun d3 hd3 => ⟨upd_same, [((.inr "items" : Key), .str "s*")], rfl, by show 1 ≤ 15; decide, by show 2 ≤ sizeLine; decide, fun u3 hu3 => ?_⟩
    obtain ⟨R3, S3⟩ := rowL (f := .loop) (w := "Loop") (kv := mergeK [] [((.inr "items" : Key), .str "s*")]) rfl (by with_unfolding_all rfl) hd3 hu3
    generalize upd (upd (upd H2 d3 _) d3 _) u3 _ = H3 at *
    have P3 := paired_snoc (Paired.mapP P2 fun _ _ z => z.mono S3) R3
    have Z3 := same_tr Z2 S3
    clear S3 R3 P2 Z2
    refine ⟨by show 3 ≤ sizeLine; decide, fun l0 hl0 => ?_⟩
    have e0 : (upd H3 l0 (.lst [.ref u1, .ref u2, .ref u3])) l0 = some (.lst [.ref u1, .ref u2, .ref u3]) := upd_same
    have P0 := Paired.mapP P3 fun _ _ z => z.mono (same_new hl0 (.lst [.ref u1, .ref u2, .ref u3]))
    have Z0 := same_tr Z3 (same_new hl0 (.lst [.ref u1, .ref u2, .ref u3]))
    clear P3 Z3
    generalize upd H3 l0 (.lst [.ref u1, .ref u2, .ref u3]) = K0 at *
    refine ⟨_, rfl, fun d4 hd4 => ⟨upd_same, [((.inr "one" : Key), .str "s"), ((.inr "two" : Key), .str "s")], rfl, by show 2 ≤ 15; decide, by show 2 ≤ sizeLine; decide, fun u4 hu4 => ?_⟩⟩
    obtain ⟨R4, S4⟩ := rowL (f := .pair) (w := "Pair") (kv := mergeK [] [((.inr "one" : Key), .str "s"), ((.inr "two" : Key), .str "s")]) rfl (by with_unfolding_all rfl) hd4 hu4
    generalize upd (upd (upd K0 d4 _) d4 _) u4 _ = H4 at *
    have P4 := paired_snoc (Paired.mapP P0 fun _ _ z => z.mono S4) R4
    have Z4 := same_tr Z0 S4
    have e0 := S4 _ _ e0
    clear S4 R4 P0 Z0
    refine fun d5 hd5 => ⟨upd_same, [((.inr "who" : Key), .str "text"), ((.inr "items" : Key), .str "s*")], rfl, by show 2 ≤ 15; decide, by show 2 ≤ sizeLine; decide, fun u5 hu5 => ?_⟩
    obtain ⟨R5, S5⟩ := rowL (f := .full) (w := "Full") (kv := mergeK [] [((.inr "who" : Key), .str "text"), ((.inr "items" : Key), .str "s*")]) rfl (by with_unfolding_all rfl) hd5 hu5
    generalize upd (upd (upd H4 d5 _) d5 _) u5 _ = H5 at *
    have P5 := paired_snoc (Paired.mapP P4 fun _ _ z => z.mono S5) R5
    have Z5 := same_tr Z4 S5
    have e0 := S5 _ _ e0
    clear S5 R5 P4 Z4
    refine ⟨by show 2 ≤ sizeLine; decide, fun m1 hm1 => ⟨l0, m1, [.ref u1, .ref u2, .ref u3], [.ref u4, .ref u5], rfl, rfl, same_new hm1 _ _ _ e0, upd_same, by show 5 ≤ sizeLine; decide, fun l1 hl1 => ?_⟩⟩
    have sN1 := same_tr (same_new hm1 (.lst [.ref u4, .ref u5])) (same_new hl1 (.lst ([.ref u1, .ref u2, .ref u3] ++ [.ref u4, .ref u5])))
    have e1 : (upd (upd H5 m1 (.lst [.ref u4, .ref u5])) l1 (.lst ([.ref u1, .ref u2, .ref u3] ++ [.ref u4, .ref u5]))) l1 = some (.lst ([.ref u1, .ref u2, .ref u3] ++ [.ref u4, .ref u5])) := upd_same
    have Q1 := Paired.mapP P5 fun _ _ z => z.mono sN1
    have Y1 := same_tr Z5 sN1
    clear P5 Z5
    have P101 := Q1
    have Z101 := Y1
    clear sN1 Q1 Y1 e0
    generalize hK1 : upd (upd H5 m1 (.lst [.ref u4, .ref u5])) l1 (.lst ([.ref u1, .ref u2, .ref u3] ++ [.ref u4, .ref u5])) = K1 at *
    have e1 : K1 l1 = some (.lst [.ref u1, .ref u2, .ref u3, .ref u4, .ref u5]) := e1
    refine ⟨_, rfl, fun d6 hd6 => ⟨upd_same, [((.inr "who" : Key), .str "text"), ((.inr "body" : Key), .str "s")], rfl, by show 2 ≤ 15; decide, by show 2 ≤ sizeLine; decide, fun u6 hu6 => ?_⟩⟩
    obtain ⟨R6, S6⟩ := rowL (f := .wrap) (w := "Wrap") (kv := mergeK [] [((.inr "who" : Key), .str "text"), ((.inr "body" : Key), .str "s")]) rfl (by with_unfolding_all rfl) hd6 hu6
    generalize upd (upd (upd K1 d6 _) d6 _) u6 _ = H6 at *
    have P6 := paired_snoc (Paired.mapP P101 fun _ _ z => z.mono S6) R6
    have Z6 := same_tr Z101 S6
    have e1 := S6 _ _ e1
    clear S6 R6 P101 Z101
    refine fun d7 hd7 => ⟨upd_same, [((.inr "who" : Key), .str "text")], rfl, by show 1 ≤ 15; decide, by show 2 ≤ sizeLine; decide, fun u7 hu7 => ?_⟩
    obtain ⟨R7, S7⟩ := rowL (f := .set) (w := "Set") (kv := mergeK [] [((.inr "who" : Key), .str "text")]) rfl (by with_unfolding_all rfl) hd7 hu7
    generalize upd (upd (upd H6 d7 _) d7 _) u7 _ = H7 at *
    have P7 := paired_snoc (Paired.mapP P6 fun _ _ z => z.mono S7) R7
    have Z7 := same_tr Z6 S7
    have e1 := S7 _ _ e1
    clear S7 R7 P6 Z6
    refine fun d8 hd8 => ⟨upd_same, [((.inr "who" : Key), .str "text")], rfl, by show 1 ≤ 15; decide, by show 2 ≤ sizeLine; decide, fun u8 hu8 => ?_⟩
    obtain ⟨R8, S8⟩ := rowL (f := .use) (w := "Use") (kv := mergeK [] [((.inr "who" : Key), .str "text")]) rfl (by with_unfolding_all rfl) hd8 hu8
    generalize upd (upd (upd H7 d8 _) d8 _) u8 _ = H8 at *
    have P8 := paired_snoc (Paired.mapP P7 fun _ _ z => z.mono S8) R8
    have Z8 := same_tr Z7 S8
    have e1 := S8 _ _ e1
    clear S8 R8 P7 Z7
    refine ⟨by show 3 ≤ sizeLine; decide, fun m2 hm2 => ⟨l1, m2, [.ref u1, .ref u2, .ref u3, .ref u4, .ref u5], [.ref u6, .ref u7, .ref u8], rfl, rfl, same_new hm2 _ _ _ e1, upd_same, by show 8 ≤ sizeLine; decide, fun l2 hl2 => ?_⟩⟩
    have sN2 := same_tr (same_new hm2 (.lst [.ref u6, .ref u7, .ref u8])) (same_new hl2 (.lst ([.ref u1, .ref u2, .ref u3, .ref u4, .ref u5] ++ [.ref u6, .ref u7, .ref u8])))
    have e2 : (upd (upd H8 m2 (.lst [.ref u6, .ref u7, .ref u8])) l2 (.lst ([.ref u1, .ref u2, .ref u3, .ref u4, .ref u5] ++ [.ref u6, .ref u7, .ref u8]))) l2 = some (.lst ([.ref u1, .ref u2, .ref u3, .ref u4, .ref u5] ++ [.ref u6, .ref u7, .ref u8])) := upd_same
    have Q2 := Paired.mapP P8 fun _ _ z => z.mono sN2
    have Y2 := same_tr Z8 sN2
    clear P8 Z8
    have P102 := Q2
    have Z102 := Y2
    clear sN2 Q2 Y2 e1
    generalize hK2 : upd (upd H8 m2 (.lst [.ref u6, .ref u7, .ref u8])) l2 (.lst ([.ref u1, .ref u2, .ref u3, .ref u4, .ref u5] ++ [.ref u6, .ref u7, .ref u8])) = K2 at *
    have e2 : K2 l2 = some (.lst [.ref u1, .ref u2, .ref u3, .ref u4, .ref u5, .ref u6, .ref u7, .ref u8]) := e2
    refine ⟨_, rfl, fun d9 hd9 => ⟨upd_same, [((.inr "what" : Key), .str "text"), ((.inr "who" : Key), .str "text")], rfl, by show 2 ≤ 15; decide, by show 2 ≤ sizeLine; decide, fun u9 hu9 => ?_⟩⟩
    obtain ⟨R9, S9⟩ := rowL (f := .letf) (w := "Let") (kv := mergeK [] [((.inr "what" : Key), .str "text"), ((.inr "who" : Key), .str "text")]) rfl (by with_unfolding_all rfl) hd9 hu9
    generalize upd (upd (upd K2 d9 _) d9 _) u9 _ = H9 at *
    have P9 := paired_snoc (Paired.mapP P102 fun _ _ z => z.mono S9) R9
    have Z9 := same_tr Z102 S9
    have e2 := S9 _ _ e2
    clear S9 R9 P102 Z102
    refine fun d10 hd10 => ⟨by show 2 ≤ sizeLine; decide, fun u10 hu10 => ?_⟩
    obtain ⟨R10, S10⟩ := rowE (f := .leave) (w := "Leave") rfl rfl hd10 hu10
    generalize upd (upd H9 d10 _) u10 _ = H10 at *
    have P10 := paired_snoc (Paired.mapP P9 fun _ _ z => z.mono S10) R10
    have Z10 := same_tr Z9 S10
    have e2 := S10 _ _ e2
    clear S10 R10 P9 Z9
    refine fun d11 hd11 => ⟨by show 2 ≤ sizeLine; decide, fun u11 hu11 => ?_⟩
    obtain ⟨R11, S11⟩ := rowE (f := .again) (w := "Again") rfl rfl hd11 hu11
    generalize upd (upd H10 d11 _) u11 _ = H11 at *
    have P11 := paired_snoc (Paired.mapP P10 fun _ _ z => z.mono S11) R11
    have Z11 := same_tr Z10 S11
    have e2 := S11 _ _ e2
    clear S11 R11 P10 Z10
    refine fun d12 hd12 => ⟨by show 2 ≤ sizeLine; decide, fun u12 hu12 => ?_⟩
    obtain ⟨R12, S12⟩ := rowE (f := .stop) (w := "Stop") rfl rfl hd12 hu12
    generalize upd (upd H11 d12 _) u12 _ = H12 at *
    have P12 := paired_snoc (Paired.mapP P11 fun _ _ z => z.mono S12) R12
    have Z12 := same_tr Z11 S12
    have e2 := S12 _ _ e2
    clear S12 R12 P11 Z11
    refine ⟨by show 4 ≤ sizeLine; decide, fun m3 hm3 => ⟨l2, m3, [.ref u1, .ref u2, .ref u3, .ref u4, .ref u5, .ref u6, .ref u7, .ref u8], [.ref u9, .ref u10, .ref u11, .ref u12], rfl, rfl, same_new hm3 _ _ _ e2, upd_same, by show 12 ≤ sizeLine; decide, fun l3 hl3 => ?_⟩⟩
    have sN3 := same_tr (same_new hm3 (.lst [.ref u9, .ref u10, .ref u11, .ref u12])) (same_new hl3 (.lst ([.ref u1, .ref u2, .ref u3, .ref u4, .ref u5, .ref u6, .ref u7, .ref u8] ++ [.ref u9, .ref u10, .ref u11, .ref u12])))
    have e3 : (upd (upd H12 m3 (.lst [.ref u9, .ref u10, .ref u11, .ref u12])) l3 (.lst ([.ref u1, .ref u2, .ref u3, .ref u4, .ref u5, .ref u6, .ref u7, .ref u8] ++ [.ref u9, .ref u10, .ref u11, .ref u12]))) l3 = some (.lst ([.ref u1, .ref u2, .ref u3, .ref u4, .ref u5, .ref u6, .ref u7, .ref u8] ++ [.ref u9, .ref u10, .ref u11, .ref u12])) := upd_same
    have Q3 := Paired.mapP P12 fun _ _ z => z.mono sN3
    have Y3 := same_tr Z12 sN3
    clear P12 Z12
    have P103 := Q3
    have Z103 := Y3
    clear sN3 Q3 Y3 e2
    generalize hK3 : upd (upd H12 m3 (.lst [.ref u9, .ref u10, .ref u11, .ref u12])) l3 (.lst ([.ref u1, .ref u2, .ref u3, .ref u4, .ref u5, .ref u6, .ref u7, .ref u8] ++ [.ref u9, .ref u10, .ref u11, .ref u12])) = K3 at *
    have e3 : K3 l3 = some (.lst [.ref u1, .ref u2, .ref u3, .ref u4, .ref u5, .ref u6, .ref u7, .ref u8, .ref u9, .ref u10, .ref u11, .ref u12]) := e3
    refine ⟨rfl, _, rfl, l3, rfl, ⟨_, SqL.of e3⟩, fun D hD => lc_list (xs := [.ref u1, .ref u2, .ref u3, .ref u4, .ref u5, .ref u6, .ref u7, .ref u8, .ref u9, .ref u10, .ref u11, .ref u12]) (fun i H' => ∃ as, Acc K3 D (rl as) H' ∧ Paired (FormAt (cA K "Form") (rm H' D)) (allF.take i) as) ⟨[], Acc.start hD, .nil⟩ (fun i H' _ ⟨_, A, _⟩ => SqL.of (A.1 _ _ e3)) ?_ ?_⟩
    · rintro i y H4 hy ⟨as, A, pf⟩
      have hi := (List.getElem?_eq_some_iff.mp hy).1
      have hi' : i < allF.length := hi
      have hy2 : (rl [u1, u2, u3, u4, u5, u6, u7, u8, u9, u10, u11, u12])[i]? = some y := hy
      rw [List.getElem?_map, List.getElem?_eq_getElem (show i < ([u1, u2, u3, u4, u5, u6, u7, u8, u9, u10, u11, u12] : List Addr).length from hi)] at hy2
      obtain rfl := Option.some.inj hy2
      have P104 : Paired (RwAt K3) allF [u1, u2, u3, u4, u5, u6, u7, u8, u9, u10, u11, u12] := P103
      have hrw := paired_get P104 (show i < allF.length from hi) (show i < ([u1, u2, u3, u4, u5, u6, u7, u8, u9, u10, u11, u12] : List Addr).length from hi)
      generalize ([u1, u2, u3, u4, u5, u6, u7, u8, u9, u10, u11, u12] : List Addr)[i] = u at *
      obtain ⟨d, h1, h2⟩ := hrw.mono A.1
      refine ⟨u, _, rfl, SqT.of h1, rfl, _, _, rfl, _, _, rfl, rfl, rfl, yes1 ⟨rfl, _, rfl, _, rfl, allF[i], d, rfl, h2, fun H5 x s5 hF => ?_⟩⟩
      have A5 := A.same s5
      refine ⟨_, A5.at', ?_, as ++ [x], ?_, ?_⟩
      · rw [List.length_map, ← paired_len pf, List.length_take]; exact Nat.lt_of_le_of_lt (Nat.min_le_right _ _) (by decide)
      · unfold rl; rw [List.map_append]; exact A5.push
      · rw [List.take_add_one, List.getElem?_eq_getElem hi']
        exact paired_snoc (Paired.mapP pf fun _ _ z => z.mono (same_tr (rm_mono s5) rm_updx)) ((form_rm A5.at' hF).mono rm_updx)
    rintro H4 ⟨as, A, pf⟩
    refine ⟨D, _, rfl, .inl ⟨SqL.of A.at', fun p hp => ⟨p, as, rfl, upd_same, ?_, fun H' x s' hS => k H' x (same_tr Z103 (same_tr A.1 (same_tr (same_new hp _) s'))) hS⟩⟩⟩
    have pf' : Paired (FormAt (cA K "Form") (rm H4 D)) allF as := pf
    exact Paired.mapP pf' fun _ _ z => z.mono (same_tr rm_same (same_new hp _))
end
end Jz
end
section
set_option maxHeartbeats 4000000
set_option pp.maxSteps 300
/-! the law -/
namespace Jz
open PySem PySem.Spec PyProof.Rows L2 ClX StX PySem.W
mutual
theorem stopped_size {P : Fm → Pd} : ∀ (t : Tr) (b : Bool), size (stopped P b t) ≤ size t
  | .node f x y ks, b => by
    by_cases c : (f = .leave ∨ f = .again) ∧ b = false
    · rw [stopped_yes c, size_eq, size_eq, List.map_nil, List.sum_nil]
      omega
    · rw [stopped_no c, size_eq, size_eq]
      exact Nat.succ_le_succ (stopped_sizes ks _)
theorem stopped_sizes {P : Fm → Pd} : ∀ (ks : List Tr) (b : Bool), ((ks.map fun k => stopped P b k).map size).sum ≤ (ks.map size).sum
  | [], _ => Nat.le_refl _
  | k :: r, b => by
    rw [List.map_cons, List.map_cons, List.map_cons, List.sum_cons, List.sum_cons]
    exact Nat.add_le_add (stopped_size k b) (stopped_sizes r b)
end
mutual
theorem stopped_height {P : Fm → Pd} : ∀ (t : Tr) (b : Bool), height (stopped P b t) ≤ height t
  | .node f x y ks, b => by
    by_cases c : (f = .leave ∨ f = .again) ∧ b = false
    · rw [stopped_yes c, height, height, heightL]
      omega
    · rw [stopped_no c, height, height]
      exact Nat.succ_le_succ (stopped_heights ks _)
theorem stopped_heights {P : Fm → Pd} : ∀ (ks : List Tr) (b : Bool), heightL (ks.map fun k => stopped P b k) ≤ heightL ks
  | [], _ => Nat.le_refl _
  | k :: r, b => by
    rw [List.map_cons, heightL, heightL]
    exact Nat.max_le.mpr ⟨Nat.le_trans (stopped_height k b) (Nat.le_max_left _ _), Nat.le_trans (stopped_heights r b) (Nat.le_max_right _ _)⟩
end
section
variable {H : Hp} {m g c : Addr} {b : Nat}
/-- what is no dict and no list stands beside the draws -/
theorem mk2_of {a : Addr} {o : HO} (t : Dst H m g c b) (e : H a = some o) (h1 : ∀ kv, o ≠ .dK kv) (h2 : ∀ xs, o ≠ .lst xs) : mk2 H m g a = some o := by
  obtain ⟨n, cs, gs, e1, _, _, e2, _⟩ := t.ex
  rw [mk2_at (fun z => by rw [z, e1] at e; exact h1 _ (Option.some.inj e).symm) (fun z => by rw [z, e2] at e; exact h2 _ (Option.some.inj e).symm)]
  exact e
theorem FormAt.mk2 {C : Addr} {f : Fm} {x : Addr} (t : Dst H m g c b) (h : FormAt C H f x) : FormAt C (mk2 H m g) f x :=
  let ⟨dx, op, qs, h1, h2, h3⟩ := h
  ⟨dx, op, qs, mk2_of t h1 (fun _ z => nomatch z) (fun _ z => nomatch z), mk2_of t h2 (fun _ z => nomatch z) (fun _ z => nomatch z), Paired.mapP h3 fun _ _ z => mk2_of t z (fun _ z => nomatch z) (fun _ z => nomatch z)⟩
theorem PlanAt.mk2 {C : Addr} {f : Fm} {p : Pd} {x : Addr} (t : Dst H m g c b) (h : PlanAt C H f p x) : PlanAt C (mk2 H m g) f p x :=
  let ⟨dx, h1⟩ := h
  ⟨dx, mk2_of t h1 (fun _ z => nomatch z) (fun _ z => nomatch z)⟩
theorem kvM_none (c g : Addr) (z : Int) (f : Fm) : valV (kvM c g z) (.inr (fmN f) : Key) = none := by
  cases f <;> with_unfolding_all rfl
theorem dk_ne {d : Addr} {kvs : List (Key × V)} (t : Dst H m g c b) (e : H d = some (.dK kvs)) (h : ∀ n : Int, kvs ≠ kvM c g n) : Jz.mk2 H m g d = some (.dK kvs) := by
  obtain ⟨n, cs, gs, e1, _, _, e2, _⟩ := t.ex
  rw [mk2_at (fun z => by rw [z, e1] at e; cases e; exact h n rfl) (fun z => by rw [z, e2] at e; cases e)]
  exact e
theorem SchAt.mk2 {CS CF x : Addr} (t : Dst H m g c b) (h : SchAt CS CF H x) : SchAt CS CF (mk2 H m g) x :=
  let ⟨dx, d, e, bb, kvs, h1, h2, h3⟩ := h
  ⟨dx, d, e, bb, kvs, mk2_of t h1 (fun _ z => nomatch z) (fun _ z => nomatch z), dk_ne t h2 (fun n z => by
    obtain ⟨fa, e1, _⟩ := h3 .seq
    rw [z, kvM_none] at e1
    cases e1), fun f => let ⟨fa, e1, e2⟩ := h3 f; ⟨fa, e1, e2.mk2 t⟩⟩
theorem FlwAt.mk2 {CW CS CF CP x : Addr} {P : Fm → Pd} (t : Dst H m g c b) (hP : Plain P) (h : FlwAt CW CS CF CP H P x) : FlwAt CW CS CF CP (mk2 H m g) P x :=
  let ⟨dx, s1, bb, cc, kvs, h1, h2, h3, h4⟩ := h
  ⟨dx, s1, bb, cc, kvs, mk2_of t h1 (fun _ z => nomatch z) (fun _ z => nomatch z), h2.mk2 t, dk_ne t h3 (fun n z => by
    obtain ⟨pa, e1, dx1, e2⟩ := h4 .seq
    obtain ⟨pb, e3, dx2, e4⟩ := h4 .loop
    rw [z, kvM_none] at e1 e3
    have e5 : pa = pb := by
      have := e1.symm.trans e3
      injection this
    rw [← e5, e2, hP.seq, hP.loop] at e4
    have e6 := Option.some.inj e4
    injection e6 with _ _ e7
    injection e7 with e8 _
    injection e8 with _ e9
    injection e9 with e10
    exact absurd e10 (by decide +kernel)), fun f => let ⟨pa, e1, e2⟩ := h4 f; ⟨pa, e1, e2.mk2 t⟩⟩
theorem mk2_sub : Same (mk2 H m g) H := fun a o e => (mk2_inv e).2.2
end
def spLaw (K : PySem.W.Frag) : Sp := fun vs H Q _ => ∃ (a : Addr) (ns : List Int), vs = [.ref a] ∧ SqL K H a (ns.map V.int) ∧ ns.length ≤ 63 ∧ ∀ H', Q (.bl true) H'
section
variable {P : Program} {w : World} {K : PySem.W.Frag} {mg : Str → Option Value} {base : Heap}
abbrev sLaw : Stmt := top 64
abbrev nLaw : List Str := ["_law_script", "_law_m", "_law_base_here", "_law_again", "_law_plans_so", "_law_flow_here", "_law_plant", "_law_behind", "_law_items", "_law_n"]
theorem sc_law : FnScope nLaw ["_law_script"] (defScope sLaw) := ⟨rfl, rfl, rfl, by decide +kernel, rfl, by decide +kernel, by decide +kernel⟩
theorem ok_law (T : Tx K mg) {fd : FuncData} (F : FunD K "law" "law" (defArgs sLaw) (defBody sLaw) (defScope sLaw) [] [] (cA K "law") fd) : FnOk P w K mg base CX0 21 (cA K "law") fd ["_law_script"] (spLaw K) := by
  refine F.ok sc_law (fun vs H Q E h => ?_) (fun cdv A outer s H vs Q E hr h => ?_)
  · obtain ⟨a, ns, rfl, _⟩ := h
    rfl
  · obtain ⟨a, ns, rfl, hS, hn, k⟩ := h
    have hr2 : Room 2 _ := hr.mono (by decide)
    have hr3 : Room 3 _ := hr.mono (by decide)
    have hr4 : Room 4 _ := hr.mono (by decide)
    have hr5 : Room 5 _ := hr.mono (by decide)
    have hr6 : Room 6 _ := hr.mono (by decide)
    have hr8 : Room 8 _ := hr.mono (by decide)
    have hr10 : Room (8 + 2) _ := hr.mono (by decide)
    have hr19 : Room 19 _ := hr.mono (by decide)
    refine ⟨_, PSs.nox <| pss_cons (ps_asg (pe_tup (pa_cons (pe_g (g_begun T) hr2 (pa_cons (pv 0) pa_nil)) (pa_cons (pe_g0 (g_base T) hr8) pa_nil))) (pg_tup rfl (pgs_cons (pg_name (i := 1) sc_law.nd rfl (.inr rfl)) (pgs_cons (pg_name (i := 2) sc_law.nd rfl (.inl rfl)) pgs_nil))))
      (pss_cons (ps_for PassesOwn.never rfl (pi_range1 (by rfl) T.n_range (pa_cons (pe_op op_add pe_int (pe_callB (call_min2 (by rfl)) (by rfl) T.n_min (by decide +kernel) (pa_cons pe_int (pa_cons (pe_op op_fdiv (pe_callB call_len_seq (by rfl) T.n_len PySem.boot_len (pa_cons (pv 0) pa_nil)) pe_int) pa_nil)))) pa_nil)) (pg_name (i := 3) sc_law.nd rfl (.inl rfl))
        (pss_cons (ps_set (i := 4) sc_law.nd rfl (.inl rfl) (pe_g (g_plans T) hr3 (pa_cons (pv 1) pa_nil)))
        (pss_cons (ps_par3 (i := 5) (j := 6) (l := 7) (by rfl) sc_law.nd rfl rfl rfl (by decide) (by decide) (by decide) rfl rfl rfl
          (pa_cons (pe_g (g_flow T) hr6 (pa_cons (pv 2) (pa_cons (pv 4) pa_nil))) (pa_cons (pe_g (g_prog T) hr5 (pa_cons (pv 1) (pa_cons pe_int pa_nil))) (pa_cons (pe_g (g_stmt1 T) hr4 (pa_cons (pv 1) (pa_cons pe_int pa_nil))) pa_nil))) (by rfl))
        (pss_cons (ps_if (pt_not (pt_val (pe_g (g_alike T) hr19 (pa_cons (pv 5) (pa_cons (pv 6) (pa_cons (pe_g (g_stop T 8) hr10 (pa_cons (pv 4) (pa_cons (pv 6) (pa_cons pe_bl pa_nil)))) pa_nil)))))) (pss_one (ps_ret pe_bl)) pss_nil)
        (pss_cons (ps_setLc (i := 8) (own := [("_law_n", 9)]) (g := gName 9) (te := tCall (spStmt 1) [] E0 (tCons (tVar 1) (tCons (tC (.int 1)) tNil))) (by rfl) sc_law.nd rfl rfl (sw_true rfl rfl rfl (by decide +kernel))
          (pi_range1 (by rfl) T.n_range (pa_cons (pe_g (g_draw T) hr2 (pa_cons (pv 1) (pa_cons pe_int pa_nil))) pa_nil))
          (blkOk_by (own := [("_law_n", 9)]) (N := nLaw) (sc := defScope sLaw) (by decide +kernel)) (fun _ _ _ _ _ => pg_name (i := 9) sc_law.nd rfl (Or.inl rfl)) (fun _ _ _ _ _ => pts_nil) (fun _ _ _ _ _ => pe_g (g_stmt1 T) hr4 (pa_cons (pv 1) (pa_cons pe_int pa_nil))))
        (pss_one (ps_if (pt_not (pt_val (pe_g (g_ends T) hr (pa_cons (pv 5) (pa_cons (pv 6) (pa_cons (pv 8) (pa_cons (pv 7) pa_nil))))))) (pss_one (ps_ret pe_bl)) pss_nil)))))))
      (pss_one (ps_ret pe_bl))), ?_⟩
    refine ⟨_, rfl, a, ns, rfl, hS, hn, fun H1 m g c s1 hm hg D1 => ⟨rfl, fun H2 bs s2 hB => ⟨by show 2 ≤ sizeLine; decide, fun t0 ht0 => ?_⟩⟩⟩
    have sD := same_tr s2 (same_new ht0 (.tup [.ref m, .ref bs]))
    have D2 := D1.same sD
    have hB2 := (hB.mono (same_new ht0 (.tup [.ref m, .ref bs]))).mk2 D2
    have hS2 := (same_tr s1 sD).seq hS
    have e0 : (upd H2 t0 (.tup [.ref m, .ref bs])) t0 = some (.tup [.ref m, .ref bs]) := upd_same
    generalize upd H2 t0 (.tup [.ref m, .ref bs]) = H3 at *
    refine ⟨t0, _, rfl, SqT.of e0, rfl, _, _, rfl, _, _, rfl, rfl, ?_⟩
    have hN : ∀ l : Nat, 0 ≤ 1 + (if (l : Int) / 8 < 1 then (l : Int) / 8 else 1) ∧ 1 + (if (l : Int) / 8 < 1 then (l : Int) / 8 else 1) ≤ 2 := fun l => by
      split <;> omega
    refine ⟨_, rfl, a, _, rfl, .inl hS2, _, _, rfl, rfl, ⟨by decide, by decide⟩, _, _, rfl, _, _, rfl, rfl, ?_⟩
    have hN2 := hN (ns.map V.int).length
    obtain ⟨N, hNe⟩ : ∃ N : Int, 1 + (if (((ns.map V.int).length : Nat) : Int) / 8 < 1 then (((ns.map V.int).length : Nat) : Int) / 8 else 1) = N := ⟨_, rfl⟩
    rw [hNe] at hN2
    have p62 : (1000 : Int) < 2 ^ 62 := by decide
    have n62 : (-(2 : Int) ^ 62) ≤ 0 := by decide
    refine ⟨N, congrArg (fun z => [V.int z]) hNe, by omega, by omega, for_range (lo := 0) (n := N.toNat) (fun i σ H' => ∃ v3 v4 v5 v6 v7 v8 v9, σ = [some (.ref a), some (.ref m), some (.ref bs), v3, v4, v5, v6, v7, v8, v9] ∧ Dst H' m g c (100 * i) ∧ SchAt (cA K "Schema") (cA K "Form") (mk2 H' m g) bs)
      ⟨_, _, _, _, _, _, _, rfl, D2, hB2⟩ ?_ ?_⟩
    · rintro i σ H1 hi ⟨v3, v4, v5, v6, v7, v8, v9, rfl, D1, hB1⟩
      have hi2 : i < 2 := by omega
      have hm1 := D1.dom.1
      have hg1 := D1.dom.2.1
      refine ⟨_, rfl, m, g, c, _, rfl, D1, by omega, fun H2 d pl S2 hpl hI => ?_⟩
      have hB2 := hB1.mono S2.s
      refine ⟨_, rfl, _, rfl, bs, d, pl, rfl, hB2.mono mk2_sub, hpl.mono nw_sub, hI.ok, fun H3 fx s3 hF => ?_⟩
      have S3 := (Stp.refl S2.t).same s3
      have hF3 := FlwAt.mk2 S3.t hI.p hF
      refine ⟨_, rfl, m, g, c, _, rfl, S3.t, by omega, fun H4 px pt S4 hp4 G4 => ?_⟩
      refine ⟨_, rfl, m, g, c, _, rfl, S4.t, by show 100 * i + 10 + 45 + 14 ≤ 1000; omega, fun H5 bx bt S5 hb5 G5 => ⟨_, _, _, rfl, ?_⟩⟩
      have S5 : Stp H4 H5 m g c (100 * i + 10 + 45 + 14) := S5
      have S25 := (S3.tr S4).tr S5
      have dm3 := S3.t.dom
      have F5 := (hF3.mono (same_tr S4.s S5.s)).mono mk2_sub
      have L5 := (hpl.mono (nw_stp hm1 hg1 S25)).mono nw_sub
      have p5 := hp4.mono (nw_stp dm3.1 dm3.2.1 S5)
      have b5 := hb5.mono (nw_dom S4.d)
      have P5 := p5.mono nw_sub
      have hB5 := hB2.mono S25.s
      have G5 : Gd 3 2 bt := G5
      have z1 := G4.z
      have z2 := G4.h
      have z3 := G5.z
      have z4 := G5.h
      -- alike
      refine ⟨_, rfl, _, rfl, _, rfl, _, rfl, d, px, false, pl, pt, rfl, L5, P5, by omega, by omega, fun H6 y s6 hy => ?_⟩
      have y1 := stopped_size (P := pl) pt false
      have y2 := stopped_height (P := pl) pt false
      refine ⟨fx, px, y, pl, pt, stopped pl false pt, rfl, F5.mono s6, hI.ok, P5.mono s6, hy.mono nw_sub, by omega, by omega, by omega, by omega, law_a hI.p G4.l, fun H7 s7 => ⟨true, rfl, iteF ?_⟩⟩
      have s67 := same_tr s6 s7
      have F7 := F5.mono s67
      have p7 := p5.mono (nw_same s67)
      have b7 := b5.mono (nw_same s67)
      have D7 := S5.t.same s67
      have hB7 := hB5.mono (mk2_same s67)
      clear hF3 hF L5 hpl hp4 hb5 hy F5 P5 p5 b5 hB5 hB2 S25 S2 S3 S4 S5 hB1
      -- items
      refine ⟨_, rfl, m, g, c, _, 3, rfl, D7, by omega, by decide, by decide, fun H8 r q1 q2 q3 r0 r1 => ?_⟩
      have S8 : Stp H7 H8 m g c (100 * i + 10 + 45 + 14 + 1) := ⟨q1, q2, q3⟩
      clear q1 q2 q3
      refine ⟨_, rfl, by omega, by omega, fun D hD => ?_⟩
      obtain ⟨B, hB⟩ : ∃ B, B = upd H8 D (.lst []) := ⟨_, rfl⟩
      have BD : B D ≠ none := by rw [hB, upd_same]; intro z; cases z
      have nD := S8.t.ne hD
      have SB : Stp H8 B m g c (100 * i + 10 + 45 + 14 + 1) := by rw [hB]; exact (Stp.refl S8.t).new hD _
      refine lc_range (lo := 0) (n := r.toNat) (fun j H' => ∃ ys ts, H' D = some (.lst (rl ys)) ∧ Stp H8 H' m g c (100 * i + 10 + 45 + 14 + 1 + 14 * j) ∧ Dm B H' ∧ Paired (PlAt (nw B H')) ts ys ∧ ts.length = j ∧ ∀ t ∈ ts, Gd 3 2 t) ⟨[], [], upd_same, (Stp.refl S8.t).new hD _, by rw [hB]; exact Dm.of same_rfl, .nil, rfl, fun _ h => nomatch h⟩ ?_ ?_
      · rintro j H9 hj ⟨ys, ts, hDl, S9, dB, pts, hl, hgd⟩
        have hj2 : j < 2 := by omega
        refine ⟨rfl, yes1 ⟨_, rfl, m, g, c, _, rfl, S9.t, by show 100 * i + 10 + 45 + 14 + 1 + 14 * j + 14 ≤ 1000; omega, fun H10 x1 t1 (S10 : Stp H9 H10 m g c (100 * i + 10 + 45 + 14 + 1 + 14 * j + 14)) p1 (g1 : Gd 3 2 t1) => ?_⟩⟩
        have hDl4 := S10.keep hDl nD.1 nD.2.1
        have S10' := S9.tr S10
        have up := nw_upd (H := H10) (o := .lst (rl ys ++ [.ref x1])) BD
        refine ⟨_, hDl4, ?_, ys ++ [x1], ts ++ [t1], ?_, ⟨?_, S10'.d.upd, ?_⟩, (dB.tr S10.d).upd, ?_, by rw [List.length_append, hl]; rfl, fun t ht' => ?_⟩
        · rw [List.length_map, ← paired_len pts, hl]; exact Nat.lt_of_lt_of_le hj2 (by decide)
        · rw [upd_same]; unfold rl; rw [List.map_append]; rfl
        · intro b o e
          obtain ⟨a1, a2, a3⟩ := mk2_inv e
          rw [mk2_at a1 a2, upd_ne (ne_of_none a3 hD)]
          exact S10'.keep a3 a1 a2
        · exact (S10'.t.upd nD.1 nD.2.1 nD.2.2).le (by omega)
        · exact paired_snoc (Paired.mapP pts fun _ _ z => PlAt.mono (same_tr (nw_stp SB.t.dom.1 SB.t.dom.2.1 S10) up) z) (p1.mono (same_tr (nw_dom dB) up))
        · rcases List.mem_append.mp ht' with h | h
          · exact hgd t h
          · rw [List.mem_singleton.mp h]; exact g1
      rintro H9 ⟨ys, ts, hDl, S9, dB, pts, hl, hgd⟩
      have S9' := S8.tr S9
      have F9 := ((FlwAt.mk2 D7 hI.p F7).mono S9'.s).mono mk2_sub
      have hB9 := hB7.mono S9'.s
      -- ends
      have x1 := sum_le (n := 3) (ts := ts) fun t ht => (hgd t ht).z
      have x2 := heightL_le (n := 2) (ts := ts) fun t ht => (hgd t ht).h
      have p9 := (p7.mono (nw_stp dm3.1 dm3.2.1 S9')).mono nw_sub
      have b9 := (b7.mono (nw_stp dm3.1 dm3.2.1 S9')).mono nw_sub
      refine ⟨_, rfl, _, rfl, _, rfl, _, rfl, fx, px, D, bx, pl, pt, ts, ys, bt, rfl, F9, hI.ok, hI.p, p9, hDl, Paired.mapP pts fun _ _ z => PlAt.mono nw_sub z, b9, by omega, by omega, by omega, by omega, by omega, by omega, fun H10 s10 => ⟨true, rfl, iteF ?_⟩⟩
      exact ⟨_, _, _, _, _, _, _, rfl, (S9.t.same s10).le (by omega), hB9.mono (mk2_same s10)⟩
    · rintro σ H1 ⟨v3, v4, v5, v6, v7, v8, v9, rfl, D1, hB1⟩
      exact k _
end
end Jz
end
set_option maxHeartbeats 0
/-! the end -/
namespace Jz
open PySem PySem.Spec PyProof.Rows L2
theorem facts {P : Program} {w : World} {K : PySem.W.Frag} {h : Heap} {mg : Str → Option Value} {f : Addr} (X : K.In h) (G : h.Ns mainGlobals mg) (hfa : mg ("law" : Str) = some (.ref f)) (c : obsQ K = valQ) :
    ∃ fd : FuncData, (∀ (s : Shared) (v : Value), BindsTo s fd ⟨[v], []⟩ [("_law_script", v)]) ∧ ∀ base : Heap, K.In base → base.Ns mainGlobals mg → FnOk P w K mg base CX0 21 f fd ["_law_script"] (spLaw K) := by
  have T : Tx K mg := ⟨⟨h, X, G⟩, c⟩
  obtain ⟨fd, F⟩ := T.d_law
  have e := hfa.symm.trans T.m_law
  cases e
  have b := FunD.bindsA (ps := ["_law_script"]) F fun _ _ _ _ _ _ us hl => match us, hl with | [_], _ => rfl
  exact ⟨fd, fun s v => b s [v] rfl, fun base _ _ => ok_law T F⟩
end Jz
open PySem PySem.W PySem.Calls PyProof.Rows
theorem PySem.Challenge.cw_ruleengine_k54_whole_jumps_written_other_holds : PySem.Challenge.rw_ruleengine_k54_whole_jumps_written_other.Holds := by
  w_on; o_law
  refine HandSHeadRun.head_any (r := OpenLaw.row PySem.Challenge.rw_ruleengine_k54_whole_jumps_written_other) (q := view (OpenLaw.row PySem.Challenge.rw_ruleengine_k54_whole_jumps_written_other).prog [64]) (H := Jz.hk) (ob := Jz.ob) (M := 9000) (loose := Jz.names) (d := HandSHeadRun.topDef (OpenLaw.row PySem.Challenge.rw_ruleengine_k54_whole_jumps_written_other).prog 64) (kwd := []) Jz.ob_eq
    (by kernel_rfl) (fun s => by kernel_rfl) Jz.run (by kernel_rfl) (by kernel_rfl) (by kernel_rfl) (by rfl) (by first | assumption | decide +kernel) (by decide +kernel) ⟨rfl, rfl, rfl, rfl, rfl, by decide +kernel⟩ ?hw ?hc
  case hw => w_witness2
  case hc =>
    refine L2.walk_ofE (l := PySem.Challenge.rw_ruleengine_k54_whole_jumps_written_other) (n := 63) (k := 21) (x := "_law_script") (CX := L2.CX0) rfl (by decide) (by kernel_rfl) ⟨rfl, by decide, by decide⟩ ?F (fun _ _ _ _ z => z)
    intro w mg fa h Y G hmg0
    obtain ⟨K, KX, c⟩ := Y
    have hmg : mg ("law" : PySem.Str) = some (.ref fa) := by
      have e : (HandSHeadRun.topDef (OpenLaw.row PySem.Challenge.rw_ruleengine_k54_whole_jumps_written_other).prog 64).name = ("law" : PySem.Str) := by kernel_rfl
      rw [← e]
      exact hmg0
    obtain ⟨fd, hb, hF⟩ := Jz.facts (P := (PySem.Challenge.rw_ruleengine_k54_whole_jumps_written_other).prog) (w := w) KX G hmg c
    exact ⟨K, fd, Jz.spLaw K, KX, hb, fun H a ns hl _ hS => ⟨a, ns, rfl, hS, hl, fun _ => rfl⟩, hF⟩
