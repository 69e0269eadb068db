import PyProof.Rows.All
import PyProof.P3Statements
import HandS.ForMost
import HandS.TupAny
import HandS.TupMul
import HandS.IsInst
import KE.KDictKeyed
import PySem.Challenge.RW_pedalrounds_k53_whole_ways
import HandS.Zip
import HandS.Star
import KE.KTupSum
import KE.GoesEnum
import KE.SortData
import KE.KDictDisplayH
import KE.KeyNested
import HandS.Style
import HandS.HeadHook3
import Wide.All
import OpenK.AllK
import Wide.FinOn
set_option Elab.async false
set_option linter.all false
section
set_option maxRecDepth 100000
set_option maxHeartbeats 4000000
/-! The mathematics of the law: tracks, presses, the search press by press. -/
namespace K53
open PySem

/-! ### tracks and presses -/
inductive Md where
  | empty | record | play | dub | stop
  deriving DecidableEq
structure Trk where
  m : Md
  ls : List (List Int)
  us : List (List Int)
  p : Int
  w : Int
  pc : Int
  s : Int
  mu : Bool
  deriving DecidableEq
def EMP : Trk := ⟨.empty, [], [], 0, 1, 2, 1, false⟩
inductive Pr where
  | clear | flip | join | mute | p1 | p2 | p4 | redo | stop | tap | turn | undo
  deriving DecidableEq
def prs : List Pr := [.clear, .flip, .join, .mute, .p1, .p2, .p4, .redo, .stop, .tap, .turn, .undo]
theorem mem_prs (p : Pr) : p ∈ prs := by cases p <;> decide
def Md.loops : Md → Bool
  | .play => true
  | .dub => true
  | .stop => true
  | _ => false
/-- play or stop -/
def Md.rests : Md → Bool
  | .play => true
  | .stop => true
  | _ => false
def addL (a b : List Int) : List Int := List.zipWith (fun x y => x + y) a b
def sumL (ls : List (List Int)) : List Int := ls.foldl addL (List.replicate (ls.headD []).length 0)
def closed (t : Trk) (m : Md) : Trk := if t.ls = [[]] then EMP else { t with m := m }
def tap (t : Trk) : Trk := match t.m with
  | .empty => { t with m := .record, ls := [[]] }
  | .record => closed t .play
  | .play => if t.ls.length = 4 then t else { t with m := .dub, ls := t.ls ++ [List.replicate (t.ls.headD []).length 0], us := [] }
  | .dub => { t with m := .play }
  | .stop => { t with m := .play }
def stp (t : Trk) : Trk := match t.m with
  | .empty => t
  | .record => closed t .stop
  | _ => { t with m := .stop, p := 0 }
def undo (t : Trk) : Trk := if t.m.loops = true ∧ 2 ≤ t.ls.length then
  { t with m := if t.m = .dub then .play else t.m, ls := t.ls.dropLast, us := t.us ++ t.ls.drop (t.ls.length - 1) } else t
def redo (t : Trk) : Trk := if t.m.rests = true ∧ t.us ≠ [] then
  { t with ls := t.ls ++ t.us.drop (t.us.length - 1), us := t.us.dropLast } else t
def join (t : Trk) : Trk := if t.m.rests = true ∧ 2 ≤ t.ls.length then { t with ls := [sumL t.ls], us := [] } else t
def turn (t : Trk) : Trk := if t.m.loops = true then { t with w := -t.w } else t
def flip (t : Trk) : Trk := if t.m.loops = true then { t with s := -t.s } else t
def mute (t : Trk) : Trk := if t.m.loops = true then { t with mu := !t.mu } else t
def pace (t : Trk) (k : Int) : Trk := if t.m.loops = true then { t with pc := k } else t
def step (t : Trk) : Pr → Trk
  | .clear => EMP
  | .flip => flip t
  | .join => join t
  | .mute => mute t
  | .p1 => pace t 1
  | .p2 => pace t 2
  | .p4 => pace t 4
  | .redo => redo t
  | .stop => stp t
  | .tap => tap t
  | .turn => turn t
  | .undo => undo t
def run (t : Trk) (ps : List Pr) : Trk := ps.foldl step t
theorem run_snoc (t : Trk) (ps : List Pr) (p : Pr) : run t (ps ++ [p]) = step (run t ps) p := by
  unfold run; rw [List.foldl_append]; rfl

/-! ### what a track is -/
structure LoopOk (t : Trk) (n : Nat) : Prop where
  n1 : 1 ≤ n
  n2 : n ≤ 64
  ll : ∀ l ∈ t.ls, l.length = n
  lu : ∀ l ∈ t.us, l.length = n
  ne : 1 ≤ t.ls.length
  le : t.ls.length + t.us.length ≤ 4
  p0 : 0 ≤ t.p
  p1 : t.p < 2 * (n : Int)
  st : t.m = .stop → t.p = 0
  db : t.m = .dub → t.us = [] ∧ 2 ≤ t.ls.length
  w : t.w = 1 ∨ t.w = -1
  pc : t.pc = 1 ∨ t.pc = 2 ∨ t.pc = 4
  s : t.s = 1 ∨ t.s = -1
def RecOk (t : Trk) : Prop := ∃ c : List Int, c.length ≤ 63 ∧ t = ⟨.record, [c], [], 0, 1, 2, 1, false⟩
def Ok (t : Trk) : Prop := match t.m with
  | .empty => t = EMP
  | .record => RecOk t
  | _ => ∃ n, LoopOk t n
theorem ok_emp : Ok EMP := rfl
theorem Ok.loop {t : Trk} (h : Ok t) (hm : t.m.loops = true) : ∃ n, LoopOk t n := by
  unfold Ok at h
  split at h
  · rename_i e; rw [e] at hm; cases hm
  · rename_i e; rw [e] at hm; cases hm
  · exact h
theorem ok_of_loop {t : Trk} {n : Nat} (hm : t.m.loops = true) (h : LoopOk t n) : Ok t := by
  unfold Ok
  split
  · rename_i e; rw [e] at hm; cases hm
  · rename_i e; rw [e] at hm; cases hm
  · exact ⟨n, h⟩
theorem Ok.not_loop {t : Trk} (h : Ok t) (hm : t.m.loops = false) : t = EMP ∨ RecOk t := by
  unfold Ok at h
  split at h
  · exact .inl h
  · exact .inr h
  · rename_i e1 e2
    exfalso
    revert hm
    cases hmm : t.m with
    | empty => exact absurd hmm e1
    | record => exact absurd hmm e2
    | play => intro z; cases z
    | dub => intro z; cases z
    | stop => intro z; cases z
theorem addL_length (a b : List Int) : (addL a b).length = min a.length b.length := by unfold addL; exact List.length_zipWith
theorem foldl_addL_length {n : Nat} : ∀ (ls : List (List Int)) (a : List Int), a.length = n → (∀ l ∈ ls, l.length = n) → (ls.foldl addL a).length = n
  | [], _, h, _ => h
  | l :: ls, a, h, hl => by
    show (ls.foldl addL (addL a l)).length = n
    refine foldl_addL_length ls _ ?_ fun x hx => hl x (List.mem_cons_of_mem _ hx)
    rw [addL_length, h, hl l List.mem_cons_self, Nat.min_self]
theorem headD_length {ls : List (List Int)} {n : Nat} (h1 : 1 ≤ ls.length) (h : ∀ l ∈ ls, l.length = n) : (ls.headD []).length = n := by
  cases ls with
  | nil => simp at h1
  | cons a r => exact h a List.mem_cons_self
theorem sumL_length {ls : List (List Int)} {n : Nat} (h1 : 1 ≤ ls.length) (h : ∀ l ∈ ls, l.length = n) : (sumL ls).length = n := by
  unfold sumL
  refine foldl_addL_length ls _ ?_ h
  rw [List.length_replicate, headD_length h1 h]
theorem rests_loops {m : Md} (h : m.rests = true) : m.loops = true := by cases m <;> first | rfl | cases h
theorem mem_drop {α : Type} {l : List α} {k : Nat} {x : α} (h : x ∈ l.drop k) : x ∈ l := (List.drop_sublist k l).subset h
theorem mem_dropLast {α : Type} {l : List α} {x : α} (h : x ∈ l.dropLast) : x ∈ l := (List.dropLast_sublist l).subset h

theorem ok_closed {t : Trk} (h : RecOk t) {m : Md} (hm : m = .play ∨ m = .stop) : Ok (closed t m) := by
  obtain ⟨c, hc, rfl⟩ := h
  unfold closed
  split
  · exact ok_emp
  · rename_i hne
    have hc0 : c ≠ [] := fun e => hne (by rw [e])
    have hl : 1 ≤ c.length := by
      cases c with
      | nil => exact absurd rfl hc0
      | cons a r => simp
    have L : LoopOk (⟨m, [c], [], 0, 1, 2, 1, false⟩ : Trk) c.length :=
      { n1 := hl, n2 := by omega, ll := fun l hl' => by simp at hl'; rw [hl'], lu := fun l hl' => by simp at hl', ne := by simp, le := by simp, p0 := by simp, p1 := by simp; omega
        st := fun _ => rfl, db := fun e => by rcases hm with z | z <;> (rw [z] at e; cases e), w := .inl rfl, pc := .inr (.inl rfl), s := .inl rfl }
    refine ok_of_loop (n := c.length) ?_ L
    rcases hm with z | z <;> rw [z] <;> rfl
theorem ok_step {t : Trk} (h : Ok t) (q : Pr) : Ok (step t q) := by
  by_cases hm : t.m.loops = true
  · obtain ⟨n, L⟩ := h.loop hm
    have mk : ∀ t' : Trk, t'.m.loops = true → LoopOk t' n → Ok t' := fun t' a b => ok_of_loop a b
    cases q with
    | clear => exact ok_emp
    | flip =>
      show Ok (flip t); unfold flip; rw [if_pos hm]
      exact mk _ hm { L with s := by rcases L.s with e | e <;> simp [e] }
    | mute =>
      show Ok (mute t); unfold mute; rw [if_pos hm]
      exact mk _ hm { L with }
    | turn =>
      show Ok (turn t); unfold turn; rw [if_pos hm]
      exact mk _ hm { L with w := by rcases L.w with e | e <;> simp [e] }
    | p1 => show Ok (pace t 1); unfold pace; rw [if_pos hm]; exact mk _ hm { L with pc := .inl rfl }
    | p2 => show Ok (pace t 2); unfold pace; rw [if_pos hm]; exact mk _ hm { L with pc := .inr (.inl rfl) }
    | p4 => show Ok (pace t 4); unfold pace; rw [if_pos hm]; exact mk _ hm { L with pc := .inr (.inr rfl) }
    | join =>
      show Ok (join t); unfold join
      split
      · rename_i c
        refine mk _ hm { L with ll := fun l hl => ?_, lu := fun l hl => ?_, ne := by simp, le := by simp, db := fun e => ?_ }
        · simp at hl; rw [hl]; exact sumL_length L.ne L.ll
        · simp at hl
        · have e' : t.m = .dub := e
          rw [e'] at c; cases c.1
      · exact h
    | redo =>
      show Ok (redo t); unfold redo
      split
      · rename_i c
        have hu : 1 ≤ t.us.length := by
          cases e : t.us with
          | nil => exact absurd e c.2
          | cons a r => simp
        have := L.le
        refine mk _ hm { L with ll := fun l hl => ?_, lu := fun l hl => L.lu l (mem_dropLast hl), ne := ?_, le := ?_, db := fun e => ?_ }
        · rcases List.mem_append.mp hl with z | z
          · exact L.ll l z
          · exact L.lu l (mem_drop z)
        · have := L.ne; simp; omega
        · simp; omega
        · have e' : t.m = .dub := e
          rw [e'] at c; cases c.1
      · exact h
    | undo =>
      show Ok (undo t); unfold undo
      split
      · rename_i c
        have := L.le
        have := c.2
        have hmm : (if t.m = .dub then Md.play else t.m).loops = true := by split <;> first | rfl | exact hm
        refine mk _ hmm { L with ll := fun l hl => L.ll l (mem_dropLast hl), lu := fun l hl => ?_, ne := ?_, le := ?_, st := fun e => ?_, db := fun e => ?_ }
        · rcases List.mem_append.mp hl with z | z
          · exact L.lu l z
          · exact L.ll l (mem_drop z)
        · simp; omega
        · simp; omega
        · refine L.st ?_
          have e' : (if t.m = .dub then Md.play else t.m) = .stop := e
          split at e'
          · cases e'
          · exact e'
        · exfalso
          have e' : (if t.m = .dub then Md.play else t.m) = .dub := e
          split at e'
          · cases e'
          · rename_i z; exact z e'
      · exact h
    | stop =>
      show Ok (stp t); unfold stp
      have L' : LoopOk { t with m := .stop, p := 0 } n := { L with p0 := by simp, p1 := by have := L.n1; simp; omega, st := fun _ => rfl, db := (fun e => nomatch e) }
      split
      · exact h
      · rename_i e; rw [e] at hm; cases hm
      · exact mk _ rfl L'
    | tap =>
      show Ok (tap t); unfold tap
      split
      · rename_i e; rw [e] at hm; cases hm
      · rename_i e; rw [e] at hm; cases hm
      · rename_i e
        split
        · exact h
        · rename_i hne
          have := L.le
          have h1 := L.ne
          refine mk _ rfl { L with ll := fun l hl => ?_, lu := fun l hl => by simp at hl, ne := by simp, le := ?_, st := (fun e => nomatch e), db := fun _ => ⟨rfl, ?_⟩ }
          · rcases List.mem_append.mp hl with z | z
            · exact L.ll l z
            · simp at z; rw [z, List.length_replicate]; simpa using headD_length L.ne L.ll
          · simp; omega
          · simp; omega
      · exact mk _ rfl { L with st := (fun e => nomatch e), db := (fun e => nomatch e) }
      · exact mk _ rfl { L with st := (fun e => nomatch e), db := (fun e => nomatch e) }
  · have hm' : t.m.loops = false := by cases e : t.m.loops with | true => exact absurd e hm | false => rfl
    rcases h.not_loop hm' with rfl | R
    · cases q <;> first | exact ok_emp | exact ⟨[], by simp, rfl⟩
    · have hR := R
      obtain ⟨c, hc, rfl⟩ := R
      cases q with
      | clear => exact ok_emp
      | tap => exact ok_closed hR (.inl rfl)
      | stop => exact ok_closed hR (.inr rfl)
      | _ => exact h
theorem ok_run {t : Trk} (h : Ok t) (ps : List Pr) : Ok (run t ps) := by
  induction ps generalizing t with
  | nil => exact h
  | cons p ps ih => exact ih (ok_step h p)
end K53
end
section
set_option maxRecDepth 100000
set_option maxHeartbeats 4000000
/-! The search press by press. -/
namespace K53
open PySem

abbrev Way := List Pr
abbrev Kn := List (Trk × Way)
def keys (kn : Kn) : List Trk := kn.map (·.1)
/-- what stands under a track -/
def look (kn : Kn) (t : Trk) : Option Way := match kn with
  | [] => none
  | (u, p) :: r => if u = t then some p else look r t
theorem look_some {t : Trk} {p : Way} : ∀ {kn : Kn}, look kn t = some p → (t, p) ∈ kn
  | [], h => by cases h
  | (u, q) :: r, h => by
    unfold look at h
    split at h
    · rename_i e; subst e; cases h; exact List.mem_cons_self
    · exact List.mem_cons_of_mem _ (look_some h)
theorem look_none {t : Trk} : ∀ {kn : Kn}, look kn t = none ↔ t ∉ keys kn
  | [] => by simp [look, keys]
  | (u, q) :: r => by
    have ih := look_none (t := t) (kn := r)
    unfold look
    by_cases e : u = t
    · rw [if_pos e]; simp [keys, e]
    · rw [if_neg e, ih]
      have e' : ¬ t = u := fun z => e z.symm
      simp [keys, e']
theorem look_of_mem {t : Trk} {p : Way} : ∀ {kn : Kn}, (keys kn).Nodup → (t, p) ∈ kn → look kn t = some p
  | [], _, h => by cases h
  | (u, q) :: r, hn, h => by
    have hn' : u ∉ keys r ∧ (keys r).Nodup := List.nodup_cons.mp hn
    unfold look
    rcases List.mem_cons.mp h with e | e
    · cases e; rw [if_pos rfl]
    · have hne : u ≠ t := fun z => hn'.1 (by rw [z]; exact List.mem_map.mpr ⟨(t, p), e, rfl⟩)
      rw [if_neg hne]
      exact look_of_mem hn'.2 e
theorem look_isSome {t : Trk} {kn : Kn} (h : t ∈ keys kn) : ∃ p, look kn t = some p := by
  cases e : look kn t with
  | some p => exact ⟨p, rfl⟩
  | none => exact absurd h (look_none.mp e)
theorem look_append {t : Trk} {a b : Kn} : look (a ++ b) t = (look a t).or (look b t) := by
  induction a with
  | nil => rfl
  | cons x r ih =>
    obtain ⟨u, p⟩ := x
    show (if u = t then some p else look (r ++ b) t) = (if u = t then some p else look r t).or (look b t)
    split
    · rfl
    · exact ih

/-! ### one press, one track, one layer -/
abbrev Sb := Kn × Kn
def visit (st : Sb) (here : Trk) (way : Way) (p : Pr) : Sb :=
  if step here p ∈ keys st.1 then st else (st.1 ++ [(step here p, way ++ [p])], st.2 ++ [(step here p, way ++ [p])])
def expand (st : Sb) (x : Trk × Way) (ps : List Pr) : Sb := ps.foldl (fun s p => visit s x.1 x.2 p) st
def layered (st : Sb) (l : Kn) : Sb := l.foldl (fun s x => expand s x prs) st
def bfs (t0 : Trk) : Nat → Sb
  | 0 => ([(t0, [])], [(t0, [])])
  | n + 1 => layered ((bfs t0 n).1, []) (bfs t0 n).2

/-- what holds from press to press: kn0 what was known ahead of the layer -/
structure Mid (t0 : Trk) (d : Nat) (kn0 : Kn) (st : Sb) : Prop where
  split : st.1 = kn0 ++ st.2
  nodup : (keys st.1).Nodup
  leads : ∀ x ∈ st.1, run t0 x.2 = x.1
  len : ∀ x ∈ st.2, x.2.length = d + 1
theorem keys_append (a b : Kn) : keys (a ++ b) = keys a ++ keys b := by unfold keys; exact List.map_append
theorem nodup_snoc {α : Type} {l : List α} {x : α} (h : l.Nodup) (hx : x ∉ l) : (l ++ [x]).Nodup := by
  rw [List.nodup_append]
  refine ⟨h, by simp, fun a ha b hb => ?_⟩
  have e : b = x := by simpa using hb
  subst e
  exact fun z => hx (z ▸ ha)
theorem Mid.visit {t0 : Trk} {d : Nat} {kn0 : Kn} {st : Sb} (M : Mid t0 d kn0 st) {here : Trk} {way : Way} (hl : run t0 way = here) (hw : way.length = d) (p : Pr) : Mid t0 d kn0 (visit st here way p) := by
  unfold K53.visit
  split
  · exact M
  · rename_i hn
    refine ⟨by rw [M.split, List.append_assoc], ?_, fun x hx => ?_, fun x hx => ?_⟩
    · rw [keys_append]; exact nodup_snoc M.nodup hn
    · rcases List.mem_append.mp hx with z | z
      · exact M.leads x z
      · have e : x = (step here p, way ++ [p]) := by simpa using z
        rw [e]
        show run t0 (way ++ [p]) = step here p
        rw [run_snoc, hl]
    · rcases List.mem_append.mp hx with z | z
      · exact M.len x z
      · have e : x = (step here p, way ++ [p]) := by simpa using z
        rw [e]
        show (way ++ [p]).length = d + 1
        rw [List.length_append, hw]; rfl
theorem Mid.expand {t0 : Trk} {d : Nat} {kn0 : Kn} {x : Trk × Way} (hl : run t0 x.2 = x.1) (hw : x.2.length = d) : ∀ (ps : List Pr) {st : Sb}, Mid t0 d kn0 st → Mid t0 d kn0 (expand st x ps)
  | [], _, M => M
  | p :: ps, _, M => Mid.expand hl hw ps (M.visit hl hw p)
theorem layered_nil (st : Sb) : layered st [] = st := rfl
theorem layered_cons (st : Sb) (x : Trk × Way) (l : Kn) : layered st (x :: l) = layered (K53.expand st x prs) l := by unfold layered; rw [List.foldl_cons]
theorem Mid.layered {t0 : Trk} {d : Nat} {kn0 : Kn} : ∀ (l : Kn) {st : Sb}, (∀ x ∈ l, run t0 x.2 = x.1 ∧ x.2.length = d) → Mid t0 d kn0 st → Mid t0 d kn0 (layered st l)
  | [], _, _, M => M
  | x :: l, st, h, M => by
    rw [layered_cons]
    have M2 : Mid t0 d kn0 (K53.expand st x prs) := Mid.expand (h x List.mem_cons_self).1 (h x List.mem_cons_self).2 prs M
    exact Mid.layered l (fun y hy => h y (List.mem_cons_of_mem _ hy)) M2
theorem visit_sub {st : Sb} {here : Trk} {way : Way} {p : Pr} : ∀ x ∈ st.1, x ∈ (visit st here way p).1 := fun x hx => by
  unfold visit
  split
  · exact hx
  · exact List.mem_append_left _ hx
theorem visit_has (st : Sb) (here : Trk) (way : Way) (p : Pr) : step here p ∈ keys (visit st here way p).1 := by
  unfold visit
  split
  · rename_i h; exact h
  · rw [keys_append]; exact List.mem_append_right _ (by simp [keys])
theorem expand_sub {x : Trk × Way} : ∀ (ps : List Pr) {st : Sb}, ∀ y ∈ st.1, y ∈ (expand st x ps).1
  | [], _, _, h => h
  | p :: ps, st, y, h => expand_sub ps y (visit_sub (p := p) y h)
theorem expand_has {x : Trk × Way} : ∀ (ps : List Pr) {st : Sb} (p : Pr), p ∈ ps → step x.1 p ∈ keys (expand st x ps).1
  | q :: ps, st, p, h => by
    rcases List.mem_cons.mp h with e | e
    · subst e
      have h1 := visit_has st x.1 x.2 p
      obtain ⟨y, hy, ey⟩ := List.mem_map.mp h1
      exact List.mem_map.mpr ⟨y, expand_sub ps y hy, ey⟩
    · exact expand_has ps p e
theorem layered_sub : ∀ (l : Kn) {st : Sb}, ∀ y ∈ st.1, y ∈ (layered st l).1
  | [], _, _, h => h
  | x :: l, st, y, h => by
    rw [layered_cons]
    have h2 : y ∈ (K53.expand st x prs).1 := expand_sub prs y h
    exact layered_sub l y h2
theorem layered_has : ∀ (l : Kn) {st : Sb} (x : Trk × Way), x ∈ l → ∀ p, step x.1 p ∈ keys (layered st l).1
  | z :: l, st, x, h, p => by
    rw [layered_cons]
    rcases List.mem_cons.mp h with e | e
    · subst e
      obtain ⟨y, hy, ey⟩ := List.mem_map.mp (expand_has (st := st) (x := x) prs p (mem_prs p))
      exact List.mem_map.mpr ⟨y, layered_sub l y hy, ey⟩
    · exact layered_has l x e p

/-! ### layer by layer -/
structure Lay (t0 : Trk) (d : Nat) : Prop where
  nodup : (keys (bfs t0 d).1).Nodup
  leads : ∀ x ∈ (bfs t0 d).1, run t0 x.2 = x.1
  len : ∀ x ∈ (bfs t0 d).2, x.2.length = d
  sub : ∀ x ∈ (bfs t0 d).2, x ∈ (bfs t0 d).1
theorem lay_mid {t0 : Trk} {d : Nat} (L : Lay t0 d) : Mid t0 d (bfs t0 d).1 ((bfs t0 d).1, []) :=
  ⟨by simp, L.nodup, L.leads, fun x hx => by cases hx⟩
theorem lay_ins {t0 : Trk} {d : Nat} (L : Lay t0 d) : ∀ x ∈ (bfs t0 d).2, run t0 x.2 = x.1 ∧ x.2.length = d := fun x hx => ⟨L.leads x (L.sub x hx), L.len x hx⟩
theorem lay_next {t0 : Trk} {d : Nat} (L : Lay t0 d) : Mid t0 d (bfs t0 d).1 (bfs t0 (d + 1)) := Mid.layered _ (lay_ins L) (lay_mid L)
theorem lay (t0 : Trk) : ∀ d, Lay t0 d
  | 0 => ⟨by simp [bfs, keys], fun x hx => by
      have e : x = (t0, []) := by simpa [bfs] using hx
      rw [e]; rfl, fun x hx => by
      have e : x = (t0, []) := by simpa [bfs] using hx
      rw [e]; rfl, fun x hx => hx⟩
  | d + 1 => by
    have M := lay_next (lay t0 d)
    exact ⟨M.nodup, M.leads, M.len, fun x hx => by rw [M.split]; exact List.mem_append_right _ hx⟩
theorem bfs_split (t0 : Trk) (d : Nat) : (bfs t0 (d + 1)).1 = (bfs t0 d).1 ++ (bfs t0 (d + 1)).2 := (lay_next (lay t0 d)).split
theorem bfs_mono (t0 : Trk) (d : Nat) : ∀ t ∈ keys (bfs t0 d).1, t ∈ keys (bfs t0 (d + 1)).1 := fun t ht => by
  rw [bfs_split, keys_append]; exact List.mem_append_left _ ht
theorem bfs_mono' (t0 : Trk) {d e : Nat} (h : d ≤ e) : ∀ t ∈ keys (bfs t0 d).1, t ∈ keys (bfs t0 e).1 := by
  induction h with
  | refl => exact fun t ht => ht
  | step _ ih => exact fun t ht => bfs_mono t0 _ t (ih t ht)
theorem bfs_next {t0 : Trk} {d : Nat} {u : Trk} (h : u ∈ keys (bfs t0 d).2) (p : Pr) : step u p ∈ keys (bfs t0 (d + 1)).1 := by
  obtain ⟨x, hx, e⟩ := List.mem_map.mp h
  rw [← e]
  exact layered_has (bfs t0 d).2 x hx p
theorem bfs_shut (t0 : Trk) : ∀ d u, u ∈ keys (bfs t0 d).1 → u ∈ keys (bfs t0 d).2 ∨ ∀ p, step u p ∈ keys (bfs t0 d).1
  | 0, u, h => .inl h
  | d + 1, u, h => by
    rw [bfs_split, keys_append] at h
    rcases List.mem_append.mp h with h | h
    · right
      intro p
      rcases bfs_shut t0 d u h with z | z
      · exact bfs_next z p
      · exact bfs_mono t0 d _ (z p)
    · exact .inl h
theorem bfs_reach (t0 : Trk) : ∀ (ps : List Pr) (d : Nat), ps.length ≤ d → run t0 ps ∈ keys (bfs t0 d).1 := by
  have key : ∀ n, ∀ ps : List Pr, ps.length = n → run t0 ps ∈ keys (bfs t0 n).1 := by
    intro n
    induction n with
    | zero => intro ps h; cases ps with
      | nil => simp [run, bfs, keys]
      | cons a r => simp at h
    | succ n ih =>
      intro ps h
      have hne : ps ≠ [] := fun z => by rw [z] at h; simp at h
      have e := List.dropLast_concat_getLast hne
      rw [← e, run_snoc]
      have h1 := ih ps.dropLast (by simp; omega)
      rcases bfs_shut t0 n _ h1 with z | z
      · exact bfs_next z _
      · exact bfs_mono t0 n _ (z _)
  intro ps d h
  exact bfs_mono' t0 h _ (key ps.length ps rfl)
/-- a layer that is empty ends it -/
theorem bfs_end {t0 : Trk} {d : Nat} (h : (bfs t0 d).2 = []) : ∀ k, (bfs t0 (d + k)).2 = [] ∧ (bfs t0 (d + k)).1 = (bfs t0 d).1
  | 0 => ⟨h, rfl⟩
  | k + 1 => by
    obtain ⟨h1, h2⟩ := bfs_end h k
    have e : bfs t0 (d + (k + 1)) = layered ((bfs t0 (d + k)).1, []) (bfs t0 (d + k)).2 := rfl
    rw [e, h1]
    exact ⟨rfl, h2⟩
theorem bfs_grow (t0 : Trk) : ∀ d, (∀ e, e < d → (bfs t0 e).2 ≠ []) → d ≤ (bfs t0 d).1.length
  | 0, _ => Nat.zero_le _
  | d + 1, h => by
    have ih := bfs_grow t0 d fun e he => h e (by omega)
    by_cases hd : (bfs t0 (d + 1)).2 = []
    · -- the known are at least d; the layer d was not empty
      rw [bfs_split, hd, List.append_nil]
      cases d with
      | zero => simp [bfs]
      | succ d =>
        have h1 := bfs_grow t0 d fun e he => h e (by omega)
        have h2 := h (d + 1) (by omega)
        have h3 : 1 ≤ (bfs t0 (d + 1)).2.length := by
          cases q : (bfs t0 (d + 1)).2 with
          | nil => exact absurd q h2
          | cons a r => simp
        -- one more from the start
        have key : ∀ k, (∀ e, e ≤ k → (bfs t0 e).2 ≠ []) → k + 1 ≤ (bfs t0 k).1.length := by
          intro k
          induction k with
          | zero => intro _; simp [bfs]
          | succ k ihk =>
            intro hk
            have a := ihk fun e he => hk e (by omega)
            have b := hk (k + 1) (Nat.le_refl _)
            have c : 1 ≤ (bfs t0 (k + 1)).2.length := by
              cases q : (bfs t0 (k + 1)).2 with
              | nil => exact absurd q b
              | cons a r => simp
            rw [bfs_split, List.length_append]; omega
        exact key (d + 1) fun e he => h e (by omega)
    · have h3 : 1 ≤ (bfs t0 (d + 1)).2.length := by
        cases q : (bfs t0 (d + 1)).2 with
        | nil => exact absurd q hd
        | cons a r => simp
      rw [bfs_split, List.length_append]; omega

/-! ### what the two searches tell -/
/-- way_to's answer -/
def IsW (t0 goal : Trk) (r : Option Way) : Prop := ∃ d, (∀ e, e < d → goal ∉ keys (bfs t0 e).1) ∧
  (goal ∈ keys (bfs t0 d).1 ∨ (bfs t0 d).2 = []) ∧ r = look (bfs t0 d).1 goal
/-- the law's own answer, of so many turns -/
def IsL (t0 goal : Trk) (n : Nat) (r : Option Way) : Prop :=
  (∃ d, d < n ∧ (∀ e, e < d → goal ∉ keys (bfs t0 e).2) ∧ goal ∈ keys (bfs t0 d).2 ∧ r = look (bfs t0 d).2 goal) ∨
  ((∀ e, e < n → goal ∉ keys (bfs t0 e).2) ∧ r = none)
theorem look_layer {t0 goal : Trk} {d : Nat} (h : goal ∈ keys (bfs t0 d).2) : look (bfs t0 d).2 goal = look (bfs t0 d).1 goal := by
  obtain ⟨p, hp⟩ := look_isSome h
  rw [hp]
  exact (look_of_mem (lay t0 d).nodup ((lay t0 d).sub _ (look_some hp))).symm
theorem not_known {t0 goal : Trk} {n : Nat} (h : ∀ e, e < n → goal ∉ keys (bfs t0 e).2) : ∀ e, e < n → goal ∉ keys (bfs t0 e).1 := by
  intro e
  induction e with
  | zero => intro he; exact h 0 he
  | succ e ih =>
    intro he
    rw [bfs_split, keys_append, List.mem_append]
    rintro (z | z)
    · exact ih (by omega) z
    · exact h (e + 1) he z
theorem in_layer {t0 goal : Trk} {d : Nat} (h : ∀ e, e < d → goal ∉ keys (bfs t0 e).1) (hg : goal ∈ keys (bfs t0 d).1) : goal ∈ keys (bfs t0 d).2 := by
  cases d with
  | zero => exact hg
  | succ d =>
    rw [bfs_split, keys_append] at hg
    rcases List.mem_append.mp hg with z | z
    · exact absurd z (h d (by omega))
    · exact z
theorem layer_known {t0 goal : Trk} {d : Nat} (h : goal ∈ keys (bfs t0 d).2) : goal ∈ keys (bfs t0 d).1 := by
  obtain ⟨x, hx, e⟩ := List.mem_map.mp h
  exact List.mem_map.mpr ⟨x, (lay t0 d).sub x hx, e⟩
theorem IsW.leads {t0 goal : Trk} {p : Way} (h : IsW t0 goal (some p)) : run t0 p = goal := by
  obtain ⟨d, _, _, e⟩ := h
  exact (lay t0 d).leads _ (look_some e.symm)
theorem IsW.self {t0 : Trk} {r : Option Way} (h : IsW t0 t0 r) : r = some [] := by
  obtain ⟨d, h1, _, e⟩ := h
  cases d with
  | zero => rw [e]; simp [bfs, look]
  | succ d => exact absurd (show t0 ∈ keys (bfs t0 0).1 by simp [bfs, keys]) (h1 0 (Nat.succ_pos _))
/-- the law's answer is way_to's -/
theorem both {t0 goal : Trk} {n : Nat} {p : Way} {r : Option Way} (hw : IsW t0 goal r) (hl : IsL t0 goal n (some p)) : r = some p := by
  rcases hl with ⟨d, _, h1, h2, h3⟩ | ⟨_, h⟩
  · obtain ⟨e, g1, g2, g3⟩ := hw
    have hd : ∀ k, k < d → goal ∉ keys (bfs t0 k).1 := not_known h1
    have hk := layer_known h2
    have hed : e = d := by
      rcases Nat.lt_trichotomy e d with c | c | c
      · rcases g2 with z | z
        · exact absurd z (hd e c)
        · exfalso
          obtain ⟨k, hk'⟩ : ∃ k, d = e + k := ⟨d - e, by omega⟩
          have q := (bfs_end z k).1
          rw [← hk'] at q
          rw [q] at h2
          cases h2
      · exact c
      · exact absurd hk (g1 d c)
    rw [g3, hed, h3, look_layer h2]
  · cases h
/-- where the law finds none, way_to's is longer -/
theorem longer {t0 goal : Trk} {n : Nat} {p : Way} (hw : IsW t0 goal (some p)) (hl : IsL t0 goal n none) : n ≤ p.length := by
  rcases hl with ⟨d, _, _, h2, h3⟩ | ⟨h1, _⟩
  · obtain ⟨q, hq⟩ := look_isSome h2
    rw [hq] at h3; cases h3
  · obtain ⟨e, g1, g2, g3⟩ := hw
    have hm := look_some g3.symm
    have hk : goal ∈ keys (bfs t0 e).1 := List.mem_map.mpr ⟨_, hm, rfl⟩
    have hl := in_layer g1 hk
    have hne : n ≤ e := by
      rcases Nat.lt_or_ge e n with c | c
      · exact absurd hl (h1 e c)
      · exact c
    rw [← look_layer hl] at g3
    have := (lay t0 e).len _ (look_some g3.symm)
    have e' : p.length = e := this
    omega
/-- what some presses make is found -/
theorem found {t0 : Trk} {ps : List Pr} {n : Nat} {r : Option Way} (h : ps.length < n) (hl : IsL t0 (run t0 ps) n r) : ∃ p, r = some p := by
  rcases hl with ⟨d, _, _, h2, h3⟩ | ⟨h1, _⟩
  · obtain ⟨q, hq⟩ := look_isSome h2
    exact ⟨q, by rw [h3, hq]⟩
  · exact absurd (bfs_reach t0 ps ps.length (Nat.le_refl _)) (not_known h1 _ h)
theorem short {t0 goal : Trk} {n : Nat} {p : Way} (hl : IsL t0 goal n (some p)) : p.length < n := by
  rcases hl with ⟨d, hd, _, h2, h3⟩ | ⟨_, h⟩
  · have := (lay t0 d).len _ (look_some h3.symm)
    have e : p.length = d := this
    omega
  · cases h
end K53
end
section
set_option maxRecDepth 100000
set_option maxHeartbeats 4000000
/-! How many tracks presses can make of one. -/
namespace K53
open PySem

theorem pigeons {α : Type} [DecidableEq α] : ∀ (l D : List α), l.Nodup → (∀ x ∈ l, x ∈ D) → l.length ≤ D.length
  | [], _, _, _ => Nat.zero_le _
  | x :: l, D, hn, hs => by
    have hn' := List.nodup_cons.mp hn
    have hx : x ∈ D := hs x List.mem_cons_self
    have ih := pigeons l (D.erase x) hn'.2 fun y hy => (List.mem_erase_of_ne (show y ≠ x from fun e => hn'.1 (e ▸ hy))).2 (hs y (List.mem_cons_of_mem _ hy))
    have e := List.length_erase_of_mem hx
    have hp := List.length_pos_of_mem hx
    rw [List.length_cons]; omega
def REC : Trk := ⟨.record, [[]], [], 0, 1, 2, 1, false⟩
def zs (n : Nat) : List Int := List.replicate n 0

structure Loopy (n : Nat) (Bs : List (List (List Int))) (p0 : Int) (t : Trk) : Prop where
  lo : t.m.loops = true
  st : ∃ b ∈ Bs, ∃ k, t.ls ++ t.us.reverse = b ++ List.replicate k (zs n)
  le : t.ls.length + t.us.length ≤ 4
  ne : 1 ≤ t.ls.length
  p : t.p = p0 ∨ t.p = 0
  w : t.w = 1 ∨ t.w = -1
  pc : t.pc = 1 ∨ t.pc = 2 ∨ t.pc = 4
  s : t.s = 1 ∨ t.s = -1
structure Bases (n : Nat) (Bs : List (List (List Int))) : Prop where
  ne : ∀ b ∈ Bs, b ≠ []
  ln : ∀ b ∈ Bs, ∀ l ∈ b, l.length = n
  tk : ∀ b ∈ Bs, ∀ i, 1 ≤ i → b.take i ∈ Bs
  sm : ∀ b ∈ Bs, [sumL b] ∈ Bs
theorem addL_zs {n : Nat} {a : List Int} (h : a.length = n) : addL a (zs n) = a := by
  subst h
  induction a with
  | nil => rfl
  | cons x r ih =>
    show (x + 0) :: addL r (zs r.length) = x :: r
    rw [ih, Int.add_zero]
theorem foldl_zs {n : Nat} : ∀ (k : Nat) (a : List Int), a.length = n → (List.replicate k (zs n)).foldl addL a = a
  | 0, _, _ => rfl
  | k + 1, a, h => by
    rw [List.replicate_succ, List.foldl_cons, addL_zs h]
    exact foldl_zs k a h
theorem sumL_zs {n : Nat} {b : List (List Int)} (hne : b ≠ []) (hl : ∀ l ∈ b, l.length = n) (k : Nat) : sumL (b ++ List.replicate k (zs n)) = sumL b := by
  unfold sumL
  have e : (b ++ List.replicate k (zs n)).headD [] = b.headD [] := by
    cases b with
    | nil => exact absurd rfl hne
    | cons a r => rfl
  rw [e, List.foldl_append]
  refine foldl_zs k _ ?_
  refine foldl_addL_length b _ ?_ hl
  rw [List.length_replicate]
  cases b with
  | nil => exact absurd rfl hne
  | cons a r => exact hl a List.mem_cons_self
/-- the first layers of such a pile -/
theorem front {n : Nat} {Bs : List (List (List Int))} (B : Bases n Bs) {b : List (List Int)} (hb : b ∈ Bs) {k : Nat} {ls us : List (List Int)} (e : ls ++ us = b ++ List.replicate k (zs n)) (h1 : 1 ≤ ls.length) :
    ∃ b' ∈ Bs, ∃ k', ls = b' ++ List.replicate k' (zs n) := by
  have e1 : ls = (b ++ List.replicate k (zs n)).take ls.length := by rw [← e, List.take_left]
  by_cases h : ls.length ≤ b.length
  · refine ⟨b.take ls.length, B.tk b hb _ h1, 0, ?_⟩
    rw [List.take_append_of_le_length h] at e1
    rw [List.replicate_zero, List.append_nil]
    exact e1
  · refine ⟨b, hb, min (ls.length - b.length) k, ?_⟩
    rw [List.take_append, List.take_of_length_le (by omega), List.take_replicate] at e1
    exact e1
theorem front_len {n : Nat} {Bs : List (List (List Int))} (B : Bases n Bs) {b : List (List Int)} (hb : b ∈ Bs) {k : Nat} {ls : List (List Int)} (e : ls = b ++ List.replicate k (zs n)) : (ls.headD []).length = n := by
  have hne := B.ne b hb
  cases b with
  | nil => exact absurd rfl hne
  | cons a r => rw [e]; exact B.ln _ hb a List.mem_cons_self
/-- what presses make -/
def Form (n : Nat) (Bs : List (List (List Int))) (p0 : Int) (t0 t : Trk) : Prop := t = EMP ∨ t = REC ∨ t = t0 ∨ Loopy n Bs p0 t
theorem step_emp (p : Pr) : step EMP p = EMP ∨ step EMP p = REC := by cases p <;> first | exact .inl rfl | exact .inr rfl
theorem step_rec (p : Pr) : step REC p = EMP ∨ step REC p = REC := by cases p <;> first | exact .inl rfl | exact .inr rfl
theorem last_split {α : Type} (l : List α) : l.dropLast ++ l.drop (l.length - 1) = l := by
  rw [List.dropLast_eq_take, List.take_append_drop]
theorem drop_last_rev {α : Type} (l : List α) : (l.drop (l.length - 1)).reverse = l.drop (l.length - 1) := by
  have h : (l.drop (l.length - 1)).length ≤ 1 := by rw [List.length_drop]; omega
  cases e : l.drop (l.length - 1) with
  | nil => rfl
  | cons a r =>
    cases r with
    | nil => rfl
    | cons b r => rw [e] at h; simp at h
theorem step_loopy {n : Nat} {Bs : List (List (List Int))} {p0 : Int} (B : Bases n Bs) {t : Trk} (L : Loopy n Bs p0 t) (q : Pr) : step t q = EMP ∨ Loopy n Bs p0 (step t q) := by
  have hm := L.lo
  obtain ⟨b, hb, k, e⟩ := L.st
  obtain ⟨b1, hb1, k1, e1⟩ := front B hb e L.ne
  have hle := L.le
  have hne := L.ne
  cases q with
  | clear => exact .inl rfl
  | flip => right; show Loopy n Bs p0 (flip t); unfold flip; rw [if_pos hm]; exact { L with s := by rcases L.s with e | e <;> simp [e] }
  | mute => right; show Loopy n Bs p0 (mute t); unfold mute; rw [if_pos hm]; exact { L with }
  | turn => right; show Loopy n Bs p0 (turn t); unfold turn; rw [if_pos hm]; exact { L with w := by rcases L.w with e | e <;> simp [e] }
  | p1 => right; show Loopy n Bs p0 (pace t 1); unfold pace; rw [if_pos hm]; exact { L with pc := .inl rfl }
  | p2 => right; show Loopy n Bs p0 (pace t 2); unfold pace; rw [if_pos hm]; exact { L with pc := .inr (.inl rfl) }
  | p4 => right; show Loopy n Bs p0 (pace t 4); unfold pace; rw [if_pos hm]; exact { L with pc := .inr (.inr rfl) }
  | join =>
    right; show Loopy n Bs p0 (join t); unfold join
    split
    · refine { L with st := ⟨[sumL b1], B.sm b1 hb1, 0, ?_⟩, le := by simp, ne := by simp }
      show [sumL t.ls] ++ [].reverse = _
      rw [e1, sumL_zs (B.ne b1 hb1) (B.ln b1 hb1)]
      rfl
    · exact L
  | redo =>
    right; show Loopy n Bs p0 (redo t); unfold redo
    split
    · rename_i c
      have hu : 1 ≤ t.us.length := by
        cases q : t.us with
        | nil => exact absurd q c.2
        | cons a r => simp
      refine { L with st := ⟨b, hb, k, ?_⟩, le := by simp; omega, ne := by simp; omega }
      show (t.ls ++ t.us.drop (t.us.length - 1)) ++ t.us.dropLast.reverse = _
      rw [← e, List.append_assoc]
      congr 1
      conv => rhs; rw [← last_split t.us, List.reverse_append, drop_last_rev]
    · exact L
  | undo =>
    right; show Loopy n Bs p0 (undo t); unfold undo
    split
    · rename_i c
      have := c.2
      refine { L with lo := ?_, st := ⟨b, hb, k, ?_⟩, le := by simp; omega, ne := by simp; omega }
      · show (if t.m = .dub then Md.play else t.m).loops = true
        split <;> first | rfl | exact hm
      · show t.ls.dropLast ++ (t.us ++ t.ls.drop (t.ls.length - 1)).reverse = _
        rw [← e, List.reverse_append, drop_last_rev, ← List.append_assoc, last_split]
    · exact L
  | stop =>
    right; show Loopy n Bs p0 (stp t); unfold stp
    split
    · rename_i z; rw [z] at hm; cases hm
    · rename_i z; rw [z] at hm; cases hm
    · exact { L with lo := rfl, p := .inr rfl }
  | tap =>
    right; show Loopy n Bs p0 (tap t); unfold tap
    split
    · rename_i z; rw [z] at hm; cases hm
    · rename_i z; rw [z] at hm; cases hm
    · split
      · exact L
      · rename_i h4
        refine { L with lo := rfl, st := ⟨b1, hb1, k1 + 1, ?_⟩, le := by simp; omega, ne := by simp }
        show (t.ls ++ [List.replicate (t.ls.headD []).length 0]) ++ [].reverse = _
        rw [front_len B hb1 e1, List.reverse_nil, List.append_nil]
        conv => lhs; rw [e1]
        rw [List.append_assoc]
        congr 1
        exact (List.replicate_succ').symm
    · exact { L with lo := rfl }
    · exact { L with lo := rfl }
theorem form_run {n : Nat} {Bs : List (List (List Int))} {p0 : Int} {t0 : Trk} (B : Bases n Bs) (hs : ∀ p, Form n Bs p0 t0 (step t0 p)) : ∀ (ps : List Pr) (t : Trk), Form n Bs p0 t0 t → Form n Bs p0 t0 (run t ps)
  | [], _, h => h
  | p :: ps, t, h => by
    show Form n Bs p0 t0 (run (step t p) ps)
    refine form_run B hs ps _ ?_
    rcases h with e | e | e | L
    · rw [e]; rcases step_emp p with z | z
      · exact .inl z
      · exact .inr (.inl z)
    · rw [e]; rcases step_rec p with z | z
      · exact .inl z
      · exact .inr (.inl z)
    · rw [e]; exact hs p
    · rcases step_loopy B L p with z | z
      · exact .inl z
      · exact .inr (.inr (.inr z))

/-! ### counting -/
def prod {α β : Type} (xs : List α) (ys : List β) : List (α × β) := xs.flatMap fun x => ys.map fun y => (x, y)
theorem mem_prod {α β : Type} {xs : List α} {ys : List β} {x : α} {y : β} (hx : x ∈ xs) (hy : y ∈ ys) : (x, y) ∈ prod xs ys :=
  List.mem_flatMap.mpr ⟨x, hx, List.mem_map.mpr ⟨y, hy, rfl⟩⟩
theorem length_prod {α β : Type} : ∀ (xs : List α) (ys : List β), (prod xs ys).length = xs.length * ys.length
  | [], ys => by simp [prod]
  | x :: xs, ys => by
    have ih := length_prod xs ys
    unfold prod at ih ⊢
    rw [List.flatMap_cons, List.length_append, ih, List.length_map, List.length_cons, Nat.succ_mul, Nat.add_comm]
def mkL (n : Nat) (x : (Md × List (List Int)) × (Nat × Nat) × (Int × Int) × (Int × Int) × Bool) : Trk :=
  ⟨x.1.1, (x.1.2 ++ List.replicate x.2.1.1 (zs n)).take x.2.1.2, ((x.1.2 ++ List.replicate x.2.1.1 (zs n)).drop x.2.1.2).reverse, x.2.2.1.1, x.2.2.1.2, x.2.2.2.1.1, x.2.2.2.1.2, x.2.2.2.2⟩
def univL (n : Nat) (Bs : List (List (List Int))) (p0 : Int) : List Trk :=
  (prod (prod [Md.play, .dub, .stop] Bs) (prod (prod (List.range 5) (List.range 5)) (prod (prod [p0, 0] [1, -1]) (prod (prod [1, 2, 4] [1, -1]) [true, false])))).map (mkL n)
theorem univL_length (n : Nat) (Bs : List (List (List Int))) (p0 : Int) : (univL n Bs p0).length = 3 * Bs.length * 1200 := by
  unfold univL
  rw [List.length_map]
  simp only [length_prod, List.length_cons, List.length_nil, List.length_range]
theorem loopy_in {n : Nat} {Bs : List (List (List Int))} {p0 : Int} {t : Trk} (L : Loopy n Bs p0 t) : t ∈ univL n Bs p0 := by
  obtain ⟨b, hb, k, e⟩ := L.st
  have hle := L.le
  have hk : k < 5 := by
    have e2 := congrArg List.length e
    rw [List.length_append, List.length_append, List.length_reverse, List.length_replicate] at e2
    omega
  refine List.mem_map.mpr ⟨((t.m, b), (k, t.ls.length), (t.p, t.w), (t.pc, t.s), t.mu), ?_, ?_⟩
  · refine mem_prod (mem_prod ?_ hb) (mem_prod (mem_prod (List.mem_range.mpr hk) (List.mem_range.mpr (by omega))) (mem_prod (mem_prod ?_ ?_) (mem_prod (mem_prod ?_ ?_) ?_)))
    · have := L.lo
      cases hm : t.m <;> first | (rw [hm] at this; cases this; done) | simp
    · rcases L.p with z | z <;> simp [z]
    · rcases L.w with z | z <;> simp [z]
    · rcases L.pc with z | z | z <;> simp [z]
    · rcases L.s with z | z <;> simp [z]
    · cases t.mu <;> decide
  · unfold mkL
    dsimp only
    rw [← e, List.take_left, List.drop_left, List.reverse_reverse]
/-- of how many tracks the search can come to know -/
theorem bound {n : Nat} {Bs : List (List (List Int))} {p0 : Int} {t0 : Trk} (B : Bases n Bs) (hB : Bs.length ≤ 3) (hs : ∀ p, Form n Bs p0 t0 (step t0 p)) (d : Nat) : (bfs t0 d).1.length ≤ 10803 := by
  have h1 := pigeons (keys (bfs t0 d).1) (EMP :: REC :: t0 :: univL n Bs p0) (lay t0 d).nodup fun t ht => by
    obtain ⟨x, hx, e⟩ := List.mem_map.mp ht
    have h := form_run B hs x.2 t0 (.inr (.inr (.inl rfl)))
    rw [(lay t0 d).leads x hx, e] at h
    rcases h with e | e | e | L
    · rw [e]; exact List.mem_cons_self
    · rw [e]; exact List.mem_cons_of_mem _ List.mem_cons_self
    · rw [e]; exact List.mem_cons_of_mem _ (List.mem_cons_of_mem _ List.mem_cons_self)
    · exact List.mem_cons_of_mem _ (List.mem_cons_of_mem _ (List.mem_cons_of_mem _ (loopy_in L)))
  rw [keys, List.length_map] at h1
  simp only [List.length_cons, univL_length] at h1
  omega
def Fin1 (t0 : Trk) : Prop := ∀ d, (bfs t0 d).1.length ≤ 10803
theorem fin_emp : Fin1 EMP := bound (n := 0) (Bs := []) (p0 := 0) ⟨(fun _ h => nomatch h), (fun _ h => nomatch h), (fun _ h => nomatch h), (fun _ h => nomatch h)⟩ (by decide) fun p => by
  rcases step_emp p with z | z
  · exact .inl z
  · exact .inr (.inl z)
theorem bases1 (c : List Int) : Bases c.length [[c]] := by
  refine ⟨fun b hb => ?_, fun b hb l hl => ?_, fun b hb i hi => ?_, fun b hb => ?_⟩
  · have e : b = [c] := by simpa using hb
    rw [e]; simp
  · have e : b = [c] := by simpa using hb
    rw [e] at hl; have e2 : l = c := by simpa using hl
    rw [e2]
  · have e : b = [c] := by simpa using hb
    rw [e, List.take_of_length_le (by simpa using hi)]; simp
  · have e : b = [c] := by simpa using hb
    rw [e]
    have e3 : sumL [c] = c := by
      show addL (List.replicate c.length 0) c = c
      clear e hb
      induction c with
      | nil => rfl
      | cons x r ih =>
        show (0 + x) :: addL (List.replicate r.length 0) r = x :: r
        rw [ih, Int.zero_add]
    rw [e3]; simp
theorem fin_rec (c : List Int) : Fin1 ⟨.record, [c], [], 0, 1, 2, 1, false⟩ := bound (bases1 c) (by simp) (p0 := 0) fun p => by
  have hc : ∀ m : Md, m.loops = true → Form c.length [[c]] 0 ⟨.record, [c], [], 0, 1, 2, 1, false⟩ (closed ⟨.record, [c], [], 0, 1, 2, 1, false⟩ m) := fun m hm => by
    unfold closed
    split
    · exact .inl rfl
    · refine .inr (.inr (.inr ⟨hm, ⟨[c], by simp, 0, rfl⟩, by simp, by simp, .inl rfl, .inl rfl, .inr (.inl rfl), .inl rfl⟩))
  cases p with
  | clear => exact .inl rfl
  | tap => exact hc .play rfl
  | stop => exact hc .stop rfl
  | _ => exact .inr (.inr (.inl rfl))
theorem bases2 {a b : List Int} (h : b.length = a.length) : Bases a.length [[a, b], [a], [addL a b]] := by
  have e0 : ∀ c : List Int, addL (List.replicate c.length 0) c = c := fun c => by
    induction c with
    | nil => rfl
    | cons x r ih =>
      show (0 + x) :: addL (List.replicate r.length 0) r = x :: r
      rw [ih, Int.zero_add]
  have es1 : sumL [a, b] = addL a b := by
    show addL (addL (List.replicate a.length 0) a) b = addL a b
    rw [e0]
  have es2 : ∀ c : List Int, sumL [c] = c := fun c => e0 c
  have hl : (addL a b).length = a.length := by rw [addL_length, h, Nat.min_self]
  refine ⟨fun x hx => ?_, fun x hx l hl' => ?_, fun x hx i hi => ?_, fun x hx => ?_⟩
  · have e : x = [a, b] ∨ x = [a] ∨ x = [addL a b] := by simpa using hx
    rcases e with e | e | e <;> rw [e] <;> simp
  · have e : x = [a, b] ∨ x = [a] ∨ x = [addL a b] := by simpa using hx
    rcases e with e | e | e
    · rw [e] at hl'
      have e2 : l = a ∨ l = b := by simpa using hl'
      rcases e2 with e2 | e2
      · rw [e2]
      · rw [e2, h]
    · rw [e] at hl'; have e2 : l = a := by simpa using hl'
      rw [e2]
    · rw [e] at hl'; have e2 : l = addL a b := by simpa using hl'
      rw [e2, hl]
  · have e : x = [a, b] ∨ x = [a] ∨ x = [addL a b] := by simpa using hx
    rcases e with e | e | e
    · rw [e]
      by_cases h2 : 2 ≤ i
      · rw [List.take_of_length_le (by simpa using h2)]; simp
      · have : i = 1 := by omega
        rw [this]; simp
    · rw [e, List.take_of_length_le (by simpa using hi)]; simp
    · rw [e, List.take_of_length_le (by simpa using hi)]; simp
  · have e : x = [a, b] ∨ x = [a] ∨ x = [addL a b] := by simpa using hx
    rcases e with e | e | e
    · rw [e, es1]; simp
    · rw [e, es2]; simp
    · rw [e, es2]; simp
/-- a track with two layers in all -/
theorem fin_loop {t : Trk} {n : Nat} (hm : t.m.loops = true) (L : LoopOk t n) {a b : List Int} (h : t.ls ++ t.us.reverse = [a, b]) : Fin1 t := by
  have hla : ∀ l ∈ [a, b], l.length = n := fun l hl => by
    rw [← h] at hl
    rcases List.mem_append.mp hl with z | z
    · exact L.ll l z
    · exact L.lu l (List.mem_reverse.mp z)
  have ha := hla a (by simp)
  have hb := hla b (by simp)
  have hb' : b.length = a.length := by rw [ha, hb]
  have B := bases2 hb'
  have LL : Loopy a.length [[a, b], [a], [addL a b]] t.p t :=
    ⟨hm, ⟨[a, b], by simp, 0, by rw [h]; rfl⟩, L.le, L.ne, .inl rfl, L.w, L.pc, L.s⟩
  refine bound B (by simp) (p0 := t.p) fun p => ?_
  rcases step_loopy B LL p with z | z
  · exact .inl z
  · exact .inr (.inr (.inr z))
end K53
end
section
set_option maxRecDepth 100000
set_option maxHeartbeats 4000000
/-! Values that are tuples of tuples .. of ints, texts, bools; what an expression or a block makes of such values. -/
namespace K53
open PySem PySem.Spec PyProof.Rows L2

/-! ### data -/
mutual
inductive Tp (K : PySem.W.Frag) (H : Hp) : V → PyData → Prop
  | non : Tp K H .non .none
  | bl (b : Bool) : Tp K H (.bl b) (.bool b)
  | int (i : Int) : Tp K H (.int i) (.int i)
  | str (x : Str) : Tp K H (.str x) (.str x)
  | tup {a : Addr} {xs : List V} {ds : List PyData} : SqT K H a xs → TpAll K H xs ds → Tp K H (.ref a) (.tuple ds)
inductive TpAll (K : PySem.W.Frag) (H : Hp) : List V → List PyData → Prop
  | nil : TpAll K H [] []
  | cons {v : V} {vs : List V} {d : PyData} {ds : List PyData} : Tp K H v d → TpAll K H vs ds → TpAll K H (v :: vs) (d :: ds)
end
/-- tuples stand -/
def Kp (H H' : Hp) : Prop := ∀ a, (∀ xs, H a = some (.tup xs) → H' a = some (.tup xs)) ∧ ∀ o u, H a = some (.frz o u) → H' a = some (.frz o u)
theorem Kp.refl (H : Hp) : Kp H H := fun _ => ⟨fun _ h => h, fun _ _ h => h⟩
theorem Kp.trans {H H1 H2 : Hp} (a : Kp H H1) (b : Kp H1 H2) : Kp H H2 := fun x => ⟨fun xs h => (b x).1 xs ((a x).1 xs h), fun o u h => (b x).2 o u ((a x).2 o u h)⟩
theorem Kp.of {H H' : Hp} (e : Same H H') : Kp H H' := fun a => ⟨fun _ h => e a _ h, fun _ _ h => e a _ h⟩
theorem same_new {H : Hp} {p : Addr} {o : HO} (h : H p = none) : Same H (upd H p o) := fun a u e => by
  rw [upd_ne (ne_of_none e h)]; exact e
/-- an object that was not there at first may change -/
theorem same_mut {H H' : Hp} {p : Addr} {o : HO} (e : Same H H') (h : H p = none) : Same H (upd H' p o) := fun a u ha => by
  rw [upd_ne (ne_of_none ha h)]; exact e a u ha
theorem kp_mut {H : Hp} {p : Addr} {o : HO} (h : ∀ xs, H p ≠ some (.tup xs)) (h2 : ∀ ob u, H p ≠ some (.frz ob u)) : Kp H (upd H p o) := fun a => by
  by_cases e : a = p
  · subst e; exact ⟨fun xs q => absurd q (h xs), fun ob u q => absurd q (h2 ob u)⟩
  · rw [upd_ne e]; exact ⟨fun _ q => q, fun _ _ q => q⟩
theorem kp_sqt {K : PySem.W.Frag} {H H' : Hp} {a : Addr} {xs : List V} (k : Kp H H') (h : SqT K H a xs) : SqT K H' a xs := by
  rcases h with (h | ⟨o, h⟩) | h
  · exact .inl (.inl ((k a).1 xs h))
  · exact .inl (.inr ⟨o, (k a).2 o _ h⟩)
  · exact .inr h
mutual
theorem Tp.kp {K : PySem.W.Frag} {H H' : Hp} (k : Kp H H') : ∀ (d : PyData) {v : V}, Tp K H v d → Tp K H' v d
  | .none, _, h => by cases h; exact .non
  | .bool _, _, h => by cases h; exact .bl _
  | .int _, _, h => by cases h; exact .int _
  | .str _, _, h => by cases h; exact .str _
  | .list _, _, h => by cases h
  | .tuple ds, _, h => by
    cases h with
    | tup h1 h2 => exact .tup (kp_sqt k h1) (TpAll.kp k ds h2)
  | .dict _, _, h => by cases h
theorem TpAll.kp {K : PySem.W.Frag} {H H' : Hp} (k : Kp H H') : ∀ (ds : List PyData) {vs : List V}, TpAll K H vs ds → TpAll K H' vs ds
  | [], _, h => by cases h; exact .nil
  | d :: ds, _, h => by
    cases h with
    | cons h1 h2 => exact .cons (Tp.kp k d h1) (TpAll.kp k ds h2)
end
theorem Tp.mono {K : PySem.W.Frag} {H H' : Hp} {v : V} {d : PyData} (e : Same H H') (h : Tp K H v d) : Tp K H' v d := h.kp (Kp.of e)
theorem TpAll.mono {K : PySem.W.Frag} {H H' : Hp} {vs : List V} {ds : List PyData} (e : Same H H') (h : TpAll K H vs ds) : TpAll K H' vs ds := h.kp (Kp.of e)
mutual
theorem Tp.dp {K : PySem.W.Frag} {H : Hp} : ∀ (d : PyData) {v : V}, Tp K H v d → Dp K H v d
  | .none, _, h => by cases h; exact .non
  | .bool _, _, h => by cases h; exact .bl _
  | .int _, _, h => by cases h; exact .int _
  | .str _, _, h => by cases h; exact .str _
  | .list _, _, h => by cases h
  | .tuple ds, _, h => by
    cases h with
    | tup h1 h2 => exact .tup h1 (TpAll.dp ds h2)
  | .dict _, _, h => by cases h
theorem TpAll.dp {K : PySem.W.Frag} {H : Hp} : ∀ (ds : List PyData) {vs : List V}, TpAll K H vs ds → DpAll K H vs ds
  | [], _, h => by cases h; exact .nil
  | d :: ds, _, h => by
    cases h with
    | cons h1 h2 => exact .cons (Tp.dp d h1) (TpAll.dp ds h2)
end
section
variable {K : PySem.W.Frag} {H H' : Hp} {v : V} {vs ws : List V} {d : PyData} {ds es : List PyData}
theorem TpAll.length : ∀ {vs : List V} {ds : List PyData}, TpAll K H vs ds → vs.length = ds.length
  | _, [], h => by cases h; rfl
  | _, d :: ds, h => by cases h with | cons h1 h2 => simp [h2.length]
theorem TpAll.get : ∀ {vs : List V} {ds : List PyData} {i : Nat} {d : PyData}, TpAll K H vs ds → ds[i]? = some d → ∃ v, vs[i]? = some v ∧ Tp K H v d
  | _, [], _, _, h, e => by simp at e
  | _, x :: ds, 0, d, h, e => by cases h with | cons h1 h2 => simp at e; subst e; exact ⟨_, rfl, h1⟩
  | _, x :: ds, i + 1, d, h, e => by cases h with | cons h1 h2 => exact h2.get (i := i) (by simpa using e)
theorem TpAll.append : ∀ {vs ws : List V} {ds es : List PyData}, TpAll K H vs ds → TpAll K H ws es → TpAll K H (vs ++ ws) (ds ++ es)
  | _, _, [], _, h, g => by cases h; exact g
  | _, _, d :: ds, _, h, g => by cases h with | cons h1 h2 => exact .cons h1 (h2.append g)
theorem TpAll.drop : ∀ {vs : List V} {ds : List PyData} (n : Nat), TpAll K H vs ds → TpAll K H (vs.drop n) (ds.drop n)
  | _, _, 0, h => h
  | _, [], n + 1, h => by cases h; exact .nil
  | _, d :: ds, n + 1, h => by cases h with | cons h1 h2 => exact h2.drop n
theorem TpAll.take : ∀ {vs : List V} {ds : List PyData} (n : Nat), TpAll K H vs ds → TpAll K H (vs.take n) (ds.take n)
  | _, _, 0, h => .nil
  | _, [], n + 1, h => by cases h; exact .nil
  | _, d :: ds, n + 1, h => by cases h with | cons h1 h2 => exact .cons h1 (h2.take n)
theorem Tp.tup_inv (h : Tp K H v (.tuple ds)) : ∃ a xs, v = .ref a ∧ SqT K H a xs ∧ TpAll K H xs ds := by
  cases h with
  | tup h1 h2 => exact ⟨_, _, rfl, h1, h2⟩
theorem Tp.int_inv {i : Int} (h : Tp K H v (.int i)) : v = .int i := by cases h; rfl
theorem Tp.str_inv {x : Str} (h : Tp K H v (.str x)) : v = .str x := by cases h; rfl
theorem Tp.bl_inv {b : Bool} (h : Tp K H v (.bool b)) : v = .bl b := by cases h; rfl
theorem tp_new {p : Addr} {xs : List V} (hp : H p = none) (h : TpAll K H xs ds) : Tp K (upd H p (.tup xs)) (.ref p) (.tuple ds) := .tup (.inl (.inl upd_same)) (h.mono (same_new hp))
theorem tpall_ints (ns : List Int) : TpAll K H (ns.map V.int) (ns.map PyData.int) := by
  induction ns with
  | nil => exact .nil
  | cons n ns ih => exact .cons (.int n) ih
theorem TpAll.ints : ∀ {ns : List Int} {vs : List V}, TpAll K H vs (ns.map PyData.int) → vs = ns.map V.int
  | [], _, h => by cases h; rfl
  | n :: ns, _, h => by
    cases h with
    | cons h1 h2 => rw [h1.int_inv, h2.ints]; rfl
end

/-! ### slots -/
abbrev Dl := List (Option PyData)
def Sl (K : PySem.W.Frag) (H : Hp) (σ : L2.St) (δ : Dl) : Prop := ∀ (i : Nat) (d : PyData), δ[i]? = some (some d) → ∃ v, σ[i]? = some (some v) ∧ Tp K H v d
section
variable {K : PySem.W.Frag} {H H' : Hp} {σ : L2.St} {δ : Dl} {v : V} {d : PyData}
theorem Sl.mono (e : Same H H') (h : Sl K H σ δ) : Sl K H' σ δ := fun i d q => let ⟨v, h1, h2⟩ := h i d q; ⟨v, h1, h2.mono e⟩
theorem Sl.kp (e : Kp H H') (h : Sl K H σ δ) : Sl K H' σ δ := fun i d q => let ⟨v, h1, h2⟩ := h i d q; ⟨v, h1, h2.kp e⟩
theorem Sl.set (h : Sl K H σ δ) (t : Tp K H v d) {i : Nat} (hi : i < σ.length) : Sl K H (σ.set i (some v)) (δ.set i (some d)) := fun j e q => by
  by_cases c : i = j
  · subst c
    have hl : i < δ.length := by
      rcases Nat.lt_or_ge i δ.length with z | z
      · exact z
      · rw [List.getElem?_eq_none (by simpa using z)] at q; cases q
    rw [List.getElem?_set_self hl] at q
    cases q
    exact ⟨v, by rw [List.getElem?_set_self hi], t⟩
  · rw [List.getElem?_set_ne c] at q
    obtain ⟨w, h1, h2⟩ := h j e q
    exact ⟨w, by rw [List.getElem?_set_ne c]; exact h1, h2⟩
theorem Sl.clear (h : Sl K H σ δ) (i : Nat) (u : Option V) : Sl K H (σ.set i u) (δ.set i none) := fun j e q => by
  by_cases c : i = j
  · subst c
    rcases Nat.lt_or_ge i δ.length with z | z
    · rw [List.getElem?_set_self z] at q; cases q
    · rw [List.getElem?_eq_none (by simpa using z)] at q; cases q
  · rw [List.getElem?_set_ne c] at q
    obtain ⟨w, h1, h2⟩ := h j e q
    exact ⟨w, by rw [List.getElem?_set_ne c]; exact h1, h2⟩
theorem sl_nil : Sl K H σ [] := fun i d q => by simp at q
theorem sl_start {vs : List V} {ds : List PyData} (n : Nat) (h : TpAll K H vs ds) : Sl K H (vs.map some ++ List.replicate n none) (ds.map some ++ List.replicate n none) := fun i d q => by
  have hl := h.length
  by_cases c : i < ds.length
  · rw [List.getElem?_append_left (by simpa using c), List.getElem?_map] at q
    cases e : ds[i]? with
    | none => rw [e] at q; cases q
    | some x =>
      rw [e] at q; cases q
      obtain ⟨v, h1, h2⟩ := h.get e
      refine ⟨v, ?_, h2⟩
      rw [List.getElem?_append_left (by simp; omega), List.getElem?_map, h1]; rfl
  · rw [List.getElem?_append_right (by simpa using c), List.getElem?_replicate] at q
    split at q <;> cases q
end

/-! ### an expression's datum -/
structure EvE (X : Cx) (δ : Dl) (e : Expr) (d : PyData) : Prop where
  run : ∀ (pins : List (Addr × Obj)) (s : Shared) (σ : L2.St) (H : Hp) (Q : VK), Inv X pins σ H s → Sl X.K H σ δ → (∀ v H', Same H H' → Tp X.K H' v d → Q v H') → wpAny (model X.prog X.w) X.A (eval e X.env) (EP X pins σ Q) X.xe s
structure EvT (X : Cx) (δ : Dl) (e : Expr) (b : Bool) : Prop where
  run : ∀ (pins : List (Addr × Obj)) (s : Shared) (σ : L2.St) (H : Hp) (Q : Bool → Hp → Prop), Inv X pins σ H s → Sl X.K H σ δ → (∀ H', Same H H' → Q b H') → wpAny (model X.prog X.w) X.A (isTrue e X.env (eval e X.env)) (TP X pins σ Q) X.xe s
structure EvW (X : Cx) (δ : Dl) (e : Expr) (b : Bool) : Prop where
  run : ∀ (whole : Sem Value) (pins : List (Addr × Obj)) (s : Shared) (σ : L2.St) (H : Hp) (Q : Bool → Hp → Prop), Inv X pins σ H s → Sl X.K H σ δ → (∀ H', Same H H' → Q b H') → wpAny (model X.prog X.w) X.A (isTrue e X.env whole) (TP X pins σ Q) X.xe s
structure EvA (X : Cx) (δ : Dl) (es : List Expr) (ds : List PyData) : Prop where
  len : ds.length = es.length
  run : ∀ (pos : Pos) (pins : List (Addr × Obj)) (s : Shared) (σ : L2.St) (H : Hp) (Q : List V → Hp → Prop), Inv X pins σ H s → Sl X.K H σ δ → (∀ vs H', Same H H' → TpAll X.K H' vs ds → Q vs H') → wpAny (model X.prog X.w) X.A (spliced (backTo pos (starEach es X.env))) (AP X pins σ Q) X.xe s
structure EvO (X : Cx) (δ : Dl) (e : Option Expr) (o : Option Int) : Prop where
  run : ∀ (pins : List (Addr × Obj)) (s : Shared) (σ : L2.St) (H : Hp) (Q : Option Int → Hp → Prop), Inv X pins σ H s → Sl X.K H σ δ → (∀ H', Same H H' → Q o H') →
    wpAny (model X.prog X.w) X.A (evalPart e X.env) (fun u s' => ∃ o H', Inv X pins σ H' s' ∧ IsPart u o ∧ Q o H') X.xe s
/-- as rules of the layer, the datum told at the reading -/
def tEv (X : Cx) (e : Expr) : TE := fun σ H Q => ∃ δ d, EvE X δ e d ∧ Sl X.K H σ δ ∧ ∀ v H', Same H H' → Tp X.K H' v d → Q v H'
theorem pe_ev {X : Cx} {e : Expr} : PE X e (tEv X e) := ⟨fun pins s σ H Q I h => let ⟨_, _, h1, h2, h3⟩ := h; h1.run pins s σ H Q I h2 h3⟩
def tEt (X : Cx) (e : Expr) : TT := fun σ H Q => ∃ δ b, EvT X δ e b ∧ Sl X.K H σ δ ∧ ∀ H', Same H H' → Q b H'
theorem pt_ev {X : Cx} {e : Expr} : PT X e (tEt X e) := ⟨fun pins s σ H Q I h => let ⟨_, _, h1, h2, h3⟩ := h; h1.run pins s σ H Q I h2 h3⟩
def tEa (X : Cx) (es : List Expr) : TA := fun σ H Q => ∃ δ ds, EvA X δ es ds ∧ Sl X.K H σ δ ∧ ∀ vs H', Same H H' → TpAll X.K H' vs ds → Q vs H'
theorem pa_ev {X : Cx} {es : List Expr} : PA X es (tEa X es) := ⟨fun pos pins s σ H Q I h => let ⟨_, _, h1, h2, h3⟩ := h; h1.run pos pins s σ H Q I h2 h3⟩
def tEo (X : Cx) (e : Option Expr) : TO := fun σ H Q => ∃ δ o, EvO X δ e o ∧ Sl X.K H σ δ ∧ ∀ H', Same H H' → Q o H'
theorem po_ev {X : Cx} {e : Option Expr} : PO X e (tEo X e) := ⟨fun pins s σ H Q I h => let ⟨_, _, h1, h2, h3⟩ := h; h1.run pins s σ H Q I h2 h3⟩

/-! ### the code's surroundings -/
structure BX (X : Cx) (N : List Str) (sc : Scope) (k : Nat) : Prop where
  fN : X.N = N
  fS : ∀ x, X.env.scope.names.lookup x = sc.names.lookup x ∨ (sc.names.lookup x = some .free ∧ X.env.scope.names.lookup x = some .cell)
  calm : X.calm = true
  room : Room k X.A
  nd : N.Nodup
  fn : ∀ x, X.fn x = true ∨ sc.names.lookup x ≠ some .cell
  own : PassesOwn (model X.prog X.w) X.A X.env X.xe
section
variable {X : Cx} {δ : Dl} {N : List Str} {sc : Scope} {k : Nat} {e a b : Expr} {es : List Expr} {d : PyData} {ds xs ys : List PyData} {i j : Int} {pos p2 : Pos} {u v : Bool}
def visB (sc : Scope) (x : Str) : Bool := match sc.names.lookup x with
  | some .local => true
  | some .cell => true
  | some .free => true
  | _ => false
theorem vis_of {x : Str} (h : visB sc x = true) : Vis sc x := by
  unfold visB at h
  unfold Vis
  split at h
  · rename_i q; exact .inl q
  · rename_i q; exact .inr (.inl q)
  · rename_i q; exact .inr (.inr q)
  · cases h
theorem BX.gl (B : BX X N sc k) {x : Str} (h : sc.names.lookup x = some .globalImplicit) : Gl X x := by
  show X.env.scope.names.lookup x = some .globalImplicit
  rcases B.fS x with z | ⟨z, _⟩
  · rw [z]; exact h
  · rw [h] at z; cases z
theorem BX.vis (B : BX X N sc k) {x : Str} (h : visB sc x = true) : Vis X.env.scope x := by
  have v := vis_of h
  unfold Vis at v ⊢
  rcases B.fS x with z | ⟨_, z⟩
  · rw [z]; exact v
  · exact .inr (.inl z)
theorem ee_name (B : BX X N sc k) {i : Nat} {x : Str} (hN : N[i]? = some x) (hd : δ[i]? = some (some d)) (hv : visB sc x = true := by decide +kernel)
    (h1 : (x == ("__debug__" : Str)) = false := by decide) (h2 : (x == ("__classdict__" : Str)) = false := by decide) : EvE X δ (.Name x pos) d := by
  refine ⟨fun pins s σ H Q I hs q => ?_⟩
  obtain ⟨v, e1, t⟩ := hs i d hd
  exact (pe_var (by rw [B.fN]; exact hN) (B.vis hv) h1 h2).run pins s σ H Q I ⟨v, e1, q v H (Same.refl H) t⟩
theorem ee_int {n : Int} {j : Nat} : EvE X δ (.Constant (.int n) j pos) (.int n) := ⟨fun pins s σ H Q I _ q => pe_int.run pins s σ H Q I (q _ H (Same.refl H) (.int n))⟩
theorem ee_str {x : Str} {j : Nat} : EvE X δ (.Constant (.str x) j pos) (.str x) := ⟨fun pins s σ H Q I _ q => pe_str.run pins s σ H Q I (q _ H (Same.refl H) (.str x))⟩
theorem ee_bool {x : Bool} {j : Nat} : EvE X δ (.Constant (.bool x) j pos) (.bool x) := ⟨fun pins s σ H Q I _ q => pe_bl.run pins s σ H Q I (q _ H (Same.refl H) (.bl x))⟩
theorem ee_glob (B : BX X N sc k) {x : Str} {w : V} {u : Value} (hg : sc.names.lookup x = some .globalImplicit) (hm : X.mg x = some u) (r : RelV w u) (t : ∀ H, Tp X.K H w d) (hd : (x == ("__debug__" : Str)) = false := by decide) : EvE X δ (.Name x pos) d :=
  ⟨fun pins s σ H Q I _ q => (pe_glob (B.gl hg) hm r hd).run pins s σ H Q I (q w H (Same.refl H) (t H))⟩
theorem ea_nil : EvA X δ [] [] := ⟨rfl, fun pos pins s σ H Q I _ q => pa_nil.run pos pins s σ H Q I (q [] H (Same.refl H) .nil)⟩
theorem ea_cons (he : EvE X δ e d) (hr : EvA X δ es ds) (hs : starEach (e :: es) X.env = (false, eval e X.env) :: starEach es X.env := by rfl) : EvA X δ (e :: es) (d :: ds) :=
  ⟨by rw [List.length_cons, List.length_cons, hr.len], fun pos pins s σ H Q I h q => (pa_cons pe_ev pa_ev hs).run pos pins s σ H Q I
    ⟨δ, d, he, h, fun v H1 e1 t1 => ⟨δ, ds, hr, h.mono e1, fun vs H2 e2 t2 => q _ H2 (e1.trans e2) (.cons (t1.mono e2) t2)⟩⟩⟩
theorem ee_tup {x1 : Nat} (h : EvA X δ es ds) (hz : es.length ≤ 1000 := by exact Nat.le_of_ble_eq_true rfl) : EvE X δ (.Tuple es x1 pos) (.tuple ds) :=
  ⟨fun pins s σ H Q I hs q => (pe_tup pa_ev).run pins s σ H Q I ⟨δ, ds, h, hs, fun vs H1 e1 t1 => ⟨by rw [t1.length, h.len]; exact Nat.le_of_lt (small1000 hz), fun p hp => q _ _ (e1.trans (same_new hp)) (tp_new hp t1)⟩⟩⟩
/-! subscripts, slices -/
theorem atI_tp {K : PySem.W.Frag} {H : Hp} {vs : List V} (t : TpAll K H vs ds) (h : atI ds i = some d) : ∃ v, atI vs i = some v ∧ Tp K H v d := by
  unfold atI at h ⊢
  rw [t.length]
  cases q : ixN ds.length i with
  | none => rw [q] at h; cases h
  | some j => rw [q] at h; exact t.get h
theorem ee_ix (ha : EvE X δ a (.tuple ds)) (hb : EvE X δ b (.int i)) (hd : atI ds i = some d) (hp : PlainIx b := by intro _ _; rfl) : EvE X δ (.Subscript a b pos) d :=
  ⟨fun pins s σ H Q I hs q => (pe_ix ix_tup pe_ev pe_ev hp).run pins s σ H Q I
    ⟨δ, _, ha, hs, fun v H1 e1 t1 => ⟨δ, _, hb, hs.mono e1, fun w H2 e2 t2 => by
      obtain ⟨p, xs, rfl, h1, h2⟩ := t1.tup_inv
      obtain ⟨x, h3, h4⟩ := atI_tp h2 hd
      exact ⟨p, xs, i, x, rfl, t2.int_inv, kp_sqt (Kp.of e2) h1, h3, q _ _ (e1.trans e2) (h4.mono e2)⟩⟩⟩⟩
theorem eo_none : EvO X δ none none := ⟨fun pins s σ H Q I _ q => po_none.run pins s σ H Q I (q H (Same.refl H))⟩
theorem eo_some (h : EvE X δ e (.int i)) : EvO X δ (some e) (some i) := ⟨fun pins s σ H Q I hs q => (po_some pe_ev).run pins s σ H Q I ⟨δ, _, h, hs, fun v H1 e1 t1 => ⟨i, t1.int_inv, q H1 e1⟩⟩⟩
def cutD (ds : List PyData) (lo hi : Option Int) : List PyData := (ds.drop (HT.sIx ds.length 0 lo)).take (HT.sIx ds.length ds.length hi - HT.sIx ds.length 0 lo)
theorem cutD_whole {ds : List PyData} {lo hi : Option Int} (h : HT.sIx ds.length 0 lo = 0 ∧ HT.sIx ds.length ds.length hi = ds.length) : cutD ds lo hi = ds := by
  unfold cutD
  rw [h.1, h.2, List.drop_zero, Nat.sub_zero, List.take_length]
theorem ee_sl {lo hi : Option Expr} {l h : Option Int} (ha : EvE X δ a (.tuple ds)) (hl : EvO X δ lo l) (hh : EvO X δ hi h) : EvE X δ (.Subscript a (.Slice lo hi none p2) pos) (.tuple (cutD ds l h)) :=
  ⟨fun pins s σ H Q I hs q => (pe_slice sl_tupA pe_ev po_ev po_ev).run pins s σ H Q I
    ⟨δ, _, ha, hs, fun v H1 e1 t1 => ⟨δ, _, hl, hs.mono e1, fun H2 e2 => ⟨δ, _, hh, hs.mono (e1.trans e2), fun H3 e3 => by
      obtain ⟨p, xs, rfl, h1, h2⟩ := t1.tup_inv
      have e23 := e2.trans e3
      have hlen := h2.length
      refine ⟨p, xs, rfl, kp_sqt (Kp.of e23) h1, fun w => q _ _ (e1.trans e23) ?_, fun w r hr => q _ _ (e1.trans (e23.trans (same_new hr))) ?_⟩
      · rw [hlen] at w
        rw [cutD_whole w]
        exact .tup (kp_sqt (Kp.of e23) h1) (h2.mono e23)
      · refine tp_new hr ?_
        unfold cutV cutD
        rw [hlen]
        exact ((h2.drop _).take _).mono e23⟩⟩⟩⟩
/-! operators -/
theorem ee_cat (ha : EvE X δ a (.tuple xs)) (hb : EvE X δ b (.tuple ys)) (hz : xs.length + ys.length ≤ 1000) : EvE X δ (.BinOp a .Add b pos) (.tuple (xs ++ ys)) :=
  ⟨fun pins s σ H Q I hs q => (pe_op op_catA pe_ev pe_ev).run pins s σ H Q I
    ⟨δ, _, ha, hs, fun v H1 e1 t1 => ⟨δ, _, hb, hs.mono e1, fun w H2 e2 t2 => by
      obtain ⟨p, vs, rfl, h1, h2⟩ := t1.tup_inv
      obtain ⟨r, ws, rfl, g1, g2⟩ := t2.tup_inv
      have l1 := h2.length
      have l2 := g2.length
      refine ⟨p, r, vs, ws, rfl, rfl, kp_sqt (Kp.of e2) h1, g1, by rw [l1, l2]; exact Nat.le_of_lt (small1000 hz), fun z => ?_, fun _ z => ?_, fun _ _ t ht => ?_⟩
      · have e : xs = [] := List.eq_nil_of_length_eq_zero (by rw [← l1, z]; rfl)
        rw [e] at q
        exact q _ _ (e1.trans e2) t2
      · have e : ys = [] := List.eq_nil_of_length_eq_zero (by rw [← l2, z]; rfl)
        rw [e, List.append_nil] at q
        exact q _ _ (e1.trans e2) (t1.mono e2)
      · exact q _ _ (e1.trans (e2.trans (same_new ht))) (tp_new ht ((h2.mono e2).append g2))⟩⟩⟩
theorem ee_int2 {op : Operator} {g : Int → Int → Int} (ho : OpR X (binaryOp op) (rI0 fun i j => .int (g i j))) (ha : EvE X δ a (.int i)) (hb : EvE X δ b (.int j)) : EvE X δ (.BinOp a op b pos) (.int (g i j)) :=
  ⟨fun pins s σ H Q I hs q => (pe_op ho pe_ev pe_ev).run pins s σ H Q I
    ⟨δ, _, ha, hs, fun v H1 e1 t1 => ⟨δ, _, hb, hs.mono e1, fun w H2 e2 t2 => ⟨i, j, t1.int_inv, t2.int_inv, q _ _ (e1.trans e2) (.int _)⟩⟩⟩⟩
theorem ee_add (ha : EvE X δ a (.int i)) (hb : EvE X δ b (.int j)) : EvE X δ (.BinOp a .Add b pos) (.int (i + j)) := ee_int2 op_add ha hb
theorem ee_sub (ha : EvE X δ a (.int i)) (hb : EvE X δ b (.int j)) : EvE X δ (.BinOp a .Sub b pos) (.int (i - j)) := ee_int2 op_sub ha hb
theorem ee_mul (ha : EvE X δ a (.int i)) (hb : EvE X δ b (.int j)) (hc : CMul i j) : EvE X δ (.BinOp a .Mult b pos) (.int (i * j)) :=
  ⟨fun pins s σ H Q I hs q => (pe_op op_mul pe_ev pe_ev).run pins s σ H Q I
    ⟨δ, _, ha, hs, fun v H1 e1 t1 => ⟨δ, _, hb, hs.mono e1, fun w H2 e2 t2 => ⟨i, j, t1.int_inv, t2.int_inv, hc, q _ _ (e1.trans e2) (.int _)⟩⟩⟩⟩
theorem ee_neg (ha : EvE X δ a (.int i)) : EvE X δ (.UnaryOp .USub a pos) (.int (-i)) :=
  ⟨fun pins s σ H Q I hs q => (pe_un un_neg pe_ev).run pins s σ H Q I ⟨δ, _, ha, hs, fun v H1 e1 t1 => ⟨i, t1.int_inv, q _ _ e1 (.int _)⟩⟩⟩
theorem ee_not (ha : EvE X δ a (.bool u)) : EvE X δ (.UnaryOp .Not a pos) (.bool (!u)) :=
  ⟨fun pins s σ H Q I hs q => (pe_not pe_ev).run pins s σ H Q I ⟨δ, _, ha, hs, fun v H1 e1 t1 => ⟨u, t1.bl_inv, q _ _ e1 (.bl _)⟩⟩⟩
theorem ee_if {c : Expr} (hc : EvT X δ c u) (ha : u = true → EvE X δ a d) (hb : u = false → EvE X δ b d) : EvE X δ (.IfExp c a b pos) d :=
  ⟨fun pins s σ H Q I hs q => (pe_ifExp pt_ev pe_ev pe_ev).run pins s σ H Q I ⟨δ, u, hc, hs, fun H1 e1 => by
    cases u with
    | true => exact iteT ⟨δ, d, ha rfl, hs.mono e1, fun v H2 e2 t2 => q _ _ (e1.trans e2) t2⟩
    | false => exact iteF ⟨δ, d, hb rfl, hs.mono e1, fun v H2 e2 t2 => q _ _ (e1.trans e2) t2⟩⟩⟩
/-! comparisons -/
theorem ee_eq (B : BX X N sc k) {c e : PyData} (ha : EvE X δ a c) (hb : EvE X δ b e) (h1 : SeqAt.shaped c = true) (h2 : SeqAt.shaped e = true) : EvE X δ (.Compare a [.Eq] [b] pos) (.bool (PyData.eqv c e)) :=
  ⟨fun pins s σ H Q I hs q => (pe_cmpR (op_eqD B.room.units) pe_ev pe_ev (nomark _)).run pins s σ H Q I
    ⟨δ, _, ha, hs, fun v H1 e1 t1 => ⟨δ, _, hb, hs.mono e1, fun w H2 e2 t2 => ⟨c, e, (t1.mono e2).dp, t2.dp, h1, h2, q _ _ (e1.trans e2) (.bl _)⟩⟩⟩⟩
theorem ee_ne (B : BX X N sc k) {c e : PyData} (ha : EvE X δ a c) (hb : EvE X δ b e) (h1 : SeqAt.shaped c = true) (h2 : SeqAt.shaped e = true) : EvE X δ (.Compare a [.NotEq] [b] pos) (.bool (!PyData.eqv c e)) :=
  ⟨fun pins s σ H Q I hs q => (pe_cmpR (op_neD B.room.units) pe_ev pe_ev (nomark _)).run pins s σ H Q I
    ⟨δ, _, ha, hs, fun v H1 e1 t1 => ⟨δ, _, hb, hs.mono e1, fun w H2 e2 t2 => ⟨c, e, (t1.mono e2).dp, t2.dp, h1, h2, q _ _ (e1.trans e2) (.bl _)⟩⟩⟩⟩
/-- ints -/
theorem ee_cmpI {op : CmpOp} {g : Int → Int → Bool} (ho : OpR X (compareOp op) (rI0 fun i j => .bl (g i j))) (hm : behindInMarks op b = false) (ha : EvE X δ a (.int i)) (hb : EvE X δ b (.int j)) : EvE X δ (.Compare a [op] [b] pos) (.bool (g i j)) :=
  ⟨fun pins s σ H Q I hs q => (pe_cmpR ho pe_ev pe_ev hm).run pins s σ H Q I
    ⟨δ, _, ha, hs, fun v H1 e1 t1 => ⟨δ, _, hb, hs.mono e1, fun w H2 e2 t2 => ⟨i, j, t1.int_inv, t2.int_inv, q _ _ (e1.trans e2) (.bl _)⟩⟩⟩⟩
theorem ee_lt (ha : EvE X δ a (.int i)) (hb : EvE X δ b (.int j)) : EvE X δ (.Compare a [.Lt] [b] pos) (.bool (decide (i < j))) := ee_cmpI op_lt (nomark _) ha hb
theorem ee_gt (ha : EvE X δ a (.int i)) (hb : EvE X δ b (.int j)) : EvE X δ (.Compare a [.Gt] [b] pos) (.bool (decide (j < i))) := ee_cmpI op_gt (nomark _) ha hb
/-- a ≤ b ≤ c -/
theorem ee_chain {c : Expr} {l : Int} (ha : EvE X δ a (.int i)) (hb : EvE X δ b (.int j)) (hc : EvE X δ c (.int l)) (hm : lastMarks [.LtE, .LtE] [b, c] = false := by with_unfolding_all rfl) :
    EvE X δ (.Compare a [.LtE, .LtE] [b, c] pos) (.bool (decide (i ≤ j ∧ j ≤ l))) :=
  ⟨fun pins s σ H Q I hs q => (pe_chain op_le op_le pe_ev pe_ev pe_ev hm).run pins s σ H Q I
    ⟨δ, _, ha, hs, fun v H1 e1 t1 => ⟨δ, _, hb, hs.mono e1, fun w H2 e2 t2 => ⟨i, j, t1.int_inv, t2.int_inv, _, rfl, by
      by_cases h1 : i ≤ j
      · rw [decide_eq_true h1]
        refine iteT ⟨δ, _, hc, hs.mono (e1.trans e2), fun z H3 e3 t3 => ⟨j, l, t2.int_inv, t3.int_inv, ?_⟩⟩
        have e : decide (i ≤ j ∧ j ≤ l) = decide (j ≤ l) := by simp [h1]
        rw [e] at q
        exact q _ _ ((e1.trans e2).trans e3) (.bl _)
      · rw [decide_eq_false h1]
        refine iteF ?_
        have e : decide (i ≤ j ∧ j ≤ l) = false := by simp [h1]
        rw [e] at q
        exact q _ _ (e1.trans e2) (.bl _)⟩⟩⟩⟩
/-- flat data -/
def flatD : PyData → Bool
  | .none => true
  | .bool _ => true
  | .int _ => true
  | .str _ => true
  | _ => false
theorem flat_tp {K : PySem.W.Frag} {H : Hp} {v : V} (t : Tp K H v d) (h : flatD d = true) : flatV v = true := by
  cases t <;> first | rfl | cases h
theorem flat_all {K : PySem.W.Frag} {H : Hp} : ∀ {vs : List V} {ds : List PyData}, TpAll K H vs ds → ds.all flatD = true → vs.all flatV = true
  | _, [], t, _ => by cases t; rfl
  | _, d :: ds, t, h => by
    cases t with
    | cons t1 t2 =>
      rw [List.all_cons, Bool.and_eq_true] at h
      rw [List.all_cons, flat_tp t1 h.1, flat_all t2 h.2] <;> rfl
theorem eqv_tp {K : PySem.W.Frag} {H : Hp} {v w : V} {d e : PyData} (t : Tp K H v d) (u : Tp K H w e) (h : flatD d = true) (g : flatD e = true) : eqV v w = PyData.eqv d e := by
  cases t <;> first
    | (cases h; done)
    | (cases u <;> first | (cases g; done) | rfl | simp [eqV, PyData.eqv])
theorem in_tp {K : PySem.W.Frag} {H : Hp} {v : V} (t : Tp K H v d) (h : flatD d = true) : ∀ {vs : List V} {ds : List PyData}, TpAll K H vs ds → ds.all flatD = true → inV v vs = ds.any fun e => PyData.eqv e d
  | _, [], q, _ => by cases q; rfl
  | _, x :: ds, q, g => by
    cases q with
    | cons q1 q2 =>
      rw [List.all_cons, Bool.and_eq_true] at g
      have ih := in_tp t h q2 g.2
      unfold inV at ih ⊢
      rw [List.any_cons, List.any_cons, ih, eqv_tp q1 t g.1 h]
theorem ee_in (ha : EvE X δ a d) (hb : EvE X δ b (.tuple ds)) (h1 : flatD d = true := by rfl) (h2 : ds.all flatD = true := by rfl) (hm : behindInMarks .In b = false := by rfl) : EvE X δ (.Compare a [.In] [b] pos) (.bool (ds.any fun e => PyData.eqv e d)) :=
  ⟨fun pins s σ H Q I hs q => (pe_cmpR op_in_seq pe_ev pe_ev hm).run pins s σ H Q I
    ⟨δ, _, ha, hs, fun v H1 e1 t1 => ⟨δ, _, hb, hs.mono e1, fun w H2 e2 t2 => by
      obtain ⟨p, vs, rfl, g1, g2⟩ := t2.tup_inv
      refine ⟨p, vs, rfl, .inr g1, flat_tp t1 h1, flat_all g2 h2, ?_⟩
      have e := in_tp (t1.mono e2) h1 g2 h2
      rw [if_neg Bool.false_ne_true, e]
      exact q _ _ (e1.trans e2) (.bl _)⟩⟩⟩
theorem ee_notin (ha : EvE X δ a d) (hb : EvE X δ b (.tuple ds)) (h1 : flatD d = true := by rfl) (h2 : ds.all flatD = true := by rfl) (hm : behindInMarks .NotIn b = false := by rfl) : EvE X δ (.Compare a [.NotIn] [b] pos) (.bool (!ds.any fun e => PyData.eqv e d)) :=
  ⟨fun pins s σ H Q I hs q => (pe_cmpR op_notIn_seq pe_ev pe_ev hm).run pins s σ H Q I
    ⟨δ, _, ha, hs, fun v H1 e1 t1 => ⟨δ, _, hb, hs.mono e1, fun w H2 e2 t2 => by
      obtain ⟨p, vs, rfl, g1, g2⟩ := t2.tup_inv
      refine ⟨p, vs, rfl, .inr g1, flat_tp t1 h1, flat_all g2 h2, ?_⟩
      have e := in_tp (t1.mono e2) h1 g2 h2
      rw [if_pos rfl, e]
      exact q _ _ (e1.trans e2) (.bl _)⟩⟩⟩
/-! bools joined -/
theorem ee_and1 {op : BoolOp} (ha : EvE X δ a (.bool u)) : EvE X δ (.BoolOp op [a] pos) (.bool u) :=
  ⟨fun pins s σ H Q I hs q => (pe_one pe_ev).run pins s σ H Q I ⟨δ, _, ha, hs, q⟩⟩
theorem ee_and {rest : List Expr} (ha : EvE X δ a (.bool u)) (hb : u = true → EvE X δ (.BoolOp .And (b :: rest) pos) (.bool v)) : EvE X δ (.BoolOp .And (a :: b :: rest) pos) (.bool (u && v)) :=
  ⟨fun pins s σ H Q I hs q => (pe_and pe_ev pe_ev).run pins s σ H Q I ⟨δ, _, ha, hs, fun x H1 e1 t1 => ⟨u, t1.bl_inv, by
    cases u with
    | true => exact iteT ⟨δ, _, hb rfl, hs.mono e1, fun w H2 e2 t2 => q _ _ (e1.trans e2) t2⟩
    | false => exact iteF (q _ _ e1 (.bl _))⟩⟩⟩
theorem et_val (h : EvE X δ e (.bool u)) (he : ∀ whole, isTrue e X.env whole = (do let v ← whole; standAt e.pos; holding [v] (truthy v)) := by intro _; rfl) : EvT X δ e u :=
  ⟨fun pins s σ H Q I hs q => (pt_val pe_ev he).run pins s σ H Q I ⟨δ, _, h, hs, fun v H1 e1 t1 => ⟨u, t1.bl_inv, q _ e1⟩⟩⟩
theorem et_not (h : EvT X δ a u) : EvT X δ (.UnaryOp .Not a pos) (!u) := ⟨fun pins s σ H Q I hs q => (pt_not pt_ev).run pins s σ H Q I ⟨δ, _, h, hs, fun H1 e1 => q _ e1⟩⟩
theorem et_w (h : EvW X δ e u) : EvT X δ e u := ⟨fun pins s σ H Q I hs q => h.run _ pins s σ H Q I hs q⟩
theorem ew_and1 (h : EvT X δ a u) : EvW X δ (.BoolOp .And [a] pos) u := ⟨fun w pins s σ H Q I hs q => (pw_and1 pt_ev).run w pins s σ H Q I ⟨δ, _, h, hs, q⟩⟩
theorem ew_or1 (h : EvT X δ a u) : EvW X δ (.BoolOp .Or [a] pos) u := ⟨fun w pins s σ H Q I hs q => (pw_or1 pt_ev).run w pins s σ H Q I ⟨δ, _, h, hs, q⟩⟩
def tEw (X : Cx) (e : Expr) : TT := fun σ H Q => ∃ δ b, EvW X δ e b ∧ Sl X.K H σ δ ∧ ∀ H', Same H H' → Q b H'
theorem pw_ev {e : Expr} : PW X e (tEw X e) := ⟨fun w pins s σ H Q I h => let ⟨_, _, h1, h2, h3⟩ := h; h1.run w pins s σ H Q I h2 h3⟩
theorem ew_and {rest : List Expr} (ha : EvT X δ a u) (hb : u = true → EvW X δ (.BoolOp .And (b :: rest) pos) v) : EvW X δ (.BoolOp .And (a :: b :: rest) pos) (u && v) :=
  ⟨fun w pins s σ H Q I hs q => (pw_and pt_ev pw_ev).run w pins s σ H Q I ⟨δ, _, ha, hs, fun H1 e1 => by
    cases u with
    | true => exact iteT ⟨δ, _, hb rfl, hs.mono e1, fun H2 e2 => q _ (e1.trans e2)⟩
    | false => exact iteF (q _ e1)⟩⟩
theorem ew_or {rest : List Expr} (ha : EvT X δ a u) (hb : u = false → EvW X δ (.BoolOp .Or (b :: rest) pos) v) : EvW X δ (.BoolOp .Or (a :: b :: rest) pos) (u || v) :=
  ⟨fun w pins s σ H Q I hs q => (pw_or pt_ev pw_ev).run w pins s σ H Q I ⟨δ, _, ha, hs, fun H1 e1 => by
    cases u with
    | true => exact iteT (q _ e1)
    | false => exact iteF ⟨δ, _, hb rfl, hs.mono e1, fun H2 e2 => q _ (e1.trans e2)⟩⟩⟩
end
end K53
end
section
set_option maxRecDepth 100000
set_option maxHeartbeats 4000000
/-! Blocks and defs over data. -/
namespace K53
open PySem PySem.Spec PyProof.Rows L2

inductive Out where
  | nx (δ : Dl)
  | rt (d : PyData)
def Out.ok (K : PySem.W.Frag) (n : Nat) (H : Hp) (D : Ends) : Out → Prop
  | .nx δ => ∀ σ' H', σ'.length = n → Same H H' → Sl K H' σ' δ → D.nx σ' H'
  | .rt d => ∀ v H', Same H H' → Tp K H' v d → D.rt v H'
structure EvS (X : Cx) (δ : Dl) (st : Stmt) (o : Out) : Prop where
  run : ∀ (pins : List (Addr × Obj)) (s : Shared) (σ : L2.St) (H : Hp) (D : Ends), Inv X pins σ H s → Sl X.K H σ δ → o.ok X.K X.N.length H D → wpAny (model X.prog X.w) X.A (exec st X.env) (SP X pins D) X.xe s
structure EvSs (X : Cx) (δ : Dl) (sts : List Stmt) (o : Out) : Prop where
  run : ∀ (pins : List (Addr × Obj)) (s : Shared) (σ : L2.St) (H : Hp) (D : Ends), Inv X pins σ H s → Sl X.K H σ δ → o.ok X.K X.N.length H D → wpAny (model X.prog X.w) X.A (execs sts X.env) (SP X pins D) X.xe s
def tEs (X : Cx) (st : Stmt) : TS := fun D σ H => ∃ δ o, EvS X δ st o ∧ Sl X.K H σ δ ∧ o.ok X.K X.N.length H D
theorem ps_ev {X : Cx} {st : Stmt} : PS X st (tEs X st) := ⟨fun pins s σ H D I h => let ⟨_, _, h1, h2, h3⟩ := h; h1.run pins s σ H D I h2 h3⟩
def tEss (X : Cx) (sts : List Stmt) : TS := fun D σ H => ∃ δ o, EvSs X δ sts o ∧ Sl X.K H σ δ ∧ o.ok X.K X.N.length H D
theorem pss_ev {X : Cx} {sts : List Stmt} : PSs X sts (tEss X sts) := ⟨fun pins s σ H D I h => let ⟨_, _, h1, h2, h3⟩ := h; h1.run pins s σ H D I h2 h3⟩
theorem Out.ok_mono {K : PySem.W.Frag} {n : Nat} {H H' : Hp} {D : Ends} {o : Out} (e : Same H H') (h : o.ok K n H D) : o.ok K n H' D := by
  cases o with
  | nx δ => exact fun σ' H2 hl e2 s => h σ' H2 hl (e.trans e2) s
  | rt d => exact fun v H2 e2 t => h v H2 (e.trans e2) t
section
variable {X : Cx} {δ δ' : Dl} {N : List Str} {sc : Scope} {k : Nat} {e c : Expr} {st : Stmt} {rest body orelse : List Stmt} {d : PyData} {ds : List PyData} {o : Out} {pos px : Pos} {b : Bool}
theorem es_nil : EvSs X δ [] (.nx δ) := ⟨fun pins s σ H D I hs q => pss_nil.run pins s σ H D I (q σ H I.len (Same.refl H) hs)⟩
theorem es_cons (h1 : EvS X δ st (.nx δ')) (h2 : EvSs X δ' rest o) : EvSs X δ (st :: rest) o :=
  ⟨fun pins s σ H D I hs q => (pss_cons ps_ev pss_ev).run pins s σ H D I ⟨δ, .nx δ', h1, hs, fun σ' H1 _ e1 s1 => ⟨δ', o, h2, s1, Out.ok_mono e1 q⟩⟩⟩
theorem es_last (h1 : EvS X δ st (.rt d)) : EvSs X δ (st :: rest) (.rt d) :=
  ⟨fun pins s σ H D I hs q => (pss_cons (u := tNever) ps_ev pss_never).run pins s σ H D I ⟨δ, .rt d, h1, hs, q⟩⟩
theorem es_one (h1 : EvS X δ st o) : EvSs X δ [st] o :=
  ⟨fun pins s σ H D I hs q => (pss_one ps_ev).run pins s σ H D I ⟨δ, o, h1, hs, q⟩⟩
theorem es_ret (h : EvE X δ e d) : EvS X δ (.Return (some e) pos) (.rt d) :=
  ⟨fun pins s σ H D I hs q => (ps_ret pe_ev).run pins s σ H D I ⟨δ, d, h, hs, q⟩⟩
theorem es_if (hc : EvT X δ c b) (h1 : b = true → EvSs X δ body o) (h2 : b = false → EvSs X δ orelse o) : EvS X δ (.If c body orelse pos) o :=
  ⟨fun pins s σ H D I hs q => (ps_if pt_ev pss_ev pss_ev).run pins s σ H D I ⟨δ, b, hc, hs, fun H1 e1 => by
    cases b with
    | true => exact iteT ⟨δ, o, h1 rfl, hs.mono e1, Out.ok_mono e1 q⟩
    | false => exact iteF ⟨δ, o, h2 rfl, hs.mono e1, Out.ok_mono e1 q⟩⟩⟩
def locB (sc : Scope) (x : Str) : Bool := match sc.names.lookup x with
  | some .local => true
  | some .cell => true
  | _ => false
theorem loc_of {x : Str} (h : locB sc x = true) : L2.Loc sc x := by
  unfold locB at h
  unfold L2.Loc
  split at h
  · rename_i q; exact .inl q
  · rename_i q; exact .inr q
  · cases h
theorem BX.fnx (B : BX X N sc k) {x : Str} (h : locB sc x = true) : X.fn x = true ∨ X.env.scope.names.lookup x = some .local := by
  rcases B.fn x with z | z
  · exact .inl z
  · rcases loc_of h with q | q
    · right
      rcases B.fS x with y | ⟨y, _⟩
      · rw [y]; exact q
      · rw [q] at y; cases y
    · exact absurd q z
theorem BX.loc (B : BX X N sc k) {x : Str} (h : locB sc x = true) : L2.Loc X.env.scope x := by
  have v := loc_of h
  unfold L2.Loc at v ⊢
  rcases B.fS x with z | ⟨_, z⟩
  · rw [z]; exact v
  · exact .inr z
theorem BX.pgn (B : BX X N sc k) {i : Nat} {x : Str} (hN : N[i]? = some x) (hl : locB sc x = true) : PG X (.Name x pos) (gName i) :=
  pg_name (by rw [B.fN]; exact B.nd) (by rw [B.fN]; exact hN) (B.loc hl) (B.fnx hl)
theorem es_set (B : BX X N sc k) {i : Nat} {x : Str} (h : EvE X δ e d) (hN : N[i]? = some x := by rfl) (hl : locB sc x = true := by decide +kernel) (hs : swapsWith e (some (.Name x px)) pos.line X.env = pure false := by rfl) :
    EvS X δ (.Assign [.Name x px] e pos) (.nx (δ.set i (some d))) :=
  ⟨fun pins s σ H D I hd q => (ps_set (i := i) (by rw [B.fN]; exact B.nd) (by rw [B.fN]; exact hN) (B.loc hl) pe_ev hs (B.fnx hl)).run pins s σ H D I
    ⟨δ, d, h, hd, fun v H1 e1 t1 => q _ H1 (by rw [List.length_set]; exact I.len) e1 ((hd.mono e1).set t1 (by rw [I.len, B.fN]; exact (List.getElem?_eq_some_iff.mp hN).1))⟩⟩
/-! several names at once -/
def gNs : List Nat → TGs
  | [] => gNil
  | i :: r => gCons (gName i) (gNs r)
def setV : L2.St → List Nat → List V → L2.St
  | σ, i :: r, v :: vs => setV (σ.set i (some v)) r vs
  | σ, _, _ => σ
def setD : Dl → List Nat → List PyData → Dl
  | δ, i :: r, d :: ds => setD (δ.set i (some d)) r ds
  | δ, _, _ => δ
theorem gNs_ok : ∀ {is : List Nat} {vs : List V} {σ : L2.St} {H : Hp} {Q : L2.St → Hp → Prop}, vs.length = is.length → Q (setV σ is vs) H → gNs is vs σ H Q
  | [], [], _, _, _, _, q => ⟨rfl, q⟩
  | i :: is, v :: vs, σ, H, Q, hl, q => ⟨v, vs, rfl, gNs_ok (is := is) (by simpa using hl) q⟩
  | [], _ :: _, _, _, _, hl, _ => by simp at hl
  | _ :: _, [], _, _, _, hl, _ => by simp at hl
theorem setV_length : ∀ (is : List Nat) (vs : List V) (σ : L2.St), (setV σ is vs).length = σ.length
  | [], _, _ => rfl
  | _ :: _, [], _ => rfl
  | i :: is, v :: vs, σ => by unfold setV; rw [setV_length is vs, List.length_set]
theorem Sl.setAll {K : PySem.W.Frag} {H : Hp} : ∀ {is : List Nat} {vs : List V} {ds : List PyData} {σ : L2.St} {δ : Dl}, (∀ i ∈ is, i < σ.length) → Sl K H σ δ → TpAll K H vs ds → Sl K H (setV σ is vs) (setD δ is ds)
  | [], _, _, _, _, _, h, _ => h
  | i :: is, _, [], _, _, _, h, t => by cases t; exact h
  | i :: is, _, d :: ds, σ, δ, hi, h, t => by
    cases t with
    | cons t1 t2 =>
      exact Sl.setAll (is := is) (fun j hj => by rw [List.length_set]; exact hi j (List.mem_cons_of_mem _ hj)) (h.set t1 (hi i List.mem_cons_self)) t2
theorem es_unpack (B : BX X N sc k) {es : List Expr} {kk : Nat} (is : List Nat) (h : EvE X δ e (.tuple ds)) (hg : PGs X es (gNs is)) (hi : ∀ i ∈ is, i < N.length) (hl : ds.length = is.length)
    (hn : (assignEach es X.env).length = ds.length := by rfl) (hst : (assignEach es X.env).findIdx? (·.1) = none := by rfl) (hs : swapsWithSole [.Tuple es kk px] e pos.line X.env = pure false := by rfl) (hw : swappedStores [.Tuple es kk px] e X.env = pure none := by rfl)
    (h1 : (assignEach [.Tuple es kk px] X.env).map (·.2) = [assign (.Tuple es kk px) X.env] := by rfl) : EvS X δ (.Assign [.Tuple es kk px] e pos) (.nx (setD δ is ds)) :=
  ⟨fun pins s σ H D I hd q => (ps_asg pe_ev (pg_tup (n := ds.length) B.calm hg hn hst) hs hw h1).run pins s σ H D I
    ⟨δ, _, h, hd, fun v H1 e1 t1 => by
      obtain ⟨a, xs, rfl, g1, g2⟩ := t1.tup_inv
      exact ⟨a, xs, rfl, g1, g2.length, gNs_ok (by rw [g2.length, hl]) (q _ _ (by rw [setV_length]; exact I.len) e1 (Sl.setAll (fun i hx => by rw [I.len, B.fN]; exact hi i hx) (hd.mono e1) g2))⟩⟩⟩
end

/-! ### defs -/
/-- a def whose result is a datum of its arguments' data -/
def spD (K : PySem.W.Frag) (f : List PyData → PyData → Prop) : Sp := fun vs H Q _ => ∃ ds d, TpAll K H vs ds ∧ f ds d ∧ ∀ v H', Same H H' → Tp K H' v d → Q v H'
/-- a name of the module that is a def and keeps a promise -/
def Cal (K : PySem.W.Frag) (mg : Str → Option Value) (x : Str) (n : Nat) (k : Nat) (sp : Sp) : Prop := ∃ (f : Addr) (fd : FuncData) (ps : List Str), ps.length = n ∧ mg x = some (.ref f) ∧ PySem.W.keepIn K (.ref f) = true ∧ Binds K fd ps [] ∧ ∀ (P : Program) (w : World) (base : Heap), FnOk P w K mg base CX0 k f fd ps sp
/-- .. told of one world -/
def CalW (w : World) (K : PySem.W.Frag) (mg : Str → Option Value) (x : Str) (n : Nat) (k : Nat) (sp : Sp) : Prop := ∃ (f : Addr) (fd : FuncData) (ps : List Str), ps.length = n ∧ mg x = some (.ref f) ∧ PySem.W.keepIn K (.ref f) = true ∧ Binds K fd ps [] ∧ ∀ (P : Program) (base : Heap), FnOk P w K mg base CX0 k f fd ps sp
theorem Cal.w {K : PySem.W.Frag} {mg : Str → Option Value} {x : Str} {n k : Nat} {sp : Sp} (c : Cal K mg x n k sp) (w : World) : CalW w K mg x n k sp := let ⟨f, fd, ps, h1, h2, h3, h4, h5⟩ := c; ⟨f, fd, ps, h1, h2, h3, h4, fun P base => h5 P w base⟩
/-- a def of the text, as the top leaves it -/
def FunAt (K : PySem.W.Frag) (mg : Str → Option Value) (x : Str) (st : Stmt) (ps : List Str) : Prop := ∃ (f : Addr) (fd : FuncData), Fun K x x st f fd ∧ mg x = some (.ref f) ∧ Binds K fd ps []
section
variable {X : Cx} {δ : Dl} {N ps : List Str} {sc : Scope} {k j n : Nat} {e : Expr} {es : List Expr} {d : PyData} {ds : List PyData} {x : Str} {p pos : Pos} {f : List PyData → PyData → Prop} {K : PySem.W.Frag} {mg : Str → Option Value} {st : Stmt} {sp : Sp}
theorem ee_call (B : BX X N sc k) (C : Cal X.K X.mg x n j (spD X.K f)) (hj : j ≤ k) (hg : sc.names.lookup x = some .globalImplicit) (ha : EvA X δ (e :: es) ds) (hf : f ds d) (hdb : (x == ("__debug__" : Str)) = false := by decide)
    (he : starEach (e :: es) X.env = (false, eval e X.env) :: starEach es X.env := by rfl) (hpl : (backTo pos (starEach es X.env)).any (·.1) = false := by rfl) : EvE X δ (.Call (.Name x p) (e :: es) [] pos) d := by
  obtain ⟨fa, fd, ps, _, hm, hk, hb, F⟩ := C
  refine ⟨fun pins s σ H Q I hs q => (pe_call (F X.prog X.w X.base) (B.room.mono hj) (B.gl hg) hm hk hb .nil pass0 pa_ev hdb he hpl).run pins s σ H Q I ⟨δ, ds, ha, hs, fun vs H1 e1 t1 => ?_⟩⟩
  exact ⟨ds, d, by rw [List.append_nil]; exact t1, hf, fun v H2 e2 t2 => q v H2 (e1.trans e2) t2⟩
theorem ee_callW (B : BX X N sc k) (C : CalW X.w X.K X.mg x n j (spD X.K f)) (hj : j ≤ k) (hg : sc.names.lookup x = some .globalImplicit) (ha : EvA X δ (e :: es) ds) (hf : f ds d) (hdb : (x == ("__debug__" : Str)) = false := by decide)
    (he : starEach (e :: es) X.env = (false, eval e X.env) :: starEach es X.env := by rfl) (hpl : (backTo pos (starEach es X.env)).any (·.1) = false := by rfl) : EvE X δ (.Call (.Name x p) (e :: es) [] pos) d := by
  obtain ⟨fa, fd, ps, _, hm, hk, hb, F⟩ := C
  refine ⟨fun pins s σ H Q I hs q => (pe_call (F X.prog X.base) (B.room.mono hj) (B.gl hg) hm hk hb .nil pass0 pa_ev hdb he hpl).run pins s σ H Q I ⟨δ, ds, ha, hs, fun vs H1 e1 t1 => ?_⟩⟩
  exact ⟨ds, d, by rw [List.append_nil]; exact t1, hf, fun v H2 e2 t2 => q v H2 (e1.trans e2) t2⟩
/-- a promise shown by the body -/
theorem cal_ofW {w : World} (F : FunAt K mg x st ps) (S : FnScope N ps (defScope st)) (len : ∀ vs H Q E, sp vs H Q E → vs.length = ps.length)
    (body : ∀ X : Cx, X.K = K → X.mg = mg → X.w = w → BX X N (defScope st) k → ∀ (H : Hp) (vs : List V) (Q : VK) (E : XK), sp vs H Q E → ∃ t, PSs X (defBody st) t ∧ t { nx := fun _ H' => Q .non H', rt := Q } (L2.start N vs) H) : CalW w K mg x ps.length (k + 1) sp := by
  obtain ⟨fa, fd, Fu, hm, hb⟩ := F
  refine ⟨fa, fd, ps, rfl, hm, Fu.kp, hb, fun P base => Fu.ok S len fun cdv A outer s H vs Q E hr h => ?_⟩
  exact body _ rfl rfl rfl ⟨rfl, fun _ => .inl rfl, rfl, hr, S.nd, fun _ => .inl rfl, PassesOwn.never⟩ H vs Q E h
theorem cal_of (F : FunAt K mg x st ps) (S : FnScope N ps (defScope st)) (len : ∀ vs H Q E, sp vs H Q E → vs.length = ps.length)
    (body : ∀ X : Cx, X.K = K → X.mg = mg → BX X N (defScope st) k → ∀ (H : Hp) (vs : List V) (Q : VK) (E : XK), sp vs H Q E → ∃ t, PSs X (defBody st) t ∧ t { nx := fun _ H' => Q .non H', rt := Q } (L2.start N vs) H) : Cal K mg x ps.length (k + 1) sp := by
  obtain ⟨fa, fd, Fu, hm, hb⟩ := F
  refine ⟨fa, fd, ps, rfl, hm, Fu.kp, hb, fun P w base => Fu.ok S len fun cdv A outer s H vs Q E hr h => ?_⟩
  exact body _ rfl rfl ⟨rfl, fun _ => .inl rfl, rfl, hr, S.nd, fun _ => .inl rfl, PassesOwn.never⟩ H vs Q E h
theorem cal_dataW {w : World} (F : FunAt K mg x st ps) (S : FnScope N ps (defScope st)) (len : ∀ ds d, f ds d → ds.length = ps.length)
    (body : ∀ X : Cx, X.K = K → X.mg = mg → X.w = w → BX X N (defScope st) k → ∀ ds d, f ds d → ∃ o, EvSs X (ds.map some ++ List.replicate (N.length - ds.length) none) (defBody st) o ∧ (match o with | .rt d' => d' = d | .nx _ => d = .none)) : CalW w K mg x ps.length (k + 1) (spD K f) := by
  refine cal_ofW F S (fun vs H Q E h => ?_) fun X hK hM hW B H vs Q E h => ?_
  · obtain ⟨ds, d, t, hf, _⟩ := h
    rw [t.length, len ds d hf]
  · obtain ⟨ds, d, t, hf, q⟩ := h
    subst hK
    obtain ⟨o, hb, ho⟩ := body X rfl hM hW B ds d hf
    have hl := t.length
    refine ⟨_, pss_ev, _, o, hb, ?_, ?_⟩
    · unfold L2.start
      rw [hl]
      exact sl_start _ t
    · cases o with
      | rt d' => subst ho; exact fun v H' e1 t1 => q v H' e1 t1
      | nx δ' => subst ho; exact fun σ' H' _ e1 _ => q .non H' e1 .non
theorem cal_data (F : FunAt K mg x st ps) (S : FnScope N ps (defScope st)) (len : ∀ ds d, f ds d → ds.length = ps.length)
    (body : ∀ X : Cx, X.K = K → X.mg = mg → BX X N (defScope st) k → ∀ ds d, f ds d → EvSs X (ds.map some ++ List.replicate (N.length - ds.length) none) (defBody st) (.rt d)) : Cal K mg x ps.length (k + 1) (spD K f) := by
  refine cal_of F S (fun vs H Q E h => ?_) fun X hK hM B H vs Q E h => ?_
  · obtain ⟨ds, d, t, hf, _⟩ := h
    rw [t.length, len ds d hf]
  · obtain ⟨ds, d, t, hf, q⟩ := h
    subst hK
    refine ⟨_, pss_ev, _, _, body X rfl hM B ds d hf, ?_, fun v H' e1 t1 => q v H' e1 t1⟩
    have hl := t.length
    unfold L2.start
    rw [hl]
    exact sl_start _ t
end
/-- a constant of the module -/
def GlobD (K : PySem.W.Frag) (mg : Str → Option Value) (x : Str) (d : PyData) : Prop := ∃ (u : Value) (w : V), mg x = some u ∧ RelV w u ∧ ∀ H, Tp K H w d
theorem ee_const {X : Cx} {δ : Dl} {N : List Str} {sc : Scope} {k : Nat} {x : Str} {d : PyData} {pos : Pos} (B : BX X N sc k) (G : GlobD X.K X.mg x d) (hg : sc.names.lookup x = some .globalImplicit) (hd : (x == ("__debug__" : Str)) = false := by decide) : EvE X δ (.Name x pos) d := by
  obtain ⟨u, w, hm, r, t⟩ := G
  exact ee_glob B hg hm r t hd
/-! ### len, isinstance, all -/
section
variable {X : Cx} {δ : Dl} {N : List Str} {sc : Scope} {k : Nat} {e e2 : Expr} {ds : List PyData} {d : PyData} {p p2 pos : Pos}
theorem ee_len (B : BX X N sc k) (hm : X.mg "len" = none) (h : EvE X δ e (.tuple ds)) (hg : sc.names.lookup ("len" : Str) = some .globalImplicit := by decide +kernel)
    (he : starEach [e] X.env = (false, eval e X.env) :: starEach [] X.env := by rfl) : EvE X δ (.Call (.Name "len" p) [e] [] pos) (.int ds.length) :=
  ⟨fun pins s σ H Q I hs q => (pe_callB call_len_seq (B.gl hg) hm PySem.boot_len pa_ev (he := he)).run pins s σ H Q I
    ⟨δ, [_], ea_cons h ea_nil he, hs, fun vs H1 e1 t1 => by
      cases t1 with
      | cons t1 t2 =>
        cases t2
        obtain ⟨a, xs, rfl, h1, h2⟩ := t1.tup_inv
        exact ⟨a, xs, rfl, .inr h1, by rw [h2.length]; exact q _ _ e1 (.int _)⟩⟩⟩
/-- the type of a datum -/
def tyD : PyData → String
  | .none => "NoneType"
  | .bool _ => "bool"
  | .int _ => "int"
  | .str _ => "str"
  | .list _ => "list"
  | .tuple _ => "tuple"
  | .dict _ => "dict"
theorem ty_tp {K : PySem.W.Frag} {H : Hp} {v : V} (t : Tp K H v d) : TyX K H v (.type (tyD d)) := by
  cases t with
  | non => exact .base .non
  | bl b => exact .base (.bl b)
  | int i => exact .base (.int i)
  | str x => exact .base (.str x)
  | tup h _ =>
    rcases h with (h | ⟨o, h⟩) | ⟨o, its, n, h1, h2, _⟩
    · exact .base (.tup h)
    · exact .fTuple h
    · exact .kTuple h1 h2
theorem ee_isi (B : BX X N sc k) {T : Str} {ty : String} {b : Bool} (hm : X.mg "isinstance" = none) (hmT : X.mg T = none) (h : EvE X δ e d) (hb : kitB (tyD d) ty = some b) (hT : bootBuiltins T = some (.type ty))
    (hg : sc.names.lookup ("isinstance" : Str) = some .globalImplicit := by decide +kernel) (hgT : sc.names.lookup T = some .globalImplicit := by decide +kernel) (hn : T ≠ "__name__" := by decide) (hd : (T == ("__debug__" : Str)) = false := by decide)
    (he : starEach [e, .Name T p2] X.env = (false, eval e X.env) :: starEach [.Name T p2] X.env := by rfl) (hs2 : starEach [.Name T p2] X.env = (false, eval (.Name T p2) X.env) :: starEach [] X.env := by rfl)
    (hpl : (backTo pos (starEach [.Name T p2] X.env)).any (·.1) = false := by rfl) : EvE X δ (.Call (.Name "isinstance" p) [e, .Name T p2] [] pos) (.bool b) :=
  ⟨fun pins s σ H Q I hs q => (pe_callB call_isi (B.gl hg) hm (by decide +kernel) (pa_cons pe_ev (pa_cons (pe_bltn (v := .ty ty) (B.gl hgT) hmT hT rfl hn hd) pa_nil hs2) he) (he := he) (hpl := hpl)).run pins s σ H Q I
    ⟨δ, d, h, hs, fun v H1 e1 t1 => ⟨v, .ty ty, _, _, b, rfl, .ty ty, ty_tp t1, kit_ty hb, q _ _ e1 (.bl b)⟩⟩⟩
end
end K53
end
section
set_option maxRecDepth 100000
set_option maxHeartbeats 4000000
/-! Tracks and presses as data. -/
namespace K53
open PySem PySem.Spec PyProof.Rows L2

def Md.str : Md → Str
  | .empty => "empty"
  | .record => "record"
  | .play => "play"
  | .dub => "dub"
  | .stop => "stop"
def tI (c : List Int) : PyData := .tuple (c.map .int)
def tL (ls : List (List Int)) : PyData := .tuple (ls.map tI)
def Trk.fs (t : Trk) : List PyData := [.str t.m.str, tL t.ls, tL t.us, .int t.p, .int t.w, .int t.pc, .int t.s, .bool t.mu]
def Trk.d (t : Trk) : PyData := .tuple t.fs
def Pr.str : Pr → Str
  | .clear => "clear"
  | .flip => "flip"
  | .join => "join"
  | .mute => "mute"
  | .p1 => "pace"
  | .p2 => "pace"
  | .p4 => "pace"
  | .redo => "redo"
  | .stop => "stop"
  | .tap => "tap"
  | .turn => "turn"
  | .undo => "undo"
def Pr.fs : Pr → List PyData
  | .p1 => [.str "pace", .int 0, .int 1]
  | .p2 => [.str "pace", .int 0, .int 2]
  | .p4 => [.str "pace", .int 0, .int 4]
  | p => [.str p.str, .int 0]
def Pr.d (p : Pr) : PyData := .tuple p.fs
def wayD (ps : Way) : PyData := .tuple (ps.map Pr.d)

/-! ### == -/
theorem eqvAll_map {α : Type} [DecidableEq α] {f : α → PyData} (h : ∀ a b, PyData.eqv (f a) (f b) = decide (a = b)) : ∀ xs ys : List α, PyData.eqvAll (xs.map f) (ys.map f) = decide (xs = ys)
  | [], [] => rfl
  | [], _ :: _ => rfl
  | _ :: _, [] => rfl
  | x :: xs, y :: ys => by
    show (PyData.eqv (f x) (f y) && PyData.eqvAll (xs.map f) (ys.map f)) = _
    rw [h, eqvAll_map h xs ys]
    by_cases e : x = y <;> by_cases e2 : xs = ys <;> simp [e, e2]
theorem eqv_int (a b : Int) : PyData.eqv (.int a) (.int b) = decide (a = b) := by
  show (a == b) = _
  by_cases e : a = b <;> simp [e]
theorem eqv_str (a b : Str) : PyData.eqv (.str a) (.str b) = decide (a = b) := by
  show (a == b) = _
  by_cases e : a = b <;> simp [e]
theorem eqv_bool (a b : Bool) : PyData.eqv (.bool a) (.bool b) = decide (a = b) := by cases a <;> cases b <;> rfl
theorem eqv_tI (a b : List Int) : PyData.eqv (tI a) (tI b) = decide (a = b) := by
  show PyData.eqvAll (a.map .int) (b.map .int) = _
  exact eqvAll_map eqv_int a b
theorem eqv_tL (a b : List (List Int)) : PyData.eqv (tL a) (tL b) = decide (a = b) := by
  show PyData.eqvAll (a.map tI) (b.map tI) = _
  exact eqvAll_map eqv_tI a b
theorem md_str_inj : ∀ {a b : Md}, a.str = b.str → a = b := by
  intro a b h
  cases a <;> cases b <;> first | rfl | exact absurd h (by decide +kernel)
theorem eqv_md (a b : Md) : PyData.eqv (.str a.str) (.str b.str) = decide (a = b) := by
  rw [eqv_str]
  by_cases e : a = b
  · simp [e]
  · rw [decide_eq_false e, decide_eq_false fun z => e (md_str_inj z)]
theorem eqv_trk (a b : Trk) : PyData.eqv a.d b.d = decide (a = b) := by
  obtain ⟨m, ls, us, p, w, pc, s, mu⟩ := a
  obtain ⟨m', ls', us', p', w', pc', s', mu'⟩ := b
  show (PyData.eqv (.str m.str) (.str m'.str) && (PyData.eqv (tL ls) (tL ls') && (PyData.eqv (tL us) (tL us') && (PyData.eqv (.int p) (.int p') && (PyData.eqv (.int w) (.int w') && (PyData.eqv (.int pc) (.int pc') && (PyData.eqv (.int s) (.int s') && (PyData.eqv (.bool mu) (.bool mu') && true)))))))) = _
  rw [eqv_md, eqv_tL, eqv_tL, eqv_int, eqv_int, eqv_int, eqv_int, eqv_bool]
  rw [Bool.eq_iff_iff]
  simp only [Bool.and_eq_true, decide_eq_true_eq, Trk.mk.injEq, and_true]
theorem eqv_pr (a b : Pr) : PyData.eqv a.d b.d = decide (a = b) := by
  cases a <;> cases b <;> decide +kernel
theorem eqv_way (a b : Way) : PyData.eqv (wayD a) (wayD b) = decide (a = b) := by
  show PyData.eqvAll (a.map Pr.d) (b.map Pr.d) = _
  exact eqvAll_map eqv_pr a b

/-! ### shapes -/
theorem lay_ints : ∀ c : List Int, PyData.canLayAll0 (c.map .int) = true
  | [] => rfl
  | x :: c => by
    show (PyData.canLay0 (.int x) && PyData.canLayAll0 (c.map .int)) = true
    rw [lay_ints c]; rfl
theorem dep_ints : ∀ c : List Int, PyData.depthAll (c.map .int) = 0
  | [] => rfl
  | x :: c => by
    show max (PyData.depth (.int x)) (PyData.depthAll (c.map .int)) = 0
    rw [dep_ints c]; rfl
theorem lay_tL : ∀ ls : List (List Int), PyData.canLayAll0 (ls.map tI) = true
  | [] => rfl
  | x :: c => by
    show (PyData.canLay0 (tI x) && PyData.canLayAll0 (c.map tI)) = true
    rw [lay_tL c, show PyData.canLay0 (tI x) = true from lay_ints x]; rfl
theorem dep_tI (c : List Int) : PyData.depth (tI c) = 1 := by
  show PyData.depthAll (c.map .int) + 1 = 1
  rw [dep_ints]
theorem dep_tL : ∀ ls : List (List Int), PyData.depthAll (ls.map tI) ≤ 1
  | [] => Nat.zero_le _
  | x :: c => by
    show max (PyData.depth (tI x)) (PyData.depthAll (c.map tI)) ≤ 1
    have := dep_tL c
    rw [dep_tI]; omega
theorem sh_of {d : PyData} (h : PyData.canLay0 d = true) (h2 : PyData.depth d ≤ 64) : SeqAt.shaped d = true := by
  unfold SeqAt.shaped
  rw [h, decide_eq_true h2]; rfl
theorem sh_tI (c : List Int) : SeqAt.shaped (tI c) = true := sh_of (lay_ints c) (by rw [dep_tI]; decide)
theorem sh_tL (ls : List (List Int)) : SeqAt.shaped (tL ls) = true := sh_of (lay_tL ls) (by
  show PyData.depthAll (ls.map tI) + 1 ≤ 64
  have := dep_tL ls; omega)
theorem sh_int (i : Int) : SeqAt.shaped (.int i) = true := rfl
theorem sh_bool (i : Bool) : SeqAt.shaped (.bool i) = true := rfl
theorem ok_md (m : Md) : PyData.canLay0 (.str m.str) = true := by cases m <;> decide +kernel
theorem ok_prs (m : Pr) : PyData.canLay0 (.str m.str) = true := by cases m <;> decide +kernel
theorem sh_md (m : Md) : SeqAt.shaped (.str m.str) = true := sh_of (ok_md m) (Nat.zero_le _)
theorem lay_trk (t : Trk) : PyData.canLay0 t.d = true := by
  show (PyData.canLay0 (.str t.m.str) && (PyData.canLay0 (tL t.ls) && (PyData.canLay0 (tL t.us) && true))) = true
  rw [show PyData.canLay0 (.str t.m.str) = true from ok_md t.m, show PyData.canLay0 (tL t.ls) = true from lay_tL t.ls, show PyData.canLay0 (tL t.us) = true from lay_tL t.us]; rfl
theorem dep_trk (t : Trk) : PyData.depth t.d ≤ 3 := by
  show max 0 (max (PyData.depthAll (t.ls.map tI) + 1) (max (PyData.depthAll (t.us.map tI) + 1) 0)) + 1 ≤ 3
  have h1 := dep_tL t.ls
  have h2 := dep_tL t.us
  omega
theorem sh_trk (t : Trk) : SeqAt.shaped t.d = true := sh_of (lay_trk t) (by have := dep_trk t; omega)
theorem lay_pr (p : Pr) : PyData.canLay0 p.d = true := by cases p <;> decide +kernel
theorem dep_pr (p : Pr) : PyData.depth p.d = 1 := by cases p <;> decide +kernel
theorem lay_way : ∀ ps : Way, PyData.canLayAll0 (ps.map Pr.d) = true
  | [] => rfl
  | p :: ps => by
    show (PyData.canLay0 p.d && PyData.canLayAll0 (ps.map Pr.d)) = true
    rw [lay_pr, lay_way ps]; rfl
theorem dep_way : ∀ ps : Way, PyData.depthAll (ps.map Pr.d) ≤ 1
  | [] => Nat.zero_le _
  | p :: ps => by
    show max (PyData.depth p.d) (PyData.depthAll (ps.map Pr.d)) ≤ 1
    have := dep_way ps
    rw [dep_pr]; omega
theorem sh_way (ps : Way) : SeqAt.shaped (wayD ps) = true := sh_of (lay_way ps) (by
  show PyData.depthAll (ps.map Pr.d) + 1 ≤ 64
  have := dep_way ps; omega)
theorem sh_pr (p : Pr) : SeqAt.shaped p.d = true := sh_of (lay_pr p) (by rw [dep_pr]; decide)

/-! ### the text -/
def topS (i : Nat) : Stmt := PySem.Challenge.pw_pedalrounds_k53_whole_ways.main.body.getD i (.Pass ⟨0, 0, 0, 0⟩)
end K53
end
section
set_option maxRecDepth 100000
set_option maxHeartbeats 4000000
/-! (x,) * n; short forms of tests; blocks with an early return. -/
namespace K53
open PySem PySem.Spec PyProof.Rows L2
/-- t * 1 is t -/
theorem mul_one_meets (l : Addr) (items : Array Value) (n : Nat) (dd : Option Addr) (sl : Array (Option Value)) (u : Tok) :
    Meets (Builtin.«tuple.__mul__» ⟨[.ref l, .int 1 u], []⟩) (fun _ R s => s.heap.get? l = some { cls := .type "tuple", dict := dd, data := .seq items n, slots := sl } ∧ R (.ok (.ret (Value.ref l))) s) :=
  .of_wp fun prog w A R s h => by
    obtain ⟨hp, g, d, tk, os⟩ := s
    obtain ⟨hl, h⟩ := h
    have f1 := AutoSeq1.idx_int
    wp_walk using wpAny_loadPart' hl
    exact ⟨_, rfl, h⟩
def rRep1 (K : PySem.W.Frag) : R2 := fun x y H Q => ∃ l xs, x = .ref l ∧ y = .int 1 ∧ SqT K H l xs ∧ Q (.ref l) H
section
variable {X : Cx}
theorem op_rep1 : OpR X (binaryOp .Mult) (rRep1 X.K) := by
  intro pins s σ H x y v u Q I rx ry h
  obtain ⟨l, xs, rfl, rfl, hT, q⟩ := h
  cases rx
  obtain ⟨t, rfl⟩ := ry
  obtain ⟨its, r, ⟨⟨cls, dd, data, sl⟩, ho, hc, n, hd⟩, hs⟩ := I.tuple hT
  simp only at hc hd
  subst hc hd
  have hTy : s.TypeIs (.ref l) "tuple" := ⟨_, ho, rfl⟩
  have back : wpAny (model X.prog X.w) X.A (call (.builtin "tuple.__mul__") [.ref l, .int 1 t]) (EP X pins σ Q) X.xe s :=
    call_meets F.slot_tuple_mul hTy F.entry_tuple_mul (F.args_tuple_mul_2 _ _) (mul_one_meets l its.toArray n dd sl t) ⟨ho, .ref l, H, I, rfl, q⟩
  exact wpAny_binaryOp_repeat_ref (T := "tuple") (U := "int") (by decide) hTy (fun s' => typeIs_int s' 1 t) noFill_tuple_mul F.fills_int_mul F.slot_int_rmul repeat_tuple F.slot_int_index.lookup
    (call_meets F.slot_int_rmul (typeIs_int s 1 t) F.entry_int_rmul (F.args_int_rmul_2 _ _) (int_rmul_tuple 1 t l its.toArray n dd sl) ⟨ho, rfl, hTy, back⟩)
end
section
variable {X : Cx} {δ : Dl} {N : List Str} {sc : Scope} {k : Nat} {e a b c : Expr} {d d' : PyData} {ds : List PyData} {pos : Pos} {u v : Bool} {body rest : List Stmt}
theorem ee_rep {n : Nat} (ha : EvE X δ a (.tuple [d])) (hb : EvE X δ b (.int (n : Int))) (h1 : 1 ≤ n) (h2 : n ≤ 64) : EvE X δ (.BinOp a .Mult b pos) (.tuple (List.replicate n d)) := by
  by_cases e : n = 1
  · subst e
    exact ⟨fun pins s σ H Q I hs q => (pe_op op_rep1 pe_ev pe_ev).run pins s σ H Q I
      ⟨δ, _, ha, hs, fun v H1 e1 t1 => ⟨δ, _, hb, hs.mono e1, fun w H2 e2 t2 => by
        obtain ⟨p, xs, rfl, g1, g2⟩ := t1.tup_inv
        exact ⟨p, xs, rfl, t2.int_inv, kp_sqt (Kp.of e2) g1, q _ _ (e1.trans e2) (t1.mono e2)⟩⟩⟩⟩
  · exact ⟨fun pins s σ H Q I hs q => (pe_op op_repT pe_ev pe_ev).run pins s σ H Q I
      ⟨δ, _, ha, hs, fun v H1 e1 t1 => ⟨δ, _, hb, hs.mono e1, fun w H2 e2 t2 => by
        obtain ⟨p, xs, rfl, g1, g2⟩ := t1.tup_inv
        have hl := g2.length
        refine ⟨p, (n : Int), xs, rfl, t2.int_inv, kp_sqt (Kp.of e2) g1, fun z => by rw [z] at hl; simp at hl, by omega, by omega, by rw [hl]; simp, fun r hr => q _ _ (e1.trans (e2.trans (same_new hr))) ?_⟩
        refine tp_new hr ?_
        cases g2 with
        | cons g3 g4 =>
          cases g4
          have e3 : ((n : Int).toNat) = n := by simp
          rw [e3]
          have key : ∀ m : Nat, TpAll X.K H2 (List.replicate m [_]).flatten (List.replicate m d) := fun m => by
            induction m with
            | zero => exact .nil
            | succ m ih => exact .cons (g3.mono e2) ih
          exact key n⟩⟩⟩
theorem EvE.cast (h : EvE X δ e d) (q : d = d') : EvE X δ e d' := q ▸ h
theorem EvT.cast (h : EvT X δ e u) (q : u = v) : EvT X δ e v := q ▸ h
/-- a leaf -/
theorem es_fin (h : EvE X δ e d) (q : d = d') : EvSs X δ (.Return (some e) pos :: rest) (.rt d') := es_last (es_ret (h.cast q))
/-- if c: .. return ..; and what follows otherwise -/
theorem es_cif (hc : EvT X δ c u) (h1 : u = true → EvSs X δ body (.rt d)) (h2 : u = false → EvSs X δ rest (.rt d)) : EvSs X δ (.If c body [] pos :: rest) (.rt d) := by
  cases u with
  | true => exact es_last (es_if hc (fun _ => h1 rfl) fun z => nomatch z)
  | false => exact es_cons (es_if (o := .nx δ) hc (fun z => nomatch z) fun _ => es_nil) (h2 rfl)
/-- a comparison by data, as a test -/
def CmpR (X : Cx) (op : CmpOp) (d e : PyData) (u : Bool) : Prop := ∃ r : R2, OpR X (compareOp op) r ∧ ∀ (H : Hp) (v w : V) (Q : VK), Tp X.K H v d → Tp X.K H w e → Q (.bl u) H → r v w H Q
theorem et_cmp {op : CmpOp} {e : PyData} (hc : CmpR X op d e u) (ha : EvE X δ a d) (hb : EvE X δ b e) (hm : behindInMarks op b = false) : EvT X δ (.Compare a [op] [b] pos) u := by
  obtain ⟨r, ho, hr⟩ := hc
  exact ⟨fun pins s σ H Q I hs q => (pt_cmpR ho pe_ev pe_ev hm).run pins s σ H Q I
    ⟨δ, _, ha, hs, fun v H1 e1 t1 => ⟨δ, _, hb, hs.mono e1, fun w H2 e2 t2 => hr H2 v w _ (t1.mono e2) t2 ⟨u, rfl, q _ (e1.trans e2)⟩⟩⟩⟩
theorem cmp_eq (B : BX X N sc k) {e : PyData} (h1 : SeqAt.shaped d = true) (h2 : SeqAt.shaped e = true) (h : PyData.eqv d e = u) : CmpR X .Eq d e u :=
  ⟨_, op_eqD B.room.units, fun H v w Q t1 t2 q => ⟨d, e, t1.dp, t2.dp, h1, h2, by rw [h]; exact q⟩⟩
theorem cmp_ne (B : BX X N sc k) {e : PyData} (h1 : SeqAt.shaped d = true) (h2 : SeqAt.shaped e = true) (h : PyData.eqv d e = u) : CmpR X .NotEq d e (!u) :=
  ⟨_, op_neD B.room.units, fun H v w Q t1 t2 q => ⟨d, e, t1.dp, t2.dp, h1, h2, by rw [h]; exact q⟩⟩
theorem cmp_in {ds : List PyData} (h1 : flatD d = true) (h2 : ds.all flatD = true) (h : (ds.any fun e => PyData.eqv e d) = u) : CmpR X .In d (.tuple ds) u :=
  ⟨_, op_in_seq, fun H v w Q t1 t2 q => by
    obtain ⟨p, vs, rfl, g1, g2⟩ := t2.tup_inv
    refine ⟨p, vs, rfl, .inr g1, flat_tp t1 h1, flat_all g2 h2, ?_⟩
    rw [if_neg Bool.false_ne_true, in_tp t1 h1 g2 h2, h]
    exact q⟩
theorem cmp_nin {ds : List PyData} (h1 : flatD d = true) (h2 : ds.all flatD = true) (h : (ds.any fun e => PyData.eqv e d) = u) : CmpR X .NotIn d (.tuple ds) (!u) :=
  ⟨_, op_notIn_seq, fun H v w Q t1 t2 q => by
    obtain ⟨p, vs, rfl, g1, g2⟩ := t2.tup_inv
    refine ⟨p, vs, rfl, .inr g1, flat_tp t1 h1, flat_all g2 h2, ?_⟩
    rw [if_pos rfl, in_tp t1 h1 g2 h2, h]
    exact q⟩
theorem cmp_lt {i j : Int} : CmpR X .Lt (.int i) (.int j) (decide (i < j)) := ⟨_, op_lt, fun H v w Q t1 t2 q => ⟨i, j, t1.int_inv, t2.int_inv, q⟩⟩
theorem cmp_gt {i j : Int} : CmpR X .Gt (.int i) (.int j) (decide (j < i)) := ⟨_, op_gt, fun H v w Q t1 t2 q => ⟨i, j, t1.int_inv, t2.int_inv, q⟩⟩
theorem et_lt {i j : Int} (h : EvE X δ a (.int i)) (hb : EvE X δ b (.int j)) : EvT X δ (.Compare a [.Lt] [b] pos) (decide (i < j)) := et_cmp cmp_lt h hb (nomark _)
theorem et_gt {i j : Int} (h : EvE X δ a (.int i)) (hb : EvE X δ b (.int j)) : EvT X δ (.Compare a [.Gt] [b] pos) (decide (j < i)) := et_cmp cmp_gt h hb (nomark _)
theorem et_chain {i j l : Int} {c : Expr} (ha : EvE X δ a (.int i)) (hb : EvE X δ b (.int j)) (hc : EvE X δ c (.int l)) (hm : lastMarks [.LtE, .LtE] [b, c] = false := by with_unfolding_all rfl) :
    EvT X δ (.Compare a [.LtE, .LtE] [b, c] pos) (decide (i ≤ j ∧ j ≤ l)) :=
  ⟨fun pins s σ H Q I hs q => (pt_chain op_le op_le pe_ev pe_ev pe_ev hm).run pins s σ H Q I
    ⟨δ, _, ha, hs, fun v H1 e1 t1 => ⟨δ, _, hb, hs.mono e1, fun w H2 e2 t2 => ⟨i, j, t1.int_inv, t2.int_inv, _, rfl, by
      by_cases h1 : i ≤ j
      · rw [decide_eq_true h1]
        refine iteT ⟨δ, _, hc, hs.mono (e1.trans e2), fun z H3 e3 t3 => ⟨j, l, t2.int_inv, t3.int_inv, _, rfl, ?_⟩⟩
        have e : decide (i ≤ j ∧ j ≤ l) = decide (j ≤ l) := by simp [h1]
        rw [e] at q
        exact q _ ((e1.trans e2).trans e3)
      · rw [decide_eq_false h1]
        refine iteF ⟨_, rfl, ?_⟩
        have e : decide (i ≤ j ∧ j ≤ l) = false := by simp [h1]
        rw [e] at q
        exact q _ (e1.trans e2)⟩⟩⟩⟩
/-- tests of a mode, of layers -/
theorem et_md (B : BX X N sc k) {m : Md} (m' : Md) (h : EvE X δ a (.str m.str)) (hb : EvE X δ b (.str m'.str)) : EvT X δ (.Compare a [.Eq] [b] pos) (decide (m = m')) :=
  et_cmp (cmp_eq B (sh_md _) (sh_md _) (eqv_md m m')) h hb (nomark _)
theorem et_mdn (B : BX X N sc k) {m : Md} (m' : Md) (h : EvE X δ a (.str m.str)) (hb : EvE X δ b (.str m'.str)) : EvT X δ (.Compare a [.NotEq] [b] pos) (!decide (m = m')) :=
  et_cmp (cmp_ne B (sh_md _) (sh_md _) (eqv_md m m')) h hb (nomark _)
theorem et_ls (B : BX X N sc k) {x : List (List Int)} (y : List (List Int)) (h : EvE X δ a (tL x)) (hb : EvE X δ b (tL y)) : EvT X δ (.Compare a [.Eq] [b] pos) (decide (x = y)) :=
  et_cmp (cmp_eq B (sh_tL _) (sh_tL _) (eqv_tL x y)) h hb (nomark _)
theorem et_lsn (B : BX X N sc k) {x : List (List Int)} (y : List (List Int)) (h : EvE X δ a (tL x)) (hb : EvE X δ b (tL y)) : EvT X δ (.Compare a [.NotEq] [b] pos) (!decide (x = y)) :=
  et_cmp (cmp_ne B (sh_tL _) (sh_tL _) (eqv_tL x y)) h hb (nomark _)
theorem et_eqI (B : BX X N sc k) {i j : Int} (h : EvE X δ a (.int i)) (hb : EvE X δ b (.int j)) : EvT X δ (.Compare a [.Eq] [b] pos) (decide (i = j)) :=
  et_cmp (cmp_eq B (sh_int _) (sh_int _) (eqv_int i j)) h hb (nomark _)
theorem et_neI (B : BX X N sc k) {i j : Int} (h : EvE X δ a (.int i)) (hb : EvE X δ b (.int j)) : EvT X δ (.Compare a [.NotEq] [b] pos) (!decide (i = j)) :=
  et_cmp (cmp_ne B (sh_int _) (sh_int _) (eqv_int i j)) h hb (nomark _)
def looping3 : List PyData := [.str "play", .str "dub", .str "stop"]
def rests2 : List PyData := [.str "play", .str "stop"]
theorem any_loops (m : Md) : (looping3.any fun e => PyData.eqv e (.str m.str)) = m.loops := by cases m <;> decide +kernel
theorem any_rests (m : Md) : (rests2.any fun e => PyData.eqv e (.str m.str)) = m.rests := by cases m <;> decide +kernel
theorem et_loops {m : Md} (h : EvE X δ a (.str m.str)) (hb : EvE X δ b (.tuple looping3)) (hm : behindInMarks .In b = false := by rfl) : EvT X δ (.Compare a [.In] [b] pos) m.loops :=
  et_cmp (cmp_in rfl rfl (any_loops m)) h hb hm
theorem et_nloops {m : Md} (h : EvE X δ a (.str m.str)) (hb : EvE X δ b (.tuple looping3)) (hm : behindInMarks .NotIn b = false := by rfl) : EvT X δ (.Compare a [.NotIn] [b] pos) (!m.loops) :=
  et_cmp (cmp_nin rfl rfl (any_loops m)) h hb hm
theorem et_nrests {m : Md} (h : EvE X δ a (.str m.str)) (hb : EvE X δ b (.tuple rests2)) (hm : behindInMarks .NotIn b = false := by rfl) : EvT X δ (.Compare a [.NotIn] [b] pos) (!m.rests) :=
  et_cmp (cmp_nin rfl rfl (any_rests m)) h hb hm
end
end K53
end
section
set_option maxRecDepth 100000
set_option maxHeartbeats 4000000
/-! What each press does, by the program's defs. -/
namespace K53
open PySem PySem.Spec PyProof.Rows L2
/-- a def of one track -/
def fT (g : Trk → Trk) (ok : Trk → Prop) : List PyData → PyData → Prop := fun ds d => ∃ t, ok t ∧ ds = [t.d] ∧ d = (g t).d
def fClosed : List PyData → PyData → Prop := fun ds d => ∃ (t : Trk) (m : Md), ds = [t.d, .str m.str] ∧ d = (closed t m).d
theorem fT_len {g : Trk → Trk} {ok : Trk → Prop} : ∀ ds d, fT g ok ds d → ds.length = ["track"].length := fun ds d h => by obtain ⟨t, _, rfl, _⟩ := h; rfl
section
variable {K : PySem.W.Frag} {mg : Str → Option Value}
abbrev N_closed : List Str := ["track", "mode"]
theorem sc_closed : FnScope N_closed ["track", "mode"] (defScope (topS 22)) := ⟨rfl, rfl, rfl, by decide +kernel, rfl, by decide +kernel, by decide +kernel⟩
theorem C_closed (F : FunAt K mg "closed" (topS 22) ["track", "mode"]) (G_EMPTY : GlobD K mg "EMPTY" EMP.d) : Cal K mg "closed" 2 1 (spD K fClosed) :=
  cal_data (k := 0) F sc_closed (fun ds d h => by obtain ⟨t, m, rfl, _⟩ := h; rfl) fun X hK hM B ds d h => by
    subst hK hM
    obtain ⟨t, m, rfl, rfl⟩ := h
    refine es_fin (ee_if (et_ls B [[]] (ee_ix (ee_name B (i := 0) rfl rfl) ee_int rfl) (ee_tup (ea_cons (ee_tup ea_nil) ea_nil))) (fun c => (ee_const B G_EMPTY (by decide +kernel)).cast ?_)
      (fun c => (ee_cat (ee_tup (ea_cons (ee_name B (i := 1) rfl rfl) ea_nil)) (ee_sl (ee_name B (i := 0) rfl rfl) (eo_some ee_int) eo_none) ?_).cast ?_)) rfl
    · unfold closed; rw [if_pos (of_decide_eq_true c)]
    · exact Nat.le_of_ble_eq_true rfl
    · unfold closed; rw [if_neg (of_decide_eq_false c)]; rfl

/-- the leaves of a mode -/
theorem head_at {ls : List (List Int)} (h : 1 ≤ ls.length) : atI (ls.map tI) 0 = some (tI (ls.headD [])) := by
  cases ls with
  | nil => simp at h
  | cons a r => exact atI_nat (j := 0) rfl
theorem tI_zeros (n : Nat) : PyData.tuple (List.replicate n (.int 0)) = tI (List.replicate n 0) := by
  unfold tI; rw [List.map_replicate]
theorem tL_snoc (ls : List (List Int)) (x : List Int) : PyData.tuple (ls.map tI ++ [tI x]) = tL (ls ++ [x]) := by
  unfold tL; rw [List.map_append]; rfl
abbrev N_tapped : List Str := ["track", "mode", "layers", "undone", "point", "way", "pace", "sign", "muted"]
theorem sc_tapped : FnScope N_tapped ["track"] (defScope (topS 23)) := ⟨rfl, rfl, rfl, by decide +kernel, rfl, by decide +kernel, by decide +kernel⟩
theorem C_tapped (F : FunAt K mg "tapped" (topS 23) ["track"]) (C_closed : Cal K mg "closed" 2 1 (spD K fClosed)) (G_ML : GlobD K mg "MOST_LAYERS" (.int 4)) (m_len : mg "len" = none) : Cal K mg "tapped" 1 2 (spD K (fT tap Ok)) :=
  cal_data (k := 1) F sc_tapped fT_len fun X hK hM B ds d h => by
    subst hK hM
    obtain ⟨t, ok, rfl, rfl⟩ := h
    have hlo : t.m = .play → ∃ n, LoopOk t n := fun e => ok.loop (by rw [e]; rfl)
    obtain ⟨m, ls, us, p, w, pc, s, mu⟩ := t
    refine es_cons (es_unpack B [1, 2, 3, 4, 5, 6, 7, 8] (ee_name B (i := 0) rfl rfl) (pgs_cons (B.pgn (i := 1) rfl (by decide +kernel)) (pgs_cons (B.pgn (i := 2) rfl (by decide +kernel)) (pgs_cons (B.pgn (i := 3) rfl (by decide +kernel)) (pgs_cons (B.pgn (i := 4) rfl (by decide +kernel)) (pgs_cons (B.pgn (i := 5) rfl (by decide +kernel)) (pgs_cons (B.pgn (i := 6) rfl (by decide +kernel)) (pgs_cons (B.pgn (i := 7) rfl (by decide +kernel)) (pgs_cons (B.pgn (i := 8) rfl (by decide +kernel)) pgs_nil)))))))) (by decide) rfl) ?_
    refine es_cif (et_md B .empty (ee_name B (i := 1) rfl rfl) ee_str) (fun c => es_fin (ee_cat (ee_tup (ea_cons ee_str (ea_cons (ee_tup (ea_cons (ee_tup ea_nil) ea_nil)) ea_nil))) (ee_sl (ee_name B (i := 0) rfl rfl) (eo_some ee_int) eo_none) ?_) ?_) fun c1 => ?_
    · exact Nat.le_of_ble_eq_true rfl
    · have e : m = .empty := of_decide_eq_true c
      subst e; rfl
    refine es_cif (et_md B .record (ee_name B (i := 1) rfl rfl) ee_str) (fun c => es_fin (ee_call B C_closed (by decide) (by decide +kernel) (ea_cons (ee_name B (i := 0) rfl rfl) (ea_cons ee_str ea_nil)) ⟨_, .play, rfl, rfl⟩) ?_) fun c2 => ?_
    · have e : m = .record := of_decide_eq_true c
      subst e; rfl
    refine es_cif (et_md B .play (ee_name B (i := 1) rfl rfl) ee_str) (fun c => ?_) fun c3 => ?_
    · have e : m = .play := of_decide_eq_true c
      subst e
      obtain ⟨n, L⟩ := hlo rfl
      have hn := headD_length L.ne L.ll
      refine es_cif (et_eqI B (ee_len B m_len (ee_name B (i := 2) rfl rfl)) (ee_const B G_ML (by decide +kernel))) (fun c => es_fin (ee_name B (i := 0) rfl rfl) ?_) fun c4 => ?_
      · have e : ls.length = 4 := by have := of_decide_eq_true c; simp at this; omega
        show _ = (tap ⟨.play, ls, us, p, w, pc, s, mu⟩).d
        unfold tap; dsimp only; rw [if_pos e]
      · have e : ¬ ls.length = 4 := by have := of_decide_eq_false c4; simp at this; omega
        have h1 := L.ne
        have h2 := L.le
        simp only at hn h1 h2
        refine es_fin (ee_cat (ee_tup (ea_cons ee_str (ea_cons (ee_cat (ee_name B (i := 2) rfl rfl) (ee_tup (ea_cons (ee_rep (n := n) (ee_tup (ea_cons ee_int ea_nil)) ((ee_len B m_len (ee_ix (ee_name B (i := 2) rfl rfl) ee_int (head_at h1))).cast ?_) L.n1 L.n2) ea_nil)) ?_) (ea_cons (ee_tup ea_nil) ea_nil)))) (ee_sl (ee_name B (i := 0) rfl rfl) (eo_some ee_int) eo_none) ?_) ?_
        · rw [List.length_map, hn]
        · simp; omega
        · exact Nat.le_of_ble_eq_true rfl
        · show _ = (tap ⟨.play, ls, us, p, w, pc, s, mu⟩).d
          unfold tap; dsimp only; rw [if_neg e, hn, tI_zeros, tL_snoc]; rfl
    · refine es_fin (ee_cat (ee_tup (ea_cons ee_str ea_nil)) (ee_sl (ee_name B (i := 0) rfl rfl) (eo_some ee_int) eo_none) ?_) ?_
      · exact Nat.le_of_ble_eq_true rfl
      · cases m with
        | empty => exact absurd rfl (of_decide_eq_false c1)
        | record => exact absurd rfl (of_decide_eq_false c2)
        | play => exact absurd rfl (of_decide_eq_false c3)
        | dub => rfl
        | stop => rfl
abbrev N_track : List Str := ["track"]
theorem sc_stopped : FnScope N_track ["track"] (defScope (topS 24)) := ⟨rfl, rfl, rfl, by decide +kernel, rfl, by decide +kernel, by decide +kernel⟩
theorem C_stopped (F : FunAt K mg "stopped" (topS 24) ["track"]) (C_closed : Cal K mg "closed" 2 1 (spD K fClosed)) (G_LOOPING : GlobD K mg "LOOPING" (.tuple looping3)) : Cal K mg "stopped" 1 2 (spD K (fT stp Ok)) :=
  cal_data (k := 1) F sc_stopped fT_len fun X hK hM B ds d h => by
    subst hK hM
    obtain ⟨t, ok, rfl, rfl⟩ := h
    obtain ⟨m, ls, us, p, w, pc, s, mu⟩ := t
    refine es_cif (et_md B .record (ee_ix (ee_name B (i := 0) rfl rfl) ee_int rfl) ee_str) (fun c => es_fin (ee_call B C_closed (by decide) (by decide +kernel) (ea_cons (ee_name B (i := 0) rfl rfl) (ea_cons ee_str ea_nil)) ⟨_, .stop, rfl, rfl⟩) ?_) fun c1 => ?_
    · have e : m = .record := of_decide_eq_true c
      subst e; rfl
    refine es_fin (ee_if (et_loops (ee_ix (ee_name B (i := 0) rfl rfl) ee_int rfl) (ee_const B G_LOOPING (by decide +kernel))) (fun c => (ee_cat (ee_cat (ee_cat (ee_tup (ea_cons ee_str ea_nil)) (ee_sl (ee_name B (i := 0) rfl rfl) (eo_some ee_int) (eo_some ee_int)) ?_) (ee_tup (ea_cons ee_int ea_nil)) ?_) (ee_sl (ee_name B (i := 0) rfl rfl) (eo_some ee_int) eo_none) ?_).cast ?_)
      (fun c => (ee_name B (i := 0) rfl rfl).cast ?_)) rfl
    · exact Nat.le_of_ble_eq_true rfl
    · exact Nat.le_of_ble_eq_true rfl
    · exact Nat.le_of_ble_eq_true rfl
    · cases m <;> first | (cases c; done) | rfl
    · cases m <;> first | (cases c; done) | rfl | exact absurd rfl (of_decide_eq_false c1)
theorem sc_cleared : FnScope N_track ["track"] (defScope (topS 25)) := ⟨rfl, rfl, rfl, by decide +kernel, rfl, by decide +kernel, by decide +kernel⟩
theorem C_cleared (F : FunAt K mg "cleared" (topS 25) ["track"]) (G_EMPTY : GlobD K mg "EMPTY" EMP.d) : Cal K mg "cleared" 1 1 (spD K (fT (fun _ => EMP) Ok)) :=
  cal_data (k := 0) F sc_cleared fT_len fun X hK hM B ds d h => by
    subst hK hM
    obtain ⟨t, ok, rfl, rfl⟩ := h
    exact es_fin (ee_const B G_EMPTY (by decide +kernel)) rfl
/-! the last of a pile -/
theorem cut_init (ds : List PyData) : cutD ds none (some (-1)) = ds.dropLast := by
  unfold cutD HT.sIx
  dsimp only
  rw [if_pos (by decide), List.drop_zero, List.dropLast_eq_take]
  congr 1
  omega
theorem cut_last (ds : List PyData) : cutD ds (some (-1)) none = ds.drop (ds.length - 1) := by
  unfold cutD HT.sIx
  dsimp only
  rw [if_pos (by decide)]
  have e : ((-1 : Int) + (ds.length : Int)).toNat = ds.length - 1 := by omega
  rw [e, List.take_of_length_le (by rw [List.length_drop]; exact Nat.le_refl _)]
theorem tL_init (ls : List (List Int)) : PyData.tuple ((ls.map tI).dropLast) = tL ls.dropLast := by unfold tL; rw [List.map_dropLast]
theorem tL_last (ls : List (List Int)) (n : Nat) : PyData.tuple ((ls.map tI).drop n) = tL (ls.drop n) := by unfold tL; rw [List.map_drop]
theorem tL_cat (a b : List (List Int)) : PyData.tuple (a.map tI ++ b.map tI) = tL (a ++ b) := by unfold tL; rw [List.map_append]
/-- layers[:-1], layers[-1:] -/
theorem ee_init {X : Cx} {δ : Dl} {e : Expr} {ls : List (List Int)} {p2 pos p3 : Pos} {j : Nat} {p4 : Pos} (h : EvE X δ e (tL ls)) : EvE X δ (.Subscript e (.Slice none (some (.UnaryOp .USub (.Constant (.int 1) j p3) p4)) none p2) pos) (tL ls.dropLast) :=
  (ee_sl h eo_none (eo_some (ee_neg ee_int))).cast (by rw [cut_init]; exact tL_init ls)
theorem ee_lastl {X : Cx} {δ : Dl} {e : Expr} {ls : List (List Int)} {p2 pos p3 : Pos} {j : Nat} {p4 : Pos} (h : EvE X δ e (tL ls)) : EvE X δ (.Subscript e (.Slice (some (.UnaryOp .USub (.Constant (.int 1) j p3) p4)) none none p2) pos) (tL (ls.drop (ls.length - 1))) :=
  (ee_sl h (eo_some (ee_neg ee_int)) eo_none).cast (by rw [cut_last, List.length_map]; exact tL_last ls _)
theorem ee_catL {X : Cx} {δ : Dl} {a b : Expr} {x y : List (List Int)} {pos : Pos} (ha : EvE X δ a (tL x)) (hb : EvE X δ b (tL y)) (hz : x.length + y.length ≤ 1000) : EvE X δ (.BinOp a .Add b pos) (tL (x ++ y)) :=
  (ee_cat ha hb (by rw [List.length_map, List.length_map]; exact hz)).cast (tL_cat x y)
abbrev N_mlu : List Str := ["track", "mode", "layers", "undone"]
theorem sc_undone : FnScope N_mlu ["track"] (defScope (topS 26)) := ⟨rfl, rfl, rfl, by decide +kernel, rfl, by decide +kernel, by decide +kernel⟩
theorem C_undone (F : FunAt K mg "undone_by" (topS 26) ["track"]) (G_LOOPING : GlobD K mg "LOOPING" (.tuple looping3)) (m_len : mg "len" = none) : Cal K mg "undone_by" 1 1 (spD K (fT undo Ok)) :=
  cal_data (k := 0) F sc_undone fT_len fun X hK hM B ds d h => by
    subst hK hM
    obtain ⟨t, ok, rfl, rfl⟩ := h
    have hlo : t.m.loops = true → ∃ n, LoopOk t n := fun e => ok.loop e
    obtain ⟨m, ls, us, p, w, pc, s, mu⟩ := t
    refine es_cons (es_unpack B [1, 2, 3] (ee_sl (ee_name B (i := 0) rfl rfl) eo_none (eo_some ee_int)) (pgs_cons (B.pgn (i := 1) rfl (by decide +kernel)) (pgs_cons (B.pgn (i := 2) rfl (by decide +kernel)) (pgs_cons (B.pgn (i := 3) rfl (by decide +kernel)) pgs_nil))) (by decide) rfl) ?_
    refine es_cif (et_w (ew_or (et_nloops (m := m) (ee_name B (i := 1) rfl rfl) (ee_const B G_LOOPING (by decide +kernel))) (fun _ => ew_or1 (et_lt (ee_len B m_len (ee_name B (i := 2) rfl rfl)) ee_int)))) (fun c => es_fin (ee_name B (i := 0) rfl rfl) ?_) fun c => ?_
    · show _ = (undo ⟨m, ls, us, p, w, pc, s, mu⟩).d
      unfold undo; dsimp only
      rw [if_neg]
      rintro ⟨h1, h2⟩
      rw [h1] at c
      have c' := of_decide_eq_true c
      rw [List.length_map] at c'
      dsimp only at c'
      omega
    · have hm : m.loops = true := by
        cases e : m.loops with
        | true => rfl
        | false => rw [e] at c; cases c
      have h2 : 2 ≤ ls.length := by
        rw [hm] at c
        have c' := of_decide_eq_false c
        rw [List.length_map] at c'
        dsimp only at c'
        omega
      obtain ⟨n, L⟩ := hlo hm
      have hle := L.le
      simp only at hle
      refine es_fin (ee_cat (ee_tup (ea_cons (ee_if (d := .str (if m = .dub then Md.play else m).str) (et_md B .dub (ee_name B (i := 1) rfl rfl) ee_str) (fun c => ee_str.cast ?_) (fun c => (ee_name B (i := 1) rfl rfl).cast ?_)) (ea_cons (ee_init (ee_name B (i := 2) rfl rfl)) (ea_cons (ee_catL (ee_name B (i := 3) rfl rfl) (ee_lastl (ee_name B (i := 2) rfl rfl)) ?_) ea_nil)))) (ee_sl (ee_name B (i := 0) rfl rfl) (eo_some ee_int) eo_none) ?_) ?_
      · have e : m = .dub := of_decide_eq_true c
        rw [if_pos e]; rfl
      · rw [if_neg (of_decide_eq_false c)]
      · rw [List.length_drop]; dsimp only; omega
      · exact Nat.le_of_ble_eq_true rfl
      · show _ = (undo ⟨m, ls, us, p, w, pc, s, mu⟩).d
        unfold undo; dsimp only
        rw [if_pos (show m.loops = true ∧ 2 ≤ ls.length from ⟨hm, h2⟩)]; rfl
theorem sc_redone : FnScope N_mlu ["track"] (defScope (topS 27)) := ⟨rfl, rfl, rfl, by decide +kernel, rfl, by decide +kernel, by decide +kernel⟩
theorem C_redone (F : FunAt K mg "redone_by" (topS 27) ["track"]) : Cal K mg "redone_by" 1 1 (spD K (fT redo Ok)) :=
  cal_data (k := 0) F sc_redone fT_len fun X hK hM B ds d h => by
    subst hK hM
    obtain ⟨t, ok, rfl, rfl⟩ := h
    have hlo : t.m.loops = true → ∃ n, LoopOk t n := fun e => ok.loop e
    obtain ⟨m, ls, us, p, w, pc, s, mu⟩ := t
    refine es_cons (es_unpack B [1, 2, 3] (ee_sl (ee_name B (i := 0) rfl rfl) eo_none (eo_some ee_int)) (pgs_cons (B.pgn (i := 1) rfl (by decide +kernel)) (pgs_cons (B.pgn (i := 2) rfl (by decide +kernel)) (pgs_cons (B.pgn (i := 3) rfl (by decide +kernel)) pgs_nil))) (by decide) rfl) ?_
    refine es_cif (et_w (ew_or (et_nrests (m := m) (ee_name B (i := 1) rfl rfl) (ee_tup (ea_cons ee_str (ea_cons ee_str ea_nil)))) (fun _ => ew_or1 (et_ls B (x := us) [] (ee_name B (i := 3) rfl rfl) (ee_tup ea_nil))))) (fun c => es_fin (ee_name B (i := 0) rfl rfl) ?_) fun c => ?_
    · show _ = (redo ⟨m, ls, us, p, w, pc, s, mu⟩).d
      unfold redo; dsimp only
      rw [if_neg]
      rintro ⟨h1, h2⟩
      rw [h1] at c
      exact h2 (of_decide_eq_true c)
    · have hm : m.rests = true := by
        cases e : m.rests with
        | true => rfl
        | false => rw [e] at c; cases c
      have h2 : us ≠ [] := by
        rw [hm] at c
        exact of_decide_eq_false c
      obtain ⟨n, L⟩ := hlo (rests_loops hm)
      have hle := L.le
      simp only at hle
      refine es_fin (ee_cat (ee_tup (ea_cons (ee_name B (i := 1) rfl rfl) (ea_cons (ee_catL (ee_name B (i := 2) rfl rfl) (ee_lastl (ee_name B (i := 3) rfl rfl)) ?_) (ea_cons (ee_init (ee_name B (i := 3) rfl rfl)) ea_nil)))) (ee_sl (ee_name B (i := 0) rfl rfl) (eo_some ee_int) eo_none) ?_) ?_
      · rw [List.length_drop]; dsimp only; omega
      · exact Nat.le_of_ble_eq_true rfl
      · show _ = (redo ⟨m, ls, us, p, w, pc, s, mu⟩).d
        unfold redo; dsimp only
        rw [if_pos ⟨hm, h2⟩]; rfl
theorem sc_way : FnScope N_track ["track"] (defScope (topS 29)) := ⟨rfl, rfl, rfl, by decide +kernel, rfl, by decide +kernel, by decide +kernel⟩
theorem C_way (F : FunAt K mg "other_way" (topS 29) ["track"]) (G_LOOPING : GlobD K mg "LOOPING" (.tuple looping3)) : Cal K mg "other_way" 1 1 (spD K (fT turn Ok)) :=
  cal_data (k := 0) F sc_way fT_len fun X hK hM B ds d h => by
    subst hK hM
    obtain ⟨t, ok, rfl, rfl⟩ := h
    obtain ⟨m, ls, us, p, w, pc, s, mu⟩ := t
    refine es_fin (ee_if (et_loops (ee_ix (ee_name B (i := 0) rfl rfl) ee_int rfl) (ee_const B G_LOOPING (by decide +kernel))) (fun c => (ee_cat (ee_cat (ee_sl (ee_name B (i := 0) rfl rfl) eo_none (eo_some ee_int)) (ee_tup (ea_cons (ee_neg (i := w) (ee_ix (ee_name B (i := 0) rfl rfl) ee_int rfl)) ea_nil)) ?_) (ee_sl (ee_name B (i := 0) rfl rfl) (eo_some ee_int) eo_none) ?_).cast ?_) (fun c => (ee_name B (i := 0) rfl rfl).cast ?_)) rfl
    · exact Nat.le_of_ble_eq_true rfl
    · exact Nat.le_of_ble_eq_true rfl
    · cases m <;> first | (cases c; done) | rfl
    · cases m <;> first | (cases c; done) | rfl
theorem sc_flipped : FnScope N_track ["track"] (defScope (topS 30)) := ⟨rfl, rfl, rfl, by decide +kernel, rfl, by decide +kernel, by decide +kernel⟩
theorem C_flipped (F : FunAt K mg "flipped" (topS 30) ["track"]) (G_LOOPING : GlobD K mg "LOOPING" (.tuple looping3)) : Cal K mg "flipped" 1 1 (spD K (fT flip Ok)) :=
  cal_data (k := 0) F sc_flipped fT_len fun X hK hM B ds d h => by
    subst hK hM
    obtain ⟨t, ok, rfl, rfl⟩ := h
    obtain ⟨m, ls, us, p, w, pc, s, mu⟩ := t
    refine es_fin (ee_if (et_loops (ee_ix (ee_name B (i := 0) rfl rfl) ee_int rfl) (ee_const B G_LOOPING (by decide +kernel))) (fun c => (ee_cat (ee_sl (ee_name B (i := 0) rfl rfl) eo_none (eo_some ee_int)) (ee_tup (ea_cons (ee_neg (i := s) (ee_ix (ee_name B (i := 0) rfl rfl) ee_int rfl)) (ea_cons (ee_ix (ee_name B (i := 0) rfl rfl) ee_int rfl) ea_nil))) ?_).cast ?_) (fun c => (ee_name B (i := 0) rfl rfl).cast ?_)) rfl
    · exact Nat.le_of_ble_eq_true rfl
    · cases m <;> first | (cases c; done) | rfl
    · cases m <;> first | (cases c; done) | rfl
theorem sc_hushed : FnScope N_track ["track"] (defScope (topS 31)) := ⟨rfl, rfl, rfl, by decide +kernel, rfl, by decide +kernel, by decide +kernel⟩
theorem C_hushed (F : FunAt K mg "hushed_or_not" (topS 31) ["track"]) (G_LOOPING : GlobD K mg "LOOPING" (.tuple looping3)) : Cal K mg "hushed_or_not" 1 1 (spD K (fT mute Ok)) :=
  cal_data (k := 0) F sc_hushed fT_len fun X hK hM B ds d h => by
    subst hK hM
    obtain ⟨t, ok, rfl, rfl⟩ := h
    obtain ⟨m, ls, us, p, w, pc, s, mu⟩ := t
    refine es_fin (ee_if (et_loops (ee_ix (ee_name B (i := 0) rfl rfl) ee_int rfl) (ee_const B G_LOOPING (by decide +kernel))) (fun c => (ee_cat (ee_sl (ee_name B (i := 0) rfl rfl) eo_none (eo_some ee_int)) (ee_tup (ea_cons (ee_not (u := mu) (ee_ix (ee_name B (i := 0) rfl rfl) ee_int rfl)) ea_nil)) ?_).cast ?_) (fun c => (ee_name B (i := 0) rfl rfl).cast ?_)) rfl
    · exact Nat.le_of_ble_eq_true rfl
    · cases m <;> first | (cases c; done) | rfl
    · cases m <;> first | (cases c; done) | rfl
end
end K53
end
section
set_option maxRecDepth 100000
set_option maxHeartbeats 4000000
/-! zip of any number of lists and tuples, at the library's level. -/
namespace K53
open PySem
open PySem.Sem (wp)
section
variable {prog : Program} {w : World} {A : Around} {E : Value → Shared → Prop} {s : Shared}
abbrev ZRec (h : Heap) (z TI TO : Addr) (f0 f1 : Value) : Prop := h.get? z = some { cls := .type "zip", dict := none, data := .fields #[f0, f1, .bool false, .ref TI, .ref TO], slots := #[] }
def ItAt (h : Heap) (src : Bool × Addr) (it : Addr) (i : Nat) : Prop := if src.1 = true then h.IsListIter it src.2 i else h.IsTupleIter it src.2 i
def SrAt (h : Heap) (src : Bool × Addr) (vals : List Value) : Prop := if src.1 = true then h.IsList src.2 vals.toArray else h.IsTuple src.2 vals.toArray
theorem draw_item {src : Bool × Addr} {it : Addr} {i : Nat} {vals : List Value} {x : Value} {Q : Value → Shared → Prop} (hi : ItAt s.heap src it i) (hs : SrAt s.heap src vals) (hx : vals[i]? = some x)
    (hQ : ∀ h', ItAt h' src it (i + 1) → Heap.SameBut it s.heap h' → Q x { s with heap := h' }) : wpAny (model prog w) A (Builtin.SmallTypes.nextOf (.ref it)) Q E s := by
  obtain ⟨b, l⟩ := src
  cases b with
  | true => exact wpAny_nextOf_list_item hi hs (by simpa using hx) hQ
  | false => exact RZ.nextOf_tuple_item hi hs (by simpa using hx) hQ
theorem draw_end {src : Bool × Addr} {it : Addr} {i : Nat} {vals : List Value} {Q : Value → Shared → Prop} (hh : A.handled = none) (hi : ItAt s.heap src it i) (hs : SrAt s.heap src vals) (hx : vals[i]? = none)
    (hE : ∀ h' e, Heap.ExtBut it s.heap h' → (∃ o, h'.get? e = some o ∧ o.cls = .type "StopIteration") → E (.ref e) { s with heap := h' }) : wpAny (model prog w) A (Builtin.SmallTypes.nextOf (.ref it)) Q E s := by
  obtain ⟨b, l⟩ := src
  cases b with
  | true => exact wpAny_nextOf_list_end hh hi hs (by simpa using hx) hE
  | false => exact RZ.nextOf_tuple_end hh hi hs (by simpa using hx) hE

theorem alive_any {a : Addr} {Q : Option Obj → Shared → Prop} (h : Q (s.heap.get? a) s) : wpAny (model prog w) A (loadIfAlive a) Q E s := fun Γ p hΓ => by
  unfold loadIfAlive
  rw [Sem.wp_loadIfAlive]
  exact wpAny_pure h Γ p hΓ
theorem ItAt.but {h h' : Heap} {src : Bool × Addr} {it x : Addr} {i : Nat} (hi : ItAt h src it i) (hs : Heap.SameBut x h h') (hx : it ≠ x) : ItAt h' src it i := by
  obtain ⟨b, l⟩ := src
  cases b with
  | true => exact Heap.IsListIter.extBut hi hs.extBut hx
  | false => exact Heap.IsTupleIter.extBut hi hs.extBut hx
theorem SrAt.but {h h' : Heap} {src : Bool × Addr} {vals : List Value} {x : Addr} (hi : SrAt h src vals) (hs : Heap.SameBut x h h') (hx : src.2 ≠ x) : SrAt h' src vals := by
  obtain ⟨b, l⟩ := src
  cases b with
  | true => exact Heap.IsList.extBut hi hs.extBut hx
  | false => exact Heap.IsTuple.extBut hi hs.extBut hx
theorem ItAt.lt {h : Heap} {src : Bool × Addr} {it : Addr} {i : Nat} (hi : ItAt h src it i) : ∃ o, h.get? it = some o ∧ ∀ v, o.data ≠ .cell v := by
  obtain ⟨b, l⟩ := src
  cases b with
  | true => obtain ⟨o, e, _, d⟩ := hi; exact ⟨o, e, fun v z => by rw [d] at z; cases z⟩
  | false => obtain ⟨o, e, _, d⟩ := hi; exact ⟨o, e, fun v z => by rw [d] at z; cases z⟩
theorem ItAt.at {h h' : Heap} {src : Bool × Addr} {it : Addr} {i : Nat} (hi : ItAt h src it i) (k : ∀ o, h.get? it = some o → h'.get? it = some o) : ItAt h' src it i := by
  obtain ⟨b, l⟩ := src
  cases b with
  | true => exact Heap.IsListIter.at hi k
  | false => exact Heap.IsTupleIter.at hi k

/-- one lane: where it walks, its iterator, its values -/
structure Lane where
  src : Bool × Addr
  it : Addr
  vals : List Value
/-- the lanes lie apart from one another and from x's -/
structure Lanes (ls : List Lane) (xs : List Addr) : Prop where
  nd : (ls.map (·.it)).Nodup
  xi : ∀ l ∈ ls, l.it ∉ xs
  si : ∀ l ∈ ls, l.src.2 ∉ xs ∧ ∀ m ∈ ls, l.src.2 ≠ m.it
theorem Lanes.cons {l : Lane} {ls : List Lane} {xs : List Addr} (L : Lanes (l :: ls) xs) : Lanes ls xs ∧ ∀ m ∈ ls, m.it ≠ l.it ∧ m.src.2 ≠ l.it :=
  ⟨⟨(List.nodup_cons.mp L.nd).2, fun m hm => L.xi m (List.mem_cons_of_mem _ hm), fun m hm => ⟨(L.si m (List.mem_cons_of_mem _ hm)).1, fun k hk => (L.si m (List.mem_cons_of_mem _ hm)).2 k (List.mem_cons_of_mem _ hk)⟩⟩,
    fun m hm => ⟨fun e => (List.nodup_cons.mp L.nd).1 (List.mem_map.mpr ⟨m, hm, e⟩), (L.si m (List.mem_cons_of_mem _ hm)).2 l List.mem_cons_self⟩⟩
/-- lanes that stand at i -/
def LanesAt (h : Heap) (ls : List Lane) (i : Nat) : Prop := ∀ l ∈ ls, ItAt h l.src l.it i
def LanesSr (h : Heap) (ls : List Lane) : Prop := ∀ l ∈ ls, SrAt h l.src l.vals
theorem LanesAt.but {h h' : Heap} {ls : List Lane} {x : Addr} {i : Nat} (a : LanesAt h ls i) (hs : Heap.SameBut x h h') (hx : ∀ l ∈ ls, l.it ≠ x) : LanesAt h' ls i := fun l hl => (a l hl).but hs (hx l hl)
theorem LanesSr.but {h h' : Heap} {ls : List Lane} {x : Addr} (a : LanesSr h ls) (hs : Heap.SameBut x h h') (hx : ∀ l ∈ ls, l.src.2 ≠ x) : LanesSr h' ls := fun l hl => (a l hl).but hs (hx l hl)
/-- the values drawn at i -/
def Drawn1 (ls : List Lane) (i : Nat) (xs : List Value) : Prop := xs.length = ls.length ∧ ∀ (j : Nat) (l : Lane), ls[j]? = some l → xs[j]? = l.vals[i]?
theorem drawn_all {i : Nat} : ∀ (ls : List Lane), (∀ l ∈ ls, i < l.vals.length) → ∃ xs, Drawn1 ls i xs
  | [], _ => ⟨[], rfl, fun j l h => by simp at h⟩
  | l :: ls, h => by
    obtain ⟨xs, e1, e2⟩ := drawn_all ls fun m hm => h m (List.mem_cons_of_mem _ hm)
    have hl := h l List.mem_cons_self
    refine ⟨l.vals[i] :: xs, by simp [e1], fun j m hj => ?_⟩
    cases j with
    | zero => simp at hj; subst hj; simp [hl]
    | succ j => simpa using e2 j m (by simpa using hj)
theorem Drawn1.head {i : Nat} {l : Lane} {ls : List Lane} {xs : List Value} (d : Drawn1 (l :: ls) i xs) (hl : i < l.vals.length) : ∃ x ys, xs = x :: ys ∧ l.vals[i]? = some x ∧ Drawn1 ls i ys := by
  obtain ⟨e1, e2⟩ := d
  cases xs with
  | nil => simp at e1
  | cons x ys =>
    refine ⟨x, ys, rfl, ?_, by simpa using e1, fun j m hj => ?_⟩
    · have := e2 0 l rfl
      simpa using this.symm
    · have := e2 (j + 1) m (by simpa using hj)
      simpa using this

/-- draws one after another, the values piled up (the tuple handed out is still held) -/
theorem draws_pile {i : Nat} (f : Value → Option Fin × Array Value → Sem (ForInStep (Option Fin × Array Value))) {R : Option Fin × Array Value → Shared → Prop}
    (hf : ∀ (it : Addr) (acc : Array Value) (s : Shared) (T : ForInStep (Option Fin × Array Value) → Shared → Prop), wpAny (model prog w) A (Builtin.SmallTypes.nextOf (.ref it)) (fun x s' => T (.yield (none, acc.push x)) s') E s → wpAny (model prog w) A (f (.ref it) (none, acc)) T E s) :
    ∀ (ls : List Lane) (xs : List Value) (acc : Array Value) (s : Shared), Lanes ls [] → LanesAt s.heap ls i → LanesSr s.heap ls → (∀ l ∈ ls, i < l.vals.length) → Drawn1 ls i xs →
      (∀ h', LanesAt h' ls (i + 1) → h'.objs.size = s.heap.objs.size → (∀ c o, (∀ l ∈ ls, c ≠ l.it) → s.heap.get? c = some o → h'.get? c = some o) → R (none, acc ++ xs.toArray) { s with heap := h' }) →
      wpAny (model prog w) A (forIn (ls.map fun l => Value.ref l.it) ((none, acc) : Option Fin × Array Value) f) R E s
  | [], xs, acc, s, _, _, _, _, hd, h => by
    obtain ⟨e1, _⟩ := hd
    have e : xs = [] := List.eq_nil_of_length_eq_zero (by simpa using e1)
    subst e
    simp only [List.map_nil, List.forIn_nil]
    have q := h s.heap (fun _ hl => by cases hl) rfl fun _ _ _ e => e
    exact wpAny_pure (by simpa using q)
  | l :: ls, xs, acc, s, L, hi, hs, hn, hd, h => by
    obtain ⟨x, ys, rfl, hx, hd'⟩ := hd.head (hn l List.mem_cons_self)
    obtain ⟨L', hap⟩ := L.cons
    rw [List.map_cons, List.forIn_cons]
    refine wpAny_bind (hf l.it acc s _ (draw_item (hi l List.mem_cons_self) (hs l List.mem_cons_self) hx fun h1 hi1 hs1 => ?_))
    refine draws_pile f hf ls ys (acc.push x) { s with heap := h1 } L' (LanesAt.but (fun m hm => hi m (List.mem_cons_of_mem _ hm)) hs1 fun m hm => (hap m hm).1) (LanesSr.but (fun m hm => hs m (List.mem_cons_of_mem _ hm)) hs1 fun m hm => (hap m hm).2)
      (fun m hm => hn m (List.mem_cons_of_mem _ hm)) hd' fun h2 hi2 hsz hk => ?_
    have q := h h2 (fun m hm => ?_) (hsz.trans hs1.1) fun c o hc e => hk c o (fun m hm => hc m (List.mem_cons_of_mem _ hm)) ((hs1.2 c (hc l List.mem_cons_self)).trans e)
    · simpa using q
    · rcases List.mem_cons.mp hm with e | e
      · subst e
        exact hi1.at fun o e => hk _ o (fun k hk' => fun z => (hap k hk').1 z.symm) e
      · exact hi2 m e

/-- draws one after another into the zip's own tuple -/
theorem draws_fill {z TO : Addr} {i : Nat} (f : Value × Nat → Option Fin × Unit → Sem (ForInStep (Option Fin × Unit))) {R : Option Fin × Unit → Shared → Prop}
    (hf : ∀ (it : Addr) (k : Nat) (s : Shared) (T : ForInStep (Option Fin × Unit) → Shared → Prop), wpAny (model prog w) A (Builtin.SmallTypes.nextOf (.ref it)) (fun x s' => ∃ kept : Array Value, s'.heap.get? TO = some { cls := .type "tuple", data := .seq kept } ∧ kept.size ≤ 64 ∧
        T (.yield (none, ())) { s' with heap := s'.heap.update TO (Obj.mapSeq (·.setIfInBounds k x)) }) (fun e s' => wpAny (model prog w) A (setField (.ref z) 0 .none) (fun _ s'' => E e s'') E s') s → wpAny (model prog w) A (f (.ref it, k) (none, ())) T E s) :
    ∀ (ls : List Lane) (xs : List Value) (pre old : List Value) (s : Shared), Lanes ls [TO] → LanesAt s.heap ls i → LanesSr s.heap ls → (∀ l ∈ ls, i < l.vals.length) → Drawn1 ls i xs → s.heap.get? TO = some { cls := .type "tuple", data := .seq (pre ++ old).toArray } → old.length = ls.length → (pre ++ old).length ≤ 64 →
      (∀ h', LanesAt h' ls (i + 1) → h'.objs.size = s.heap.objs.size → h'.get? TO = some { cls := .type "tuple", data := .seq (pre ++ xs).toArray } → (∀ c o, c ≠ TO → (∀ l ∈ ls, c ≠ l.it) → s.heap.get? c = some o → h'.get? c = some o) → R (none, ()) { s with heap := h' }) →
      wpAny (model prog w) A (forIn ((ls.map fun l => Value.ref l.it).zipIdx pre.length) ((none, ()) : Option Fin × Unit) f) R E s
  | [], xs, pre, old, s, _, _, _, _, hd, hT, ho, _, h => by
    obtain ⟨e1, _⟩ := hd
    have e : xs = [] := List.eq_nil_of_length_eq_zero (by simpa using e1)
    have e2 : old = [] := List.eq_nil_of_length_eq_zero (by simpa using ho)
    subst e e2
    simp only [List.map_nil, List.zipIdx_nil, List.forIn_nil]
    exact wpAny_pure (h s.heap (fun _ hl => by cases hl) rfl hT fun _ _ _ _ e => e)
  | l :: ls, xs, pre, old, s, L, hi, hs, hn, hd, hT, ho, hz, h => by
    obtain ⟨x, ys, rfl, hx, hd'⟩ := hd.head (hn l List.mem_cons_self)
    obtain ⟨L', hap⟩ := L.cons
    have hTl : l.it ≠ TO := fun e => L.xi l List.mem_cons_self (by rw [e]; simp)
    cases old with
    | nil => simp at ho
    | cons u old =>
      rw [List.map_cons, List.zipIdx_cons, List.forIn_cons]
      refine wpAny_bind (hf l.it pre.length s _ (draw_item (hi l List.mem_cons_self) (hs l List.mem_cons_self) hx fun h1 hi1 hs1 => ?_))
      have hT1 : h1.get? TO = some { cls := .type "tuple", data := .seq (pre ++ u :: old).toArray } := (hs1.2 TO (Ne.symm hTl)).trans hT
      refine ⟨_, hT1, by simpa using hz, ?_⟩
      have sb : Heap.SameBut TO h1 (h1.update TO (Obj.mapSeq (·.setIfInBounds pre.length x))) := Heap.SameBut.update ..
      have hT2 : (h1.update TO (Obj.mapSeq (·.setIfInBounds pre.length x))).get? TO = some { cls := .type "tuple", data := .seq ((pre ++ [x]) ++ old).toArray } := by
        rw [Heap.get?_update_self _ hT1 rfl]
        simp [Obj.mapSeq]
      have e0 : pre.length + 1 = (pre ++ [x]).length := by simp
      rw [e0]
      refine draws_fill f hf ls ys (pre ++ [x]) old { s with heap := _ } L' (LanesAt.but (LanesAt.but (fun m hm => hi m (List.mem_cons_of_mem _ hm)) hs1 fun m hm => (hap m hm).1) sb fun m hm e => L'.xi m hm (by rw [e]; simp))
        (LanesSr.but (LanesSr.but (fun m hm => hs m (List.mem_cons_of_mem _ hm)) hs1 fun m hm => (hap m hm).2) sb fun m hm e => (L'.si m hm).1 (by rw [e]; simp)) (fun m hm => hn m (List.mem_cons_of_mem _ hm)) hd' hT2 (by simpa using ho) (by simp at hz ⊢; omega) fun h2 hi2 hsz hT3 hk => ?_
      refine h h2 (fun m hm => ?_) (hsz.trans (sb.1.trans hs1.1)) (by simpa using hT3) fun c o hcT hc e => hk c o hcT (fun m hm => hc m (List.mem_cons_of_mem _ hm)) ((sb.2 c hcT).trans ((hs1.2 c (hc l List.mem_cons_self)).trans e))
      rcases List.mem_cons.mp hm with e | e
      · subst e
        exact hi1.at fun o e => hk _ o hTl (fun k hk' => fun z => (hap k hk').1 z.symm) ((sb.2 _ hTl).trans e)
      · exact hi2 m e

def Handed (f0 : Value) : Prop := f0 = .none ∨ ∃ a t, f0 = .int a t
theorem Lanes.weak {ls : List Lane} {xs ys : List Addr} (L : Lanes ls xs) (h : ∀ a ∈ ys, a ∈ xs) : Lanes ls ys := ⟨L.nd, fun l hl e => L.xi l hl (h _ e), fun l hl => ⟨fun e => (L.si l hl).1 (h _ e), (L.si l hl).2⟩⟩
/-- the zip's three objects apart -/
structure Zap (z TI TO : Addr) : Prop where
  a : z ≠ TI
  b : z ≠ TO
  c : TI ≠ TO
/-- a zip whose lanes stand at i -/
structure ZAt (h : Heap) (z TI TO : Addr) (ls : List Lane) (i : Nat) : Prop where
  rc : ∃ f0 f1, ZRec h z TI TO f0 f1 ∧ Handed f0
  ti : h.get? TI = some { cls := .type "tuple", data := .seq (ls.map fun l => Value.ref l.it).toArray }
  to_ : ∃ old : List Value, old.length = ls.length ∧ h.get? TO = some { cls := .type "tuple", data := .seq old.toArray }
  lanes : LanesAt h ls i
theorem is_free {z TI TO : Addr} {f0 f1 : Value} {Q : Bool → Shared → Prop} (hz : ZRec s.heap z TI TO f0 f1) (hf : Handed f0) (h : ∀ (b : Bool) (h1 : Heap) (g1 : Value), ZRec h1 z TI TO f0 g1 → Heap.SameBut z s.heap h1 → Q b { s with heap := h1 }) :
    wpAny (model prog w) A (Builtin.SmallTypes.ownedTupleIsFree (.ref z)) Q E s := by
  have same : Heap.SameBut z s.heap s.heap := ⟨rfl, fun _ _ => rfl⟩
  unfold Builtin.SmallTypes.ownedTupleIsFree
  refine wpAny_bind (wpAny_field hz rfl (x := f0) rfl ?_)
  rcases hf with rfl | ⟨a, t, rfl⟩
  · exact wpAny_pure (h true s.heap f1 hz same)
  · refine wpAny_bind (alive_any ?_)
    cases hg : s.heap.get? a.toNat with
    | none => exact wpAny_pure (h true s.heap f1 hz same)
    | some o =>
      simp only [Option.isNone_some, Bool.false_eq_true, if_false]
      refine wpAny_bind (wpAny_field hz rfl (x := f1) rfl ?_)
      split
      · refine wpAny_bind (wpAny_setField_rec hz (by simp) fun h1 hz1 sb => wpAny_pure (h false h1 (.bool true) hz1 sb))
      · exact wpAny_pure (h false s.heap f1 hz same)
theorem zipN_next_item {z TI TO : Addr} {ls : List Lane} {i : Nat} {xs : List Value} {Q : Value → Shared → Prop} (D : Zap z TI TO) (L : Lanes ls [z, TI, TO]) (hne : ls ≠ []) (hle : ls.length ≤ 64) (st : ZAt s.heap z TI TO ls i) (hs : LanesSr s.heap ls) (hn : ∀ l ∈ ls, i < l.vals.length) (hd : Drawn1 ls i xs)
    (hQ : ∀ h', ZAt h' z TI TO ls (i + 1) → h'.get? s.heap.objs.size = some { cls := .type "tuple", data := .seq xs.toArray } → h'.objs.size = s.heap.objs.size + 1 → (∀ c o, c ≠ z → c ≠ TO → (∀ l ∈ ls, c ≠ l.it) → s.heap.get? c = some o → h'.get? c = some o) → Q (.ref s.heap.objs.size) { s with heap := h' }) :
    wpAny (model prog w) A (Builtin.«zip.__next__» ⟨[.ref z], []⟩) (fun fin s' => ∃ v, fin = .done (.ret v) ∧ Q v s') E s := by
  obtain ⟨⟨f0, f1, hz, hf⟩, hTI, ⟨old, hol, hTO⟩, hi⟩ := st
  have hxl : xs.length ≤ 64 := by rw [hd.1]; exact hle
  have Lz : ∀ l ∈ ls, l.it ≠ z := fun l hl e => L.xi l hl (by rw [e]; simp)
  have LT : ∀ l ∈ ls, l.it ≠ TI := fun l hl e => L.xi l hl (by rw [e]; simp)
  have LO : ∀ l ∈ ls, l.it ≠ TO := fun l hl e => L.xi l hl (by rw [e]; simp)
  have Sz : ∀ l ∈ ls, l.src.2 ≠ z := fun l hl e => (L.si l hl).1 (by rw [e]; simp)
  have zlt : z < s.heap.objs.size := Heap.lt_size hz
  have Tlt : TI < s.heap.objs.size := Heap.lt_size hTI
  have Olt : TO < s.heap.objs.size := Heap.lt_size hTO
  show wpAny _ _ (field (.ref z) 2 >>= _) _ _ _
  refine wpAny_bind (wpAny_field hz rfl (x := .bool false) rfl ?_)
  show wpAny _ _ (field (.ref z) 3 >>= _) _ _ _
  refine wpAny_bind (wpAny_field hz rfl (x := .ref TI) rfl ?_)
  refine wpAny_bind (wpAny_seqItems hTI rfl ?_)
  have he : ((ls.map fun l => Value.ref l.it).toArray).isEmpty = false := by
    cases ls with
    | nil => exact absurd rfl hne
    | cons a r => rfl
  simp only [he, Bool.false_eq_true, if_false]
  show wpAny _ _ (Builtin.SmallTypes.ownedTupleIsFree (.ref z) >>= _) _ _ _
  refine wpAny_bind (is_free hz hf fun b h1 g1 hz1 sb => ?_)
  have hTI1 := (sb.2 TI (Ne.symm D.a)).trans hTI
  have hTO1 := (sb.2 TO (Ne.symm D.b)).trans hTO
  have hi1 : LanesAt h1 ls i := LanesAt.but hi sb Lz
  have hs1 : LanesSr h1 ls := LanesSr.but hs sb Sz
  cases b with
  | false =>
    simp only [Bool.false_eq_true, if_false]
    refine wpAny_bind ?_
    rw [← Array.forIn_toList]
    refine draws_pile _ (fun it acc s T h => ?_) ls xs #[] { s with heap := h1 } (L.weak fun _ h => by cases h) hi1 hs1 hn hd fun h2 hi2 hsz hk => ?_
    · refine wpAny_bind (wpAny_holding ?_)
      show wpAny _ _ (Builtin.SmallTypes.nextOf (.ref it) >>= _) _ _ s
      exact wpAny_bind (wpAny_mono h (fun x s' hx => wpAny_pure (wpAny_pure hx)) fun _ _ z => z)
    · have e0 : (#[] ++ xs.toArray).toList = xs := by simp
      show wpAny _ _ (newTuple (#[] ++ xs.toArray).toList >>= _) _ _ { s with heap := h2 }
      rw [e0]
      have hsz2 : h2.objs.size = s.heap.objs.size := hsz.trans sb.1
      have kk : ∀ c o, c ≠ z → (∀ l ∈ ls, c ≠ l.it) → s.heap.get? c = some o → h2.get? c = some o := fun c o hc hl e => hk c o hl ((sb.2 c hc).trans e)
      refine wpAny_bind (wpAny_newTuple ?_ (Nat.le_trans hxl (by decide)))
      refine wpAny_pure ⟨_, rfl, ?_⟩
      have up : ∀ c o, h2.get? c = some o → (h2.push { cls := .type "tuple", data := .seq xs.toArray }).get? c = some o := fun c o e => Heap.get?_push_of_some _ e
      have hnew : (h2.push { cls := .type "tuple", data := .seq xs.toArray }).get? s.heap.objs.size = some { cls := .type "tuple", data := .seq xs.toArray } := by rw [← hsz2]; exact Heap.get?_push_size _ rfl
      show Q (.ref h2.objs.size) _
      rw [hsz2]
      refine hQ _ ⟨⟨f0, g1, up _ _ (hk z _ (fun l hl => Ne.symm (Lz l hl)) hz1), hf⟩, up _ _ (hk TI _ (fun l hl => Ne.symm (LT l hl)) hTI1), ⟨old, hol, up _ _ (hk TO _ (fun l hl => Ne.symm (LO l hl)) hTO1)⟩, fun l hl => (hi2 l hl).at fun o e => up _ _ e⟩ hnew (by rw [Heap.size_push, hsz2]) fun c o h1 h2' h3 e => up _ _ (kk c o h1 h3 e)
  | true =>
    simp only [if_true]
    refine wpAny_bind (wpAny_rule ?_)
    refine wpAny_bind (wpAny_field hz1 rfl (x := .ref TO) rfl ?_)
    refine wpAny_bind (wpAny_setField_rec hz1 (by simp) fun h2 hz2 sb2 => ?_)
    replace hz2 : ZRec h2 z TI TO .ellipsis g1 := hz2
    have sb12 : ∀ c, c ≠ z → h2.get? c = s.heap.get? c := fun c hc => (sb2.2 c hc).trans (sb.2 c hc)
    have hTO2 : h2.get? TO = some { cls := .type "tuple", data := .seq ([] ++ old).toArray } := (sb12 TO (Ne.symm D.b)).trans hTO
    refine wpAny_bind ?_
    refine draws_fill (z := z) (TO := TO) (pre := []) _ (fun it k s T h => ?_) ls xs old { s with heap := h2 } (L.weak fun a h => by simp at h; rw [h]; simp) (LanesAt.but hi1 sb2 Lz) (LanesSr.but hs1 sb2 Sz) hn hd hTO2 hol (by simp; omega) fun h3 hi3 hsz hTO3 hk => ?_
    · refine wpAny_bind (wpAny_onRaise ?_)
      show wpAny _ _ (Builtin.SmallTypes.nextOf (.ref it) >>= _) _ _ s
      refine wpAny_bind (wpAny_mono h (fun x s' hx => wpAny_pure ?_) fun _ _ z => z)
      obtain ⟨kept, hT, hkz, q⟩ := hx
      refine wpAny_bind (wpAny_seqItems hT rfl ?_)
      refine wpAny_bind (wpAny_updateSeq hT rfl (wpAny_bind (wpAny_letGo (wpAny_pure q))) (Nat.le_trans hkz (by decide)) (by simp; exact Nat.le_trans hkz (by decide)))
    · have hTO4 : h3.get? TO = some { cls := .type "tuple", data := .seq xs.toArray } := by simpa using hTO3
      have hsz3 : h3.objs.size = s.heap.objs.size := hsz.trans (sb2.1.trans sb.1)
      have kk : ∀ c o, c ≠ z → c ≠ TO → (∀ l ∈ ls, c ≠ l.it) → s.heap.get? c = some o → h3.get? c = some o := fun c o hc hT hl e => hk c o hT hl ((sb12 c hc).trans e)
      have hz3 : ZRec h3 z TI TO .ellipsis g1 := hk z _ D.b (fun l hl => Ne.symm (Lz l hl)) hz2
      show wpAny _ _ (seqItems? (.ref TO) >>= _) _ _ { s with heap := h3 }
      refine wpAny_bind (wpAny_seqItems (s := { s with heap := h3 }) hTO4 rfl ?_)
      refine wpAny_bind (wpAny_newTuple ?_ (Nat.le_trans (by simpa using hxl) (by decide)))
      have hz4 : ZRec (h3.push { cls := .type "tuple", data := .seq xs.toArray }) z TI TO .ellipsis g1 := Heap.get?_push_of_some _ hz3
      show wpAny _ _ (Builtin.SmallTypes.ownedTupleHandOut (.ref z) (.ref h3.objs.size) >>= _) _ _ { s with heap := h3.push { cls := .type "tuple", data := .seq xs.toArray } }
      refine wpAny_bind ?_
      unfold Builtin.SmallTypes.ownedTupleHandOut
      refine wpAny_bind (wpAny_setField_rec hz4 (by simp) fun h5 hz5 sb5 => ?_)
      replace hz5 : ZRec h5 z TI TO (rawInt h3.objs.size) g1 := hz5
      refine wpAny_setField_rec hz5 (by simp) fun h6 hz6 sb6 => ?_
      replace hz6 : ZRec h6 z TI TO (rawInt h3.objs.size) (.bool false) := hz6
      refine wpAny_pure ⟨_, rfl, ?_⟩
      have up : ∀ c o, c ≠ z → h3.get? c = some o → h6.get? c = some o := fun c o hc e => (sb6.2 c hc).trans ((sb5.2 c hc).trans (Heap.get?_push_of_some _ e))
      have hnz : s.heap.objs.size ≠ z := Nat.ne_of_gt zlt
      have hnew : h6.get? s.heap.objs.size = some { cls := .type "tuple", data := .seq xs.toArray } := by
        refine (sb6.2 _ hnz).trans ((sb5.2 _ hnz).trans ?_)
        show (h3.push _).get? _ = _
        rw [← hsz3]; exact Heap.get?_push_size _ rfl
      show Q (.ref h3.objs.size) _
      rw [hsz3]
      refine hQ h6 ⟨⟨_, _, hz6, .inr ⟨_, _, rfl⟩⟩, up _ _ (Ne.symm D.a) (hk TI _ D.c (fun l hl => Ne.symm (LT l hl)) ((sb12 TI (Ne.symm D.a)).trans hTI)), ⟨xs, hd.1, up _ _ (Ne.symm D.b) hTO4⟩, fun l hl => (hi3 l hl).at fun o e => up _ _ (Lz l hl) e⟩ hnew ?_ fun c o h1 h2' h3' e => up c o h1 (kk c o h1 h2' h3' e)
      have e6 : h6.objs.size = h5.objs.size := sb6.1
      have e5 : h5.objs.size = (h3.push { cls := .type "tuple", data := .seq xs.toArray }).objs.size := sb5.1
      rw [e6, e5, Heap.size_push, hsz3]
end
end K53
end
section
set_option maxRecDepth 100000
set_option maxHeartbeats 4000000
/-! zip: its end, its making. -/
namespace K53
open PySem
open PySem.Sem (wp)
section
variable {prog : Program} {w : World} {A : Around} {E : Value → Shared → Prop} {s : Shared}
theorem zipN_next_end {z TI TO : Addr} {l : Lane} {ls : List Lane} {i : Nat} {Q : PySem.Fin → Shared → Prop} (hh : A.handled = none) (D : Zap z TI TO) (L : Lanes (l :: ls) [z, TI, TO]) (st : ZAt s.heap z TI TO (l :: ls) i) (hs : LanesSr s.heap (l :: ls)) (hn : l.vals.length ≤ i)
    (hE : ∀ h' e, (∀ c o, c ≠ z → c ≠ TO → (∀ m ∈ l :: ls, c ≠ m.it) → s.heap.get? c = some o → h'.get? c = some o) → (∃ o, h'.get? e = some o ∧ o.cls = .type "StopIteration") → E (.ref e) { s with heap := h' }) :
    wpAny (model prog w) A (Builtin.«zip.__next__» ⟨[.ref z], []⟩) Q E s := by
  obtain ⟨⟨f0, f1, hz, hf⟩, hTI, ⟨old, hol, hTO⟩, hi⟩ := st
  have Lz : ∀ m ∈ l :: ls, m.it ≠ z := fun m hm e => L.xi m hm (by rw [e]; simp)
  have Sz : ∀ m ∈ l :: ls, m.src.2 ≠ z := fun m hm e => (L.si m hm).1 (by rw [e]; simp)
  have hx : l.vals[i]? = none := List.getElem?_eq_none hn
  show wpAny _ _ (field (.ref z) 2 >>= _) _ _ _
  refine wpAny_bind (wpAny_field hz rfl (x := .bool false) rfl ?_)
  show wpAny _ _ (field (.ref z) 3 >>= _) _ _ _
  refine wpAny_bind (wpAny_field hz rfl (x := .ref TI) rfl ?_)
  refine wpAny_bind (wpAny_seqItems hTI rfl ?_)
  have he : (((l :: ls).map fun l => Value.ref l.it).toArray).isEmpty = false := rfl
  simp only [he, Bool.false_eq_true, if_false]
  show wpAny _ _ (Builtin.SmallTypes.ownedTupleIsFree (.ref z) >>= _) _ _ _
  refine wpAny_bind (is_free hz hf fun b h1 g1 hz1 sb => ?_)
  have hi1 : LanesAt h1 (l :: ls) i := LanesAt.but hi sb Lz
  have hs1 : LanesSr h1 (l :: ls) := LanesSr.but hs sb Sz
  cases b with
  | false =>
    simp only [Bool.false_eq_true, if_false]
    refine wpAny_bind ?_
    rw [← Array.forIn_toList]
    show wpAny _ _ (forIn ((Value.ref l.it) :: ls.map fun l => Value.ref l.it) _ _) _ _ _
    rw [List.forIn_cons]
    refine wpAny_bind (wpAny_bind (wpAny_holding ?_))
    show wpAny _ _ (Builtin.SmallTypes.nextOf (.ref l.it) >>= _) _ _ { s with heap := h1 }
    refine wpAny_bind (draw_end hh (hi1 l List.mem_cons_self) (hs1 l List.mem_cons_self) hx fun h2 e hq he => ?_)
    exact hE h2 e (fun c o hc _ hl x => hq c o (hl l List.mem_cons_self) ((sb.2 c hc).trans x)) he
  | true =>
    simp only [if_true]
    refine wpAny_bind (wpAny_rule ?_)
    refine wpAny_bind (wpAny_field hz1 rfl (x := .ref TO) rfl ?_)
    refine wpAny_bind (wpAny_setField_rec hz1 (by simp) fun h2 hz2 sb2 => ?_)
    replace hz2 : ZRec h2 z TI TO .ellipsis g1 := hz2
    refine wpAny_bind ?_
    show wpAny _ _ (forIn (((Value.ref l.it) :: ls.map fun l => Value.ref l.it).zipIdx) _ _) _ _ _
    rw [List.zipIdx_cons, List.forIn_cons]
    refine wpAny_bind (wpAny_bind (wpAny_onRaise ?_))
    show wpAny _ _ (Builtin.SmallTypes.nextOf (.ref l.it) >>= _) _ _ { s with heap := h2 }
    have hi2 : LanesAt h2 (l :: ls) i := LanesAt.but hi1 sb2 Lz
    have hs2 : LanesSr h2 (l :: ls) := LanesSr.but hs1 sb2 Sz
    refine wpAny_bind (draw_end hh (hi2 l List.mem_cons_self) (hs2 l List.mem_cons_self) hx fun h3 e hq he => ?_)
    obtain ⟨oe, hoe, hce⟩ := he
    have hz3 : ZRec h3 z TI TO .ellipsis g1 := hq z _ (Ne.symm (Lz l List.mem_cons_self)) hz2
    have hez : e ≠ z := fun x => by subst x; rw [hz3] at hoe; cases hoe; simp at hce
    refine wpAny_setField_rec (s := { s with heap := h3 }) hz3 (by simp) fun h4 _ sb4 => ?_
    exact hE h4 e (fun c o hc _ hl x => (sb4.2 c hc).trans (hq c o (hl l List.mem_cons_self) ((sb2.2 c hc).trans ((sb.2 c hc).trans x)))) ⟨oe, (sb4.2 e hez).trans hoe, hce⟩
theorem pyNext_zipN_item {z TI TO : Addr} {ls : List Lane} {i : Nat} {xs : List Value} {Q : Option Value → Shared → Prop} (D : Zap z TI TO) (L : Lanes ls [z, TI, TO]) (hne : ls ≠ []) (hle : ls.length ≤ 64) (st : ZAt s.heap z TI TO ls i) (hs : LanesSr s.heap ls) (hn : ∀ l ∈ ls, i < l.vals.length) (hd : Drawn1 ls i xs)
    (hQ : ∀ h', ZAt h' z TI TO ls (i + 1) → h'.get? s.heap.objs.size = some { cls := .type "tuple", data := .seq xs.toArray } → h'.objs.size = s.heap.objs.size + 1 → (∀ c o, c ≠ z → c ≠ TO → (∀ l ∈ ls, c ≠ l.it) → s.heap.get? c = some o → h'.get? c = some o) → Q (some (.ref s.heap.objs.size)) { s with heap := h' }) :
    wpAny (model prog w) A (pyNext (.ref z)) Q E s := by
  obtain ⟨f0, f1, hz, hf⟩ := st.rc
  have hT : s.TypeIs (.ref z) "zip" := ⟨_, hz, rfl⟩
  unfold pyNext
  exact wpAny_bind (wpAny_attempt (wpAny_callSpecial?_slot (name := Str.ofString "__next__") hT F.slot_zip_next
    (wpAny_call_entry F.slot_zip_next hT F.entry_zip_next (zipN_next_item D L hne hle st hs hn hd fun h' a b c d => wpAny_pure (hQ h' a b c d)) (F.args_zip_next_1 _))))
theorem pyNext_zipN_end {z TI TO : Addr} {l : Lane} {ls : List Lane} {i : Nat} {Q : Option Value → Shared → Prop} (hh : A.handled = none) (D : Zap z TI TO) (L : Lanes (l :: ls) [z, TI, TO]) (st : ZAt s.heap z TI TO (l :: ls) i) (hs : LanesSr s.heap (l :: ls)) (hn : l.vals.length ≤ i)
    (hQ : ∀ h', (∀ c o, c ≠ z → c ≠ TO → (∀ m ∈ l :: ls, c ≠ m.it) → s.heap.get? c = some o → h'.get? c = some o) → Q none { s with heap := h' }) : wpAny (model prog w) A (pyNext (.ref z)) Q E s := by
  obtain ⟨f0, f1, hz, hf⟩ := st.rc
  have hT : s.TypeIs (.ref z) "zip" := ⟨_, hz, rfl⟩
  unfold pyNext
  refine wpAny_bind (wpAny_attempt (wpAny_callSpecial?_slot (name := Str.ofString "__next__") hT F.slot_zip_next
    (wpAny_call_entry F.slot_zip_next hT F.entry_zip_next (zipN_next_end hh D L st hs hn fun h' e hk he => ?_) (F.args_zip_next_1 _))))
  obtain ⟨o, ho, hc⟩ := he
  refine wpAny_bind (wpAny_isInstance (T := "StopIteration") (b := true) ⟨o, ho, hc⟩ isSubtype_stop ?_)
  exact wpAny_pure (hQ _ hk)
theorem pyIter_zipN {z TI TO : Addr} {f0 f1 : Value} {Q : Value → Shared → Prop} (hz : ZRec s.heap z TI TO f0 f1) (h : Q (.ref z) s) : wpAny (model prog w) A (pyIter (.ref z)) Q E s := by
  have hT : s.TypeIs (.ref z) "zip" := ⟨_, hz, rfl⟩
  refine wpAny_pyIter_slot hT F.slot_zip_iter (wpAny_call_entry F.slot_zip_iter hT F.entry_zip_iter ?_ (F.args_zip_iter_1 _))
  show wpAny _ _ (ret (.ref z)) _ _ s
  exact wpAny_pure ⟨_, rfl, "zip", _, hT, F.slot_zip_next.lookup, h⟩
/-- making iterators one after another -/
theorem iter_one {src : Bool × Addr} {v : List Value} {Q : Value → Shared → Prop} (h : SrAt s.heap src v) (hQ : ∀ h', ItAt h' src s.heap.objs.size 0 → h'.objs.size = s.heap.objs.size + 1 → (∀ c o, s.heap.get? c = some o → h'.get? c = some o) → Q (.ref s.heap.objs.size) { s with heap := h' }) :
    wpAny (model prog w) A (pyIter (.ref src.2)) Q E s := by
  obtain ⟨b, l⟩ := src
  cases b with
  | true => exact wpAny_pyIter_list h (hQ _ ⟨_, Heap.get?_push_size _ rfl, rfl, rfl⟩ (Heap.size_push ..) fun c o e => Heap.get?_push_of_some _ e)
  | false => exact wpAny_pyIter_tuple h (hQ _ ⟨_, Heap.get?_push_size _ rfl, rfl, rfl⟩ (Heap.size_push ..) fun c o e => Heap.get?_push_of_some _ e)
theorem SrAt.kept {h h' : Heap} {src : Bool × Addr} {v : List Value} (a : SrAt h src v) (k : ∀ c o, h.get? c = some o → h'.get? c = some o) : SrAt h' src v := by
  obtain ⟨b, l⟩ := src
  cases b with
  | true => exact Heap.IsList.at a fun o e => k _ o e
  | false => exact Heap.IsTuple.at a fun o e => k _ o e
theorem iter_all (f : Value → Array Value → Sem (ForInStep (Array Value))) {R : Array Value → Shared → Prop}
    (hf : ∀ (x : Value) (acc : Array Value) (s : Shared) (T : ForInStep (Array Value) → Shared → Prop), wpAny (model prog w) A (pyIter x) (fun v s' => T (.yield (acc.push v)) s') E s → wpAny (model prog w) A (f x acc) T E s) :
    ∀ (srcs : List (Bool × Addr)) (acc : Array Value) (s : Shared), (∀ src ∈ srcs, ∃ v, SrAt s.heap src v) →
      (∀ h', (∀ (j : Nat) (src : Bool × Addr), srcs[j]? = some src → ItAt h' src (s.heap.objs.size + j) 0) → h'.objs.size = s.heap.objs.size + srcs.length → (∀ c o, s.heap.get? c = some o → h'.get? c = some o) → R (acc ++ ((List.range' s.heap.objs.size srcs.length).map Value.ref).toArray) { s with heap := h' }) →
      wpAny (model prog w) A (forIn (srcs.map fun p => Value.ref p.2) acc f) R E s
  | [], acc, s, _, h => by
    simp only [List.map_nil, List.forIn_nil]
    have q := h s.heap (fun j src e => by simp at e) rfl fun _ _ e => e
    exact wpAny_pure (by simpa using q)
  | src :: srcs, acc, s, hs, h => by
    obtain ⟨v, hv⟩ := hs src List.mem_cons_self
    rw [List.map_cons, List.forIn_cons]
    refine wpAny_bind (hf _ acc s _ (iter_one hv fun h1 hi1 hz1 hk1 => ?_))
    refine iter_all f hf srcs (acc.push (.ref s.heap.objs.size)) { s with heap := h1 } (fun p hp => let ⟨v, e⟩ := hs p (List.mem_cons_of_mem _ hp); ⟨v, e.kept hk1⟩) fun h2 hi2 hz2 hk2 => ?_
    have e1 : h2.objs.size = h1.objs.size + srcs.length := hz2
    have q := h h2 (fun j p e => ?_) (by rw [e1, hz1, List.length_cons]; omega) fun c o e => hk2 c o (hk1 c o e)
    · have e2 : (Shared.heap { s with heap := h1 }).objs.size = s.heap.objs.size + 1 := hz1
      rw [e2]
      rw [List.length_cons, List.range'_succ, List.map_cons] at q
      simpa using q
    · cases j with
      | zero =>
        simp at e; subst e
        exact hi1.at fun o e => hk2 _ o e
      | succ j =>
        have q := hi2 j p (by simpa using e)
        have e2 : (Shared.heap { s with heap := h1 }).objs.size = s.heap.objs.size + 1 := hz1
        rw [e2] at q
        have e3 : s.heap.objs.size + 1 + j = s.heap.objs.size + (j + 1) := by omega
        rw [← e3]; exact q
/-- the lanes of sources, their iterators in a row from n -/
def lanesOf (n : Nat) (srcs : List (Bool × Addr)) (f : Bool × Addr → List Value) : List Lane := srcs.zipIdx.map fun p => ⟨p.1, n + p.2, f p.1⟩
theorem lanesOf_its {n : Nat} {f : Bool × Addr → List Value} : ∀ (srcs : List (Bool × Addr)) (k : Nat), ((srcs.zipIdx k).map fun p => Value.ref (n + p.2)) = (List.range' (n + k) srcs.length).map Value.ref
  | [], _ => rfl
  | src :: srcs, k => by
    rw [List.zipIdx_cons, List.map_cons, List.length_cons, List.range'_succ, List.map_cons, lanesOf_its (f := f) srcs (k + 1)]
    rfl
theorem lanesOf_refs (n : Nat) (srcs : List (Bool × Addr)) (f : Bool × Addr → List Value) : ((lanesOf n srcs f).map fun l => Value.ref l.it) = (List.range' n srcs.length).map Value.ref := by
  unfold lanesOf
  rw [List.map_map]
  exact lanesOf_its (f := f) srcs 0
theorem lanesOf_length (n : Nat) (srcs : List (Bool × Addr)) (f : Bool × Addr → List Value) : (lanesOf n srcs f).length = srcs.length := by
  unfold lanesOf
  rw [List.length_map, List.length_zipIdx]
theorem mem_lanesOf {n : Nat} {srcs : List (Bool × Addr)} {f : Bool × Addr → List Value} {l : Lane} (h : l ∈ lanesOf n srcs f) : ∃ j, srcs[j]? = some l.src ∧ l.it = n + j ∧ l.vals = f l.src ∧ j < srcs.length := by
  obtain ⟨⟨src, j⟩, hp, rfl⟩ := List.mem_map.mp h
  have e := List.mem_zipIdx_iff_getElem?.mp hp
  exact ⟨j, e, rfl, rfl, (List.getElem?_eq_some_iff.mp e).1⟩
theorem meets_zipN (srcs : List (Bool × Addr)) (hle : srcs.length ≤ 64) (f : Bool × Addr → List Value) :
    Meets (Builtin.«zip.__new__» ⟨.type "zip" :: srcs.map fun p => Value.ref p.2, []⟩) (fun _ R s => (∀ src ∈ srcs, ∃ v, SrAt s.heap src v) ∧
      ∀ h', ZAt h' (s.heap.objs.size + srcs.length + 2) (s.heap.objs.size + srcs.length) (s.heap.objs.size + srcs.length + 1) (lanesOf s.heap.objs.size srcs f) 0 → (∀ c o, s.heap.get? c = some o → h'.get? c = some o) →
        R (.ok (.ret (.ref (s.heap.objs.size + srcs.length + 2)))) { s with heap := h' }) :=
  .of_wp fun prog w A R s h => by
    obtain ⟨hp, g, d, tk, os⟩ := s
    obtain ⟨h1, h⟩ := h
    have hsub := sub_zip
    unfold Builtin.«zip.__new__» Builtin.SmallTypes.newClass
    refine wpAny_bind ?_
    show wpAny _ _ (isType (.type "zip") >>= _) _ _ _
    refine wpAny_bind (wpAny_of_eq (a := true) rfl ?_)
    simp only [Bool.not_true, Bool.false_eq_true, if_false]
    rw [hsub]
    refine wpAny_bind (wpAny_pure ?_)
    simp only [Bool.not_true, Bool.false_eq_true, if_false]
    refine wpAny_pure ?_
    simp only [List.length_nil]
    rw [if_neg (by decide)]
    show wpAny _ _ (Builtin.SmallTypes.iterAll (srcs.map fun p => Value.ref p.2) >>= _) _ _ _
    refine wpAny_bind ?_
    unfold Builtin.SmallTypes.iterAll
    refine wpAny_bind ?_
    refine iter_all _ (fun x acc s T h => wpAny_bind (wpAny_holding (wpAny_mono h (fun v s' hv => wpAny_pure hv) fun _ _ z => z))) srcs #[] _ h1 fun h2 hi hz hk => ?_
    refine wpAny_pure ?_
    have e0 : (#[] ++ ((List.range' hp.objs.size srcs.length).map Value.ref).toArray).toList = (List.range' hp.objs.size srcs.length).map Value.ref := by simp
    have hz2 : h2.objs.size = hp.objs.size + srcs.length := hz
    show wpAny _ _ (newTuple (#[] ++ ((List.range' hp.objs.size srcs.length).map Value.ref).toArray).toList >>= _) _ _ { heap := h2, gens := g, drawn := d, toks := tk, os := os }
    rw [e0]
    have hl : ((List.range' hp.objs.size srcs.length).map Value.ref).length ≤ sizeLine := by
      rw [List.length_map, List.length_range']; exact Nat.le_trans hle (by decide)
    refine wpAny_bind (wpAny_newTuple ?_ hl)
    refine wpAny_bind (wpAny_newTuple ?_ (by rw [List.length_map]; exact hl))
    show wpAny _ _ (newObj (.type "zip") (.fields #[.none, .bool false, .bool false, .ref h2.objs.size, .ref (h2.push { cls := .type "tuple", data := .seq ((List.range' hp.objs.size srcs.length).map Value.ref).toArray }).objs.size]) >>= _) _ _
      { heap := (h2.push { cls := .type "tuple", data := .seq ((List.range' hp.objs.size srcs.length).map Value.ref).toArray }).push { cls := .type "tuple", data := .seq (((List.range' hp.objs.size srcs.length).map Value.ref).map fun _ => Value.none).toArray }, gens := g, drawn := d, toks := tk, os := os }
    generalize hA : h2.push { cls := .type "tuple", data := .seq ((List.range' hp.objs.size srcs.length).map Value.ref).toArray } = hA'
    have sA : hA'.objs.size = hp.objs.size + srcs.length + 1 := by rw [← hA, Heap.size_push, hz2]
    have kA : ∀ c o, h2.get? c = some o → hA'.get? c = some o := fun c o e => by rw [← hA]; exact Heap.get?_push_of_some _ e
    have gA : hA'.get? (hp.objs.size + srcs.length) = some { cls := .type "tuple", data := .seq ((List.range' hp.objs.size srcs.length).map Value.ref).toArray } := by rw [← hA, ← hz2]; exact Heap.get?_push_size _ rfl
    generalize hB : hA'.push { cls := .type "tuple", data := .seq (((List.range' hp.objs.size srcs.length).map Value.ref).map fun _ => Value.none).toArray } = hB'
    have sB : hB'.objs.size = hp.objs.size + srcs.length + 2 := by rw [← hB, Heap.size_push, sA]
    have kB : ∀ c o, hA'.get? c = some o → hB'.get? c = some o := fun c o e => by rw [← hB]; exact Heap.get?_push_of_some _ e
    have gB : hB'.get? (hp.objs.size + srcs.length + 1) = some { cls := .type "tuple", data := .seq (((List.range' hp.objs.size srcs.length).map Value.ref).map fun _ => Value.none).toArray } := by rw [← hB, ← sA]; exact Heap.get?_push_size _ rfl
    refine wpAny_bind (wpAny_newObj_type ?_)
    rw [hz2, sA]
    refine wpAny_pure ⟨_, rfl, ?_⟩
    show R (.ok (.ret (.ref hB'.objs.size))) _
    rw [sB]
    refine h _ ⟨⟨.none, .bool false, ?_, .inl rfl⟩, ?_, ⟨((List.range' hp.objs.size srcs.length).map Value.ref).map fun _ => Value.none, ?_, ?_⟩, ?_⟩ fun c o e => Heap.get?_push_of_some _ (kB c o (kA c o (hk c o e)))
    · show (hB'.push _).get? (hp.objs.size + srcs.length + 2) = _
      rw [← sB]
      exact Heap.get?_push_size _ rfl
    · show (hB'.push _).get? (hp.objs.size + srcs.length) = _
      rw [lanesOf_refs]
      exact Heap.get?_push_of_some _ (kB _ _ gA)
    · rw [List.length_map, List.length_map, List.length_range', lanesOf_length]
    · exact Heap.get?_push_of_some _ gB
    · intro l hl
      obtain ⟨j, e1, e2, _, _⟩ := mem_lanesOf hl
      rw [e2]
      exact (hi j _ e1).at fun o e => Heap.get?_push_of_some _ (kB _ _ (kA _ _ e))
end
end K53
end
section
set_option maxRecDepth 100000
set_option maxHeartbeats 4000000
/-! zip(*t), zip(x, y) as what a loop walks. -/
namespace K53
open PySem PySem.Spec PyProof.Rows L2
def SrV (K : PySem.W.Frag) (H : Hp) (src : Bool × Addr) (c : List V) : Prop := if src.1 = true then SqL K H src.2 c else SqT K H src.2 c
def nth0 (i : Nat) (c : List V) : V := (c[i]?).getD .non
/-- the walk of a zip over lists and tuples that stand still -/
def ItN (K : PySem.W.Frag) (srcs : List (Bool × Addr)) : It :=
  ⟨fun i H => ∃ cs, Paired (SrV K H) srcs cs ∧ ∀ c ∈ cs, i < c.length,
    fun i H v H' => ∃ (T : Addr) (xs : List V), v = .ref T ∧ H T = none ∧ H' = upd H T (.tup xs) ∧ ∀ cs, Paired (SrV K H) srcs cs → xs = cs.map (nth0 i),
    fun i H => ∃ cs c, Paired (SrV K H) srcs cs ∧ cs.head? = some c ∧ c.length ≤ i⟩
theorem sr_uniq {h : Heap} {src : Bool × Addr} {a b : List Value} (x : SrAt h src a) (y : SrAt h src b) : a = b := by
  obtain ⟨k, l⟩ := src
  cases k with
  | true =>
    obtain ⟨o, e, c, n, d⟩ := (show h.IsList l a.toArray from x)
    obtain ⟨o', e', c', n', d'⟩ := (show h.IsList l b.toArray from y)
    rw [e] at e'; cases e'
    rw [d] at d'
    injection d' with d1 _
    simpa using congrArg Array.toList d1
  | false =>
    obtain ⟨o, e, c, n, d⟩ := (show h.IsTuple l a.toArray from x)
    obtain ⟨o', e', c', n', d'⟩ := (show h.IsTuple l b.toArray from y)
    rw [e] at e'; cases e'
    rw [d] at d'
    injection d' with d1 _
    simpa using congrArg Array.toList d1
section
variable {X : Cx} {pins : List (Addr × Obj)} {σ : L2.St} {H : Hp} {s : Shared}
theorem sr_of (I : Inv X pins σ H s) {src : Bool × Addr} {c : List V} (h : SrV X.K H src c) : ∃ its, SrAt s.heap src its ∧ Vals c its := by
  obtain ⟨k, l⟩ := src
  cases k with
  | true =>
    obtain ⟨its, r, p, _⟩ := I.list (show SqL X.K H l c from h)
    exact ⟨its, p.isList, r⟩
  | false =>
    obtain ⟨its, r, p, _⟩ := I.tuple (show SqT X.K H l c from h)
    exact ⟨its, p, r⟩
theorem srv_inj (I : Inv X pins σ H s) {src : Bool × Addr} {c c' : List V} (h : SrV X.K H src c) (h' : SrV X.K H src c') : c = c' := by
  obtain ⟨k, l⟩ := src
  cases k with
  | true => exact I.list_inj h h'
  | false => exact I.tuple_inj h h'
theorem srs_inj (I : Inv X pins σ H s) : ∀ {srcs : List (Bool × Addr)} {cs cs' : List (List V)}, Paired (SrV X.K H) srcs cs → Paired (SrV X.K H) srcs cs' → cs = cs'
  | _, _, _, .nil, .nil => rfl
  | _, _, _, .cons a r, .cons b r' => by rw [srv_inj I a b, srs_inj I r r']
theorem paired_mem {α β : Type} {F : α → β → Prop} : ∀ {l : List α} {m : List β} {x : α}, Paired F l m → x ∈ l → ∃ y ∈ m, F x y
  | _, _, _, .cons a r, h => by
    rcases List.mem_cons.mp h with e | e
    · subst e; exact ⟨_, List.mem_cons_self, a⟩
    · obtain ⟨y, hy, f⟩ := paired_mem r e
      exact ⟨y, List.mem_cons_of_mem _ hy, f⟩
/-- the values at the sources -/
noncomputable def valsAt (h : Heap) (src : Bool × Addr) : List Value := open Classical in if q : ∃ v, SrAt h src v then Classical.choose q else []
theorem valsAt_ok {h : Heap} {src : Bool × Addr} {v : List Value} (x : SrAt h src v) : valsAt h src = v := by
  unfold valsAt
  rw [dif_pos ⟨v, x⟩]
  exact sr_uniq (Classical.choose_spec (⟨v, x⟩ : ∃ v, SrAt h src v)) x
theorem drawn_vals (I : Inv X pins σ H s) {i n : Nat} : ∀ {srcs : List (Bool × Addr)} {cs : List (List V)} (k : Nat), Paired (SrV X.K H) srcs cs → (∀ c ∈ cs, i < c.length) →
    ∃ us, Vals (cs.map (nth0 i)) us ∧ Drawn1 ((srcs.zipIdx k).map fun p => (⟨p.1, n + p.2, valsAt s.heap p.1⟩ : Lane)) i us
  | _, _, k, .nil, _ => ⟨[], .nil, rfl, fun j l h => by simp at h⟩
  | _, _, k, .cons (a := src) (b := c) a r, h => by
    obtain ⟨us, r1, d1, d2⟩ := drawn_vals I (i := i) (n := n) (k + 1) r fun c hc => h c (List.mem_cons_of_mem _ hc)
    obtain ⟨its, e, rv⟩ := sr_of I a
    have hc : i < c.length := h c List.mem_cons_self
    have hx : c[i]? = some c[i] := List.getElem?_eq_getElem hc
    obtain ⟨u, hu, ru⟩ := rv.get hx
    refine ⟨u :: us, .cons ?_ r1, by rw [List.zipIdx_cons, List.map_cons, List.length_cons, List.length_cons, d1], fun j l hj => ?_⟩
    · show RelV (nth0 i c) u
      unfold nth0
      rw [hx]; exact ru
    · rw [List.zipIdx_cons, List.map_cons] at hj
      cases j with
      | zero =>
        simp at hj; subst hj
        show some u = (valsAt s.heap src)[i]?
        rw [valsAt_ok e, hu]
      | succ j => exact d2 j l (by simpa using hj)
end
section
variable {prog : Program} {w : World} {A : Around} {E : Value → Shared → Prop} {s : Shared}
theorem ZAt.but {h h' : Heap} {z TI TO : Addr} {ls : List Lane} {i : Nat} {f0 f1 : Value} (st : ZAt h z TI TO ls i) (D : Zap z TI TO) (L : Lanes ls [z, TI, TO]) (sb : Heap.SameBut z h h') (hz : ZRec h' z TI TO f0 f1) (hf : Handed f0) : ZAt h' z TI TO ls i := by
  obtain ⟨_, hTI, ⟨old, ho, hTO⟩, hi⟩ := st
  exact ⟨⟨f0, f1, hz, hf⟩, (sb.2 _ (Ne.symm D.a)).trans hTI, ⟨old, ho, (sb.2 _ (Ne.symm D.b)).trans hTO⟩, LanesAt.but hi sb fun l hl e => L.xi l hl (by rw [e]; simp)⟩
theorem go_zipN {tg : Expr} {z TI TO T : Addr} {ls : List Lane} {i : Nat} {Q : Unit → Shared → Prop} (st : ZAt s.heap z TI TO ls i) (D : Zap z TI TO) (L : Lanes ls [z, TI, TO]) (hQ : ∀ h', ZAt h' z TI TO ls i → Heap.SameBut z s.heap h' → Q () { s with heap := h' }) :
    wpAny (model prog w) A (letOwnedTupleGo tg (.ref z) (.ref T)) Q E s := by
  obtain ⟨f0, f1, hz, hf⟩ := st.rc
  have same : Q () s := hQ s.heap st ⟨rfl, fun _ _ => rfl⟩
  have two : wpAny (model prog w) A (do
      let o ← load z
      match o.cls, o.data with
      | .type n, .fields vs =>
        if ["enumerate", "zip", "dict_itemiterator", "dict_reverseitemiterator", "odict_iterator", "itertools.zip_longest", "itertools.pairwise"].contains n && vs[0]? == some (rawInt T) then
          rule "for.unpacks-the-owned-tuple"
          updateField z 0 .none
      | _, _ => pure ()) Q E s := by
    refine wpAny_bind (wpAny_load hz ?_)
    show wpAny _ _ (if (["enumerate", "zip", "dict_itemiterator", "dict_reverseitemiterator", "odict_iterator", "itertools.zip_longest", "itertools.pairwise"].contains "zip" && (#[f0, f1, .bool false, .ref TI, .ref TO] : Array Value)[0]? == some (rawInt T)) = true then _ else _) Q E s
    split
    · refine wpAny_bind (wpAny_rule ?_)
      show wpAny _ _ (setField (.ref z) 0 .none) Q E s
      exact wpAny_setField_rec hz (by simp) fun h' hz' sb => hQ h' (st.but D L sb hz' (.inl rfl)) sb
    · exact wpAny_pure same
  unfold letOwnedTupleGo
  cases tg <;> first
    | exact wpAny_pure same
    | exact two
end
theorem zat_any {h : Heap} {z TI TO : Addr} {n : Nat} {srcs : List (Bool × Addr)} {f g : Bool × Addr → List Value} {i : Nat} (st : ZAt h z TI TO (lanesOf n srcs f) i) : ZAt h z TI TO (lanesOf n srcs g) i := by
  obtain ⟨a, b, ⟨old, c, d⟩, e⟩ := st
  refine ⟨a, by rw [lanesOf_refs] at b ⊢; exact b, ⟨old, by rw [lanesOf_length] at c ⊢; exact c, d⟩, fun l hl => ?_⟩
  obtain ⟨j, e1, e2, _, _⟩ := mem_lanesOf hl
  have hm : (⟨l.src, n + j, f l.src⟩ : Lane) ∈ lanesOf n srcs f := List.mem_map.mpr ⟨(l.src, j), List.mem_zipIdx_iff_getElem?.mpr e1, rfl⟩
  have q := e _ hm
  rw [e2]; exact q
theorem na1 {n k : Nat} : n + k + 2 ≠ n + k := by omega
theorem na2 {n k : Nat} : n + k + 2 ≠ n + k + 1 := by omega
theorem na3 {n k : Nat} : n + k ≠ n + k + 1 := by omega
theorem na4 {n j k : Nat} (h : j < k) : ¬ n + j = n + k + 2 ∧ ¬ j = k ∧ ¬ n + j = n + k + 1 := by omega
theorem na5 {a n k : Nat} (h : a < n) : a ∉ [n + k + 2, n + k, n + k + 1] := by simp; omega
theorem na6 {a n k : Nat} (h : a < n) : a ≠ n + k := by omega
theorem na7 {n j k : Nat} (h : j < k) : n ≤ n + j ∧ n + j < n + k := by omega
theorem na8 {b n k : Nat} (h : n ≤ b) (h2 : b < n + k) : b - n < k := by omega
theorem na9 {b n : Nat} (h : n ≤ b) : n + (b - n) = b := by omega
theorem na10 {a b c : Nat} (h : b < c) (h2 : a ≤ b) : a < c := by omega
theorem lanes_ok {n : Nat} {srcs : List (Bool × Addr)} {f : Bool × Addr → List Value} (hs : ∀ src ∈ srcs, src.2 < n) : Lanes (lanesOf n srcs f) [n + srcs.length + 2, n + srcs.length, n + srcs.length + 1] := by
  have key : ∀ (l : List (Bool × Addr)) (k : Nat), ((l.zipIdx k).map fun p => n + p.2) = List.range' (n + k) l.length := by
    intro l
    induction l with
    | nil => intro _; rfl
    | cons a l ih => intro k; rw [List.zipIdx_cons, List.map_cons, ih, List.length_cons, List.range'_succ]; rfl
  refine ⟨?_, fun l hl => ?_, fun l hl => ?_⟩
  · unfold lanesOf
    rw [List.map_map]
    have e := key srcs 0
    show ((srcs.zipIdx).map fun p => n + p.2).Nodup
    rw [e]
    exact List.nodup_range'
  · obtain ⟨j, _, e2, _, hj⟩ := mem_lanesOf hl
    rw [e2]; simp; exact na4 hj
  · obtain ⟨j, e1, e2, _, hj⟩ := mem_lanesOf hl
    have h1 := hs l.src (List.mem_of_getElem? e1)
    refine ⟨na5 h1, fun m hm => ?_⟩
    obtain ⟨j', _, e2', _, hj'⟩ := mem_lanesOf hm
    rw [e2']; exact na6 h1
theorem turn_zipN {P : Program} {w : World} {K : PySem.W.Frag} {tg : Expr} {n : Nat} {srcs : List (Bool × Addr)} (hs : ∀ src ∈ srcs, src.2 < n) (hne : srcs ≠ []) (hle : srcs.length ≤ 64) :
    Turn P w K tg (ItN K srcs) ((n + srcs.length + 2) :: (n + srcs.length) :: (n + srcs.length + 1) :: List.range' n srcs.length) (n + srcs.length + 2)
      (fun i h => ZAt h (n + srcs.length + 2) (n + srcs.length) (n + srcs.length + 1) (lanesOf n srcs fun _ => []) i) := by
  have D : Zap (n + srcs.length + 2) (n + srcs.length) (n + srcs.length + 1) := ⟨na1, na2, na3⟩
  have hne2 : ∀ f, lanesOf n srcs f ≠ [] := fun f e => hne (List.eq_nil_of_length_eq_zero (by rw [← lanesOf_length n srcs f, e]; rfl))
  have inR : ∀ {f : Bool × Addr → List Value} {l : Lane}, l ∈ lanesOf n srcs f → l.it ∈ List.range' n srcs.length := fun {f l} hl => by
    obtain ⟨j, _, e2, _, hj⟩ := mem_lanesOf hl
    rw [e2, List.mem_range'_1]; exact na7 hj
  refine ⟨by simp, fun i h st b hb => ?_, fun i h h' st k => ?_, ?_, ?_, fun A i s Q E st h => ?_⟩
  · obtain ⟨⟨f0, f1, hz, _⟩, hTI, ⟨old, _, hTO⟩, hi⟩ := st
    rcases List.mem_cons.mp hb with e | hb
    · rw [e]; exact ⟨_, hz, fun v z => nomatch z⟩
    rcases List.mem_cons.mp hb with e | hb
    · rw [e]; exact ⟨_, hTI, fun v z => nomatch z⟩
    rcases List.mem_cons.mp hb with e | hb
    · rw [e]; exact ⟨_, hTO, fun v z => nomatch z⟩
    obtain ⟨h1, h2⟩ := List.mem_range'_1.mp hb
    have hj : b - n < srcs.length := na8 h1 h2
    have e := List.getElem?_eq_getElem hj
    have q := hi ⟨srcs[b - n], n + (b - n), []⟩ (List.mem_map.mpr ⟨(srcs[b - n], b - n), List.mem_zipIdx_iff_getElem?.mpr e, rfl⟩)
    have e2 : n + (b - n) = b := na9 h1
    rw [show (Lane.mk srcs[b - n] (n + (b - n)) []).it = b from e2] at q
    exact q.lt
  · obtain ⟨⟨f0, f1, hz, hf⟩, hTI, ⟨old, ho, hTO⟩, hi⟩ := st
    exact ⟨⟨f0, f1, k _ (by simp) _ hz, hf⟩, k _ (by simp) _ hTI, ⟨old, ho, k _ (by simp) _ hTO⟩, fun l hl => (hi l hl).at fun o e => k _ (List.mem_cons_of_mem _ (List.mem_cons_of_mem _ (List.mem_cons_of_mem _ (inR hl)))) o e⟩
  · intro X hP hw hK hc i pins s σ H E I hf st hg
    subst hP hw hK
    obtain ⟨cs, hp, hlen⟩ := hg
    obtain ⟨us, rv, hd⟩ := drawn_vals I (i := i) (n := n) 0 hp hlen
    have st' : ZAt s.heap _ _ _ (lanesOf n srcs (valsAt s.heap)) i := zat_any st
    have L := lanes_ok (f := valsAt s.heap) hs
    have hsr : LanesSr s.heap (lanesOf n srcs (valsAt s.heap)) := fun l hl => by
      obtain ⟨j, e1, _, e3, _⟩ := mem_lanesOf hl
      obtain ⟨c, _, hc⟩ := paired_mem hp (List.mem_of_getElem? e1)
      obtain ⟨its, q, _⟩ := sr_of I hc
      rw [e3, valsAt_ok q]; exact q
    have hll : ∀ l ∈ lanesOf n srcs (valsAt s.heap), i < l.vals.length := fun l hl => by
      obtain ⟨j, e1, _, e3, _⟩ := mem_lanesOf hl
      obtain ⟨c, hc1, hc⟩ := paired_mem hp (List.mem_of_getElem? e1)
      obtain ⟨its, q, r⟩ := sr_of I hc
      rw [e3, valsAt_ok q, ← r.length]
      exact hlen c hc1
    have zlt : n + srcs.length + 2 < s.heap.objs.size := by obtain ⟨f0, f1, hz, _⟩ := st.rc; exact Heap.lt_size hz
    refine pyNext_zipN_item D L (hne2 _) (by rw [lanesOf_length]; exact hle) st' hsr hll hd fun h1 st1 hT hsz hk => ?_
    refine ⟨_, rfl, go_zipN (s := { s with heap := h1 }) st1 D L fun h2 st2 sb => ?_⟩
    have hT2 : h2.get? s.heap.objs.size = some { cls := .type "tuple", data := .seq us.toArray } := (sb.2 _ (Nat.ne_of_gt zlt)).trans hT
    have hxl : (cs.map (nth0 i)).length ≤ sizeLine := by
      rw [rv.length, hd.1]
      show (lanesOf n srcs _).length ≤ _
      rw [lanesOf_length]
      exact Nat.le_trans hle (by decide)
    have new : ObjOk X.prog X.w (upd H s.heap.objs.size (.tup (cs.map (nth0 i)))) h2 s.heap.objs.size (.tup (cs.map (nth0 i))) := ⟨hxl, us, rv, ⟨_, hT2, rfl, _, rfl⟩⟩
    have I1 : Inv X pins σ (upd H s.heap.objs.size (.tup (cs.map (nth0 i)))) { s with heap := h2 } :=
      I.turnedNew (t' := s.toks) (ch := (n + srcs.length + 2) :: (n + srcs.length) :: (n + srcs.length + 1) :: List.range' n srcs.length) (fun c o hb q => by
        have c1 : c ≠ n + srcs.length + 2 := fun e => hb (by rw [e]; simp)
        have c2 : c ≠ n + srcs.length + 1 := fun e => hb (by rw [e]; simp)
        exact (sb.2 c c1).trans (hk c o c1 c2 (fun l hl e => hb (by rw [e]; exact List.mem_cons_of_mem _ (List.mem_cons_of_mem _ (List.mem_cons_of_mem _ (inR hl))))) q)) hf (Nat.le_refl _) new
    refine ⟨.ref s.heap.objs.size, _, I1, rfl, ⟨_, _, rfl, I.hok.fresh (Nat.le_refl _), rfl, fun cs' hp' => by rw [srs_inj I hp' hp]⟩, zat_any st2, fun c hcm => ?_⟩
    have hlt : c < s.heap.objs.size := by
      have h5 : c = n + srcs.length + 2 ∨ c = n + srcs.length ∨ c = n + srcs.length + 1 ∨ c ∈ List.range' n srcs.length := by simpa using hcm
      rcases h5 with e | e | e | e
      · exact na10 zlt (by rw [e]; exact Nat.le_refl _)
      · exact na10 zlt (by rw [e]; exact Nat.le_add_right _ 2)
      · exact na10 zlt (by rw [e]; exact Nat.le_add_right _ 1)
      · exact na10 zlt (Nat.le_trans (Nat.le_of_lt (List.mem_range'_1.mp e).2) (Nat.le_add_right _ 2))
    rw [upd_ne (Nat.ne_of_lt hlt)]
    exact (hf c hcm).1
  · intro X hP hw hK hc i pins s σ H E I hf st hg
    subst hP hw hK
    obtain ⟨cs, c, hp, hc1, hlen⟩ := hg
    have st' : ZAt s.heap _ _ _ (lanesOf n srcs (valsAt s.heap)) i := zat_any st
    have L := lanes_ok (f := valsAt s.heap) hs
    have hsr : LanesSr s.heap (lanesOf n srcs (valsAt s.heap)) := fun l hl => by
      obtain ⟨j, e1, _, e3, _⟩ := mem_lanesOf hl
      obtain ⟨c, _, hc⟩ := paired_mem hp (List.mem_of_getElem? e1)
      obtain ⟨its, q, _⟩ := sr_of I hc
      rw [e3, valsAt_ok q]; exact q
    cases hp with
    | nil => cases hc1
    | cons a r =>
      rename_i src c' srcs' cs'
      have e : c' = c := by simpa using hc1
      subst e
      obtain ⟨its, q, rv⟩ := sr_of I a
      refine pyNext_zipN_end (l := ⟨src, n + 0, valsAt s.heap src⟩) (ls := (srcs'.zipIdx 1).map (fun (p : (Bool × Addr) × Nat) => (⟨p.1, n + p.2, valsAt s.heap p.1⟩ : Lane))) (I.ok.hd hc) D L st' hsr (by
        show (valsAt s.heap src).length ≤ i
        rw [valsAt_ok q, ← rv.length]; exact hlen) fun h' hk => ⟨rfl, I.turnedL (t' := s.toks) (ch := _) (fun c o hb q => hk c o (fun e => hb (by rw [e]; exact List.mem_cons_self)) (fun e => hb (by rw [e]; exact List.mem_cons_of_mem _ (List.mem_cons_of_mem _ List.mem_cons_self))) (fun l hl e => hb (by rw [e]; exact List.mem_cons_of_mem _ (List.mem_cons_of_mem _ (List.mem_cons_of_mem _ (inR (f := valsAt s.heap) hl))))) q) hf⟩
  · obtain ⟨f0, f1, hz, _⟩ := st.rc
    exact pyIter_zipN hz h
end K53
end
section
set_option maxRecDepth 100000
set_option maxHeartbeats 4000000
/-! Lists made by a comprehension over data; tuple(..), all(..) of such lists. -/
namespace K53
open PySem PySem.Spec PyProof.Rows L2
/-! ### own slots forgotten -/
def wipeD (δ : Dl) : List Nat → Dl
  | [] => δ
  | v :: vs => (wipeD δ vs).set v none
theorem Sl.wipe {K : PySem.W.Frag} {H : Hp} {σ : L2.St} {δ : Dl} (h : Sl K H σ δ) : ∀ vs : List Nat, Sl K H (L2.wipe σ vs) (wipeD δ vs)
  | [] => h
  | v :: vs => (h.wipe vs).clear v none
theorem wipe_set_in {σ : L2.St} {i : Nat} {u : Option V} : ∀ {vs : List Nat}, i ∈ vs → L2.wipe (σ.set i u) vs = L2.wipe σ vs
  | [], h => by cases h
  | v :: vs, h => by
    unfold L2.wipe
    by_cases e : i ∈ vs
    · rw [wipe_set_in e]
    · have ev : i = v := by
        rcases List.mem_cons.mp h with z | z
        · exact z
        · exact absurd z e
      subst ev
      have out : ∀ {ws : List Nat}, i ∉ ws → L2.wipe (σ.set i u) ws = (L2.wipe σ ws).set i u := by
        intro ws
        induction ws with
        | nil => intro _; rfl
        | cons w ws ih =>
          intro hw
          unfold L2.wipe
          rw [ih (fun m => hw (List.mem_cons_of_mem _ m))]
          exact List.set_comm _ _ (fun q => hw (by rw [q]; exact List.mem_cons_self))
      rw [out e, List.set_set]
theorem wipe_wipe {σ : L2.St} : ∀ (ws vs : List Nat), (∀ i ∈ ws, i ∈ vs) → L2.wipe (L2.wipe σ ws) vs = L2.wipe σ vs
  | [], _, _ => rfl
  | w :: ws, vs, h => by
    show L2.wipe ((L2.wipe σ ws).set w none) vs = _
    rw [wipe_set_in (h w List.mem_cons_self)]
    exact wipe_wipe ws vs fun i hi => h i (List.mem_cons_of_mem _ hi)
theorem wipe_setV {σ : L2.St} {vs : List Nat} : ∀ {is : List Nat} {xs : List V}, (∀ i ∈ is, i ∈ vs) → L2.wipe (setV σ is xs) vs = L2.wipe σ vs
  | [], _, _ => rfl
  | _ :: _, [], _ => rfl
  | i :: is, x :: xs, h => by
    show L2.wipe (setV (σ.set i (some x)) is xs) vs = _
    rw [wipe_setV fun j hj => h j (List.mem_cons_of_mem _ hj)]
    exact wipe_set_in (h i List.mem_cons_self)
/-! ### what is walked -/
def DSrc (K : PySem.W.Frag) (J : It) (H1 : Hp) (ds : List PyData) : Prop := ∀ H', Same H1 H' → (∀ i, i < ds.length → J.go i H' ∧ ∀ v H'', J.yld i H' v H'' → Same H' H'' ∧ ∃ d, ds[i]? = some d ∧ Tp K H'' v d) ∧ J.stop ds.length H'
structure EvIP (X : Cx) (P : L2.St → Hp → Prop) (tg iter : Expr) (ds : List PyData) : Prop where
  run : ∀ (pins : List (Addr × Obj)) (s : Shared) (σ : L2.St) (H : Hp) (R : It → Hp → Prop), Inv X pins σ H s → P σ H → (∀ J H1, Same H H1 → DSrc X.K J H1 ds → R J H1) →
    wpAny (model X.prog X.w) X.A (eval iter X.env) (fun v s1 => wpAny (model X.prog X.w) X.A (pyIter v) (PIE X pins σ tg R) X.xe s1) X.xe s
/-- over slots that are data -/
abbrev EvI (X : Cx) (δ : Dl) (tg iter : Expr) (ds : List PyData) : Prop := EvIP X (fun σ H => Sl X.K H σ δ) tg iter ds
def tEi (X : Cx) (tg iter : Expr) : TI := fun σ H R => ∃ P ds, EvIP X P tg iter ds ∧ P σ H ∧ ∀ J H1, Same H H1 → DSrc X.K J H1 ds → R J H1
theorem pi_ev {X : Cx} {tg iter : Expr} : PI X tg iter (tEi X tg iter) := ⟨fun pins s σ H Q I h => let ⟨_, _, h1, h2, h3⟩ := h; h1.run pins s σ H Q I h2 h3⟩
theorem dsrc_tup {K : PySem.W.Frag} {H1 : Hp} {a : Addr} {xs : List V} {ds : List PyData} (h : SqT K H1 a xs) (t : TpAll K H1 xs ds) (inj : ∀ H', Same H1 H' → ∀ ys, SqT K H' a ys → ys = xs) : DSrc K (Itt K a) H1 ds := fun H' e => by
  refine ⟨fun i hi => ?_, ⟨xs, kp_sqt (Kp.of e) h, by rw [t.length]; exact Nat.le_refl _⟩⟩
  obtain ⟨v, hv, tv⟩ := t.get (List.getElem?_eq_getElem hi)
  refine ⟨⟨xs, v, kp_sqt (Kp.of e) h, hv⟩, fun w H'' y => ?_⟩
  obtain ⟨rfl, y⟩ := y
  have := y xs (kp_sqt (Kp.of e) h)
  rw [hv] at this; cases this
  exact ⟨Same.refl _, _, List.getElem?_eq_getElem hi, tv.mono e⟩
section
variable {X : Cx} {δ : Dl} {N : List Str} {sc : Scope} {k : Nat} {e a b tg iter elt : Expr} {d : PyData} {ds fs : List PyData} {pos : Pos}
theorem ei_tup (h : EvE X δ iter (.tuple ds)) : EvI X δ tg iter ds :=
  ⟨fun pins s σ H R I hs q => (pi_tup (tg := tg) pe_ev).run pins s σ H R I ⟨δ, _, h, hs, fun v H1 e1 t1 => by
    obtain ⟨a, xs, rfl, h1, h2⟩ := t1.tup_inv
    refine ⟨a, rfl, ⟨xs, h1⟩, q _ _ e1 fun H' e2 => ?_⟩
    refine ⟨fun i hi => ?_, ⟨xs, kp_sqt (Kp.of e2) h1, by rw [h2.length]; exact Nat.le_refl _⟩⟩
    obtain ⟨v, hv, tv⟩ := h2.get (List.getElem?_eq_getElem hi)
    refine ⟨⟨xs, v, kp_sqt (Kp.of e2) h1, hv⟩, fun w H'' y => ?_⟩
    obtain ⟨rfl, y⟩ := y
    have := y xs (kp_sqt (Kp.of e2) h1)
    rw [hv] at this; cases this
    exact ⟨Same.refl _, _, List.getElem?_eq_getElem hi, tv.mono e2⟩⟩⟩
/-! ### where the item goes -/
structure EvG (X : Cx) (N : List Str) (δ : Dl) (own : List Nat) (g : TG) (d : PyData) (δ' : Dl) : Prop where
  run : ∀ (v : V) (σ : L2.St) (H : Hp) (Q : L2.St → Hp → Prop), σ.length = N.length → Tp X.K H v d → Sl X.K H σ δ → (∀ σ', Sl X.K H σ' δ' → L2.wipe σ' own = L2.wipe σ own → Q σ' H) → g v σ H Q
theorem eg_name {i : Nat} {own : List Nat} (hi : i < N.length) (ho : i ∈ own) : EvG X N δ own (gName i) d (δ.set i (some d)) :=
  ⟨fun v σ H Q hl t hs q => q _ (hs.set t (by rw [hl]; exact hi)) (wipe_set_in ho)⟩
theorem eg_tup {is own : List Nat} (hi : ∀ i ∈ is, i < N.length) (ho : ∀ i ∈ is, i ∈ own) (hl : ds.length = is.length) : EvG X N δ own (gTup X.K is.length (gNs is)) (.tuple ds) (setD δ is ds) :=
  ⟨fun v σ H Q hn t hs q => by
    obtain ⟨a, xs, rfl, h1, h2⟩ := t.tup_inv
    exact ⟨a, xs, rfl, h1, by rw [h2.length, hl], gNs_ok (by rw [h2.length, hl]) (q _ (Sl.setAll (fun i hx => by rw [hn]; exact hi i hx) hs h2) (wipe_setV ho))⟩⟩
/-! ### a list made -/
structure EvLP (X : Cx) (P : L2.St → Hp → Prop) (e : Expr) (ds : List PyData) : Prop where
  run : ∀ (pins : List (Addr × Obj)) (s : Shared) (σ : L2.St) (H : Hp) (Q : VK), Inv X pins σ H s → P σ H → (∀ p xs H', Same H H' → H p = none → H' p = some (.lst xs) → TpAll X.K H' xs ds → Q (.ref p) H') → wpAny (model X.prog X.w) X.A (eval e X.env) (EP X pins σ Q) X.xe s
abbrev EvL (X : Cx) (δ : Dl) (e : Expr) (ds : List PyData) : Prop := EvLP X (fun σ H => Sl X.K H σ δ) e ds
def tEl (X : Cx) (e : Expr) : TE := fun σ H Q => ∃ P ds, EvLP X P e ds ∧ P σ H ∧ ∀ p xs H', Same H H' → H p = none → H' p = some (.lst xs) → TpAll X.K H' xs ds → Q (.ref p) H'
theorem pe_el : PE X e (tEl X e) := ⟨fun pins s σ H Q I h => let ⟨_, _, h1, h2, h3⟩ := h; h1.run pins s σ H Q I h2 h3⟩
/-- an element, read in any block over this one -/
def tEu (K : PySem.W.Frag) (mg : Str → Option Value) (N : List Str) (scope : Scope) (k : Nat) (e : Expr) : TE := fun σ H Q => ∃ δ d, (∀ X', X'.K = K → X'.mg = mg → BX X' N scope k → EvE X' δ e d) ∧ Sl K H σ δ ∧ ∀ v H', Same H H' → Tp K H' v d → Q v H'
theorem relabel_list {f : Str × NameKind → Str × NameKind} (hf : ∀ p, (f p).1 = p.1 ∧ ((f p).2 = p.2 ∨ (p.2 = .free ∧ (f p).2 = .cell))) (x : Str) : ∀ l : List (Str × NameKind), (l.map f).lookup x = l.lookup x ∨ (l.lookup x = some .free ∧ (l.map f).lookup x = some .cell)
  | [] => .inl rfl
  | p :: l => by
    have ih := relabel_list hf x l
    obtain ⟨h1, h2⟩ := hf p
    obtain ⟨n, k⟩ := p
    rw [List.map_cons]
    generalize f (n, k) = q at h1 h2
    obtain ⟨n', k'⟩ := q
    dsimp only at h1 h2
    subst h1
    simp only [List.lookup_cons]
    cases hx : x == n' with
    | true =>
      rcases h2 with e | ⟨e1, e2⟩
      · left; rw [e]
      · right; rw [e1, e2]; exact ⟨rfl, rfl⟩
    | false => exact ih
theorem relabel_or {scope : Scope} {env : Env} (x : Str) : (relabel scope env).names.lookup x = scope.names.lookup x ∨ (scope.names.lookup x = some .free ∧ (relabel scope env).names.lookup x = some .cell) := by
  unfold relabel
  refine relabel_list (fun p => ?_) x scope.names
  obtain ⟨n, k⟩ := p
  by_cases c : (k == NameKind.free && env.scope.kind == .function && env.kindOf n == some .cell) = true
  · show (ite _ _ _ : Str × NameKind).1 = n ∧ ((ite _ _ _ : Str × NameKind).2 = k ∨ (k = .free ∧ (ite _ _ _ : Str × NameKind).2 = .cell))
    rw [if_pos c]
    simp only [Bool.and_eq_true, beq_iff_eq] at c
    exact ⟨rfl, .inr ⟨c.1.1, rfl⟩⟩
  · show (ite _ _ _ : Str × NameKind).1 = n ∧ ((ite _ _ _ : Str × NameKind).2 = k ∨ (k = .free ∧ (ite _ _ _ : Str × NameKind).2 = .cell))
    rw [if_neg c]
    exact ⟨rfl, .inl rfl⟩
theorem BX.blkOk (B : BX X N sc k) {scope : Scope} {own : List (Str × Nat)} (ok : blkC N sc scope own = true) : BlkOk X.N X.env.scope scope own := by
  obtain ⟨h1, h2, h3, h4, h5⟩ := blkOk_by ok
  refine ⟨h1, h2, by rw [B.fN]; exact h3, fun y hy e => ?_, by rw [B.fN]; exact h5⟩
  rcases B.fS y.1 with z | ⟨_, z⟩
  · rw [z]; exact h4 y hy e
  · exact .inl z
theorem BX.blk (B : BX X N sc k) (scope : Scope) (s : Shared) (H : Hp) (C : Addr) (cl : List (Str × Addr)) (fp : List Addr) : BX (X.blk s H scope (compEnvC scope cl C X.env) fp) N scope k :=
  ⟨B.fN, fun x => relabel_or x, B.calm, B.room, B.nd, fun x => by
    show (scope.names.lookup x == some .cell) = true ∨ _
    cases e : (scope.names.lookup x == some .cell) with
    | true => exact .inl rfl
    | false => exact .inr fun z => by rw [z] at e; exact Bool.noConfusion e, PassesOwn.never⟩
theorem tlc_of {P : L2.St → Hp → Prop} {g : TG} {own : List (Str × Nat)} {scope : Scope} {σ : L2.St} {H : Hp} {Q : VK} (hσ : σ.length = N.length) (hP : ∀ σ H, P σ H → Sl X.K H σ δ) (hi : EvIP X P tg iter ds) (hl : fs.length = ds.length) (hz : ds.length ≤ 4096)
    (he : ∀ (j : Nat) (d : PyData), ds[j]? = some d → ∃ δ' d', fs[j]? = some d' ∧ EvG X N (wipeD δ (own.map (·.2))) (own.map (·.2)) g d δ' ∧ ∀ X', X'.K = X.K → X'.mg = X.mg → BX X' N scope k → EvE X' δ' elt d')
    (hPp : P σ H) (q : ∀ p xs H', Same H H' → H p = none → H' p = some (.lst xs) → TpAll X.K H' xs fs → Q (.ref p) H') : tLc (tEi X tg iter) g tYes (tEu X.K X.mg N scope k elt) (own.map (·.2)) σ H Q := by
  have hS := hP σ H hPp
  refine ⟨P, ds, hi, hPp, fun J H1 e1 src => ?_⟩
  intro D hD
  have hHD : H D = none := by
    cases e : H D with
    | none => rfl
    | some o => rw [e1 D o e] at hD; cases hD
  refine ⟨fun i m H' => m = ds.length - i ∧ i ≤ ds.length ∧ Same H1 H' ∧ ∃ acc, H' D = some (.lst acc) ∧ TpAll X.K H' acc (fs.take i), ⟨_, rfl, Nat.zero_le _, same_new hD, [], upd_same, .nil⟩, ?_⟩
  rintro i m H' ⟨rfl, hile, e2, acc, hacc, tacc⟩
  obtain ⟨s1, s2⟩ := src H' e2
  by_cases c : i < ds.length
  · obtain ⟨g1, g2⟩ := s1 i c
    refine .inr ⟨g1, fun H3 => Same H1 H3 ∧ ∃ acc, H3 D = some (.lst acc) ∧ TpAll X.K H3 acc (fs.take (i + 1)), fun H3 ⟨p1, p2⟩ => ⟨ds.length - (i + 1), by omega, rfl, c, p1, p2⟩, fun v H'' y => ?_⟩
    obtain ⟨e3, d, hd, td⟩ := g2 v H'' y
    obtain ⟨δ', d', hf, G, E⟩ := he i d hd
    refine G.run v _ H'' _ (by rw [L2.wipe_length]; exact hσ) td ((hS.mono (e1.trans (e2.trans e3))).wipe _) fun σ2 hs2 hw => ?_
    refine ⟨hw.trans (wipe_wipe _ _ fun _ h => h), ?_⟩
    simp only [tYes, ↓reduceIte]
    refine ⟨δ', d', E, hs2, fun y H4 e4 t4 => ?_⟩
    have hd4 : H4 D = some (.lst acc) := e4 D _ (e3 D _ hacc)
    have kp : Kp H4 (upd H4 D (.lst (acc ++ [y]))) := kp_mut (fun xs z => by rw [hd4] at z; cases z) (fun ob u z => by rw [hd4] at z; cases z)
    refine ⟨acc, hd4, ?_, same_mut (e2.trans (e3.trans e4)) hD, acc ++ [y], upd_same, ?_⟩
    · rw [tacc.length, List.length_take]
      exact Nat.lt_of_le_of_lt (Nat.min_le_right _ _) (Nat.lt_of_le_of_lt (by rw [hl]; exact hz) (by decide))
    · rw [List.take_add_one, hf]
      exact (((tacc.mono (e3.trans e4)).append (.cons t4 .nil)).kp kp)
  · have ei : i = ds.length := by omega
    subst ei
    refine .inl ⟨s2, q D acc H' (e1.trans e2) hHD hacc ?_⟩
    rw [List.take_of_length_le (by rw [hl]; exact Nat.le_refl _)] at tacc
    exact tacc
theorem pe_eu (B : BX X N sc k) (scope : Scope) : ∀ (s : Shared) (H : Hp) (C : Addr) (cl : List (Str × Addr)) (fp : List Addr), PE (X.blk s H scope (compEnvC scope cl C X.env) fp) elt (tEu X.K X.mg N scope k elt) := fun s H C cl fp =>
  ⟨fun pins s' σ' H' Q' I' h => by
    obtain ⟨δ', d', h1, h2, h3⟩ := h
    exact (h1 (X.blk s H scope (compEnvC scope cl C X.env) fp) rfl rfl (B.blk scope s H C cl fp)).run pins s' σ' H' Q' I' h2 h3⟩
theorem el_lcP (B : BX X N sc k) {P : L2.St → Hp → Prop} {g : TG} {scope : Scope} (own : List (Str × Nat)) (hP : ∀ σ H, P σ H → Sl X.K H σ δ) (hi : EvIP X P tg iter ds) (ok : blkC N sc scope own = true)
    (hg : ∀ X', X'.K = X.K → X'.mg = X.mg → BX X' N scope k → PG X' tg g) (hl : fs.length = ds.length) (hz : ds.length ≤ 4096)
    (he : ∀ (j : Nat) (d : PyData), ds[j]? = some d → ∃ δ' d', fs[j]? = some d' ∧ EvG X N (wipeD δ (own.map (·.2))) (own.map (·.2)) g d δ' ∧ ∀ X', X'.K = X.K → X'.mg = X.mg → BX X' N scope k → EvE X' δ' elt d')
    (hs : ∀ x, foldedSetIterable iter X.env x = pure x := by intro _; rfl) : EvLP X P (.ListComp elt [⟨tg, iter, [], 0⟩] scope pos) fs := by
  refine ⟨fun pins s σ H Q I hPp q => ?_⟩
  have hN : X.N = N := B.fN
  have hσ : σ.length = N.length := by rw [I.len, hN]
  exact (pe_lc (te := tEu X.K X.mg N scope k elt) B.calm (by rw [hN]; exact B.nd) (pi_ev (tg := tg)) (B.blkOk ok) (fun s H C cl fp => hg (X.blk s H scope (compEnvC scope cl C X.env) fp) rfl rfl (B.blk scope s H C cl fp)) (fun _ _ _ _ _ => pts_nil)
    (pe_eu B scope) hs).run pins s σ H Q I (tlc_of hσ hP hi hl hz he hPp q)
theorem el_lc (B : BX X N sc k) {g : TG} {scope : Scope} (own : List (Str × Nat)) (hi : EvI X δ tg iter ds) (ok : blkC N sc scope own = true)
    (hg : ∀ X', X'.K = X.K → X'.mg = X.mg → BX X' N scope k → PG X' tg g) (hl : fs.length = ds.length) (hz : ds.length ≤ 4096)
    (he : ∀ (j : Nat) (d : PyData), ds[j]? = some d → ∃ δ' d', fs[j]? = some d' ∧ EvG X N (wipeD δ (own.map (·.2))) (own.map (·.2)) g d δ' ∧ ∀ X', X'.K = X.K → X'.mg = X.mg → BX X' N scope k → EvE X' δ' elt d')
    (hs : ∀ x, foldedSetIterable iter X.env x = pure x := by intro _; rfl) : EvL X δ (.ListComp elt [⟨tg, iter, [], 0⟩] scope pos) fs := el_lcP B own (fun _ _ h => h) hi ok hg hl hz he hs
theorem ee_tupL (B : BX X N sc k) {p : Pos} (h : EvL X δ e ds) (hm : X.mg "tuple" = none) (hg : sc.names.lookup ("tuple" : Str) = some .globalImplicit := by decide +kernel)
    (he : starEach [e] X.env = (false, eval e X.env) :: starEach [] X.env := by rfl) (hpl : (backTo pos (starEach [] X.env)).any (·.1) = false := by rfl) : EvE X δ (.Call (.Name "tuple" p) [e] [] pos) (.tuple ds) :=
  ⟨fun pins s σ H Q I hs q => (pe_callTy call_tuple_of (B.gl hg) hm (by decide +kernel) (pa_cons pe_el pa_nil he) (he := he) (hpl := hpl)).run pins s σ H Q I
    ⟨_, ds, h, hs, fun p xs H' e1 hp hp' t => ⟨p, xs, rfl, .inl ⟨.inl (.inl hp'), fun l hl => q _ _ (e1.trans (same_new hl)) (tp_new hl t)⟩⟩⟩⟩
theorem tpall_bls {K : PySem.W.Frag} {H : Hp} : ∀ {bs : List Bool} {vs : List V}, TpAll K H vs (bs.map PyData.bool) → vs = bs.map V.bl
  | [], _, h => by cases h; rfl
  | b :: bs, _, h => by
    cases h with
    | cons h1 h2 => rw [h1.bl_inv, tpall_bls h2]; rfl
theorem ee_all (B : BX X N sc k) {p : Pos} {bs : List Bool} (h : EvL X δ e (bs.map PyData.bool)) (hm : X.mg "all" = none) (hg : sc.names.lookup ("all" : Str) = some .globalImplicit := by decide +kernel)
    (he : starEach [e] X.env = (false, eval e X.env) :: starEach [] X.env := by rfl) (hpl : (backTo pos (starEach [] X.env)).any (·.1) = false := by rfl) : EvE X δ (.Call (.Name "all" p) [e] [] pos) (.bool (bs.all id)) :=
  ⟨fun pins s σ H Q I hs q => (pe_callB (cr_all B.calm) (B.gl hg) hm (by decide +kernel) (pa_cons pe_el pa_nil he) (he := he) (hpl := hpl)).run pins s σ H Q I
    ⟨_, _, h, hs, fun p xs H' e1 hp hp' t => ⟨p, bs, rfl, by rw [← tpall_bls t]; exact .inl (.inl hp'), q _ _ e1 (.bl _)⟩⟩⟩
end
end K53
end
section
set_option maxRecDepth 100000
set_option maxHeartbeats 4000000
/-! zip(*t) and zip(x, y) as data walked; sum of a tuple. -/
namespace K53
open PySem PySem.Spec PyProof.Rows L2
theorem typeCall_zipN : ∀ {vs : List Value}, 2 ≤ vs.length → vs.length ≤ 4 → checkTypeCall "zip" ⟨vs, []⟩ = pure ()
  | [a, b], _, _ => F.typeCall_zip_2 a b
  | [a, b, c], _, _ => by kernel_rfl
  | [a, b, c, d], _, _ => by kernel_rfl
  | [], h, _ => absurd h (by decide)
  | [_], h, _ => absurd h (by simp)
  | _ :: _ :: _ :: _ :: _ :: _, _, h => absurd h (by simp)
theorem newCall_zipN : ∀ {vs : List Value}, 2 ≤ vs.length → vs.length ≤ 4 → checkBuiltinCall "zip.__new__" ⟨.type "zip" :: vs, []⟩ = pure ()
  | [a, b], _, _ => F.newCall_zip_2 a b
  | [a, b, c], _, _ => by kernel_rfl
  | [a, b, c, d], _, _ => by kernel_rfl
  | [], h, _ => absurd h (by decide)
  | [_], h, _ => absurd h (by simp)
  | _ :: _ :: _ :: _ :: _ :: _, _, h => absurd h (by simp)
theorem initArgs_zipN (obj : Value) : ∀ {vs : List Value}, 2 ≤ vs.length → vs.length ≤ 4 → argsOk "object.__init__" ⟨obj :: vs, []⟩
  | [a, b], _, _ => F.args_object_init_3 obj a b
  | [a, b, c], _, _ => by unfold argsOk; kernel_rfl
  | [a, b, c, d], _, _ => by unfold argsOk; kernel_rfl
  | [], h, _ => absurd h (by decide)
  | [_], h, _ => absurd h (by simp)
  | _ :: _ :: _ :: _ :: _ :: _, _, h => absurd h (by simp)
theorem same_srv {K : PySem.W.Frag} {H H' : Hp} (e : Same H H') {src : Bool × Addr} {c : List V} (h : SrV K H src c) : SrV K H' src c := by
  obtain ⟨k, l⟩ := src
  cases k with
  | true =>
    rcases (show SqL K H l c from h) with (h | ⟨o, h⟩) | h
    · exact Or.inl (.inl (e _ _ h))
    · exact Or.inl (.inr ⟨o, e _ _ h⟩)
    · exact Or.inr h
  | false => exact kp_sqt (Kp.of e) (show SqT K H l c from h)
theorem Paired.mp {α β : Type} {F G : α → β → Prop} (h : ∀ a b, F a b → G a b) : ∀ {l : List α} {m : List β}, Paired F l m → Paired G l m
  | _, _, .nil => .nil
  | _, _, .cons a r => .cons (h _ _ a) (Paired.mp h r)
theorem paired_len {α β : Type} {F : α → β → Prop} : ∀ {l : List α} {m : List β}, Paired F l m → l.length = m.length
  | _, _, .nil => rfl
  | _, _, .cons a r => by rw [List.length_cons, List.length_cons, paired_len r]
theorem tp_col {K : PySem.W.Frag} {H : Hp} {i : Nat} : ∀ {cs : List (List V)} {rows : List (List PyData)}, Paired (TpAll K H) cs rows → (∀ r ∈ rows, i < r.length) → TpAll K H (cs.map (nth0 i)) (rows.map (·.getD i .none))
  | _, _, .nil, _ => .nil
  | _, _, .cons (a := c) (b := r) a t, h => by
    have hi := h r List.mem_cons_self
    obtain ⟨v, hv, tv⟩ := a.get (List.getElem?_eq_getElem hi)
    refine .cons ?_ (tp_col t fun r hr => h r (List.mem_cons_of_mem _ hr))
    show Tp K H ((c[i]?).getD .non) _
    rw [hv]
    show Tp K H v (r.getD i .none)
    rw [List.getD_eq_getElem?_getD, List.getElem?_eq_getElem hi]
    exact tv
/-- what the columns of rows of one length are -/
def cols (m : Nat) (rows : List (List PyData)) : List PyData := (List.range m).map fun i => .tuple (rows.map (·.getD i .none))
section
variable {X : Cx} {δ : Dl} {N : List Str} {sc : Scope} {k : Nat} {e a b tg iter elt : Expr} {d : PyData} {ds fs : List PyData} {pos : Pos} {pins : List (Addr × Obj)} {σ : L2.St} {H : Hp} {s : Shared}
theorem dsrc_zip {K : PySem.W.Frag} {H : Hp} {srcs : List (Bool × Addr)} {cs : List (List V)} {rows : List (List PyData)} {m : Nat} (hp : Paired (SrV K H) srcs cs) (ht : Paired (TpAll K H) cs rows) (hr : ∀ r ∈ rows, r.length = m) (hne : rows ≠ []) :
    DSrc K (ItN K srcs) H (cols m rows) := fun H' e => by
  have hl : (cols m rows).length = m := by unfold cols; rw [List.length_map, List.length_range]
  have hp' : Paired (SrV K H') srcs cs := Paired.mp (fun _ _ => same_srv e) hp
  have ht' : Paired (TpAll K H') cs rows := Paired.mp (fun _ _ t => t.mono e) ht
  have hc : ∀ c ∈ cs, c.length = m := fun c hc => by
    have key : ∀ {cs : List (List V)} {rows : List (List PyData)}, Paired (TpAll K H) cs rows → (∀ r ∈ rows, r.length = m) → ∀ c ∈ cs, c.length = m := by
      intro cs rows h
      induction h with
      | nil => intro _ c hc; cases hc
      | cons a r ih =>
        intro hr c hc
        rcases List.mem_cons.mp hc with z | z
        · rw [z, a.length]; exact hr _ List.mem_cons_self
        · exact ih (fun r hx => hr r (List.mem_cons_of_mem _ hx)) c z
    exact key ht hr c hc
  refine ⟨fun i hi => ⟨⟨cs, hp', fun c h => by rw [hc c h]; omega⟩, fun v H'' y => ?_⟩, ?_⟩
  · obtain ⟨T, xs, rfl, hT, rfl, hx⟩ := y
    have := hx cs hp'
    subst this
    refine ⟨same_new hT, .tuple (rows.map (·.getD i .none)), ?_, tp_new hT (tp_col ht' fun r h => by rw [hr r h]; omega)⟩
    unfold cols
    rw [List.getElem?_map, List.getElem?_range (by omega)]; rfl
  · rw [hl]
    cases hp' with
    | nil => cases ht'; exact absurd rfl hne
    | cons a r => exact ⟨_, _, .cons a r, rfl, by rw [hc _ List.mem_cons_self]; exact Nat.le_refl _⟩
theorem zip_pie {R : It → Hp → Prop} {srcs : List (Bool × Addr)} {cs : List (List V)} (I : Inv X pins σ H s) (hp : Paired (SrV X.K H) srcs cs) (h2 : 2 ≤ srcs.length) (h4 : srcs.length ≤ 4) (q : R (ItN X.K srcs) H) :
    wpAny (model X.prog X.w) X.A (call (.type "zip") (srcs.map fun p => Value.ref p.2)) (fun v s1 => wpAny (model X.prog X.w) X.A (pyIter v) (PIE X pins σ tg R) X.xe s1) X.xe s := by
  have hsr : ∀ src ∈ srcs, ∃ v, SrAt s.heap src v := fun src h => by
    obtain ⟨c, _, hc⟩ := paired_mem hp h
    obtain ⟨its, z, _⟩ := sr_of I hc
    exact ⟨its, z⟩
  have hlt : ∀ src ∈ srcs, src.2 < s.heap.objs.size := fun src h => by
    obtain ⟨v, z⟩ := hsr src h
    obtain ⟨kd, l⟩ := src
    cases kd with
    | true =>
      obtain ⟨o, e, _⟩ := (show s.heap.IsList l v.toArray from z)
      exact Heap.lt_size e
    | false =>
      obtain ⟨o, e, _⟩ := (show s.heap.IsTuple l v.toArray from z)
      exact Heap.lt_size e
  have hm : (srcs.map fun p => Value.ref p.2).length = srcs.length := List.length_map _
  refine callType_new F.called_zip (by decide) (typeCall_zipN (by rw [hm]; exact h2) (by rw [hm]; exact h4)) (newCall_zipN (by rw [hm]; exact h2) (by rw [hm]; exact h4)) (fun obj => initArgs_zipN obj (by rw [hm]; exact h2) (by rw [hm]; exact h4)) F.entry_zip_new
    (meets_zipN srcs (Nat.le_trans h4 (by decide)) (fun _ => [])) ⟨hsr, fun h' st hk => ?_⟩
  obtain ⟨f0, f1, hz, _⟩ := id st.rc
  have I2 : Inv X pins σ H { s with heap := h' } := I.kept (t' := s.toks) hk
  refine ⟨⟨_, hz, rfl⟩, pyIter_zipN hz ⟨_, _, _, _, H, rfl, I2, turn_zipN hlt (fun z => by rw [z] at h2; exact absurd h2 (by decide)) (Nat.le_trans h4 (by decide)), st, fun c hcm => ?_, q⟩⟩
  have hle : s.heap.objs.size ≤ c := by
    have h5 : c = s.heap.objs.size + srcs.length + 2 ∨ c = s.heap.objs.size + srcs.length ∨ c = s.heap.objs.size + srcs.length + 1 ∨ c ∈ List.range' s.heap.objs.size srcs.length := by simpa using hcm
    rcases h5 with e | e | e | e
    · rw [e]; exact Nat.le_trans (Nat.le_add_right _ _) (Nat.le_add_right _ 2)
    · rw [e]; exact Nat.le_add_right _ _
    · rw [e]; exact Nat.le_trans (Nat.le_add_right _ _) (Nat.le_add_right _ 1)
    · exact (List.mem_range'_1.mp e).1
  exact I.fpOk hle (I.hok.fresh hle)
theorem rows_srcs {K : PySem.W.Frag} {H : Hp} : ∀ {rows : List (List PyData)} {xs : List V}, TpAll K H xs (rows.map PyData.tuple) → ∃ (bs : List Addr) (cs : List (List V)), xs = bs.map V.ref ∧ Paired (SrV K H) (bs.map fun b => (false, b)) cs ∧ Paired (TpAll K H) cs rows
  | [], _, h => by cases h; exact ⟨[], [], rfl, .nil, .nil⟩
  | r :: rows, _, h => by
    cases h with
    | cons h1 h2 =>
      obtain ⟨b, ys, rfl, g1, g2⟩ := h1.tup_inv
      obtain ⟨bs, cs, rfl, p1, p2⟩ := rows_srcs h2
      exact ⟨b :: bs, ys :: cs, rfl, .cons (show SrV K H (false, b) ys from g1) p1, .cons g2 p2⟩
theorem vals_refs : ∀ {bs : List Addr} {us : List Value}, Vals (bs.map V.ref) us → us = bs.map Value.ref
  | [], _, .nil => rfl
  | b :: bs, _, .cons r t => by rw [vals_refs t, show _ = Value.ref b from r]; rfl
theorem ei_zipStar (B : BX X N sc k) {p sp_ : Pos} {rows : List (List PyData)} {m : Nat} (hm : X.mg "zip" = none) (h : EvE X δ e (.tuple (rows.map PyData.tuple))) (h2 : 2 ≤ rows.length) (h4 : rows.length ≤ 4) (hr : ∀ r ∈ rows, r.length = m)
    (hg : sc.names.lookup ("zip" : Str) = some .globalImplicit := by decide +kernel) (hst : starEach [.Starred e sp_] X.env = [(true, eval e X.env)] := by rfl) :
    EvI X δ tg (.Call (.Name "zip" p) [.Starred e sp_] [] pos) (cols m rows) :=
  ⟨fun pins s σ H R I hs q => by
    refine Call_ (ld_blt I (B.gl hg) hm PyProof.Rows.boot_zip ?_)
    rw [hst]
    refine PySem.W.ks_call (P := fun _ => True) rfl (fun _ _ => ⟨.machine, .inr (.inl rfl), PySem.W.Looks.of_pure rfl⟩) (PySem.W.ks_lone ?_)
    refine h.run pins s σ H (fun v H1 => ∃ a xs, v = V.ref a ∧ SqT X.K H1 a xs ∧ TpAll X.K H1 xs (rows.map PyData.tuple) ∧ Same H H1) I hs (fun v H1 e1 t1 => ?_) |> fun z => thn z fun v s1 ⟨x, H1, I1, r1, a, xs, ex, g1, g2, e1⟩ => ?_
    · obtain ⟨a, xs, rfl, g1, g2⟩ := t1.tup_inv
      exact ⟨a, xs, rfl, g1, g2, e1⟩
    · subst ex
      cases r1
      refine StX.star_any I1 (.inl g1) fun us s2 I2 rv => ⟨trivial, ?_⟩
      obtain ⟨bs, cs, rfl, p1, p2⟩ := rows_srcs g2
      have eu := vals_refs rv
      have hbl : bs.length = rows.length := by
        have := paired_len p1
        rw [List.length_map] at this
        rw [this, paired_len p2]
      have ee : us = (bs.map fun b => (false, b)).map fun p => Value.ref p.2 := by rw [eu, List.map_map]; rfl
      show wpAny _ _ (call (.type "zip") ([] ++ us) []) _ _ _
      rw [List.nil_append, ee]
      refine zip_pie I2 p1 (by rw [List.length_map, hbl]; exact h2) (by rw [List.length_map, hbl]; exact h4) (q _ _ e1 (dsrc_zip p1 p2 hr fun z => by rw [z] at h2; exact absurd h2 (by decide)))⟩
end
end K53
end
section
set_option maxRecDepth 100000
set_option maxHeartbeats 4000000
/-! join: the sum of the layers. -/
namespace K53
open PySem PySem.Spec PyProof.Rows L2
theorem addL_get {a b : List Int} {j n : Nat} (ha : a.length = n) (hb : b.length = n) (hj : j < n) : (addL a b).getD j 0 = a.getD j 0 + b.getD j 0 := by
  unfold addL
  have h1 : j < a.length := by omega
  have h2 : j < b.length := by omega
  simp [List.getD_eq_getElem?_getD, List.getElem?_zipWith, List.getElem?_eq_getElem h1, List.getElem?_eq_getElem h2]
theorem foldl_addL_get {j n : Nat} (hj : j < n) : ∀ (ls : List (List Int)) (a : List Int), a.length = n → (∀ l ∈ ls, l.length = n) → (ls.foldl addL a).getD j 0 = a.getD j 0 + (ls.map (·.getD j 0)).sum
  | [], a, _, _ => by simp
  | l :: ls, a, ha, h => by
    have hl := h l List.mem_cons_self
    rw [List.foldl_cons, foldl_addL_get hj ls (addL a l) (by unfold addL; rw [List.length_zipWith]; omega) (fun x hx => h x (List.mem_cons_of_mem _ hx)), addL_get ha hl hj, List.map_cons, List.sum_cons]
    omega
theorem sumL_get {ls : List (List Int)} {j n : Nat} (hne : 1 ≤ ls.length) (h : ∀ l ∈ ls, l.length = n) (hj : j < n) : (sumL ls).getD j 0 = (ls.map (·.getD j 0)).sum := by
  unfold sumL
  rw [foldl_addL_get hj ls _ (by rw [List.length_replicate, headD_length hne h]) h]
  have : (List.replicate (ls.headD []).length (0 : Int)).getD j 0 = 0 := by
    rw [List.getD_eq_getElem?_getD, List.getElem?_replicate]; split <;> rfl
  rw [this, Int.zero_add]
def rowsI (ls : List (List Int)) : List (List PyData) := ls.map fun c => c.map PyData.int
theorem rowsI_tup (ls : List (List Int)) : (rowsI ls).map PyData.tuple = ls.map tI := by unfold rowsI; rw [List.map_map]; rfl
theorem rowsI_col {ls : List (List Int)} {n j : Nat} (h : ∀ l ∈ ls, l.length = n) (hj : j < n) : (rowsI ls).map (·.getD j .none) = (ls.map (·.getD j 0)).map PyData.int := by
  unfold rowsI
  rw [List.map_map, List.map_map]
  refine List.map_congr_left fun l hl => ?_
  have e := h l hl
  have h1 : j < l.length := by omega
  simp [List.getD_eq_getElem?_getD, List.getElem?_eq_getElem h1]
section
variable {X : Cx} {δ : Dl} {N : List Str} {sc : Scope} {k : Nat} {e : Expr} {p pos : Pos} {K : PySem.W.Frag} {mg : Str → Option Value}
theorem intsAre_of : ∀ {ns : List Int} {us : List Value}, Vals (ns.map V.int) us → IntsAre us ns
  | [], _, .nil => .nil
  | n :: ns, _, .cons r t => by
    obtain ⟨k, rfl⟩ := r
    exact .cons n k (intsAre_of t)
theorem cr_sumT (hc : X.calm = true) : CallR X (.builtin "sum") (fun vs H Q => ∃ (a : Addr) (ns : List Int), vs = [V.ref a] ∧ SqT X.K H a (ns.map V.int) ∧ Q (.int ns.sum) H) := by
  intro pins s σ H vs us Q I r h
  obtain ⟨a, ns, rfl, hs, q⟩ := h
  obtain ⟨its, rv, hl, _⟩ := I.tuple hs
  rw [Vals.ref1 r]
  have hi := intsAre_of rv
  obtain ⟨xs, hx⟩ := hi.allInts.items
  have hn : numsOf its.toArray.toList = ns := by rw [show its.toArray.toList = its from rfl, hi.numsOf]
  have hl2 : s.heap.IsTuple a its.toArray := hl
  rw [hx] at hl2 hn
  rw [nums_intItems] at hn
  refine PySem.W.ktm_sumG (I.ok.hd hc) hl2 fun h' tk t' hk => ?_
  rw [preSum_eq, List.take_of_length_le (by simp), hn]
  exact ⟨.int _, H, I.kept hk, ⟨_, rfl⟩, q⟩
theorem ee_sumT (B : BX X N sc k) {ns : List Int} (hm : X.mg "sum" = none) (h : EvE X δ e (tI ns)) (hg : sc.names.lookup ("sum" : Str) = some .globalImplicit := by decide +kernel)
    (he : starEach [e] X.env = (false, eval e X.env) :: starEach [] X.env := by rfl) : EvE X δ (.Call (.Name "sum" p) [e] [] pos) (.int ns.sum) :=
  ⟨fun pins s σ H Q I hs q => (pe_callB (cr_sumT B.calm) (B.gl hg) hm (by decide +kernel) pa_ev (he := he)).run pins s σ H Q I
    ⟨δ, [_], ea_cons h ea_nil he, hs, fun vs H1 e1 t1 => by
      cases t1 with
      | cons t1 t2 =>
        cases t2
        obtain ⟨a, xs, rfl, h1, h2⟩ := t1.tup_inv
        rw [h2.ints] at h1
        exact ⟨a, ns, rfl, h1, q _ _ e1 (.int _)⟩⟩⟩
abbrev N_joined : List Str := ["track", "mode", "layers", "cells"]
theorem sc_joined : FnScope N_joined ["track"] (defScope (topS 28)) := ⟨rfl, rfl, rfl, by decide +kernel, rfl, by decide +kernel, by decide +kernel⟩
theorem C_joined (F : FunAt K mg "joined" (topS 28) ["track"]) (m_len : mg "len" = none) (m_sum : mg "sum" = none) (m_zip : mg "zip" = none) (m_tuple : mg "tuple" = none) : Cal K mg "joined" 1 1 (spD K (fT join Ok)) :=
  cal_data (k := 0) F sc_joined fT_len fun X hK hM B ds d h => by
    subst hK hM
    obtain ⟨t, ok, rfl, rfl⟩ := h
    have hlo : t.m.loops = true → ∃ n, LoopOk t n := fun e => ok.loop e
    obtain ⟨m, ls, us, p, w, pc, s, mu⟩ := t
    refine es_cons (es_unpack B [1, 2] (ee_sl (ee_name B (i := 0) rfl rfl) eo_none (eo_some ee_int)) (pgs_cons (B.pgn (i := 1) rfl (by decide +kernel)) (pgs_cons (B.pgn (i := 2) rfl (by decide +kernel)) pgs_nil)) (by decide) rfl) ?_
    refine es_cif (et_w (ew_or (et_nrests (m := m) (ee_name B (i := 1) rfl rfl) (ee_tup (ea_cons ee_str (ea_cons ee_str ea_nil)))) (fun _ => ew_or1 (et_lt (ee_len B m_len (ee_name B (i := 2) rfl rfl)) ee_int)))) (fun c => es_fin (ee_name B (i := 0) rfl rfl) ?_) fun c => ?_
    · show _ = (join ⟨m, ls, us, p, w, pc, s, mu⟩).d
      unfold join; dsimp only
      rw [if_neg]
      rintro ⟨h1, h2⟩
      rw [h1] at c
      have c' := of_decide_eq_true c
      rw [List.length_map] at c'
      dsimp only at c'
      omega
    · have hm : m.rests = true := by
        cases e : m.rests with
        | true => rfl
        | false => rw [e] at c; cases c
      have h2 : 2 ≤ ls.length := by
        rw [hm] at c
        have c' := of_decide_eq_false c
        rw [List.length_map] at c'
        dsimp only at c'
        omega
      obtain ⟨n, L⟩ := hlo (rests_loops hm)
      have hle := L.le
      have hll := L.ll
      have hn2 := L.n2
      dsimp only at hle hll
      refine es_fin (ee_cat (ee_tup (ea_cons (ee_name B (i := 1) rfl rfl) (ea_cons (ee_tup (ea_cons (ee_tupL B (ds := (sumL ls).map .int)
        (el_lc B [("cells", 3)] (ei_zipStar B (rows := rowsI ls) (m := n) m_zip ((ee_name B (i := 2) rfl rfl).cast (by rw [rowsI_tup]; rfl)) ?_ ?_ ?_) (by decide +kernel) (fun X' _ _ B' => B'.pgn (i := 3) rfl (by decide +kernel)) ?_ ?_ ?_) m_tuple) ea_nil)) (ea_cons (ee_tup ea_nil) ea_nil)))) (ee_sl (ee_name B (i := 0) rfl rfl) (eo_some ee_int) eo_none) ?_) ?_
      · unfold rowsI; rw [List.length_map]; exact h2
      · unfold rowsI; rw [List.length_map]; omega
      · intro r hr
        unfold rowsI at hr
        obtain ⟨l, hl, rfl⟩ := List.mem_map.mp hr
        rw [List.length_map]; exact hll l hl
      · unfold cols
        rw [List.length_map, List.length_map, List.length_range]
        exact sumL_length (by omega) hll
      · unfold cols
        rw [List.length_map, List.length_range]; omega
      · intro j d hd
        unfold cols at hd
        have hj : j < n := by
          obtain ⟨z, _⟩ := List.getElem?_eq_some_iff.mp hd
          rw [List.length_map, List.length_range] at z; exact z
        rw [List.getElem?_map, List.getElem?_range hj] at hd
        cases hd
        have hs : j < (sumL ls).length := by rw [sumL_length (by omega) hll]; exact hj
        refine ⟨_, .int ((sumL ls).getD j 0), ?_, eg_name (by decide) (by decide), fun X' hK hM B' => ?_⟩
        · rw [List.getElem?_map, List.getElem?_eq_getElem hs, List.getD_eq_getElem?_getD, List.getElem?_eq_getElem hs]; rfl
        · rw [sumL_get (by omega) hll hj]
          refine ee_sumT B' (by rw [hM]; exact m_sum) ((ee_name B' (i := 3) rfl rfl).cast ?_)
          exact congrArg PyData.tuple (rowsI_col hll hj)
      · exact Nat.le_of_ble_eq_true rfl
      · show _ = (join ⟨m, ls, us, p, w, pc, s, mu⟩).d
        unfold join; dsimp only
        rw [if_pos (show m.rests = true ∧ 2 ≤ ls.length from ⟨hm, h2⟩)]; rfl
end
end K53
end
section
set_option maxRecDepth 100000
set_option maxHeartbeats 4000000
/-! The checks: every track of the right form is found so. -/
namespace K53
open PySem PySem.Spec PyProof.Rows L2
section
variable {X : Cx} {δ : Dl} {N : List Str} {sc : Scope} {k : Nat} {e c iter elt : Expr} {d : PyData} {ds : List PyData} {o : Out} {u : Bool} {p pos px pc' : Pos} {body rest : List Stmt} {K : PySem.W.Frag} {mg : Str → Option Value}
theorem es_skip (hc : EvT X δ c u) (hu : u = false) (h : EvSs X δ rest o) : EvSs X δ (.If c body [] pos :: rest) o := by
  subst hu
  exact es_cons (es_if (o := .nx δ) hc (fun z => nomatch z) fun _ => es_nil) h
theorem ee_allF (B : BX X N sc k) {scope : Scope} {y : Str} {i : Nat} (hm : X.mg "all" = none) (hi : EvI X δ (.Name y px) iter ds) (hN : N[i]? = some y) (hz : ds.length ≤ 4096)
    (he : ∀ d ∈ ds, ∀ X', X'.K = X.K → X'.mg = X.mg → BX X' N scope k → EvE X' ((δ.set i none).set i (some d)) elt (.bool true))
    (ok : blkC N sc scope [(y, i)] = true := by decide +kernel) (hl : locB scope y = true := by decide +kernel) (hg : sc.names.lookup ("all" : Str) = some .globalImplicit := by decide +kernel)
    (hs : ∀ x, foldedSetIterable iter X.env x = pure x := by intro _; rfl)
    (hst : starEach [.ListComp elt [⟨.Name y px, iter, [], 0⟩] scope pc'] X.env = (false, eval (.ListComp elt [⟨.Name y px, iter, [], 0⟩] scope pc') X.env) :: starEach [] X.env := by rfl) :
    EvE X δ (.Call (.Name "all" p) [.ListComp elt [⟨.Name y px, iter, [], 0⟩] scope pc'] [] pos) (.bool true) := by
  have hin : i < N.length := (List.getElem?_eq_some_iff.mp hN).1
  have L : EvL X δ (.ListComp elt [⟨.Name y px, iter, [], 0⟩] scope pc') ((List.replicate ds.length true).map PyData.bool) :=
    el_lc B [(y, i)] hi ok (fun X' _ _ B' => B'.pgn (i := i) hN hl) (by rw [List.length_map, List.length_replicate]) hz (fun j d hd => by
      have hj : j < ds.length := (List.getElem?_eq_some_iff.mp hd).1
      refine ⟨_, .bool true, ?_, eg_name hin (by simp), he d (List.mem_of_getElem? hd)⟩
      rw [List.getElem?_map, List.getElem?_replicate, if_pos hj]; rfl) hs
  have := ee_all (p := p) (pos := pos) B L hm hg hst
  have e1 : (List.replicate ds.length true).all id = true := by simp
  rw [e1] at this
  exact this
def fWhole : List PyData → PyData → Prop := fun ds d => ∃ i a b : Int, a ≤ i ∧ i ≤ b ∧ ds = [.int i, .int a, .int b] ∧ d = .bool true
def fNum : List PyData → PyData → Prop := fun ds d => ∃ i : Int, ds = [.int i] ∧ d = .bool true
def fLayer : List PyData → PyData → Prop := fun ds d => ∃ (l : List Int) (a b : Int), a ≤ (l.length : Nat) ∧ ((l.length : Nat) : Int) ≤ b ∧ l.length ≤ 64 ∧ ds = [tI l, .int a, .int b] ∧ d = .bool true
def fSign : List PyData → PyData → Prop := fun ds d => ∃ i : Int, (i = 1 ∨ i = -1) ∧ ds = [.int i] ∧ d = .bool true
def fPace : List PyData → PyData → Prop := fun ds d => ∃ i : Int, (i = 1 ∨ i = 2 ∨ i = 4) ∧ ds = [.int i] ∧ d = .bool true
def fLayers : List PyData → PyData → Prop := fun ds d => ∃ (ls us : List (List Int)) (n : Nat), 1 ≤ n ∧ n ≤ 64 ∧ (∀ l ∈ ls, l.length = n) ∧ (∀ l ∈ us, l.length = n) ∧ 1 ≤ ls.length ∧ ls.length + us.length ≤ 4 ∧ ds = [tL ls, tL us] ∧ d = .bool true
def fLooping : List PyData → PyData → Prop := fun ds d => ∃ t n, LoopOk t n ∧ ds = [t.d] ∧ d = .bool true
def fDefault : List PyData → PyData → Prop := fun ds d => ∃ t : Trk, t.us = [] ∧ t.p = 0 ∧ t.w = 1 ∧ t.pc = 2 ∧ t.s = 1 ∧ t.mu = false ∧ ds = [t.d] ∧ d = .bool true
def fTrack : List PyData → PyData → Prop := fun ds d => ∃ t : Trk, Ok t ∧ ds = [t.d] ∧ d = .bool true
def paces3 : List PyData := [.int 1, .int 2, .int 4]

abbrev N_whole : List Str := ["thing", "least", "most"]
theorem sc_whole : FnScope N_whole ["thing", "least", "most"] (defScope (topS 5)) := ⟨rfl, rfl, rfl, by decide +kernel, rfl, by decide +kernel, by decide +kernel⟩
theorem C_whole (F : FunAt K mg "is_whole" (topS 5) ["thing", "least", "most"]) (m_isinstance : mg "isinstance" = none) (m_int : mg "int" = none) (m_bool : mg "bool" = none) : Cal K mg "is_whole" 3 1 (spD K fWhole) :=
  cal_data (k := 0) F sc_whole (fun ds d h => by obtain ⟨i, a, b, _, _, rfl, _⟩ := h; rfl) fun X hK hM B ds d h => by
    subst hK hM
    obtain ⟨i, a, b, h1, h2, rfl, rfl⟩ := h
    refine es_fin (ee_and (ee_isi (ty := "int") (b := true) B m_isinstance m_int (ee_name B (i := 0) rfl rfl) rfl (by decide +kernel)) (fun _ => ee_and (ee_not (ee_isi (ty := "bool") (b := false) B m_isinstance m_bool (ee_name B (i := 0) rfl rfl) rfl (by decide +kernel))) (fun _ => ee_and1 (ee_chain (ee_name B (i := 1) rfl rfl) (ee_name B (i := 0) rfl rfl) (ee_name B (i := 2) rfl rfl))))) ?_
    rw [decide_eq_true (show a ≤ i ∧ i ≤ b from ⟨h1, h2⟩)]; rfl
abbrev N_thing : List Str := ["thing"]
theorem sc_number : FnScope N_thing ["thing"] (defScope (topS 6)) := ⟨rfl, rfl, rfl, by decide +kernel, rfl, by decide +kernel, by decide +kernel⟩
theorem C_number (F : FunAt K mg "is_number" (topS 6) ["thing"]) (m_isinstance : mg "isinstance" = none) (m_int : mg "int" = none) (m_bool : mg "bool" = none) : Cal K mg "is_number" 1 1 (spD K fNum) :=
  cal_data (k := 0) F sc_number (fun ds d h => by obtain ⟨i, rfl, _⟩ := h; rfl) fun X hK hM B ds d h => by
    subst hK hM
    obtain ⟨i, rfl, rfl⟩ := h
    exact es_fin (ee_and (ee_isi (ty := "int") (b := true) B m_isinstance m_int (ee_name B (i := 0) rfl rfl) rfl (by decide +kernel)) (fun _ => ee_and1 (ee_not (ee_isi (ty := "bool") (b := false) B m_isinstance m_bool (ee_name B (i := 0) rfl rfl) rfl (by decide +kernel))))) rfl
abbrev N_layer : List Str := ["thing", "least", "most", "cell"]
theorem sc_layer : FnScope N_layer ["thing", "least", "most"] (defScope (topS 13)) := ⟨rfl, rfl, rfl, by decide +kernel, rfl, by decide +kernel, by decide +kernel⟩
theorem C_layer (F : FunAt K mg "is_layer" (topS 13) ["thing", "least", "most"]) (C_number : Cal K mg "is_number" 1 1 (spD K fNum)) (m_isinstance : mg "isinstance" = none) (m_tuple : mg "tuple" = none) (m_len : mg "len" = none) (m_all : mg "all" = none) : Cal K mg "is_layer" 3 2 (spD K fLayer) :=
  cal_data (k := 1) F sc_layer (fun ds d h => by obtain ⟨l, a, b, _, _, _, rfl, _⟩ := h; rfl) fun X hK hM B ds d h => by
    subst hK hM
    obtain ⟨l, a, b, h1, h2, h3, rfl, rfl⟩ := h
    refine es_fin (ee_and (ee_isi (ty := "tuple") (b := true) B m_isinstance m_tuple (ee_name B (i := 0) rfl rfl) rfl (by decide +kernel)) (fun _ => ee_and (ee_chain (ee_name B (i := 1) rfl rfl) (ee_len B m_len (ee_name B (i := 0) rfl rfl)) (ee_name B (i := 2) rfl rfl)) (fun _ => ee_and1
      (ee_allF B (i := 3) m_all (ei_tup (ds := l.map .int) (ee_name B (i := 0) rfl rfl)) rfl (by rw [List.length_map]; omega) fun d hd X' hK hM B' => ?_)))) ?_
    · obtain ⟨i, _, rfl⟩ := List.mem_map.mp hd
      exact ee_call (f := fNum) B' (by rw [hK, hM]; exact C_number) (by decide) (by decide +kernel) (ea_cons (ee_name B' (i := 3) rfl rfl) ea_nil) ⟨i, rfl, rfl⟩
    · rw [List.length_map, decide_eq_true (show a ≤ ((l.length : Nat) : Int) ∧ ((l.length : Nat) : Int) ≤ b from ⟨h1, h2⟩)]; rfl
theorem sc_sign : FnScope N_thing ["thing"] (defScope (topS 14)) := ⟨rfl, rfl, rfl, by decide +kernel, rfl, by decide +kernel, by decide +kernel⟩
theorem C_sign (F : FunAt K mg "is_sign" (topS 14) ["thing"]) (C_whole : Cal K mg "is_whole" 3 1 (spD K fWhole)) : Cal K mg "is_sign" 1 2 (spD K fSign) :=
  cal_data (k := 1) F sc_sign (fun ds d h => by obtain ⟨i, _, rfl, _⟩ := h; rfl) fun X hK hM B ds d h => by
    subst hK hM
    obtain ⟨i, h1, rfl, rfl⟩ := h
    refine es_fin (ee_and (ee_call B C_whole (by decide) (by decide +kernel) (ea_cons (ee_name B (i := 0) rfl rfl) (ea_cons (ee_neg ee_int) (ea_cons ee_int ea_nil))) ⟨i, -1, 1, by omega, by omega, rfl, rfl⟩) (fun _ => ee_and1 (ee_ne B (ee_name B (i := 0) rfl rfl) ee_int (sh_int _) (sh_int _)))) ?_
    rw [eqv_int, decide_eq_false (show ¬ i = 0 by omega)]; rfl
theorem sc_pace : FnScope N_thing ["thing"] (defScope (topS 15)) := ⟨rfl, rfl, rfl, by decide +kernel, rfl, by decide +kernel, by decide +kernel⟩
theorem C_pace (F : FunAt K mg "is_pace" (topS 15) ["thing"]) (C_whole : Cal K mg "is_whole" 3 1 (spD K fWhole)) (G_PACES : GlobD K mg "PACES" (.tuple paces3)) : Cal K mg "is_pace" 1 2 (spD K fPace) :=
  cal_data (k := 1) F sc_pace (fun ds d h => by obtain ⟨i, _, rfl, _⟩ := h; rfl) fun X hK hM B ds d h => by
    subst hK hM
    obtain ⟨i, h1, rfl, rfl⟩ := h
    refine es_fin (ee_and (ee_call B C_whole (by decide) (by decide +kernel) (ea_cons (ee_name B (i := 0) rfl rfl) (ea_cons ee_int (ea_cons ee_int ea_nil))) ⟨i, 1, 4, by omega, by omega, rfl, rfl⟩) (fun _ => ee_and1 (ee_in (ee_name B (i := 0) rfl rfl) (ee_const B G_PACES (by decide +kernel))))) ?_
    rcases h1 with e | e | e <;> subst e <;> rfl
abbrev N_layers : List Str := ["layers", "undone", "many", "layer"]
theorem sc_layers : FnScope N_layers ["layers", "undone"] (defScope (topS 16)) := ⟨rfl, rfl, rfl, by decide +kernel, rfl, by decide +kernel, by decide +kernel⟩
theorem C_layers (F : FunAt K mg "are_layers" (topS 16) ["layers", "undone"]) (C_layer : Cal K mg "is_layer" 3 2 (spD K fLayer)) (G_ML : GlobD K mg "MOST_LAYERS" (.int 4)) (G_LEN : GlobD K mg "MOST_LENGTH" (.int 64))
    (m_isinstance : mg "isinstance" = none) (m_tuple : mg "tuple" = none) (m_len : mg "len" = none) (m_all : mg "all" = none) : Cal K mg "are_layers" 2 3 (spD K fLayers) :=
  cal_data (k := 2) F sc_layers (fun ds d h => by obtain ⟨ls, us, n, _, _, _, _, _, _, rfl, _⟩ := h; rfl) fun X hK hM B ds d h => by
    subst hK hM
    obtain ⟨ls, us, n, h1, h2, hl, hu, hne, hle, rfl, rfl⟩ := h
    have hn := headD_length hne hl
    refine es_skip (et_w (ew_or (et_not (et_val (ee_isi (ty := "tuple") (b := true) B m_isinstance m_tuple (ee_name B (i := 0) rfl rfl) rfl (by decide +kernel)))) (fun _ => ew_or (et_not (et_val (ee_isi (ty := "tuple") (b := true) B m_isinstance m_tuple (ee_name B (i := 1) rfl rfl) rfl (by decide +kernel)))) (fun _ => ew_or1 (et_ls B [] (ee_name B (i := 0) rfl rfl) (ee_tup ea_nil)))))) ?_ ?_
    · rw [decide_eq_false (show ¬ ls = [] from fun z => by rw [z] at hne; simp at hne)]; rfl
    refine es_skip (et_w (ew_or (et_gt (ee_len B m_len (ee_catL (ee_name B (i := 0) rfl rfl) (ee_name B (i := 1) rfl rfl) ?_)) (ee_const B G_ML (by decide +kernel))) (fun _ => ew_or1 (et_not (et_val (ee_call B C_layer (by decide) (by decide +kernel) (ea_cons (ee_ix (ee_name B (i := 0) rfl rfl) ee_int (head_at hne)) (ea_cons ee_int (ea_cons (ee_const B G_LEN (by decide +kernel)) ea_nil))) ⟨ls.headD [], 1, 64, by omega, by omega, by omega, rfl, rfl⟩)))))) ?_ ?_
    · omega
    · rw [List.length_map, List.length_append, decide_eq_false (show ¬ (4 : Int) < ((ls.length + us.length : Nat) : Int) by omega)]; rfl
    refine es_cons (es_set B (i := 2) (ee_len B m_len (ee_ix (ee_name B (i := 0) rfl rfl) ee_int (head_at hne)))) ?_
    refine es_fin (ee_allF B (i := 3) m_all (ei_tup (ds := (ls ++ us).map tI) (ee_catL (ee_name B (i := 0) rfl rfl) (ee_name B (i := 1) rfl rfl) ?_)) rfl ?_ fun d hd X' hK hM B' => ?_) rfl
    · omega
    · rw [List.length_map, List.length_append]; omega
    · obtain ⟨l, hm, rfl⟩ := List.mem_map.mp hd
      have hll : l.length = n := by
        rcases List.mem_append.mp hm with z | z
        · exact hl l z
        · exact hu l z
      refine ee_call (f := fLayer) B' (by rw [hK, hM]; exact C_layer) (by decide) (by decide +kernel) (ea_cons (ee_name B' (i := 3) rfl rfl) (ea_cons (ee_name B' (i := 2) rfl rfl) (ea_cons (ee_name B' (i := 2) rfl rfl) ea_nil))) ⟨l, _, _, ?_, ?_, by omega, rfl, rfl⟩
      · rw [List.length_map]; omega
      · rw [List.length_map]; omega

theorem sc_looping : FnScope N_tapped ["track"] (defScope (topS 17)) := ⟨rfl, rfl, rfl, by decide +kernel, rfl, by decide +kernel, by decide +kernel⟩
theorem C_looping (F : FunAt K mg "is_looping" (topS 17) ["track"]) (C_layers : Cal K mg "are_layers" 2 3 (spD K fLayers)) (C_whole : Cal K mg "is_whole" 3 1 (spD K fWhole)) (C_sign : Cal K mg "is_sign" 1 2 (spD K fSign)) (C_pace : Cal K mg "is_pace" 1 2 (spD K fPace))
    (m_isinstance : mg "isinstance" = none) (m_bool : mg "bool" = none) (m_len : mg "len" = none) : Cal K mg "is_looping" 1 4 (spD K fLooping) :=
  cal_data (k := 3) F sc_looping (fun ds d h => by obtain ⟨t, n, _, rfl, _⟩ := h; rfl) fun X hK hM B ds d h => by
    subst hK hM
    obtain ⟨t, n, L, rfl, rfl⟩ := h
    obtain ⟨m, ls, us, p, w, pc, s, mu⟩ := t
    obtain ⟨n1, n2, ll, lu, ne, le, p0, p1, st, db, hw, hpc, hs⟩ := L
    dsimp only at ll lu ne le p0 p1 st db hw hpc hs
    have hn := headD_length ne ll
    refine es_cons (es_unpack B [1, 2, 3, 4, 5, 6, 7, 8] (ee_name B (i := 0) rfl rfl) (pgs_cons (B.pgn (i := 1) rfl (by decide +kernel)) (pgs_cons (B.pgn (i := 2) rfl (by decide +kernel)) (pgs_cons (B.pgn (i := 3) rfl (by decide +kernel)) (pgs_cons (B.pgn (i := 4) rfl (by decide +kernel)) (pgs_cons (B.pgn (i := 5) rfl (by decide +kernel)) (pgs_cons (B.pgn (i := 6) rfl (by decide +kernel)) (pgs_cons (B.pgn (i := 7) rfl (by decide +kernel)) (pgs_cons (B.pgn (i := 8) rfl (by decide +kernel)) pgs_nil)))))))) (by decide) rfl) ?_
    refine es_skip (et_w (ew_or (et_not (et_val (ee_call B C_layers (by decide) (by decide +kernel) (ea_cons (ee_name B (i := 2) rfl rfl) (ea_cons (ee_name B (i := 3) rfl rfl) ea_nil)) ⟨ls, us, n, n1, n2, ll, lu, ne, le, rfl, rfl⟩))) (fun _ => ew_or1 (et_not (et_val (ee_call B C_whole (by decide) (by decide +kernel) (ea_cons (ee_name B (i := 4) rfl rfl) (ea_cons ee_int (ea_cons (ee_sub (ee_mul ee_int (ee_len B m_len (ee_ix (ee_name B (i := 2) rfl rfl) ee_int (head_at ne))) ?_) ee_int) ea_nil))) ⟨p, 0, _, p0, ?_, rfl, rfl⟩)))))) rfl ?_
    · exact .inl ⟨by decide, by decide⟩
    · rw [List.length_map]
      show p ≤ 2 * (((ls.headD []).length : Nat) : Int) - 1
      omega
    refine es_skip (et_w (ew_or (et_w (ew_and (et_md B .stop (ee_name B (i := 1) rfl rfl) ee_str) (fun _ => ew_and1 (et_neI B (ee_name B (i := 4) rfl rfl) ee_int)))) (fun _ => ew_or1 (et_w (ew_and (et_md B .dub (ee_name B (i := 1) rfl rfl) ee_str) (fun _ => ew_and1 (et_w (ew_or (et_lt (ee_len B m_len (ee_name B (i := 2) rfl rfl)) ee_int) (fun _ => ew_or1 (et_lsn B [] (ee_name B (i := 3) rfl rfl) (ee_tup ea_nil))))))))))) ?_ ?_
    · rw [List.length_map]
      cases m with
      | stop => rw [st rfl]; rfl
      | dub =>
        obtain ⟨h1, h2⟩ := db rfl
        rw [h1, decide_eq_false (show ¬ ((ls.length : Nat) : Int) < 2 by omega)]; rfl
      | play => rfl
      | empty => rfl
      | record => rfl
    refine es_fin (ee_and (ee_call B C_sign (by decide) (by decide +kernel) (ea_cons (ee_name B (i := 5) rfl rfl) ea_nil) ⟨w, hw, rfl, rfl⟩) (fun _ => ee_and (ee_call B C_pace (by decide) (by decide +kernel) (ea_cons (ee_name B (i := 6) rfl rfl) ea_nil) ⟨pc, hpc, rfl, rfl⟩) (fun _ => ee_and (ee_call B C_sign (by decide) (by decide +kernel) (ea_cons (ee_name B (i := 7) rfl rfl) ea_nil) ⟨s, hs, rfl, rfl⟩) (fun _ => ee_and1 (ee_isi (ty := "bool") (b := true) B m_isinstance m_bool (ee_name B (i := 8) rfl rfl) rfl (by decide +kernel)))))) rfl
abbrev N_default : List Str := ["track", "thing"]
theorem sc_default : FnScope N_default ["track"] (defScope (topS 18)) := ⟨rfl, rfl, rfl, by decide +kernel, rfl, by decide +kernel, by decide +kernel⟩
theorem C_default (F : FunAt K mg "are_default" (topS 18) ["track"]) (C_number : Cal K mg "is_number" 1 1 (spD K fNum)) (G_EMPTY : GlobD K mg "EMPTY" EMP.d)
    (m_isinstance : mg "isinstance" = none) (m_bool : mg "bool" = none) (m_tuple : mg "tuple" = none) (m_all : mg "all" = none) : Cal K mg "are_default" 1 2 (spD K fDefault) :=
  cal_data (k := 1) F sc_default (fun ds d h => by obtain ⟨t, _, _, _, _, _, _, rfl, _⟩ := h; rfl) fun X hK hM B ds d h => by
    subst hK hM
    obtain ⟨t, h1, h2, h3, h4, h5, h6, rfl, rfl⟩ := h
    obtain ⟨m, ls, us, p, w, pc, s, mu⟩ := t
    dsimp only at h1 h2 h3 h4 h5 h6
    subst h1 h2 h3 h4 h5 h6
    refine es_skip (et_w (ew_or (et_not (et_val (ee_isi (ty := "tuple") (b := true) B m_isinstance m_tuple (ee_ix (ee_name B (i := 0) rfl rfl) ee_int rfl) rfl (by decide +kernel)))) (fun _ => ew_or (et_lsn B (x := []) [] (ee_ix (ee_name B (i := 0) rfl rfl) ee_int rfl) (ee_tup ea_nil)) (fun _ => ew_or (et_not (et_val (ee_isi (ty := "bool") (b := true) B m_isinstance m_bool (ee_ix (ee_name B (i := 0) rfl rfl) ee_int rfl) rfl (by decide +kernel)))) (fun _ => ew_or1 (et_val (u := false) (ee_ix (ee_name B (i := 0) rfl rfl) ee_int rfl))))))) rfl ?_
    refine es_fin (ee_and (ee_allF B (ds := [.int 0, .int 1, .int 2, .int 1]) (i := 1) m_all (ei_tup ((ee_sl (ee_name B (i := 0) rfl rfl) (eo_some ee_int) (eo_some ee_int)).cast rfl)) rfl (by decide) fun d hd X' hK hM B' => ?_)
      (fun _ => ee_and1 (ee_eq B (c := .tuple [.int 0, .int 1, .int 2, .int 1]) (e := .tuple [.int 0, .int 1, .int 2, .int 1]) ((ee_sl (ee_name B (i := 0) rfl rfl) (eo_some ee_int) (eo_some ee_int)).cast rfl) ((ee_sl (ds := EMP.fs) (ee_const B G_EMPTY (by decide +kernel)) (eo_some ee_int) (eo_some ee_int)).cast rfl) (by decide +kernel) (by decide +kernel)))) rfl
    have : ∃ i, d = .int i := by simp at hd; rcases hd with e | e | e | e <;> exact ⟨_, e⟩
    obtain ⟨i, rfl⟩ := this
    exact ee_call (f := fNum) B' (by rw [hK, hM]; exact C_number) (by decide) (by decide +kernel) (ea_cons (ee_name B' (i := 1) rfl rfl) ea_nil) ⟨i, rfl, rfl⟩
theorem sc_track : FnScope N_thing ["thing"] (defScope (topS 19)) := ⟨rfl, rfl, rfl, by decide +kernel, rfl, by decide +kernel, by decide +kernel⟩
theorem C_track (F : FunAt K mg "is_track" (topS 19) ["thing"]) (C_looping : Cal K mg "is_looping" 1 4 (spD K fLooping)) (C_default : Cal K mg "are_default" 1 2 (spD K fDefault)) (C_layer : Cal K mg "is_layer" 3 2 (spD K fLayer)) (G_LOOPING : GlobD K mg "LOOPING" (.tuple looping3)) (G_LEN : GlobD K mg "MOST_LENGTH" (.int 64))
    (m_isinstance : mg "isinstance" = none) (m_str : mg "str" = none) (m_tuple : mg "tuple" = none) (m_len : mg "len" = none) : Cal K mg "is_track" 1 5 (spD K fTrack) :=
  cal_data (k := 4) F sc_track (fun ds d h => by obtain ⟨t, _, rfl, _⟩ := h; rfl) fun X hK hM B ds d h => by
    subst hK hM
    obtain ⟨t, ok, rfl, rfl⟩ := h
    refine es_skip (et_w (ew_or (et_not (et_val (ee_isi (ty := "tuple") (b := true) B m_isinstance m_tuple (ee_name B (i := 0) rfl rfl) rfl (by decide +kernel)))) (fun _ => ew_or (et_neI B (i := 8) (ee_len B m_len (ds := t.fs) (ee_name B (i := 0) rfl rfl)) ee_int) (fun _ => ew_or1 (et_not (et_val (ee_isi (ty := "str") (b := true) B m_isinstance m_str (d := .str t.m.str) (ee_ix (ds := t.fs) (ee_name B (i := 0) rfl rfl) ee_int rfl) rfl (by decide +kernel)))))))) rfl ?_
    refine es_cif (et_loops (m := t.m) (ee_ix (ds := t.fs) (ee_name B (i := 0) rfl rfl) ee_int rfl) (ee_const B G_LOOPING (by decide +kernel))) (fun c => ?_) fun c => ?_
    · obtain ⟨n, L⟩ := ok.loop c
      exact es_fin (ee_call B C_looping (by decide) (by decide +kernel) (ea_cons (ee_name B (i := 0) rfl rfl) ea_nil) ⟨t, n, L, rfl, rfl⟩) rfl
    · have hdef : t.us = [] ∧ t.p = 0 ∧ t.w = 1 ∧ t.pc = 2 ∧ t.s = 1 ∧ t.mu = false ∧ ((t.m = .empty ∧ t.ls = []) ∨ (t.m = .record ∧ ∃ c, t.ls = [c] ∧ c.length ≤ 63)) := by
        rcases ok.not_loop c with e | ⟨cc, h1, e⟩
        · subst e; exact ⟨rfl, rfl, rfl, rfl, rfl, rfl, .inl ⟨rfl, rfl⟩⟩
        · subst e; exact ⟨rfl, rfl, rfl, rfl, rfl, rfl, .inr ⟨rfl, cc, rfl, h1⟩⟩
      obtain ⟨h1, h2, h3, h4, h5, h6, h7⟩ := hdef
      obtain ⟨m, ls, us, p, w, pc, s, mu⟩ := t
      dsimp only at h1 h2 h3 h4 h5 h6 h7
      subst h1 h2 h3 h4 h5 h6
      refine es_skip (et_w (ew_or (et_not (et_val (ee_call B C_default (by decide) (by decide +kernel) (ea_cons (ee_name B (i := 0) rfl rfl) ea_nil) ⟨⟨m, ls, [], 0, 1, 2, 1, false⟩, rfl, rfl, rfl, rfl, rfl, rfl, rfl, rfl⟩))) (fun _ => ew_or1 (et_not (et_val (ee_isi (ty := "tuple") (b := true) B m_isinstance m_tuple (d := tL ls) (ee_ix (ee_name B (i := 0) rfl rfl) ee_int rfl) rfl (by decide +kernel))))))) rfl ?_
      refine es_cif (et_md B (m := m) .empty (ee_ix (ee_name B (i := 0) rfl rfl) ee_int rfl) ee_str) (fun c => ?_) fun c => ?_
      · rcases h7 with ⟨e1, e2⟩ | ⟨e1, _⟩
        · subst e1 e2
          exact es_fin (ee_eq B (c := .tuple []) (e := .tuple []) (ee_ix (ee_name B (i := 0) rfl rfl) ee_int rfl) (ee_tup ea_nil) rfl rfl) rfl
        · subst e1; cases c
      · rcases h7 with ⟨e1, e2⟩ | ⟨e1, cc, e2, h8⟩
        · subst e1; cases c
        · subst e1 e2
          refine es_fin (ee_and (ee_eq B (c := .str Md.record.str) (e := .str Md.record.str) (ee_ix (ee_name B (i := 0) rfl rfl) ee_int rfl) ee_str (sh_md _) (sh_md _)) (fun _ => ee_and (ee_eq B (c := .int 1) (e := .int 1) (ee_len B m_len (ds := [tI cc]) (ee_ix (ee_name B (i := 0) rfl rfl) ee_int rfl)) ee_int rfl rfl) (fun _ => ee_and1 (ee_call B C_layer (by decide) (by decide +kernel) (ea_cons (ee_ix (ds := [tI cc]) (ee_ix (ee_name B (i := 0) rfl rfl) ee_int rfl) ee_int rfl) (ea_cons ee_int (ea_cons (ee_sub (ee_const B G_LEN (by decide +kernel)) ee_int) ea_nil))) ⟨cc, 0, 63, by omega, by omega, by omega, rfl, rfl⟩)))) (congrArg PyData.bool (by decide +kernel))
end
end K53
end
section
set_option maxRecDepth 100000
set_option maxHeartbeats 4000000
/-! enumerate of a tuple; for loops over data. -/
namespace K53
open PySem PySem.Spec PyProof.Rows L2
set_option maxHeartbeats 2000000 in
theorem meets_enum1 {v : Value} {o : Obj} {H : Heap → Prop} (B : Begins v o H) :
    Meets (Builtin.«enumerate.__new__» ⟨[.type "enumerate", v], []⟩) (fun _ R s => H s.heap ∧
      R (.ok (.ret (.ref (s.heap.push o).objs.size))) { s with heap := (s.heap.push o).push { cls := .type "enumerate", data := .fields #[.none, .bool false, .ref s.heap.objs.size, rawInt 0, .none, .none] } }) :=
  .of_wp fun prog w A R s h => by
    obtain ⟨hp, g, d, tk, os⟩ := s; obtain ⟨h1, h⟩ := h
    have hsub := sub_enumerate
    have toIter : ∀ {A' : Around} {E : Value → Shared → Prop} {Q : Value → Shared → Prop}, Q (.ref hp.objs.size) ⟨hp.push o, g, d, tk, os⟩ → wpAny (model prog w) A' (pyIter v) Q E ⟨hp, g, d, tk, os⟩ :=
      fun q => B.iter prog w _ _ ⟨hp, g, d, tk, os⟩ _ h1 q
    wp_walk using toIter
    refine wpAny_stack_any fun st => wpAny_pure ?_
    split
    · rename_i c _ _ _ _ _
      cases (c == Value.type "enumerate") <;>
        (wp_walk using toIter
         exact ⟨_, rfl, h⟩)
    · wp_walk using toIter
      exact ⟨_, rfl, h⟩
theorem call_enumT {prog : Program} {w : World} {A : Around} {E : Value → Shared → Prop} {s : Shared} {t : Addr} {items : Array Value} {Q : Value → Shared → Prop} (hT : s.heap.IsTuple t items)
    (h : ∀ h', IsEnum h' (s.heap.objs.size + 1) s.heap.objs.size 0 .none → h'.IsTupleIter s.heap.objs.size t 0 → (∀ b o, s.heap.get? b = some o → h'.get? b = some o) → Q (.ref (s.heap.objs.size + 1)) { s with heap := h' }) :
    wpAny (model prog w) A (call (.type "enumerate") [.ref t]) Q E s := by
  have B := begins_tuple t items
  refine callType_new F.called_enumerate (by decide) (F.typeCall_enumerate_1 _) (F.newCall_enumerate_1 _) (fun obj => F.args_object_init_2 obj _) F.entry_enumerate_new (meets_enum1 B) ⟨hT, ?_⟩
  generalize ho : ({ cls := .type "tuple_iterator", data := .fields #[.ref t, .int 0 0] } : Obj) = o at *
  have sz : (s.heap.push o).objs.size = s.heap.objs.size + 1 := Heap.size_push ..
  have ge : ((s.heap.push o).push { cls := .type "enumerate", data := .fields #[.none, .bool false, .ref s.heap.objs.size, rawInt 0, .none, .none] }).get? (s.heap.objs.size + 1) = some { cls := .type "enumerate", data := .fields #[.none, .bool false, .ref s.heap.objs.size, rawInt 0, .none, .none] } := by
    rw [← sz]; exact Heap.get?_push_size _ rfl
  have gi : ((s.heap.push o).push { cls := .type "enumerate", data := .fields #[.none, .bool false, .ref s.heap.objs.size, rawInt 0, .none, .none] }).get? s.heap.objs.size = some o := Heap.get?_push_of_some _ (Heap.get?_push_size _ B.free)
  show _ ∧ _
  rw [sz]
  subst ho
  exact ⟨⟨_, ge, rfl⟩, h _ ge ⟨_, gi, rfl, rfl⟩ fun b o x => Heap.get?_push_of_some _ (Heap.get?_push_of_some _ x)⟩
def IteT (K : PySem.W.Frag) (a : Addr) : It :=
  ⟨fun i H => ∃ (xs : List V) (x : V), SqT K H a xs ∧ xs[i]? = some x, fun i H v H' => ∃ T x, v = .ref T ∧ H T = none ∧ H' = upd H T (.tup [.int (i : Nat), x]) ∧ ∀ xs, SqT K H a xs → xs[i]? = some x, fun i H => ∃ xs : List V, SqT K H a xs ∧ xs.length = i⟩
theorem turn_enumT {P : Program} {w : World} {K : PySem.W.Frag} {elts : List Expr} {kk : Nat} {tpos : Pos} (a e it : Addr) :
    Turn P w K (.Tuple elts kk tpos) (IteT K a) [e, it] e (fun i h => (∃ old, IsEnum h e it ((i : Nat) : Int) old) ∧ h.IsTupleIter it a i ∧ e ≠ it) := by
  refine ⟨by simp, fun i h st b hb => ?_, fun i h h' st k => ?_, ?_, ?_, fun A i s Q E st h => ?_⟩
  · obtain ⟨⟨old, he⟩, ⟨o, ho, _, hd⟩, _⟩ := st
    rcases (show b = e ∨ b = it by simpa using hb) with z | z
    · subst z; exact ⟨_, he, fun v q => nomatch q⟩
    · subst z; exact ⟨o, ho, fun v q => by rw [hd] at q; cases q⟩
  · obtain ⟨⟨old, he⟩, hi, hne⟩ := st
    exact ⟨⟨old, k e (by simp) _ he⟩, hi.at fun o q => k it (by simp) o q, hne⟩
  · intro X hP hw hK hc i pins s σ H E I hf st hg
    subst hP hw hK
    obtain ⟨⟨old, he⟩, hit, hne⟩ := st
    obtain ⟨xs, x, hq, hx⟩ := hg
    obtain ⟨its, rv, p, _⟩ := I.tuple hq
    obtain ⟨u, hu, ru⟩ := rv.get hx
    have hpt : s.heap.IsTuple a its.toArray := p
    have hel : e < s.heap.objs.size := Heap.lt_size he
    have hil : it < s.heap.objs.size := by obtain ⟨_, q, _⟩ := hit; exact Heap.lt_size q
    have nai : a ≠ it := fun z => by
      obtain ⟨o, ho, hcl, _⟩ := hpt
      obtain ⟨o', ho', hcl', _⟩ := hit
      rw [z, ho'] at ho; cases ho
      rw [hcl'] at hcl; injection hcl with qq; exact absurd qq (by decide)
    have nae : a ≠ e := fun z => by
      obtain ⟨o, ho, hcl, _⟩ := hpt
      rw [z] at ho
      have := he.symm.trans ho
      cases this
      injection hcl with qq
      exact absurd qq (by decide)
    have hlt : i < its.toArray.size := by
      have := (List.getElem?_eq_some_iff.mp hu).1
      simpa using this
    refine wpAny_pyNext_enum_itemD (Draws.tuple (A := X.A.in1) (I.ok.hd hc) it a nai its.toArray) he ⟨hit, hpt⟩ hlt hne (by simp; exact ⟨hne, Ne.symm nae⟩) fun y h' tk hy ho st' hT hsz hk => ?_
    have eu : y = u := by
      have : its[i]? = some y := by simpa using hy
      rw [hu] at this; exact (Option.some.inj this).symm
    subst eu
    refine ⟨_, rfl, wpAny_letOwnedTupleGo_enum (s := { s with heap := h', toks := tk + 1 }) ho fun h2 he2 sb => ?_⟩
    have hT2 : h2.get? s.heap.objs.size = some { cls := .type "tuple", data := .seq #[.int i tk, y] } := (sb.2 _ (Nat.ne_of_gt hel)).trans hT
    have new : ObjOk X.prog X.w (upd H s.heap.objs.size (.tup [.int (i : Nat), x])) h2 s.heap.objs.size (.tup [.int (i : Nat), x]) :=
      ⟨by show 2 ≤ sizeLine; decide, [.int i tk, y], .cons ⟨_, rfl⟩ (.cons ru .nil), ⟨_, hT2, rfl, _, rfl⟩⟩
    have I1 : Inv X pins σ (upd H s.heap.objs.size (.tup [.int (i : Nat), x])) { s with heap := h2, toks := tk + 1 } :=
      I.turnedNew (ch := [e, it]) (fun b ob hb q => (sb.2 b (fun z => hb (by simp [z]))).trans (hk b ob (fun z => hb (by simp [z])) (fun z => hb (by simp [z])) q)) hf (Nat.le_refl _) new
    refine ⟨.ref s.heap.objs.size, _, I1, rfl, ⟨_, x, rfl, I.hok.fresh (Nat.le_refl _), rfl, fun ys hy => by rw [I.tuple_inj hy hq]; exact hx⟩, ⟨⟨y, by rw [show ((i + 1 : Nat) : Int) = (i : Int) + 1 by omega]; exact he2⟩, st'.1.at fun o q => (sb.2 it (Ne.symm hne)).trans q, hne⟩, fun b hb => ?_⟩
    have hb' : b < s.heap.objs.size := by
      rcases (show b = e ∨ b = it by simpa using hb) with z | z
      · rw [z]; exact hel
      · rw [z]; exact hil
    rw [upd_ne (Nat.ne_of_lt hb')]
    exact (hf b hb).1
  · intro X hP hw hK hc i pins s σ H E I hf st hg
    subst hP hw hK
    obtain ⟨⟨old, he⟩, hit, hne⟩ := st
    obtain ⟨xs, hq, hx⟩ := hg
    obtain ⟨its, rv, p, _⟩ := I.tuple hq
    have hpt : s.heap.IsTuple a its.toArray := p
    have nai : a ≠ it := fun z => by
      obtain ⟨o, ho, hcl, _⟩ := hpt
      obtain ⟨o', ho', hcl', _⟩ := hit
      rw [z, ho'] at ho; cases ho
      rw [hcl'] at hcl; injection hcl with qq; exact absurd qq (by decide)
    obtain ⟨f0, f1, f2, f3, f4, f5⟩ := hf it (by simp)
    have ei : i = its.toArray.size := by rw [← hx, rv.length]; simp
    subst ei
    exact wpAny_pyNext_enum_endD (Draws.tuple (A := X.A.in1) (I.ok.hd hc) it a nai its.toArray) he ⟨hit, hpt⟩ fun h' eb => ⟨rfl, I.turned (t' := s.toks) (fun b o hb q => eb b o hb q) f0 f1 f3 f4 f5⟩
  · obtain ⟨⟨_, he⟩, _⟩ := st
    exact wpAny_pyIter_enum he h
section
variable {X : Cx} {δ : Dl} {N : List Str} {sc : Scope} {k : Nat} {e tg iter elt : Expr} {d : PyData} {ds : List PyData} {p pos tpos : Pos} {elts : List Expr} {kk : Nat}
def enumD (ds : List PyData) : List PyData := (List.range ds.length).map fun i => .tuple [.int (i : Nat), ds.getD i .none]
theorem ei_enum (B : BX X N sc k) (hm : X.mg "enumerate" = none) (h : EvE X δ e (.tuple ds)) (hg : sc.names.lookup ("enumerate" : Str) = some .globalImplicit := by decide +kernel) (hs : starEach [e] X.env = [(false, eval e X.env)] := by rfl) :
    EvI X δ (.Tuple elts kk tpos) (.Call (.Name "enumerate" p) [e] [] pos) (enumD ds) :=
  ⟨fun pins s σ H R I hS q => by
    refine Call_ (ld_blt I (B.gl hg) hm boot_enumerate (PyProof.Rows.callWith_type1 (thn (pa_ev.run pos pins s σ H (fun vs H1 => ∃ a xs, vs = [V.ref a] ∧ SqT X.K H1 a xs ∧ TpAll X.K H1 xs ds ∧ Same H H1) I ⟨δ, [_], ea_cons h ea_nil hs, hS, fun vs H1 e1 t1 => ?_⟩) fun us s1 ⟨vs, H1, I1, r1, a, xs, ex, g1, g2, e1⟩ => ?_) hs rfl))
    · cases t1 with
      | cons t1 t2 =>
        cases t2
        obtain ⟨a, xs, rfl, g1, g2⟩ := t1.tup_inv
        exact ⟨a, xs, rfl, g1, g2, e1⟩
    · subst ex
      obtain rfl := Vals.ref1 r1
      obtain ⟨its, rv, p', _⟩ := I1.tuple g1
      refine call_enumT (show s1.heap.IsTuple a its.toArray from p') fun h' he hit hk => wpAny_pyIter_enum he ?_
      have I2 : Inv X pins σ H1 { s1 with heap := h' } := I1.kept (t' := s1.toks) hk
      refine ⟨s1.heap.objs.size + 1, [s1.heap.objs.size + 1, s1.heap.objs.size], _, _, H1, rfl, I2, turn_enumT a (s1.heap.objs.size + 1) s1.heap.objs.size, ⟨⟨.none, he⟩, hit, Nat.succ_ne_self _⟩, fun b hb => ?_, q _ _ e1 fun H' e2 => ?_⟩
      · have hle : s1.heap.objs.size ≤ b := by
          rcases (show b = s1.heap.objs.size + 1 ∨ b = s1.heap.objs.size by simpa using hb) with z | z
          · rw [z]; exact Nat.le_add_right _ _
          · rw [z]; exact Nat.le_refl _
        exact I1.fpOk hle (I1.hok.fresh hle)
      · have hq' := kp_sqt (Kp.of e2) g1
        have hl : (enumD ds).length = ds.length := by unfold enumD; rw [List.length_map, List.length_range]
        refine ⟨fun i hi => ?_, ⟨xs, hq', by rw [hl]; exact g2.length⟩⟩
        rw [hl] at hi
        obtain ⟨v, hv, tv⟩ := g2.get (List.getElem?_eq_getElem hi)
        refine ⟨⟨xs, v, hq', hv⟩, fun w H2 y => ?_⟩
        obtain ⟨T, x, rfl, hT, rfl, hx⟩ := y
        have ex := hx xs hq'
        rw [hv] at ex; cases ex
        refine ⟨same_new hT, _, by unfold enumD; rw [List.getElem?_map, List.getElem?_range hi]; rfl, ?_⟩
        refine tp_new hT (.cons (.int _) (.cons ?_ .nil))
        rw [List.getD_eq_getElem?_getD, List.getElem?_eq_getElem hi]
        exact tv.mono e2⟩
end
end K53
end
section
set_option maxRecDepth 100000
set_option maxHeartbeats 4000000
/-! Loops over data; the press of a pedal. -/
namespace K53
open PySem PySem.Spec PyProof.Rows L2
structure EvGf (X : Cx) (N : List Str) (δ : Dl) (g : TG) (d : PyData) (δ' : Dl) : Prop where
  run : ∀ (v : V) (σ : L2.St) (H : Hp) (Q : L2.St → Hp → Prop), σ.length = N.length → Tp X.K H v d → Sl X.K H σ δ → (∀ σ', σ'.length = N.length → Sl X.K H σ' δ' → Q σ' H) → g v σ H Q
section
variable {X : Cx} {δ : Dl} {N : List Str} {sc : Scope} {k j n : Nat} {e a b tg iter elt : Expr} {d : PyData} {ds fs : List PyData} {pos p px : Pos} {body : List Stmt} {g : TG} {K : PySem.W.Frag} {mg : Str → Option Value} {w : World}
theorem egf_name {i : Nat} (hi : i < N.length) : EvGf X N δ (gName i) d (δ.set i (some d)) :=
  ⟨fun v σ H Q hl t hs q => q _ (by rw [List.length_set]; exact hl) (hs.set t (by rw [hl]; exact hi))⟩
theorem egf_tup {is : List Nat} (hi : ∀ i ∈ is, i < N.length) (hl : ds.length = is.length) : EvGf X N δ (gTup X.K is.length (gNs is)) (.tuple ds) (setD δ is ds) :=
  ⟨fun v σ H Q hn t hs q => by
    obtain ⟨a, xs, rfl, h1, h2⟩ := t.tup_inv
    exact ⟨a, xs, rfl, h1, by rw [h2.length, hl], gNs_ok (by rw [h2.length, hl]) (q _ (by rw [setV_length]; exact hn) (Sl.setAll (fun i hx => by rw [hn]; exact hi i hx) hs h2))⟩⟩
theorem es_for (B : BX X N sc k) (hi : EvI X δ tg iter ds) (hg : PG X tg g) (δs : Nat → Dl) (h0 : δs 0 = δ)
    (step : ∀ (j : Nat) (d : PyData), ds[j]? = some d → ∃ δ', EvGf X N (δs j) g d δ' ∧ EvSs X δ' body (.nx (δs (j + 1))))
    (hs : ∀ x, foldedSetIterable iter X.env x = pure x := by intro _; rfl) : EvS X δ (.For tg iter body [] pos) (.nx (δs ds.length)) :=
  ⟨fun pins s σ H D I hS q => by
    refine (ps_for B.own B.calm (pi_ev (tg := tg)) hg pss_ev hs).run pins s σ H D I ⟨_, ds, hi, hS, fun J H1 e1 src => ?_⟩
    have hσ : σ.length = N.length := by rw [I.len, B.fN]
    refine ⟨fun i m σ' H' => m = ds.length - i ∧ i ≤ ds.length ∧ Same H1 H' ∧ σ'.length = N.length ∧ Sl X.K H' σ' (δs i), ⟨_, rfl, Nat.zero_le _, Same.refl _, hσ, by rw [h0]; exact hS.mono e1⟩, ?_⟩
    rintro i m σ' H' ⟨rfl, hle, e2, hl, hs'⟩
    obtain ⟨s1, s2⟩ := src H' e2
    by_cases c : i < ds.length
    · obtain ⟨g1, g2⟩ := s1 i c
      refine .inr ⟨g1, fun σ3 H3 => Same H1 H3 ∧ σ3.length = N.length ∧ Sl X.K H3 σ3 (δs (i + 1)), fun σ3 H3 ⟨p1, p2, p3⟩ => ⟨ds.length - (i + 1), by omega, rfl, c, p1, p2, p3⟩, fun v H2 y => ?_⟩
      obtain ⟨e3, d, hd, td⟩ := g2 v H2 y
      obtain ⟨δ', G, E⟩ := step i d hd
      refine G.run v σ' H2 _ hl td (hs'.mono e3) fun σ2 hl2 hs2 => ⟨δ', _, E, hs2, fun σ3 H3 hl3 e4 hs3 => ⟨e2.trans (e3.trans e4), by rw [hl3, B.fN], hs3⟩⟩
    · have ei : i = ds.length := by omega
      subst ei
      exact .inl ⟨s2, q σ' H' (by rw [hl, B.fN]) (e1.trans e2) hs'⟩⟩
theorem es_expr (h : EvE X δ e d) (hs : swapsWith e none pos.line X.env = pure false := by rfl) : EvS X δ (.Expr e pos) (.nx δ) :=
  ⟨fun pins s σ H D I hS q => (ps_expr pe_ev hs).run pins s σ H D I ⟨δ, d, h, hS, fun v H1 e1 t1 => q σ H1 I.len e1 (hS.mono e1)⟩⟩
/-! the presses' defs by their words -/
def Pr.isPace : Pr → Bool
  | .p1 => true
  | .p2 => true
  | .p4 => true
  | _ => false
def Pr.pace : Pr → Int
  | .p1 => 1
  | .p2 => 2
  | _ => 4
def deed : Pr → Str
  | .clear => "cleared"
  | .flip => "flipped"
  | .join => "joined"
  | .mute => "hushed_or_not"
  | .redo => "redone_by"
  | .stop => "stopped"
  | .tap => "tapped"
  | .turn => "other_way"
  | .undo => "undone_by"
  | _ => ""
theorem pr_pace {p : Pr} (h : p.isPace = true) : p.fs = [.str "pace", .int 0, .int p.pace] ∧ p.str = "pace" ∧ (p.pace = 1 ∨ p.pace = 2 ∨ p.pace = 4) ∧ ∀ t, step t p = pace t p.pace := by
  cases p <;> first | (cases h; done) | exact ⟨rfl, rfl, by decide, fun _ => rfl⟩
theorem pr_deed {p : Pr} (h : p.isPace = false) : p.fs = [.str p.str, .int 0] ∧ decide (p.str = "pace") = false := by
  cases p <;> first | (cases h; done) | exact ⟨rfl, by decide +kernel⟩
/-- the table of deeds -/
structure Deeds (w : World) (K : PySem.W.Frag) (mg : Str → Option Value) : Prop where
  ex : ∃ (dd : Addr) (es : Array DictEntry) (n : Nat), mg "DEEDS" = some (.ref dd) ∧ KDict K w dd es n ∧ ∀ p : Pr, p.isPace = false → ∃ (f : Addr), PySem.W.nsIn K dd p.str = some (some (.ref f)) ∧ mg (deed p) = some (.ref f) ∧ ∃ j, j ≤ 2 ∧ CalW w K mg (deed p) 1 j (spD K (fT (fun t => step t p) Ok))
theorem ee_inDeeds (B : BX X N sc k) (D : Deeds X.w X.K X.mg) {p : Pr} (hp : p.isPace = false) (h : EvE X δ e (.str p.str)) (hg : sc.names.lookup ("DEEDS" : Str) = some .globalImplicit := by decide +kernel) :
    EvE X δ (.Compare e [.In] [.Name "DEEDS" px] pos) (.bool true) := by
  obtain ⟨dd, es, n, hm, hd, hp'⟩ := D.ex
  obtain ⟨f, h1, _⟩ := hp' p hp
  exact ⟨fun pins s σ H Q I hs q => (pe_cmpR (op_in_kd hd) pe_ev (pe_glob (v := .ref dd) (B.gl hg) hm rfl (by decide)) rfl).run pins s σ H Q I
    ⟨δ, _, h, hs, fun v H1 e1 t1 => ⟨p.str, some (.ref f), t1.str_inv, rfl, h1, q _ H1 e1 (.bl true)⟩⟩⟩
theorem ee_deed (B : BX X N sc k) (hk : 2 ≤ k) (D : Deeds X.w X.K X.mg) {pr : Pr} (hp : pr.isPace = false) {t : Trk} (ok : Ok t) (hx : EvE X δ e (.str pr.str)) (ha : EvE X δ a t.d) (hs2 : PlainIx e) (hg : sc.names.lookup ("DEEDS" : Str) = some .globalImplicit := by decide +kernel)
    (ht : eval (.Call (.Subscript (.Name "DEEDS" px) e p) [a] [] pos) X.env = (do callWith pos (← eval (.Subscript (.Name "DEEDS" px) e p) X.env) [] (backTo pos (starEach [a] X.env)) (backToKw pos (keywordEach [] X.env))) := by rfl)
    (he : starEach [a] X.env = (false, eval a X.env) :: starEach [] X.env := by rfl) (hpl : (backTo pos (starEach [] X.env)).any (·.1) = false := by rfl) :
    EvE X δ (.Call (.Subscript (.Name "DEEDS" px) e p) [a] [] pos) (step t pr).d := by
  obtain ⟨dd, es, n, hm, hd, hp'⟩ := D.ex
  obtain ⟨f, h1, h2, j, hj, C⟩ := hp' pr hp
  obtain ⟨f', fd, ps, _, hm', hkp, hb, F⟩ := C
  rw [h2] at hm'
  cases hm'
  refine ⟨fun pins s σ H Q I hs q => ?_⟩
  refine Call_ (thn ((pe_ix (hr := ix_kdict) (pe_glob (v := .ref dd) (B.gl hg) hm rfl (by decide)) (pe_ev (e := e)) hs2).run pins s σ H (fun v H1 => v = .ref f ∧ Same H H1) I ⟨δ, _, hx, hs, fun v H1 e1 t1 => ?_⟩) fun u s1 ⟨v, H1, I1, r1, ev, e1⟩ => ?_) ht
  · exact ⟨dd, pr.str, .ref f, rfl, t1.str_inv, ⟨es, n, _, hd.at_, hd.lit, h1, rfl⟩, rfl, e1⟩
  · subst ev
    cases r1
    refine PySem.W.callWith_K (h₀ := X.base) I1.ok.mod.kin hkp (thn ((pa_ev (es := [a])).run pos pins s1 σ H1 (fun vs H2 => TpAll X.K H2 vs [t.d] ∧ Same H1 H2) I1 ⟨δ, _, ea_cons ha ea_nil he, hs.mono e1, fun vs H2 e2 t2 => ⟨t2, e2⟩⟩) fun us s2 ⟨vs, H2, I2, r, t2, e2⟩ => ⟨I2.kIn, ?_⟩) he hpl
    refine run_fn (F X.prog X.base) (B.room.mono (Nat.le_trans hj hk)) hb .nil pass0 I2 r ?_
    exact ⟨_, _, by rw [List.append_nil]; exact t2, ⟨t, ok, rfl, rfl⟩, fun v H3 e3 t3 => q v H3 (e1.trans (e2.trans e3)) t3⟩
def fPedal : List PyData → PyData → Prop := fun ds d => ∃ t : Trk, Ok t ∧ ds = [.tuple [t.d]] ∧ d = .tuple [t.d]
def fPress : List PyData → PyData → Prop := fun ds d => ∃ p : Pr, ds = [.int 1, p.d] ∧ d = .bool true
def fNeedPress : List PyData → PyData → Prop := fun ds d => ∃ p : Pr, ds = [.int 1, p.d] ∧ d = .none
def fBehind : List PyData → PyData → Prop := fun ds d => ∃ (t : Trk) (p : Pr), Ok t ∧ ds = [.tuple [t.d], p.d] ∧ d = .tuple [(step t p).d]
abbrev N_np : List Str := ["thing", "number", "track"]
theorem sc_np : FnScope N_np ["thing"] (defScope (topS 20)) := ⟨rfl, rfl, rfl, by decide +kernel, rfl, by decide +kernel, by decide +kernel⟩
theorem C_needPedal (F : FunAt K mg "need_pedal" (topS 20) ["thing"]) (C_track : Cal K mg "is_track" 1 5 (spD K fTrack)) (G_MT : GlobD K mg "MOST_TRACKS" (.int 4)) (m_isinstance : mg "isinstance" = none) (m_tuple : mg "tuple" = none) (m_len : mg "len" = none) (m_enum : mg "enumerate" = none) : Cal K mg "need_pedal" 1 6 (spD K fPedal) :=
  cal_data (k := 5) F sc_np (fun ds d h => by obtain ⟨t, _, rfl, _⟩ := h; rfl) fun X hK hM B ds d h => by
    subst hK hM
    obtain ⟨t, ok, rfl, rfl⟩ := h
    refine es_skip (et_w (ew_or (et_not (et_val (ee_isi (ty := "tuple") (b := true) B m_isinstance m_tuple (ee_name B (i := 0) rfl rfl) rfl (by decide +kernel)))) (fun _ => ew_or1 (et_not (et_chain (i := 1) ee_int (ee_len B m_len (ds := [t.d]) (ee_name B (i := 0) rfl rfl)) (ee_const B G_MT (by decide +kernel))))))) rfl ?_
    refine es_cons (es_for B (ei_enum B m_enum (ee_name B (i := 0) rfl rfl)) (pg_tup B.calm (pgs_cons (B.pgn (i := 1) rfl (by decide +kernel)) (pgs_cons (B.pgn (i := 2) rfl (by decide +kernel)) pgs_nil))) (fun j => if j = 0 then [some (.tuple [t.d]), none, none] else [some (.tuple [t.d]), some (.int 0), some t.d]) rfl fun j d hd => ?_) ?_
    · have hj : j = 0 := by
        have := (List.getElem?_eq_some_iff.mp hd).1
        have e1 : (enumD [t.d]).length = 1 := rfl
        omega
      subst hj
      have ed : d = .tuple [.int 0, t.d] := (Option.some.inj hd).symm
      subst ed
      refine ⟨_, egf_tup (is := [1, 2]) (by decide) rfl, ?_⟩
      refine es_skip (et_not (et_val (ee_call B C_track (by decide) (by decide +kernel) (ea_cons (ee_name B (i := 2) rfl rfl) ea_nil) ⟨t, ok, rfl, rfl⟩))) rfl es_nil
    · exact es_fin (ee_name B (i := 0) rfl rfl) rfl
abbrev N_tt : List Str := ["tracks", "thing"]
theorem sc_ip : FnScope N_tt ["tracks", "thing"] (defScope (topS 21)) := ⟨rfl, rfl, rfl, by decide +kernel, rfl, by decide +kernel, by decide +kernel⟩
theorem C_isPress (F : FunAt K mg "is_press" (topS 21) ["tracks", "thing"]) (C_whole : Cal K mg "is_whole" 3 1 (spD K fWhole)) (C_pace : Cal K mg "is_pace" 1 2 (spD K fPace)) (D : Deeds w K mg) (m_isinstance : mg "isinstance" = none) (m_tuple : mg "tuple" = none) (m_str : mg "str" = none) (m_len : mg "len" = none) : CalW w K mg "is_press" 2 3 (spD K fPress) :=
  cal_dataW (k := 2) F sc_ip (fun ds d h => by obtain ⟨p, rfl, _⟩ := h; rfl) fun X hK hM hW B ds d h => by
    subst hK hM hW
    obtain ⟨p, rfl, rfl⟩ := h
    refine ⟨.rt (.bool true), ?_, rfl⟩
    cases hp : p.isPace with
    | true =>
      obtain ⟨e1, e2, e3, _⟩ := pr_pace hp
      have ed : p.d = .tuple [.str "pace", .int 0, .int p.pace] := congrArg PyData.tuple e1
      rw [ed]
      refine es_skip (et_w (ew_or (et_not (et_val (ee_isi (ty := "tuple") (b := true) B m_isinstance m_tuple (ee_name B (i := 1) rfl rfl) rfl (by decide +kernel)))) (fun _ => ew_or (et_lt (j := 2) (ee_len B m_len (ee_name B (i := 1) rfl rfl)) ee_int) (fun _ => ew_or1 (et_not (et_val (ee_isi (ty := "str") (b := true) B m_isinstance m_str (d := .str "pace") (ee_ix (ee_name B (i := 1) rfl rfl) ee_int rfl) rfl (by decide +kernel)))))))) rfl ?_
      refine es_skip (et_not (et_val (ee_call B C_whole (by decide) (by decide +kernel) (ea_cons (ee_ix (ee_name B (i := 1) rfl rfl) ee_int rfl) (ea_cons ee_int (ea_cons (ee_sub (ee_name B (i := 0) rfl rfl) ee_int) ea_nil))) ⟨0, 0, 0, by decide, by decide, rfl, rfl⟩))) rfl ?_
      refine es_cif (u := true) ((et_cmp (cmp_eq B (d := .str "pace") (e := .str "pace") (by decide +kernel) (by decide +kernel) rfl) (ee_ix (ee_name B (i := 1) rfl rfl) ee_int rfl) ee_str (nomark _)).cast (by decide +kernel)) (fun _ => ?_) (fun z => nomatch z)
      exact es_fin (ee_and (ee_eq B (c := .int 3) (e := .int 3) ((ee_len B m_len (ee_name B (i := 1) rfl rfl)).cast rfl) ee_int rfl rfl) (fun _ => ee_and1 (ee_call B C_pace (by decide) (by decide +kernel) (ea_cons (ee_ix (ee_name B (i := 1) rfl rfl) ee_int rfl) ea_nil) ⟨p.pace, e3, rfl, rfl⟩))) rfl
    | false =>
      obtain ⟨e1, e2⟩ := pr_deed hp
      have ed : p.d = .tuple [.str p.str, .int 0] := congrArg PyData.tuple e1
      rw [ed]
      refine es_skip (et_w (ew_or (et_not (et_val (ee_isi (ty := "tuple") (b := true) B m_isinstance m_tuple (ee_name B (i := 1) rfl rfl) rfl (by decide +kernel)))) (fun _ => ew_or (et_lt (j := 2) (ee_len B m_len (ee_name B (i := 1) rfl rfl)) ee_int) (fun _ => ew_or1 (et_not (et_val (ee_isi (ty := "str") (b := true) B m_isinstance m_str (d := .str p.str) (ee_ix (ee_name B (i := 1) rfl rfl) ee_int rfl) rfl (by decide +kernel)))))))) rfl ?_
      refine es_skip (et_not (et_val (ee_call B C_whole (by decide) (by decide +kernel) (ea_cons (ee_ix (ee_name B (i := 1) rfl rfl) ee_int rfl) (ea_cons ee_int (ea_cons (ee_sub (ee_name B (i := 0) rfl rfl) ee_int) ea_nil))) ⟨0, 0, 0, by decide, by decide, rfl, rfl⟩))) rfl ?_
      refine es_skip (et_cmp (cmp_eq B (d := .str p.str) (e := .str "pace") (sh_of (ok_prs p) (Nat.zero_le _)) (by decide +kernel) (eqv_str _ _)) (ee_ix (ee_name B (i := 1) rfl rfl) ee_int rfl) ee_str (nomark _)) e2 ?_
      exact es_fin (ee_and (ee_eq B (c := .int 2) (e := .int 2) ((ee_len B m_len (ee_name B (i := 1) rfl rfl)).cast rfl) ee_int rfl rfl) (fun _ => ee_and1 (ee_inDeeds B D hp (ee_ix (ee_name B (i := 1) rfl rfl) ee_int rfl)))) rfl
theorem sc_need : FnScope N_tt ["tracks", "thing"] (defScope (topS 34)) := ⟨rfl, rfl, rfl, by decide +kernel, rfl, by decide +kernel, by decide +kernel⟩
theorem C_needPress (F : FunAt K mg "need_press" (topS 34) ["tracks", "thing"]) (C_isPress : CalW w K mg "is_press" 2 3 (spD K fPress)) : CalW w K mg "need_press" 2 4 (spD K fNeedPress) :=
  cal_dataW (k := 3) F sc_need (fun ds d h => by obtain ⟨p, rfl, _⟩ := h; rfl) fun X hK hM hW B ds d h => by
    subst hK hM hW
    obtain ⟨p, rfl, rfl⟩ := h
    exact ⟨.nx _, es_skip (et_not (et_val (ee_callW B C_isPress (by decide) (by decide +kernel) (ea_cons (ee_name B (i := 0) rfl rfl) (ea_cons (ee_name B (i := 1) rfl rfl) ea_nil)) ⟨p, rfl, rfl⟩))) rfl es_nil, rfl⟩
abbrev N_bp : List Str := ["pedal", "press", "track"]
theorem sc_bp : FnScope N_bp ["pedal", "press"] (defScope (topS 33)) := ⟨rfl, rfl, rfl, by decide +kernel, rfl, by decide +kernel, by decide +kernel⟩
theorem C_behind (F : FunAt K mg "behind_press" (topS 33) ["pedal", "press"]) (D : Deeds w K mg) (G_LOOPING : GlobD K mg "LOOPING" (.tuple looping3)) : CalW w K mg "behind_press" 2 3 (spD K fBehind) :=
  cal_dataW (k := 2) F sc_bp (fun ds d h => by obtain ⟨t, p, _, rfl, _⟩ := h; rfl) fun X hK hM hW B ds d h => by
    subst hK hM hW
    obtain ⟨t, p, ok, rfl, rfl⟩ := h
    refine ⟨.rt _, ?_, rfl⟩
    have fin : ∀ fs : List PyData, fs[1]? = some (.int 0) → p.d = .tuple fs → ∀ u : PyData, EvSs X [some (.tuple [t.d]), some (.tuple fs), some u] (defBody (topS 33) |>.drop 2) (.rt (.tuple [u])) := fun fs h1 _ u =>
      es_fin (ee_cat (ee_cat (ee_sl (ee_name B (i := 0) rfl rfl) eo_none (eo_some (ee_ix (ee_name B (i := 1) rfl rfl) ee_int (atI_nat (j := 1) h1)))) (ee_tup (ea_cons (ee_name B (i := 2) rfl rfl) ea_nil)) (Nat.le_of_ble_eq_true rfl)) (ee_sl (ee_name B (i := 0) rfl rfl) (eo_some (ee_add (ee_ix (ee_name B (i := 1) rfl rfl) ee_int (atI_nat (j := 1) h1)) ee_int)) eo_none) (Nat.le_of_ble_eq_true rfl)) rfl
    cases hp : p.isPace with
    | true =>
      obtain ⟨e1, e2, e3, e4⟩ := pr_pace hp
      have ed : p.d = .tuple [.str "pace", .int 0, .int p.pace] := congrArg PyData.tuple e1
      rw [ed, e4]
      refine es_cons (es_set B (i := 2) (d := t.d) (ee_ix (ee_name B (i := 0) rfl rfl) (i := 0) (ee_ix (ee_name B (i := 1) rfl rfl) ee_int rfl) rfl)) ?_
      refine es_cons (es_if (b := false) ((et_cmp (cmp_ne B (d := .str "pace") (e := .str "pace") (by decide +kernel) (by decide +kernel) rfl) (ee_ix (ee_name B (i := 1) rfl rfl) ee_int rfl) ee_str (nomark _)).cast (by decide +kernel)) (fun z => nomatch z) fun _ => es_one (o := .nx [some (.tuple [t.d]), some (.tuple [.str "pace", .int 0, .int p.pace]), some (K53.pace t p.pace).d]) (es_if (et_loops (m := t.m) (ee_ix (ds := t.fs) (ee_name B (i := 2) rfl rfl) ee_int rfl) (ee_const B G_LOOPING (by decide +kernel))) (fun c => es_one ?_) fun c => ?_)) (fin _ rfl ed _)
      · refine es_set B (i := 2) ((ee_cat (ee_cat (ee_sl (ds := t.fs) (ee_name B (i := 2) rfl rfl) eo_none (eo_some ee_int)) (ee_tup (ea_cons (ee_ix (ee_name B (i := 1) rfl rfl) ee_int rfl) ea_nil)) (Nat.le_of_ble_eq_true rfl)) (ee_sl (ds := t.fs) (ee_name B (i := 2) rfl rfl) (eo_some ee_int) eo_none) (Nat.le_of_ble_eq_true rfl)).cast ?_)
        unfold K53.pace; rw [if_pos c]; rfl
      · have e5 : K53.pace t p.pace = t := by unfold K53.pace; rw [if_neg (by rw [c]; decide)]
        rw [e5]; exact es_nil
    | false =>
      obtain ⟨e1, e2⟩ := pr_deed hp
      have ed : p.d = .tuple [.str p.str, .int 0] := congrArg PyData.tuple e1
      rw [ed]
      refine es_cons (es_set B (i := 2) (d := t.d) (ee_ix (ee_name B (i := 0) rfl rfl) (i := 0) (ee_ix (ee_name B (i := 1) rfl rfl) ee_int rfl) rfl)) ?_
      refine es_cons (es_if (b := true) (o := .nx [some (.tuple [t.d]), some (.tuple [.str p.str, .int 0]), some (step t p).d]) ((et_cmp (cmp_ne B (d := .str p.str) (e := .str "pace") (sh_of (ok_prs p) (Nat.zero_le _)) (by decide +kernel) (eqv_str _ _)) (ee_ix (ee_name B (i := 1) rfl rfl) ee_int rfl) ee_str (nomark _)).cast (by rw [e2]; rfl)) (fun _ => es_one ?_) fun z => nomatch z) (fin _ rfl ed _)
      exact es_set B (i := 2) (ee_deed B (by decide) D hp ok (ee_ix (ee_name B (i := 1) rfl rfl) ee_int rfl) (ee_name B (i := 2) rfl rfl) (fun _ _ => rfl))
abbrev N_pp : List Str := ["pedal", "press"]
theorem sc_pressed : FnScope N_pp ["pedal", "press"] (defScope (topS 35)) := ⟨rfl, rfl, rfl, by decide +kernel, rfl, by decide +kernel, by decide +kernel⟩
theorem C_pressed (F : FunAt K mg "pressed" (topS 35) ["pedal", "press"]) (C_needPedal : Cal K mg "need_pedal" 1 6 (spD K fPedal)) (C_needPress : CalW w K mg "need_press" 2 4 (spD K fNeedPress)) (C_behind : CalW w K mg "behind_press" 2 3 (spD K fBehind)) (m_len : mg "len" = none) : CalW w K mg "pressed" 2 7 (spD K fBehind) :=
  cal_dataW (k := 6) F sc_pressed (fun ds d h => by obtain ⟨t, p, _, rfl, _⟩ := h; rfl) fun X hK hM hW B ds d h => by
    subst hK hM hW
    obtain ⟨t, p, ok, rfl, rfl⟩ := h
    refine ⟨.rt _, ?_, rfl⟩
    refine es_cons (es_expr (ee_call B C_needPedal (by decide) (by decide +kernel) (ea_cons (ee_name B (i := 0) rfl rfl) ea_nil) ⟨t, ok, rfl, rfl⟩)) ?_
    refine es_cons (es_expr (ee_callW B C_needPress (by decide) (by decide +kernel) (ea_cons (ee_len B m_len (ds := [t.d]) (ee_name B (i := 0) rfl rfl)) (ea_cons (ee_name B (i := 1) rfl rfl) ea_nil)) ⟨p, rfl, rfl⟩)) ?_
    exact es_fin (ee_callW B C_behind (by decide) (by decide +kernel) (ea_cons (ee_name B (i := 0) rfl rfl) (ea_cons (ee_name B (i := 1) rfl rfl) ea_nil)) ⟨t, p, ok, rfl, rfl⟩) rfl
end
end K53
end
section
set_option maxRecDepth 100000
set_option maxHeartbeats 4000000
/-! The list of all presses. -/
namespace K53
open PySem PySem.Spec PyProof.Rows L2
def rank : Pr → Nat
  | .clear => 0 | .flip => 1 | .join => 2 | .mute => 3 | .p1 => 4 | .p2 => 5 | .p4 => 6 | .redo => 7 | .stop => 8 | .tap => 9 | .turn => 10 | .undo => 11
theorem le_rank (a b : Pr) : PySem.W.dataLe false Pr.d a b = decide (rank a ≤ rank b) := by cases a <;> cases b <;> decide +kernel
theorem rank_inj {a b : Pr} (h : rank a = rank b) : a = b := by cases a <;> cases b <;> first | rfl | (exact absurd h (by decide))
theorem sort_prs {bs : List Pr} (h : bs.Perm prs) : bs.mergeSort (PySem.W.dataLe false Pr.d) = prs := by
  refine List.Perm.eq_of_pairwise (le := fun a b => PySem.W.dataLe false Pr.d a b = true) (fun a b _ _ h1 h2 => ?_) (List.pairwise_mergeSort (fun a b c h1 h2 => ?_) (fun a b => ?_) bs) (by simp only [le_rank]; decide +kernel) ((List.mergeSort_perm bs _).trans h)
  · rw [le_rank] at h1 h2
    exact rank_inj (Nat.le_antisymm (of_decide_eq_true h1) (of_decide_eq_true h2))
  · rw [le_rank] at h1 h2 ⊢
    exact decide_eq_true (Nat.le_trans (of_decide_eq_true h1) (of_decide_eq_true h2))
  · rw [le_rank, le_rank, Bool.or_eq_true]
    rcases Nat.le_total (rank a) (rank b) with z | z
    · exact .inl (decide_eq_true z)
    · exact .inr (decide_eq_true z)
theorem alike_pr (a b : Pr) : PySem.W.alike a.d b.d = true := by cases a <;> cases b <;> decide +kernel
theorem tup_pr (a : Pr) : ∃ x r, a.d = .tuple (x :: r) := by cases a <;> exact ⟨_, _, rfl⟩
section
variable {X : Cx} {δ : Dl} {N : List Str} {sc : Scope} {k j n : Nat} {e a b tg iter elt : Expr} {d : PyData} {ds es fs : List PyData} {pos p px : Pos} {body : List Stmt} {g : TG} {K : PySem.W.Frag} {mg : Str → Option Value} {w : World} {P : L2.St → Hp → Prop}
/-! sorted -/
theorem each_of {H : Hp} {pins : List (Addr × Obj)} {σ : L2.St} {s : Shared} (I : Inv X pins σ H s) : ∀ {bs : List Pr} {xs : List V} {its : List Value}, TpAll X.K H xs (bs.map Pr.d) → Vals xs its →
    PySem.W.EachIs (fun u b => ∃ x, RelV x u ∧ Tp X.K H x b.d) its bs ∧ PySem.W.EachIs (fun u b => ∃ as, Reads s.heap u b.d as) its bs
  | [], _, _, h, r => by cases h; cases r; exact ⟨.nil, .nil⟩
  | b :: bs, _, _, h, r => by
    cases h with
    | cons h1 h2 =>
      cases r with
      | cons r1 r2 =>
        obtain ⟨e1, e2⟩ := each_of I h2 r2
        exact ⟨.cons ⟨_, r1, h1⟩ e1, .cons (Dp.reads I _ _ _ h1.dp r1) e2⟩
theorem each_back {H : Hp} : ∀ {out : List Value} {bs : List Pr}, PySem.W.EachIs (fun u b => ∃ x, RelV x u ∧ Tp K H x b.d) out bs → ∃ xs, Vals xs out ∧ TpAll K H xs (bs.map Pr.d)
  | _, _, .nil => ⟨[], .nil, .nil⟩
  | _, _, .cons ⟨x, r, t⟩ h => by
    obtain ⟨xs, r', t'⟩ := each_back h
    exact ⟨x :: xs, .cons r r', .cons t t'⟩
theorem cr_sortPr (hu : X.A.units + 64 < cLine) : CallR X (.builtin "sorted") (fun vs H Q => ∃ (a : Addr) (xs : List V) (bs : List Pr), vs = [V.ref a] ∧ SqL X.K H a xs ∧ TpAll X.K H xs (bs.map Pr.d) ∧ bs.Perm prs ∧ ∀ (xs' : List V) (p : Addr), H p = none → TpAll X.K H xs' (prs.map Pr.d) → Q (.ref p) (upd H p (.lst xs'))) := by
  intro pins s σ H vs us Q I r h
  obtain ⟨a, xs, bs, rfl, hs, ht, hp, q⟩ := h
  obtain ⟨its, rv, hl, hz⟩ := I.list hs
  rw [Vals.ref1 r]
  obtain ⟨e1, e2⟩ := each_of I ht rv
  have hbl : bs.length = 12 := hp.length_eq
  refine PySem.W.sorted_data hl.isList e1 e2 (PySem.W.AllAlike.of alike_pr) (PySem.W.Sortable.tuples tup_pr) (by rw [hbl]; decide) (fun b _ => by have := dep_pr b; omega) fun out ho eo => ?_
  rw [sort_prs hp] at eo
  obtain ⟨xs', r', t'⟩ := each_back eo
  obtain ⟨c, hc⟩ := sortedAll_at s.heap its out.toArray
  have hn : s.heap.objs.size ≤ s.heap.objs.size + 1 := Nat.le_succ _
  have hlen : xs'.length ≤ sizeLine := by rw [r'.length, ho, hbl]; decide
  exact ⟨.ref (s.heap.objs.size + 1), upd H (s.heap.objs.size + 1) (.lst xs'), I.laid (t' := s.toks) (fun _ _ => sortedAll_old) hn ⟨hlen, out, c, r', hc⟩, rfl, q xs' _ (I.hok.fresh hn) t'⟩
theorem el_sortP (B : BX X N sc k) {bs : List Pr} (h : EvLP X P e (bs.map Pr.d)) (hp : bs.Perm prs) (hm : X.mg "sorted" = none) (hg : sc.names.lookup ("sorted" : Str) = some .globalImplicit := by decide +kernel)
    (he : starEach [e] X.env = (false, eval e X.env) :: starEach [] X.env := by rfl) (hpl : (backTo pos (starEach [] X.env)).any (·.1) = false := by rfl) : EvLP X P (.Call (.Name "sorted" p) [e] [] pos) (prs.map Pr.d) :=
  ⟨fun pins s σ H Q I hs q => (pe_callB (cr_sortPr B.room.units) (B.gl hg) hm (by decide +kernel) (pa_cons pe_el pa_nil he) (he := he) (hpl := hpl)).run pins s σ H Q I
    ⟨P, _, h, hs, fun p xs H' e1 hp1 hp2 t => ⟨p, xs, bs, rfl, .inl (.inl hp2), t, hp, fun xs' p' hp' t' => q p' xs' _ (e1.trans (same_new hp')) (by
      cases z : H p' with
      | none => rfl
      | some o => rw [e1 _ _ z] at hp'; cases hp') upd_same (t'.mono (same_new hp'))⟩⟩⟩
theorem el_catP (h1 : EvLP X P a ds) (h2 : EvLP X P b es) (hP : ∀ σ H H', Same H H' → P σ H → P σ H') (hz : ds.length + es.length ≤ 4096) : EvLP X P (.BinOp a .Add b pos) (ds ++ es) :=
  ⟨fun pins s σ H Q I hs q => (pe_op op_cat pe_el pe_el).run pins s σ H Q I
    ⟨P, _, h1, hs, fun p xs H1 e1 hp1 hp2 t => ⟨P, _, h2, hP _ _ _ e1 hs, fun p' xs' H2 e2 hp1' hp2' t' => ⟨p, p', xs, xs', rfl, rfl, e2 _ _ hp2, hp2', by
      rw [t.length, t'.length]; exact Nat.le_trans hz (by decide), fun r hr => q r _ _ (e1.trans (e2.trans (same_new hr))) (by
        cases z : H r with
        | none => rfl
        | some o => rw [e2 _ _ (e1 _ _ z)] at hr; cases hr) upd_same (((t.mono e2).append t').mono (same_new hr))⟩⟩⟩⟩
/-! a walk over values that stay -/
def ItC (ks : List V) : It := ⟨fun i _ => i < ks.length, fun i H v H' => H' = H ∧ ks[i]? = some v, fun i _ => ks.length ≤ i⟩
theorem dsrc_c {H : Hp} {ks : List V} (t : TpAll K H ks ds) : DSrc K (ItC ks) H ds := fun H' e => by
  refine ⟨fun i hi => ⟨by show i < ks.length; rw [t.length]; exact hi, fun v H2 y => ?_⟩, by show ks.length ≤ ds.length; rw [t.length]; exact Nat.le_refl _⟩
  obtain ⟨rfl, hv⟩ := y
  obtain ⟨v', hv', tv⟩ := t.get (List.getElem?_eq_getElem hi)
  rw [hv] at hv'; cases hv'
  exact ⟨Same.refl _, _, List.getElem?_eq_getElem hi, tv.mono e⟩
theorem turn_kd {Pg : Program} {w : World} {K : PySem.W.Frag} {dd it : Addr} {es : Array DictEntry} {n : Nat} {ks : List V} (D : KDict K w dd es n) (hk : Vals ks (es.toList.map (·.key))) :
    Turn Pg w K tg (ItC ks) [it] it (fun i h => h.IsKeyIter it dd i es.size n) := by
  have hsz : ks.length = es.size := by rw [hk.length, List.length_map]; simp
  have raw : ∀ {X : Cx} {pins : List (Addr × Obj)} {σ : L2.St} {H : Hp} {s : Shared}, X.K = K → Inv X pins σ H s → s.heap.DictRaw dd es n := fun hK I => by
    have := I.kIn
    rw [hK] at this
    exact ⟨_, this _ _ D.at_, ⟨rfl, rfl, rfl⟩, rfl⟩
  refine ⟨by simp, fun i h st b hb => ?_, fun i h h' st k => st.at fun o e => k it (by simp) o e, ?_, ?_, fun A i s Q E st h => wpAny_pyIter_keyiter st h⟩
  · have e : b = it := by simpa using hb
    subst e
    obtain ⟨oi, e, c, dd⟩ := st
    exact ⟨oi, e, fun v z => by rw [dd] at z; cases z⟩
  · intro X hP hw hK hc i pins s σ H E I hf st hg
    have hr := raw hK I
    subst hP hw hK
    obtain ⟨f0, f1, f2, f3, f4, f5⟩ := hf it (by simp)
    have hi : i < es.size := by rw [← hsz]; exact hg
    refine wpAny_pyNext_keys_item_raw st hr hi fun h' st' sb => ?_
    have I1 : Inv X pins σ H { s with heap := h' } := I.turned (t' := s.toks) (fun b ob hb e => (sb.2 b hb).trans e) f0 f1 f3 f4 f5
    obtain ⟨oi, e, c, dd'⟩ := id st'
    have hv : ks[i]? = some ks[i] := List.getElem?_eq_getElem hg
    obtain ⟨u, hu, ru⟩ := hk.get hv
    have eu : es[i].key = u := by
      rw [List.getElem?_map, Array.getElem?_toList, Array.getElem?_eq_getElem hi] at hu
      exact Option.some.inj hu
    refine ⟨es[i].key, rfl, go_of (s := { s with heap := h' }) e c dd' (by decide) ⟨ks[i], H, I1, by rw [eu]; exact ru, ⟨rfl, hv⟩, st', fun b hb => (hf b hb).1⟩⟩
  · intro X hP hw hK hc i pins s σ H E I hf st hg
    have hr := raw hK I
    subst hP hw hK
    obtain ⟨f0, f1, f2, f3, f4, f5⟩ := hf it (by simp)
    have hi : es.size ≤ i := by rw [← hsz]; exact hg
    exact wpAny_pyNext_keys_end_raw (I.ok.hd hc) st hr hi fun h' eb => ⟨rfl, I.turned (t' := s.toks) (fun b ob hb e => eb b ob hb e) f0 f1 f3 f4 f5⟩
theorem ei_kd (B : BX X N sc k) {x : Str} {dd : Addr} {es : Array DictEntry} {n : Nat} {ks : List V} (D : KDict X.K X.w dd es n) (hk : Vals ks (es.toList.map (·.key))) (hm : X.mg x = some (.ref dd)) (t : ∀ H, TpAll X.K H ks ds) (hg : sc.names.lookup x = some .globalImplicit)
    (hdb : (x == ("__debug__" : Str)) = false := by decide) : EvIP X P tg (.Name x px) ds :=
  ⟨fun pins s σ H R I hs q => by
    refine thn ((pe_glob (v := .ref dd) (pos := px) (B.gl hg) hm rfl hdb).run pins s σ H (fun v H1 => v = .ref dd ∧ H1 = H) I ⟨rfl, rfl⟩) fun u s1 ⟨v, H1, I1, r1, ev, eH⟩ => ?_
    subst ev eH
    cases r1
    have hr : s1.heap.DictRaw dd es n := ⟨_, I1.kIn _ _ D.at_, ⟨rfl, rfl, rfl⟩, rfl⟩
    refine wpAny_pyIter_dict_raw D.low hr ?_
    have I2 : Inv X pins σ H1 { s1 with heap := s1.heap.push { cls := .type "dict_keyiterator", data := .fields #[.ref dd, .int 0 0, .int es.size 0, .int n 0] } } := I1.kept (t' := s1.toks) fun b o e => Heap.get?_push_of_some _ e
    exact ⟨s1.heap.objs.size, [s1.heap.objs.size], _, _, H1, rfl, I2, turn_kd D hk, ⟨_, Heap.get?_push_size _ rfl, rfl, rfl⟩, fun b hb => by
      have e : b = s1.heap.objs.size := by simpa using hb
      rw [e]; exact I1.fpOk (Nat.le_refl _) (I1.hok.fresh (Nat.le_refl _)), q _ _ (Same.refl _) (dsrc_c (t H1))⟩⟩
/-! the defs -/
def deedWords : List Pr := [.tap, .stop, .clear, .undo, .redo, .join, .turn, .flip, .mute]
/-- the table's keys in their order -/
structure DeedsKeys (w : World) (K : PySem.W.Frag) (mg : Str → Option Value) : Prop where
  ex : ∃ (dd : Addr) (es : Array DictEntry) (n : Nat), mg "DEEDS" = some (.ref dd) ∧ KDict K w dd es n ∧ Vals (deedWords.map fun p => V.str p.str) (es.toList.map (·.key))
def spL (K : PySem.W.Frag) (ds : List PyData) : Sp := fun vs H Q _ => vs = [] ∧ ∀ p xs H', Same H H' → H p = none → H' p = some (.lst xs) → TpAll K H' xs ds → Q (.ref p) H'
theorem perm_prs : (deedWords ++ [Pr.p1, .p2, .p4]).Perm prs := by decide +kernel
theorem tp_words {H : Hp} : ∀ ps : List Pr, TpAll K H (ps.map fun p => V.str p.str) (ps.map fun p => PyData.str p.str)
  | [] => .nil
  | p :: ps => .cons (.str _) (tp_words ps)
/-- what the first statement returns -/
def retE : List Stmt → Expr
  | .Return (some e) _ :: _ => e
  | _ => .Constant (.int 0) 0 ⟨0, 0, 0, 0⟩
abbrev N_ap : List Str := ["word", "pace"]
theorem sc_ap : FnScope N_ap [] (defScope (topS 37)) := ⟨rfl, rfl, rfl, by decide +kernel, rfl, by decide +kernel, by decide +kernel⟩
theorem C_allPresses (F : FunAt K mg "all_presses" (topS 37) []) (D : DeedsKeys w K mg) (G_PACES : GlobD K mg "PACES" (.tuple paces3)) (m_sorted : mg "sorted" = none) : CalW w K mg "all_presses" 0 1 (spL K (prs.map Pr.d)) :=
  cal_ofW (k := 0) F sc_ap (fun vs H Q E h => by rw [h.1]; rfl) fun X hK hM hW B H vs Q E h => by
    subst hK hM hW
    obtain ⟨rfl, q⟩ := h
    obtain ⟨dd, es, n, hm, hd, hks⟩ := D.ex
    have L : EvLP X (fun σ H => Sl X.K H σ ([none, none] : Dl)) (retE (defBody (topS 37))) (prs.map Pr.d) := el_sortP B (bs := deedWords ++ [.p1, .p2, .p4]) (by
      rw [List.map_append]
      refine el_catP (el_lc B [("word", 0)] (ei_kd B (ds := deedWords.map fun p => PyData.str p.str) hd hks hm (fun H => tp_words _) (by decide +kernel)) (by decide +kernel) (fun X' _ _ B' => B'.pgn (i := 0) rfl (by decide +kernel)) rfl (by decide) fun j d hd => ?_)
        (el_lc B [("pace", 1)] (ei_tup (ee_const B G_PACES (by decide +kernel))) (by decide +kernel) (fun X' _ _ B' => B'.pgn (i := 1) rfl (by decide +kernel)) rfl (by decide) fun j d hd => ?_) (fun _ _ _ e h => h.mono e) (by decide)
      · rw [List.getElem?_map] at hd
        cases hp : deedWords[j]? with
        | none => rw [hp] at hd; cases hd
        | some p =>
          rw [hp] at hd; cases hd
          refine ⟨_, p.d, by rw [List.getElem?_map, hp]; rfl, eg_name (by decide) (by decide), fun X' hK hM B' => ?_⟩
          have hf : p.isPace = false := by
            have := List.mem_of_getElem? hp
            revert this; cases p <;> decide
          have e1 : p.d = .tuple [.str p.str, .int 0] := congrArg PyData.tuple (pr_deed hf).1
          rw [e1]
          exact ee_tup (ea_cons (ee_name B' (i := 0) rfl rfl) (ea_cons ee_int ea_nil))
      · have hj : j < 3 := (List.getElem?_eq_some_iff.mp hd).1
        have h3 : j = 0 ∨ j = 1 ∨ j = 2 := by omega
        rcases h3 with e | e | e <;> subst e <;> cases hd <;>
          exact ⟨_, _, rfl, eg_name (by decide) (by decide), fun X' hK hM B' => ee_tup (ea_cons ee_str (ea_cons ee_int (ea_cons (ee_name B' (i := 1) rfl rfl) ea_nil)))⟩) perm_prs m_sorted
    exact ⟨_, pss_cons (ps_ret (⟨fun pins s σ H Q I h => L.run pins s σ H Q I h.1 h.2⟩ : PE X _ (fun σ H Q => Sl X.K H σ ([none, none] : Dl) ∧ ∀ p xs H', Same H H' → H p = none → H' p = some (.lst xs) → TpAll X.K H' xs (prs.map Pr.d) → Q (.ref p) H'))) pss_nil, sl_start (vs := []) (ds := []) 2 .nil, fun p xs H' e h1 h2 t => q p xs H' e h1 h2 t⟩
end
end K53
end
section
set_option maxRecDepth 100000
set_option maxHeartbeats 4000000
/-! The law's own list of presses; a list in a slot. -/
namespace K53
open PySem PySem.Spec PyProof.Rows L2
section
variable {X : Cx} {δ : Dl} {N : List Str} {sc : Scope} {k j n : Nat} {e a b tg iter elt : Expr} {d : PyData} {ds es fs : List PyData} {pos p px : Pos} {body : List Stmt} {g : TG} {K : PySem.W.Frag} {mg : Str → Option Value} {w : World} {P : L2.St → Hp → Prop}
/-- slot i holds a list of data -/
def LsAt (K : PySem.W.Frag) (i : Nat) (ds : List PyData) (σ : L2.St) (H : Hp) : Prop := ∃ p xs, σ[i]? = some (some (.ref p)) ∧ H p = some (.lst xs) ∧ TpAll K H xs ds
theorem LsAt.mono {H H' : Hp} {σ : L2.St} {i : Nat} (e : Same H H') (h : LsAt K i ds σ H) : LsAt K i ds σ H' := let ⟨p, xs, h1, h2, h3⟩ := h; ⟨p, xs, h1, e _ _ h2, h3.mono e⟩
theorem dsrc_l {H : Hp} {p : Addr} {xs : List V} (h : H p = some (.lst xs)) (t : TpAll K H xs ds) : DSrc K (Itl K p) H ds := fun H' e => by
  have h' : SqL K H' p xs := .inl (.inl (e _ _ h))
  refine ⟨fun i hi => ?_, ⟨xs, h', by rw [t.length]; exact Nat.le_refl _⟩⟩
  obtain ⟨v, hv, tv⟩ := t.get (List.getElem?_eq_getElem hi)
  refine ⟨⟨xs, v, h', hv⟩, fun w H2 y => ?_⟩
  obtain ⟨rfl, y⟩ := y
  have := y xs h'
  rw [hv] at this; cases this
  exact ⟨Same.refl _, _, List.getElem?_eq_getElem hi, tv.mono e⟩
theorem ei_ls (B : BX X N sc k) {i : Nat} {x : Str} (hP : ∀ σ H, P σ H → LsAt X.K i ds σ H) (hN : N[i]? = some x := by rfl) (hv : visB sc x = true := by decide +kernel)
    (h1 : (x == ("__debug__" : Str)) = false := by decide) (h2 : (x == ("__classdict__" : Str)) = false := by decide) : EvIP X P tg (.Name x px) ds :=
  ⟨fun pins s σ H R I hp q => by
    obtain ⟨p, xs, e1, e2, t⟩ := hP σ H hp
    exact (pi_list (tg := tg) (pe_var (by rw [B.fN]; exact hN) (B.vis hv) h1 h2)).run pins s σ H R I ⟨.ref p, e1, p, rfl, ⟨xs, .inl (.inl e2)⟩, q _ _ (Same.refl _) (dsrc_l e2 t)⟩⟩
def lawWords : List Pr := [.clear, .flip, .join, .mute, .redo, .stop, .tap, .turn, .undo]
theorem perm_law : (lawWords ++ [Pr.p1, .p2, .p4]).Perm prs := by decide +kernel
abbrev N_la : List Str := ["words", "word", "speed"]
theorem sc_la : FnScope N_la [] (defScope (topS 49)) := ⟨rfl, rfl, rfl, by decide +kernel, rfl, by decide +kernel, by decide +kernel⟩
theorem C_lawAll (F : FunAt K mg "_law_all" (topS 49) []) (m_sorted : mg "sorted" = none) : CalW w K mg "_law_all" 0 1 (spL K (prs.map Pr.d)) :=
  cal_ofW (k := 0) F sc_la (fun vs H Q E h => by rw [h.1]; rfl) fun X hK hM hW B H vs Q E h => by
    subst hK hM hW
    obtain ⟨rfl, q⟩ := h
    let P : L2.St → Hp → Prop := fun σ H => Sl X.K H σ ([none, none, none] : Dl) ∧ LsAt X.K 0 (lawWords.map fun p => PyData.str p.str) σ H
    have L : EvLP X P (retE ((defBody (topS 49)).drop 1)) (prs.map Pr.d) := el_sortP B (bs := lawWords ++ [.p1, .p2, .p4]) (by
      rw [List.map_append]
      refine el_catP (el_lcP (δ := [none, none, none]) B [("word", 1)] (fun _ _ h => h.1) (ei_ls B (i := 0) (ds := lawWords.map fun p => PyData.str p.str) fun _ _ h => h.2) (by decide +kernel) (fun X' _ _ B' => B'.pgn (i := 1) rfl (by decide +kernel)) rfl (by decide) fun j d hd => ?_)
        (el_lcP (δ := [none, none, none]) B [("speed", 2)] (fun _ _ h => h.1) (ds := paces3) ⟨fun pins s σ H R I hp q => (ei_tup (ee_tup (ea_cons ee_int (ea_cons ee_int (ea_cons ee_int ea_nil))))).run pins s σ H R I hp.1 q⟩ (by decide +kernel) (fun X' _ _ B' => B'.pgn (i := 2) rfl (by decide +kernel)) rfl (by decide) fun j d hd => ?_) (fun _ _ _ e h => ⟨h.1.mono e, h.2.mono e⟩) (by decide)
      · rw [List.getElem?_map] at hd
        cases hp : lawWords[j]? with
        | none => rw [hp] at hd; cases hd
        | some p =>
          rw [hp] at hd; cases hd
          refine ⟨_, p.d, by rw [List.getElem?_map, hp]; rfl, eg_name (by decide) (by decide), fun X' hK hM B' => ?_⟩
          have hf : p.isPace = false := by
            have := List.mem_of_getElem? hp
            revert this; cases p <;> decide
          have e1 : p.d = .tuple [.str p.str, .int 0] := congrArg PyData.tuple (pr_deed hf).1
          rw [e1]
          exact ee_tup (ea_cons (ee_name B' (i := 1) rfl rfl) (ea_cons ee_int ea_nil))
      · have hj : j < 3 := (List.getElem?_eq_some_iff.mp hd).1
        have h3 : j = 0 ∨ j = 1 ∨ j = 2 := by omega
        rcases h3 with e | e | e <;> subst e <;> cases hd <;>
          exact ⟨_, _, rfl, eg_name (by decide) (by decide), fun X' hK hM B' => ee_tup (ea_cons ee_str (ea_cons ee_int (ea_cons (ee_name B' (i := 2) rfl rfl) ea_nil)))⟩) perm_law m_sorted
    refine ⟨_, pss_cons (ps_set (i := 0) (by rw [B.fN]; exact B.nd) (by rw [B.fN]; rfl) (B.loc (by decide +kernel)) (pe_lst pa_ev) rfl (B.fnx (by decide +kernel))) (pss_cons (ps_ret (⟨fun pins s σ H Q I h => L.run pins s σ H Q I h.1 h.2⟩ : PE X _ (fun σ H Q => P σ H ∧ ∀ p xs H', Same H H' → H p = none → H' p = some (.lst xs) → TpAll X.K H' xs (prs.map Pr.d) → Q (.ref p) H'))) pss_nil), ⟨([none, none, none] : Dl), lawWords.map fun p => PyData.str p.str, ea_cons ee_str (ea_cons ee_str (ea_cons ee_str (ea_cons ee_str (ea_cons ee_str (ea_cons ee_str (ea_cons ee_str (ea_cons ee_str (ea_cons ee_str ea_nil)))))))), sl_start (vs := []) (ds := []) 3 .nil, fun vs H1 e1 t1 => ⟨?_, fun p hp => ⟨⟨?_, p, vs, rfl, upd_same, t1.mono (same_new hp)⟩, fun p' xs H' e h1 h2 t => q p' xs H' (e1.trans ((same_new hp).trans e)) ?_ h2 t⟩⟩⟩⟩
    · rw [t1.length]; decide
    · exact fun i d hd => by
        rcases i with _ | _ | _ | i
        · cases hd
        · cases hd
        · cases hd
        · simp at hd
    · cases z : H p' with
      | none => rfl
      | some o => rw [same_new hp _ _ (e1 _ _ z)] at h1; cases h1
end
end K53
end
section
set_option maxRecDepth 100000
set_option maxHeartbeats 4000000
/-! A dict whose keys are tracks. -/
namespace K53
open PySem PySem.Spec PyProof.Rows L2
/-! ### tracks as keys -/
mutual
def nkOf : PyData → NestedKey
  | .none => .none
  | .bool b => .num (if b = true then 1 else 0)
  | .int i => .num i
  | .str x => .text x
  | .list _ => .none
  | .tuple ds => .tup (nksOf ds)
  | .dict _ => .none
def nksOf : List PyData → List NestedKey
  | [] => []
  | d :: ds => nkOf d :: nksOf ds
end
mutual
theorem nk_depth : ∀ d : PyData, (nkOf d).depth ≤ d.depth
  | .none => Nat.zero_le _
  | .bool _ => Nat.zero_le _
  | .int _ => Nat.zero_le _
  | .str _ => Nat.zero_le _
  | .list _ => Nat.zero_le _
  | .tuple ds => Nat.succ_le_succ (nks_depth ds)
  | .dict _ => Nat.zero_le _
theorem nks_depth : ∀ ds : List PyData, NestedKey.depthAll (nksOf ds) ≤ PyData.depthAll ds
  | [] => Nat.zero_le _
  | d :: ds => by
    show max (nkOf d).depth (NestedKey.depthAll (nksOf ds)) ≤ max d.depth (PyData.depthAll ds)
    have h1 := nk_depth d
    have h2 := nks_depth ds
    omega
end
theorem nks_ints : ∀ {a b : List Int}, nksOf (a.map .int) = nksOf (b.map .int) → a = b
  | [], [], _ => rfl
  | [], _ :: _, h => by cases h
  | _ :: _, [], h => by cases h
  | x :: a, y :: b, h => by
    have h' : NestedKey.num x :: nksOf (a.map .int) = NestedKey.num y :: nksOf (b.map .int) := h
    injection h' with h1 h2
    injection h1 with h3
    rw [h3, nks_ints h2]
theorem nks_tL : ∀ {a b : List (List Int)}, nksOf (a.map tI) = nksOf (b.map tI) → a = b
  | [], [], _ => rfl
  | [], _ :: _, h => by cases h
  | _ :: _, [], h => by cases h
  | x :: a, y :: b, h => by
    have h' : NestedKey.tup (nksOf (x.map .int)) :: nksOf (a.map tI) = NestedKey.tup (nksOf (y.map .int)) :: nksOf (b.map tI) := h
    injection h' with h1 h2
    injection h1 with h3
    rw [nks_ints h3, nks_tL h2]
def nkT (t : Trk) : NestedKey := nkOf t.d
theorem nkT_inj {a b : Trk} (h : nkT a = nkT b) : a = b := by
  obtain ⟨m, ls, us, p, w, pc, s, mu⟩ := a
  obtain ⟨m', ls', us', p', w', pc', s', mu'⟩ := b
  have h' : NestedKey.tup [.text m.str, .tup (nksOf (ls.map tI)), .tup (nksOf (us.map tI)), .num p, .num w, .num pc, .num s, .num (if mu = true then 1 else 0)] = .tup [.text m'.str, .tup (nksOf (ls'.map tI)), .tup (nksOf (us'.map tI)), .num p', .num w', .num pc', .num s', .num (if mu' = true then 1 else 0)] := h
  injection h' with h'
  injection h' with e1 h'
  injection h' with e2 h'
  injection h' with e3 h'
  injection h' with e4 h'
  injection h' with e5 h'
  injection h' with e6 h'
  injection h' with e7 h'
  injection h' with e8 h'
  injection e1 with e1
  injection e2 with e2
  injection e3 with e3
  injection e4 with e4
  injection e5 with e5
  injection e6 with e6
  injection e7 with e7
  injection e8 with e8
  have e9 : mu = mu' := by cases mu <;> cases mu' <;> first | rfl | (exact absurd e8 (by decide))
  rw [md_str_inj e1, nks_tL e2, nks_tL e3, e4, e5, e6, e7, e9]
theorem nkT_dep (t : Trk) : (nkT t).depth ≤ 8 := Nat.le_trans (nk_depth _) (Nat.le_trans (dep_trk t) (by decide))
section
variable {X : Cx} {pins : List (Addr × Obj)} {σ : L2.St} {H : Hp} {s : Shared}
mutual
theorem nested_of (I : Inv X pins σ H s) : ∀ (d : PyData) {v : V} {u : Value}, Tp X.K H v d → RelV v u → NestedIs s.heap (nkOf d) u
  | .none, _, _, h, r => by cases h; cases r; exact .none
  | .bool b, _, _, h, r => by cases h; cases r; exact .bool rfl
  | .int i, _, _, h, r => by cases h; obtain ⟨t, rfl⟩ := r; exact .int i t
  | .str x, _, _, h, r => by cases h; obtain ⟨t, rfl⟩ := r; exact .text x t
  | .list _, _, _, h, _ => by cases h
  | .tuple ds, _, _, h, r => by
    cases h with
    | tup h1 h2 =>
      cases r
      obtain ⟨its, rv, p, _⟩ := I.tuple h1
      obtain ⟨o, ho, hc, n, hd⟩ := (show s.heap.IsTuple _ its.toArray from p)
      exact .tup ho hc hd (nesteds_of I ds h2 rv)
  | .dict _, _, _, h, _ => by cases h
theorem nesteds_of (I : Inv X pins σ H s) : ∀ (ds : List PyData) {vs : List V} {us : List Value}, TpAll X.K H vs ds → Vals vs us → NestedAll s.heap (nksOf ds) us
  | [], _, _, h, r => by cases h; cases r; exact .nil
  | d :: ds, _, _, h, r => by
    cases h with
    | cons h1 h2 =>
      cases r with
      | cons r1 r2 => exact .cons (nested_of I d h1 r1) (nesteds_of I ds h2 r2)
end
theorem key_is (I : Inv X pins σ H s) {t : Trk} {a : Addr} (h : Tp X.K H (.ref a) t.d) : (nestedKind X.prog X.w).is s.heap (nkT t) a := ⟨nested_of I t.d h rfl, nkT_dep t⟩
end
/-! ### the dict -/
/-- the machine's value of a reference or a truth -/
def uV : V → Value
  | .ref a => .ref a
  | .bl b => .bool b
  | _ => .none
def toV (x : Trk × Addr × V) : NestedKey × Addr × Value := (nkT x.1, x.2.1, uV x.2.2)
def DcO (P : Program) (w : World) (a : Addr) (xs : List (Trk × Addr × V)) : HO := .ext fun h => (a == sysModules) = false ∧ ∃ o es ep, h.get? a = some o ∧ o.ExactDict ∧ o.data = .dict es ep ∧ es.toList = (xs.map toV).map (entryOfKey (nestedKind P w)) ∧ ((xs.map toV).map (·.1)).Nodup
structure Ent (K : PySem.W.Frag) (H : Hp) (R : Hp → V → Way → Prop) (x : Trk × Addr × V) (y : Trk × Way) : Prop where
  eq : x.1 = y.1
  key : Tp K H (.ref x.2.1) x.1.d
  val : R H x.2.2 y.2
  lit : RelV x.2.2 (uV x.2.2)
/-- at a: the dict of what is known -/
def DictAt (P : Program) (w : World) (K : PySem.W.Frag) (R : Hp → V → Way → Prop) (H : Hp) (a : Addr) (kn : Kn) : Prop := ∃ xs, H a = some (DcO P w a xs) ∧ Paired (Ent K H R) xs kn
def KpR (R : Hp → V → Way → Prop) : Prop := ∀ H H' v p, Kp H H' → R H v p → R H' v p
def rWay (K : PySem.W.Frag) : Hp → V → Way → Prop := fun H v p => Tp K H v (wayD p)
def rTrue : Hp → V → Way → Prop := fun _ v _ => v = .bl true
theorem kpr_way {K : PySem.W.Frag} : KpR (rWay K) := fun _ _ _ _ k h => Tp.kp k _ h
theorem kpr_true : KpR rTrue := fun _ _ _ _ _ h => h
theorem Ent.kp {K : PySem.W.Frag} {H H' : Hp} {R : Hp → V → Way → Prop} (hR : KpR R) (k : Kp H H') {x : Trk × Addr × V} {y : Trk × Way} (e : Ent K H R x y) : Ent K H' R x y := ⟨e.eq, e.key.kp k, hR _ _ _ _ k e.val, e.lit⟩
theorem DictAt.kp {P : Program} {w : World} {K : PySem.W.Frag} {R : Hp → V → Way → Prop} {H H' : Hp} {a : Addr} {kn : Kn} (hR : KpR R) (k : Kp H H') (e : H' a = H a) (d : DictAt P w K R H a kn) : DictAt P w K R H' a kn := let ⟨xs, h1, h2⟩ := d; ⟨xs, e.trans h1, Paired.mp (fun _ _ e => e.kp hR k) h2⟩
theorem DictAt.same {P : Program} {w : World} {K : PySem.W.Frag} {R : Hp → V → Way → Prop} {H H' : Hp} {a : Addr} {kn : Kn} (hR : KpR R) (k : Same H H') (d : DictAt P w K R H a kn) : DictAt P w K R H' a kn := d.kp hR (Kp.of k) (by obtain ⟨xs, h1, _⟩ := d; rw [h1, k _ _ h1])
section
variable {K : PySem.W.Frag} {H : Hp} {R : Hp → V → Way → Prop} {t : Trk}
theorem at_some : ∀ {xs : List (Trk × Addr × V)} {kn : Kn} {p : Way}, Paired (Ent K H R) xs kn → look kn t = some p → ∃ q v, atKey (xs.map toV) (nkT t) = some q ∧ q.2 = uV v ∧ RelV v (uV v) ∧ R H v p
  | _, _, _, .nil, h => by cases h
  | _, _, p, .cons (a := x) (b := y) e r, h => by
    obtain ⟨u, ka, v⟩ := x
    obtain ⟨u', p'⟩ := y
    have eu : u = u' := e.eq
    subst eu
    have h' : (if u = t then some p' else look _ t) = some p := h
    by_cases c : u = t
    · rw [if_pos c] at h'
      cases h'
      refine ⟨(ka, uV v), v, ?_, rfl, e.lit, e.val⟩
      unfold atKey
      rw [List.map_cons, List.find?_cons_of_pos (by show decide (nkT u = nkT t) = true; rw [c]; exact decide_eq_true rfl)]; rfl
    · rw [if_neg c] at h'
      obtain ⟨q, v', h1, h2⟩ := at_some r h'
      refine ⟨q, v', ?_, h2⟩
      unfold atKey at h1 ⊢
      rw [List.map_cons, List.find?_cons_of_neg (by show ¬ decide (nkT u = nkT t) = true; rw [decide_eq_true_eq]; exact fun z => c (nkT_inj z))]
      exact h1
theorem at_none : ∀ {xs : List (Trk × Addr × V)} {kn : Kn}, Paired (Ent K H R) xs kn → look kn t = none → atKey (xs.map toV) (nkT t) = none
  | _, _, .nil, _ => rfl
  | _, _, .cons (a := x) (b := y) e r, h => by
    obtain ⟨u, ka, v⟩ := x
    obtain ⟨u', p'⟩ := y
    have eu : u = u' := e.eq
    subst eu
    have h' : (if u = t then some p' else look _ t) = none := h
    by_cases c : u = t
    · rw [if_pos c] at h'; cases h'
    · rw [if_neg c] at h'
      have h1 := at_none r h'
      unfold atKey at h1 ⊢
      rw [List.map_cons, List.find?_cons_of_neg (by show ¬ decide (nkT u = nkT t) = true; rw [decide_eq_true_eq]; exact fun z => c (nkT_inj z))]
      exact h1
theorem at_isSome {xs : List (Trk × Addr × V)} {kn : Kn} (h : Paired (Ent K H R) xs kn) : (atKey (xs.map toV) (nkT t)).isSome = decide (t ∈ keys kn) := by
  cases e : look kn t with
  | none =>
    rw [at_none h e, decide_eq_false (look_none.mp e)]; rfl
  | some p =>
    obtain ⟨q, v, h1, _⟩ := at_some h e
    have hm : t ∈ keys kn := List.mem_map.mpr ⟨(t, p), look_some e, rfl⟩
    rw [h1, decide_eq_true hm]; rfl
end
section
variable {X : Cx} {pins : List (Addr × Obj)} {σ : L2.St} {H : Hp} {s : Shared} {R : Hp → V → Way → Prop} {a : Addr} {kn : Kn} {xs : List (Trk × Addr × V)}
theorem dict_of (I : Inv X pins σ H s) (h1 : H a = some (DcO X.prog X.w a xs)) (h2 : Paired (Ent X.K H R) xs kn) : (a == sysModules) = false ∧ s.heap.DictOfH (nestedKind X.prog X.w) a (xs.map toV) := by
  obtain ⟨⟨lo, o, es, ep, ho, hc, hd, he, hn⟩, _⟩ := I.hok a _ h1
  refine ⟨lo, o, es, ep, ho, hc, hd, he, fun x hx => ?_, hn⟩
  obtain ⟨y, hy, rfl⟩ := List.mem_map.mp hx
  obtain ⟨z, _, e⟩ := paired_mem h2 hy
  exact key_is I e.key
theorem room_nested {X : Cx} (hu : X.A.units + 64 < cLine) : (nestedKind X.prog X.w).room X.A.in1 := by
  show X.A.units + 1 + 8 < cLine
  omega
theorem op_notIn_dict (hu : X.A.units + 64 < cLine) : OpR X (compareOp .NotIn) (fun x y H Q => ∃ (a : Addr) (t : Trk) (kn : Kn) (R : Hp → V → Way → Prop), Tp X.K H x t.d ∧ y = .ref a ∧ DictAt X.prog X.w X.K R H a kn ∧ Q (.bl (!decide (t ∈ keys kn))) H) := by
  intro pins s σ H x y v u Q I rx ry h
  obtain ⟨a, t, kn, R, tx, rfl, ⟨xs, h1, h2⟩, q⟩ := h
  obtain ⟨ka, ys, rfl, g1, g2⟩ := Tp.tup_inv (ds := t.fs) tx
  cases rx
  cases ry
  obtain ⟨lo, dd⟩ := dict_of I h1 h2
  refine wpAny_notIn_heap (room_nested hu) (key_is I tx) lo dd ?_
  rw [at_isSome h2]
  exact ⟨.bl _, H, I.tok _, rfl, q⟩
theorem op_item_dict (hu : X.A.units + 64 < cLine) : IxR X (fun x y H Q => ∃ (a : Addr) (t : Trk) (kn : Kn) (p : Way) (R : Hp → V → Way → Prop), Tp X.K H y t.d ∧ x = .ref a ∧ DictAt X.prog X.w X.K R H a kn ∧ look kn t = some p ∧ ∀ v, R H v p → Q v H) := by
  intro value slice pins s σ H x y v u Q I rx ry h hs
  obtain ⟨a, t, kn, p, R, ty, rfl, ⟨xs, h1, h2⟩, hl, q⟩ := h
  obtain ⟨ka, ys, rfl, g1, g2⟩ := Tp.tup_inv (ds := t.fs) ty
  cases rx
  cases ry
  obtain ⟨lo, dd⟩ := dict_of I h1 h2
  obtain ⟨qq, v, e1, e2, e3, e4⟩ := at_some h2 hl
  exact tail_any dd.typeIs slot_dict_getitem.lookup (wpAny_getItem_heap (room_nested hu) (key_is I ty) dd e1 ⟨v, H, I.tok _, by rw [e2]; exact e3, q v e4⟩) hs
/-- a new key -/
theorem dict_put (hu : X.A.units + 64 < cLine) (I : Inv X pins σ H s) {t : Trk} {ka : Addr} {v : V} {r : Value} {p : Way} {Q : Unit → Shared → Prop} (hR : KpR R) (d : DictAt X.prog X.w X.K R H a kn) (hk : Tp X.K H (.ref ka) t.d) (hn : t ∉ keys kn) (hz : kn.length < 20000) (hv : R H v p) (hl : RelV v (uV v)) (hr : r = uV v)
    (h : ∀ H' s', Inv X pins σ H' s' → (∀ b, b ≠ a → H' b = H b) → Kp H H' → DictAt X.prog X.w X.K R H' a (kn ++ [(t, p)]) → Q () s') :
    wpAny (model X.prog X.w) X.A (setItem (.ref a) (.ref ka) r) Q X.xe s := by
  obtain ⟨xs, h1, h2⟩ := d
  obtain ⟨lo, dd⟩ := dict_of I h1 h2
  have hnone : atKey (xs.map toV) (nkT t) = none := at_none h2 (look_none.mpr hn)
  have hlen : (xs.map toV).length ≤ sizeLine := by
    rw [List.length_map, paired_len h2]; exact Nat.le_trans (Nat.le_of_lt hz) (by decide)
  subst hr
  refine wpAny_setItem_heap (room_nested hu) (key_is I hk) dd (fun h' dd' sb => ?_) hlen
  rw [storedH_new hnone] at dd'
  have exs : xs.map toV ++ [(nkT t, ka, uV v)] = (xs ++ [(t, ka, v)]).map toV := by rw [List.map_append]; rfl
  rw [exs] at dd'
  obtain ⟨o, es, ep, ho, hc, hd, he, _, hnd⟩ := dd'
  have kp : Kp H (upd H a (DcO X.prog X.w a (xs ++ [(t, ka, v)]))) := kp_mut (fun ys z => by rw [h1] at z; cases z) (fun ob u z => by rw [h1] at z; cases z)
  have new : ObjOk X.prog X.w (upd H a (DcO X.prog X.w a (xs ++ [(t, ka, v)]))) h' a (DcO X.prog X.w a (xs ++ [(t, ka, v)])) :=
    ⟨⟨lo, o, es, ep, ho, hc, hd, he, hnd⟩, ⟨o, ho⟩, fun g1 g2 ⟨q1, o1, es1, ep1, q2, q3⟩ k => ⟨q1, o1, es1, ep1, k _ q2, q3⟩⟩
  have I2 := d_write (t' := s.toks + (nestedKind X.prog X.w).draws (nkT t)) I (by rw [h1]; exact True.intro) sb ⟨o, ho⟩ new
  refine h _ _ I2 (fun b hb => upd_ne hb) kp ⟨_, upd_same, ?_⟩
  have app : ∀ {l : List (Trk × Addr × V)} {m : Kn} {x : Trk × Addr × V} {y : Trk × Way} {F : Trk × Addr × V → Trk × Way → Prop}, Paired F l m → F x y → Paired F (l ++ [x]) (m ++ [y]) := by
    intro l m x y F hp hf
    induction hp with
    | nil => exact .cons hf .nil
    | cons a r ih => exact .cons a ih
  exact app (Paired.mp (fun _ _ e => e.kp hR kp) h2) ⟨rfl, hk.kp kp, hR _ _ _ _ kp hv, hl⟩
end
section
variable {X : Cx} {o i e value : Expr} {pos pos' tpos : Pos} {td ty tv : TE}
/-- d[t] = v, t a new track -/
def sPutT (P : Program) (w : World) (K : PySem.W.Frag) (td ty tv : TE) : TS := fun D σ H => tv σ H fun v H1 => td σ H1 fun x H2 => ty σ H2 fun y H3 => ∃ (a ka : Addr) (t : Trk) (p : Way) (kn : Kn) (R : Hp → V → Way → Prop), x = .ref a ∧ y = .ref ka ∧ Tp K H3 y t.d ∧ KpR R ∧ DictAt P w K R H3 a kn ∧ t ∉ keys kn ∧ kn.length < 20000 ∧ R H3 v p ∧ RelV v (uV v) ∧
  (∀ u, RelV v u → u = uV v) ∧ ∀ H', (∀ b, b ≠ a → H' b = H3 b) → Kp H3 H' → DictAt P w K R H' a (kn ++ [(t, p)]) → D.nx σ H'
theorem ps_putT (hu : X.A.units + 64 < cLine) (ho : PE X o td) (hi : PE X i ty) (hv : PE X value tv) (hs : swapsWith value (some (.Subscript o i pos')) pos.line X.env = pure false := by rfl) :
    PS X (.Assign [.Subscript o i pos'] value pos) (sPutT X.prog X.w X.K td ty tv) := by
  refine ⟨fun pins s σ H D I h => ?_⟩
  refine wpAny_Assign_Subscript (thn (hv.run pins s σ H _ I h) fun r s1 ⟨v, H1, I1, rv, q1⟩ => thn (ho.run pins s1 σ H1 _ I1 q1) fun u s2 ⟨x, H2, I2, rx, q2⟩ => thn (hi.run pins s2 σ H2 _ I2 q2) fun iv s3 ⟨y, H3, I3, ry, a, ka, t, p, kn, R, ex, ey, ty, hR, dd, hn, hz, hv, hl, hu2, q3⟩ => ?_) hs
  subst ex ey
  cases rx
  cases ry
  exact dict_put hu I3 hR dd ty hn hz hv hl (hu2 r rv) fun H' s' I' e1 e2 e3 => ⟨σ, H', I', q3 H' e1 e2 e3⟩
/-- {t: v} -/
def tDictT (P : Program) (w : World) (K : PySem.W.Frag) (ty tv : TE) : TE := fun σ H Q => ∀ a, H a = none → ty σ (upd H a (DcO P w a [])) fun y H2 => tv σ H2 fun v H3 => ∃ (ka : Addr) (t : Trk) (p : Way) (R : Hp → V → Way → Prop), y = .ref ka ∧ Tp K H3 y t.d ∧ H3 a = some (DcO P w a []) ∧ KpR R ∧ R H3 v p ∧ RelV v (uV v) ∧ (∀ u, RelV v u → u = uV v) ∧
  ∀ H', (∀ b, b ≠ a → H' b = H3 b) → Kp H3 H' → DictAt P w K R H' a [(t, p)] → Q (.ref a) H'
theorem pe_dictT (hu : X.A.units + 64 < cLine) (hk : PE X e ty) (hv : PE X value tv) : PE X (.Dict [some e] [value] pos) (tDictT X.prog X.w X.K ty tv) := by
  refine ⟨fun pins s σ H Q I q => ?_⟩
  have hn := I.hok.fresh (Nat.le_refl s.heap.objs.size)
  have new0 : ObjOk X.prog X.w (upd H s.heap.objs.size (DcO X.prog X.w s.heap.objs.size [])) (s.heap.push { cls := .type "dict", data := .dict #[] }) s.heap.objs.size (DcO X.prog X.w s.heap.objs.size []) :=
    ⟨⟨beq_eq_false_iff_ne.mpr (Ne.symm (Nat.ne_of_lt I.big)), _, #[], 0, Heap.get?_push_size _ rfl, ⟨rfl, rfl, rfl⟩, rfl, rfl, List.nodup_nil⟩, ⟨_, Heap.get?_push_size _ rfl⟩, fun g1 g2 ⟨q1, o1, es1, ep1, q2, q3⟩ k => ⟨q1, o1, es1, ep1, k _ q2, q3⟩⟩
  have I1 := I.laid (a := s.heap.objs.size) (o := DcO X.prog X.w s.heap.objs.size []) (h' := s.heap.push { cls := .type "dict", data := .dict #[] }) (t' := s.toks) (fun _ _ q => Heap.get?_push_of_some _ q) (Nat.le_refl _) new0
  rw [arm_eval_Dict, zip_pairTrees [some e] [value] X.env pos rfl rfl, dictDisplay_pairs (pairTrees [some e] [value] X.env pos) (by intro z; cases z) (by rw [pairTrees_length [some e] [value] X.env pos rfl rfl]; show 1 < 17; decide)]
  refine wpAny_bind (wpAny_standAt (wpAny_bind (wpAny_subDictH (knd := nestedKind X.prog X.w) (by show X.A.units + 8 < cLine; omega) (by rw [pairTrees_length [some e] [value] X.env pos rfl rfl]; show 1 ≤ 15; decide) ?_)))
  refine pairTrees_cons_walk (thn (hk.run pins _ σ _ _ I1 (q _ hn)) fun iv s2 ⟨y, H2, I2, ry, q2⟩ => thn (hv.run pins s2 σ H2 _ I2 q2) fun r s3 ⟨v, H3, I3, rv, ka, t, p, R, ey, hty, hH, hR, hvp, hl, hu2, q3⟩ => pairTrees_nil_walk ?_)
  subst ey
  cases ry
  obtain ⟨lo, dd⟩ := dict_of (R := R) I3 hH .nil
  have er := hu2 r rv
  subst er
  refine ⟨[(nkT t, ka, uV v)], ⟨rfl, rfl, key_is I3 hty, trivial⟩, dd, fun h' tk dd' sb => wpAny_pure ?_⟩
  have e1 : storedAllH ([] : List (NestedKey × Addr × Value)) [(nkT t, ka, uV v)] = ([(t, ka, v)] : List (Trk × Addr × V)).map toV := rfl
  rw [e1] at dd'
  obtain ⟨o, es, ep, ho, hc, hd, he, _, hnd⟩ := dd'
  have kp : Kp H3 (upd H3 s.heap.objs.size (DcO X.prog X.w s.heap.objs.size [(t, ka, v)])) := kp_mut (fun ys z => by rw [hH] at z; cases z) (fun ob u z => by rw [hH] at z; cases z)
  have new : ObjOk X.prog X.w (upd H3 s.heap.objs.size (DcO X.prog X.w s.heap.objs.size [(t, ka, v)])) h' s.heap.objs.size (DcO X.prog X.w s.heap.objs.size [(t, ka, v)]) :=
    ⟨⟨lo, o, es, ep, ho, hc, hd, he, hnd⟩, ⟨o, ho⟩, fun g1 g2 ⟨q1, o1, es1, ep1, q2, q3⟩ k => ⟨q1, o1, es1, ep1, k _ q2, q3⟩⟩
  have I4 := d_write (t' := tk) I3 (by rw [hH]; exact True.intro) sb ⟨o, ho⟩ new
  exact ⟨.ref s.heap.objs.size, _, I4, rfl, q3 _ (fun b hb => upd_ne hb) kp ⟨_, upd_same, .cons ⟨rfl, hty.kp kp, hR _ _ _ _ kp hvp, hl⟩ .nil⟩⟩
/-- d.get(t) -/
def tGetT (P : Program) (w : World) (K : PySem.W.Frag) (td ty : TE) : TE := fun σ H Q => td σ H fun x H1 => ∃ a, x = .ref a ∧ (∃ kn R, DictAt P w K R H1 a kn) ∧ ty σ H1 fun y H2 => ∃ (t : Trk) (kn : Kn) (R : Hp → V → Way → Prop), Tp K H2 y t.d ∧ DictAt P w K R H2 a kn ∧
  (∀ p v, look kn t = some p → R H2 v p → Q v H2) ∧ (look kn t = none → Q .non H2)
theorem pe_getT {apos cpos : Pos} (hu : X.A.units + 64 < cLine) (ho : PE X o td) (he : PE X e ty) (m : M1 X o "get" apos e cpos) : PE X (.Call (.Attribute o "get" apos) [e] [] cpos) (tGetT X.prog X.w X.K td ty) := by
  refine ⟨fun pins s σ H Q I h => ?_⟩
  refine wpAny_Call_method m.base m.few m.line PySem.F.plainAttrs_dict PySem.F.slot_dict_get PySem.F.type_dict_get (thn (ho.run pins s σ H _ I h) fun u s1 ⟨x, H1, I1, rx, a, ex, ⟨kn0, R0, xs0, h10, h20⟩, q1⟩ => ?_)
  subst ex
  cases rx
  obtain ⟨lo, dd⟩ := dict_of I1 h10 h20
  refine ⟨dd.typeIs, dictOfH_noDict dd, ?_⟩
  rw [m.trees]
  refine Calls.callWith_builtin rfl (Calls.evalArgs_plain (Calls.spliced_cons (thn (he.run pins s1 σ H1 _ I1 q1) fun iv s2 ⟨y, H2, I2, ry, t, kn, R, hty, ⟨xs, h1, h2⟩, qs, qn⟩ => Calls.spliced_nil ?_)))
  obtain ⟨ka, ys, rfl, g1, g2⟩ := Tp.tup_inv (ds := t.fs) hty
  cases ry
  obtain ⟨lo2, dd2⟩ := dict_of I2 h1 h2
  refine call_meetsIn PySem.F.slot_dict_get dd2.typeIs PySem.F.entry_dict_get (PySem.F.args_dict_get_2 _ _) (meetsH_dict_get (nestedKind X.prog X.w) a ka lo2) ⟨room_nested hu, nkT t, xs.map toV, key_is I2 hty, dd2, ?_⟩
  cases hl : look kn t with
  | none =>
    rw [at_none h2 hl]
    exact ⟨.non, H2, I2.tok _, rfl, qn hl⟩
  | some p =>
    obtain ⟨qq, v, e1, e2, e3, e4⟩ := at_some h2 hl
    rw [e1]
    exact ⟨v, H2, I2.tok _, by show RelV v qq.2; rw [e2]; exact e3, qs p v hl e4⟩
end
end K53
end
section
set_option maxRecDepth 100000
set_option maxHeartbeats 4000000
/-! way_to. -/
namespace K53
open PySem PySem.Spec PyProof.Rows L2
/-- a block by what holds ahead and behind -/
structure Tr (X : Cx) (sts : List Stmt) (Pre Post : L2.St → Hp → Prop) : Prop where
  run : ∀ (pins : List (Addr × Obj)) (s : Shared) (σ : L2.St) (H : Hp) (D : Ends), Inv X pins σ H s → Pre σ H → (∀ σ' H', Post σ' H' → D.nx σ' H') → wpAny (model X.prog X.w) X.A (execs sts X.env) (SP X pins D) X.xe s
def tTr (X : Cx) (sts : List Stmt) : TS := fun D σ H => ∃ Pre Post, Tr X sts Pre Post ∧ Pre σ H ∧ ∀ σ' H', Post σ' H' → D.nx σ' H'
theorem pss_tr {X : Cx} {sts : List Stmt} : PSs X sts (tTr X sts) := ⟨fun pins s σ H D I h => let ⟨_, _, h1, h2, h3⟩ := h; h1.run pins s σ H D I h2 h3⟩
theorem Tr.of {X : Cx} {sts : List Stmt} {t : TS} {Pre Post : L2.St → Hp → Prop} (h : PSs X sts t) (q : ∀ (σ : L2.St) (H : Hp) (D : Ends), Pre σ H → (∀ σ' H', Post σ' H' → D.nx σ' H') → t D σ H) : Tr X sts Pre Post :=
  ⟨fun pins s σ H D I hp hq => h.run pins s σ H D I (q σ H D hp hq)⟩
/-- .. of one statement -/
structure TrS (X : Cx) (st : Stmt) (Pre Post : L2.St → Hp → Prop) : Prop where
  run : ∀ (pins : List (Addr × Obj)) (s : Shared) (σ : L2.St) (H : Hp) (D : Ends), Inv X pins σ H s → Pre σ H → (∀ σ' H', Post σ' H' → D.nx σ' H') → wpAny (model X.prog X.w) X.A (exec st X.env) (SP X pins D) X.xe s
def tTrS (X : Cx) (st : Stmt) : TS := fun D σ H => ∃ Pre Post, TrS X st Pre Post ∧ Pre σ H ∧ ∀ σ' H', Post σ' H' → D.nx σ' H'
theorem ps_trs {X : Cx} {st : Stmt} : PS X st (tTrS X st) := ⟨fun pins s σ H D I h => let ⟨_, _, h1, h2, h3⟩ := h; h1.run pins s σ H D I h2 h3⟩
theorem TrS.of {X : Cx} {st : Stmt} {t : TS} {Pre Post : L2.St → Hp → Prop} (h : PS X st t) (q : ∀ (σ : L2.St) (H : Hp) (D : Ends), Pre σ H → (∀ σ' H', Post σ' H' → D.nx σ' H') → t D σ H) : TrS X st Pre Post :=
  ⟨fun pins s σ H D I hp hq => h.run pins s σ H D I (q σ H D hp hq)⟩
theorem TrS.one {X : Cx} {st : Stmt} {Pre Post : L2.St → Hp → Prop} (h : TrS X st Pre Post) : Tr X [st] Pre Post := Tr.of (pss_one ps_trs) fun _ _ _ hp hq => ⟨_, _, h, hp, hq⟩
theorem BX.pv {X : Cx} {N : List Str} {sc : Scope} {k : Nat} (B : BX X N sc k) (i : Nat) {x : Str} {pos : Pos} (hN : N[i]? = some x := by rfl) (hv : visB sc x = true := by decide +kernel) (h1 : (x == ("__debug__" : Str)) = false := by decide) (h2 : (x == ("__classdict__" : Str)) = false := by decide) : PE X (.Name x pos) (tVar i) :=
  pe_var (by rw [B.fN]; exact hN) (B.vis hv) h1 h2
theorem BX.ps_set {X : Cx} {N : List Str} {sc : Scope} {k : Nat} (B : BX X N sc k) (i : Nat) {x : Str} {e : Expr} {te : TE} {px pos : Pos} (he : PE X e te) (hN : N[i]? = some x := by rfl) (hl : locB sc x = true := by decide +kernel) (hs : swapsWith e (some (.Name x px)) pos.line X.env = pure false := by rfl) : PS X (.Assign [.Name x px] e pos) (tAsg te (gName i)) :=
  L2.ps_set (i := i) (by rw [B.fN]; exact B.nd) (by rw [B.fN]; exact hN) (B.loc hl) he hs (B.fnx hl)
def forBody : Stmt → List Stmt
  | .For _ _ b _ _ => b
  | _ => []
def whBody : Stmt → List Stmt
  | .While _ b _ _ => b
  | _ => []
def valE : Stmt → Expr
  | .Assign _ e _ => e
  | _ => .Constant (.int 0) 0 ⟨0, 0, 0, 0⟩
def rightE : Expr → Expr
  | .BinOp _ _ e _ => e
  | e => e
def ifBody : Stmt → List Stmt
  | .If _ b _ _ => b
  | _ => []
def stAt (l : List Stmt) (i : Nat) : Stmt := l.getD i (.Pass ⟨0, 0, 0, 0⟩)
def wtWhile : List Stmt := whBody (stAt (defBody (topS 38)) 2)
def wtHere : List Stmt := forBody (stAt wtWhile 1)
def wtPress : List Stmt := forBody (stAt wtHere 0)
abbrev N_wt : List Str := ["track", "goal", "thing", "rows", "layer", "presses", "further", "here", "press", "behind"]
theorem sc_wt : FnScope N_wt ["track", "goal"] (defScope (topS 38)) := ⟨rfl, rfl, rfl, by decide +kernel, rfl, by decide +kernel, by decide +kernel⟩
abbrev d1 (t g : Trk) : Dl := [some t.d, some g.d, none, none, none, none, none, none, none, none]
abbrev d7 (t g h : Trk) : Dl := [some t.d, some g.d, none, none, none, none, none, some h.d, none, none]
abbrev d8 (t g h : Trk) (p : Pr) : Dl := [some t.d, some g.d, none, none, none, none, none, some h.d, some p.d, none]
structure In (X : Cx) (H0 : Hp) (δ : Dl) (D F p4 p5 : Addr) (l0 : Kn) (st : Sb) (σ : L2.St) (H : Hp) : Prop where
  len : σ.length = 10
  sm : Same H0 H
  fD : H0 D = none
  fF : H0 F = none
  tr : Sl X.K H σ δ
  r3 : σ[3]? = some (some (.ref D))
  r4 : σ[4]? = some (some (.ref p4))
  r5 : σ[5]? = some (some (.ref p5))
  r6 : σ[6]? = some (some (.ref F))
  dict : DictAt X.prog X.w X.K (rWay X.K) H D st.1
  lay : ∃ xs, H p4 = some (.lst xs) ∧ TpAll X.K H xs (l0.map fun x => x.1.d)
  pres : ∃ xs, H p5 = some (.lst xs) ∧ TpAll X.K H xs (prs.map Pr.d)
  fur : ∃ xs, H F = some (.lst xs) ∧ TpAll X.K H xs (st.2.map fun x => x.1.d)
  n4 : F ≠ p4
  n5 : F ≠ p5
section
variable {X : Cx} {H0 H H' : Hp} {δ δ' : Dl} {D F p4 p5 : Addr} {l0 : Kn} {st : Sb} {σ : L2.St} {k : Nat} {N : List Str} {sc : Scope}
theorem In.same (h : In X H0 δ D F p4 p5 l0 st σ H) (e : Same H H') : In X H0 δ D F p4 p5 l0 st σ H' :=
  { h with sm := h.sm.trans e, tr := h.tr.mono e, dict := h.dict.same kpr_way e, lay := let ⟨xs, a, b⟩ := h.lay; ⟨xs, e _ _ a, b.mono e⟩, pres := let ⟨xs, a, b⟩ := h.pres; ⟨xs, e _ _ a, b.mono e⟩, fur := let ⟨xs, a, b⟩ := h.fur; ⟨xs, e _ _ a, b.mono e⟩ }
theorem In.slot (h : In X H0 δ D F p4 p5 l0 st σ H) {i : Nat} (hi : 7 ≤ i) {u : Option V} (ht : Sl X.K H (σ.set i u) δ') : In X H0 δ' D F p4 p5 l0 st (σ.set i u) H :=
  { h with len := by rw [List.length_set]; exact h.len, tr := ht, r3 := by rw [List.getElem?_set_ne (by omega)]; exact h.r3, r4 := by rw [List.getElem?_set_ne (by omega)]; exact h.r4, r5 := by rw [List.getElem?_set_ne (by omega)]; exact h.r5, r6 := by rw [List.getElem?_set_ne (by omega)]; exact h.r6 }
theorem look_visit {x : Trk × Way} {t : Trk} {w : Way} {p : Pr} (h : look st.1 t = some w) : look (visit st x.1 x.2 p).1 t = some w := by
  unfold visit
  split
  · exact h
  · show look (st.1 ++ _) t = some w
    rw [look_append, h]; rfl
theorem look_expand {x : Trk × Way} {t : Trk} {w : Way} : ∀ (ps : List Pr) {st : Sb}, look st.1 t = some w → look (expand st x ps).1 t = some w
  | [], _, h => h
  | p :: ps, _, h => look_expand ps (look_visit (x := x) (p := p) h)
theorem look_layered {t : Trk} {w : Way} : ∀ (l : Kn) {st : Sb}, look st.1 t = some w → look (layered st l).1 t = some w
  | [], _, h => h
  | x :: l, st, h => by
    rw [layered_cons]
    exact look_layered l (look_expand prs h)
theorem len_visit {st : Sb} {x : Trk × Way} {p : Pr} : st.1.length ≤ (visit st x.1 x.2 p).1.length := by
  unfold visit
  split
  · exact Nat.le_refl _
  · show st.1.length ≤ (st.1 ++ _).length
    rw [List.length_append]; exact Nat.le_add_right _ _
theorem len_expand {x : Trk × Way} : ∀ (ps : List Pr) {st : Sb}, st.1.length ≤ (expand st x ps).1.length
  | [], _ => Nat.le_refl _
  | p :: ps, st => Nat.le_trans (len_visit (x := x) (p := p)) (len_expand ps (st := visit st x.1 x.2 p))
theorem len_layered : ∀ (l : Kn) {st : Sb}, st.1.length ≤ (layered st l).1.length
  | [], _ => Nat.le_refl _
  | x :: l, st => by
    rw [layered_cons]
    exact Nat.le_trans (len_expand prs) (len_layered l)
theorem expand_take {x : Trk × Way} {ps : List Pr} {i : Nat} {p : Pr} (h : ps[i]? = some p) : expand st x (ps.take (i + 1)) = visit (expand st x (ps.take i)) x.1 x.2 p := by
  rw [List.take_add_one, h]
  unfold expand
  rw [List.foldl_append]
  show List.foldl _ _ (p :: []) = _
  rw [List.foldl_cons, List.foldl_nil]
theorem layered_take {l : Kn} {i : Nat} {x : Trk × Way} (h : l[i]? = some x) : layered st (l.take (i + 1)) = expand (layered st (l.take i)) x prs := by
  rw [List.take_add_one, h]
  unfold layered
  rw [List.foldl_append]
  show List.foldl _ _ (x :: []) = _
  rw [List.foldl_cons, List.foldl_nil]
theorem tp_lit {K : PySem.W.Frag} {H : Hp} {v : V} {ds : List PyData} (h : Tp K H v (.tuple ds)) : RelV v (uV v) ∧ ∀ u, RelV v u → u = uV v := by
  obtain ⟨a, xs, rfl, _⟩ := h.tup_inv
  exact ⟨rfl, fun u r => r⟩
theorem cat_ways {K : PySem.W.Frag} {H : Hp} {w y : V} {q : Way} {p : Pr} {Q : VK} (tw : Tp K H w (wayD q)) (ty : Tp K H y (.tuple [p.d])) (hz : (q.map Pr.d).length + 1 ≤ 20000) (h : ∀ z H', Same H H' → Tp K H' z (wayD (q ++ [p])) → Q z H') :
    rCatA K w y H Q := by
  obtain ⟨a, vs, rfl, h1, h2⟩ := Tp.tup_inv (ds := q.map Pr.d) tw
  obtain ⟨r, ws, rfl, g1, g2⟩ := ty.tup_inv
  have l1 := h2.length
  have l2 := g2.length
  have e0 : wayD (q ++ [p]) = .tuple (q.map Pr.d ++ [p.d]) := by unfold wayD; rw [List.map_append]; rfl
  rw [e0] at h
  refine ⟨a, r, vs, ws, rfl, rfl, h1, g1, by rw [l1, l2]; exact Nat.le_trans hz (by decide), fun z => ?_, fun _ z => ?_, fun _ _ t ht => ?_⟩
  · have e : q.map Pr.d = [] := List.eq_nil_of_length_eq_zero (by rw [← l1, z]; rfl)
    rw [e] at h
    exact h _ _ (Same.refl _) ty
  · rw [z] at l2; cases l2
  · exact h _ _ (same_new ht) (tp_new ht (h2.append g2))
/-- one press of one track -/
theorem tr_press (B : BX X N_wt (defScope (topS 38)) k) (hk : 3 ≤ k) (C_behind : CalW X.w X.K X.mg "behind_press" 2 3 (spD X.K fBehind)) {t g : Trk} {x : Trk × Way} {p : Pr} (ok : Ok x.1) (hl : look st.1 x.1 = some x.2) (hz : st.1.length < 20000) (hw : x.2.length < 19000) (hf : st.2.length ≤ st.1.length) :
    Tr X wtPress (In X H0 (d8 t g x.1 p) D F p4 p5 l0 st) (In X H0 (d8 t g x.1 p) D F p4 p5 l0 (visit st x.1 x.2 p)) := by
  have E1 : EvE X (d8 t g x.1 p) (valE (stAt wtPress 0)) (step x.1 p).d := ee_ix (ds := [(step x.1 p).d]) (ee_callW B C_behind hk (by decide +kernel) (ea_cons (ee_tup (ea_cons (ee_name B (i := 7) rfl rfl) ea_nil)) (ea_cons (ee_name B (i := 8) rfl rfl) ea_nil)) ⟨x.1, p, ok, rfl, rfl⟩) ee_int rfl
  refine Tr.of (pss_cons (B.ps_set 9 pe_ev) (pss_one (ps_if (pt_cmpR (op_notIn_dict B.room.units) (B.pv 9) (B.pv 3) rfl) (pss_cons (ps_putT B.room.units (B.pv 3) (B.pv 9) (pe_op op_catA (pe_ix (op_item_dict B.room.units) (B.pv 3) (B.pv 7) (fun _ _ => rfl)) (pe_ev (e := .Tuple [.Name "press" _] _ _)))) (pss_one (ps_expr (pe_bm PySem.F.plainAttrs_list PySem.F.slot_list_append PySem.F.type_list_append mt_append (B.pv 6) (pa_cons (B.pv 9) pa_nil))))) pss_nil))) fun σ H D' hI hQ => ?_
  refine ⟨_, _, E1, hI.tr, fun v H1 e1 t1 => ?_⟩
  have h1 := (hI.same e1).slot (i := 9) (u := some v) (by decide) ((hI.tr.mono e1).clear 9 _)
  have h9 : (σ.set 9 (some v))[9]? = some (some v) := List.getElem?_set_self (by rw [hI.len]; decide)
  have hv : (visit st x.1 x.2 p) = if step x.1 p ∈ keys st.1 then st else (st.1 ++ [(step x.1 p, x.2 ++ [p])], st.2 ++ [(step x.1 p, x.2 ++ [p])]) := rfl
  refine ⟨v, h9, .ref D, h1.r3, D, step x.1 p, st.1, rWay X.K, t1, rfl, h1.dict, ?_⟩
  refine ⟨_, rfl, ?_⟩
  by_cases c : step x.1 p ∈ keys st.1
  · rw [decide_eq_true c]
    refine iteF (hQ _ _ ?_)
    rw [hv, if_pos c]; exact h1
  · rw [decide_eq_false c]
    refine iteT ?_
    obtain ⟨v7, h7, t7⟩ := h1.tr 7 x.1.d rfl
    refine ⟨.ref D, h1.r3, v7, h7, D, x.1, st.1, x.2, rWay X.K, t7, rfl, h1.dict, hl, fun w tw => ?_⟩
    have EP : EvE X (d8 t g x.1 p) (rightE (valE (stAt (ifBody (stAt wtPress 1)) 0))) (.tuple [p.d]) := ee_tup (ea_cons (ee_name B (i := 8) rfl rfl) ea_nil)
    refine ⟨_, _, EP, h1.tr, fun y H2 e2 t2 => cat_ways (tw.mono e2) t2 (by rw [List.length_map]; omega) fun z H3 e3 tz => ?_⟩
    have h3 := (h1.same e2).same e3
    have tv : Tp X.K H3 v (step x.1 p).d := (t1.mono e2).mono e3
    obtain ⟨ka, ys, rfl, g1, g2⟩ := Tp.tup_inv (ds := (step x.1 p).fs) tv
    have lit := tp_lit (ds := (x.2 ++ [p]).map Pr.d) tz
    refine ⟨.ref D, h3.r3, .ref ka, h9, D, ka, step x.1 p, x.2 ++ [p], st.1, rWay X.K, rfl, rfl, tv, kpr_way, h3.dict, c, hz, tz, lit.1, lit.2, fun H4 f1 f2 f3 => ?_⟩
    obtain ⟨fx, hfx, tfx⟩ := h3.fur
    have nD : ∀ {q : Addr} {zs : List V}, H3 q = some (.lst zs) → q ≠ D := fun {q zs} hq e => by
      obtain ⟨xs, hd, _⟩ := h3.dict
      rw [e, hd] at hq; cases hq
    have hF4 : H4 F = some (.lst fx) := (f1 F (nD hfx)).trans hfx
    have lfx : fx.length = st.2.length := by rw [tfx.length, List.length_map]
    have kp2 : Kp H4 (upd H4 F (.lst (fx ++ [.ref ka]))) := kp_mut (fun xs z => by rw [hF4] at z; cases z) (fun ob u z => by rw [hF4] at z; cases z)
    refine ⟨.ref F, h3.r6, .inl ⟨rfl, fx, .inl (.inl hF4)⟩, .ref ka, h9, F, fx, .ref ka, rfl, rfl, hF4, by rw [lfx]; exact Nat.lt_of_le_of_lt hf (Nat.lt_trans hz (by decide)), hQ _ _ ?_⟩
    rw [hv, if_neg c]
    have keep : ∀ {q : Addr} {zs : List V}, H3 q = some (.lst zs) → F ≠ q → upd H4 F (.lst (fx ++ [.ref ka])) q = some (.lst zs) := fun {q zs} hq hn => by
      rw [upd_ne (Ne.symm hn), f1 q (nD hq)]; exact hq
    have kpp : Kp H3 (upd H4 F (.lst (fx ++ [.ref ka]))) := f2.trans kp2
    exact { h3 with
      sm := fun a u ha => by
        have n1 : a ≠ F := fun e => by rw [e, h3.fF] at ha; cases ha
        have n2 : a ≠ D := fun e => by rw [e, h3.fD] at ha; cases ha
        rw [upd_ne n1, f1 a n2]; exact h3.sm a u ha
      tr := Sl.kp kpp h3.tr
      dict := f3.kp kpr_way kp2 (upd_ne (Ne.symm (nD hfx)))
      lay := let ⟨xs, a, b⟩ := h3.lay; ⟨xs, keep a h3.n4, b.kp kpp⟩
      pres := let ⟨xs, a, b⟩ := h3.pres; ⟨xs, keep a h3.n5, b.kp kpp⟩
      fur := ⟨fx ++ [.ref ka], upd_same, by
        show TpAll X.K _ _ ((st.2 ++ [(step x.1 p, x.2 ++ [p])]).map fun x => x.1.d)
        rw [List.map_append]
        exact (tfx.kp kpp).append (.cons (tv.kp kpp) .nil)⟩ }

theorem len2_visit {st : Sb} {x : Trk × Way} {p : Pr} (h : st.2.length ≤ st.1.length) : (visit st x.1 x.2 p).2.length ≤ (visit st x.1 x.2 p).1.length := by
  unfold visit
  split
  · exact h
  · show (st.2 ++ _).length ≤ (st.1 ++ _).length
    rw [List.length_append, List.length_append]; exact Nat.add_le_add_right h _
theorem len2_expand {x : Trk × Way} : ∀ (ps : List Pr) {st : Sb}, st.2.length ≤ st.1.length → (expand st x ps).2.length ≤ (expand st x ps).1.length
  | [], _, h => h
  | p :: ps, _, h => len2_expand ps (len2_visit (x := x) (p := p) h)
theorem len2_layered : ∀ (l : Kn) {st : Sb}, st.2.length ≤ st.1.length → (layered st l).2.length ≤ (layered st l).1.length
  | [], _, h => h
  | x :: l, st, h => by
    rw [layered_cons]
    exact len2_layered l (len2_expand prs h)
/-- a loop over a list that stands in a slot -/
theorem tr_for (B : BX X N sc k) {i j : Nat} {x y : Str} {px ix pos : Pos} {body : List Stmt} {p : Addr} {n : Nat} {P : Nat → L2.St → Hp → Prop} {Pre Post : L2.St → Hp → Prop} (hNi : N[i]? = some x) (hNj : N[j]? = some y) (hv : visB sc x = true) (hl : locB sc y = true)
    (h0 : ∀ σ H, Pre σ H → σ[i]? = some (some (.ref p)) ∧ P 0 σ H) (hls : ∀ m σ H, P m σ H → ∃ xs, H p = some (.lst xs) ∧ xs.length = n)
    (step : ∀ m, m < n → Tr X body (fun σ H => ∃ σ0 v xs, P m σ0 H ∧ H p = some (.lst xs) ∧ xs[m]? = some v ∧ σ = σ0.set j (some v)) (P (m + 1))) (hd : ∀ σ H, P n σ H → Post σ H)
    (h1 : (x == ("__debug__" : Str)) = false := by decide) (h2 : (x == ("__classdict__" : Str)) = false := by decide) : TrS X (.For (.Name y px) (.Name x ix) body [] pos) Pre Post := by
  refine TrS.of (ps_for B.own B.calm (pi_list (tg := .Name y px) (pe_var (by rw [B.fN]; exact hNi) (B.vis hv) h1 h2)) (B.pgn (i := j) hNj hl) pss_tr (by intro _; rfl)) fun σ H D hp hq => ?_
  obtain ⟨e1, q0⟩ := h0 σ H hp
  obtain ⟨xs0, l0, _⟩ := hls 0 σ H q0
  refine ⟨.ref p, e1, p, rfl, ⟨xs0, .inl (.inl l0)⟩, fun m k σ' H' => k = n - m ∧ m ≤ n ∧ P m σ' H', ⟨_, rfl, Nat.zero_le _, q0⟩, ?_⟩
  rintro m k σ' H' ⟨rfl, hle, q⟩
  obtain ⟨xs, hx, hn⟩ := hls m σ' H' q
  by_cases c : m < n
  · have hm : xs[m]? = some xs[m] := List.getElem?_eq_getElem (by rw [hn]; exact c)
    refine .inr ⟨⟨xs, xs[m], .inl (.inl hx), hm⟩, P (m + 1), fun σ3 H3 p3 => ⟨n - (m + 1), by omega, rfl, c, p3⟩, fun v H2 yl => ?_⟩
    obtain ⟨rfl, yl⟩ := yl
    have ev := yl xs (.inl (.inl hx))
    exact ⟨_, _, step m c, ⟨σ', v, xs, q, hx, ev, rfl⟩, fun _ _ z => z⟩
  · have em : m = n := by omega
    subst em
    exact .inl ⟨⟨xs, .inl (.inl hx), by rw [hn]; exact Nat.le_refl _⟩, hq _ _ (hd _ _ q)⟩
theorem Tr.weak {sts : List Stmt} {Pre Pre' Post Post' : L2.St → Hp → Prop} (h : Tr X sts Pre Post) (h1 : ∀ σ H, Pre' σ H → Pre σ H) (h2 : ∀ σ H, Post σ H → Post' σ H) : Tr X sts Pre' Post' :=
  ⟨fun pins s σ H D I hp hq => h.run pins s σ H D I (h1 _ _ hp) fun σ' H' q => hq σ' H' (h2 _ _ q)⟩
theorem Sl.weak {K : PySem.W.Frag} (h : Sl K H σ δ) (w : ∀ (i : Nat) (d : PyData), δ'[i]? = some (some d) → δ[i]? = some (some d)) : Sl K H σ δ' := fun i d e => h i d (w i d e)
theorem In.weak (h : In X H0 δ D F p4 p5 l0 st σ H) (w : ∀ (i : Nat) (d : PyData), δ'[i]? = some (some d) → δ[i]? = some (some d)) : In X H0 δ' D F p4 p5 l0 st σ H := { h with tr := h.tr.weak w }
theorem d8_7 {t g h : Trk} {p : Pr} : ∀ (i : Nat) (d : PyData), (d7 t g h)[i]? = some (some d) → (d8 t g h p)[i]? = some (some d) := fun i d e => by
  rcases i with _ | _ | _ | _ | _ | _ | _ | _ | _ | _ | i <;> first | exact e | (cases e; done) | (simp at e; done)
theorem d7_1 {t g h : Trk} : ∀ (i : Nat) (d : PyData), (d1 t g)[i]? = some (some d) → (d7 t g h)[i]? = some (some d) := fun i d e => by
  rcases i with _ | _ | _ | _ | _ | _ | _ | _ | _ | _ | i <;> first | exact e | (cases e; done) | (simp at e; done)
/-- all presses of one track -/
theorem tr_here (B : BX X N_wt (defScope (topS 38)) k) (hk : 3 ≤ k) (C_behind : CalW X.w X.K X.mg "behind_press" 2 3 (spD X.K fBehind)) {t g : Trk} {x : Trk × Way} (ok : Ok x.1) (hl : look st.1 x.1 = some x.2) (hz : (expand st x prs).1.length < 20000) (hw : x.2.length < 19000) (hf : st.2.length ≤ st.1.length) :
    Tr X wtHere (In X H0 (d7 t g x.1) D F p4 p5 l0 st) (In X H0 (d7 t g x.1) D F p4 p5 l0 (expand st x prs)) := by
  refine TrS.one ?_
  refine tr_for B (i := 5) (j := 8) (p := p5) (n := prs.length) (P := fun m => In X H0 (d7 t g x.1) D F p4 p5 l0 (expand st x (prs.take m))) rfl rfl (by decide +kernel) (by decide +kernel) (fun σ H h => ⟨h.r5, h⟩) (fun m σ H h => ?_) (fun m hm => ?_) (fun σ H h => by rw [List.take_length] at h; exact h)
  · obtain ⟨xs, a, b⟩ := h.pres
    exact ⟨xs, a, by rw [b.length, List.length_map]⟩
  · have hp : prs[m]? = some prs[m] := List.getElem?_eq_getElem hm
    have e1 := expand_take (st := st) (x := x) hp
    have len1 : (expand st x (prs.take m)).1.length ≤ (expand st x prs).1.length := by
      have e2 : expand st x prs = expand (expand st x (prs.take m)) x (prs.drop m) := by
        conv => lhs; rw [← List.take_append_drop m prs]
        unfold expand; rw [List.foldl_append]
      rw [e2]; exact len_expand _
    refine (tr_press (H0 := H0) (D := D) (F := F) (p4 := p4) (p5 := p5) (l0 := l0) B hk C_behind (t := t) (g := g) (x := x) (p := prs[m]) (st := expand st x (prs.take m)) ok (look_expand _ hl) (Nat.lt_of_le_of_lt len1 hz) hw (len2_expand _ hf)).weak (fun σ H ⟨σ0, v, xs, q, hx, hv, es⟩ => ?_) (fun σ H q => ?_)
    · subst es
      obtain ⟨ys, a, b⟩ := q.pres
      rw [hx] at a; cases a
      obtain ⟨v', hv', tv⟩ := b.get (i := m) (d := prs[m].d) (by rw [List.getElem?_map, hp]; rfl)
      rw [hv] at hv'; cases hv'
      exact q.slot (by decide) (q.tr.set tv (by rw [q.len]; decide))
    · rw [e1]; exact q.weak d8_7
/-- all tracks of one layer -/
theorem tr_layer (B : BX X N_wt (defScope (topS 38)) k) (hk : 3 ≤ k) (C_behind : CalW X.w X.K X.mg "behind_press" 2 3 (spD X.K fBehind)) {t g : Trk} (ok : ∀ x ∈ l0, Ok x.1) (hl : ∀ x ∈ l0, look st.1 x.1 = some x.2) (hz : (layered st l0).1.length < 20000) (hw : ∀ x ∈ l0, x.2.length < 19000) (hf : st.2.length ≤ st.1.length) :
    TrS X (stAt wtWhile 1) (In X H0 (d1 t g) D F p4 p5 l0 st) (In X H0 (d1 t g) D F p4 p5 l0 (layered st l0)) := by
  refine tr_for B (i := 4) (j := 7) (p := p4) (n := l0.length) (P := fun m => In X H0 (d1 t g) D F p4 p5 l0 (layered st (l0.take m))) rfl rfl (by decide +kernel) (by decide +kernel) (fun σ H h => ⟨h.r4, h⟩) (fun m σ H h => ?_) (fun m hm => ?_) (fun σ H h => by rw [List.take_length] at h; exact h)
  · obtain ⟨xs, a, b⟩ := h.lay
    exact ⟨xs, a, by rw [b.length, List.length_map]⟩
  · obtain ⟨x, hp⟩ : ∃ x, l0[m]? = some x := ⟨_, List.getElem?_eq_getElem hm⟩
    have hmem : x ∈ l0 := List.mem_of_getElem? hp
    have e1 := layered_take (st := st) hp
    have len1 : (expand (layered st (l0.take m)) x prs).1.length ≤ (layered st l0).1.length := by
      rw [← e1]
      have e2 : layered st l0 = layered (layered st (l0.take (m + 1))) (l0.drop (m + 1)) := by
        conv => lhs; rw [← List.take_append_drop (m + 1) l0]
        unfold layered; rw [List.foldl_append]
      rw [e2]; exact len_layered _
    have l1 := look_layered (l0.take m) (hl _ hmem)
    have l2 := len2_layered (l0.take m) hf
    have hok := ok _ hmem
    have hwm := hw _ hmem
    show Tr X wtHere (fun σ H => ∃ σ0 v xs, In X H0 (d1 t g) D F p4 p5 l0 (layered st (l0.take m)) σ0 H ∧ H p4 = some (.lst xs) ∧ xs[m]? = some v ∧ σ = σ0.set 7 (some v)) (In X H0 (d1 t g) D F p4 p5 l0 (layered st (l0.take (m + 1))))
    rw [e1]
    generalize layered st (l0.take m) = S at l1 l2 len1 ⊢
    have T := tr_here (H0 := H0) (D := D) (F := F) (p4 := p4) (p5 := p5) (l0 := l0) B hk C_behind (t := t) (g := g) (x := x) (st := S) hok l1 (Nat.lt_of_le_of_lt len1 hz) hwm l2
    generalize expand S x prs = S' at T ⊢
    refine T.weak (fun σ H ⟨σ0, v, xs, q, hx, hv, es⟩ => ?_) (fun σ H q => q.weak d7_1)
    subst es
    obtain ⟨ys, a, b⟩ := q.lay
    rw [hx] at a; cases a
    obtain ⟨v', hv', tv⟩ := b.get (i := m) (d := x.1.d) (by rw [List.getElem?_map, hp]; rfl)
    rw [hv] at hv'; cases hv'
    exact q.slot (by decide) (q.tr.set tv (by rw [q.len]; decide))
end
end K53
end
section
set_option maxRecDepth 100000
set_option maxHeartbeats 4000000
/-! way_to: the search, the def. -/
namespace K53
open PySem PySem.Spec PyProof.Rows L2
structure Ws (X : Cx) (H0 : Hp) (t g : Trk) (kn l0 : Kn) (σ : L2.St) (H : Hp) : Prop where
  len : σ.length = 10
  sm : Same H0 H
  tr : Sl X.K H σ (d1 t g)
  dict : ∃ D, H0 D = none ∧ σ[3]? = some (some (.ref D)) ∧ DictAt X.prog X.w X.K (rWay X.K) H D kn
  lay : LsAt X.K 4 (l0.map fun x => x.1.d) σ H
  pres : LsAt X.K 5 (prs.map Pr.d) σ H
section
variable {X : Cx} {H0 H H' : Hp} {δ δ' : Dl} {D F p4 p5 : Addr} {kn l0 : Kn} {st : Sb} {σ : L2.St} {k : Nat} {t g : Trk} {K : PySem.W.Frag} {mg : Str → Option Value} {w : World}
theorem Ws.same (h : Ws X H0 t g kn l0 σ H) (e : Same H H') : Ws X H0 t g kn l0 σ H' :=
  ⟨h.len, h.sm.trans e, h.tr.mono e, let ⟨D, a, b, c⟩ := h.dict; ⟨D, a, b, c.same kpr_way e⟩, h.lay.mono e, h.pres.mono e⟩
/-- one layer -/
theorem tr_round (B : BX X N_wt (defScope (topS 38)) k) (hk : 3 ≤ k) (C_behind : CalW X.w X.K X.mg "behind_press" 2 3 (spD X.K fBehind)) (ok : ∀ x ∈ l0, Ok x.1) (hl : ∀ x ∈ l0, look kn x.1 = some x.2) (hz : (layered (kn, []) l0).1.length < 20000) (hw : ∀ x ∈ l0, x.2.length < 19000) :
    Tr X wtWhile (Ws X H0 t g kn l0) (Ws X H0 t g (layered (kn, []) l0).1 (layered (kn, []) l0).2) := by
  refine Tr.of (pss_cons (B.ps_set 6 (pe_lst pa_nil)) (pss_cons ps_trs (pss_one (B.ps_set 4 (B.pv 6))))) fun σ H E h hq => ?_
  refine ⟨Nat.zero_le _, fun F hF => ?_⟩
  obtain ⟨D, fD, r3, hd⟩ := h.dict
  obtain ⟨p4, xs4, r4, h4, t4⟩ := h.lay
  obtain ⟨p5, xs5, r5, h5, t5⟩ := h.pres
  have e1 : Same H (upd H F (.lst [])) := same_new hF
  have fF : H0 F = none := by
    cases z : H0 F with
    | none => rfl
    | some o => rw [h.sm _ _ z] at hF; cases hF
  have T := tr_layer (H0 := H0) (D := D) (F := F) (p4 := p4) (p5 := p5) (l0 := l0) (st := (kn, [])) B hk C_behind (t := t) (g := g) ok hl hz hw (Nat.zero_le _)
  refine ⟨_, _, T, ?_, fun σ' H2 q => ?_⟩
  · have i3 : (σ.set 6 (some (V.ref F)))[3]? = σ[3]? := List.getElem?_set_ne (by decide)
    have i4 : (σ.set 6 (some (V.ref F)))[4]? = σ[4]? := List.getElem?_set_ne (by decide)
    have i5 : (σ.set 6 (some (V.ref F)))[5]? = σ[5]? := List.getElem?_set_ne (by decide)
    exact ⟨by rw [List.length_set]; exact h.len, h.sm.trans e1, fD, fF, ((h.tr.mono e1).clear 6 _).weak (fun i d e => by
        rcases i with _ | _ | _ | _ | _ | _ | _ | _ | _ | _ | i <;> first | exact e | (cases e; done) | (simp at e; done)), i3.trans r3, i4.trans r4, i5.trans r5, List.getElem?_set_self (by rw [h.len]; decide),
      hd.same kpr_way e1, ⟨xs4, e1 _ _ h4, t4.mono e1⟩, ⟨xs5, e1 _ _ h5, t5.mono e1⟩, ⟨[], upd_same, .nil⟩, (fun e => by rw [e, h4] at hF; cases hF), (fun e => by rw [e, h5] at hF; cases hF)⟩
  · refine ⟨.ref F, q.r6, hq _ _ ?_⟩
    generalize layered (kn, []) l0 = S at q
    have i3 : (σ'.set 4 (some (V.ref F)))[3]? = σ'[3]? := List.getElem?_set_ne (by decide)
    have i5 : (σ'.set 4 (some (V.ref F)))[5]? = σ'[5]? := List.getElem?_set_ne (by decide)
    obtain ⟨fx, a, b⟩ := q.fur
    obtain ⟨px, a5, b5⟩ := q.pres
    exact ⟨by rw [List.length_set]; exact q.len, q.sm, (q.tr.clear 4 _).weak (fun i d e => by
        rcases i with _ | _ | _ | _ | _ | _ | _ | _ | _ | _ | i <;> first | exact e | (cases e; done) | (simp at e; done)), ⟨D, fD, i3.trans q.r3, q.dict⟩, ⟨F, fx, List.getElem?_set_self (by rw [q.len]; decide), a, b⟩, ⟨p5, px, i5.trans q.r5, a5, b5⟩⟩
theorem lay_ks : ∀ l : Kn, PyData.canLayAll0 (l.map fun x => x.1.d) = true
  | [] => rfl
  | x :: l => by
    show (PyData.canLay0 x.1.d && PyData.canLayAll0 (l.map fun x => x.1.d)) = true
    rw [lay_trk, lay_ks l]; rfl
theorem dep_ks : ∀ l : Kn, PyData.depthAll (l.map fun x => x.1.d) ≤ 3
  | [] => Nat.zero_le _
  | x :: l => by
    show max (PyData.depth x.1.d) (PyData.depthAll (l.map fun x => x.1.d)) ≤ 3
    have h1 := dep_trk x.1
    have h2 := dep_ks l
    omega
theorem eqv_nil (l : Kn) : PyData.eqv (.list (l.map fun x => x.1.d)) (.list []) = decide (l = []) := by
  cases l with
  | nil => rfl
  | cons x l => rfl
/-- the whole search -/
theorem tr_search (B : BX X N_wt (defScope (topS 38)) k) (hk : 3 ≤ k) (C_behind : CalW X.w X.K X.mg "behind_press" 2 3 (spD X.K fBehind)) (okt : Ok t) (fin : Fin1 t) :
    TrS X (stAt (defBody (topS 38)) 2) (Ws X H0 t g (bfs t 0).1 (bfs t 0).2) (fun σ H => ∃ d, (∀ e, e < d → g ∉ keys (bfs t e).1) ∧ (g ∈ keys (bfs t d).1 ∨ (bfs t d).2 = []) ∧ Ws X H0 t g (bfs t d).1 (bfs t d).2 σ H) := by
  refine TrS.of (ps_while B.own (⟨fun pins s σ H Q I h => (pw_and (pt_cmpR (op_neD B.room.units) (B.pv 4) (pe_lst pa_nil) (nomark _)) (pw_and1 (pt_cmpR (op_notIn_dict B.room.units) (B.pv 1) (B.pv 3) rfl))).run _ pins s σ H Q I h⟩ : PT X _ (tAnd (tTest (tOp (rNeD X.K) (tVar 4) (tLst tNil))) (tTest (tOp _ (tVar 1) (tVar 3))))) pss_tr) fun σ H E h hq => ?_
  refine ⟨fun m σ H => ∃ d, m + d = 10805 ∧ (∀ e, e < d → (bfs t e).2 ≠ []) ∧ (∀ e, e < d → g ∉ keys (bfs t e).1) ∧ Ws X H0 t g (bfs t d).1 (bfs t d).2 σ H, ⟨10805, 0, rfl, fun e h => absurd h (Nat.not_lt_zero e), fun e h => absurd h (Nat.not_lt_zero e), h⟩, ?_⟩
  rintro m σ H ⟨d, hm, h1, h2, ws⟩
  obtain ⟨p4, xs4, r4, h4, t4⟩ := id ws.lay
  refine ⟨.ref p4, r4, Nat.zero_le _, fun p hp => ?_⟩
  have e1 : Same H (upd H p (.lst [])) := same_new hp
  have ws1 := ws.same e1
  refine ⟨_, _, .lst (.inl (.inl (e1 _ _ h4))) (t4.mono e1).dp, .lst (ds := []) (.inl (.inl upd_same)) .nil, sh_of (show PyData.canLayAll0 _ = true from lay_ks _) (by
    show PyData.depthAll _ + 1 ≤ 64
    have := dep_ks (bfs t d).2
    omega), rfl, ?_⟩
  rw [eqv_nil]
  refine ⟨_, rfl, ?_⟩
  by_cases c : (bfs t d).2 = []
  · rw [decide_eq_true c]
    refine iteF ?_
    exact iteF (hq _ _ ⟨d, h2, .inr c, ws1⟩)
  · rw [decide_eq_false c]
    refine iteT ?_
    obtain ⟨v1, r1, t1⟩ := ws1.tr 1 g.d rfl
    obtain ⟨D, fD, r3, hd⟩ := id ws1.dict
    refine ⟨v1, r1, .ref D, r3, D, g, (bfs t d).1, rWay X.K, t1, rfl, hd, _, rfl, ?_⟩
    by_cases c2 : g ∈ keys (bfs t d).1
    · rw [decide_eq_true c2]
      exact iteF (hq _ _ ⟨d, h2, .inl c2, ws1⟩)
    · rw [decide_eq_false c2]
      refine iteT ?_
      have hd3 : d ≤ 10803 := Nat.le_trans (bfs_grow t d h1) (fin d)
      have L := lay t d
      refine ⟨fun σ' H' => Ws X H0 t g (bfs t (d + 1)).1 (bfs t (d + 1)).2 σ' H', fun σ' H' q => ⟨m - 1, by omega, d + 1, by omega, fun e he => ?_, fun e he => ?_, q⟩, ?_⟩
      · rcases Nat.lt_succ_iff_lt_or_eq.mp he with z | z
        · exact h1 e z
        · rw [z]; exact c
      · rcases Nat.lt_succ_iff_lt_or_eq.mp he with z | z
        · exact h2 e z
        · rw [z]; exact c2
      · have R := tr_round (H0 := H0) (t := t) (g := g) (kn := (bfs t d).1) (l0 := (bfs t d).2) B hk C_behind (fun x hx => ?_) (fun x hx => ?_) ?_ (fun x hx => ?_)
        · exact ⟨_, _, R, ws1, fun _ _ q => q⟩
        · rw [← (lay_ins L x hx).1]; exact ok_run okt _
        · exact look_of_mem L.nodup (L.sub x hx)
        · have := fin (d + 1)
          exact Nat.lt_of_le_of_lt this (by decide)
        · rw [(lay_ins L x hx).2]; omega
end
end K53
end
section
set_option maxRecDepth 100000
set_option maxHeartbeats 4000000
/-! way_to, the def. -/
namespace K53
open PySem PySem.Spec PyProof.Rows L2
theorem swapped_scope {ts : List Expr} {v : Expr} {env env' : Env} (h : env.scope = env'.scope) : swappedStores ts v env = swappedStores ts v env' := by
  unfold swappedStores Env.kindOf Env.blockKind
  rw [h]
theorem swaps_scope {v : Expr} {tg : Option Expr} {l : Nat} {env env' : Env} (h : env.scope = env'.scope) : swapsWith v tg l env = swapsWith v tg l env' := by
  unfold swapsWith Env.kindOf Env.blockKind
  rw [h]
/-- an env of this scope -/
def envS (sc : Scope) : Env := ⟨sc, 0, 0, [], Str.empty, none, .none, none, 0⟩
/-- a promise shown by the body, the scope told -/
theorem cal_ofS {w : World} {K : PySem.W.Frag} {mg : Str → Option Value} {x : Str} {st : Stmt} {N ps : List Str} {k : Nat} {sp : Sp} (F : FunAt K mg x st ps) (S : FnScope N ps (defScope st)) (len : ∀ vs H Q E, sp vs H Q E → vs.length = ps.length)
    (body : ∀ X : Cx, X.K = K → X.mg = mg → X.w = w → X.env.scope = defScope st → BX X N (defScope st) k → ∀ (H : Hp) (vs : List V) (Q : VK) (E : XK), sp vs H Q E → ∃ t, PSs X (defBody st) t ∧ t { nx := fun _ H' => Q .non H', rt := Q } (L2.start N vs) H) : CalW w K mg x ps.length (k + 1) sp := by
  obtain ⟨fa, fd, Fu, hm, hb⟩ := F
  refine ⟨fa, fd, ps, rfl, hm, Fu.kp, hb, fun P base => Fu.ok S len fun cdv A outer s H vs Q E hr h => ?_⟩
  exact body _ rfl rfl rfl rfl ⟨rfl, fun _ => .inl rfl, rfl, hr, S.nd, fun _ => .inl rfl, PassesOwn.never⟩ H vs Q E h
def optD : Option Way → PyData
  | none => .none
  | some p => wayD p
def spWay (K : PySem.W.Frag) : Sp := fun vs H Q _ => ∃ t g, TpAll K H vs [t.d, g.d] ∧ Ok t ∧ Ok g ∧ Fin1 t ∧ ∀ r v H', IsW t g r → Same H H' → Tp K H' v (optD r) → Q v H'
section
variable {X : Cx} {H0 H H' : Hp} {k : Nat} {t g : Trk} {K : PySem.W.Frag} {mg : Str → Option Value} {w : World}
theorem C_wayTo (F : FunAt K mg "way_to" (topS 38) ["track", "goal"]) (C_track : Cal K mg "is_track" 1 5 (spD K fTrack)) (C_all : CalW w K mg "all_presses" 0 1 (spL K (prs.map Pr.d))) (C_behind : CalW w K mg "behind_press" 2 3 (spD K fBehind)) : CalW w K mg "way_to" 2 6 (spWay K) :=
  cal_ofS (k := 5) F sc_wt (fun vs H Q E h => by obtain ⟨t, g, tv, _⟩ := h; exact tv.length) fun X hK hM hW hSc B H vs Q E h => by
    subst hK hM hW
    obtain ⟨t, g, tv, okt, okg, fin, hQ⟩ := h
    obtain ⟨fa, fd, ps, hps, hm, hkp, hb, Fa⟩ := C_all
    have hloc : ∀ {x : Str}, (defScope (topS 38)).names.lookup x = some .local → X.env.scope.names.lookup x = some .local := fun {x} hx => by rw [hSc]; exact hx
    let δs : Nat → Dl := fun j => if j = 0 then [some t.d, some g.d, none, none, none, none, none, none, none, none] else if j = 1 then [some t.d, some g.d, some t.d, none, none, none, none, none, none, none] else [some t.d, some g.d, some g.d, none, none, none, none, none, none, none]
    have L1 : EvS X (δs 0) (stAt (defBody (topS 38)) 0) (.nx (δs 2)) := es_for B (ei_tup (ds := [t.d, g.d]) (ee_tup (ea_cons (ee_name B (i := 0) rfl rfl) (ea_cons (ee_name B (i := 1) rfl rfl) ea_nil)))) (B.pgn (i := 2) rfl (by decide +kernel)) δs rfl (fun j d hd => by
      have hj : j < 2 := (List.getElem?_eq_some_iff.mp hd).1
      have h2 : j = 0 ∨ j = 1 := by omega
      rcases h2 with e | e <;> subst e <;> cases hd
      · exact ⟨_, egf_name (by decide), es_skip (et_not (et_val (ee_call B C_track (by decide) (by decide +kernel) (ea_cons (ee_name B (i := 2) rfl rfl) ea_nil) ⟨t, okt, rfl, rfl⟩))) rfl es_nil⟩
      · exact ⟨_, egf_name (by decide), es_skip (et_not (et_val (ee_call B C_track (by decide) (by decide +kernel) (ea_cons (ee_name B (i := 2) rfl rfl) ea_nil) ⟨g, okg, rfl, rfl⟩))) rfl es_nil⟩)
    refine ⟨_, pss_cons (ps_ev (st := stAt (defBody (topS 38)) 0)) (pss_cons (ps_par3 (i := 3) (j := 4) (l := 5) B.calm (by rw [B.fN]; exact B.nd) (by rw [B.fN]; rfl) (by rw [B.fN]; rfl) (by rw [B.fN]; rfl) (by decide) (by decide) (by decide) (hloc (by decide +kernel)) (hloc (by decide +kernel)) (hloc (by decide +kernel))
        (pa_cons (pe_dictT B.room.units (B.pv 0) pe_ev) (pa_cons (pe_lst (pa_cons (B.pv 0) pa_nil)) (pa_cons (pe_call0 (Fa X.prog X.base) (B.room.mono (by decide)) (B.gl (by decide +kernel)) hm hkp hb .nil pass0) pa_nil))) ((swapped_scope (env' := envS (defScope (topS 38))) hSc).trans rfl))
      (pss_cons (ps_trs (st := stAt (defBody (topS 38)) 2)) (pss_one (ps_ret (pe_getT B.room.units (B.pv 3) (B.pv 1) ⟨rfl, rfl, rfl, rfl⟩))))), ?_⟩
    refine ⟨δs 0, .nx (δs 2), L1, sl_start (vs := vs) (ds := [t.d, g.d]) 8 tv |> fun z => by
      unfold L2.start
      rw [tv.length]; exact z, fun σ1 H1 l1 e1 s1 => ?_⟩
    have hl1 : σ1.length = 10 := by rw [l1, B.fN]; rfl
    intro a ha
    obtain ⟨v0, r0, t0⟩ := s1 0 t.d rfl
    have ea : Same H1 (upd H1 a (DcO X.prog X.w a [])) := same_new ha
    obtain ⟨ka, ys, rfl, g1, g2⟩ := Tp.tup_inv (ds := t.fs) t0
    refine ⟨.ref ka, r0, δs 2, .tuple [], ee_tup ea_nil, s1.mono ea, fun v H2 e2 t2 => ?_⟩
    have lit := tp_lit (ds := []) t2
    refine ⟨ka, t, [], rWay X.K, rfl, (t0.mono ea).mono e2, e2 _ _ upd_same, kpr_way, t2, lit.1, lit.2, fun H3 f1 f2 f3 => ?_⟩
    have e13 : Same H1 H3 := fun b u hb => by
      have n : b ≠ a := fun e => by rw [e, ha] at hb; cases hb
      rw [f1 b n]; exact e2 _ _ (ea _ _ hb)
    refine ⟨.ref ka, r0, (show 1 ≤ sizeLine by decide), fun l hl => ?_⟩
    have el : Same H3 (upd H3 l (.lst [.ref ka])) := same_new hl
    refine ⟨rfl, fun p xs H4 e4 hp hp2 tp => ?_⟩
    refine ⟨_, _, _, rfl, ?_⟩
    have hHa : H a = none := by
      cases z : H a with
      | none => rfl
      | some o => rw [e1 _ _ z] at ha; cases ha
    have ws : Ws X H t g (bfs t 0).1 (bfs t 0).2 (((σ1.set 3 (some (.ref a))).set 4 (some (.ref l))).set 5 (some (.ref p))) H4 := by
      have q4 : (((σ1.set 3 (some (V.ref a))).set 4 (some (V.ref l))).set 5 (some (V.ref p)))[4]? = some (some (.ref l)) := by
        rw [List.getElem?_set_ne (by decide), List.getElem?_set_self (by rw [List.length_set, hl1]; decide)]
      have q3 : (((σ1.set 3 (some (V.ref a))).set 4 (some (V.ref l))).set 5 (some (V.ref p)))[3]? = some (some (.ref a)) := by
        rw [List.getElem?_set_ne (by decide), List.getElem?_set_ne (by decide), List.getElem?_set_self (by rw [hl1]; decide)]
      have e14 := (e13.trans el).trans e4
      refine ⟨by rw [List.length_set, List.length_set, List.length_set]; exact hl1, e1.trans e14, ?_, ⟨a, hHa, q3, (f3.same kpr_way el).same kpr_way e4⟩, ⟨l, [.ref ka], q4, e4 _ _ upd_same, .cons (((t0.mono e13).mono el).mono e4) .nil⟩, ⟨p, xs, List.getElem?_set_self (by rw [List.length_set, List.length_set, hl1]; decide), hp2, tp⟩⟩
      exact ((((s1.mono e14).clear 3 _).clear 4 _).clear 5 _).weak fun i d e => by
        rcases i with _ | _ | _ | _ | _ | _ | _ | _ | _ | _ | i <;> first | exact e | (cases e; done) | (simp at e; done)
    refine ⟨_, _, tr_search (H0 := H) (t := t) (g := g) B (by decide) C_behind okt fin, ws, fun σ5 H5 ⟨d, hd1, hd2, q⟩ => ?_⟩
    obtain ⟨D, fD, r3, dd⟩ := q.dict
    obtain ⟨v1, r1, t1⟩ := q.tr 1 g.d rfl
    refine ⟨.ref D, r3, D, rfl, ⟨_, _, dd⟩, v1, r1, g, _, rWay X.K, t1, dd, fun p v hl hv => ?_, fun hl => ?_⟩
    · exact hQ (some p) v H5 ⟨d, hd1, hd2, hl.symm⟩ q.sm hv
    · exact hQ none .non H5 ⟨d, hd1, hd2, hl.symm⟩ q.sm .non
end
end K53
end
section
set_option maxRecDepth 100000
set_option maxHeartbeats 4000000
/-! The law's own reading of the presses. -/
namespace K53
open PySem PySem.Spec PyProof.Rows L2
section
variable {X : Cx} {δ : Dl} {N : List Str} {sc : Scope} {k j n : Nat} {e a b tg iter elt : Expr} {d : PyData} {ds es fs : List PyData} {pos p px : Pos} {K : PySem.W.Frag} {mg : Str → Option Value} {w : World}
/-- zip of a list in a slot and of a tuple -/
theorem ei_zipLT (B : BX X N sc k) {P : L2.St → Hp → Prop} {i : Nat} {x : Str} {r1 r2 : List PyData} {m : Nat} (hm : X.mg "zip" = none) (hP : ∀ σ H, P σ H → LsAt X.K i r1 σ H ∧ Sl X.K H σ δ) (h2 : EvE X δ b (.tuple r2)) (l1 : r1.length = m) (l2 : r2.length = m) (hN : N[i]? = some x) (hv : visB sc x = true)
    (hg : sc.names.lookup ("zip" : Str) = some .globalImplicit := by decide +kernel) (h3 : (x == ("__debug__" : Str)) = false := by decide) (h4 : (x == ("__classdict__" : Str)) = false := by decide)
    (hs : starEach [.Name x px, b] X.env = (false, eval (.Name x px) X.env) :: starEach [b] X.env := by rfl) (hs2 : starEach [b] X.env = (false, eval b X.env) :: starEach [] X.env := by rfl) (hpl : (backTo pos (starEach [b] X.env)).any (·.1) = false := by rfl) :
    EvIP X P tg (.Call (.Name "zip" p) [.Name x px, b] [] pos) (cols m [r1, r2]) :=
  ⟨fun pins s σ H R I hp q => by
    obtain ⟨⟨q1, xs, e1, e2, t1⟩, hS⟩ := hP σ H hp
    refine Call_ (ld_blt I (B.gl hg) hm PyProof.Rows.boot_zip (PyProof.Rows.callWith_type1 (thn ((pa_cons (B.pv i hN hv h3 h4) (pa_cons (pe_ev (e := b)) pa_nil hs2) hs).run pos pins s σ H (fun vs H1 => ∃ a ys, vs = [V.ref q1, V.ref a] ∧ Same H H1 ∧ SqT X.K H1 a ys ∧ TpAll X.K H1 ys r2) I ⟨.ref q1, e1, δ, _, h2, hS, fun v H1 f1 t2 => ?_⟩) fun us s1 ⟨vs, H1, I1, rr, a, ys, ev, f1, g1, g2⟩ => ?_) hs hpl))
    · obtain ⟨a, ys, rfl, g1, g2⟩ := t2.tup_inv
      exact ⟨a, ys, rfl, f1, g1, g2⟩
    · subst ev
      obtain ⟨u1, u2, rfl, r1', r2'⟩ := Vals.two rr
      cases r1'
      cases r2'
      exact zip_pie (srcs := [(true, q1), (false, a)]) (cs := [xs, ys]) I1 (.cons (show SqL X.K H1 q1 xs from .inl (.inl (f1 _ _ e2))) (.cons (show SqT X.K H1 a ys from g1) .nil)) (Nat.le_refl 2) (show 2 ≤ 4 by decide)
        (q _ _ f1 (dsrc_zip (rows := [r1, r2]) (.cons (show SqL X.K H1 q1 xs from .inl (.inl (f1 _ _ e2))) (.cons (show SqT X.K H1 a ys from g1) .nil)) (.cons (t1.mono f1) (.cons g2 .nil)) (fun r hr => by
          rcases List.mem_cons.mp hr with z | z
          · rw [z]; exact l1
          · have : r = r2 := by simpa using z
            rw [this]; exact l2) (by simp)))⟩
/-- name = [.. for ..] on one line -/
theorem BX.ps_lc (B : BX X N sc k) (hSc : X.env.scope = sc) {i : Nat} {y : Str} {py spos : Pos} {scope : Scope} {g : TG} (own : List (Str × Nat)) (hN : N[i]? = some y) (hyl : sc.names.lookup y = some .local)
    (hsw : swapsWith (.ListComp elt [⟨tg, iter, [], 0⟩] scope pos) (some (.Name y py)) spos.line (envS sc) = pure true) (ok : blkC N sc scope own = true) (hg : ∀ X', X'.K = X.K → X'.mg = X.mg → BX X' N scope k → PG X' tg g)
    (hs : ∀ x, foldedSetIterable iter X.env x = pure x := by intro _; rfl) : PS X (.Assign [.Name y py] (.ListComp elt [⟨tg, iter, [], 0⟩] scope pos) spos) (tAsg (tLc (tEi X tg iter) g tYes (tEu X.K X.mg N scope k elt) (own.map (·.2))) (gName i)) :=
  ps_setLc (i := i) (own := own) B.calm (by rw [B.fN]; exact B.nd) (by rw [B.fN]; exact hN) (by rw [hSc]; exact hyl) ((swaps_scope (env' := envS sc) hSc).trans hsw) (pi_ev (tg := tg)) (B.blkOk ok)
    (fun s H C cl fp => hg (X.blk s H scope (compEnvC scope cl C X.env) fp) rfl rfl (B.blk scope s H C cl fp)) (fun _ _ _ _ _ => pts_nil) (pe_eu B scope) hs
/-- a loop over data, the body by what holds -/
theorem tr_forI (B : BX X N sc k) {j : Nat} {y : Str} {body : List Stmt} {P : Nat → L2.St → Hp → Prop} {Pre Post : L2.St → Hp → Prop} (hi : EvIP X Pre (.Name y px) iter ds) (hNj : N[j]? = some y) (hl : locB sc y = true)
    (h0 : ∀ σ H H', Pre σ H → Same H H' → P 0 σ H')
    (step : ∀ (Hb : Hp) (m : Nat) (d : PyData), ds[m]? = some d → Tr X body (fun σ H => Same Hb H ∧ ∃ σ0 v, P m σ0 H ∧ Tp X.K H v d ∧ σ = σ0.set j (some v)) (fun σ H => Same Hb H ∧ P (m + 1) σ H)) (hps : ∀ m σ H H', P m σ H → Same H H' → P m σ H') (hd : ∀ σ H, P ds.length σ H → Post σ H)
    (hs : ∀ x, foldedSetIterable iter X.env x = pure x := by intro _; rfl) : TrS X (.For (.Name y px) iter body [] pos) Pre Post := by
  refine TrS.of (ps_for B.own B.calm (pi_ev (tg := .Name y px)) (B.pgn (i := j) hNj hl) pss_tr hs) fun σ H D hp hq => ?_
  refine ⟨_, ds, hi, hp, fun J H1 e1 src => ⟨fun m k σ' H' => k = ds.length - m ∧ m ≤ ds.length ∧ Same H1 H' ∧ P m σ' H', ⟨_, rfl, Nat.zero_le _, Same.refl _, h0 _ _ _ hp e1⟩, ?_⟩⟩
  rintro m k σ' H' ⟨rfl, hle, e2, q⟩
  obtain ⟨s1, s2⟩ := src H' e2
  by_cases c : m < ds.length
  · obtain ⟨g1, g2⟩ := s1 m c
    refine .inr ⟨g1, fun σ3 H3 => Same H1 H3 ∧ P (m + 1) σ3 H3, fun σ3 H3 p3 => ⟨ds.length - (m + 1), by omega, rfl, c, p3⟩, fun v H2 yl => ?_⟩
    obtain ⟨e3, d, hd', td⟩ := g2 v H2 yl
    exact ⟨_, _, step H1 m d hd', ⟨e2.trans e3, σ', v, hps _ _ _ _ q e3, td, rfl⟩, fun _ _ z => z⟩
  · have em : m = ds.length := by omega
    subst em
    exact .inl ⟨s2, hq _ _ (hd _ _ q)⟩
def fSum : List PyData → PyData → Prop := fun ds d => ∃ (ls : List (List Int)) (n : Nat), 1 ≤ ls.length ∧ ls.length ≤ 4 ∧ 1 ≤ n ∧ n ≤ 64 ∧ (∀ l ∈ ls, l.length = n) ∧ ds = [tL ls] ∧ d = tI (sumL ls)
abbrev N_lj : List Str := ["layers", "found", "layer", "one", "other"]
theorem sc_lj : FnScope N_lj ["layers"] (defScope (topS 43)) := ⟨rfl, rfl, rfl, by decide +kernel, rfl, by decide +kernel, by decide +kernel⟩
theorem C_lawJoined (F : FunAt K mg "_law_joined" (topS 43) ["layers"]) (m_len : mg "len" = none) (m_zip : mg "zip" = none) (m_tuple : mg "tuple" = none) : CalW w K mg "_law_joined" 1 1 (spD K fSum) :=
  cal_ofS (k := 0) F sc_lj (fun vs H Q E h => by obtain ⟨ds, d, tv, ⟨ls, n, _, _, _, _, _, rfl, _⟩, _⟩ := h; exact tv.length) fun X hK hM hW hSc B H vs Q E h => by
    subst hK hM hW
    obtain ⟨ds, d, tv, ⟨ls, n, h1, h2, h3, h4, hl, rfl, rfl⟩, hQ⟩ := h
    have hn := headD_length h1 hl
    let δ0 : Dl := [some (tL ls), none, none, none, none]
    let acc : Nat → List Int := fun m => (ls.take m).foldl addL (List.replicate n 0)
    have alen : ∀ m, (acc m).length = n := fun m => foldl_addL_length _ _ (by rw [List.length_replicate]) fun l h => hl l (List.mem_of_mem_take h)
    let P : Nat → L2.St → Hp → Prop := fun m σ H' => Same H H' ∧ σ.length = 5 ∧ Sl X.K H' σ δ0 ∧ LsAt X.K 1 ((acc m).map .int) σ H'
    have hfor : TrS X (stAt (defBody (topS 43)) 1) (P 0) (P ls.length) := by
      refine tr_forI B (ds := ls.map tI) (j := 2) (P := P) ⟨fun pins s σ H R I hp q => (ei_tup (ee_name B (i := 0) rfl rfl)).run pins s σ H R I hp.2.2.1 q⟩ rfl (by decide +kernel) (fun σ H H' h e => ⟨h.1.trans e, h.2.1, h.2.2.1.mono e, h.2.2.2.mono e⟩) (fun Hb m d hd => ?_) (fun m σ H H' h e => ⟨h.1.trans e, h.2.1, h.2.2.1.mono e, h.2.2.2.mono e⟩) (fun σ H h => by rw [List.length_map] at h; exact h)
      rw [List.getElem?_map] at hd
      cases hm : ls[m]? with
      | none => rw [hm] at hd; cases hd
      | some l =>
        rw [hm] at hd; cases hd
        have hll : l.length = n := hl l (List.mem_of_getElem? hm)
        have eacc : acc (m + 1) = addL (acc m) l := by
          show (ls.take (m + 1)).foldl addL _ = _
          rw [List.take_add_one, hm, List.foldl_append]
          show List.foldl addL _ (l :: []) = _
          rw [List.foldl_cons, List.foldl_nil]
        let δ1 : Dl := [some (tL ls), none, some (tI l), none, none]
        let P1 : L2.St → Hp → Prop := fun σ H => LsAt X.K 1 ((acc m).map .int) σ H ∧ Sl X.K H σ δ1
        refine Tr.of (pss_one (B.ps_lc hSc (i := 1) (g := gTup X.K 2 (gNs [3, 4])) [("one", 3), ("other", 4)] rfl (by decide +kernel) rfl (by decide +kernel) (fun X' hK _ B' => by
          rw [← hK]
          exact pg_tup B'.calm (pgs_cons (B'.pgn (i := 3) rfl (by decide +kernel)) (pgs_cons (B'.pgn (i := 4) rfl (by decide +kernel)) pgs_nil))))) fun σ H D hp hq => ?_
        obtain ⟨eb, σ0, v, ⟨q0, q1, q2, q3⟩, tdv, rfl⟩ := hp
        have s1 : Sl X.K H (σ0.set 2 (some v)) δ1 := q2.set tdv (by rw [q1]; decide)
        have l1 : LsAt X.K 1 ((acc m).map .int) (σ0.set 2 (some v)) H := by
          obtain ⟨p, xs, a, b, c⟩ := q3
          exact ⟨p, xs, by rw [List.getElem?_set_ne (by decide)]; exact a, b, c⟩
        refine tlc_of (δ := δ1) (P := P1) (ds := cols n [(acc m).map .int, l.map .int]) (fs := (acc (m + 1)).map .int) (by rw [List.length_set, q1]; rfl) (fun σ H h => h.2) (ei_zipLT B m_zip (fun σ H h => h) (ee_name B (i := 2) rfl rfl) (by rw [List.length_map]; exact alen m) (by rw [List.length_map]; exact hll) rfl (by decide +kernel)) ?_ ?_ (fun i d hi => ?_) ⟨l1, s1⟩ (fun p xs H' e1 hp hp2 t => ?_)
        · unfold cols; rw [List.length_map, List.length_map, List.length_range]; exact alen _
        · unfold cols; rw [List.length_map, List.length_range]; omega
        · unfold cols at hi
          have hin : i < n := by
            obtain ⟨z, _⟩ := List.getElem?_eq_some_iff.mp hi
            rw [List.length_map, List.length_range] at z; exact z
          rw [List.getElem?_map, List.getElem?_range hin] at hi
          cases hi
          have ha : i < (acc m).length := by rw [alen]; exact hin
          have hb : i < l.length := by omega
          have hc : i < (acc (m + 1)).length := by rw [alen]; exact hin
          have G : EvG X N_lj (wipeD δ1 [3, 4]) [3, 4] (gTup X.K 2 (gNs [3, 4])) (.tuple [.int ((acc m).getD i 0), .int (l.getD i 0)]) (setD (wipeD δ1 [3, 4]) [3, 4] [.int ((acc m).getD i 0), .int (l.getD i 0)]) := eg_tup (is := [3, 4]) (by decide) (by decide) rfl
          have e1 : ([(acc m).map PyData.int, l.map PyData.int].map (·.getD i PyData.none)) = [.int ((acc m).getD i 0), .int (l.getD i 0)] := by
            simp [List.getD_eq_getElem?_getD, List.getElem?_eq_getElem ha, List.getElem?_eq_getElem hb]
          refine ⟨_, .int ((acc (m + 1)).getD i 0), ?_, by
            show EvG X N_lj _ _ _ (.tuple ([(acc m).map PyData.int, l.map PyData.int].map (·.getD i PyData.none))) _
            rw [e1]; exact G, fun X' hK hM B' => ?_⟩
          · rw [List.getElem?_map, List.getElem?_eq_getElem hc, List.getD_eq_getElem?_getD, List.getElem?_eq_getElem hc]; rfl
          · rw [eacc, addL_get (alen m) hll hin]
            exact ee_add (ee_name B' (i := 3) rfl rfl) (ee_name B' (i := 4) rfl rfl)
        · refine hq _ _ ⟨eb.trans e1, q0.trans e1, by rw [List.length_set, List.length_set]; exact q1, ((s1.mono e1).clear 1 _).weak (fun i d e => ?_), p, xs, List.getElem?_set_self (by rw [List.length_set, q1]; decide), hp2, t⟩
          rcases i with _ | _ | _ | _ | _ | i <;> first | exact e | (cases e; done) | (simp at e; done)
    refine ⟨_, pss_cons (B.ps_set 1 (pe_op op_rep (pe_lst (pa_cons pe_int pa_nil)) pe_ev)) (pss_cons (ps_trs (st := stAt (defBody (topS 43)) 1)) (pss_one (ps_ret (pe_callTy call_tuple_of (B.gl (by decide +kernel)) m_tuple (by decide +kernel) (pa_cons (B.pv 1) pa_nil))))), ?_⟩
    have s0 : Sl X.K H (L2.start N_lj vs) δ0 := by
      have z := sl_start (K := X.K) (H := H) (vs := vs) (ds := [tL ls]) 4 tv
      unfold L2.start
      rw [tv.length]; exact z
    refine ⟨(show 1 ≤ sizeLine by decide), fun p0 hp0 => ?_⟩
    have e1 : Same H (upd H p0 (.lst [.int 0])) := same_new hp0
    refine ⟨δ0, .int n, (ee_len B m_len (ds := (ls.headD []).map .int) (ee_ix (ee_name B (i := 0) rfl rfl) ee_int (head_at h1))).cast (by rw [List.length_map, hn]), s0.mono e1, fun v H2 e2 t2 => ?_⟩
    refine ⟨p0, (n : Int), [.int 0], rfl, t2.int_inv, e2 _ _ upd_same, by omega, by omega, ?_, fun p hp => ?_⟩
    · show 1 * (n : Int).toNat ≤ sizeLine
      have : (n : Int).toNat = n := by simp
      rw [this, Nat.one_mul]
      exact Nat.le_trans h4 (by decide)
    · have e3 : Same H2 (upd H2 p (.lst (List.replicate (n : Int).toNat [V.int 0]).flatten)) := same_new hp
      refine ⟨_, _, hfor, ⟨e1.trans (e2.trans e3), by rw [List.length_set]; unfold L2.start; rw [List.length_append, List.length_map, List.length_replicate, tv.length]; rfl, ?_, p, _, List.getElem?_set_self (by unfold L2.start; rw [List.length_append, List.length_map, List.length_replicate, tv.length]; show 1 < 5; decide), upd_same, ?_⟩, fun σ' H' ⟨q1s, q1, q2, q3⟩ => ?_⟩
      · exact ((s0.mono (e1.trans (e2.trans e3))).clear 1 _).weak fun i d e => by
          rcases i with _ | _ | _ | _ | _ | i <;> first | exact e | (cases e; done) | (simp at e; done)
      · have key : ∀ (m : Nat) (H : Hp), TpAll X.K H (List.replicate m [V.int 0]).flatten ((List.replicate m (0 : Int)).map PyData.int) := fun m H => by
          induction m with
          | zero => exact .nil
          | succ m ih => exact .cons (.int 0) ih
        have : (n : Int).toNat = n := by simp
        rw [this]
        exact key n _
      · obtain ⟨p', xs, a, b, c⟩ := q3
        refine ⟨.ref p', a, p', xs, rfl, .inl ⟨.inl (.inl b), fun l hl' => ?_⟩⟩
        have ea : acc ls.length = sumL ls := by
          show (ls.take ls.length).foldl addL _ = ls.foldl addL _
          rw [List.take_length, hn]
        rw [ea] at c
        exact hQ _ _ (q1s.trans (same_new hl')) (tp_new hl' c)
end
end K53
end
section
set_option maxRecDepth 100000
set_option maxHeartbeats 4000000
/-! The law's presses: tap, stop, layers. -/
namespace K53
open PySem PySem.Spec PyProof.Rows L2
section
variable {X : Cx} {δ : Dl} {N : List Str} {sc : Scope} {k j n : Nat} {e a b c : Expr} {d : PyData} {ds es fs : List PyData} {pos p px : Pos} {K : PySem.W.Frag} {mg : Str → Option Value} {w : World} {u : Bool} {body rest : List Stmt}
theorem es_take (hc : EvT X δ c u) (hu : u = true) (h : EvSs X δ body (.rt d)) : EvSs X δ (.If c body [] pos :: rest) (.rt d) := by
  subst hu
  exact es_last (es_if hc (fun _ => h) fun z => nomatch z)
theorem et_pw (B : BX X N sc k) {q : Pr} {x : Str} (hx : SeqAt.shaped (.str x) = true) (h : EvE X δ a (.str q.str)) (hb : EvE X δ b (.str x)) : EvT X δ (.Compare a [.Eq] [b] pos) (decide (q.str = x)) :=
  et_cmp (cmp_eq B (sh_of (ok_prs q) (Nat.zero_le _)) hx (eqv_str q.str x)) h hb (nomark _)
theorem last_at {ls : List (List Int)} (h : ls ≠ []) : ∃ x, ls.drop (ls.length - 1) = [x] ∧ atI (ls.map tI) (-1) = some (tI x) := by
  have e := List.dropLast_concat_getLast h
  refine ⟨ls.getLast h, ?_, ?_⟩
  · conv => lhs; rw [← e]
    rw [List.drop_append]
    have : (ls.dropLast ++ [ls.getLast h]).length - 1 = ls.dropLast.length := by simp
    rw [this]; simp
  · conv => lhs; rw [← e]
    rw [List.map_append]
    exact atI_last _ _
theorem sc_lt : FnScope ["track", "mode", "layers"] ["track"] (defScope (topS 44)) := ⟨rfl, rfl, rfl, by decide +kernel, rfl, by decide +kernel, by decide +kernel⟩
theorem C_lawTapped (F : FunAt K mg "_law_tapped" (topS 44) ["track"]) (m_len : mg "len" = none) : Cal K mg "_law_tapped" 1 1 (spD K (fT tap Ok)) :=
  cal_data (k := 0) F sc_lt fT_len fun X hK hM B ds d h => by
    subst hK hM
    obtain ⟨t, ok, rfl, rfl⟩ := h
    have hplay : t.m = .play → ∃ n, LoopOk t n := fun e => ok.loop (by rw [e]; rfl)
    have hrec : t.m = .record → RecOk t := fun e => by
      rcases ok.not_loop (by rw [e]; rfl) with z | z
      · rw [z] at e; cases e
      · exact z
    obtain ⟨m, ls, us, p, w, pc, s, mu⟩ := t
    refine es_cons (es_unpack B [1, 2] (ee_sl (ee_name B (i := 0) rfl rfl) eo_none (eo_some ee_int)) (pgs_cons (B.pgn (i := 1) rfl (by decide +kernel)) (pgs_cons (B.pgn (i := 2) rfl (by decide +kernel)) pgs_nil)) (by decide) rfl) ?_
    refine es_cif (et_md B (m := m) .empty (ee_name B (i := 1) rfl rfl) ee_str) (fun c => es_fin (ee_cat (ee_tup (ea_cons ee_str (ea_cons (ee_tup (ea_cons (ee_tup ea_nil) ea_nil)) ea_nil))) (ee_sl (ee_name B (i := 0) rfl rfl) (eo_some ee_int) eo_none) ?_) ?_) fun c1 => ?_
    · exact Nat.le_of_ble_eq_true rfl
    · have e : m = .empty := of_decide_eq_true c
      subst e; rfl
    refine es_cif (et_md B (m := m) .record (ee_name B (i := 1) rfl rfl) ee_str) (fun c => es_fin (ee_if (et_lsn B (x := ls) [[]] (ee_name B (i := 2) rfl rfl) (ee_tup (ea_cons (ee_tup ea_nil) ea_nil))) (fun c3 => (ee_cat (ee_tup (ea_cons ee_str ea_nil)) (ee_sl (ee_name B (i := 0) rfl rfl) (eo_some ee_int) eo_none) ?_).cast ?_) (fun c3 => (ee_cat (ee_tup (ea_cons ee_str (ea_cons (ee_tup ea_nil) ea_nil))) (ee_sl (ee_name B (i := 0) rfl rfl) (eo_some ee_int) eo_none) ?_).cast ?_)) rfl) fun c2 => ?_
    · exact Nat.le_of_ble_eq_true rfl
    · have e : m = .record := of_decide_eq_true c
      subst e
      have hne : ¬ ls = [[]] := of_decide_eq_false (by simpa using c3)
      show _ = (closed ⟨.record, ls, us, p, w, pc, s, mu⟩ .play).d
      unfold closed; rw [if_neg hne]; rfl
    · exact Nat.le_of_ble_eq_true rfl
    · have e : m = .record := of_decide_eq_true c
      subst e
      have he : ls = [[]] := of_decide_eq_true (by simpa using c3)
      obtain ⟨cc, _, z⟩ := hrec rfl
      cases z
      show _ = (closed ⟨.record, [cc], [], 0, 1, 2, 1, false⟩ .play).d
      unfold closed; rw [if_pos he]; rfl
    refine es_cif (et_w (ew_and (et_md B (m := m) .play (ee_name B (i := 1) rfl rfl) ee_str) (fun _ => ew_and1 (et_gt (ee_len B m_len (ds := ls.map tI) (ee_name B (i := 2) rfl rfl)) ee_int)))) (fun c => es_fin (ee_name B (i := 0) rfl rfl) ?_) fun c3 => ?_
    · have h1 := (Bool.and_eq_true _ _ ▸ c : _ ∧ _)
      have e : m = .play := of_decide_eq_true h1.1
      subst e
      obtain ⟨n, L⟩ := hplay rfl
      have h2 := of_decide_eq_true h1.2
      rw [List.length_map] at h2
      have h4 : ls.length = 4 := by have := L.le; dsimp only at this; omega
      show _ = (tap ⟨.play, ls, us, p, w, pc, s, mu⟩).d
      unfold tap; dsimp only; rw [if_pos h4]
    refine es_cif (et_md B (m := m) .play (ee_name B (i := 1) rfl rfl) ee_str) (fun c => ?_) fun c4 => ?_
    · have e : m = .play := of_decide_eq_true c
      subst e
      obtain ⟨n, L⟩ := hplay rfl
      have hn := headD_length L.ne L.ll
      have h1 := L.ne
      have h2 := L.le
      dsimp only at hn h1 h2
      have h4 : ¬ ls.length = 4 := fun z => by
        rw [List.length_map, decide_eq_true (show (3 : Int) < ((ls.length : Nat) : Int) by omega)] at c3
        cases c3
      refine es_fin (ee_cat (ee_tup (ea_cons ee_str (ea_cons (ee_cat (ee_name B (i := 2) rfl rfl) (ee_tup (ea_cons (ee_rep (n := n) (ee_tup (ea_cons ee_int ea_nil)) ((ee_len B m_len (ee_ix (ee_name B (i := 2) rfl rfl) ee_int (head_at h1))).cast ?_) L.n1 L.n2) ea_nil)) ?_) (ea_cons (ee_tup ea_nil) ea_nil)))) (ee_sl (ee_name B (i := 0) rfl rfl) (eo_some ee_int) eo_none) ?_) ?_
      · rw [List.length_map, hn]
      · simp; omega
      · exact Nat.le_of_ble_eq_true rfl
      · show _ = (tap ⟨.play, ls, us, p, w, pc, s, mu⟩).d
        unfold tap; dsimp only; rw [if_neg h4, hn, tI_zeros, tL_snoc]; rfl
    · refine es_fin (ee_cat (ee_tup (ea_cons ee_str ea_nil)) (ee_sl (ee_name B (i := 0) rfl rfl) (eo_some ee_int) eo_none) (Nat.le_of_ble_eq_true rfl)) ?_
      cases m with
      | empty => exact absurd rfl (of_decide_eq_false c1)
      | record => exact absurd rfl (of_decide_eq_false c2)
      | play => exact absurd rfl (of_decide_eq_false c4)
      | dub => rfl
      | stop => rfl
theorem sc_ls : FnScope N_track ["track"] (defScope (topS 45)) := ⟨rfl, rfl, rfl, by decide +kernel, rfl, by decide +kernel, by decide +kernel⟩
theorem C_lawStopped (F : FunAt K mg "_law_stopped" (topS 45) ["track"]) : Cal K mg "_law_stopped" 1 1 (spD K (fT stp Ok)) :=
  cal_data (k := 0) F sc_ls fT_len fun X hK hM B ds d h => by
    subst hK hM
    obtain ⟨t, ok, rfl, rfl⟩ := h
    have hrec : t.m = .record → RecOk t := fun e => by
      rcases ok.not_loop (by rw [e]; rfl) with z | z
      · rw [z] at e; cases e
      · exact z
    obtain ⟨m, ls, us, p, w, pc, s, mu⟩ := t
    refine es_cif (et_w (ew_and (et_md B (m := m) .record (ee_ix (ee_name B (i := 0) rfl rfl) ee_int rfl) ee_str) (fun _ => ew_and1 (et_ls B (x := ls) [[]] (ee_ix (ee_name B (i := 0) rfl rfl) ee_int rfl) (ee_tup (ea_cons (ee_tup ea_nil) ea_nil)))))) (fun c => es_fin (ee_cat (ee_tup (ea_cons ee_str (ea_cons (ee_tup ea_nil) ea_nil))) (ee_sl (ee_name B (i := 0) rfl rfl) (eo_some ee_int) eo_none) ?_) ?_) fun c1 => ?_
    · exact Nat.le_of_ble_eq_true rfl
    · have h1 := (Bool.and_eq_true _ _ ▸ c : _ ∧ _)
      have e : m = .record := of_decide_eq_true h1.1
      subst e
      have he : ls = [[]] := of_decide_eq_true h1.2
      obtain ⟨cc, _, z⟩ := hrec rfl
      cases z
      show _ = (closed ⟨.record, [cc], [], 0, 1, 2, 1, false⟩ .stop).d
      unfold closed; rw [if_pos he]; rfl
    refine es_fin (ee_if (et_md B (m := m) .empty (ee_ix (ee_name B (i := 0) rfl rfl) ee_int rfl) ee_str) (fun c => (ee_name B (i := 0) rfl rfl).cast ?_) (fun c => (ee_cat (ee_cat (ee_cat (ee_tup (ea_cons ee_str ea_nil)) (ee_sl (ee_name B (i := 0) rfl rfl) (eo_some ee_int) (eo_some ee_int)) ?_) (ee_tup (ea_cons ee_int ea_nil)) ?_) (ee_sl (ee_name B (i := 0) rfl rfl) (eo_some ee_int) eo_none) ?_).cast ?_)) rfl
    · have e : m = .empty := of_decide_eq_true c
      subst e; rfl
    · exact Nat.le_of_ble_eq_true rfl
    · exact Nat.le_of_ble_eq_true rfl
    · exact Nat.le_of_ble_eq_true rfl
    · cases m with
      | empty => exact absurd rfl (of_decide_eq_false c)
      | record =>
        have hne : ¬ ls = [[]] := fun z => by rw [z] at c1; cases c1
        obtain ⟨cc, _, z⟩ := hrec rfl
        cases z
        show _ = (closed ⟨.record, [cc], [], 0, 1, 2, 1, false⟩ .stop).d
        unfold closed; rw [if_neg hne]; rfl
      | play => rfl
      | dub => rfl
      | stop => rfl
def fLayered : List PyData → PyData → Prop := fun ds d => ∃ (t : Trk) (q : Pr), Ok t ∧ t.m.loops = true ∧ (q = .undo ∨ q = .redo ∨ q = .join) ∧ ds = [t.d, .str q.str] ∧ d = (step t q).d
abbrev N_ly : List Str := ["track", "word", "mode", "layers", "undone"]
theorem sc_ly : FnScope N_ly ["track", "word"] (defScope (topS 46)) := ⟨rfl, rfl, rfl, by decide +kernel, rfl, by decide +kernel, by decide +kernel⟩
theorem C_lawLayered (F : FunAt K mg "_law_layered" (topS 46) ["track", "word"]) (C_joined : CalW w K mg "_law_joined" 1 1 (spD K fSum)) (m_len : mg "len" = none) : CalW w K mg "_law_layered" 2 2 (spD K fLayered) :=
  cal_dataW (k := 1) F sc_ly (fun ds d h => by obtain ⟨t, q, _, _, _, rfl, _⟩ := h; rfl) fun X hK hM hW B ds d h => by
    subst hK hM hW
    obtain ⟨t, q, ok, hm, hq, rfl, rfl⟩ := h
    refine ⟨.rt _, ?_, rfl⟩
    obtain ⟨n, L⟩ := ok.loop hm
    obtain ⟨m, ls, us, p, w, pc, s, mu⟩ := t
    obtain ⟨n1, n2, ll, lu, ne, le, p0, p1, st, db, hw, hpc, hs⟩ := L
    dsimp only at hm ll lu ne le p0 p1 st db hw hpc hs
    refine es_cons (es_unpack B [2, 3, 4] (ee_sl (ee_name B (i := 0) rfl rfl) eo_none (eo_some ee_int)) (pgs_cons (B.pgn (i := 2) rfl (by decide +kernel)) (pgs_cons (B.pgn (i := 3) rfl (by decide +kernel)) (pgs_cons (B.pgn (i := 4) rfl (by decide +kernel)) pgs_nil))) (by decide) rfl) ?_
    have hlsn : ls ≠ [] := fun z => by rw [z] at ne; simp at ne
    obtain ⟨x, hx1, hx2⟩ := last_at hlsn
    refine es_cif (et_w (ew_and (et_pw B (q := q) (x := "undo") (by decide +kernel) (ee_name B (i := 1) rfl rfl) ee_str) (fun _ => ew_and1 (et_gt (ee_len B m_len (ds := ls.map tI) (ee_name B (i := 3) rfl rfl)) ee_int)))) (fun c => ?_) fun c1 => ?_
    · have h1 := (Bool.and_eq_true _ _ ▸ c : _ ∧ _)
      have e : q = .undo := by
        have := of_decide_eq_true h1.1
        rcases hq with z | z | z <;> subst z <;> first | rfl | (exact absurd this (by decide +kernel))
      subst e
      have h2 := of_decide_eq_true h1.2
      rw [List.length_map] at h2
      refine es_fin (ee_cat (ee_tup (ea_cons (ee_if (d := .str (if m = .dub then Md.play else m).str) (et_md B (m := m) .dub (ee_name B (i := 2) rfl rfl) ee_str) (fun c => ee_str.cast ?_) (fun c => (ee_name B (i := 2) rfl rfl).cast ?_)) (ea_cons (ee_init (ls := ls) (ee_name B (i := 3) rfl rfl)) (ea_cons ((ee_cat (xs := us.map tI) (ys := [tI x]) (ee_name B (i := 4) rfl rfl) (ee_tup (ea_cons (ee_ix (ds := ls.map tI) (ee_name B (i := 3) rfl rfl) (ee_neg ee_int) hx2) ea_nil)) ?_).cast (tL_snoc us x)) ea_nil)))) (ee_sl (ee_name B (i := 0) rfl rfl) (eo_some ee_int) eo_none) ?_) ?_
      · have e : m = .dub := of_decide_eq_true c
        rw [if_pos e]; rfl
      · rw [if_neg (of_decide_eq_false c)]
      · rw [List.length_map]; show us.length + 1 ≤ 1000; omega
      · exact Nat.le_of_ble_eq_true rfl
      · show _ = (undo ⟨m, ls, us, p, w, pc, s, mu⟩).d
        unfold undo; dsimp only
        rw [if_pos (show m.loops = true ∧ 2 ≤ ls.length from ⟨hm, by omega⟩), hx1]; rfl
    refine es_cif (et_w (ew_and (et_pw B (q := q) (x := "redo") (by decide +kernel) (ee_name B (i := 1) rfl rfl) ee_str) (fun _ => ew_and1 (et_lsn B (x := us) [] (ee_name B (i := 4) rfl rfl) (ee_tup ea_nil))))) (fun c => ?_) fun c2 => ?_
    · have h1 := (Bool.and_eq_true _ _ ▸ c : _ ∧ _)
      have e : q = .redo := by
        have := of_decide_eq_true h1.1
        rcases hq with z | z | z <;> subst z <;> first | rfl | (exact absurd this (by decide +kernel))
      subst e
      have hus : us ≠ [] := of_decide_eq_false (by simpa using h1.2)
      obtain ⟨y, hy1, hy2⟩ := last_at hus
      have hr : m.rests = true := by
        cases m with
        | dub => exact absurd (db rfl).1 hus
        | play => rfl
        | stop => rfl
        | empty => cases hm
        | record => cases hm
      refine es_fin (ee_cat (ee_tup (ea_cons (ee_name B (i := 2) rfl rfl) (ea_cons ((ee_cat (xs := ls.map tI) (ys := [tI y]) (ee_name B (i := 3) rfl rfl) (ee_tup (ea_cons (ee_ix (ds := us.map tI) (ee_name B (i := 4) rfl rfl) (ee_neg ee_int) hy2) ea_nil)) ?_).cast (tL_snoc ls y)) (ea_cons (ee_init (ls := us) (ee_name B (i := 4) rfl rfl)) ea_nil)))) (ee_sl (ee_name B (i := 0) rfl rfl) (eo_some ee_int) eo_none) ?_) ?_
      · rw [List.length_map]; show ls.length + 1 ≤ 1000; omega
      · exact Nat.le_of_ble_eq_true rfl
      · show _ = (redo ⟨m, ls, us, p, w, pc, s, mu⟩).d
        unfold redo; dsimp only
        rw [if_pos (show m.rests = true ∧ us ≠ [] from ⟨hr, hus⟩), hy1]; rfl
    refine es_cif (et_w (ew_and (et_pw B (q := q) (x := "join") (by decide +kernel) (ee_name B (i := 1) rfl rfl) ee_str) (fun _ => ew_and (et_gt (ee_len B m_len (ds := ls.map tI) (ee_name B (i := 3) rfl rfl)) ee_int) (fun _ => ew_and1 (et_mdn B (m := m) .dub (ee_name B (i := 2) rfl rfl) ee_str))))) (fun c => ?_) fun c3 => ?_
    · have h1 := (Bool.and_eq_true _ _ ▸ c : _ ∧ _)
      have h2 := (Bool.and_eq_true _ _ ▸ h1.2 : _ ∧ _)
      have e : q = .join := by
        have := of_decide_eq_true h1.1
        rcases hq with z | z | z <;> subst z <;> first | rfl | (exact absurd this (by decide +kernel))
      subst e
      have h3 := of_decide_eq_true h2.1
      rw [List.length_map] at h3
      have hr : m.rests = true := by
        cases m with
        | dub => cases h2.2
        | play => rfl
        | stop => rfl
        | empty => cases hm
        | record => cases hm
      refine es_fin (ee_cat (ee_tup (ea_cons (ee_name B (i := 2) rfl rfl) (ea_cons (ee_tup (ea_cons (ee_callW B C_joined (by decide) (by decide +kernel) (ea_cons (ee_name B (i := 3) rfl rfl) ea_nil) ⟨ls, n, ne, by omega, n1, n2, ll, rfl, rfl⟩) ea_nil)) (ea_cons (ee_tup ea_nil) ea_nil)))) (ee_sl (ee_name B (i := 0) rfl rfl) (eo_some ee_int) eo_none) (Nat.le_of_ble_eq_true rfl)) ?_
      show _ = (join ⟨m, ls, us, p, w, pc, s, mu⟩).d
      unfold join; dsimp only
      rw [if_pos (show m.rests = true ∧ 2 ≤ ls.length from ⟨hr, by omega⟩)]; rfl
    · refine es_fin (ee_name B (i := 0) rfl rfl) ?_
      rcases hq with z | z | z <;> subst z
      · show _ = (undo ⟨m, ls, us, p, w, pc, s, mu⟩).d
        unfold undo; dsimp only
        rw [if_neg]
        rintro ⟨_, h2⟩
        rw [List.length_map, decide_eq_true (show (1 : Int) < ((ls.length : Nat) : Int) by omega)] at c1
        exact absurd c1 (by decide +kernel)
      · show _ = (redo ⟨m, ls, us, p, w, pc, s, mu⟩).d
        unfold redo; dsimp only
        rw [if_neg]
        rintro ⟨_, h2⟩
        rw [decide_eq_false h2] at c2
        exact absurd c2 (by decide +kernel)
      · show _ = (join ⟨m, ls, us, p, w, pc, s, mu⟩).d
        unfold join; dsimp only
        rw [if_neg]
        rintro ⟨h1, h2⟩
        have hd : ¬ m = .dub := fun z => by rw [z] at h1; cases h1
        rw [List.length_map, decide_eq_true (show (1 : Int) < ((ls.length : Nat) : Int) by omega), decide_eq_false hd] at c3
        exact absurd c3 (by decide +kernel)
end
end K53
end
section
set_option maxRecDepth 100000
set_option maxHeartbeats 4000000
/-! _law_led. -/
namespace K53
open PySem PySem.Spec PyProof.Rows L2
section
variable {X : Cx} {δ : Dl} {N : List Str} {sc : Scope} {k j n : Nat} {e a b c : Expr} {d : PyData} {ds es fs : List PyData} {pos p p1 px : Pos} {K : PySem.W.Frag} {mg : Str → Option Value} {w : World} {u : Bool} {body rest : List Stmt}
/-- {"a": i, "b": j, "c": k}[word] -/
theorem ee_tab3 (B : BX X N sc k) {x1 x2 x3 x : Str} {i1 i2 i3 i : Int} {j1 j2 j3 m1 m2 m3 : Nat} {q1 q2 q3 r1 r2 r3 : Pos} (hx : EvE X δ e (.str x)) (hv : valV (mergeK [] [(.inr x1, V.int i1), (.inr x2, V.int i2), (.inr x3, V.int i3)]) (.inr x : Key) = some (V.int i)) (hs : NoSl e) :
    EvE X δ (.Subscript (.Dict [some (.Constant (.str x1) j1 q1), some (.Constant (.str x2) j2 q2), some (.Constant (.str x3) j3 q3)] [.Constant (.int i1) m1 r1, .Constant (.int i2) m2 r2, .Constant (.int i3) m3 r3] p1) e pos) (.int i) :=
  ⟨fun pins s σ H Q I hS q => by
    refine (pe_dget (hu_of B.room) (pe_disp (pps_cons pe_str pe_int (pps_cons pe_str pe_int (pps_cons pe_str pe_int pps_nil))) rfl rfl (by simp) (Nat.le_of_ble_eq_true rfl)) (pe_ev (e := e)) hs).run pins s σ H Q I ?_
    intro p hp
    refine ⟨upd_same, [(.inr x1, V.int i1), (.inr x2, V.int i2), (.inr x3, V.int i3)], rfl, Nat.le_of_ble_eq_true rfl, ?_⟩
    have e1 : Same H (upd (upd H p (.dK [])) p (.dK (mergeK [] [(.inr x1, V.int i1), (.inr x2, V.int i2), (.inr x3, V.int i3)]))) := by rw [upd_upd]; exact same_new hp
    refine ⟨δ, _, hx, hS.mono e1, fun v H2 e2 t2 => ⟨p, V.int i, rfl, .inl ⟨_, .inr x, .inl (e2 _ _ upd_same), t2.str_inv, hv.symm⟩, q _ _ (e1.trans e2) (.int i)⟩⟩⟩
def fLed : List PyData → PyData → Prop := fun ds d => ∃ (t : Trk) (q : Pr), Ok t ∧ ds = [t.d, q.d] ∧ d = (step t q).d
def isUrj : Pr → Bool
  | .undo => true
  | .redo => true
  | .join => true
  | _ => false
theorem any_urj (q : Pr) : ([PyData.str "undo", .str "redo", .str "join"].any fun e => PyData.eqv e (.str q.str)) = isUrj q := by cases q <;> decide +kernel
abbrev N_led : List Str := ["track", "press", "word", "at", "other"]
theorem sc_led : FnScope N_led ["track", "press"] (defScope (topS 47)) := ⟨rfl, rfl, rfl, by decide +kernel, rfl, by decide +kernel, by decide +kernel⟩
theorem C_lawLed (F : FunAt K mg "_law_led" (topS 47) ["track", "press"]) (C_tapped : Cal K mg "_law_tapped" 1 1 (spD K (fT tap Ok))) (C_stopped : Cal K mg "_law_stopped" 1 1 (spD K (fT stp Ok))) (C_layered : CalW w K mg "_law_layered" 2 2 (spD K fLayered)) : CalW w K mg "_law_led" 2 3 (spD K fLed) :=
  cal_dataW (k := 2) F sc_led (fun ds d h => by obtain ⟨t, q, _, rfl, _⟩ := h; rfl) fun X hK hM hW B ds d h => by
    subst hK hM hW
    obtain ⟨t, q, ok, rfl, rfl⟩ := h
    refine ⟨.rt _, ?_, rfl⟩
    have h0 : ∃ r, q.fs = .str q.str :: .int 0 :: r ∧ (q.isPace = true → r = [.int q.pace]) := by
      cases hp : q.isPace with
      | true =>
        obtain ⟨e1, e2, _⟩ := pr_pace hp
        exact ⟨_, by rw [e1, e2], fun _ => rfl⟩
      | false =>
        exact ⟨_, (pr_deed hp).1, fun z => nomatch z⟩
    obtain ⟨r, hr, hr2⟩ := h0
    have ed : q.d = .tuple (.str q.str :: .int 0 :: r) := congrArg PyData.tuple hr
    rw [ed]
    refine es_cons (es_set B (i := 2) (d := .str q.str) (ee_ix (ee_name B (i := 1) rfl rfl) ee_int (atI_nat (j := 0) rfl))) ?_
    refine es_cif (et_pw B (q := q) (x := "clear") (by decide +kernel) (ee_name B (i := 2) rfl rfl) ee_str) (fun c => es_fin (ee_tup (ea_cons ee_str (ea_cons (ee_tup ea_nil) (ea_cons (ee_tup ea_nil) (ea_cons ee_int (ea_cons ee_int (ea_cons ee_int (ea_cons ee_int (ea_cons ee_bool ea_nil))))))))) ?_) fun c1 => ?_
    · have hq := of_decide_eq_true c
      cases q <;> first | rfl | (exact absurd hq (by decide +kernel))
    refine es_cif (et_pw B (q := q) (x := "tap") (by decide +kernel) (ee_name B (i := 2) rfl rfl) ee_str) (fun c => es_fin (ee_call B C_tapped (by decide) (by decide +kernel) (ea_cons (ee_name B (i := 0) rfl rfl) ea_nil) ⟨t, ok, rfl, rfl⟩) ?_) fun c2 => ?_
    · have hq := of_decide_eq_true c
      cases q <;> first | rfl | (exact absurd hq (by decide +kernel))
    refine es_cif (et_pw B (q := q) (x := "stop") (by decide +kernel) (ee_name B (i := 2) rfl rfl) ee_str) (fun c => es_fin (ee_call B C_stopped (by decide) (by decide +kernel) (ea_cons (ee_name B (i := 0) rfl rfl) ea_nil) ⟨t, ok, rfl, rfl⟩) ?_) fun c3 => ?_
    · have hq := of_decide_eq_true c
      cases q <;> first | rfl | (exact absurd hq (by decide +kernel))
    have n1 : q ≠ .clear := fun z => by rw [z] at c1; exact absurd c1 (by decide +kernel)
    have n2 : q ≠ .tap := fun z => by rw [z] at c2; exact absurd c2 (by decide +kernel)
    have n3 : q ≠ .stop := fun z => by rw [z] at c3; exact absurd c3 (by decide +kernel)
    refine es_cif (et_nloops (m := t.m) (ee_ix (ds := t.fs) (ee_name B (i := 0) rfl rfl) ee_int rfl) (ee_tup (ds := looping3) (ea_cons ee_str (ea_cons ee_str (ea_cons ee_str ea_nil))))) (fun c => es_fin (ee_name B (i := 0) rfl rfl) ?_) fun c4 => ?_
    · have hl : t.m.loops = false := by simpa using c
      have hr : t.m.rests = false := by
        cases hm : t.m <;> rw [hm] at hl <;> first | rfl | cases hl
      have nl : ¬ t.m.loops = true := by rw [hl]; exact Bool.noConfusion
      have nr : ¬ t.m.rests = true := by rw [hr]; exact Bool.noConfusion
      have s1 : undo t = t := if_neg fun z => nl z.1
      have s2 : redo t = t := if_neg fun z => nr z.1
      have s3 : join t = t := if_neg fun z => nr z.1
      have s4 : turn t = t := if_neg nl
      have s5 : flip t = t := if_neg nl
      have s6 : mute t = t := if_neg nl
      have s7 : ∀ v, K53.pace t v = t := fun v => if_neg nl
      cases q
      · exact absurd rfl n1
      · exact congrArg Trk.d s5.symm
      · exact congrArg Trk.d s3.symm
      · exact congrArg Trk.d s6.symm
      · exact congrArg Trk.d (s7 _).symm
      · exact congrArg Trk.d (s7 _).symm
      · exact congrArg Trk.d (s7 _).symm
      · exact congrArg Trk.d s2.symm
      · exact absurd rfl n3
      · exact absurd rfl n2
      · exact congrArg Trk.d s4.symm
      · exact congrArg Trk.d s1.symm
    have hl : t.m.loops = true := by simpa using c4
    refine es_cif (et_pw B (q := q) (x := "pace") (by decide +kernel) (ee_name B (i := 2) rfl rfl) ee_str) (fun c => ?_) fun c5 => ?_
    · have hp : q.isPace = true := by
        have hq := of_decide_eq_true c
        cases q <;> first | rfl | (exact absurd hq (by decide +kernel))
      have hr3 := hr2 hp
      subst hr3
      refine es_fin (ee_cat (ee_cat (ee_sl (ds := t.fs) (ee_name B (i := 0) rfl rfl) eo_none (eo_some ee_int)) (ee_tup (ea_cons (ee_ix (ee_name B (i := 1) rfl rfl) ee_int (atI_nat (j := 2) rfl)) ea_nil)) (Nat.le_of_ble_eq_true rfl)) (ee_sl (ds := t.fs) (ee_name B (i := 0) rfl rfl) (eo_some ee_int) eo_none) (Nat.le_of_ble_eq_true rfl)) ?_
      rw [(pr_pace hp).2.2.2]
      show _ = (K53.pace t q.pace).d
      unfold K53.pace; rw [if_pos hl]; rfl
    refine es_cif (et_cmp (cmp_in (d := .str q.str) (ds := [PyData.str "undo", .str "redo", .str "join"]) rfl rfl (any_urj q)) (ee_name B (i := 2) rfl rfl) (ee_tup (ea_cons ee_str (ea_cons ee_str (ea_cons ee_str ea_nil)))) rfl) (fun c => es_fin (ee_callW B C_layered (by decide) (by decide +kernel) (ea_cons (ee_name B (i := 0) rfl rfl) (ea_cons (ee_name B (i := 2) rfl rfl) ea_nil)) ⟨t, q, ok, hl, ?_, rfl, rfl⟩) rfl) fun c6 => ?_
    · cases q <;> first | (cases c; done) | exact .inl rfl | exact .inr (.inl rfl) | exact .inr (.inr rfl)
    obtain ⟨m, ls, us, p, wy, pc, s, mu⟩ := t
    have hq : q = .turn ∨ q = .flip ∨ q = .mute := by
      cases q <;> first | exact .inl rfl | exact .inr (.inl rfl) | exact .inr (.inr rfl) | exact absurd rfl n1 | exact absurd rfl n2 | exact absurd rfl n3 | (cases c6; done) | exact absurd c5 (by decide +kernel)
    rcases hq with z | z | z <;> subst z
    · refine es_cons (es_set B (i := 3) (ee_tab3 B (i := 4) (ee_name B (i := 2) rfl rfl) rfl (fun _ _ => rfl))) ?_
      refine es_cons (es_set B (i := 4) (ee_if (d := .int (0 - wy)) (et_eqI B (i := 4) (j := 7) (ee_name B (i := 3) rfl rfl) ee_int) (fun c => absurd c (by decide)) fun _ => ee_sub ee_int (ee_ix (ds := Trk.fs ⟨m, ls, us, p, wy, pc, s, mu⟩) (i := 4) (ee_name B (i := 0) rfl rfl) (ee_name B (i := 3) rfl rfl) rfl))) ?_
      refine es_fin (ee_cat (ee_cat (ee_sl (ds := Trk.fs ⟨m, ls, us, p, wy, pc, s, mu⟩) (ee_name B (i := 0) rfl rfl) eo_none (eo_some (i := 4) (ee_name B (i := 3) rfl rfl))) (ee_tup (ea_cons (ee_name B (i := 4) rfl rfl) ea_nil)) (Nat.le_of_ble_eq_true rfl)) (ee_sl (ds := Trk.fs ⟨m, ls, us, p, wy, pc, s, mu⟩) (ee_name B (i := 0) rfl rfl) (eo_some (i := 5) ((ee_add (ee_name B (i := 3) rfl rfl) ee_int).cast rfl)) eo_none) (Nat.le_of_ble_eq_true rfl)) ?_
      show _ = (turn ⟨m, ls, us, p, wy, pc, s, mu⟩).d
      unfold turn; rw [if_pos hl, Int.zero_sub]; rfl
    · refine es_cons (es_set B (i := 3) (ee_tab3 B (i := 6) (ee_name B (i := 2) rfl rfl) rfl (fun _ _ => rfl))) ?_
      refine es_cons (es_set B (i := 4) (ee_if (d := .int (0 - s)) (et_eqI B (i := 6) (j := 7) (ee_name B (i := 3) rfl rfl) ee_int) (fun c => absurd c (by decide)) fun _ => ee_sub ee_int (ee_ix (ds := Trk.fs ⟨m, ls, us, p, wy, pc, s, mu⟩) (i := 6) (ee_name B (i := 0) rfl rfl) (ee_name B (i := 3) rfl rfl) rfl))) ?_
      refine es_fin (ee_cat (ee_cat (ee_sl (ds := Trk.fs ⟨m, ls, us, p, wy, pc, s, mu⟩) (ee_name B (i := 0) rfl rfl) eo_none (eo_some (i := 6) (ee_name B (i := 3) rfl rfl))) (ee_tup (ea_cons (ee_name B (i := 4) rfl rfl) ea_nil)) (Nat.le_of_ble_eq_true rfl)) (ee_sl (ds := Trk.fs ⟨m, ls, us, p, wy, pc, s, mu⟩) (ee_name B (i := 0) rfl rfl) (eo_some (i := 7) ((ee_add (ee_name B (i := 3) rfl rfl) ee_int).cast rfl)) eo_none) (Nat.le_of_ble_eq_true rfl)) ?_
      show _ = (flip ⟨m, ls, us, p, wy, pc, s, mu⟩).d
      unfold flip; rw [if_pos hl, Int.zero_sub]; rfl
    · refine es_cons (es_set B (i := 3) (ee_tab3 B (i := 7) (ee_name B (i := 2) rfl rfl) rfl (fun _ _ => rfl))) ?_
      refine es_cons (es_set B (i := 4) (ee_if (d := .bool (!mu)) (et_eqI B (i := 7) (j := 7) (ee_name B (i := 3) rfl rfl) ee_int) (fun _ => ee_not (u := mu) (ee_ix (ds := Trk.fs ⟨m, ls, us, p, wy, pc, s, mu⟩) (ee_name B (i := 0) rfl rfl) ee_int rfl)) fun c => absurd c (by decide))) ?_
      refine es_fin (ee_cat (ee_cat (ee_sl (ds := Trk.fs ⟨m, ls, us, p, wy, pc, s, mu⟩) (ee_name B (i := 0) rfl rfl) eo_none (eo_some (i := 7) (ee_name B (i := 3) rfl rfl))) (ee_tup (ea_cons (ee_name B (i := 4) rfl rfl) ea_nil)) (Nat.le_of_ble_eq_true rfl)) (ee_sl (ds := Trk.fs ⟨m, ls, us, p, wy, pc, s, mu⟩) (ee_name B (i := 0) rfl rfl) (eo_some (i := 8) ((ee_add (ee_name B (i := 3) rfl rfl) ee_int).cast rfl)) eo_none) (Nat.le_of_ble_eq_true rfl)) ?_
      show _ = (mute ⟨m, ls, us, p, wy, pc, s, mu⟩).d
      unfold mute; rw [if_pos hl]; rfl
end
end K53
end
section
set_option maxRecDepth 100000
set_option maxHeartbeats 4000000
/-! The drawn numbers: _law_next. -/
namespace K53
open PySem PySem.Spec PyProof.Rows L2
def rngD (c l : Addr) (k : Int) : HO := .dK [(.inr "cells", .ref c), (.inr "left", .ref l), (.inr "at", .int k)]
structure Rng (m cq l : Addr) (n : Nat) (H : Hp) : Prop where
  ex : ∃ (cs xs : List Int) (k : Nat), H m = some (rngD cq l k) ∧ H cq = some (.lst (cs.map V.int)) ∧ H l = some (.lst (xs.map V.int)) ∧ cq ≠ l ∧ k ≤ n
/-- from H0 to H the draws touch m and l0 alone -/
structure Stp (m l0 l : Addr) (H0 H : Hp) : Prop where
  keep : ∀ b o, H0 b = some o → b ≠ m → b ≠ l0 → H b = some o
  new : l = l0 ∨ H0 l = none
  liv : ∃ o, H l0 = some o
  atm : ∃ o, H m = some o
section
variable {m cq l0 l l' q : Addr} {H0 H H' : Hp} {n : Nat} {o : HO}
theorem Rng.stp (h : Rng m cq l n H) : Stp m l l H H := by
  obtain ⟨cs, xs, k, h1, h2, h3, _⟩ := h.ex
  exact ⟨fun b o e _ _ => e, .inl rfl, ⟨_, h3⟩, ⟨_, h1⟩⟩
theorem Rng.mono (h : Rng m cq l n H) {n' : Nat} (e : n ≤ n') : Rng m cq l n' H := by
  obtain ⟨cs, xs, k, h1, h2, h3, h4, h5⟩ := h.ex
  exact ⟨cs, xs, k, h1, h2, h3, h4, Nat.le_trans h5 e⟩
theorem Rng.same (h : Rng m cq l n H) (e : Same H H') : Rng m cq l n H' := by
  obtain ⟨cs, xs, k, h1, h2, h3, h4, h5⟩ := h.ex
  exact ⟨cs, xs, k, e _ _ h1, e _ _ h2, e _ _ h3, h4, h5⟩
theorem Stp.same (s : Stp m l0 l H0 H) (e : Same H H') : Stp m l0 l H0 H' :=
  ⟨fun b o a n1 n2 => e _ _ (s.keep b o a n1 n2), s.new, let ⟨o, a⟩ := s.liv; ⟨o, e _ _ a⟩, let ⟨o, a⟩ := s.atm; ⟨o, e _ _ a⟩⟩
theorem Stp.fresh (s : Stp m l0 l H0 H) (h : H q = none) : H0 q = none := by
  cases e : H0 q with
  | none => rfl
  | some o =>
    exfalso
    by_cases h1 : q = m
    · subst h1; obtain ⟨o', a⟩ := s.atm; rw [h] at a; cases a
    · by_cases h2 : q = l0
      · subst h2; obtain ⟨o', a⟩ := s.liv; rw [h] at a; cases a
      · have := s.keep q o e h1 h2; rw [h] at this; cases this
theorem Stp.putm (s : Stp m l0 l H0 H) : Stp m l0 l H0 (upd H m o) :=
  ⟨fun b u a n1 n2 => by rw [upd_ne n1]; exact s.keep b u a n1 n2, s.new, by
    by_cases e : l0 = m
    · subst e; exact ⟨o, upd_same⟩
    · obtain ⟨u, a⟩ := s.liv; exact ⟨u, by rw [upd_ne e]; exact a⟩, ⟨o, upd_same⟩⟩
theorem Stp.putl (s : Stp m l0 l H0 H) : Stp m l0 l H0 (upd H l o) :=
  ⟨fun b u a n1 n2 => by
    have n3 : b ≠ l := by
      rcases s.new with e | e
      · rw [e]; exact n2
      · exact fun z => by rw [z, e] at a; cases a
    rw [upd_ne n3]; exact s.keep b u a n1 n2, s.new, by
    by_cases e : l0 = l
    · subst e; exact ⟨o, upd_same⟩
    · obtain ⟨u, a⟩ := s.liv; exact ⟨u, by rw [upd_ne e]; exact a⟩, by
    by_cases e : m = l
    · subst e; exact ⟨o, upd_same⟩
    · obtain ⟨u, a⟩ := s.atm; exact ⟨u, by rw [upd_ne e]; exact a⟩⟩
theorem Stp.lefts (s : Stp m l0 l H0 H) (h : H0 l' = none) : Stp m l0 l' H0 H := ⟨s.keep, .inr h, s.liv, s.atm⟩
theorem Stp.trans {l1 l2 : Addr} {H1 H2 : Hp} (a : Stp m l0 l1 H0 H1) (b : Stp m l1 l2 H1 H2) : Stp m l0 l2 H0 H2 := by
  refine ⟨fun x o e n1 n2 => ?_, ?_, ?_, b.atm⟩
  · have n3 : x ≠ l1 := by
      rcases a.new with z | z
      · rw [z]; exact n2
      · exact fun y => by rw [y, z] at e; cases e
    exact b.keep x o (a.keep x o e n1 n2) n1 n3
  · rcases b.new with z | z
    · rw [z]; exact a.new
    · exact .inr (a.fresh z)
  · obtain ⟨o, h⟩ := a.liv
    by_cases h1 : l0 = m
    · subst h1; exact b.atm
    · by_cases h2 : l0 = l1
      · subst h2; exact b.liv
      · exact ⟨o, b.keep _ _ h h1 h2⟩
/-- what the draws leave of tuples -/
theorem Stp.kp (s : Stp m l0 l H0 H) (r : Rng m cq l0 n H0) : Kp H0 H := fun a => by
  obtain ⟨cs, xs, k, h1, h2, h3, _⟩ := r.ex
  refine ⟨fun ys e => s.keep a _ e (fun z => by rw [z, h1] at e; cases e) (fun z => by rw [z, h3] at e; cases e), fun ob u e => s.keep a _ e (fun z => by rw [z, h1] at e; cases e) (fun z => by rw [z, h3] at e; cases e)⟩
end
section
variable {X : Cx} {δ : Dl} {N : List Str} {sc : Scope} {k j : Nat} {e a b c : Expr} {d : PyData} {i i2 : Int} {pos p px : Pos} {K : PySem.W.Frag} {mg : Str → Option Value} {w : World}
theorem ee_int1 (B : BX X N sc k) (hm : X.mg "int" = none) (h : EvE X δ e (.int i)) (hg : sc.names.lookup ("int" : Str) = some .globalImplicit := by decide +kernel)
    (he : starEach [e] X.env = (false, eval e X.env) :: starEach [] X.env := by rfl) (hpl : (backTo pos (starEach [] X.env)).any (·.1) = false := by rfl) : EvE X δ (.Call (.Name "int" p) [e] [] pos) (.int i) :=
  ⟨fun pins s σ H Q I hs q => (pe_callTy call_int1 (B.gl hg) hm (by decide +kernel) pa_ev (he := he) (hpl := hpl)).run pins s σ H Q I
    ⟨δ, [_], ea_cons h ea_nil he, hs, fun vs H1 e1 t1 => by
      cases t1 with
      | cons t1 t2 =>
        cases t2
        exact .inl ⟨i, by rw [t1.int_inv], q _ _ e1 (.int i)⟩⟩⟩
theorem ee_mod (ha : EvE X δ a (.int i)) (hb : EvE X δ b (.int i2)) (h : 0 < i2) : EvE X δ (.BinOp a .Mod b pos) (.int (i % i2)) :=
  ⟨fun pins s σ H Q I hs q => (pe_op op_mod pe_ev pe_ev).run pins s σ H Q I
    ⟨δ, _, ha, hs, fun v H1 e1 t1 => ⟨δ, _, hb, hs.mono e1, fun w H2 e2 t2 => ⟨i, i2, t1.int_inv, t2.int_inv, h, q _ _ (e1.trans e2) (.int _)⟩⟩⟩⟩
theorem ee_fdiv (ha : EvE X δ a (.int i)) (hb : EvE X δ b (.int i2)) (h : 0 < i2 ∧ i2 < 1073741824) : EvE X δ (.BinOp a .FloorDiv b pos) (.int (i / i2)) :=
  ⟨fun pins s σ H Q I hs q => (pe_op op_fdiv pe_ev pe_ev).run pins s σ H Q I
    ⟨δ, _, ha, hs, fun v H1 e1 t1 => ⟨δ, _, hb, hs.mono e1, fun w H2 e2 t2 => ⟨i, i2, t1.int_inv, t2.int_inv, h, q _ _ (e1.trans e2) (.int _)⟩⟩⟩⟩
/-- m['..'] -/
theorem pe_key (B : BX X N sc k) (i : Nat) {x key : Str} {jj : Nat} {q1 : Pos} (hN : N[i]? = some x) (hv : visB sc x = true) (h1 : (x == ("__debug__" : Str)) = false := by decide) (h2 : (x == ("__classdict__" : Str)) = false := by decide) : PE X (.Subscript (.Name x px) (.Constant (.str key) jj q1) pos) (tDGet (tVar i) (tC (.str key))) :=
  pe_dget (hu_of B.room) (B.pv i hN hv h1 h2) pe_str (fun _ _ => rfl)

/-- m['..'] read -/
theorem key_at {H : Hp} {m cc l : Addr} {kk : Int} {key : Str} {v : V} (h : H m = some (rngD cc l kk)) (hv : valV [(.inr "cells", V.ref cc), (.inr "left", .ref l), (.inr "at", .int kk)] (.inr key : Key) = some v) : DGet H m (.str key) (some v) := .inl ⟨_, .inr key, .inl h, rfl, hv.symm⟩
abbrev N_ln : List Str := ["m", "total", "rest", "k", "cell", "mixed"]
theorem sc_ln : FnScope N_ln ["m", "total"] (defScope (topS 41)) := ⟨rfl, rfl, rfl, by decide +kernel, rfl, by decide +kernel, by decide +kernel⟩
/-- the draws' promise -/
def spNext (K : PySem.W.Frag) : Sp := fun vs H Q _ => ∃ (m cq l : Addr) (total : Int) (n : Nat), vs = [.ref m, .int total] ∧ 1 ≤ total ∧ total ≤ 100 ∧ n ≤ 10000 ∧ Rng m cq l n H ∧ ∀ (r : Int) (l' : Addr) (H' : Hp), 0 ≤ r → r < total → Stp m l l' H H' → Rng m cq l' (n + 1) H' → Q (.int r) H'
structure Nx (m cq l0 : Addr) (total : Int) (n : Nat) (H0 : Hp) (σ : L2.St) (H : Hp) : Prop where
  len : σ.length = 6
  r0 : σ[0]? = some (some (.ref m))
  r1 : σ[1]? = some (some (.int total))
  ex : ∃ l, Stp m l0 l H0 H ∧ Rng m cq l n H
theorem eqv_ints (xs : List Int) : PyData.eqv (.list (xs.map PyData.int)) (.list []) = decide (xs = []) := by cases xs <;> rfl
theorem dpall_ints {H : Hp} : ∀ xs : List Int, DpAll K H (xs.map V.int) (xs.map PyData.int)
  | [] => .nil
  | x :: xs => .cons (.int x) (dpall_ints xs)
theorem sh_ints (xs : List Int) : SeqAt.shaped (.list (xs.map PyData.int)) = true := sh_of (show PyData.canLayAll0 _ = true from lay_ints xs) (by
  show PyData.depthAll _ + 1 ≤ 64
  rw [dep_ints]; decide)
theorem tr_nextWhile (B : BX X N_ln (defScope (topS 41)) k) {m cq l0 : Addr} {total : Int} {n : Nat} {H0 : Hp} : TrS X (stAt (defBody (topS 41)) 0) (Nx m cq l0 total n H0) (Nx m cq l0 total n H0) := by
  refine TrS.of (ps_while B.own (⟨fun pins s σ H Q I h => (pw_and (pt_cmpR (op_neD B.room.units) (pe_key B 0 rfl (by decide +kernel)) (pe_lst pa_nil) (nomark _)) (pw_and1 (pt_cmpR (op_eqD B.room.units) (pe_ix ix_list (pe_key B 0 rfl (by decide +kernel)) pe_int (fun _ _ => rfl)) pe_int (nomark _)))).run _ pins s σ H Q I h⟩ : PT X _ _)
    (pss_one (ps_dput (hu_of B.room) (B.pv 0) pe_str (pe_slice sl_list (pe_key B 0 rfl (by decide +kernel)) (po_some pe_int) po_none) rfl))) fun σ H D hp hq => ?_
  refine ⟨fun μ σ H => Nx m cq l0 total n H0 σ H ∧ ∃ (l : Addr) (cs xs : List Int) (kk : Nat), Stp m l0 l H0 H ∧ H m = some (rngD cq l kk) ∧ H cq = some (.lst (cs.map V.int)) ∧ H l = some (.lst (xs.map V.int)) ∧ cq ≠ l ∧ kk ≤ n ∧ μ = xs.length, ?_, ?_⟩
  · obtain ⟨l, s1, r1⟩ := hp.ex
    obtain ⟨cs, xs, kk, h1, h2, h3, h4, h5⟩ := r1.ex
    exact ⟨_, hp, l, cs, xs, kk, s1, h1, h2, h3, h4, h5, rfl⟩
  · rintro μ σ H ⟨nx, l, cs, xs, kk, st, h1, h2, h3, h4, h5, rfl⟩
    refine ⟨.ref m, nx.r0, m, .ref l, rfl, key_at h1 rfl, Nat.zero_le _, fun p hp0 => ?_⟩
    have e1 : Same H (upd H p (.lst [])) := same_new hp0
    have nx1 : ∀ {H' : Hp}, Stp m l0 l H0 H' → Rng m cq l n H' → Nx m cq l0 total n H0 σ H' := fun a b => ⟨nx.len, nx.r0, nx.r1, l, a, b⟩
    have rg : Rng m cq l n H := ⟨cs, xs, kk, h1, h2, h3, h4, h5⟩
    refine ⟨_, _, .lst (.inl (.inl (e1 _ _ h3))) (dpall_ints xs), .lst (ds := []) (.inl (.inl upd_same)) .nil, sh_ints xs, rfl, ?_⟩
    rw [eqv_ints]
    refine ⟨_, rfl, ?_⟩
    cases xs with
    | nil => exact iteF (iteF (hq _ _ (nx1 (st.same e1) (rg.same e1))))
    | cons x xs =>
      refine iteT ?_
      refine ⟨.ref m, nx.r0, m, .ref l, rfl, key_at (e1 _ _ h1) rfl, l, (x :: xs).map V.int, 0, V.int x, rfl, rfl, .inl (.inl (e1 _ _ h3)), atI_nat (j := 0) rfl, ?_⟩
      refine ⟨_, _, .int x, .int 0, rfl, rfl, ?_⟩
      rw [eqv_int]
      refine ⟨_, rfl, ?_⟩
      by_cases c : x = 0
      · rw [decide_eq_true c]
        refine iteT ⟨fun σ' H' => Nx m cq l0 total n H0 σ' H' ∧ ∃ (l : Addr) (cs ys : List Int) (kk : Nat), Stp m l0 l H0 H' ∧ H' m = some (rngD cq l kk) ∧ H' cq = some (.lst (cs.map V.int)) ∧ H' l = some (.lst (ys.map V.int)) ∧ cq ≠ l ∧ kk ≤ n ∧ ys.length < (x :: xs).length, fun σ' H' ⟨q1, l, cs, ys, kk, q2, q3, q4, q5, q6, q7, q8⟩ => ⟨ys.length, q8, q1, l, cs, ys, kk, q2, q3, q4, q5, q6, q7, rfl⟩, ?_⟩
        refine ⟨.ref m, nx.r0, m, .ref l, rfl, key_at (e1 _ _ h1) rfl, 1, rfl, l, (x :: xs).map V.int, rfl, .inl (.inl (e1 _ _ h3)), fun q hq0 => ?_⟩
        have ecut : cutV ((x :: xs).map V.int) (some 1) none = xs.map V.int := by
          unfold cutV HT.sIx
          simp
          exact List.take_of_length_le (by simp)
        rw [ecut]
        have e2 : Same (upd H p (.lst [])) (upd (upd H p (.lst [])) q (.lst (xs.map V.int))) := same_new hq0
        have e12 := e1.trans e2
        refine ⟨.ref m, nx.r0, m, _, rfl, .inl ⟨_, .inr "left", e12 _ _ h1, rfl, (by show 3 < sizeLine; decide), rfl⟩, ?_⟩
        have ep : putK [((.inr "cells" : Key), V.ref cq), (.inr "left", .ref l), (.inr "at", .int (kk : Int))] (.inr "left" : Key) (V.ref q) = [(.inr "cells", V.ref cq), (.inr "left", .ref q), (.inr "at", .int kk)] := rfl
        show _ ∧ _
        rw [ep]
        have st2 : Stp m l0 q H0 (upd (upd (upd H p (.lst [])) q (.lst (xs.map V.int))) m (rngD cq q kk)) := ((st.same e12).lefts ((st.same e1).fresh hq0)).putm
        have nqm : q ≠ m := fun z => by rw [z, e1 _ _ h1] at hq0; cases hq0
        have nqc : cq ≠ q := fun z => by rw [← z, e1 _ _ h2] at hq0; cases hq0
        have ncm : cq ≠ m := fun z => by rw [z, h1] at h2; cases h2
        have hm' : (upd (upd (upd H p (.lst [])) q (.lst (xs.map V.int))) m (rngD cq q kk)) m = some (rngD cq q kk) := upd_same
        have hc' : (upd (upd (upd H p (.lst [])) q (.lst (xs.map V.int))) m (rngD cq q kk)) cq = some (.lst (cs.map V.int)) := by rw [upd_ne ncm]; exact e12 _ _ h2
        have hq' : (upd (upd (upd H p (.lst [])) q (.lst (xs.map V.int))) m (rngD cq q kk)) q = some (.lst (xs.map V.int)) := by rw [upd_ne nqm]; exact upd_same
        exact ⟨⟨nx.len, nx.r0, nx.r1, q, st2, cs, xs, kk, hm', hc', hq', nqc, h5⟩, q, cs, xs, kk, st2, hm', hc', hq', nqc, h5, Nat.lt_succ_self _⟩
      · rw [decide_eq_false c]
        exact iteF (hq _ _ (nx1 (st.same e1) (rg.same e1)))

theorem cmul_r {i j : Int} (h1 : 0 ≤ j) (h2 : j < 2 ^ 64) : CMul i j := .inr ⟨by omega, h2⟩
theorem C_lawNext (F : FunAt K mg "_law_next" (topS 41) ["m", "total"]) (m_int : mg "int" = none) (m_len : mg "len" = none) : Cal K mg "_law_next" 2 1 (spNext K) :=
  cal_of (k := 0) F sc_ln (fun vs H Q E h => by obtain ⟨m, cq, l, total, n, rfl, _⟩ := h; rfl) fun X hK hM B H vs Q E h => by
    subst hK hM
    obtain ⟨m, cc, l0, total, n, rfl, t1, t2, hn, rg, hQ⟩ := h
    have EInt : PE X (valE (stAt (ifBody (stAt (defBody (topS 41)) 1)) 0)) _ := pe_callTy call_int1 (B.gl (by decide +kernel)) m_int (by decide +kernel) (pa_cons (pe_ix ix_list (pe_key B 0 rfl (by decide +kernel)) pe_int (fun _ _ => rfl)) pa_nil)
    refine ⟨_, pss_cons (ps_trs (st := stAt (defBody (topS 41)) 0)) (pss_cons (ps_if (pt_cmpR (op_neD B.room.units) (pe_key B 0 rfl (by decide +kernel)) (pe_lst pa_nil) (nomark _))
        (pss_cons (B.ps_set 2 EInt) (pss_cons (ps_asg (pe_op op_fdiv (B.pv 2) (B.pv 1)) (pg_sub (pe_key B 0 rfl (by decide +kernel)) pe_int set_list)) (pss_one (ps_ret (pe_op op_mod (B.pv 2) (B.pv 1)))))) pss_nil)
      (pss_cons (B.ps_set 3 (pe_op op_add (pe_key B 0 rfl (by decide +kernel)) pe_int)) (pss_cons (ps_dput (hu_of B.room) (B.pv 0) pe_str (B.pv 3) rfl)
      (pss_cons (B.ps_set 4 (pe_ifExp (pt_cmpR (op_neD B.room.units) (pe_key B 0 rfl (by decide +kernel)) (pe_lst pa_nil) (nomark _)) (pe_ix ix_list (pe_key B 0 rfl (by decide +kernel)) (pe_op op_mod (pe_callTy call_int1 (B.gl (by decide +kernel)) m_int (by decide +kernel) (pa_cons (B.pv 3) pa_nil)) (pe_callB call_len_seq (B.gl (by decide +kernel)) m_len PySem.boot_len (pa_cons (pe_key B 0 rfl (by decide +kernel)) pa_nil))) (fun _ _ => rfl)) pe_int))
      (pss_ev (sts := (defBody (topS 41)).drop 5)))))), ?_⟩
    refine ⟨_, _, tr_nextWhile (m := m) (cq := cc) (l0 := l0) (total := total) (n := n) (H0 := H) B, ⟨rfl, rfl, rfl, l0, rg.stp, rg⟩, fun σ H1 nx => ?_⟩
    obtain ⟨l, st, r1⟩ := nx.ex
    obtain ⟨cs, xs, kk, h1, h2, h3, h4, h5⟩ := r1.ex
    refine ⟨.ref m, nx.r0, m, .ref l, rfl, key_at h1 rfl, Nat.zero_le _, fun p hp0 => ?_⟩
    have e1 : Same H1 (upd H1 p (.lst [])) := same_new hp0
    refine ⟨_, _, .lst (.inl (.inl (e1 _ _ h3))) (dpall_ints xs), .lst (ds := []) (.inl (.inl upd_same)) .nil, sh_ints xs, rfl, ?_⟩
    rw [eqv_ints]
    refine ⟨_, rfl, ?_⟩
    have ncm : cc ≠ m := fun z => by rw [z, h1] at h2; cases h2
    have nlm : l ≠ m := fun z => by rw [z, h1] at h3; cases h3
    cases xs with
    | cons x xs =>
      refine iteT ?_
      refine ⟨.ref m, nx.r0, m, .ref l, rfl, key_at (e1 _ _ h1) rfl, l, (x :: xs).map V.int, 0, V.int x, rfl, rfl, .inl (.inl (e1 _ _ h3)), atI_nat (j := 0) rfl, .inl ⟨x, rfl, ?_⟩⟩
      have i1 : (σ.set 2 (some (V.int x)))[1]? = some (some (.int total)) := by rw [List.getElem?_set_ne (by decide)]; exact nx.r1
      have i0 : (σ.set 2 (some (V.int x)))[0]? = some (some (.ref m)) := by rw [List.getElem?_set_ne (by decide)]; exact nx.r0
      have i2 : (σ.set 2 (some (V.int x)))[2]? = some (some (.int x)) := List.getElem?_set_self (by rw [nx.len]; decide)
      refine ⟨.int x, i2, .int total, i1, x, total, rfl, rfl, ⟨by omega, by omega⟩, ?_⟩
      refine ⟨.ref m, i0, m, .ref l, rfl, key_at (e1 _ _ h1) rfl, l, (x :: xs).map V.int, 0, 0, rfl, rfl, e1 _ _ h3, (by unfold ixN; rw [if_pos (by decide), if_pos (by rw [List.length_map, List.length_cons]; omega)]; rfl), ?_⟩
      refine ⟨.int x, i2, .int total, i1, x, total, rfl, rfl, by omega, ?_⟩
      have st2 := (st.same e1).putl (o := .lst (((x :: xs).map V.int).set 0 (V.int (x / total))))
      refine hQ _ l _ (Int.emod_nonneg _ (by omega)) (Int.emod_lt_of_pos _ (by omega)) st2 ⟨cs, (x / total) :: xs, kk, by rw [upd_ne (Ne.symm nlm)]; exact e1 _ _ h1, by rw [upd_ne h4]; exact e1 _ _ h2, upd_same, h4, Nat.le_succ_of_le h5⟩
    | nil =>
      refine iteF ?_
      refine ⟨.ref m, nx.r0, m, .int kk, rfl, key_at (e1 _ _ h1) rfl, (kk : Int), 1, rfl, rfl, ?_⟩
      have i0 : (σ.set 3 (some (V.int ((kk : Int) + 1))))[0]? = some (some (.ref m)) := by rw [List.getElem?_set_ne (by decide)]; exact nx.r0
      have i1 : (σ.set 3 (some (V.int ((kk : Int) + 1))))[1]? = some (some (.int total)) := by rw [List.getElem?_set_ne (by decide)]; exact nx.r1
      have i3 : (σ.set 3 (some (V.int ((kk : Int) + 1))))[3]? = some (some (.int ((kk : Int) + 1))) := List.getElem?_set_self (by rw [nx.len]; decide)
      refine ⟨_, i3, .ref m, i0, m, _, rfl, .inl ⟨_, .inr "at", e1 _ _ h1, rfl, (by show 3 < sizeLine; decide), rfl⟩, ?_⟩
      rw [show HO.dK (putK [((.inr "cells" : Key), V.ref cc), (.inr "left", .ref l), (.inr "at", .int (kk : Int))] (.inr "at" : Key) (V.int ((kk : Int) + 1))) = rngD cc l ((kk : Int) + 1) from rfl]
      have st2 : Stp m l0 l H (upd (upd H1 p (.lst [])) m (rngD cc l ((kk : Int) + 1))) := (st.same e1).putm
      have hm2 : (upd (upd H1 p (.lst [])) m (rngD cc l ((kk : Int) + 1))) m = some (rngD cc l ((kk : Int) + 1)) := upd_same
      have hc2 : (upd (upd H1 p (.lst [])) m (rngD cc l ((kk : Int) + 1))) cc = some (.lst (cs.map V.int)) := by rw [upd_ne ncm]; exact e1 _ _ h2
      have hl2 : (upd (upd H1 p (.lst [])) m (rngD cc l ((kk : Int) + 1))) l = some (.lst (([] : List Int).map V.int)) := by rw [upd_ne nlm]; exact e1 _ _ h3
      have rg2 : Rng m cc l (n + 1) (upd (upd H1 p (.lst [])) m (rngD cc l ((kk : Int) + 1))) := ⟨cs, [], kk + 1, by rw [hm2]; rfl, hc2, hl2, h4, Nat.succ_le_succ h5⟩
      generalize upd (upd H1 p (.lst [])) m (rngD cc l ((kk : Int) + 1)) = H2 at st2 hm2 hc2 hl2 rg2 ⊢
      refine ⟨.ref m, i0, m, .ref cc, rfl, key_at hm2 rfl, Nat.zero_le _, fun q hq0 => ?_⟩
      have e2 : Same H2 (upd H2 q (.lst [])) := same_new hq0
      refine ⟨_, _, .lst (.inl (.inl (e2 _ _ hc2))) (dpall_ints cs), .lst (ds := []) (.inl (.inl upd_same)) .nil, sh_ints cs, rfl, ?_⟩
      rw [eqv_ints]
      refine ⟨_, rfl, ?_⟩
      -- what comes behind the cell
      have tail : ∀ cell : Int, tEss X ((defBody (topS 41)).drop 5) { nx := fun _ H' => Q .non H', rt := Q } ((σ.set 3 (some (V.int ((kk : Int) + 1)))).set 4 (some (V.int cell))) (upd H2 q (.lst [])) := fun cell => by
        have hk0 : (0 : Int) ≤ (kk : Int) + 1 := by omega
        have hk1 : (kk : Int) + 1 < 2 ^ 64 := by omega
        let δ : Dl := [none, some (.int total), none, some (.int ((kk : Int) + 1)), some (.int cell), none]
        have sl : Sl X.K (upd H2 q (.lst [])) ((σ.set 3 (some (V.int ((kk : Int) + 1)))).set 4 (some (V.int cell))) δ := fun i d hd => by
          rcases i with _ | _ | _ | _ | _ | _ | i
          · cases hd
          · cases hd; exact ⟨.int total, by rw [List.getElem?_set_ne (by decide)]; exact i1, .int _⟩
          · cases hd
          · cases hd; exact ⟨.int ((kk : Int) + 1), by rw [List.getElem?_set_ne (by decide)]; exact i3, .int _⟩
          · cases hd; exact ⟨.int cell, List.getElem?_set_self (by rw [List.length_set, nx.len]; decide), .int _⟩
          · cases hd
          · simp [δ] at hd
        refine ⟨δ, .rt _, es_cons (es_set B (i := 5) (ee_mul (ee_int1 B m_int (ee_add (ee_add (ee_mod (ee_int1 B m_int (ee_name B (i := 4) rfl rfl)) ee_int (by decide)) (ee_mul ee_int (ee_name B (i := 3) rfl rfl) (.inl ⟨by decide, by decide⟩))) (ee_mul (ee_mul ee_int (ee_name B (i := 3) rfl rfl) (.inl ⟨by decide, by decide⟩)) (ee_name B (i := 3) rfl rfl) (cmul_r hk0 hk1)))) ee_int (.inr ⟨by decide, by decide⟩)))
          (es_cons (es_set B (i := 5) (ee_mul (ee_int1 B m_int (ee_add (ee_mod (ee_int1 B m_int (ee_name B (i := 5) rfl rfl)) ee_int (by decide)) (ee_mul ee_int (ee_name B (i := 3) rfl rfl) (.inl ⟨by decide, by decide⟩)))) ee_int (.inr ⟨by decide, by decide⟩)))
          (es_last (es_ret (ee_mod (ee_int1 B m_int (ee_fdiv (ee_mod (ee_int1 B m_int (ee_name B (i := 5) rfl rfl)) ee_int (by decide)) ee_int (by decide))) (ee_name B (i := 1) rfl rfl) (by omega))))), sl, fun v H' e t => ?_⟩
        rw [t.int_inv]
        exact hQ _ l _ (Int.emod_nonneg _ (by omega)) (Int.emod_lt_of_pos _ (by omega)) ((st2.same e2).same e) ((rg2.same e2).same e)
      cases cs with
      | nil => exact iteF (tail 3)
      | cons c0 cs =>
        refine iteT ?_
        have hpos : (0 : Int) < (((c0 :: cs).map V.int).length : Nat) := by rw [List.length_map, List.length_cons]; omega
        have hi0 := Int.emod_nonneg ((kk : Int) + 1) (Int.ne_of_gt hpos)
        have hi1 := Int.emod_lt_of_pos ((kk : Int) + 1) hpos
        obtain ⟨jj, hj⟩ := Int.eq_ofNat_of_zero_le hi0
        have hjl : jj < (c0 :: cs).length := by
          have := hi1
          rw [hj, List.length_map] at this
          omega
        refine ⟨.ref m, i0, m, .ref cc, rfl, key_at (e2 _ _ hm2) rfl, .int ((kk : Int) + 1), i3, .inl ⟨(kk : Int) + 1, rfl, ?_⟩⟩
        refine ⟨.ref m, i0, m, .ref cc, rfl, key_at (e2 _ _ hm2) rfl, cc, (c0 :: cs).map V.int, rfl, .inl (.inl (.inl (e2 _ _ hc2))), (kk : Int) + 1, _, rfl, rfl, hpos, ?_⟩
        refine ⟨cc, (c0 :: cs).map V.int, _, V.int ((c0 :: cs)[jj]), rfl, rfl, .inl (.inl (e2 _ _ hc2)), ?_, tail _⟩
        rw [hj]
        refine atI_nat ?_
        rw [List.getElem?_map, List.getElem?_eq_getElem hjl]; rfl
end
end K53
end
section
set_option maxRecDepth 100000
set_option maxHeartbeats 4000000
/-! The drawn numbers: begun, a list of draws. -/
namespace K53
open PySem PySem.Spec PyProof.Rows L2
section
variable {m cq l0 l l' q : Addr} {H0 H H' : Hp} {n : Nat} {o : HO}
theorem Stp.putn (s : Stp m l0 l H0 H) (h : H0 q = none) (hl : ∃ o, H0 l0 = some o) (hm : ∃ o, H0 m = some o) : Stp m l0 l H0 (upd H q o) := by
  have n1 : l0 ≠ q := fun z => by obtain ⟨u, a⟩ := hl; rw [z, h] at a; cases a
  have n2 : m ≠ q := fun z => by obtain ⟨u, a⟩ := hm; rw [z, h] at a; cases a
  refine ⟨fun b u a c1 c2 => ?_, s.new, ?_, ?_⟩
  · have n3 : b ≠ q := fun z => by rw [z, h] at a; cases a
    rw [upd_ne n3]; exact s.keep b u a c1 c2
  · obtain ⟨u, a⟩ := s.liv; exact ⟨u, by rw [upd_ne n1]; exact a⟩
  · obtain ⟨u, a⟩ := s.atm; exact ⟨u, by rw [upd_ne n2]; exact a⟩
theorem Rng.atm (r : Rng m cq l n H) : ∃ o, H m = some o := let ⟨_, _, _, h, _⟩ := r.ex; ⟨_, h⟩
theorem Rng.atl (r : Rng m cq l n H) : ∃ o, H l = some o := let ⟨_, _, _, _, _, h, _⟩ := r.ex; ⟨_, h⟩
theorem Rng.atc (r : Rng m cq l n H) : ∃ o, H cq = some o := let ⟨_, _, _, _, h, _⟩ := r.ex; ⟨_, h⟩
/-- an object elsewhere written -/
theorem Rng.putn (r : Rng m cq l n H) (h1 : q ≠ m) (h2 : q ≠ l) (h3 : q ≠ cq) : Rng m cq l n (upd H q o) := by
  obtain ⟨cs, xs, k, a1, a2, a3, a4, a5⟩ := r.ex
  exact ⟨cs, xs, k, by rw [upd_ne (Ne.symm h1)]; exact a1, by rw [upd_ne (Ne.symm h3)]; exact a2, by rw [upd_ne (Ne.symm h2)]; exact a3, a4, a5⟩
end
section
variable {X : Cx} {δ : Dl} {N : List Str} {sc : Scope} {k j n : Nat} {e a b c : Expr} {es : List Expr} {d : PyData} {i i2 : Int} {pos p px : Pos} {K : PySem.W.Frag} {mg : Str → Option Value} {w : World} {x : Str} {sp : Sp} {t : TA}
theorem BX.call (B : BX X N sc k) (C : Cal X.K X.mg x n j sp) (hj : j ≤ k) (hg : sc.names.lookup x = some .globalImplicit) (ha : PA X (e :: es) t) (hdb : (x == ("__debug__" : Str)) = false := by decide)
    (he : starEach (e :: es) X.env = (false, eval e X.env) :: starEach es X.env := by rfl) (hpl : (backTo pos (starEach es X.env)).any (·.1) = false := by rfl) : PE X (.Call (.Name x p) (e :: es) [] pos) (fun σ H Q => t σ H fun vs H1 => sp vs H1 Q E0) := by
  obtain ⟨fa, fd, ps, _, hm, hk, hb, F⟩ := C
  refine ⟨fun pins s σ H Q I h => (pe_call (F X.prog X.w X.base) (B.room.mono hj) (B.gl hg) hm hk hb .nil pass0 ha hdb he hpl).run pins s σ H Q I ?_⟩
  have e0 : (fun (vs : List V) (H1 : Hp) => sp (vs ++ []) H1 Q E0) = fun vs H1 => sp vs H1 Q E0 := by
    funext vs H1; rw [List.append_nil]
  show t σ H (fun vs H1 => sp (vs ++ []) H1 Q E0)
  rw [e0]; exact h
theorem BX.callW (B : BX X N sc k) (C : CalW X.w X.K X.mg x n j sp) (hj : j ≤ k) (hg : sc.names.lookup x = some .globalImplicit) (ha : PA X (e :: es) t) (hdb : (x == ("__debug__" : Str)) = false := by decide)
    (he : starEach (e :: es) X.env = (false, eval e X.env) :: starEach es X.env := by rfl) (hpl : (backTo pos (starEach es X.env)).any (·.1) = false := by rfl) : PE X (.Call (.Name x p) (e :: es) [] pos) (fun σ H Q => t σ H fun vs H1 => sp vs H1 Q E0) := by
  obtain ⟨fa, fd, ps, _, hm, hk, hb, F⟩ := C
  refine ⟨fun pins s σ H Q I h => (pe_call (F X.prog X.base) (B.room.mono hj) (B.gl hg) hm hk hb .nil pass0 ha hdb he hpl).run pins s σ H Q I ?_⟩
  have e0 : (fun (vs : List V) (H1 : Hp) => sp (vs ++ []) H1 Q E0) = fun vs H1 => sp vs H1 Q E0 := by
    funext vs H1; rw [List.append_nil]
  show t σ H (fun vs H1 => sp (vs ++ []) H1 Q E0)
  rw [e0]; exact h
/-- _law_begun -/
def spBegun (K : PySem.W.Frag) : Sp := fun vs H Q _ => ∃ (a : Addr) (ns : List Int), vs = [.ref a] ∧ SqL K H a (ns.map V.int) ∧ ns.length ≤ 63 ∧ ∀ (m cq l : Addr) (H' : Hp), Same H H' → Rng m cq l 0 H' → H m = none → H l = none → Q (.ref m) H'
abbrev N_lb : List Str := ["script", "cell"]
theorem sc_lb : FnScope N_lb ["script"] (defScope (topS 40)) := ⟨rfl, rfl, rfl, by decide +kernel, rfl, by decide +kernel, by decide +kernel⟩
theorem C_lawBegun (F : FunAt K mg "_law_begun" (topS 40) ["script"]) (m_list : mg "list" = none) : Cal K mg "_law_begun" 1 1 (spBegun K) :=
  cal_of (k := 0) F sc_lb (fun vs H Q E h => by obtain ⟨a, ns, rfl, _⟩ := h; rfl) fun X hK hM B H vs Q E h => by
    subst hK hM
    obtain ⟨a, ns, rfl, hs, hn, hQ⟩ := h
    refine ⟨_, pss_one (ps_ret (pe_disp (pps_cons pe_str (pe_callTy call_list_of (B.gl (by decide +kernel)) m_list (by decide +kernel) (pa_cons (B.pv 0) pa_nil))
      (pps_cons pe_str (pe_lc (own := [("cell", 1)]) B.calm (by rw [B.fN]; exact B.nd) (pi_list (B.pv 0)) (B.blkOk (by decide +kernel)) (fun s H C cl fp => (B.blk _ s H C cl fp).pgn (i := 1) rfl (by decide +kernel)) (fun s H C cl fp => pts_one (pt_cmpR op_ge ((B.blk _ s H C cl fp).pv 1) (pe_op op_pow pe_int pe_int) rfl)) (fun s H C cl fp => (B.blk _ s H C cl fp).pv 1))
      (pps_cons pe_str pe_int pps_nil))) rfl rfl (by simp) (Nat.le_of_ble_eq_true rfl))), ?_⟩
    intro m hm
    have e0 : Same H (upd H m (.dK [])) := same_new hm
    have same_sq : ∀ {H' : Hp}, Same H H' → SqL X.K H' a (ns.map V.int) := fun {H'} e => same_srv (src := (true, a)) e hs
    refine ⟨.ref a, rfl, a, ns.map V.int, rfl, .inl (same_sq e0), fun cc hcc => ?_⟩
    have e1 : Same (upd H m (.dK [])) (upd (upd H m (.dK [])) cc (.lst (ns.map V.int))) := same_new hcc
    have e01 := e0.trans e1
    generalize hH1 : upd (upd H m (.dK [])) cc (.lst (ns.map V.int)) = H1 at e1 e01
    have hm1 : H1 m = some (.dK []) := e1 _ _ upd_same
    have hc1 : H1 cc = some (.lst (ns.map V.int)) := by rw [← hH1]; exact upd_same
    refine ⟨.ref a, rfl, a, rfl, ⟨_, same_sq e01⟩, fun L hL => ?_⟩
    refine ⟨fun i μ H' => μ = ns.length - i ∧ i ≤ ns.length ∧ Same H1 H' ∧ ∃ acc : List Int, H' L = some (.lst (acc.map V.int)) ∧ acc.length ≤ i, ⟨_, rfl, Nat.zero_le _, same_new hL, [], upd_same, Nat.le_refl _⟩, ?_⟩
    rintro i μ H' ⟨rfl, hi, e2, acc, ha, hal⟩
    have sq := same_sq (e01.trans e2)
    by_cases c : i < ns.length
    · refine .inr ⟨⟨ns.map V.int, V.int ns[i], sq, by rw [List.getElem?_map, List.getElem?_eq_getElem c]; rfl⟩, fun H3 => Same H1 H3 ∧ ∃ acc : List Int, H3 L = some (.lst (acc.map V.int)) ∧ acc.length ≤ i + 1, fun H3 ⟨p1, p2⟩ => ⟨ns.length - (i + 1), by omega, rfl, c, p1, p2⟩, fun v H2 y => ?_⟩
      obtain ⟨rfl, y⟩ := y
      have hv := y _ sq
      rw [List.getElem?_map, List.getElem?_eq_getElem c] at hv
      cases hv
      refine ⟨rfl, ?_⟩
      refine ⟨V.int ns[i], rfl, 10, 18, rfl, rfl, ⟨by decide, by decide, by decide⟩, ns[i], _, rfl, rfl, _, rfl, ?_⟩
      by_cases cc2 : ns[i] ≥ (10 : Int) ^ (18 : Int).toNat
      · rw [decide_eq_true cc2]
        refine iteT ⟨_, rfl, acc.map V.int, ha, ?_, same_mut e2 hL, acc ++ [ns[i]], ?_, ?_⟩
        · rw [List.length_map]; exact Nat.lt_of_le_of_lt (Nat.le_trans hal (Nat.le_trans hi hn)) (by decide)
        · rw [List.map_append]; exact upd_same
        · rw [List.length_append]; show acc.length + 1 ≤ i + 1; omega
      · rw [decide_eq_false cc2]
        exact iteF ⟨e2, acc, ha, Nat.le_succ_of_le hal⟩
    · have : i = ns.length := by omega
      subst this
      refine .inl ⟨⟨_, sq, by rw [List.length_map]; exact Nat.le_refl _⟩, ?_⟩
      refine ⟨e2 _ _ hm1, [(.inr "cells", .ref cc), (.inr "left", .ref L), (.inr "at", .int 0)], rfl, Nat.le_of_ble_eq_true rfl, ?_⟩
      have ncm : cc ≠ m := fun z => by rw [z, upd_same] at hcc; cases hcc
      have nLm : L ≠ m := fun z => by rw [z, hm1] at hL; cases hL
      have ncL : cc ≠ L := fun z => by rw [← z, hc1] at hL; cases hL
      have hLn : H L = none := by
        cases z : H L with
        | none => rfl
        | some o => rw [e01 _ _ z] at hL; cases hL
      exact hQ m cc L _ (same_mut (e01.trans e2) hm) ⟨ns, acc, 0, upd_same, by rw [upd_ne ncm]; exact e2 _ _ hc1, by rw [upd_ne nLm]; exact ha, ncL, Nat.le_refl _⟩ hm hLn

def tDraws (K : PySem.W.Frag) (mg : Str → Option Value) (N : List Str) (sc : Scope) (k : Nat) (re : Expr) (im iv : Nat) : TE := fun σ H Q => ∃ (δ : Dl) (sz : Nat) (m cq l : Addr) (n : Nat), (∀ X', X'.K = K → X'.mg = mg → BX X' N sc k → EvE X' δ re (.int (sz : Int))) ∧ sz ≤ 8 ∧ σ[im]? = some (some (.ref m)) ∧ iv < σ.length ∧ Sl K H σ δ ∧ Rng m cq l n H ∧ n + 8 ≤ 9000 ∧
  ∀ (xs : List Int) (p l' : Addr) (H' : Hp), xs.length = sz → Stp m l l' H H' → Rng m cq l' (n + sz) H' → p ≠ m → p ≠ cq → p ≠ l' → H p = none → H' p = some (.lst (xs.map V.int)) → Q (.ref p) H'
/-- [_law_next(m, 3) for .. in range(..)] -/
theorem pe_draws (B : BX X N sc k) (C : Cal X.K X.mg "_law_next" 2 1 (spNext X.K)) (hk : 1 ≤ k) {im iv : Nat} {y : Str} {q1 q2 q3 q4 q5 q6 : Pos} {j3 : Nat} {re : Expr} {scope : Scope} (m_range : X.mg "range" = none) (hNm : N[im]? = some ("m" : Str)) (hNy : N[iv]? = some y) (hne : im ≠ iv)
    (ok : blkC N sc scope [(y, iv)] = true) (hv : visB scope "m" = true) (hl : locB scope y = true) (hgr : sc.names.lookup ("range" : Str) = some .globalImplicit) (hgn : scope.names.lookup ("_law_next" : Str) = some .globalImplicit)
    (hst : starEach [re] X.env = (false, eval re X.env) :: starEach [] X.env := by rfl) :
    PE X (.ListComp (.Call (.Name "_law_next" q1) [.Name "m" q2, .Constant (.int 3) j3 q3] [] q4) [⟨.Name y q5, .Call (.Name "range" q6) [re] [] p, [], 0⟩] scope pos)
      (tDraws X.K X.mg N sc k re im iv) := by
  refine ⟨fun pins s σ H Q I h => ?_⟩
  obtain ⟨δ, sz, m, cq, l, n, hE', hsz, r0, hiv, hS, rg, hn, hQ⟩ := h
  have hE := hE' X rfl rfl B
  refine (pe_lc (own := [(y, iv)]) B.calm (by rw [B.fN]; exact B.nd) (pi_range1 (B.gl hgr) m_range (pa_cons pe_ev pa_nil hst) hst) (B.blkOk ok) (fun s H C cl fp => (B.blk scope s H C cl fp).pgn (i := iv) hNy hl) (fun _ _ _ _ _ => pts_nil)
    (fun s H C' cl fp => BX.call (B.blk scope s H C' cl fp) C hk hgn (pa_cons ((B.blk scope s H C' cl fp).pv im hNm hv) (pa_cons pe_int pa_nil)))).run pins s σ H Q I ?_
  refine ⟨δ, _, hE, hS, fun v H1 e1 t1 => ⟨(sz : Int), by rw [t1.int_inv], by omega, by omega, fun D hD => ?_⟩⟩
  have rg1 := rg.same e1
  have st1 := rg.stp.same e1
  have hDH : H D = none := st1.fresh hD
  have nDm : D ≠ m := fun z => by obtain ⟨o, a⟩ := rg1.atm; rw [← z, hD] at a; cases a
  have nDl : D ≠ l := fun z => by obtain ⟨o, a⟩ := rg1.atl; rw [← z, hD] at a; cases a
  have nDc : D ≠ cq := fun z => by obtain ⟨o, a⟩ := rg1.atc; rw [← z, hD] at a; cases a
  have em : ((sz : Int)).toNat = sz := by simp
  rw [em]
  refine ⟨fun i μ H' => μ = sz - i ∧ i ≤ sz ∧ ∃ (l' : Addr) (xs : List Int), Stp m l l' H H' ∧ Rng m cq l' (n + i) H' ∧ D ≠ l' ∧ H' D = some (.lst (xs.map V.int)) ∧ xs.length = i, ⟨_, rfl, Nat.zero_le _, l, [], st1.putn hDH rg.atl rg.atm, rg1.putn nDm nDl nDc, nDl, upd_same, rfl⟩, ?_⟩
  rintro i μ H' ⟨rfl, hi, l', xs, st, rg', nl, hD', hx⟩
  by_cases c : i < sz
  · refine .inr ⟨c, fun H3 => ∃ (l' : Addr) (xs : List Int), Stp m l l' H H3 ∧ Rng m cq l' (n + (i + 1)) H3 ∧ D ≠ l' ∧ H3 D = some (.lst (xs.map V.int)) ∧ xs.length = i + 1, fun H3 q => ⟨sz - (i + 1), by omega, rfl, c, q⟩, fun v H2 yl => ?_⟩
    obtain ⟨rfl, rfl⟩ := yl
    have w1 : L2.wipe ((L2.wipe σ [iv]).set iv (some (V.int (0 + i)))) [iv] = L2.wipe σ [iv] := by rw [wipe_set_in (by simp)]; exact wipe_wipe _ _ fun _ h => h
    refine ⟨w1, ?_⟩
    simp only [tYes, ↓reduceIte]
    have r0' : ((L2.wipe σ [iv]).set iv (some (V.int (0 + i))))[im]? = some (some (.ref m)) := by
      rw [List.getElem?_set_ne (Ne.symm hne), wipe_out (by simpa using hne)]; exact r0
    refine ⟨.ref m, r0', ?_⟩
    refine ⟨m, cq, l', 3, n + i, rfl, by decide, by decide, by omega, rg', fun r l2 H3 h0 h1 s2 rg2 => ?_⟩
    have kD : H3 D = some (.lst (xs.map V.int)) := s2.keep D _ hD' nDm nl
    have nl2 : D ≠ l2 := by
      rcases s2.new with z | z
      · rw [z]; exact nl
      · exact fun y => by rw [← y, hD'] at z; cases z
    refine ⟨xs.map V.int, kD, ?_, l2, xs ++ [r], ((st.trans s2).putn hDH rg.atl rg.atm), (rg2.putn nDm nl2 nDc), nl2, by rw [List.map_append]; exact upd_same, by rw [List.length_append, hx]; rfl⟩
    rw [List.length_map, hx]
    exact Nat.lt_of_lt_of_le (Nat.lt_of_lt_of_le c hsz) (by decide)
  · have : i = sz := by omega
    subst this
    exact .inl ⟨Nat.le_refl _, hQ xs D l' H' hx st rg' nDm nDc nl hDH hD'⟩
end
end K53
end
section
set_option maxRecDepth 100000
set_option maxHeartbeats 4000000
/-! _law_press. -/
namespace K53
open PySem PySem.Spec PyProof.Rows L2
theorem Stp.pre {m l l' : Addr} {H H1 H' : Hp} (s : Stp m l l' H1 H') (e : Same H H1) : Stp m l l' H H' :=
  ⟨fun b o a c1 c2 => s.keep b o (e _ _ a) c1 c2, s.new.imp id fun z => by
    cases y : H l' with
    | none => rfl
    | some o => exact absurd ((e _ _ y).symm.trans z) (by simp), s.liv, s.atm⟩
section
variable {X : Cx} {δ : Dl} {N : List Str} {sc : Scope} {k j n : Nat} {e a b c : Expr} {es : List Expr} {d : PyData} {ds : List PyData} {i i2 : Int} {pos p px : Pos} {K : PySem.W.Frag} {mg : Str → Option Value} {w : World} {x : Str}
/-- a draw -/
def tDraw (tot : Int) (im : Nat) : TE := fun σ H Q => ∃ (m cq l : Addr) (n : Nat), σ[im]? = some (some (.ref m)) ∧ Rng m cq l n H ∧ n ≤ 9000 ∧ ∀ (r : Int) (l' : Addr) (H' : Hp), 0 ≤ r → r < tot → Stp m l l' H H' → Rng m cq l' (n + 1) H' → Q (.int r) H'
theorem pe_draw (B : BX X N sc k) (C : Cal X.K X.mg "_law_next" 2 1 (spNext X.K)) (hk : 1 ≤ k) {im j3 : Nat} {tot : Int} {q1 q2 q3 q4 : Pos} (h1 : 1 ≤ tot) (h2 : tot ≤ 100) (hNm : N[im]? = some ("m" : Str)) (hv : visB sc "m" = true) (hgn : sc.names.lookup ("_law_next" : Str) = some .globalImplicit) :
    PE X (.Call (.Name "_law_next" q1) [.Name "m" q2, .Constant (.int tot) j3 q3] [] q4) (tDraw tot im) :=
  ⟨fun pins s σ H Q I h => by
    obtain ⟨m, cq, l, n, r0, rg, hn, hQ⟩ := h
    exact (B.call C hk hgn (pa_cons (B.pv im hNm hv) (pa_cons pe_int pa_nil))).run pins s σ H Q I ⟨.ref m, r0, m, cq, l, tot, n, rfl, h1, h2, by omega, rg, hQ⟩⟩
/-- [..][a draw] -/
theorem pe_pick (B : BX X N sc k) (C : Cal X.K X.mg "_law_next" 2 1 (spNext X.K)) (hk : 1 ≤ k) {im j3 : Nat} {tot : Int} {q0 q1 q2 q3 q4 : Pos} (h1 : 1 ≤ tot) (h2 : tot ≤ 100) (hNm : N[im]? = some ("m" : Str)) (hv : visB sc "m" = true) (hgn : sc.names.lookup ("_law_next" : Str) = some .globalImplicit) (hE : EvA X δ es ds) (hl : (ds.length : Int) = tot) :
    PE X (.Subscript (.List es q0) (.Call (.Name "_law_next" q1) [.Name "m" q2, .Constant (.int tot) j3 q3] [] q4) pos)
      (fun σ H Q => ∃ (m cq l : Addr) (n : Nat), σ[im]? = some (some (.ref m)) ∧ Sl X.K H σ δ ∧ Rng m cq l n H ∧ n ≤ 9000 ∧ ∀ (i : Nat) (d : PyData) (v : V) (l' : Addr) (H' : Hp), ds[i]? = some d → Tp X.K H' v d → Stp m l l' H H' → Rng m cq l' (n + 1) H' → Q v H') :=
  ⟨fun pins s σ H Q I h => by
    obtain ⟨m, cq, l, n, r0, hS, rg, hn, hQ⟩ := h
    refine (pe_ix ix_list (pe_lst (pa_ev (es := es))) (pe_draw B C hk (im := im) h1 h2 hNm hv hgn) (fun _ _ => rfl)).run pins s σ H Q I ⟨δ, ds, hE, hS, fun vs H1 e1 t1 => ⟨?_, fun q hq => ?_⟩⟩
    · rw [t1.length]; exact Nat.le_trans (show ds.length ≤ 100 by omega) (by decide)
    · have e2 := e1.trans (same_new (o := .lst vs) hq)
      refine ⟨m, cq, l, n, r0, rg.same e2, hn, fun r l' H' h0 hr st rg' => ?_⟩
      have nq1 : q ≠ m := fun z => by obtain ⟨o, a⟩ := (rg.same e1).atm; rw [← z, hq] at a; cases a
      have nq2 : q ≠ l := fun z => by obtain ⟨o, a⟩ := (rg.same e1).atl; rw [← z, hq] at a; cases a
      obtain ⟨jj, hj⟩ := Int.eq_ofNat_of_zero_le h0
      have hjl : jj < ds.length := by omega
      have hd : ds[jj]? = some ds[jj] := List.getElem?_eq_getElem hjl
      have t2 : TpAll X.K H' vs ds := (t1.mono (same_new (o := .lst vs) hq)).kp (st.kp (rg.same e2))
      obtain ⟨v, hv, tv⟩ := t2.get hd
      exact ⟨q, vs, r, v, rfl, rfl, .inl (.inl (st.keep _ _ upd_same nq1 nq2)), by rw [hj]; exact atI_nat hv, hQ jj _ v l' H' hd tv (st.pre e2) rg'⟩⟩

/-- _law_press(m, 1) -/
def spPress (K : PySem.W.Frag) : Sp := fun vs H Q _ => ∃ (m cq l : Addr) (n : Nat), vs = [.ref m, .int 1] ∧ Rng m cq l n H ∧ n ≤ 8000 ∧ ∀ (q : Pr) (v : V) (l' : Addr) (H' : Hp), Stp m l l' H H' → Rng m cq l' (n + 3) H' → Tp K H' v q.d → Q v H'
abbrev N_lp : List Str := ["m", "tracks", "words", "word", "at"]
theorem sc_lp : FnScope N_lp ["m", "tracks"] (defScope (topS 42)) := ⟨rfl, rfl, rfl, by decide +kernel, rfl, by decide +kernel, by decide +kernel⟩
def words1 : List Pr := [.tap, .tap, .tap, .tap, .stop, .undo, .redo, .join, .turn, .flip, .mute]
def words2 : List Pr := [.p1, .p1, .clear]
def wordsD (ps : List Pr) : List PyData := ps.map fun p => .str p.str
theorem tpall_strs {H : Hp} : ∀ {ps : List Pr} {vs : List V}, TpAll K H vs (wordsD ps) → vs = ps.map fun p => V.str p.str
  | [], _, h => by cases h; rfl
  | p :: ps, _, h => by
    cases h with
    | cons h1 h2 => rw [h1.str_inv, tpall_strs h2]; rfl
theorem C_lawPress (F : FunAt K mg "_law_press" (topS 42) ["m", "tracks"]) (C : Cal K mg "_law_next" 2 1 (spNext K)) : CalW w K mg "_law_press" 2 2 (spPress K) :=
  cal_ofS (k := 1) F sc_lp (fun vs H Q E h => by obtain ⟨m, cq, l, n, rfl, _⟩ := h; rfl) fun X hK hM hW hSc B H vs Q E h => by
    subst hK hM hW
    obtain ⟨m, cq, l, n, rfl, rg, hn, hQ⟩ := h
    have hloc : ∀ {x : Str}, (defScope (topS 42)).names.lookup x = some .local → X.env.scope.names.lookup x = some .local := fun {x} hx => by rw [hSc]; exact hx
    refine ⟨_, pss_cons (B.ps_set 2 (pe_lst pa_ev)) (pss_cons (B.ps_set 2 (pe_op op_cat (B.pv 2) (pe_lst pa_ev))) (pss_cons (ps_par (i := 3) (j := 4) B.calm (by rw [B.fN]; exact B.nd) (by rw [B.fN]; rfl) (by rw [B.fN]; rfl) (by decide) (hloc (by decide +kernel)) (hloc (by decide +kernel))
        (pa_cons (pe_ix ix_list (B.pv 2) (pe_draw B C (by decide) (im := 0) (by decide) (by decide) rfl (by decide +kernel) (by decide +kernel)) (fun _ _ => rfl)) (pa_cons (B.call C (by decide) (by decide +kernel) (pa_cons (B.pv 0) (pa_cons (B.pv 1) pa_nil))) pa_nil)) ((swapped_scope (env' := envS (defScope (topS 42))) hSc).trans rfl))
      (pss_one (ps_ret (pe_ifExp (pt_cmpR (op_eqD B.room.units) (B.pv 3) pe_str (nomark _)) (pe_tup (pa_cons pe_str (pa_cons (B.pv 4) (pa_cons (pe_pick B C (by decide) (im := 0) (δ := [none, none, none, none, none]) (ds := [.int 1, .int 2, .int 4]) (by decide) (by decide) rfl (by decide +kernel) (by decide +kernel) (ea_cons ee_int (ea_cons ee_int (ea_cons ee_int ea_nil))) rfl) pa_nil)))) pe_ev))))), ?_⟩
    have sl0 : ∀ (σ : L2.St) (H : Hp), Sl X.K H σ ([none, none, none, none, none] : Dl) := fun σ H i d hd => by
      rcases i with _ | _ | _ | _ | _ | i <;> first | (cases hd; done) | (simp at hd; done)
    refine ⟨[none, none, none, none, none], wordsD words1, ea_cons ee_str (ea_cons ee_str (ea_cons ee_str (ea_cons ee_str (ea_cons ee_str (ea_cons ee_str (ea_cons ee_str (ea_cons ee_str (ea_cons ee_str (ea_cons ee_str (ea_cons ee_str ea_nil)))))))))), sl0 _ _, fun v1 H1 e1 t1 => ⟨by rw [t1.length]; decide, fun p1 hp1 => ?_⟩⟩
    have e2 : Same H1 (upd H1 p1 (.lst v1)) := same_new hp1
    refine ⟨.ref p1, rfl, [none, none, none, none, none], wordsD words2, ea_cons ee_str (ea_cons ee_str (ea_cons ee_str ea_nil)), sl0 _ _, fun v2 H2 e3 t2 => ⟨by rw [t2.length]; decide, fun p2 hp2 => ?_⟩⟩
    have e4 : Same H2 (upd H2 p2 (.lst v2)) := same_new hp2
    refine ⟨p1, p2, v1, v2, rfl, rfl, e4 _ _ (e3 _ _ upd_same), upd_same, by rw [t1.length, t2.length]; decide, fun p3 hp3 => ?_⟩
    have e5 : Same (upd H2 p2 (.lst v2)) (upd (upd H2 p2 (.lst v2)) p3 (.lst (v1 ++ v2))) := same_new hp3
    have e05 := e1.trans (e2.trans (e3.trans (e4.trans e5)))
    have hp3' : (upd (upd H2 p2 (.lst v2)) p3 (.lst (v1 ++ v2))) p3 = some (.lst (v1 ++ v2)) := upd_same
    have np3 : H p3 = none := by
      cases z : H p3 with
      | none => rfl
      | some o => rw [e4 _ _ (e3 _ _ (e2 _ _ (e1 _ _ z)))] at hp3; cases hp3
    obtain rfl := tpall_strs t1
    obtain rfl := tpall_strs t2
    generalize upd (upd H2 p2 (.lst (words2.map fun p => V.str p.str))) p3 (.lst ((words1.map fun p => V.str p.str) ++ words2.map fun p => V.str p.str)) = H5 at e05 hp3' ⊢
    have rg5 := rg.same e05
    have n1 : p3 ≠ m := fun z => by obtain ⟨o, a⟩ := rg.atm; rw [← z, np3] at a; cases a
    have n2 : p3 ≠ l := fun z => by obtain ⟨o, a⟩ := rg.atl; rw [← z, np3] at a; cases a
    refine ⟨.ref p3, rfl, m, cq, l, n, rfl, rg5, by omega, fun r l6 H6 h0 hr s6 rg6 => ?_⟩
    obtain ⟨jj, hj⟩ := Int.eq_ofNat_of_zero_le h0
    have hjl : jj < (words1 ++ words2).length := by show jj < 14; omega
    obtain ⟨q, hq⟩ : ∃ q, (words1 ++ words2)[jj]? = some q := ⟨_, List.getElem?_eq_getElem hjl⟩
    refine ⟨p3, (words1 ++ words2).map (fun p => V.str p.str), r, V.str q.str, rfl, rfl, .inl (.inl ?_), ?_, ?_⟩
    · rw [List.map_append]; exact s6.keep _ _ hp3' n1 n2
    · rw [hj]; refine atI_nat ?_; rw [List.getElem?_map, hq]; rfl
    refine ⟨.ref m, rfl, .int 1, rfl, m, cq, l6, 1, n + 1, rfl, by decide, by decide, by omega, rg6, fun r2 l7 H7 g0 gr s7 rg7 => ?_⟩
    have hr2 : r2 = 0 := by omega
    subst hr2
    refine ⟨_, _, rfl, ?_⟩
    have hs7 : Stp m l l7 H H7 := (s6.trans s7).pre e05
    refine ⟨V.str q.str, rfl, _, _, .str q.str, .str "pace", sh_of (ok_prs q) (Nat.zero_le _), by decide +kernel, ?_⟩
    rw [eqv_str]
    refine ⟨_, rfl, ?_⟩
    by_cases c : q.str = "pace"
    · rw [decide_eq_true c]
      refine iteT ?_
      refine ⟨V.int 0, rfl, m, cq, l7, n + 1 + 1, rfl, sl0 _ _, rg7, by omega, fun i d v l8 H8 hd tv s8 rg8 => ⟨(show 3 ≤ sizeLine by decide), fun p hp => ?_⟩⟩
      have e8 : Same H8 (upd H8 p (.tup [V.str "pace", V.int 0, v])) := same_new hp
      have hi : i < 3 := (List.getElem?_eq_some_iff.mp hd).1
      have h3 : i = 0 ∨ i = 1 ∨ i = 2 := by omega
      rcases h3 with z | z | z <;> subst z <;> cases hd
      · exact hQ .p1 _ l8 _ ((hs7.trans s8).same e8) (rg8.same e8) (tp_new hp (.cons (.str _) (.cons (.int 0) (.cons tv .nil))))
      · exact hQ .p2 _ l8 _ ((hs7.trans s8).same e8) (rg8.same e8) (tp_new hp (.cons (.str _) (.cons (.int 0) (.cons tv .nil))))
      · exact hQ .p4 _ l8 _ ((hs7.trans s8).same e8) (rg8.same e8) (tp_new hp (.cons (.str _) (.cons (.int 0) (.cons tv .nil))))
    · rw [decide_eq_false c]
      refine iteF ?_
      have hf : q.isPace = false := by cases q <;> first | rfl | (exact absurd rfl c)
      have ed : q.d = .tuple [.str q.str, .int 0] := congrArg PyData.tuple (pr_deed hf).1
      refine ⟨[none, none, none, some (.str q.str), some (.int 0)], q.d, (ee_tup (ea_cons (ee_name B (i := 3) rfl rfl) (ea_cons (ee_name B (i := 4) rfl rfl) ea_nil))).cast ed.symm, fun i d hd => ?_, fun v H8 e8 tv => hQ q v l7 H8 (hs7.same e8) ((rg7.mono (Nat.le_succ _)).same e8) tv⟩
      rcases i with _ | _ | _ | _ | _ | i
      · cases hd
      · cases hd
      · cases hd
      · cases hd; exact ⟨_, rfl, .str _⟩
      · cases hd; exact ⟨_, rfl, .int 0⟩
      · simp at hd
end
end K53
end
section
set_option maxRecDepth 100000
set_option maxHeartbeats 4000000
/-! _law_short. -/
namespace K53
open PySem PySem.Spec PyProof.Rows L2
section
variable {X : Cx} {δ : Dl} {N : List Str} {sc : Scope} {k j n : Nat} {e a b c : Expr} {es : List Expr} {d : PyData} {ds : List PyData} {i i2 : Int} {pos p px : Pos} {K : PySem.W.Frag} {mg : Str → Option Value} {w : World} {x : Str}
def tRows (K : PySem.W.Frag) (mg : Str → Option Value) (N : List Str) (so : Scope) (k : Nat) (re : Expr) (im iv ij : Nat) : TE := fun σ H Q => ∃ (δ : Dl) (sz : Nat) (m cq l : Addr) (n : Nat), (∀ X', X'.K = K → X'.mg = mg → BX X' N so k → EvE X' (wipeD δ [ij]) re (.int (sz : Int))) ∧ sz ≤ 3 ∧ σ[im]? = some (some (.ref m)) ∧ σ.length = N.length ∧ Sl K H σ δ ∧ Rng m cq l n H ∧ n ≤ 8000 ∧
  ∀ (r1 r2 : List Int) (p l' : Addr) (H' : Hp) (vs : List V), r1.length = sz → r2.length = sz → Stp m l l' H H' → Rng m cq l' (n + 2 * sz) H' → H' p = some (.lst vs) → TpAll K H' vs [tI r1, tI r2] → Q (.ref p) H'
theorem pe_rows (B : BX X N sc k) (C : Cal X.K X.mg "_law_next" 2 1 (spNext X.K)) (hk : 1 ≤ k) {im iv ij : Nat} {y yj : Str} {q1 q2 q3 q4 q5 q6 q7 q8 q9 qa qb qc : Pos} {j3 j4 : Nat} {re : Expr} {so si : Scope} (m_range : X.mg "range" = none) (m_tuple : X.mg "tuple" = none) (hNm : N[im]? = some ("m" : Str)) (hNy : N[iv]? = some y) (hNj : N[ij]? = some yj) (hne : im ≠ iv) (hnj : im ≠ ij) (hiN : iv < N.length)
    (ok : blkC N sc so [(yj, ij)] = true) (ok2 : blkC N so si [(y, iv)] = true) (hv2 : visB si "m" = true) (hl : locB so yj = true) (hl2 : locB si y = true) (hgr : sc.names.lookup ("range" : Str) = some .globalImplicit) (hgr2 : so.names.lookup ("range" : Str) = some .globalImplicit) (hgt : so.names.lookup ("tuple" : Str) = some .globalImplicit) (hgn : si.names.lookup ("_law_next" : Str) = some .globalImplicit)
    (hst : ∀ env, starEach [re] env = (false, eval re env) :: starEach [] env) :
    PE X (.ListComp (.Call (.Name "tuple" qa) [.ListComp (.Call (.Name "_law_next" q1) [.Name "m" q2, .Constant (.int 3) j3 q3] [] q4) [⟨.Name y q5, .Call (.Name "range" q6) [re] [] q7, [], 0⟩] si q8] [] q9) [⟨.Name yj qb, .Call (.Name "range" qc) [.Constant (.int 2) j4 px] [] p, [], 0⟩] so pos)
      (tRows X.K X.mg N so k re im iv ij) := by
  refine ⟨fun pins s σ H Q I h => ?_⟩
  obtain ⟨δ, sz, m, cq, l, n, hE, hsz, r0, hσ, hS, rg, hn, hQ⟩ := h
  refine (pe_lc (own := [(yj, ij)]) (te := tCB (fun xs H Q => ∃ p ys, xs = [.ref p] ∧ ((SqL X.K H p ys ∧ ∀ l, H l = none → Q (.ref l) (upd H l (.tup ys))) ∨ (SqT X.K H p ys ∧ Q (.ref p) H))) (tCons (tDraws X.K X.mg N so k re im iv) tNil)) B.calm (by rw [B.fN]; exact B.nd) (pi_range1 (B.gl hgr) m_range (pa_cons pe_int pa_nil) rfl) (B.blkOk ok) (fun s H C cl fp => (B.blk so s H C cl fp).pgn (i := ij) hNj hl) (fun _ _ _ _ _ => pts_nil)
    (fun s H C' cl fp => pe_callTy call_tuple_of ((B.blk so s H C' cl fp).gl hgt) m_tuple (by decide +kernel) (pa_cons (pe_draws (im := im) (iv := iv) (B.blk so s H C' cl fp) C hk m_range hNm hNy hne ok2 hv2 hl2 hgr2 hgn (hst _)) pa_nil))).run pins s σ H Q I ?_
  refine ⟨2, rfl, by decide, by decide, fun D hD => ?_⟩
  have st1 := rg.stp
  have nDm : D ≠ m := fun z => by obtain ⟨o, a⟩ := rg.atm; rw [← z, hD] at a; cases a
  have nDl : D ≠ l := fun z => by obtain ⟨o, a⟩ := rg.atl; rw [← z, hD] at a; cases a
  have nDc : D ≠ cq := fun z => by obtain ⟨o, a⟩ := rg.atc; rw [← z, hD] at a; cases a
  refine ⟨fun i μ H' => μ = 2 - i ∧ i ≤ 2 ∧ ∃ (l' : Addr) (vs : List V) (rs : List (List Int)), Stp m l l' H H' ∧ Rng m cq l' (n + i * sz) H' ∧ D ≠ l' ∧ H' D = some (.lst vs) ∧ TpAll X.K H' vs (rs.map tI) ∧ rs.length = i ∧ (∀ r ∈ rs, r.length = sz) ∧ Kp H H', ⟨_, rfl, Nat.zero_le _, l, [], [], st1.putn hD rg.atl rg.atm, by rw [Nat.zero_mul]; exact rg.putn nDm nDl nDc, nDl, upd_same, .nil, rfl, (fun _ h => nomatch h), Kp.of (same_new hD)⟩, ?_⟩
  rintro i μ H' ⟨rfl, hi, l', vs, rs, st, rg', nl, hD', ht, hr, hrl, hkp⟩
  by_cases c : i < 2
  · refine .inr ⟨c, fun H3 => ∃ (l' : Addr) (vs : List V) (rs : List (List Int)), Stp m l l' H H3 ∧ Rng m cq l' (n + (i + 1) * sz) H3 ∧ D ≠ l' ∧ H3 D = some (.lst vs) ∧ TpAll X.K H3 vs (rs.map tI) ∧ rs.length = i + 1 ∧ (∀ r ∈ rs, r.length = sz) ∧ Kp H H3, fun H3 q => ⟨2 - (i + 1), by omega, rfl, c, q⟩, fun v H2 yl => ?_⟩
    obtain ⟨rfl, rfl⟩ := yl
    refine ⟨by rw [wipe_set_in (by simp)]; exact wipe_wipe _ _ fun _ h => h, ?_⟩
    simp only [tYes, ↓reduceIte]
    have r0' : ((L2.wipe σ [ij]).set ij (some (V.int (0 + i))))[im]? = some (some (.ref m)) := by
      rw [List.getElem?_set_ne (Ne.symm hnj), wipe_out (by simpa using hnj)]; exact r0
    have hS' : Sl X.K H2 ((L2.wipe σ [ij]).set ij (some (V.int (0 + i)))) (wipeD δ [ij]) := by
      have z := ((hS.kp hkp).wipe [ij]).clear ij (some (V.int (0 + i)))
      exact z.weak fun a d e => by
        show ((wipeD δ [ij]).set ij none)[a]? = _
        have : (wipeD δ [ij]).set ij none = wipeD δ [ij] := by unfold wipeD wipeD; rw [List.set_set]
        rw [this]; exact e
    have hsz3 : i * sz ≤ 3 := by
      have : i = 0 ∨ i = 1 := by omega
      rcases this with z | z <;> subst z <;> omega
    refine ⟨wipeD δ [ij], sz, m, cq, l', n + i * sz, hE, Nat.le_trans hsz (by decide), r0', by rw [List.length_set, L2.wipe_length, hσ]; exact hiN, hS', rg', by omega, fun xs p l2 H3 hx s2 rg2 np1 np2 np3 hp hp' => ?_⟩
    have kD : H3 D = some (.lst vs) := s2.keep D _ hD' nDm nl
    have nl2 : D ≠ l2 := by
      rcases s2.new with z | z
      · rw [z]; exact nl
      · exact fun y => by rw [← y, hD'] at z; cases z
    refine ⟨p, xs.map V.int, rfl, .inl ⟨.inl (.inl hp'), fun q hq => ?_⟩⟩
    have eq1 : Same H3 (upd H3 q (.tup (xs.map V.int))) := same_new hq
    have kD2 : (upd H3 q (.tup (xs.map V.int))) D = some (.lst vs) := eq1 _ _ kD
    have kp2 : Kp (upd H3 q (.tup (xs.map V.int))) (upd (upd H3 q (.tup (xs.map V.int))) D (.lst (vs ++ [.ref q]))) := kp_mut (fun ys z => by rw [kD2] at z; cases z) (fun ob u z => by rw [kD2] at z; cases z)
    have kall := ((hkp.trans (s2.kp rg')).trans (Kp.of eq1)).trans kp2
    have hvl : vs.length = i := by rw [ht.length, List.length_map, hr]
    refine ⟨vs, kD2, ?_, l2, vs ++ [.ref q], rs ++ [xs], (((st.trans s2).same eq1).putn hD rg.atl rg.atm), ?_, nl2, upd_same, ?_, by rw [List.length_append, hr]; rfl, fun r hr' => ?_, kall⟩
    · rw [hvl]; exact Nat.lt_of_lt_of_le c (by decide)
    · have e9 : n + i * sz + sz = n + (i + 1) * sz := by rw [Nat.add_mul, Nat.one_mul, Nat.add_assoc]
      rw [e9] at rg2
      exact (rg2.same eq1).putn nDm nl2 nDc
    · rw [List.map_append]
      exact (((ht.kp (s2.kp rg')).mono eq1).kp kp2).append (.cons ((tp_new hq (tpall_ints xs)).kp kp2) .nil)
    · rcases List.mem_append.mp hr' with z | z
      · exact hrl r z
      · have : r = xs := by simpa using z
        rw [this]; exact hx
  · have : i = 2 := by omega
    subst this
    match rs, hr, hrl, ht with
    | [r1, r2], _, hrl, ht =>
      exact .inl ⟨Nat.le_refl _, hQ r1 r2 D l' H' vs (hrl r1 (by simp)) (hrl r2 (by simp)) st rg' hD' ht⟩

def modesL : List Md := [.play, .dub, .stop, .play, .record, .empty]
/-- _law_short(m) -/
def spShort (K : PySem.W.Frag) : Sp := fun vs H Q _ => ∃ (m cq l : Addr) (n : Nat), vs = [.ref m] ∧ Rng m cq l n H ∧ n ≤ 7000 ∧ ∀ (t : Trk) (v : V) (l' : Addr) (H' : Hp), Ok t → Fin1 t → Stp m l l' H H' → Rng m cq l' (n + 20) H' → Tp K H' v t.d → Q v H'
abbrev N_sh : List Str := ["m", "mode", "size", "layers", "at", "way", "speed", "sign", "point", "k", "j"]
theorem sc_sh : FnScope N_sh ["m"] (defScope (topS 48)) := ⟨rfl, rfl, rfl, by decide +kernel, rfl, by decide +kernel, by decide +kernel⟩
theorem md_dec (md : Md) : decide (md.str = ("empty" : Str)) = decide (md = .empty) ∧ decide (md.str = ("record" : Str)) = decide (md = .record) ∧ decide (md.str = ("dub" : Str)) = decide (md = .dub) ∧ decide (md.str = ("stop" : Str)) = decide (md = .stop) := by cases md <;> decide +kernel
theorem sh_mds (md : Md) : SeqAt.shaped (.str md.str) = true := sh_md md
/-- at = 2 if mode == 'dub' else 1 + a draw of 2 -/
theorem pe_at (B : BX X N_sh (defScope (topS 48)) k) (C : Cal X.K X.mg "_law_next" 2 1 (spNext X.K)) (hk : 1 ≤ k) : PE X (valE (stAt (defBody (topS 48)) 5))
    (fun σ H Q => ∃ (m cq l : Addr) (n : Nat) (md : Md), σ[0]? = some (some (.ref m)) ∧ σ[1]? = some (some (.str md.str)) ∧ Rng m cq l n H ∧ n ≤ 9000 ∧ ∀ (av : Nat) (l' : Addr) (H' : Hp), (av = 2 ∨ (av = 1 ∧ md ≠ .dub)) → Stp m l l' H H' → Rng m cq l' (n + 1) H' → Q (.int (av : Int)) H') :=
  ⟨fun pins s σ H Q I h => by
    obtain ⟨m, cq, l, n, md, r0, r1, rg, hn, hQ⟩ := h
    refine (pe_ifExp (pt_cmpR (op_eqD B.room.units) (B.pv 1) pe_str (nomark _)) pe_int (pe_op op_add pe_int (pe_draw B C hk (im := 0) (tot := 2) (by decide) (by decide) rfl (by decide +kernel) (by decide +kernel)))).run pins s σ H Q I ?_
    refine ⟨_, r1, _, _, .str md.str, .str "dub", sh_mds md, by decide +kernel, ?_⟩
    rw [eqv_str, (md_dec md).2.2.1]
    refine ⟨_, rfl, ?_⟩
    by_cases c : md = .dub
    · rw [decide_eq_true c]
      exact iteT (hQ 2 l H (.inl rfl) rg.stp (rg.mono (Nat.le_succ _)))
    · rw [decide_eq_false c]
      refine iteF ⟨m, cq, l, n, r0, rg, hn, fun r l' H' h0 hr st rg' => ⟨1, r, rfl, rfl, ?_⟩⟩
      have h01 : r = 0 ∨ r = 1 := by omega
      rcases h01 with z | z <;> subst z
      · exact hQ 1 l' H' (.inr ⟨rfl, c⟩) st rg'
      · exact hQ 2 l' H' (.inl rfl) st rg'⟩
/-- point = 0 if mode == 'stop' else a draw of 2 * size -/
theorem pe_point (B : BX X N_sh (defScope (topS 48)) k) (C : Cal X.K X.mg "_law_next" 2 1 (spNext X.K)) (hk : 1 ≤ k) : PE X (valE (stAt (defBody (topS 48)) 7))
    (fun σ H Q => ∃ (m cq l : Addr) (n : Nat) (md : Md) (sz : Nat), σ[0]? = some (some (.ref m)) ∧ σ[1]? = some (some (.str md.str)) ∧ σ[2]? = some (some (.int (sz : Int))) ∧ 1 ≤ sz ∧ sz ≤ 3 ∧ Rng m cq l n H ∧ n ≤ 9000 ∧ ∀ (pv : Int) (l' : Addr) (H' : Hp), 0 ≤ pv → pv < 2 * (sz : Int) → (md = .stop → pv = 0) → Stp m l l' H H' → Rng m cq l' (n + 1) H' → Q (.int pv) H') :=
  ⟨fun pins s σ H Q I h => by
    obtain ⟨m, cq, l, n, md, sz, r0, r1, r2, z1, z2, rg, hn, hQ⟩ := h
    refine (pe_ifExp (pt_cmpR (op_eqD B.room.units) (B.pv 1) pe_str (nomark _)) pe_int (B.call C hk (by decide +kernel) (pa_cons (B.pv 0) (pa_cons pe_ev pa_nil)))).run pins s σ H Q I ?_
    refine ⟨_, r1, _, _, .str md.str, .str "stop", sh_mds md, by decide +kernel, ?_⟩
    rw [eqv_str, (md_dec md).2.2.2]
    refine ⟨_, rfl, ?_⟩
    by_cases c : md = .stop
    · rw [decide_eq_true c]
      exact iteT (hQ 0 l H (Int.le_refl 0) (by omega) (fun _ => rfl) rg.stp (rg.mono (Nat.le_succ _)))
    · rw [decide_eq_false c]
      refine iteF ⟨.ref m, r0, ([none, none, some (.int (sz : Int))] : Dl), .int (2 * (sz : Int)), ee_mul ee_int (ee_name B (i := 2) rfl rfl) (.inl ⟨by decide, by decide⟩), fun i d hd => ?_, fun v H1 e1 t1 => ?_⟩
      · rcases i with _ | _ | _ | i <;> first | (cases hd; exact ⟨_, r2, .int _⟩) | (cases hd; done) | (simp at hd; done)
      · rw [t1.int_inv]
        exact ⟨m, cq, l, 2 * (sz : Int), n, rfl, by omega, by omega, by omega, rg.same e1, fun r l' H' h0 hr st rg' => hQ r l' H' h0 hr (fun z => absurd z c) (st.pre e1) rg'⟩⟩
theorem mkTup {H : Hp} {q : Addr} {vs : List V} (hq : H q = none) (t : TpAll K H vs ds) : Tp K (upd H q (.tup vs)) (.ref q) (.tuple ds) := tp_new hq t
theorem C_lawShort (F : FunAt K mg "_law_short" (topS 48) ["m"]) (C : Cal K mg "_law_next" 2 1 (spNext K)) (m_range : mg "range" = none) (m_tuple : mg "tuple" = none) : CalW w K mg "_law_short" 1 2 (spShort K) :=
  cal_ofS (k := 1) F sc_sh (fun vs H Q E h => by obtain ⟨m, cq, l, n, rfl, _⟩ := h; rfl) fun X hK hM hW hSc B H vs Q E h => by
    subst hK hM hW
    obtain ⟨m, cq, l, n, rfl, rg, hn, hQ⟩ := h
    have hloc : ∀ {x : Str}, (defScope (topS 48)).names.lookup x = some .local → X.env.scope.names.lookup x = some .local := fun {x} hx => by rw [hSc]; exact hx
    have nilS : ∀ (σ : L2.St) (H : Hp), Sl X.K H σ ([] : Dl) := fun σ H i d hd => by simp at hd
    have eNil : ∀ (σ : L2.St) (H : Hp), Sl X.K H σ ([none, none, none, none, none, none, none, none, none, none, none] : Dl) := fun σ H i d hd => by
      rcases i with _ | _ | _ | _ | _ | _ | _ | _ | _ | _ | _ | i <;> first | (cases hd; done) | (simp at hd; done)
    have dS : ∀ {σ : L2.St} {H : Hp} {sz : Nat}, σ[2]? = some (some (.int (sz : Int))) → Sl X.K H σ ([none, none, some (.int (sz : Int)), none, none, none, none, none, none, none, none] : Dl) := fun {σ H sz} h2 i d hd => by
      rcases i with _ | _ | _ | _ | _ | _ | _ | _ | _ | _ | _ | i <;> first | (cases hd; exact ⟨_, h2, .int _⟩) | (cases hd; done) | (simp at hd; done)
    refine ⟨_, pss_cons (B.ps_set 1 (pe_pick B C (by decide) (im := 0) (δ := [none, none, none, none, none, none, none, none, none, none, none]) (ds := modesL.map fun m => .str m.str) (by decide) (by decide) rfl (by decide +kernel) (by decide +kernel) (ea_cons ee_str (ea_cons ee_str (ea_cons ee_str (ea_cons ee_str (ea_cons ee_str (ea_cons ee_str ea_nil)))))) rfl))
      (pss_cons (ps_if (pt_cmpR (op_eqD B.room.units) (B.pv 1) pe_str (nomark _)) pss_ev pss_nil)
      (pss_cons (B.ps_set 2 (pe_op op_add pe_int (pe_draw B C (by decide) (im := 0) (by decide) (by decide) rfl (by decide +kernel) (by decide +kernel))))
      (pss_cons (ps_if (pt_cmpR (op_eqD B.room.units) (B.pv 1) pe_str (nomark _)) (pss_one (ps_ret (pe_tup (pa_cons pe_str (pa_cons (pe_tup (pa_cons (pe_callTy call_tuple_of (B.gl (by decide +kernel)) m_tuple (by decide +kernel) (pa_cons (pe_draws (im := 0) (iv := 9) B C (by decide) m_range rfl rfl (by decide) (by decide +kernel) (by decide +kernel) (by decide +kernel) (by decide +kernel) (by decide +kernel)) pa_nil)) pa_nil)) pa_ev))))) pss_nil)
      (pss_cons (B.ps_set 3 (pe_callTy call_tuple_of (B.gl (by decide +kernel)) m_tuple (by decide +kernel) (pa_cons (pe_rows (im := 0) (iv := 9) (ij := 10) B C (by decide) m_range m_tuple rfl rfl rfl (by decide) (by decide) (by decide) (by decide +kernel) (by decide +kernel) (by decide +kernel) (by decide +kernel) (by decide +kernel) (by decide +kernel) (by decide +kernel) (by decide +kernel) (by decide +kernel) (fun _ => rfl)) pa_nil)))
      (pss_cons (B.ps_set 4 (pe_at B C (by decide)))
      (pss_cons (ps_par3 (i := 5) (j := 6) (l := 7) B.calm (by rw [B.fN]; exact B.nd) (by rw [B.fN]; rfl) (by rw [B.fN]; rfl) (by rw [B.fN]; rfl) (by decide) (by decide) (by decide) (hloc (by decide +kernel)) (hloc (by decide +kernel)) (hloc (by decide +kernel))
          (pa_cons (pe_pick B C (by decide) (im := 0) (δ := [none, none, none, none, none, none, none, none, none, none, none]) (ds := [.int 1, .int (-1)]) (by decide) (by decide) rfl (by decide +kernel) (by decide +kernel) (ea_cons ee_int (ea_cons (ee_neg ee_int) ea_nil)) rfl)
          (pa_cons (pe_pick B C (by decide) (im := 0) (δ := [none, none, none, none, none, none, none, none, none, none, none]) (ds := [.int 1, .int 2, .int 4]) (by decide) (by decide) rfl (by decide +kernel) (by decide +kernel) (ea_cons ee_int (ea_cons ee_int (ea_cons ee_int ea_nil))) rfl)
          (pa_cons (pe_pick B C (by decide) (im := 0) (δ := [none, none, none, none, none, none, none, none, none, none, none]) (ds := [.int 1, .int (-1)]) (by decide) (by decide) rfl (by decide +kernel) (by decide +kernel) (ea_cons ee_int (ea_cons (ee_neg ee_int) ea_nil)) rfl) pa_nil))) ((swapped_scope (env' := envS (defScope (topS 48))) hSc).trans rfl))
      (pss_cons (B.ps_set 8 (pe_point B C (by decide)))
      (pss_one (ps_ret (pe_tup (pa_cons pe_ev (pa_cons pe_ev (pa_cons pe_ev (pa_cons pe_ev (pa_cons pe_ev (pa_cons pe_ev (pa_cons pe_ev (pa_cons (pe_cmpR (op_eqD B.room.units) (pe_draw B C (by decide) (im := 0) (by decide) (by decide) rfl (by decide +kernel) (by decide +kernel)) pe_int (nomark _)) pa_nil)))))))))))))))))), ?_⟩
    refine ⟨m, cq, l, n, rfl, eNil _ _, rg, by omega, fun i d v l1 H1 hd tv s1 rg1 => ?_⟩
    rw [List.getElem?_map] at hd
    obtain ⟨md, hmd, hd⟩ := Option.map_eq_some_iff.mp hd
    subst hd
    obtain rfl := tv.str_inv
    -- empty
    refine ⟨_, rfl, _, _, .str md.str, .str "empty", sh_mds md, by decide +kernel, ?_⟩
    rw [eqv_str, (md_dec md).1]
    refine ⟨_, rfl, ?_⟩
    by_cases c1 : md = .empty
    · rw [decide_eq_true c1]
      refine iteT ⟨[none, none, none, none, none, none, none, none, none, none, none], .rt EMP.d, es_fin (ee_tup (ea_cons ee_str (ea_cons (ee_tup ea_nil) (ea_cons (ee_tup ea_nil) (ea_cons ee_int (ea_cons ee_int (ea_cons ee_int (ea_cons ee_int (ea_cons ee_bool ea_nil))))))))) rfl, eNil _ _, fun v H' e t => hQ EMP v l1 H' ok_emp fin_emp (s1.same e) ((rg1.mono (by omega)).same e) t⟩
    rw [decide_eq_false c1]
    refine iteF ?_
    refine ⟨m, cq, l1, n + 1, rfl, rg1, by omega, fun r l2 H2 h0 hr s2 rg2 => ⟨1, r, rfl, rfl, ?_⟩⟩
    obtain ⟨rr, hrr⟩ := Int.eq_ofNat_of_zero_le h0
    subst hrr
    have esz : (1 : Int) + (rr : Int) = ((rr + 1 : Nat) : Int) := by omega
    rw [show ((fun i j => V.int (i + j)) (1 : Int) ((rr : Nat) : Int) : V) = V.int ((rr + 1 : Nat) : Int) from congrArg V.int esz]
    have hsz3 : rr + 1 ≤ 3 := by omega
    -- record
    refine ⟨_, rfl, _, _, .str md.str, .str "record", sh_mds md, by decide +kernel, ?_⟩
    rw [eqv_str, (md_dec md).2.1]
    refine ⟨_, rfl, ?_⟩
    by_cases c2 : md = .record
    · rw [decide_eq_true c2]
      refine iteT ?_
      refine ⟨[none, none, some (.int ((rr + 1 : Nat) : Int)), none, none, none, none, none, none, none, none], rr, m, cq, l2, n + 1 + 1, fun X' _ _ B' => (ee_sub (ee_name B' (i := 2) rfl rfl) ee_int).cast (congrArg PyData.int (by omega)), by omega, rfl, (by show 9 < 11; decide), dS rfl, rg2, by omega, fun xs p l3 H3 hx s3 rg3 _ _ _ _ hp => ?_⟩
      refine ⟨p, xs.map V.int, rfl, .inl ⟨.inl (.inl hp), fun q hq => ⟨(show 1 ≤ sizeLine by decide), fun q2 hq2 => ?_⟩⟩⟩
      have e1 : Same H3 (upd H3 q (.tup (xs.map V.int))) := same_new hq
      have e2 : Same (upd H3 q (.tup (xs.map V.int))) (upd (upd H3 q (.tup (xs.map V.int))) q2 (.tup [.ref q])) := same_new hq2
      have t2 : Tp X.K (upd (upd H3 q (.tup (xs.map V.int))) q2 (.tup [.ref q])) (.ref q2) (tL [xs]) := tp_new hq2 (.cons (tp_new hq (tpall_ints xs)) .nil)
      refine ⟨[none, none, none, none, none, none, none, none, none, none, none], [.tuple [], .int 0, .int 1, .int 2, .int 1, .bool false], ea_cons (ee_tup ea_nil) (ea_cons ee_int (ea_cons ee_int (ea_cons ee_int (ea_cons ee_int (ea_cons ee_bool ea_nil))))), eNil _ _, fun vs H4 e4 t4 => ⟨by show vs.length + 2 ≤ sizeLine; rw [t4.length]; decide, fun q3 hq3 => ?_⟩⟩
      have eall := e1.trans (e2.trans (e4.trans (same_new (o := .tup (V.str "record" :: .ref q2 :: vs)) hq3)))
      refine hQ ⟨.record, [xs], [], 0, 1, 2, 1, false⟩ _ l3 _ ⟨xs, by omega, rfl⟩ (fin_rec xs) (((s1.trans s2).trans s3).same eall) ((rg3.mono (by omega)).same eall) ?_
      exact tp_new hq3 (.cons (.str _) (.cons (t2.mono e4) t4))
    rw [decide_eq_false c2]
    refine iteF ?_
    refine ⟨[none, none, some (.int ((rr + 1 : Nat) : Int)), none, none, none, none, none, none, none, none], rr + 1, m, cq, l2, n + 1 + 1, fun X' _ _ B' => ee_name B' (i := 2) rfl rfl, hsz3, rfl, rfl, dS rfl, rg2, by omega, fun ra rb p l3 H3 vs ha hb s3 rg3 hp tvs => ?_⟩
    refine ⟨p, vs, rfl, .inl ⟨.inl (.inl hp), fun q hq => ?_⟩⟩
    have e3 : Same H3 (upd H3 q (.tup vs)) := same_new hq
    have tq : Tp X.K (upd H3 q (.tup vs)) (.ref q) (tL [ra, rb]) := tp_new hq tvs
    have s4 := ((s1.trans s2).trans s3).same e3
    have rg4 := rg3.same e3
    generalize upd H3 q (.tup vs) = H4 at s4 rg4 tq ⊢
    refine ⟨m, cq, l3, n + 1 + 1 + 2 * (rr + 1), md, rfl, rfl, rg4, by omega, fun av l5 H5 hav s5 rg5 => ?_⟩
    have tq5 := tq.kp (s5.kp rg4)
    refine ⟨m, cq, l5, _, rfl, eNil _ _, rg5, by omega, fun i1 d1 v1 l6 H6 hd1 tv1 s6 rg6 => ⟨m, cq, l6, _, rfl, eNil _ _, rg6, by omega, fun i2 d2 v2 l7 H7 hd2 tv2 s7 rg7 => ⟨m, cq, l7, _, rfl, eNil _ _, rg7, by omega, fun i3 d3 v3 l8 H8 hd3 tv3 s8 rg8 => ⟨_, _, _, rfl, ?_⟩⟩⟩⟩
    obtain ⟨wy, hwy, ew⟩ : ∃ wy : Int, (wy = 1 ∨ wy = -1) ∧ d1 = .int wy := by
      have hi : i1 < 2 := (List.getElem?_eq_some_iff.mp hd1).1
      have h2 : i1 = 0 ∨ i1 = 1 := by omega
      rcases h2 with z | z <;> subst z <;> cases hd1
      · exact ⟨1, .inl rfl, rfl⟩
      · exact ⟨-1, .inr rfl, rfl⟩
    obtain ⟨pc, hpc, ep⟩ : ∃ pc : Int, (pc = 1 ∨ pc = 2 ∨ pc = 4) ∧ d2 = .int pc := by
      have hi : i2 < 3 := (List.getElem?_eq_some_iff.mp hd2).1
      have h2 : i2 = 0 ∨ i2 = 1 ∨ i2 = 2 := by omega
      rcases h2 with z | z | z <;> subst z <;> cases hd2
      · exact ⟨1, .inl rfl, rfl⟩
      · exact ⟨2, .inr (.inl rfl), rfl⟩
      · exact ⟨4, .inr (.inr rfl), rfl⟩
    obtain ⟨sg, hsg, es⟩ : ∃ sg : Int, (sg = 1 ∨ sg = -1) ∧ d3 = .int sg := by
      have hi : i3 < 2 := (List.getElem?_eq_some_iff.mp hd3).1
      have h2 : i3 = 0 ∨ i3 = 1 := by omega
      rcases h2 with z | z <;> subst z <;> cases hd3
      · exact ⟨1, .inl rfl, rfl⟩
      · exact ⟨-1, .inr rfl, rfl⟩
    subst ew ep es
    obtain rfl := tv1.int_inv
    obtain rfl := tv2.int_inv
    obtain rfl := tv3.int_inv
    have tq8 := ((tq5.kp (s6.kp rg5)).kp (s7.kp rg6)).kp (s8.kp rg7)
    refine ⟨m, cq, l8, _, md, rr + 1, rfl, rfl, rfl, by omega, hsz3, rg8, by omega, fun pv l9 H9 hp0 hp1 hps s9 rg9 => ?_⟩
    have tq9 := tq8.kp (s9.kp rg8)
    have s09 := ((((((s4.trans s5).trans s6).trans s7).trans s8)).trans s9)
    let δ9 : Dl := [none, some (.str md.str), some (.int ((rr + 1 : Nat) : Int)), some (tL [ra, rb]), some (.int (av : Int)), some (.int wy), some (.int pc), some (.int sg), some (.int pv), none, none]
    have sl9 : ∀ (σ : L2.St) (H' : Hp), Same H9 H' → σ[1]? = some (some (.str md.str)) → σ[2]? = some (some (.int ((rr + 1 : Nat) : Int))) → σ[3]? = some (some (.ref q)) → σ[4]? = some (some (.int (av : Int))) → σ[5]? = some (some (.int wy)) → σ[6]? = some (some (.int pc)) → σ[7]? = some (some (.int sg)) → σ[8]? = some (some (.int pv)) → Sl X.K H' σ δ9 := fun σ H' e a1 a2 a3 a4 a5 a6 a7 a8 i d hd => by
      rcases i with _ | _ | _ | _ | _ | _ | _ | _ | _ | _ | _ | i
      · cases hd
      · cases hd; exact ⟨_, a1, .str _⟩
      · cases hd; exact ⟨_, a2, .int _⟩
      · cases hd; exact ⟨_, a3, tq9.mono e⟩
      · cases hd; exact ⟨_, a4, .int _⟩
      · cases hd; exact ⟨_, a5, .int _⟩
      · cases hd; exact ⟨_, a6, .int _⟩
      · cases hd; exact ⟨_, a7, .int _⟩
      · cases hd; exact ⟨_, a8, .int _⟩
      · cases hd
      · cases hd
      · simp [δ9] at hd
    have main : ∀ (ls us : List (List Int)), (cutD [tI ra, tI rb] none (some (av : Int))) = ls.map tI → (cutD [tI ra, tI rb] (some (av : Int)) none) = us.map tI → (ls ++ us.reverse = [ra, rb]) → (∀ x ∈ ls, x.length = rr + 1) → (∀ x ∈ us, x.length = rr + 1) → 1 ≤ ls.length → ls.length + us.length ≤ 4 → (md = .dub → us = [] ∧ 2 ≤ ls.length) →
        ∀ mu : Bool, Ok ⟨md, ls, us, pv, wy, pc, sg, mu⟩ ∧ Fin1 ⟨md, ls, us, pv, wy, pc, sg, mu⟩ := fun ls us _ _ hrev hl hu hne hle hdb mu => by
      have L : LoopOk ⟨md, ls, us, pv, wy, pc, sg, mu⟩ (rr + 1) := ⟨by omega, by omega, hl, hu, hne, hle, hp0, hp1, hps, hdb, hwy, hpc, hsg⟩
      have hm : md.loops = true := by cases md <;> first | rfl | (exact absurd rfl c1) | (exact absurd rfl c2)
      exact ⟨ok_of_loop hm L, fin_loop hm L hrev⟩
    have pick : ∃ ls us : List (List Int), (cutD [tI ra, tI rb] none (some (av : Int))) = ls.map tI ∧ (cutD [tI ra, tI rb] (some (av : Int)) none) = us.map tI ∧ ∀ mu : Bool, Ok ⟨md, ls, us, pv, wy, pc, sg, mu⟩ ∧ Fin1 ⟨md, ls, us, pv, wy, pc, sg, mu⟩ := by
      rcases hav with z | ⟨z, hnd⟩
      · subst z
        refine ⟨[ra, rb], [], rfl, rfl, main _ _ rfl rfl rfl (fun x hx => ?_) (fun x hx => nomatch hx) (Nat.le_of_ble_eq_true rfl) (Nat.le_of_ble_eq_true rfl) fun _ => ⟨rfl, Nat.le_of_ble_eq_true rfl⟩⟩
        rcases List.mem_cons.mp hx with y | y
        · rw [y]; exact ha
        · have : x = rb := by simpa using y
          rw [this]; exact hb
      · subst z
        refine ⟨[ra], [rb], rfl, rfl, main _ _ rfl rfl rfl (fun x hx => ?_) (fun x hx => ?_) (Nat.le_of_ble_eq_true rfl) (Nat.le_of_ble_eq_true rfl) fun y => absurd y hnd⟩
        · have : x = ra := by simpa using hx
          rw [this]; exact ha
        · have : x = rb := by simpa using hx
          rw [this]; exact hb
    obtain ⟨ls, us, hls, hus, hok⟩ := pick
    refine ⟨δ9, .str md.str, ee_name B (i := 1) rfl rfl, sl9 _ _ (Same.refl _) rfl rfl rfl rfl rfl rfl rfl rfl, fun u1 G1 f1 w1 => ?_⟩
    refine ⟨δ9, tL ls, (ee_sl (ee_name B (i := 3) rfl rfl) eo_none (eo_some (ee_name B (i := 4) rfl rfl))).cast (congrArg PyData.tuple hls), sl9 _ _ f1 rfl rfl rfl rfl rfl rfl rfl rfl, fun u2 G2 f2 w2 => ?_⟩
    refine ⟨δ9, tL us, (ee_sl (ee_name B (i := 3) rfl rfl) (eo_some (ee_name B (i := 4) rfl rfl)) eo_none).cast (congrArg PyData.tuple hus), sl9 _ _ (f1.trans f2) rfl rfl rfl rfl rfl rfl rfl rfl, fun u3 G3 f3 w3 => ?_⟩
    refine ⟨δ9, .int pv, ee_name B (i := 8) rfl rfl, sl9 _ _ (f1.trans (f2.trans f3)) rfl rfl rfl rfl rfl rfl rfl rfl, fun u4 G4 f4 w4 => ?_⟩
    refine ⟨δ9, .int wy, ee_name B (i := 5) rfl rfl, sl9 _ _ (f1.trans (f2.trans (f3.trans f4))) rfl rfl rfl rfl rfl rfl rfl rfl, fun u5 G5 f5 w5 => ?_⟩
    refine ⟨δ9, .int pc, ee_name B (i := 6) rfl rfl, sl9 _ _ (f1.trans (f2.trans (f3.trans (f4.trans f5)))) rfl rfl rfl rfl rfl rfl rfl rfl, fun u6 G6 f6 w6 => ?_⟩
    refine ⟨δ9, .int sg, ee_name B (i := 7) rfl rfl, sl9 _ _ (f1.trans (f2.trans (f3.trans (f4.trans (f5.trans f6))))) rfl rfl rfl rfl rfl rfl rfl rfl, fun u7 G7 f7 w7 => ?_⟩
    have fall := f1.trans (f2.trans (f3.trans (f4.trans (f5.trans (f6.trans f7)))))
    refine ⟨m, cq, l9, _, rfl, rg9.same fall, by omega, fun r l10 H10 h10 hr10 s10 rg10 => ?_⟩
    refine ⟨_, _, .int r, .int 0, rfl, rfl, ?_⟩
    rw [eqv_int]
    refine ⟨by show 8 ≤ sizeLine; decide, fun qf hqf => ?_⟩
    have ef : Same H10 (upd H10 qf (.tup [u1, u2, u3, u4, u5, u6, u7, .bl (decide (r = 0))])) := same_new hqf
    have kk := s10.kp (rg9.same fall)
    obtain ⟨ok, fin⟩ := hok (decide (r = 0))
    refine hQ ⟨md, ls, us, pv, wy, pc, sg, decide (r = 0)⟩ _ l10 _ ok fin ((s09.trans (s10.pre fall)).same ef) ((rg10.mono (by omega)).same ef) ?_
    have g7 := f7
    exact tp_new hqf (.cons ((w1.mono (f2.trans (f3.trans (f4.trans (f5.trans (f6.trans f7)))))).kp kk) (.cons ((w2.mono (f3.trans (f4.trans (f5.trans (f6.trans f7))))).kp kk) (.cons ((w3.mono (f4.trans (f5.trans (f6.trans f7)))).kp kk) (.cons ((w4.mono (f5.trans (f6.trans f7))).kp kk) (.cons ((w5.mono (f6.trans f7)).kp kk) (.cons ((w6.mono f7).kp kk) (.cons (w7.kp kk) (.cons (.bl _) .nil))))))))
end
end K53
end
section
set_option maxRecDepth 100000
set_option maxHeartbeats 4000000
/-! _law_way: the law's own search. -/
namespace K53
open PySem PySem.Spec PyProof.Rows L2
def pairD (x : Trk × Way) : PyData := .tuple [wayD x.2, x.1.d]
abbrev N_lw : List Str := ["track", "goal", "most", "rows", "seen", "presses", "turn", "good", "row", "here", "further", "press", "other"]
theorem sc_lw : FnScope N_lw ["track", "goal", "most"] (defScope (topS 50)) := ⟨rfl, rfl, rfl, by decide +kernel, rfl, by decide +kernel, by decide +kernel⟩
def lwTurn : List Stmt := forBody (stAt (defBody (topS 50)) 1)
def lwRow : List Stmt := forBody (stAt lwTurn 3)
def lwPress : List Stmt := forBody (stAt lwRow 0)
abbrev e1 (t g : Trk) : Dl := [some t.d, some g.d, none, none, none, none, none, none, none, none, none, none, none]
abbrev e9 (t g : Trk) (x : Trk × Way) : Dl := [some t.d, some g.d, none, none, none, none, none, none, some (wayD x.2), some x.1.d, none, none, none]
abbrev e11 (t g : Trk) (x : Trk × Way) (p : Pr) : Dl := [some t.d, some g.d, none, none, none, none, none, none, some (wayD x.2), some x.1.d, none, some p.d, none]
abbrev e12 (t g : Trk) (x : Trk × Way) (p : Pr) : Dl := [some t.d, some g.d, none, none, none, none, none, none, some (wayD x.2), some x.1.d, none, some p.d, some (step x.1 p).d]
structure In2 (X : Cx) (H0 : Hp) (δ : Dl) (D F p3 p5 : Addr) (l0 : Kn) (st : Sb) (σ : L2.St) (H : Hp) : Prop where
  len : σ.length = 13
  sm : Same H0 H
  fD : H0 D = none
  fF : H0 F = none
  tr : Sl X.K H σ δ
  r3 : σ[3]? = some (some (.ref p3))
  r4 : σ[4]? = some (some (.ref D))
  r5 : σ[5]? = some (some (.ref p5))
  r10 : σ[10]? = some (some (.ref F))
  dict : DictAt X.prog X.w X.K rTrue H D st.1
  lay : ∃ xs, H p3 = some (.lst xs) ∧ TpAll X.K H xs (l0.map pairD)
  pres : ∃ xs, H p5 = some (.lst xs) ∧ TpAll X.K H xs (prs.map Pr.d)
  fur : ∃ xs, H F = some (.lst xs) ∧ TpAll X.K H xs (st.2.map pairD)
  n3 : F ≠ p3
  n5 : F ≠ p5
section
variable {X : Cx} {H0 H H' : Hp} {δ δ' : Dl} {D F p3 p5 : Addr} {l0 : Kn} {st : Sb} {σ : L2.St} {k : Nat} {N : List Str} {sc : Scope}
theorem In2.same (h : In2 X H0 δ D F p3 p5 l0 st σ H) (e : Same H H') : In2 X H0 δ D F p3 p5 l0 st σ H' :=
  { h with sm := h.sm.trans e, tr := h.tr.mono e, dict := h.dict.same kpr_true e, lay := let ⟨xs, a, b⟩ := h.lay; ⟨xs, e _ _ a, b.mono e⟩, pres := let ⟨xs, a, b⟩ := h.pres; ⟨xs, e _ _ a, b.mono e⟩, fur := let ⟨xs, a, b⟩ := h.fur; ⟨xs, e _ _ a, b.mono e⟩ }
theorem In2.slot (h : In2 X H0 δ D F p3 p5 l0 st σ H) {i : Nat} (hi : 6 ≤ i) (hi2 : i ≠ 10) {u : Option V} (ht : Sl X.K H (σ.set i u) δ') : In2 X H0 δ' D F p3 p5 l0 st (σ.set i u) H :=
  { h with len := by rw [List.length_set]; exact h.len, tr := ht, r3 := by rw [List.getElem?_set_ne (by omega)]; exact h.r3, r4 := by rw [List.getElem?_set_ne (by omega)]; exact h.r4, r5 := by rw [List.getElem?_set_ne (by omega)]; exact h.r5, r10 := by rw [List.getElem?_set_ne (by omega)]; exact h.r10 }
theorem In2.weak (h : In2 X H0 δ D F p3 p5 l0 st σ H) (w : ∀ (i : Nat) (d : PyData), δ'[i]? = some (some d) → δ[i]? = some (some d)) : In2 X H0 δ' D F p3 p5 l0 st σ H := { h with tr := h.tr.weak w }
theorem e12_11 {t g : Trk} {x : Trk × Way} {p : Pr} : ∀ (i : Nat) (d : PyData), (e11 t g x p)[i]? = some (some d) → (e12 t g x p)[i]? = some (some d) := fun i d e => by
  rcases i with _ | _ | _ | _ | _ | _ | _ | _ | _ | _ | _ | _ | _ | i <;> first | exact e | (cases e; done) | (simp at e; done)
theorem e11_9 {t g : Trk} {x : Trk × Way} {p : Pr} : ∀ (i : Nat) (d : PyData), (e9 t g x)[i]? = some (some d) → (e11 t g x p)[i]? = some (some d) := fun i d e => by
  rcases i with _ | _ | _ | _ | _ | _ | _ | _ | _ | _ | _ | _ | _ | i <;> first | exact e | (cases e; done) | (simp at e; done)
theorem e9_1 {t g : Trk} {x : Trk × Way} : ∀ (i : Nat) (d : PyData), (e1 t g)[i]? = some (some d) → (e9 t g x)[i]? = some (some d) := fun i d e => by
  rcases i with _ | _ | _ | _ | _ | _ | _ | _ | _ | _ | _ | _ | _ | i <;> first | exact e | (cases e; done) | (simp at e; done)
def argE : Stmt → Expr
  | .Expr (.Call _ (e :: _) _ _) _ => e
  | _ => .Constant (.int 0) 0 ⟨0, 0, 0, 0⟩
theorem tr_press2 (B : BX X N_lw (defScope (topS 50)) k) (hk : 3 ≤ k) (C_led : CalW X.w X.K X.mg "_law_led" 2 3 (spD X.K fLed)) {t g : Trk} {x : Trk × Way} {p : Pr} (ok : Ok x.1) (hz : st.1.length < 20000) (hw : x.2.length < 900) (hf : st.2.length ≤ st.1.length) :
    Tr X lwPress (In2 X H0 (e11 t g x p) D F p3 p5 l0 st) (In2 X H0 (e11 t g x p) D F p3 p5 l0 (visit st x.1 x.2 p)) := by
  have E1 : EvE X (e11 t g x p) (valE (stAt lwPress 0)) (step x.1 p).d := ee_callW B C_led hk (by decide +kernel) (ea_cons (ee_name B (i := 9) rfl rfl) (ea_cons (ee_name B (i := 11) rfl rfl) ea_nil)) ⟨x.1, p, ok, rfl, rfl⟩
  have E2 : EvE X (e12 t g x p) (argE (stAt (ifBody (stAt lwPress 1)) 1)) (pairD (step x.1 p, x.2 ++ [p])) := (ee_tup (ea_cons (ee_cat (xs := x.2.map Pr.d) (ys := [p.d]) (ee_name B (i := 8) rfl rfl) (ee_tup (ea_cons (ee_name B (i := 11) rfl rfl) ea_nil)) (by rw [List.length_map]; show x.2.length + 1 ≤ 1000; omega)) (ea_cons (ee_name B (i := 12) rfl rfl) ea_nil))).cast (by
    unfold pairD wayD; rw [List.map_append]; rfl)
  refine Tr.of (pss_cons (B.ps_set 12 pe_ev) (pss_one (ps_if (pt_cmpR (op_notIn_dict B.room.units) (B.pv 12) (B.pv 4) rfl) (pss_cons (ps_putT B.room.units (B.pv 4) (B.pv 12) pe_bl) (pss_one (ps_expr (pe_bm PySem.F.plainAttrs_list PySem.F.slot_list_append PySem.F.type_list_append mt_append (B.pv 10) (pa_cons pe_ev pa_nil))))) pss_nil))) fun σ H D' hI hQ => ?_
  refine ⟨_, _, E1, hI.tr, fun v H1 f1 t1 => ?_⟩
  have h1 : In2 X H0 (e12 t g x p) D F p3 p5 l0 st (σ.set 12 (some v)) H1 := (hI.same f1).slot (by decide) (by decide) ((hI.tr.mono f1).set t1 (by rw [hI.len]; decide))
  have h12 : (σ.set 12 (some v))[12]? = some (some v) := List.getElem?_set_self (by rw [hI.len]; decide)
  have hv : (visit st x.1 x.2 p) = if step x.1 p ∈ keys st.1 then st else (st.1 ++ [(step x.1 p, x.2 ++ [p])], st.2 ++ [(step x.1 p, x.2 ++ [p])]) := rfl
  refine ⟨v, h12, .ref D, h1.r4, D, step x.1 p, st.1, rTrue, t1, rfl, h1.dict, ?_⟩
  refine ⟨_, rfl, ?_⟩
  by_cases c : step x.1 p ∈ keys st.1
  · rw [decide_eq_true c]
    refine iteF (hQ _ _ ?_)
    rw [hv, if_pos c]; exact h1.weak e12_11
  · rw [decide_eq_false c]
    refine iteT ?_
    obtain ⟨ka, ys, rfl, g1, g2⟩ := Tp.tup_inv (ds := (step x.1 p).fs) t1
    refine ⟨.ref D, h1.r4, .ref ka, h12, D, ka, step x.1 p, x.2 ++ [p], st.1, rTrue, rfl, rfl, t1, kpr_true, h1.dict, c, hz, rfl, rfl, fun u r => r, fun H4 f2 f3 f4 => ?_⟩
    obtain ⟨fx, hfx, tfx⟩ := h1.fur
    have nD : ∀ {q : Addr} {zs : List V}, H1 q = some (.lst zs) → q ≠ D := fun {q zs} hq e => by
      obtain ⟨xs, hd, _⟩ := h1.dict
      rw [e, hd] at hq; cases hq
    have hF4 : H4 F = some (.lst fx) := (f2 F (nD hfx)).trans hfx
    have lfx : fx.length = st.2.length := by rw [tfx.length, List.length_map]
    refine ⟨.ref F, h1.r10, .inl ⟨rfl, fx, .inl (.inl hF4)⟩, _, _, E2, h1.tr.kp f3, fun y H5 f5 ty => ?_⟩
    have hF5 : H5 F = some (.lst fx) := f5 _ _ hF4
    have kp2 : Kp H5 (upd H5 F (.lst (fx ++ [y]))) := kp_mut (fun xs z => by rw [hF5] at z; cases z) (fun ob u z => by rw [hF5] at z; cases z)
    refine ⟨F, fx, y, rfl, rfl, hF5, by rw [lfx]; exact Nat.lt_of_le_of_lt hf (Nat.lt_trans hz (by decide)), hQ _ _ ?_⟩
    rw [hv, if_neg c]
    have keep : ∀ {q : Addr} {zs : List V}, H1 q = some (.lst zs) → F ≠ q → upd H5 F (.lst (fx ++ [y])) q = some (.lst zs) := fun {q zs} hq hn => by
      rw [upd_ne (Ne.symm hn)]; exact f5 _ _ ((f2 q (nD hq)).trans hq)
    have kpp : Kp H1 (upd H5 F (.lst (fx ++ [y]))) := (f3.trans (Kp.of f5)).trans kp2
    exact { h1 with
      sm := fun a u ha => by
        have n1 : a ≠ F := fun e => by rw [e, h1.fF] at ha; cases ha
        have n2 : a ≠ D := fun e => by rw [e, h1.fD] at ha; cases ha
        rw [upd_ne n1]; exact f5 _ _ ((f2 a n2).trans (h1.sm a u ha))
      tr := (Sl.kp kpp h1.tr).weak e12_11
      dict := (f4.same kpr_true f5).kp kpr_true kp2 (upd_ne (Ne.symm (nD hfx)))
      lay := let ⟨xs, a, b⟩ := h1.lay; ⟨xs, keep a h1.n3, b.kp kpp⟩
      pres := let ⟨xs, a, b⟩ := h1.pres; ⟨xs, keep a h1.n5, b.kp kpp⟩
      fur := ⟨fx ++ [y], upd_same, by
        show TpAll X.K _ _ ((st.2 ++ [(step x.1 p, x.2 ++ [p])]).map pairD)
        rw [List.map_append]
        exact (tfx.kp kpp).append (.cons (ty.kp kp2) .nil)⟩ }
theorem tr_row (B : BX X N_lw (defScope (topS 50)) k) (hk : 3 ≤ k) (C_led : CalW X.w X.K X.mg "_law_led" 2 3 (spD X.K fLed)) {t g : Trk} {x : Trk × Way} (ok : Ok x.1) (hz : (expand st x prs).1.length < 20000) (hw : x.2.length < 900) (hf : st.2.length ≤ st.1.length) :
    Tr X lwRow (In2 X H0 (e9 t g x) D F p3 p5 l0 st) (In2 X H0 (e9 t g x) D F p3 p5 l0 (expand st x prs)) := by
  refine TrS.one ?_
  refine tr_for B (i := 5) (j := 11) (p := p5) (n := prs.length) (P := fun m => In2 X H0 (e9 t g x) D F p3 p5 l0 (expand st x (prs.take m))) rfl rfl (by decide +kernel) (by decide +kernel) (fun σ H h => ⟨h.r5, h⟩) (fun m σ H h => ?_) (fun m hm => ?_) (fun σ H h => by rw [List.take_length] at h; exact h)
  · obtain ⟨xs, a, b⟩ := h.pres
    exact ⟨xs, a, by rw [b.length, List.length_map]⟩
  · have hp : prs[m]? = some prs[m] := List.getElem?_eq_getElem hm
    have ex1 := expand_take (st := st) (x := x) hp
    have len1 : (expand st x (prs.take m)).1.length ≤ (expand st x prs).1.length := by
      have e2 : expand st x prs = expand (expand st x (prs.take m)) x (prs.drop m) := by
        conv => lhs; rw [← List.take_append_drop m prs]
        unfold expand; rw [List.foldl_append]
      rw [e2]; exact len_expand _
    refine (tr_press2 (H0 := H0) (D := D) (F := F) (p3 := p3) (p5 := p5) (l0 := l0) B hk C_led (t := t) (g := g) (x := x) (p := prs[m]) (st := expand st x (prs.take m)) ok (Nat.lt_of_le_of_lt len1 hz) hw (len2_expand _ hf)).weak (fun σ H ⟨σ0, v, xs, q, hx, hv, es⟩ => ?_) (fun σ H q => ?_)
    · subst es
      obtain ⟨ys, a, b⟩ := q.pres
      rw [hx] at a; cases a
      obtain ⟨v', hv', tv⟩ := b.get (i := m) (d := prs[m].d) (by rw [List.getElem?_map, hp]; rfl)
      rw [hv] at hv'; cases hv'
      exact q.slot (by decide) (by decide) (q.tr.set tv (by rw [q.len]; decide))
    · rw [ex1]; exact q.weak e11_9
end
end K53
end
section
set_option maxRecDepth 100000
set_option maxHeartbeats 4000000
/-! _law_way: turns, the def. -/
namespace K53
open PySem PySem.Spec PyProof.Rows L2
/-- a block with returns -/
structure TrR (X : Cx) (sts : List Stmt) (Pre Post : L2.St → Hp → Prop) (Ret : V → Hp → Prop) : Prop where
  run : ∀ (pins : List (Addr × Obj)) (s : Shared) (σ : L2.St) (H : Hp) (D : Ends), Inv X pins σ H s → Pre σ H → (∀ σ' H', Post σ' H' → D.nx σ' H') → (∀ v H', Ret v H' → D.rt v H') → wpAny (model X.prog X.w) X.A (execs sts X.env) (SP X pins D) X.xe s
def tTrR (X : Cx) (sts : List Stmt) : TS := fun D σ H => ∃ Pre Post Ret, TrR X sts Pre Post Ret ∧ Pre σ H ∧ (∀ σ' H', Post σ' H' → D.nx σ' H') ∧ ∀ v H', Ret v H' → D.rt v H'
theorem pss_trr {X : Cx} {sts : List Stmt} : PSs X sts (tTrR X sts) := ⟨fun pins s σ H D I h => let ⟨_, _, _, h1, h2, h3, h4⟩ := h; h1.run pins s σ H D I h2 h3 h4⟩
theorem TrR.of {X : Cx} {sts : List Stmt} {t : TS} {Pre Post : L2.St → Hp → Prop} {Ret : V → Hp → Prop} (h : PSs X sts t) (q : ∀ (σ : L2.St) (H : Hp) (D : Ends), Pre σ H → (∀ σ' H', Post σ' H' → D.nx σ' H') → (∀ v H', Ret v H' → D.rt v H') → t D σ H) : TrR X sts Pre Post Ret :=
  ⟨fun pins s σ H D I hp hq hr => h.run pins s σ H D I (q σ H D hp hq hr)⟩
section
variable {X : Cx} {H0 H H' : Hp} {δ δ' : Dl} {D F p3 p5 : Addr} {kn l0 : Kn} {st : Sb} {σ : L2.St} {k : Nat} {N : List Str} {sc : Scope} {t g : Trk} {K : PySem.W.Frag} {mg : Str → Option Value} {w : World}
/-- a loop over a list that stands in a slot, several targets -/
theorem tr_forT (B : BX X N sc k) {i : Nat} (is : List Nat) (ds : Nat → List PyData) {x : Str} {tg : Expr} {ix pos : Pos} {body : List Stmt} {p : Addr} {n : Nat} {P : Nat → L2.St → Hp → Prop} {Pre Post : L2.St → Hp → Prop} (hNi : N[i]? = some x) (hg : PG X tg (gTup X.K is.length (gNs is))) (hv : visB sc x = true)
    (h0 : ∀ σ H, Pre σ H → σ[i]? = some (some (.ref p)) ∧ P 0 σ H) (hls : ∀ m σ H, P m σ H → ∃ xs, H p = some (.lst xs) ∧ xs.length = n)
    (htup : ∀ m σ H xs v, P m σ H → H p = some (.lst xs) → xs[m]? = some v → Tp X.K H v (.tuple (ds m)) ∧ (ds m).length = is.length)
    (step : ∀ m, m < n → Tr X body (fun σ H => ∃ σ0 vs, P m σ0 H ∧ TpAll X.K H vs (ds m) ∧ σ = setV σ0 is vs) (P (m + 1))) (hd : ∀ σ H, P n σ H → Post σ H)
    (h1 : (x == ("__debug__" : Str)) = false := by decide) (h2 : (x == ("__classdict__" : Str)) = false := by decide) : TrS X (.For tg (.Name x ix) body [] pos) Pre Post := by
  refine TrS.of (ps_for B.own B.calm (pi_list (tg := tg) (pe_var (by rw [B.fN]; exact hNi) (B.vis hv) h1 h2)) hg pss_tr (by intro _; rfl)) fun σ H D hp hq => ?_
  obtain ⟨e1, q0⟩ := h0 σ H hp
  obtain ⟨xs0, l0, _⟩ := hls 0 σ H q0
  refine ⟨.ref p, e1, p, rfl, ⟨xs0, .inl (.inl l0)⟩, fun m k σ' H' => k = n - m ∧ m ≤ n ∧ P m σ' H', ⟨_, rfl, Nat.zero_le _, q0⟩, ?_⟩
  rintro m k σ' H' ⟨rfl, hle, q⟩
  obtain ⟨xs, hx, hn⟩ := hls m σ' H' q
  by_cases c : m < n
  · obtain ⟨v0, hm⟩ : ∃ v, xs[m]? = some v := ⟨_, List.getElem?_eq_getElem (by rw [hn]; exact c)⟩
    refine .inr ⟨⟨xs, v0, .inl (.inl hx), hm⟩, P (m + 1), fun σ3 H3 p3 => ⟨n - (m + 1), by omega, rfl, c, p3⟩, fun v H2 yl => ?_⟩
    obtain ⟨rfl, yl⟩ := yl
    have ev := yl xs (.inl (.inl hx))
    obtain ⟨tv, hl⟩ := htup m σ' H2 xs v q hx ev
    obtain ⟨a, vs, rfl, hsq, tvs⟩ := tv.tup_inv
    have hl2 : vs.length = is.length := tvs.length.trans hl
    exact ⟨a, vs, rfl, hsq, hl2, gNs_ok hl2 ⟨_, _, step m c, ⟨σ', vs, q, tvs, rfl⟩, fun _ _ z => z⟩⟩
  · have em : m = n := by omega
    subst em
    exact .inl ⟨⟨xs, .inl (.inl hx), by rw [hn]; exact Nat.le_refl _⟩, hq _ _ (hd _ _ q)⟩
theorem tr_rows (B : BX X N_lw (defScope (topS 50)) k) (hk : 3 ≤ k) (C_led : CalW X.w X.K X.mg "_law_led" 2 3 (spD X.K fLed)) (ok : ∀ x ∈ l0, Ok x.1) (hz : (layered st l0).1.length < 20000) (hw : ∀ x ∈ l0, x.2.length < 900) (hf : st.2.length ≤ st.1.length) :
    TrS X (stAt lwTurn 3) (In2 X H0 (e1 t g) D F p3 p5 l0 st) (In2 X H0 (e1 t g) D F p3 p5 l0 (layered st l0)) := by
  refine tr_forT B (i := 3) [8, 9] (fun m => match l0[m]? with | some x => [wayD x.2, x.1.d] | none => []) (p := p3) (n := l0.length) (P := fun m => In2 X H0 (e1 t g) D F p3 p5 l0 (layered st (l0.take m))) rfl (pg_tup B.calm (pgs_cons (B.pgn (i := 8) rfl (by decide +kernel)) (pgs_cons (B.pgn (i := 9) rfl (by decide +kernel)) pgs_nil))) (by decide +kernel) (fun σ H h => ⟨h.r3, h⟩) (fun m σ H h => ?_) (fun m σ H xs v h hx hv => ?_) (fun m hm => ?_) (fun σ H h => by rw [List.take_length] at h; exact h)
  · obtain ⟨xs, a, b⟩ := h.lay
    exact ⟨xs, a, by rw [b.length, List.length_map]⟩
  · obtain ⟨ys, a, b⟩ := h.lay
    rw [hx] at a; cases a
    have hm : m < l0.length := by
      have := (List.getElem?_eq_some_iff.mp hv).1
      rw [b.length, List.length_map] at this; exact this
    obtain ⟨x, hp⟩ : ∃ x, l0[m]? = some x := ⟨_, List.getElem?_eq_getElem hm⟩
    obtain ⟨v', hv', tv⟩ := b.get (i := m) (d := pairD x) (by rw [List.getElem?_map, hp]; rfl)
    rw [hv] at hv'; cases hv'
    rw [hp]
    exact ⟨tv, rfl⟩
  · obtain ⟨x, hp⟩ : ∃ x, l0[m]? = some x := ⟨_, List.getElem?_eq_getElem hm⟩
    have hmem : x ∈ l0 := List.mem_of_getElem? hp
    have ex1 := layered_take (st := st) hp
    have len1 : (expand (layered st (l0.take m)) x prs).1.length ≤ (layered st l0).1.length := by
      rw [← ex1]
      have e2 : layered st l0 = layered (layered st (l0.take (m + 1))) (l0.drop (m + 1)) := by
        conv => lhs; rw [← List.take_append_drop (m + 1) l0]
        unfold layered; rw [List.foldl_append]
      rw [e2]; exact len_layered _
    have l2 := len2_layered (l0.take m) hf
    have hok := ok _ hmem
    have hwm := hw _ hmem
    rw [hp]
    show Tr X lwRow (fun σ H => ∃ σ0 vs, In2 X H0 (e1 t g) D F p3 p5 l0 (layered st (l0.take m)) σ0 H ∧ TpAll X.K H vs [wayD x.2, x.1.d] ∧ σ = setV σ0 [8, 9] vs) (In2 X H0 (e1 t g) D F p3 p5 l0 (layered st (l0.take (m + 1))))
    rw [ex1]
    generalize layered st (l0.take m) = S at l2 len1 ⊢
    have T := tr_row (H0 := H0) (D := D) (F := F) (p3 := p3) (p5 := p5) (l0 := l0) B hk C_led (t := t) (g := g) (x := x) (st := S) hok (Nat.lt_of_le_of_lt len1 hz) hwm l2
    generalize expand S x prs = S' at T ⊢
    refine T.weak (fun σ H ⟨σ0, vs, q, tvs, es⟩ => ?_) (fun σ H q => q.weak e9_1)
    subst es
    cases tvs with
    | cons ta tb =>
      cases tb with
      | cons tb tc =>
        cases tc
        have q8 := q.slot (i := 8) (δ' := (e1 t g).set 8 (some (wayD x.2))) (by decide) (by decide) (q.tr.set ta (by rw [q.len]; decide))
        exact q8.slot (i := 9) (by decide) (by decide) (q8.tr.set tb (by rw [q8.len]; decide))
end
end K53
end
section
set_option maxRecDepth 100000
set_option maxHeartbeats 4000000
/-! _law_way: a turn. -/
namespace K53
open PySem PySem.Spec PyProof.Rows L2
def fil (l : Kn) (g : Trk) : List Way := (l.filter fun x => decide (x.1 = g)).map (·.2)
theorem fil_look (g : Trk) : ∀ l : Kn, (fil l g).head? = look l g
  | [] => rfl
  | (u, p) :: l => by
    unfold fil look
    by_cases c : u = g
    · rw [List.filter_cons_of_pos (by simpa using c), if_pos c]; rfl
    · rw [List.filter_cons_of_neg (by simpa using c), if_neg c]; exact fil_look g l
theorem fil_take {l : Kn} {g : Trk} {i : Nat} {x : Trk × Way} (h : l[i]? = some x) : fil (l.take (i + 1)) g = if x.1 = g then fil (l.take i) g ++ [x.2] else fil (l.take i) g := by
  unfold fil
  rw [List.take_add_one, h, List.filter_append]
  show List.map _ (_ ++ List.filter _ [x]) = _
  by_cases c : x.1 = g
  · rw [if_pos c, List.filter_cons_of_pos (by simpa using c), List.map_append]; rfl
  · rw [if_neg c, List.filter_cons_of_neg (by simpa using c), List.filter_nil, List.append_nil]
theorem fil_len (l : Kn) (g : Trk) : (fil l g).length ≤ l.length := by
  unfold fil; rw [List.length_map]; exact List.length_filter_le _ _
theorem lay_ways : ∀ ps : List Way, PyData.canLayAll0 (ps.map wayD) = true
  | [] => rfl
  | p :: ps => by
    show (PyData.canLay0 (wayD p) && PyData.canLayAll0 (ps.map wayD)) = true
    rw [show PyData.canLay0 (wayD p) = true from lay_way p, lay_ways ps]; rfl
theorem dep_ways : ∀ ps : List Way, PyData.depthAll (ps.map wayD) ≤ 2
  | [] => Nat.zero_le _
  | p :: ps => by
    show max (PyData.depthAll (p.map Pr.d) + 1) (PyData.depthAll (ps.map wayD)) ≤ 2
    have h1 := dep_way p
    have h2 := dep_ways ps
    omega
structure Ws2 (X : Cx) (H0 : Hp) (t g : Trk) (kn l0 : Kn) (σ : L2.St) (H : Hp) : Prop where
  len : σ.length = 13
  sm : Same H0 H
  tr : Sl X.K H σ (e1 t g)
  dict : ∃ D, H0 D = none ∧ σ[4]? = some (some (.ref D)) ∧ DictAt X.prog X.w X.K rTrue H D kn
  lay : LsAt X.K 3 (l0.map pairD) σ H
  pres : LsAt X.K 5 (prs.map Pr.d) σ H
section
variable {X : Cx} {H0 H H' : Hp} {δ δ' : Dl} {D F p3 p5 : Addr} {kn l0 : Kn} {st : Sb} {σ : L2.St} {k : Nat} {N : List Str} {sc : Scope} {t g : Trk} {K : PySem.W.Frag} {mg : Str → Option Value} {w : World}
theorem Ws2.same (h : Ws2 X H0 t g kn l0 σ H) (e : Same H H') : Ws2 X H0 t g kn l0 σ H' :=
  ⟨h.len, h.sm.trans e, h.tr.mono e, let ⟨D, a, b, c⟩ := h.dict; ⟨D, a, b, c.same kpr_true e⟩, h.lay.mono e, h.pres.mono e⟩
theorem Ws2.slot (h : Ws2 X H0 t g kn l0 σ H) {i : Nat} (hi : 6 ≤ i) {u : Option V} : Ws2 X H0 t g kn l0 (σ.set i u) H :=
  ⟨by rw [List.length_set]; exact h.len, h.sm, (h.tr.clear i u).weak (fun a d e => by
    rcases a with _ | _ | a
    · rw [List.getElem?_set_ne (by omega)]; exact e
    · rw [List.getElem?_set_ne (by omega)]; exact e
    · exfalso
      rcases a with _ | _ | _ | _ | _ | _ | _ | _ | _ | _ | _ | a <;> first | (cases e; done) | (simp at e; done)), let ⟨D, a, b, c⟩ := h.dict; ⟨D, a, by rw [List.getElem?_set_ne (by omega)]; exact b, c⟩, let ⟨p, xs, a, b, c⟩ := h.lay; ⟨p, xs, by rw [List.getElem?_set_ne (by omega)]; exact a, b, c⟩, let ⟨p, xs, a, b, c⟩ := h.pres; ⟨p, xs, by rw [List.getElem?_set_ne (by omega)]; exact a, b, c⟩⟩
theorem ps_good (B : BX X N_lw (defScope (topS 50)) k) (hSc : X.env.scope = defScope (topS 50)) : PS X (stAt lwTurn 0) (tAsg (tLc (iList X.K (tVar 3)) (gTup X.K 2 (gNs [8, 9])) (tTest (tOp (rEqD X.K) (tVar 9) (tVar 1))) (tVar 8) ([(("row" : Str), 8), ("here", 9)].map (·.2))) (gName 7)) :=
  ps_setLc (i := 7) (own := [("row", 8), ("here", 9)]) B.calm (by rw [B.fN]; exact B.nd) (by rw [B.fN]; rfl) (by rw [hSc]; decide +kernel) ((swaps_scope (env' := envS (defScope (topS 50))) hSc).trans rfl) (pi_list (B.pv 3)) (B.blkOk (by decide +kernel))
      (fun s H C cl fp => pg_tup (B.blk _ s H C cl fp).calm (pgs_cons ((B.blk _ s H C cl fp).pgn (i := 8) rfl (by decide +kernel)) (pgs_cons ((B.blk _ s H C cl fp).pgn (i := 9) rfl (by decide +kernel)) pgs_nil)))
      (fun s H C cl fp => pts_one (pt_cmpR (op_eqD (B.blk _ s H C cl fp).room.units) ((B.blk _ s H C cl fp).pv 9) ((B.blk _ s H C cl fp).pv 1) (nomark _))) (fun s H C cl fp => (B.blk _ s H C cl fp).pv 8)
theorem tr_turn (B : BX X N_lw (defScope (topS 50)) k) (hSc : X.env.scope = defScope (topS 50)) (hk : 3 ≤ k) (C_led : CalW X.w X.K X.mg "_law_led" 2 3 (spD X.K fLed)) (ok : ∀ x ∈ l0, Ok x.1) (hz : (layered (kn, []) l0).1.length < 20000) (hz2 : l0.length < 20000) (hw : ∀ x ∈ l0, x.2.length < 900) :
    TrR X lwTurn (Ws2 X H0 t g kn l0) (fun σ H => look l0 g = none ∧ Ws2 X H0 t g (layered (kn, []) l0).1 (layered (kn, []) l0).2 σ H) (fun v H' => ∃ p, look l0 g = some p ∧ Tp X.K H' v (wayD p) ∧ Same H0 H') := by
  refine TrR.of (pss_cons (ps_good B hSc)
    (pss_cons (ps_if (pt_cmpR (op_neD B.room.units) (B.pv 7) (pe_lst pa_nil) (nomark _)) (pss_one (ps_ret (pe_ix ix_list (B.pv 7) pe_int (fun _ _ => rfl)))) pss_nil)
    (pss_cons (B.ps_set 10 (pe_lst pa_nil)) (pss_cons ps_trs (pss_one (B.ps_set 3 (B.pv 10))))))) fun σ H E h hq hret => ?_
  obtain ⟨p3, xs3, r3, h3, t3⟩ := h.lay
  refine ⟨.ref p3, r3, p3, rfl, ⟨xs3, .inl (.inl h3)⟩, fun L hL => ?_⟩
  refine ⟨fun i μ H' => μ = l0.length - i ∧ i ≤ l0.length ∧ Same H H' ∧ ∃ acc, H' L = some (.lst acc) ∧ TpAll X.K H' acc ((fil (l0.take i) g).map wayD), ⟨_, rfl, Nat.zero_le _, same_new hL, [], upd_same, .nil⟩, ?_⟩
  rintro i μ H' ⟨rfl, hi, e, acc, ha, ta⟩
  have hsq : SqL X.K H' p3 xs3 := .inl (.inl (e _ _ h3))
  have hxl : xs3.length = l0.length := by rw [t3.length, List.length_map]
  by_cases c : i < l0.length
  · obtain ⟨x, hp⟩ : ∃ x, l0[i]? = some x := ⟨_, List.getElem?_eq_getElem c⟩
    obtain ⟨v, hv, tv⟩ := t3.get (i := i) (d := pairD x) (by rw [List.getElem?_map, hp]; rfl)
    refine .inr ⟨⟨xs3, v, hsq, hv⟩, fun H3 => Same H H3 ∧ ∃ acc, H3 L = some (.lst acc) ∧ TpAll X.K H3 acc ((fil (l0.take (i + 1)) g).map wayD), fun H3 ⟨q1, q2⟩ => ⟨l0.length - (i + 1), by omega, rfl, c, q1, q2⟩, fun v' H2 yl => ?_⟩
    obtain ⟨rfl, yl⟩ := yl
    have hv2 := yl xs3 hsq
    rw [hv] at hv2; cases hv2
    obtain ⟨a, vs, rfl, g1, g2⟩ := Tp.tup_inv (ds := [wayD x.2, x.1.d]) (tv.mono e)
    cases g2 with
    | cons ta' tb =>
      cases tb with
      | cons tb tc =>
        cases tc
        rename_i va vb
        refine ⟨a, [va, vb], rfl, g1, rfl, gNs_ok (is := [8, 9]) rfl ?_⟩
        have hlw : (L2.wipe σ [8, 9]).length = 13 := by rw [L2.wipe_length]; exact h.len
        refine ⟨(wipe_setV (is := [8, 9]) (fun i hi => hi)).trans (wipe_wipe _ _ fun _ h => h), ?_⟩
        have s9 : (setV (L2.wipe σ [8, 9]) [8, 9] [va, vb])[9]? = some (some vb) := List.getElem?_set_self (by rw [List.length_set, hlw]; decide)
        have s8 : (setV (L2.wipe σ [8, 9]) [8, 9] [va, vb])[8]? = some (some va) := by
          show (((L2.wipe σ [8, 9]).set 8 (some va)).set 9 (some vb))[8]? = _
          rw [List.getElem?_set_ne (by decide), List.getElem?_set_self (by rw [hlw]; decide)]
        obtain ⟨vg, hg1, tg⟩ := h.tr 1 g.d rfl
        have s1 : (setV (L2.wipe σ [8, 9]) [8, 9] [va, vb])[1]? = some (some vg) := by
          show (((L2.wipe σ [8, 9]).set 8 (some va)).set 9 (some vb))[1]? = _
          rw [List.getElem?_set_ne (by decide), List.getElem?_set_ne (by decide), wipe_out (by decide)]; exact hg1
        refine ⟨vb, s9, vg, s1, x.1.d, g.d, tb.dp, (tg.mono e).dp, sh_trk _, sh_trk _, ?_⟩
        rw [eqv_trk]
        refine ⟨_, rfl, ?_⟩
        have ht := fil_take (g := g) hp
        by_cases cc : x.1 = g
        · rw [decide_eq_true cc]
          refine iteT ⟨va, s8, acc, ha, ?_, same_mut e hL, acc ++ [va], upd_same, ?_⟩
          · rw [ta.length, List.length_map]
            have := fil_len (l0.take i) g
            rw [List.length_take] at this
            exact Nat.lt_of_le_of_lt (Nat.le_trans this (Nat.min_le_right _ _)) (Nat.lt_trans hz2 (by decide))
          · rw [ht, if_pos cc, List.map_append]
            have kp : Kp H2 (upd H2 L (.lst (acc ++ [va]))) := kp_mut (fun xs z => by rw [ha] at z; cases z) (fun ob u z => by rw [ha] at z; cases z)
            exact (ta.append (.cons ta' .nil)).kp kp
        · rw [decide_eq_false cc]
          exact iteF ⟨e, acc, ha, by rw [ht, if_neg cc]; exact ta⟩
  · have ei : i = l0.length := by omega
    subst ei
    refine .inl ⟨⟨xs3, hsq, by rw [hxl]; exact Nat.le_refl _⟩, ?_⟩
    rw [List.take_length] at ta
    have w1 := (h.same e).slot (i := 7) (u := some (.ref L)) (by decide)
    have s7 : (σ.set 7 (some (V.ref L)))[7]? = some (some (.ref L)) := List.getElem?_set_self (by rw [h.len]; decide)
    refine ⟨.ref L, s7, Nat.zero_le _, fun q hq0 => ?_⟩
    have e2 : Same H' (upd H' q (.lst [])) := same_new hq0
    have w2 := w1.same e2
    refine ⟨_, _, .lst (.inl (.inl (e2 _ _ ha))) (ta.mono e2).dp, .lst (ds := []) (.inl (.inl upd_same)) .nil, sh_of (show PyData.canLayAll0 _ = true from lay_ways _) (by
      show PyData.depthAll _ + 1 ≤ 64
      have := dep_ways (fil l0 g)
      omega), rfl, ?_⟩
    have hfl := fil_look g l0
    cases hf : fil l0 g with
    | cons p ps =>
      rw [hf] at ta hfl
      refine ⟨_, rfl, iteT ?_⟩
      cases ta with
      | cons t1 t2 =>
        exact ⟨.ref L, s7, L, _, 0, _, rfl, rfl, .inl (.inl (e2 _ _ ha)), atI_nat (j := 0) rfl, hret _ _ ⟨p, hfl.symm, t1.mono e2, w2.sm⟩⟩
    | nil =>
      rw [hf] at hfl
      refine ⟨_, rfl, iteF ?_⟩
      refine ⟨Nat.zero_le _, fun F hF => ?_⟩
      have e3 : Same (upd H' q (.lst [])) (upd (upd H' q (.lst [])) F (.lst [])) := same_new hF
      obtain ⟨D, fD, r4, hd⟩ := w2.dict
      obtain ⟨p3', xs3', r3', h3', t3'⟩ := w2.lay
      obtain ⟨p5, xs5, r5, h5, t5⟩ := w2.pres
      have fF : H0 F = none := by
        cases z : H0 F with
        | none => rfl
        | some o => rw [w2.sm _ _ z] at hF; cases hF
      have i3 : ((σ.set 7 (some (V.ref L))).set 10 (some (V.ref F)))[3]? = (σ.set 7 (some (V.ref L)))[3]? := List.getElem?_set_ne (by decide)
      have i4 : ((σ.set 7 (some (V.ref L))).set 10 (some (V.ref F)))[4]? = (σ.set 7 (some (V.ref L)))[4]? := List.getElem?_set_ne (by decide)
      have i5 : ((σ.set 7 (some (V.ref L))).set 10 (some (V.ref F)))[5]? = (σ.set 7 (some (V.ref L)))[5]? := List.getElem?_set_ne (by decide)
      have w3 := (w2.same e3).slot (i := 10) (u := some (.ref F)) (by decide)
      refine ⟨_, _, tr_rows (H0 := H0) (D := D) (F := F) (p3 := p3') (p5 := p5) (l0 := l0) (st := (kn, [])) (t := t) (g := g) B hk C_led ok hz hw (Nat.zero_le _), ?_, fun σ' H2 q2 => ?_⟩
      · exact ⟨w3.len, w3.sm, fD, fF, w3.tr, i3.trans r3', i4.trans r4, i5.trans r5, List.getElem?_set_self (by rw [List.length_set, h.len]; decide), hd.same kpr_true e3, ⟨xs3', e3 _ _ h3', t3'.mono e3⟩, ⟨xs5, e3 _ _ h5, t5.mono e3⟩, ⟨[], upd_same, .nil⟩, (fun z => by rw [z, h3'] at hF; cases hF), (fun z => by rw [z, h5] at hF; cases hF)⟩
      · refine ⟨.ref F, q2.r10, hq _ _ ⟨hfl.symm, ?_⟩⟩
        generalize layered (kn, []) l0 = S at q2
        have j4 : (σ'.set 3 (some (V.ref F)))[4]? = σ'[4]? := List.getElem?_set_ne (by decide)
        have j5 : (σ'.set 3 (some (V.ref F)))[5]? = σ'[5]? := List.getElem?_set_ne (by decide)
        obtain ⟨fx, a, b⟩ := q2.fur
        obtain ⟨px, a5, b5⟩ := q2.pres
        exact ⟨by rw [List.length_set]; exact q2.len, q2.sm, (q2.tr.clear 3 _).weak (fun i d e => by
          rcases i with _ | _ | _ | _ | _ | _ | _ | _ | _ | _ | _ | _ | _ | i <;> first | exact e | (cases e; done) | (simp at e; done)), ⟨D, fD, j4.trans q2.r4, q2.dict⟩, ⟨F, fx, List.getElem?_set_self (by rw [q2.len]; decide), a, b⟩, ⟨p5, px, j5.trans q2.r5, a5, b5⟩⟩
end
end K53
end
section
set_option maxRecDepth 100000
set_option maxHeartbeats 4000000
/-! _law_way, the def. -/
namespace K53
open PySem PySem.Spec PyProof.Rows L2
def spLawWay (K : PySem.W.Frag) : Sp := fun vs H Q _ => ∃ t g, TpAll K H vs [t.d, g.d, .int 4] ∧ Ok t ∧ Fin1 t ∧ ∀ r v H', IsL t g 5 r → Same H H' → Tp K H' v (optD r) → Q v H'
section
variable {X : Cx} {H0 H H' : Hp} {k : Nat} {t g : Trk} {K : PySem.W.Frag} {mg : Str → Option Value} {w : World}
theorem C_lawWay (F : FunAt K mg "_law_way" (topS 50) ["track", "goal", "most"]) (C_all : CalW w K mg "_law_all" 0 1 (spL K (prs.map Pr.d))) (C_led : CalW w K mg "_law_led" 2 3 (spD K fLed)) (m_range : mg "range" = none) : CalW w K mg "_law_way" 3 5 (spLawWay K) :=
  cal_ofS (k := 4) F sc_lw (fun vs H Q E h => by obtain ⟨t, g, tv, _⟩ := h; exact tv.length) fun X hK hM hW hSc B H vs Q E h => by
    subst hK hM hW
    obtain ⟨t, g, tv, okt, fin, hQ⟩ := h
    obtain ⟨fa, fd, ps, hps, hm, hkp, hb, Fa⟩ := C_all
    have hloc : ∀ {x : Str}, (defScope (topS 50)).names.lookup x = some .local → X.env.scope.names.lookup x = some .local := fun {x} hx => by rw [hSc]; exact hx
    refine ⟨_, pss_cons (ps_par3 (i := 3) (j := 4) (l := 5) B.calm (by rw [B.fN]; exact B.nd) (by rw [B.fN]; rfl) (by rw [B.fN]; rfl) (by rw [B.fN]; rfl) (by decide) (by decide) (by decide) (hloc (by decide +kernel)) (hloc (by decide +kernel)) (hloc (by decide +kernel))
        (pa_cons (pe_lst (pa_cons pe_ev pa_nil)) (pa_cons (pe_dictT B.room.units (B.pv 0) pe_bl) (pa_cons (pe_call0 (Fa X.prog X.base) (B.room.mono (by decide)) (B.gl (by decide +kernel)) hm hkp hb .nil pass0) pa_nil))) ((swapped_scope (env' := envS (defScope (topS 50))) hSc).trans rfl))
      (pss_cons (ps_for B.own B.calm (pi_range1 (B.gl (by decide +kernel)) m_range (pa_cons pe_ev pa_nil) rfl) (B.pgn (i := 6) rfl (by decide +kernel)) (pss_trr (sts := lwTurn)) (by intro _; rfl)) (pss_one (ps_ret pe_non))), ?_⟩
    have s0 : Sl X.K H (L2.start N_lw vs) [some t.d, some g.d, some (.int 4), none, none, none, none, none, none, none, none, none, none] := by
      have z := sl_start (K := X.K) (H := H) (vs := vs) (ds := [t.d, g.d, .int 4]) 10 tv
      unfold L2.start
      rw [tv.length]; exact z
    have hl0 : (L2.start N_lw vs).length = 13 := by unfold L2.start; rw [List.length_append, List.length_map, List.length_replicate, tv.length]; rfl
    obtain ⟨v0, r0, t0⟩ := s0 0 t.d rfl
    obtain ⟨ka, ys, rfl, g1, g2⟩ := Tp.tup_inv (ds := t.fs) t0
    generalize L2.start N_lw vs = σ0 at s0 hl0 r0
    refine ⟨[some t.d, some g.d, some (.int 4), none, none, none, none, none, none, none, none, none, none], pairD (t, []), ee_tup (ea_cons (ee_tup ea_nil) (ea_cons (ee_name B (i := 0) rfl rfl) ea_nil)), s0, fun v H1 f1 tp => ⟨(show 1 ≤ sizeLine by decide), fun l hl => ?_⟩⟩
    have f2 : Same H1 (upd H1 l (.lst [v])) := same_new hl
    generalize hH2 : upd H1 l (.lst [v]) = H2 at f2
    have hl2 : H2 l = some (.lst [v]) := by rw [← hH2]; exact upd_same
    intro a ha
    have ea : Same H2 (upd H2 a (DcO X.prog X.w a [])) := same_new ha
    have t02 := (t0.mono f1).mono f2
    refine ⟨.ref ka, r0, ka, t, [], rTrue, rfl, t02.mono ea, upd_same, kpr_true, rfl, rfl, fun u r => r, fun H3 c1 c2 c3 => ?_⟩
    have f3 : Same H2 H3 := fun b u hb => by
      have n : b ≠ a := fun e => by rw [e, ha] at hb; cases hb
      rw [c1 b n, upd_ne n]; exact hb
    refine ⟨rfl, fun p xs H4 f4 hp hp2 tps => ⟨_, _, _, rfl, ?_⟩⟩
    have f04 := f1.trans (f2.trans (f3.trans f4))
    have hHa : H a = none := by
      cases z : H a with
      | none => rfl
      | some o => rw [f2 _ _ (f1 _ _ z)] at ha; cases ha
    have ws : Ws2 X H t g (bfs t 0).1 (bfs t 0).2 (((σ0.set 3 (some (.ref l))).set 4 (some (.ref a))).set 5 (some (.ref p))) H4 := by
      have q4 : (((σ0.set 3 (some (V.ref l))).set 4 (some (V.ref a))).set 5 (some (V.ref p)))[4]? = some (some (.ref a)) := by
        rw [List.getElem?_set_ne (by decide), List.getElem?_set_self (by rw [List.length_set, hl0]; decide)]
      have q3 : (((σ0.set 3 (some (V.ref l))).set 4 (some (V.ref a))).set 5 (some (V.ref p)))[3]? = some (some (.ref l)) := by
        rw [List.getElem?_set_ne (by decide), List.getElem?_set_ne (by decide), List.getElem?_set_self (by rw [hl0]; decide)]
      exact ⟨by rw [List.length_set, List.length_set, List.length_set]; exact hl0, f04, ((((s0.mono f04).clear 3 _).clear 4 _).clear 5 _).weak (fun i d e => by
        rcases i with _ | _ | _ | _ | _ | _ | _ | _ | _ | _ | _ | _ | _ | i <;> first | exact e | (cases e; done) | (simp at e; done)), ⟨a, hHa, q4, c3.same kpr_true f4⟩, ⟨l, [v], q3, f4 _ _ (f3 _ _ hl2), .cons ((((tp.mono f2).mono f3).mono f4)) .nil⟩, ⟨p, xs, List.getElem?_set_self (by rw [List.length_set, List.length_set, hl0]; decide), hp2, tps⟩⟩
    have s5 : Sl X.K H4 (((σ0.set 3 (some (V.ref l))).set 4 (some (V.ref a))).set 5 (some (V.ref p))) [some t.d, some g.d, some (.int 4), none, none, none, none, none, none, none, none, none, none] := ((((s0.mono f04).clear 3 _).clear 4 _).clear 5 _).weak (fun i d e => by
        rcases i with _ | _ | _ | _ | _ | _ | _ | _ | _ | _ | _ | _ | _ | i <;> first | exact e | (cases e; done) | (simp at e; done))
    refine ⟨_, .int 5, (ee_add (ee_name B (i := 2) rfl rfl) ee_int).cast rfl, s5, fun u H5 f5 t5 => ⟨5, by rw [t5.int_inv], by decide, by decide, ?_⟩⟩
    refine ⟨fun i μ σ H' => μ = 5 - i ∧ i ≤ 5 ∧ (∀ e, e < i → g ∉ keys (bfs t e).2) ∧ Ws2 X H t g (bfs t i).1 (bfs t i).2 σ H', ⟨_, rfl, Nat.zero_le _, fun e h => absurd h (Nat.not_lt_zero e), ws.same f5⟩, ?_⟩
    rintro i μ σ H' ⟨rfl, hi, hno, q⟩
    by_cases c : i < 5
    · refine .inr ⟨c, fun σ3 H3 => (∀ e, e < i + 1 → g ∉ keys (bfs t e).2) ∧ Ws2 X H t g (bfs t (i + 1)).1 (bfs t (i + 1)).2 σ3 H3, fun σ3 H3 ⟨p1, p2⟩ => ⟨5 - (i + 1), by omega, rfl, c, p1, p2⟩, fun v' H2' yl => ?_⟩
      obtain ⟨rfl, rfl⟩ := yl
      have L := lay t i
      have hlen2 : (bfs t i).2.length ≤ (bfs t i).1.length := by
        cases i with
        | zero => exact Nat.le_refl _
        | succ j => rw [bfs_split t j, List.length_append]; exact Nat.le_add_left _ _
      refine ⟨_, _, _, tr_turn (H0 := H) (t := t) (g := g) (kn := (bfs t i).1) (l0 := (bfs t i).2) B hSc (by decide) C_led (fun x hx => ?_) ?_ ?_ (fun x hx => ?_), q.slot (by decide), fun σ' H3 ⟨h1, h2⟩ => ⟨fun e he => ?_, h2⟩, fun v2 H3 ⟨p2, h1, h2, h3⟩ => ?_⟩
      · rw [← (lay_ins L x hx).1]; exact ok_run okt _
      · exact Nat.lt_of_le_of_lt (fin (i + 1)) (by decide)
      · exact Nat.lt_of_le_of_lt (Nat.le_trans hlen2 (fin i)) (by decide)
      · rw [(lay_ins L x hx).2]; omega
      · rcases Nat.lt_succ_iff_lt_or_eq.mp he with z | z
        · exact hno e z
        · rw [z]; exact look_none.mp h1
      · exact hQ (some p2) v2 H3 (.inl ⟨i, c, hno, List.mem_map.mpr ⟨_, look_some h1, rfl⟩, h1.symm⟩) h3 h2
    · have ei : i = 5 := by omega
      subst ei
      exact .inl ⟨Nat.le_refl _, hQ none .non H' (.inr ⟨hno, rfl⟩) q.sm .non⟩
end
end K53
end
section
set_option maxRecDepth 100000
set_option maxHeartbeats 4000000
/-! repr of a way. -/
namespace K53
open PySem PySem.Spec PyProof.Rows L2
theorem pr_shown (p : Pr) : (PyData.shown p.d).length ≤ 50 := by cases p <;> decide +kernel
theorem pr_showable (p : Pr) : PyData.showable p.d = true := by cases p <;> decide +kernel
theorem pr_nodict (p : Pr) : PyData.hasDict p.d = false := by cases p <;> decide +kernel
theorem showable_way : ∀ ps : Way, PyData.showableAll (ps.map Pr.d) = true
  | [] => rfl
  | p :: ps => by
    show (PyData.showable p.d && PyData.showableAll (ps.map Pr.d)) = true
    rw [pr_showable, showable_way ps]; rfl
theorem nodict_way : ∀ ps : Way, PyData.hasDictAll (ps.map Pr.d) = false
  | [] => rfl
  | p :: ps => by
    show (PyData.hasDict p.d || PyData.hasDictAll (ps.map Pr.d)) = false
    rw [pr_nodict, nodict_way ps]; rfl
theorem piled_way : ∀ ps : Way, piled (PyData.shownAll (ps.map Pr.d)) ≤ 52 * ps.length
  | [] => Nat.zero_le _
  | p :: ps => by
    have h1 := pr_shown p
    have h2 := piled_way ps
    have e : piled (PyData.shown p.d :: PyData.shownAll (ps.map Pr.d)) = (PyData.shown p.d).length + 2 + piled (PyData.shownAll (ps.map Pr.d)) := by simp [piled]
    show piled (PyData.shown p.d :: PyData.shownAll (ps.map Pr.d)) ≤ 52 * (ps.length + 1)
    rw [e]; omega
theorem way_shown (ps : Way) : (PyData.shown (wayD ps)).length ≤ 52 * ps.length + 10 := by
  show (tupleText (PyData.shownAll (ps.map Pr.d))).length ≤ _
  have hp := piled_way ps
  unfold tupleText
  rw [Str.length_append, Str.length_append]
  have h1 : (("(" : String) : Str).length = 1 := rfl
  have h3 : ∀ b : Bool, ((if b = true then ",)" else ")" : String) : Str).length ≤ 2 := fun b => by cases b <;> decide
  have h3' := h3 ((PyData.shownAll (ps.map Pr.d)).length == 1)
  have h2 : (Str.join ", " (PyData.shownAll (ps.map Pr.d))).length ≤ 52 * ps.length + 2 := by
    cases ps with
    | nil => decide
    | cons p ps =>
      have := join_length_add (PyData.shownAll ((p :: ps).map Pr.d)) (fun z => by cases z)
      omega
  rw [h1]
  omega
section
variable {X : Cx} {w : World}
theorem cr_reprWay (hG : X.A.guards = some []) (hu : X.A.units + 64 < cLine) : CallR X (.builtin "repr") (fun xs H Q => ∃ (x : V) (ps : Way), xs = [x] ∧ Tp X.K H x (wayD ps) ∧ ps.length ≤ 100 ∧ Q (.str (PyData.shown (wayD ps))) H) := by
  intro pins s σ H xs us Q I r h
  obtain ⟨x, ps, rfl, tx, hl, q⟩ := h
  obtain ⟨u, rfl, rx⟩ := vals1 r
  obtain ⟨a, ys, rfl, g1, g2⟩ := Tp.tup_inv (ds := ps.map Pr.d) tx
  cases rx
  obtain ⟨as, rd⟩ := Dp.reads I (wayD ps) _ _ tx.dp rfl
  have hd : PyData.depth (wayD ps) ≤ 2 := by
    show PyData.depthAll (ps.map Pr.d) + 1 ≤ 2
    have := dep_way ps; omega
  exact PySem.repr_of_reads' rd (showable_way ps) (PyData.noDict_hsm (nodict_way ps)) hG (by omega) (fun b o e => e) (fun h' u tk hk => ⟨.str (PyData.shown (wayD ps)), H, I.kept hk, ⟨u, rfl⟩, q⟩) (by
    have := way_shown ps
    exact Nat.le_trans this (Nat.le_trans (show 52 * ps.length + 10 ≤ 6000 by omega) (by decide)))
end
end K53
end
section
set_option maxRecDepth 100000
set_option maxHeartbeats 4000000
/-! law: a turn, first part. -/
namespace K53
open PySem PySem.Spec PyProof.Rows L2
abbrev N_law : List Str := ["script", "m", "turn", "track", "goal", "k", "found", "due", "board", "press", "other", "told"]
theorem sc_law : FnScope N_law ["script"] (defScope (topS 51)) := ⟨rfl, rfl, rfl, by decide +kernel, rfl, by decide +kernel, by decide +kernel⟩
def lawB : List Stmt := forBody (stAt (defBody (topS 51)) 1)
structure Lw (X : Cx) (m cq : Addr) (n : Nat) (δ : Dl) (σ : L2.St) (H : Hp) : Prop where
  len : σ.length = 12
  r1 : σ[1]? = some (some (.ref m))
  tr : Sl X.K H σ δ
  rg : ∃ l, Rng m cq l n H
abbrev g3 (t : Trk) : Dl := [none, none, none, some t.d, none, none, none, none, none, none, none, none]
abbrev g4 (t g : Trk) : Dl := [none, none, none, some t.d, some g.d, none, none, none, none, none, none, none]
section
variable {X : Cx} {m cq : Addr} {n n' : Nat} {δ δ' : Dl} {σ : L2.St} {H H' : Hp} {k : Nat} {t g : Trk}
theorem Lw.same (h : Lw X m cq n δ σ H) (e : Same H H') : Lw X m cq n δ σ H' := ⟨h.len, h.r1, h.tr.mono e, let ⟨l, r⟩ := h.rg; ⟨l, r.same e⟩⟩
theorem Lw.slot (h : Lw X m cq n δ σ H) {i : Nat} (hi : i ≠ 1) {v : V} {d : PyData} (tv : Tp X.K H v d) (hl : i < 12) : Lw X m cq n (δ.set i (some d)) (σ.set i (some v)) H :=
  ⟨by rw [List.length_set]; exact h.len, by rw [List.getElem?_set_ne hi]; exact h.r1, h.tr.set tv (by rw [h.len]; exact hl), h.rg⟩
theorem Lw.clr (h : Lw X m cq n δ σ H) {i : Nat} (hi : i ≠ 1) {u : Option V} : Lw X m cq n (δ.set i none) (σ.set i u) H :=
  ⟨by rw [List.length_set]; exact h.len, by rw [List.getElem?_set_ne hi]; exact h.r1, h.tr.clear i u, h.rg⟩
theorem Lw.mono (h : Lw X m cq n δ σ H) (e : n ≤ n') : Lw X m cq n' δ σ H := ⟨h.len, h.r1, h.tr, let ⟨l, r⟩ := h.rg; ⟨l, r.mono e⟩⟩
theorem Lw.weak (h : Lw X m cq n δ σ H) (w : ∀ (i : Nat) (d : PyData), δ'[i]? = some (some d) → δ[i]? = some (some d)) : Lw X m cq n δ' σ H := ⟨h.len, h.r1, h.tr.weak w, h.rg⟩
/-- goal drawn -/
theorem tr_goal (B : BX X N_law (defScope (topS 51)) k) (hk : 3 ≤ k) (C_next : Cal X.K X.mg "_law_next" 2 1 (spNext X.K)) (C_press : CalW X.w X.K X.mg "_law_press" 2 2 (spPress X.K)) (C_led : CalW X.w X.K X.mg "_law_led" 2 3 (spD X.K fLed)) (m_range : X.mg "range" = none) (ok : Ok t) (hn : n ≤ 6000) :
    TrS X (stAt lawB 2) (Lw X m cq n (g4 t t)) (fun σ H => ∃ ps : List Pr, ps.length < 5 ∧ Lw X m cq (n + 13) (g4 t (run t ps)) σ H) := by
  refine TrS.of (ps_for B.own B.calm (pi_range1 (B.gl (by decide +kernel)) m_range (pa_cons (pe_draw B C_next (Nat.le_trans (by decide) hk) (im := 1) (by decide) (by decide) rfl (by decide +kernel) (by decide +kernel)) pa_nil) rfl) (B.pgn (i := 5) rfl (by decide +kernel))
    (pss_one (B.ps_set 4 (B.callW C_led hk (by decide +kernel) (pa_cons (B.pv 4) (pa_cons (B.callW C_press (Nat.le_trans (by decide) hk) (by decide +kernel) (pa_cons (B.pv 1) (pa_cons pe_int pa_nil))) pa_nil))))) (by intro _; rfl)) fun σ H D h hq => ?_
  obtain ⟨l, rg⟩ := h.rg
  refine ⟨m, cq, l, n, h.r1, rg, by omega, fun r l1 H1 h0 hr s1 rg1 => ?_⟩
  obtain ⟨rr, hrr⟩ := Int.eq_ofNat_of_zero_le h0
  subst hrr
  refine ⟨(rr : Int), rfl, by omega, by omega, ?_⟩
  have er : ((rr : Int)).toNat = rr := by simp
  rw [er]
  refine ⟨fun i μ σ H' => μ = rr - i ∧ i ≤ rr ∧ ∃ ps : List Pr, ps.length = i ∧ Lw X m cq (n + 1 + 3 * i) (g4 t (run t ps)) σ H', ⟨_, rfl, Nat.zero_le _, [], rfl, ⟨h.len, h.r1, h.tr.kp (s1.kp rg), l1, rg1⟩⟩, ?_⟩
  rintro i μ σ' H' ⟨rfl, hi, ps, hps, q⟩
  by_cases c : i < rr
  · refine .inr ⟨c, fun σ3 H3 => ∃ ps : List Pr, ps.length = i + 1 ∧ Lw X m cq (n + 1 + 3 * (i + 1)) (g4 t (run t ps)) σ3 H3, fun σ3 H3 q3 => ⟨rr - (i + 1), by omega, rfl, c, q3⟩, fun v H2 yl => ?_⟩
    obtain ⟨rfl, rfl⟩ := yl
    have q5 : Lw X m cq (n + 1 + 3 * i) (g4 t (run t ps)) (σ'.set 5 (some (V.int (0 + i)))) H2 := q.clr (i := 5) (by decide)
    obtain ⟨l2, rg2⟩ := q5.rg
    obtain ⟨v4, hv4, t4⟩ := q5.tr 4 (run t ps).d rfl
    refine ⟨v4, hv4, .ref m, q5.r1, m, cq, l2, n + 1 + 3 * i, rfl, rg2, by omega, fun p v5 l3 H3 s3 rg3 tv5 => ?_⟩
    have kp3 := s3.kp rg2
    refine ⟨[(run t ps).d, p.d], (step (run t ps) p).d, .cons (t4.kp kp3) (.cons tv5 .nil), ⟨run t ps, p, ok_run ok ps, rfl, rfl⟩, fun v6 H4 e4 t6 => ⟨ps ++ [p], by rw [List.length_append, hps]; rfl, ?_⟩⟩
    have q6 : Lw X m cq (n + 1 + 3 * (i + 1)) (g4 t (run t ps)) (σ'.set 5 (some (V.int (0 + i)))) H4 := (⟨q5.len, q5.r1, q5.tr.kp kp3, l3, rg3⟩ : Lw X m cq (n + 1 + 3 * i + 3) (g4 t (run t ps)) (σ'.set 5 (some (V.int (0 + i)))) H3).same e4
    rw [run_snoc]
    exact q6.slot (i := 4) (by decide) t6 (by decide)
  · have ei : i = rr := by omega
    subst ei
    exact .inl ⟨Nat.le_refl _, hq _ _ ⟨ps, by omega, q.mono (by omega)⟩⟩
end
end K53
end
section
set_option maxRecDepth 100000
set_option maxHeartbeats 4000000
/-! law: a turn, the ways and the first test. -/
namespace K53
open PySem PySem.Spec PyProof.Rows L2
abbrev gg (t g f d b o w : Option PyData) : Dl := [none, none, none, t, g, none, f, d, b, none, o, w]
section
variable {X : Cx} {m cq : Addr} {n n' : Nat} {σ : L2.St} {H H' : Hp} {k : Nat} {t g : Trk}
theorem tr_found (B : BX X N_law (defScope (topS 51)) k) (hSc : X.env.scope = defScope (topS 51)) (hk : 6 ≤ k) (C_wt : CalW X.w X.K X.mg "way_to" 2 6 (spWay X.K)) (C_lw : CalW X.w X.K X.mg "_law_way" 3 5 (spLawWay X.K)) (ok : Ok t) (okg : Ok g) (fin : Fin1 t) :
    TrS X (stAt lawB 3) (Lw X m cq n (g4 t g)) (fun σ H => ∃ r r', IsW t g r ∧ IsL t g 5 r' ∧ Lw X m cq n (gg (some t.d) (some g.d) (some (optD r)) (some (optD r')) none none none) σ H) := by
  have hloc : ∀ {x : Str}, (defScope (topS 51)).names.lookup x = some .local → X.env.scope.names.lookup x = some .local := fun {x} hx => by rw [hSc]; exact hx
  refine TrS.of (ps_par (i := 6) (j := 7) B.calm (by rw [B.fN]; exact B.nd) (by rw [B.fN]; rfl) (by rw [B.fN]; rfl) (by decide) (hloc (by decide +kernel)) (hloc (by decide +kernel))
    (pa_cons (B.callW C_wt hk (by decide +kernel) (pa_cons (B.pv 3) (pa_cons (B.pv 4) pa_nil))) (pa_cons (B.callW C_lw (Nat.le_trans (by decide) hk) (by decide +kernel) (pa_cons (B.pv 3) (pa_cons (B.pv 4) (pa_cons pe_int pa_nil)))) pa_nil))
    ((swapped_scope (env' := envS (defScope (topS 51))) hSc).trans rfl)) fun σ H D h hq => ?_
  obtain ⟨v3, h3, t3⟩ := h.tr 3 t.d rfl
  obtain ⟨v4, h4, t4⟩ := h.tr 4 g.d rfl
  refine ⟨v3, h3, v4, h4, t, g, .cons t3 (.cons t4 .nil), ok, okg, fin, fun r v H1 w e1 tv => ⟨v3, h3, v4, h4, t, g, .cons (t3.mono e1) (.cons (t4.mono e1) (.cons (.int 4) .nil)), ok, fin, fun r' v' H2 l e2 tv' => ⟨v, v', rfl, hq _ _ ⟨r, r', w, l, ?_⟩⟩⟩⟩
  exact (((h.same (e1.trans e2)).slot (i := 6) (by decide) (tv.mono e2) (by decide)).slot (i := 7) (by decide) tv' (by decide)).weak (fun i d e => e)
theorem tr_told (B : BX X N_law (defScope (topS 51)) k) (hSc : X.env.scope = defScope (topS 51)) (hk : 6 ≤ k) (C_wt : CalW X.w X.K X.mg "way_to" 2 6 (spWay X.K)) (C_lw : CalW X.w X.K X.mg "_law_way" 3 5 (spLawWay X.K)) (ok : Ok t) (okg : Ok g) (fin : Fin1 t) :
    TrS X (stAt lawB 9) (Lw X m cq n (gg (some t.d) none none none none (some g.d) none)) (fun σ H => ∃ r r', IsW t g r ∧ IsL t g 5 r' ∧ Lw X m cq n (gg (some t.d) none none (some (optD r')) none (some g.d) (some (optD r))) σ H) := by
  have hloc : ∀ {x : Str}, (defScope (topS 51)).names.lookup x = some .local → X.env.scope.names.lookup x = some .local := fun {x} hx => by rw [hSc]; exact hx
  refine TrS.of (ps_par (i := 11) (j := 7) B.calm (by rw [B.fN]; exact B.nd) (by rw [B.fN]; rfl) (by rw [B.fN]; rfl) (by decide) (hloc (by decide +kernel)) (hloc (by decide +kernel))
    (pa_cons (B.callW C_wt hk (by decide +kernel) (pa_cons (B.pv 3) (pa_cons (B.pv 10) pa_nil))) (pa_cons (B.callW C_lw (Nat.le_trans (by decide) hk) (by decide +kernel) (pa_cons (B.pv 3) (pa_cons (B.pv 10) (pa_cons pe_int pa_nil)))) pa_nil))
    ((swapped_scope (env' := envS (defScope (topS 51))) hSc).trans rfl)) fun σ H D h hq => ?_
  obtain ⟨v3, h3, t3⟩ := h.tr 3 t.d rfl
  obtain ⟨v4, h4, t4⟩ := h.tr 10 g.d rfl
  refine ⟨v3, h3, v4, h4, t, g, .cons t3 (.cons t4 .nil), ok, okg, fin, fun r v H1 w e1 tv => ⟨v3, h3, v4, h4, t, g, .cons (t3.mono e1) (.cons (t4.mono e1) (.cons (.int 4) .nil)), ok, fin, fun r' v' H2 l e2 tv' => ⟨v, v', rfl, hq _ _ ⟨r, r', w, l, ?_⟩⟩⟩⟩
  exact (((h.same (e1.trans e2)).slot (i := 11) (by decide) (tv.mono e2) (by decide)).slot (i := 7) (by decide) tv' (by decide)).weak (fun i d e => e)
/-- repr(found) != repr(due) or way_to(track, track) != () -/
theorem tr_same (B : BX X N_law (defScope (topS 51)) k) (hk : 6 ≤ k) (hG : X.A.guards = some []) (m_repr : X.mg "repr" = none) (C_wt : CalW X.w X.K X.mg "way_to" 2 6 (spWay X.K)) (ok : Ok t) (fin : Fin1 t) {p : Way} (hp : p.length ≤ 100) {δ : Dl} (h3 : δ[3]? = some (some t.d)) (h6 : δ[6]? = some (some (wayD p))) (h7 : δ[7]? = some (some (wayD p))) :
    TrS X (stAt lawB 4) (Lw X m cq n δ) (Lw X m cq n δ) := by
  refine TrS.of (ps_if (pw_or (pt_cmpR op_ne (pe_callB (cr_reprWay hG B.room.units) (B.gl (by decide +kernel)) m_repr rfl (pa_cons (B.pv 6) pa_nil)) (pe_callB (cr_reprWay hG B.room.units) (B.gl (by decide +kernel)) m_repr rfl (pa_cons (B.pv 7) pa_nil)) (nomark _))
    (pw_or1 (pt_cmpR (op_neD B.room.units) (B.callW C_wt hk (by decide +kernel) (pa_cons (B.pv 3) (pa_cons (B.pv 3) pa_nil))) pe_ev (nomark _)))).pt pss_never pss_nil) fun σ H D h hq => ?_
  obtain ⟨v3, e3, t3⟩ := h.tr 3 _ h3
  obtain ⟨v6, e6, t6⟩ := h.tr 6 _ h6
  obtain ⟨v7, e7, t7⟩ := h.tr 7 _ h7
  refine ⟨v6, e6, v6, p, rfl, t6, hp, v7, e7, v7, p, rfl, t7, hp, rfl, ?_⟩
  have e0 : (!decide (V.str (PyData.shown (wayD p)) = V.str (PyData.shown (wayD p)))) = false := by simp
  refine ⟨_, rfl, ?_⟩
  rw [e0]
  refine iteF ⟨v3, e3, v3, e3, t, t, .cons t3 (.cons t3 .nil), ok, ok, fin, fun r v H1 w f1 tv => ?_⟩
  rw [IsW.self w] at tv
  refine ⟨δ, .tuple [], ee_tup ea_nil, h.tr.mono f1, fun u H2 f2 tu => ⟨.tuple [], .tuple [], (tv.mono f2).dp, tu.dp, rfl, rfl, _, rfl, ?_⟩⟩
  have e1 : (!PyData.eqv (.tuple []) (.tuple [])) = false := by decide +kernel
  rw [e1]
  exact iteF (hq _ _ (h.same (f1.trans f2)))
end
end K53
end
section
set_option maxRecDepth 100000
set_option maxHeartbeats 4000000
/-! law: a turn, the other statements. -/
namespace K53
open PySem PySem.Spec PyProof.Rows L2
section
variable {X : Cx} {m cq : Addr} {n n' i : Nat} {σ : L2.St} {H H' : Hp} {k : Nat} {t g : Trk} {N : List Str} {sc : Scope} {δ : Dl}
/-- a loop over data, by what holds behind each turn -/
theorem tr_forD (B : BX X N sc k) {tg iter : Expr} {pos : Pos} {body : List Stmt} {ds : List PyData} {Pre : L2.St → Hp → Prop} (hi : EvI X δ tg iter ds) (hg : PG X tg (gName i)) (P : Nat → L2.St → Hp → Prop) (h0 : ∀ σ H, Pre σ H → P 0 σ H ∧ Sl X.K H σ δ)
    (hm : ∀ j σ H H', P j σ H → Same H H' → P j σ H')
    (step : ∀ (H0 : Hp) (j : Nat) (d : PyData), ds[j]? = some d → Tr X body (fun σ' H => Same H0 H ∧ ∃ σ v, P j σ H ∧ Tp X.K H v d ∧ σ' = σ.set i (some v)) (fun σ H => Same H0 H ∧ P (j + 1) σ H))
    (hs : ∀ x, foldedSetIterable iter X.env x = pure x := by intro _; rfl) : TrS X (.For tg iter body [] pos) Pre (P ds.length) := by
  refine TrS.of (ps_for B.own B.calm (pi_ev (tg := tg)) hg pss_tr hs) fun σ H D hp hq => ?_
  obtain ⟨p0, s0⟩ := h0 σ H hp
  refine ⟨_, ds, hi, s0, fun J H1 e1 src => ⟨fun i m σ' H' => m = ds.length - i ∧ i ≤ ds.length ∧ Same H1 H' ∧ P i σ' H', ⟨_, rfl, Nat.zero_le _, Same.refl _, hm _ _ _ _ p0 e1⟩, ?_⟩⟩
  rintro i m σ' H' ⟨rfl, hle, e2, q⟩
  obtain ⟨s1, s2⟩ := src H' e2
  by_cases c : i < ds.length
  · obtain ⟨g1, g2⟩ := s1 i c
    refine .inr ⟨g1, fun σ3 H3 => Same H1 H3 ∧ P (i + 1) σ3 H3, fun σ3 H3 ⟨p1, p2⟩ => ⟨ds.length - (i + 1), by omega, rfl, c, p1, p2⟩, fun v H2 y => ?_⟩
    obtain ⟨e3, d, hd, td⟩ := g2 v H2 y
    exact ⟨_, _, step H1 i d hd, ⟨e2.trans e3, σ', v, hm _ _ _ _ q e3, td, rfl⟩, fun σ3 H3 p3 => p3⟩
  · have ei : i = ds.length := by omega
    subst ei
    exact .inl ⟨s2, hq σ' H' q⟩
theorem run_take {t : Trk} {p : Way} {j : Nat} {x : Pr} (h : p[j]? = some x) : run t (p.take (j + 1)) = step (run t (p.take j)) x := by
  rw [List.take_add_one, h]; exact run_snoc _ _ _
theorem way_at {p : Way} {j : Nat} {d : PyData} (h : (p.map Pr.d)[j]? = some d) : ∃ x, p[j]? = some x ∧ d = x.d := by
  rw [List.getElem?_map] at h
  cases e : p[j]? with
  | none => rw [e] at h; cases h
  | some x => rw [e] at h; cases h; exact ⟨x, rfl, rfl⟩
theorem tr_board (B : BX X N_law (defScope (topS 51)) k) {f u : Option PyData} : TrS X (stAt lawB 5) (Lw X m cq n (gg (some t.d) (some g.d) f u none none none)) (Lw X m cq n (gg (some t.d) (some g.d) f u (some (.tuple [t.d])) none none)) := by
  refine TrS.of (B.ps_set 8 (pe_ev (e := valE (stAt lawB 5)))) fun σ H D h hq => ?_
  exact ⟨_, .tuple [t.d], ee_tup (ea_cons (ee_name B (i := 3) rfl rfl) ea_nil), h.tr, fun v H1 e1 tv => hq _ _ (((h.same e1).slot (i := 8) (by decide) tv (by decide)).weak fun i d e => e)⟩
theorem tr_along (B : BX X N_law (defScope (topS 51)) k) (hk : 7 ≤ k) (C_pressed : CalW X.w X.K X.mg "pressed" 2 7 (spD X.K fBehind)) (ok : Ok t) {p : Way} {u : Option PyData} :
    TrS X (stAt lawB 6) (Lw X m cq n (gg (some t.d) (some g.d) (some (wayD p)) u (some (.tuple [t.d])) none none)) (Lw X m cq n (gg (some t.d) (some g.d) (some (wayD p)) u (some (.tuple [(run t p).d])) none none)) := by
  let P : Nat → L2.St → Hp → Prop := fun j => Lw X m cq n (gg (some t.d) (some g.d) (some (wayD p)) u (some (.tuple [(run t (p.take j)).d])) none none)
  have L : TrS X (stAt lawB 6) (Lw X m cq n (gg (some t.d) (some g.d) (some (wayD p)) u (some (.tuple [t.d])) none none)) (P (p.map Pr.d).length) := tr_forD (i := 9) B (ei_tup (ee_name B (i := 6) rfl rfl)) (B.pgn (i := 9) rfl (by decide +kernel))
    P (fun σ H h => ⟨h, h.tr⟩) (fun j σ H H' h e => h.same e) (fun H0 j d hd => by
      obtain ⟨x, hx, rfl⟩ := way_at hd
      refine Tr.of (pss_one (B.ps_set 8 (B.callW C_pressed hk (by decide +kernel) (pa_cons (B.pv 8) (pa_cons (B.pv 9) pa_nil))))) fun σ' H D ⟨e0, σ, v, h, tv, hσ⟩ hq => ?_
      have h9 : P j σ' H := by rw [hσ]; exact h.clr (i := 9) (by decide)
      have e9 : σ'[9]? = some (some v) := by rw [hσ, List.getElem?_set_self (by rw [h.len]; decide)]
      obtain ⟨v8, e8, t8⟩ := h9.tr 8 _ rfl
      refine ⟨v8, e8, v, e9, [.tuple [(run t (p.take j)).d], x.d], .tuple [(step (run t (p.take j)) x).d], .cons t8 (.cons tv .nil), ⟨run t (p.take j), x, ok_run ok _, rfl, rfl⟩, fun w H2 e2 t2 => hq _ _ ⟨e0.trans e2, ?_⟩⟩
      rw [← run_take hx] at t2
      exact (h9.same e2).slot (i := 8) (by decide) t2 (by decide))
  rw [List.length_map] at L
  have e : P p.length = Lw X m cq n (gg (some t.d) (some g.d) (some (wayD p)) u (some (.tuple [(run t p).d])) none none) := by
    show Lw X m cq n (gg (some t.d) (some g.d) (some (wayD p)) u (some (.tuple [(run t (p.take p.length)).d])) none none) = _
    rw [List.take_length]
  rw [e] at L
  exact L
/-- board != (goal,) -/
theorem tr_there (B : BX X N_law (defScope (topS 51)) k) {δ : Dl} (h8 : δ[8]? = some (some (.tuple [g.d]))) (h4 : δ[4]? = some (some g.d)) : TrS X (stAt lawB 7) (Lw X m cq n δ) (Lw X m cq n δ) := by
  refine TrS.of (ps_if (pt_cmpR (op_neD B.room.units) (B.pv 8) pe_ev (nomark _)) pss_never pss_nil) fun σ H D h hq => ?_
  obtain ⟨v8, e8, t8⟩ := h.tr 8 _ h8
  have e1 : (!PyData.eqv (.tuple [g.d]) (.tuple [g.d])) = false := by
    show (!(PyData.eqv g.d g.d && true)) = false
    rw [eqv_trk]; simp
  have hs : SeqAt.shaped (.tuple [g.d]) = true := sh_of (by
    show (PyData.canLay0 g.d && true) = true
    rw [lay_trk]; rfl) (by
    show max (PyData.depth g.d) 0 + 1 ≤ 64
    have := dep_trk g; omega)
  refine ⟨v8, e8, δ, .tuple [g.d], ee_tup (ea_cons (ee_name B (i := 4) rfl h4) ea_nil), h.tr, fun u H2 f2 tu => ⟨.tuple [g.d], .tuple [g.d], (t8.mono f2).dp, tu.dp, hs, hs, _, rfl, ?_⟩⟩
  rw [e1]
  exact iteF (hq _ _ (h.same f2))
/-- a drawn track -/
theorem tr_draw (B : BX X N_law (defScope (topS 51)) k) (hk : 2 ≤ k) (C_short : CalW X.w X.K X.mg "_law_short" 1 2 (spShort X.K)) (hn : n ≤ 7000) {δ : Dl} : TrS X (stAt lawB 0) (Lw X m cq n δ) (fun σ H => ∃ t, Ok t ∧ Fin1 t ∧ Lw X m cq (n + 20) (δ.set 3 (some t.d)) σ H) := by
  refine TrS.of (B.ps_set 3 (B.callW C_short hk (by decide +kernel) (pa_cons (B.pv 1) pa_nil))) fun σ H D h hq => ?_
  obtain ⟨l, rg⟩ := h.rg
  refine ⟨.ref m, h.r1, m, cq, l, n, rfl, rg, hn, fun t v l' H1 ok fin st rg1 tv => hq _ _ ⟨t, ok, fin, ?_⟩⟩
  exact (⟨h.len, h.r1, h.tr.kp (st.kp rg), l', rg1⟩ : Lw X m cq (n + 20) δ σ H1).slot (i := 3) (by decide) tv (by decide)
theorem tr_draw2 (B : BX X N_law (defScope (topS 51)) k) (hk : 2 ≤ k) (C_short : CalW X.w X.K X.mg "_law_short" 1 2 (spShort X.K)) (hn : n ≤ 7000) {δ : Dl} : TrS X (stAt lawB 8) (Lw X m cq n δ) (fun σ H => ∃ t, Ok t ∧ Fin1 t ∧ Lw X m cq (n + 20) (δ.set 10 (some t.d)) σ H) := by
  refine TrS.of (B.ps_set 10 (B.callW C_short hk (by decide +kernel) (pa_cons (B.pv 1) pa_nil))) fun σ H D h hq => ?_
  obtain ⟨l, rg⟩ := h.rg
  refine ⟨.ref m, h.r1, m, cq, l, n, rfl, rg, hn, fun t v l' H1 ok fin st rg1 tv => hq _ _ ⟨t, ok, fin, ?_⟩⟩
  exact (⟨h.len, h.r1, h.tr.kp (st.kp rg), l', rg1⟩ : Lw X m cq (n + 20) δ σ H1).slot (i := 10) (by decide) tv (by decide)
theorem tr_goal0 (B : BX X N_law (defScope (topS 51)) k) : TrS X (stAt lawB 1) (Lw X m cq n [none, none, none, some t.d, none, none, none, none, none, none, none, none]) (Lw X m cq n (g4 t t)) := by
  refine TrS.of (B.ps_set 4 (B.pv 3)) fun σ H D h hq => ?_
  obtain ⟨v, e, tv⟩ := h.tr 3 _ rfl
  exact ⟨v, e, hq _ _ (h.slot (i := 4) (by decide) tv (by decide))⟩
end
end K53
end
section
set_option maxRecDepth 100000
set_option maxHeartbeats 4000000
/-! law: a turn, the end. -/
namespace K53
open PySem PySem.Spec PyProof.Rows L2
section
variable {X : Cx} {m cq : Addr} {n n' i : Nat} {σ : L2.St} {H H' : Hp} {k : Nat} {t g : Trk} {N : List Str} {sc : Scope} {δ : Dl}
abbrev noD : Dl := [none, none, none, none, none, none, none, none, none, none, none, none]
theorem Lw.bare (h : Lw X m cq n δ σ H) : Lw X m cq n noD σ H := h.weak fun i d e => by
  rcases i with _ | _ | _ | _ | _ | _ | _ | _ | _ | _ | _ | _ | i <;> first | (cases e; done) | (simp at e; done)
theorem way_ref {K : PySem.W.Frag} {v : V} {p : Way} (h : Tp K H v (wayD p)) : ∃ a ys, v = .ref a ∧ SqT K H a ys ∧ ys.length = p.length := by
  obtain ⟨a, ys, e, h1, h2⟩ := Tp.tup_inv (ds := p.map Pr.d) h
  exact ⟨a, ys, e, h1, by rw [h2.length, List.length_map]⟩
theorem tr_told2 (B : BX X N_law (defScope (topS 51)) k) (hG : X.A.guards = some []) (m_repr : X.mg "repr" = none) (m_len : X.mg "len" = none) {r r' : Option Way} (hw : IsW t g r) (hl : IsL t g 5 r') (h7 : δ[7]? = some (some (optD r'))) (h11 : δ[11]? = some (some (optD r))) :
    TrS X (stAt lawB 10) (Lw X m cq n δ) (Lw X m cq n δ) := by
  refine TrS.of (ps_if (pw_or (pw_and (pt_cmpR op_notN (B.pv 7) pe_non (nomark _)) (pw_and1 (pt_cmpR op_ne (pe_callB (cr_reprWay hG B.room.units) (B.gl (by decide +kernel)) m_repr rfl (pa_cons (B.pv 11) pa_nil)) (pe_callB (cr_reprWay hG B.room.units) (B.gl (by decide +kernel)) m_repr rfl (pa_cons (B.pv 7) pa_nil)) (nomark _)))).pt
    (pw_or1 (pw_and (pt_cmpR op_isN (B.pv 7) pe_non (nomark _)) (pw_and (pt_cmpR op_notN (B.pv 11) pe_non (nomark _)) (pw_and1 (pt_cmpR op_lt (pe_callB call_len_seq (B.gl (by decide +kernel)) m_len PySem.boot_len (pa_cons (B.pv 11) pa_nil)) pe_int (nomark _))))).pt)).pt pss_never pss_nil) fun σ H D h hq => ?_
  obtain ⟨v7, e7, t7⟩ := h.tr 7 _ h7
  obtain ⟨v11, e11, t11⟩ := h.tr 11 _ h11
  refine ⟨v7, e7, rfl, _, rfl, ?_⟩
  cases r' with
  | some p =>
    have er : r = some p := both hw hl
    subst er
    have hp : p.length ≤ 100 := by have := short hl; omega
    obtain ⟨a7, y7, rfl, s7, l7⟩ := way_ref (p := p) t7
    obtain ⟨a11, y11, rfl, s11, l11⟩ := way_ref (p := p) t11
    have n7 : decide (V.ref a7 = V.non) = false := decide_eq_false (fun e => by cases e)
    rw [n7]
    refine iteT ⟨_, e11, _, p, rfl, t11, hp, _, e7, _, p, rfl, t7, hp, rfl, _, rfl, ?_⟩
    have e0 : (!decide (V.str (PyData.shown (wayD p)) = V.str (PyData.shown (wayD p)))) = false := by simp
    rw [e0]
    refine iteF ⟨_, e7, rfl, _, rfl, ?_⟩
    rw [n7]
    exact iteF (iteF (hq _ _ h))
  | none =>
    have z : v7 = .non := by cases t7; rfl
    subst z
    have n7 : decide (V.non = V.non) = true := decide_eq_true rfl
    rw [n7]
    refine iteF (iteF ⟨_, e7, rfl, _, rfl, ?_⟩)
    rw [n7]
    refine iteT ⟨_, e11, rfl, _, rfl, ?_⟩
    cases r with
    | none =>
      have z : v11 = .non := by cases t11; rfl
      subst z
      rw [n7]
      exact iteF (iteF (hq _ _ h))
    | some p =>
      have hp := longer hw hl
      obtain ⟨a11, y11, rfl, s11, l11⟩ := way_ref (p := p) t11
      have n11 : decide (V.ref a11 = V.non) = false := decide_eq_false (fun e => by cases e)
      rw [n11]
      refine iteT ⟨_, e11, a11, y11, rfl, .inr s11, _, _, rfl, rfl, _, rfl, ?_⟩
      have e5 : decide ((y11.length : Int) < 5) = false := decide_eq_false (by omega)
      rw [e5]
      exact iteF (hq _ _ h)
theorem tr_led (B : BX X N_law (defScope (topS 51)) k) (hk : 3 ≤ k) (C_led : CalW X.w X.K X.mg "_law_led" 2 3 (spD X.K fLed)) (ok : Ok t) {p : Way} {u : Option PyData} :
    TrS X (stAt (ifBody (stAt lawB 11)) 0) (Lw X m cq n (gg (some t.d) none none u none (some g.d) (some (wayD p)))) (Lw X m cq n (gg (some (run t p).d) none none u none (some g.d) (some (wayD p)))) := by
  let P : Nat → L2.St → Hp → Prop := fun j => Lw X m cq n (gg (some (run t (p.take j)).d) none none u none (some g.d) (some (wayD p)))
  have L : TrS X (stAt (ifBody (stAt lawB 11)) 0) (Lw X m cq n (gg (some t.d) none none u none (some g.d) (some (wayD p)))) (P (p.map Pr.d).length) := tr_forD (i := 9) B (ei_tup (ee_name B (i := 11) rfl rfl)) (B.pgn (i := 9) rfl (by decide +kernel))
    P (fun σ H h => ⟨h, h.tr⟩) (fun j σ H H' h e => h.same e) (fun H0 j d hd => by
      obtain ⟨x, hx, rfl⟩ := way_at hd
      refine Tr.of (pss_one (B.ps_set 3 (B.callW C_led hk (by decide +kernel) (pa_cons (B.pv 3) (pa_cons (B.pv 9) pa_nil))))) fun σ' H D ⟨e0, σ, v, h, tv, hσ⟩ hq => ?_
      have h9 : P j σ' H := by rw [hσ]; exact h.clr (i := 9) (by decide)
      have e9 : σ'[9]? = some (some v) := by rw [hσ, List.getElem?_set_self (by rw [h.len]; decide)]
      obtain ⟨v3, e3, t3⟩ := h9.tr 3 _ rfl
      refine ⟨v3, e3, v, e9, [(run t (p.take j)).d, x.d], (step (run t (p.take j)) x).d, .cons t3 (.cons tv .nil), ⟨run t (p.take j), x, ok_run ok _, rfl, rfl⟩, fun w H2 e2 t2 => hq _ _ ⟨e0.trans e2, ?_⟩⟩
      rw [← run_take hx] at t2
      exact (h9.same e2).slot (i := 3) (by decide) t2 (by decide))
  rw [List.length_map] at L
  have e : P p.length = Lw X m cq n (gg (some (run t p).d) none none u none (some g.d) (some (wayD p))) := by
    show Lw X m cq n (gg (some (run t (p.take p.length)).d) none none u none (some g.d) (some (wayD p))) = _
    rw [List.take_length]
  rw [e] at L
  exact L
theorem tr_end (B : BX X N_law (defScope (topS 51)) k) (hk : 3 ≤ k) (C_led : CalW X.w X.K X.mg "_law_led" 2 3 (spD X.K fLed)) (ok : Ok t) {r : Option Way} {u : Option PyData} (hw : IsW t g r) :
    TrS X (stAt lawB 11) (Lw X m cq n (gg (some t.d) none none u none (some g.d) (some (optD r)))) (Lw X m cq n noD) := by
  refine TrS.of (ps_if (pt_cmpR op_notN (B.pv 11) pe_non (nomark _)) (pss_cons ps_trs (pss_one (ps_if (pt_cmpR (op_neD B.room.units) (B.pv 3) (B.pv 10) (nomark _)) pss_never pss_nil))) pss_nil) fun σ H D h hq => ?_
  obtain ⟨v11, e11, t11⟩ := h.tr 11 _ rfl
  refine ⟨v11, e11, rfl, _, rfl, ?_⟩
  cases r with
  | none =>
    have z : v11 = .non := by cases t11; rfl
    subst z
    have n7 : decide (V.non = V.non) = true := decide_eq_true rfl
    rw [n7]
    exact iteF (hq _ _ h.bare)
  | some p =>
    obtain ⟨a11, y11, rfl, s11, l11⟩ := way_ref (p := p) t11
    have n11 : decide (V.ref a11 = V.non) = false := decide_eq_false (fun e => by cases e)
    rw [n11]
    refine iteT ⟨_, _, tr_led B hk C_led ok, h, fun σ2 H2 h2 => ?_⟩
    obtain ⟨v3, e3, t3⟩ := h2.tr 3 _ rfl
    obtain ⟨v10, e10, t10⟩ := h2.tr 10 _ rfl
    have e1 : (!PyData.eqv (run t p).d g.d) = false := by rw [IsW.leads hw, eqv_trk]; simp
    refine ⟨v3, e3, v10, e10, _, _, t3.dp, t10.dp, sh_trk _, sh_trk _, _, rfl, ?_⟩
    rw [e1]
    exact iteF (hq _ _ h2.bare)
end
end K53
end
section
set_option maxRecDepth 100000
set_option maxHeartbeats 4000000
/-! law: the turn, the body. -/
namespace K53
open PySem PySem.Spec PyProof.Rows L2
structure Cs (w : World) (K : PySem.W.Frag) (mg : Str → Option Value) : Prop where
  begun : Cal K mg "_law_begun" 1 1 (spBegun K)
  next : Cal K mg "_law_next" 2 1 (spNext K)
  press : CalW w K mg "_law_press" 2 2 (spPress K)
  led : CalW w K mg "_law_led" 2 3 (spD K fLed)
  short : CalW w K mg "_law_short" 1 2 (spShort K)
  wt : CalW w K mg "way_to" 2 6 (spWay K)
  lw : CalW w K mg "_law_way" 3 5 (spLawWay K)
  pressed : CalW w K mg "pressed" 2 7 (spD K fBehind)
  m_range : mg "range" = none
  m_min : mg "min" = none
  m_len : mg "len" = none
  m_repr : mg "repr" = none
section
variable {X : Cx} {m cq : Addr} {n n' i : Nat} {σ : L2.St} {H H' : Hp} {k : Nat}
theorem tr_body (B : BX X N_law (defScope (topS 51)) k) (hSc : X.env.scope = defScope (topS 51)) (hk : 7 ≤ k) (hG : X.A.guards = some []) (C : Cs X.w X.K X.mg) (hn : n ≤ 5000) : Tr X lawB (Lw X m cq n noD) (Lw X m cq (n + 60) noD) := by
  refine Tr.of (pss_cons (ps_trs (st := stAt lawB 0)) (pss_cons (ps_trs (st := stAt lawB 1)) (pss_cons (ps_trs (st := stAt lawB 2)) (pss_cons (ps_trs (st := stAt lawB 3)) (pss_cons (ps_trs (st := stAt lawB 4)) (pss_cons (ps_trs (st := stAt lawB 5)) (pss_cons (ps_trs (st := stAt lawB 6)) (pss_cons (ps_trs (st := stAt lawB 7)) (pss_cons (ps_trs (st := stAt lawB 8)) (pss_cons (ps_trs (st := stAt lawB 9)) (pss_cons (ps_trs (st := stAt lawB 10)) (pss_one (ps_trs (st := stAt lawB 11)))))))))))))) fun σ H D h hq => ?_
  refine ⟨_, _, tr_draw B (Nat.le_trans (by decide) hk) C.short (Nat.le_trans hn (by decide)), h, fun σ1 H1 ⟨t, ok, fin, h1⟩ => ⟨_, _, tr_goal0 B, h1, fun σ2 H2 h2 => ⟨_, _, tr_goal B (Nat.le_trans (by decide) hk) C.next C.press C.led C.m_range ok (by omega), h2, fun σ3 H3 ⟨ps, hps, h3⟩ => ⟨_, _, tr_found B hSc (Nat.le_trans (by decide) hk) C.wt C.lw ok (ok_run ok ps) fin, h3, fun σ4 H4 ⟨r, r', hw, hl, h4⟩ => ?_⟩⟩⟩⟩
  obtain ⟨p, rfl⟩ := found hps hl
  have er : r = some p := both hw hl
  subst er
  have hp := short hl
  refine ⟨_, _, tr_same B (Nat.le_trans (by decide) hk) hG C.m_repr C.wt ok fin (p := p) (by omega) rfl rfl rfl, h4, fun σ5 H5 h5 => ⟨_, _, tr_board B, h5, fun σ6 H6 h6 => ⟨_, _, tr_along B hk C.pressed ok, h6, fun σ7 H7 h7 => ?_⟩⟩⟩
  rw [IsW.leads hw] at h7
  refine ⟨_, _, tr_there B (g := run t ps) rfl rfl, h7, fun σ8 H8 h8 => ⟨_, _, tr_draw2 B (Nat.le_trans (by decide) hk) C.short (by omega), h8, fun σ9 H9 ⟨o, oko, fino, h9⟩ => ?_⟩⟩
  have h9' : Lw X m cq (n + 20 + 13 + 20) (gg (some t.d) none none none none (some o.d) none) σ9 H9 := h9.weak fun i d e => by
    rcases i with _ | _ | _ | _ | _ | _ | _ | _ | _ | _ | _ | _ | i <;> first | exact e | (cases e; done) | (simp at e; done)
  refine ⟨_, _, tr_told B hSc (Nat.le_trans (by decide) hk) C.wt C.lw ok oko fin, h9', fun σa Ha ⟨r, r', hw2, hl2, ha⟩ => ⟨_, _, tr_told2 B hG C.m_repr C.m_len hw2 hl2 rfl rfl, ha, fun σb Hb hb => ⟨_, _, tr_end (n := n + 20 + 13 + 20) (u := some (optD r')) B (Nat.le_trans (by decide) hk) C.led ok hw2, hb, fun σc Hc hc => hq _ _ (hc.mono (by omega))⟩⟩⟩
theorem sql_same {K : PySem.W.Frag} {a : Addr} {xs : List V} (e : Same H H') (h : SqL K H a xs) : SqL K H' a xs := by
  rcases h with (h | ⟨o, h⟩) | h
  · exact .inl (.inl (e _ _ h))
  · exact .inl (.inr ⟨o, e _ _ h⟩)
  · exact .inr h
theorem law_body (B : BX X N_law (defScope (topS 51)) k) (hSc : X.env.scope = defScope (topS 51)) (hk : 7 ≤ k) (hG : X.A.guards = some []) (C : Cs X.w X.K X.mg) {a : Addr} {ns : List Int} (hs : SqL X.K H a (ns.map V.int)) (hl : ns.length ≤ 63) :
    ∃ t, PSs X (defBody (topS 51)) t ∧ t { nx := fun _ _ => V.non = V.bl true, rt := fun v _ => v = .bl true } (L2.start N_law [.ref a]) H := by
  refine ⟨_, pss_cons (B.ps_set 1 (B.call C.begun (Nat.le_trans (by decide) hk) (by decide +kernel) (pa_cons (B.pv 0) pa_nil)))
    (pss_cons (ps_for B.own B.calm (pi_range1 (B.gl (by decide +kernel)) C.m_range (pa_cons (pe_op op_add pe_int (pe_callB (call_min2 B.calm) (B.gl (by decide +kernel)) C.m_min rfl (pa_cons (pe_callB call_len_seq (B.gl (by decide +kernel)) C.m_len PySem.boot_len (pa_cons (B.pv 0) pa_nil)) (pa_cons pe_int pa_nil)))) pa_nil) rfl) (B.pgn (i := 2) rfl (by decide +kernel)) (pss_tr (sts := lawB)) (by intro _; rfl)) (pss_one (ps_ret pe_bl))), ?_⟩
  refine ⟨.ref a, rfl, a, ns, rfl, hs, hl, fun m cq l H1 e1 rg _ _ => ?_⟩
  have w0 : Lw X m cq 0 noD ((L2.start N_law [V.ref a]).set 1 (some (.ref m))) H1 := ⟨rfl, rfl, (fun i d e => by
    rcases i with _ | _ | _ | _ | _ | _ | _ | _ | _ | _ | _ | _ | i <;> first | (cases e; done) | (simp at e; done)), l, rg⟩
  have hs1 : SqL X.K H1 a (ns.map V.int) := sql_same e1 hs
  have top : (0 : Int) ≤ 1 + (if (2 : Int) < ((ns.map V.int).length : Int) then 2 else ((ns.map V.int).length : Int)) ∧ 1 + (if (2 : Int) < ((ns.map V.int).length : Int) then 2 else ((ns.map V.int).length : Int)) ≤ 3 := by
    split <;> omega
  generalize hr : 1 + (if (2 : Int) < ((ns.map V.int).length : Int) then 2 else ((ns.map V.int).length : Int)) = rr at top
  obtain ⟨r, hrr⟩ := Int.eq_ofNat_of_zero_le top.1
  refine ⟨.ref a, rfl, a, ns.map V.int, rfl, .inl hs1, _, _, rfl, 1, _, rfl, rfl, ?_⟩
  refine ⟨_, rfl, ?_, ?_, ?_⟩
  · rw [hr]; omega
  · rw [hr]; omega
  rw [hr]
  have er : rr.toNat = r := by rw [hrr]; simp
  have r3 : r ≤ 3 := by omega
  rw [er]
  refine ⟨fun i μ σ H' => μ = r - i ∧ i ≤ r ∧ Lw X m cq (60 * i) noD σ H', ⟨_, rfl, Nat.zero_le _, w0⟩, ?_⟩
  rintro i μ σ' H' ⟨rfl, hi, q⟩
  by_cases c : i < r
  · refine .inr ⟨c, fun σ3 H3 => Lw X m cq (60 * (i + 1)) noD σ3 H3, fun σ3 H3 q3 => ⟨r - (i + 1), by omega, rfl, c, q3⟩, fun v H2 yl => ?_⟩
    obtain ⟨rfl, rfl⟩ := yl
    exact ⟨_, _, tr_body (n := 60 * i) B hSc hk hG C (by omega), q.clr (i := 2) (by decide), fun σ3 H3 q3 => q3⟩
  · have ei : i = r := by omega
    subst ei
    exact .inl ⟨Nat.le_refl _, rfl⟩
end
end K53
end
section
set_option maxRecDepth 100000
set_option maxHeartbeats 4000000
/-! The law's def, called by the claim. -/
namespace K53
open PySem PySem.Spec PyProof.Rows L2
section
variable {P : Program} {w : World} {K : PySem.W.Frag} {mg mb : Str → Option Value} {fa a : Addr} {s : Shared} {vs : List Value} {ns : List Int} {base : Heap} {H : Hp} {fd : FuncData}
/-- the law's def, run where no guard stands -/
theorem law_run (Fu : Fun K "law" "law" (topS 51) fa fd) (hb : ∀ us : List Value, us.length = 1 → bindArgs fd ⟨us, []⟩ = pure ((["script"] : List Str).zip us)) (C : Cs w K mg) (hs : SqL K H a (ns.map V.int)) (hl : ns.length ≤ 63) (e0 : Env0 P w K mg base callerA [] s H) (hr : Room 8 callerA) :
    codeAny (model P w) callerA (.call (.ref fa) ⟨[.ref a], []⟩) (CR CX0 [] P w H s (fun v _ => v = .bl true) fun _ _ _ => False) s := by
  obtain ⟨oc, od, kV, doc, pm, an, cdv, ct, osl, hfd, lk, hcd⟩ := Fu.ex
  subst hfd
  refine StX.run_bnd (k := 7) (N := N_law) (ps := ["script"]) (G := fun xs H2 => xs = [.ref a] ∧ H2 = H) lk hcd sc_law hr e0 ?_ ?_
  · intro A' Ex Q h
    rw [hb [.ref a] rfl]
    exact wpAny_pure (h s H [.ref a] [.ref a] e0 Un.refl rfl (fun _ _ z => z) (.cons rfl .nil) rfl ⟨rfl, rfl⟩)
  · rintro s2 H2 xs ⟨rfl, rfl⟩ hr2
    obtain ⟨t, h1, h2⟩ := law_body (X := (cxOf CX0 P w K mg base N_law "law" (defScope (topS 51)) fa cdv callerA [] s2 H2 fun _ _ _ => False).nox) (k := 7) ⟨rfl, fun _ => .inl rfl, rfl, hr2, sc_law.nd, fun _ => .inl rfl, PassesOwn.never⟩ rfl (Nat.le_refl _) rfl C hs hl
    exact ⟨t, h1.nox, h2⟩
/-- what is tracked at the start: the script, or nothing where the module owns it -/
structure AtStart (P : Program) (w : World) (K : PySem.W.Frag) (a : Addr) (ns : List Int) (s : Shared) (H : Hp) : Prop where
  only : L2.Only H
  seq : SqL K H a (ns.map V.int)
  ok : HOk P w H s.heap
  out : ∀ b, b ≠ a → H b = none
  own : ∀ o, K.lookup a = some o → H a = none
theorem at_start (KX : K.In s.heap) (obj : s.heap.get? a = some { cls := .type "list", data := .seq vs.toArray }) (hi : IntsAre vs ns) (hl : ns.length ≤ 63) : ∃ H, AtStart P w K a ns s H := by
  have rel := vals_ints hi
  have hz : ns.length ≤ sizeLine := Nat.le_trans hl (by decide)
  cases hk : K.lookup a with
  | some o =>
    have same := KX a o hk
    rw [obj] at same
    cases same
    have sz : vs.toArray.size ≤ sizeLine := by rw [List.size_toArray, hi.length]; exact hz
    exact ⟨fun _ => none, fun _ => .inl rfl, .inr ⟨_, vs.toArray, _, hk, rfl, rfl, rfl, sz, by simpa using rel⟩, fun b u z => (by cases (show (none : Option HO) = some u from z)), fun _ _ => rfl, fun _ _ => rfl⟩
  | none =>
    let H : Hp := fun b => if b = a then some (.frz { cls := .type "list", data := .seq vs.toArray } (.lst (ns.map V.int))) else none
    have h1 : H a = some (.frz { cls := .type "list", data := .seq vs.toArray } (.lst (ns.map V.int))) := if_pos rfl
    have h2 : ∀ b, b ≠ a → H b = none := fun b q => if_neg q
    refine ⟨H, fun b => ?_, .inl (.inr ⟨_, h1⟩), fun b u z => ?_, h2, fun o z => by rw [hk] at z; cases z⟩
    · by_cases q : b = a
      · rw [q]; exact .inr ⟨_, _, h1⟩
      · exact .inl (h2 b q)
    · by_cases q : b = a
      · subst q
        rw [h1] at z
        cases z
        exact ⟨obj, by rw [List.length_map]; exact hz, vs, _, rel, obj⟩
      · rw [h2 b q] at z; cases z
theorem AtStart.hid (S : AtStart P w K a ns s H) {b : Addr} {o : Obj} (e : s.heap.get? b = some o) (n : b = a → H a = none) : (hidT s.heap H).get? b = some o := by
  refine hidT_get e ?_
  by_cases q : b = a
  · rw [q]; exact n q
  · exact S.out b q
theorem AtStart.nsp (S : AtStart P w K a ns s H) (obj : s.heap.get? a = some { cls := .type "list", data := .seq vs.toArray }) {b : Addr} {m : Str → Option Value} (h : s.heap.Ns b m) : (hidT s.heap H).Ns b m := by
  obtain ⟨o, es, ep, e, d, r⟩ := h
  refine ⟨o, es, ep, S.hid e fun q => ?_, d, r⟩
  subst q
  rw [obj] at e
  cases e
  cases (show Data.seq vs.toArray _ = Data.dict es ep from d)
theorem law_claim (KX : K.In s.heap) (nm : s.heap.Ns mainGlobals mg) (nb : s.heap.Ns builtinsNs mb) (boot : ∀ x : Str, x ≠ "__name__" → mb x = bootBuiltins x) (lim : s.heap.NoLimit) (gens : s.gens = #[])
    (obj : s.heap.get? a = some { cls := .type "list", data := .seq vs.toArray }) (hi : IntsAre vs ns) (hl : ns.length ≤ 63)
    (go : ∀ (base : Heap) (H : Hp), SqL K H a (ns.map V.int) → Env0 P w K mg base callerA [] s H → codeAny (model P w) callerA (.call (.ref fa) ⟨[.ref a], []⟩) (CR CX0 [] P w H s (fun v _ => v = .bl true) fun _ _ _ => False) s) :
    codeAny (model P w) callerA (.call (.ref fa) ⟨[.ref a], []⟩) (fun r t => r = .ok (.ret (.bool true)) ∧ OldK s.heap t.heap ∧ t.os = s.os ∧ AllBare t.gens) s := by
  obtain ⟨H, S⟩ := at_start (P := P) (w := w) KX obj hi hl
  have kin : K.In (hidT s.heap H) := fun b o e => S.hid (KX b o e) fun q => S.own o (q ▸ e)
  have mod : Mod K mg (hidT s.heap H) := by
    obtain ⟨mc, l1, l2⟩ := lim
    exact ⟨kin, S.nsp obj nm, ⟨mb, S.nsp obj nb, boot⟩, mc, S.nsp obj l1, l2⟩
  have e0 : Env0 P w K mg (hidT s.heap H) callerA [] s H := by
    refine ⟨rfl, mod, fun b o e => of_hidT e, Nat.le_of_eq (hidT_size _ _), trivial, fun b q => ?_, S.ok, .of_eq gens⟩
    exact absurd (show b ∈ ([] : List Addr) from q) (by simp)
  refine codeAny_mono (go _ H S.seq e0) fun r t c => ?_
  cases r with
  | error e => exact (show False from c).elim
  | ok fl =>
    cases fl with
    | ret u =>
      obtain ⟨v, H2, os, bare, un, ok2, rv, is⟩ := c
      have is2 : v = .bl true := is
      subst is2
      have eu : u = Value.bool true := rv
      subst eu
      refine ⟨rfl, OldK.of_keep fun b o e => ?_, os, bare⟩
      rcases S.only b with z | ⟨ob, xs, z⟩
      · exact un.keep b o e z (fun q => absurd (show b ∈ ([] : List Addr) from q) (by simp)) (by simp)
      · obtain ⟨g1, _⟩ := S.ok b _ z
        obtain ⟨g2, _⟩ := ok2 b _ (un.frzs b ob _ z)
        rw [e] at g1
        cases g1
        exact g2
    | _ => exact False.elim c
end
end K53
end
section
set_option maxRecDepth 100000
set_option maxHeartbeats 4000000
/-! What the top leaves, and the promises from it. -/
namespace K53
open PySem PySem.Spec PyProof.Rows L2
structure Top (w : World) (K : PySem.W.Frag) (mg : Str → Option Value) : Prop where
  f5 : FunAt K mg "is_whole" (topS 5) ["thing", "least", "most"]
  f6 : FunAt K mg "is_number" (topS 6) ["thing"]
  f13 : FunAt K mg "is_layer" (topS 13) ["thing", "least", "most"]
  f14 : FunAt K mg "is_sign" (topS 14) ["thing"]
  f15 : FunAt K mg "is_pace" (topS 15) ["thing"]
  f16 : FunAt K mg "are_layers" (topS 16) ["layers", "undone"]
  f17 : FunAt K mg "is_looping" (topS 17) ["track"]
  f18 : FunAt K mg "are_default" (topS 18) ["track"]
  f19 : FunAt K mg "is_track" (topS 19) ["thing"]
  f20 : FunAt K mg "need_pedal" (topS 20) ["thing"]
  f21 : FunAt K mg "is_press" (topS 21) ["tracks", "thing"]
  f22 : FunAt K mg "closed" (topS 22) ["track", "mode"]
  f23 : FunAt K mg "tapped" (topS 23) ["track"]
  f24 : FunAt K mg "stopped" (topS 24) ["track"]
  f25 : FunAt K mg "cleared" (topS 25) ["track"]
  f26 : FunAt K mg "undone_by" (topS 26) ["track"]
  f27 : FunAt K mg "redone_by" (topS 27) ["track"]
  f28 : FunAt K mg "joined" (topS 28) ["track"]
  f29 : FunAt K mg "other_way" (topS 29) ["track"]
  f30 : FunAt K mg "flipped" (topS 30) ["track"]
  f31 : FunAt K mg "hushed_or_not" (topS 31) ["track"]
  f33 : FunAt K mg "behind_press" (topS 33) ["pedal", "press"]
  f34 : FunAt K mg "need_press" (topS 34) ["tracks", "thing"]
  f35 : FunAt K mg "pressed" (topS 35) ["pedal", "press"]
  f37 : FunAt K mg "all_presses" (topS 37) []
  f38 : FunAt K mg "way_to" (topS 38) ["track", "goal"]
  f40 : FunAt K mg "_law_begun" (topS 40) ["script"]
  f41 : FunAt K mg "_law_next" (topS 41) ["m", "total"]
  f42 : FunAt K mg "_law_press" (topS 42) ["m", "tracks"]
  f43 : FunAt K mg "_law_joined" (topS 43) ["layers"]
  f44 : FunAt K mg "_law_tapped" (topS 44) ["track"]
  f45 : FunAt K mg "_law_stopped" (topS 45) ["track"]
  f46 : FunAt K mg "_law_layered" (topS 46) ["track", "word"]
  f47 : FunAt K mg "_law_led" (topS 47) ["track", "press"]
  f48 : FunAt K mg "_law_short" (topS 48) ["m"]
  f49 : FunAt K mg "_law_all" (topS 49) []
  f50 : FunAt K mg "_law_way" (topS 50) ["track", "goal", "most"]
  gEmpty : GlobD K mg "EMPTY" EMP.d
  gMT : GlobD K mg "MOST_TRACKS" (.int 4)
  gML : GlobD K mg "MOST_LAYERS" (.int 4)
  gLen : GlobD K mg "MOST_LENGTH" (.int 64)
  gPaces : GlobD K mg "PACES" (.tuple paces3)
  gLooping : GlobD K mg "LOOPING" (.tuple looping3)
  deeds : ∃ (dd : Addr) (es : Array DictEntry) (n : Nat), mg "DEEDS" = some (.ref dd) ∧ KDict K w dd es n ∧ Vals (deedWords.map fun p => V.str p.str) (es.toList.map (·.key)) ∧ ∀ p : Pr, p.isPace = false → ∃ (f : Addr), PySem.W.nsIn K dd p.str = some (some (.ref f)) ∧ mg (deed p) = some (.ref f)
  m_len : mg "len" = none
  m_isinstance : mg "isinstance" = none
  m_int : mg "int" = none
  m_bool : mg "bool" = none
  m_tuple : mg "tuple" = none
  m_str : mg "str" = none
  m_all : mg "all" = none
  m_sum : mg "sum" = none
  m_zip : mg "zip" = none
  m_enum : mg "enumerate" = none
  m_sorted : mg "sorted" = none
  m_range : mg "range" = none
  m_list : mg "list" = none
  m_repr : mg "repr" = none
  m_min : mg "min" = none
section
variable {K : PySem.W.Frag} {mg : Str → Option Value} {w : World}
theorem Top.cs (T : Top w K mg) : Cs w K mg := by
  have closed := C_closed T.f22 T.gEmpty
  have tapped := C_tapped T.f23 closed T.gML T.m_len
  have stopped := C_stopped T.f24 closed T.gLooping
  have cleared := C_cleared T.f25 T.gEmpty
  have undone := C_undone T.f26 T.gLooping T.m_len
  have redone := C_redone T.f27
  have way := C_way T.f29 T.gLooping
  have flipped := C_flipped T.f30 T.gLooping
  have hushed := C_hushed T.f31 T.gLooping
  have joined := C_joined T.f28 T.m_len T.m_sum T.m_zip T.m_tuple
  have whole := C_whole T.f5 T.m_isinstance T.m_int T.m_bool
  have number := C_number T.f6 T.m_isinstance T.m_int T.m_bool
  have layer := C_layer T.f13 number T.m_isinstance T.m_tuple T.m_len T.m_all
  have sign := C_sign T.f14 whole
  have pace := C_pace T.f15 whole T.gPaces
  have layers := C_layers T.f16 layer T.gML T.gLen T.m_isinstance T.m_tuple T.m_len T.m_all
  have loops := C_looping T.f17 layers whole sign pace T.m_isinstance T.m_bool T.m_len
  have dflt := C_default T.f18 number T.gEmpty T.m_isinstance T.m_bool T.m_tuple T.m_all
  have track := C_track T.f19 loops dflt layer T.gLooping T.gLen T.m_isinstance T.m_str T.m_tuple T.m_len
  have pedal := C_needPedal T.f20 track T.gMT T.m_isinstance T.m_tuple T.m_len T.m_enum
  obtain ⟨dd, es, n, hm, hd, hv, hf⟩ := T.deeds
  have D : Deeds w K mg := ⟨dd, es, n, hm, hd, fun p hp => by
    obtain ⟨f, h1, h2⟩ := hf p hp
    refine ⟨f, h1, h2, ?_⟩
    cases p <;> first
      | exact ⟨1, by decide, cleared.w w⟩
      | exact ⟨1, by decide, flipped.w w⟩
      | exact ⟨1, by decide, joined.w w⟩
      | exact ⟨1, by decide, hushed.w w⟩
      | exact ⟨1, by decide, redone.w w⟩
      | exact ⟨2, by decide, stopped.w w⟩
      | exact ⟨2, by decide, tapped.w w⟩
      | exact ⟨1, by decide, way.w w⟩
      | exact ⟨1, by decide, undone.w w⟩
      | cases hp⟩
  have K2 : DeedsKeys w K mg := ⟨dd, es, n, hm, hd, hv⟩
  have isPress := C_isPress T.f21 whole pace D T.m_isinstance T.m_tuple T.m_str T.m_len
  have behind := C_behind T.f33 D T.gLooping
  have lall := C_lawAll T.f49 T.m_sorted (w := w)
  have next := C_lawNext T.f41 T.m_int T.m_len
  have led := C_lawLed T.f47 (C_lawTapped T.f44 T.m_len) (C_lawStopped T.f45) (C_lawLayered T.f46 (C_lawJoined T.f43 T.m_len T.m_zip T.m_tuple (w := w)) T.m_len)
  exact ⟨C_lawBegun T.f40 T.m_list, next, C_lawPress T.f42 next, led, C_lawShort T.f48 next T.m_range T.m_tuple, C_wayTo T.f38 track (C_allPresses T.f37 K2 T.gPaces T.m_sorted) behind, C_lawWay T.f50 lall led T.m_range,
    C_pressed T.f35 pedal (C_needPress T.f34 isPress) behind T.m_len, T.m_range, T.m_min, T.m_len, T.m_repr⟩
theorem walk_all {l : PySem.W.OpenLaw} {q : Program} {loose : List Str} {XP : (Str → Option Value) → Heap → Prop} {YP : World → Heap → Prop} {d : DefRec} {K : Params → PySem.W.Frag} (hn : l.most = some 63) (hdf : d.params.defaults = []) (hY : ∀ (w : World) (h : Heap), YP w h → (K w.params).In h)
    (F : ∀ (w : World) (mg : Str → Option Value) (fa : Addr) (h : Heap), (K w.params).In h → h.Ns mainGlobals mg → mg d.name = some (.ref fa) → FunAt (K w.params) mg "law" (topS 51) ["script"] ∧ Top w (K w.params) mg) (hname : d.name = "law") :
    PySem.W.WalkO q loose XP YP l.row.toRowW d [] (fun f vs => PySem.call f vs) := by
  refine Att.attach_call hn hdf fun w s₀ s₁ mg mb fa o pm cd doc a vs ns G Y ho hd hcd hmg hobj hints hlen hg => ?_
  obtain ⟨⟨fb, fd, Fu, hm, _⟩, T⟩ := F w mg fa _ (hY w _ Y) G.T.g hmg
  rw [hname] at hmg
  rw [hm] at hmg
  cases hmg
  have hb : ∀ us : List Value, us.length = 1 → bindArgs fd ⟨us, []⟩ = pure ((["script"] : List Str).zip us) := by
    obtain ⟨oc, od, kV, doc, pm, an, cdv, ct, osl, hfd, lk, hcd⟩ := Fu.ex
    subst hfd
    exact fun us hl => match us, hl with | [_], _ => rfl
  exact law_claim (hY w _ Y) G.T.g G.T.b G.T.builtins G.T.nolimit hg hobj hints hlen fun base H hs e0 => law_run Fu hb T.cs hs hlen e0 ⟨rfl, by decide, by decide⟩
/-- a def by its four facts -/
theorem fun_at {h : Heap} (X : K.In h) (G : h.Ns mainGlobals mg) {x : Str} {st : Stmt} {ps : List Str} {f : Addr} {oc : Value} {od an : Option Addr} {osl : Array (Option Value)} {kV doc pm cdv ct : Value}
    (a : PySem.W.nsIn K mainGlobals x = some (some (.ref f))) (l : K.lookup f = some ⟨oc, od, .func (PySem.W.fnOf x x (defArgs st) (defBody st) (defScope st) .none kV doc pm an cdv ct), osl⟩) (c : PySem.W.codeIn K cdv x = true) (k : PySem.W.keepIn K (.ref f) = true)
    (hb : ∀ (kV doc pm : Value) (an : Option Addr) (cdv ct : Value) (us : List Value), us.length = ps.length → bindArgs (PySem.W.fnOf x x (defArgs st) (defBody st) (defScope st) .none kV doc pm an cdv ct) ⟨us, []⟩ = pure (ps.zip us)) : FunAt K mg x st ps :=
  ⟨f, _, fun_mk l c k, PySem.W.mg_of X G a, (fun_mk (st := st) l c k).binds hb⟩
end
end K53
end
section
set_option maxRecDepth 100000
set_option maxHeartbeats 4000000
/-! The top's constants and its table. -/
namespace K53
open PySem PySem.Spec PyProof.Rows L2
section
variable {K : PySem.W.Frag} {mg : Str → Option Value} {w : World} {h : Heap}
theorem glob_int (X : K.In h) (G : h.Ns mainGlobals mg) {x : Str} {i : Int} {t : Tok} (a : PySem.W.nsIn K mainGlobals x = some (some (.int i t))) : GlobD K mg x (.int i) := ⟨_, .int i, PySem.W.mg_of X G a, ⟨t, rfl⟩, fun _ => .int i⟩
theorem glob_tup (X : K.In h) (G : h.Ns mainGlobals mg) {x : Str} {p : Addr} {od : Option Addr} {its : Array Value} {n : Nat} {sl : Array (Option Value)} {xs : List V} {ds : List PyData} (a : PySem.W.nsIn K mainGlobals x = some (some (.ref p)))
    (l : K.lookup p = some ⟨.type "tuple", od, .seq its n, sl⟩) (z : its.size ≤ 1000) (v : Vals xs its.toList) (t : ∀ H, TpAll K H xs ds) : GlobD K mg x (.tuple ds) :=
  ⟨_, .ref p, PySem.W.mg_of X G a, rfl, fun H => .tup (.inr ⟨_, its, n, l, rfl, rfl, Nat.le_of_lt (small1000 z), v⟩) (t H)⟩
theorem tp_void {H : Hp} {p : Addr} {od : Option Addr} {its : Array Value} {n : Nat} {sl : Array (Option Value)} (l : K.lookup p = some ⟨.type "tuple", od, .seq its n, sl⟩) (z : its.toList = []) : Tp K H (.ref p) (.tuple []) := by
  have hz : its.size ≤ sizeLine := by
    rw [← Array.length_toList, z]; exact Nat.zero_le _
  exact .tup (.inr ⟨_, its, n, l, rfl, rfl, hz, by rw [z]; exact .nil⟩) .nil
theorem glob_empty (X : K.In h) (G : h.Ns mainGlobals mg) {p q r : Addr} {od od1 od2 : Option Addr} {its its1 its2 : Array Value} {n n1 n2 : Nat} {sl sl1 sl2 : Array (Option Value)} {t1 t2 t3 t4 t5 : Tok}
    (a : PySem.W.nsIn K mainGlobals "EMPTY" = some (some (.ref p))) (l : K.lookup p = some ⟨.type "tuple", od, .seq its n, sl⟩) (e : its.toList = [.str "empty" t1, .ref q, .ref r, .int 0 t2, .int 1 t3, .int 2 t4, .int 1 t5, .bool false])
    (l1 : K.lookup q = some ⟨.type "tuple", od1, .seq its1 n1, sl1⟩) (z1 : its1.toList = []) (l2 : K.lookup r = some ⟨.type "tuple", od2, .seq its2 n2, sl2⟩) (z2 : its2.toList = []) : GlobD K mg "EMPTY" EMP.d := by
  have v : Vals [.str "empty", .ref q, .ref r, .int 0, .int 1, .int 2, .int 1, .bl false] its.toList := by
    rw [e]
    exact .cons ⟨_, rfl⟩ (.cons rfl (.cons rfl (.cons ⟨_, rfl⟩ (.cons ⟨_, rfl⟩ (.cons ⟨_, rfl⟩ (.cons ⟨_, rfl⟩ (.cons rfl .nil)))))))
  refine glob_tup (ds := EMP.fs) X G a l ?_ v fun H => ?_
  · rw [← Array.length_toList, e]; exact Nat.le_of_ble_eq_true rfl
  · exact .cons (.str _) (.cons (tp_void l1 z1) (.cons (tp_void l2 z2) (.cons (.int _) (.cons (.int _) (.cons (.int _) (.cons (.int _) (.cons (.bl _) .nil)))))))
theorem glob_paces (X : K.In h) (G : h.Ns mainGlobals mg) {p : Addr} {od : Option Addr} {its : Array Value} {n : Nat} {sl : Array (Option Value)} {t1 t2 t3 : Tok}
    (a : PySem.W.nsIn K mainGlobals "PACES" = some (some (.ref p))) (l : K.lookup p = some ⟨.type "tuple", od, .seq its n, sl⟩) (e : its.toList = [.int 1 t1, .int 2 t2, .int 4 t3]) : GlobD K mg "PACES" (.tuple paces3) := by
  have v : Vals [.int 1, .int 2, .int 4] its.toList := by
    rw [e]; exact .cons ⟨_, rfl⟩ (.cons ⟨_, rfl⟩ (.cons ⟨_, rfl⟩ .nil))
  exact glob_tup (ds := paces3) X G a l (by rw [← Array.length_toList, e]; exact Nat.le_of_ble_eq_true rfl) v fun H => .cons (.int _) (.cons (.int _) (.cons (.int _) .nil))
theorem glob_looping (X : K.In h) (G : h.Ns mainGlobals mg) {p : Addr} {od : Option Addr} {its : Array Value} {n : Nat} {sl : Array (Option Value)} {t1 t2 t3 : Tok}
    (a : PySem.W.nsIn K mainGlobals "LOOPING" = some (some (.ref p))) (l : K.lookup p = some ⟨.type "tuple", od, .seq its n, sl⟩) (e : its.toList = [.str "play" t1, .str "dub" t2, .str "stop" t3]) : GlobD K mg "LOOPING" (.tuple looping3) := by
  have v : Vals [.str "play", .str "dub", .str "stop"] its.toList := by
    rw [e]; exact .cons ⟨_, rfl⟩ (.cons ⟨_, rfl⟩ (.cons ⟨_, rfl⟩ .nil))
  exact glob_tup (ds := looping3) X G a l (by rw [← Array.length_toList, e]; exact Nat.le_of_ble_eq_true rfl) v fun H => .cons (.str _) (.cons (.str _) (.cons (.str _) .nil))
def words9 : List Str := ["tap", "stop", "clear", "undo", "redo", "join", "turn", "flip", "mute"]
def wordV : Value → Option Str
  | .str x _ => some x
  | _ => none
theorem vals_words : ∀ {ws : List Str} {us : List Value}, us.map wordV = ws.map some → Vals (ws.map V.str) us
  | [], [], _ => .nil
  | [], _ :: _, e => by cases e
  | _ :: _, [], e => by cases e
  | x :: ws, u :: us, e => by
    have e1 : wordV u = some x := (List.cons.inj e).1
    have e2 := vals_words (ws := ws) (us := us) (List.cons.inj e).2
    cases u with
    | str y t => cases e1; exact .cons ⟨t, rfl⟩ e2
    | _ => cases e1
theorem deeds_mk (X : K.In h) (G : h.Ns mainGlobals mg) {dd : Addr} {es : Array DictEntry} {n : Nat} {f1 f2 f3 f4 f5 f6 f7 f8 f9 : Addr} (a : PySem.W.nsIn K mainGlobals "DEEDS" = some (some (.ref dd))) (l : K.lookup dd = some ⟨.type "dict", none, .dict es n, #[]⟩)
    (ks : es.toList.map He.keyOf = He.keysIn w.params words9) (low : (dd == sysModules) = false) (ky : (es.toList.map (·.key)).map wordV = words9.map some)
    (d1 : PySem.W.nsIn K dd "clear" = some (some (.ref f1))) (m1 : PySem.W.nsIn K mainGlobals "cleared" = some (some (.ref f1)))
    (d2 : PySem.W.nsIn K dd "flip" = some (some (.ref f2))) (m2 : PySem.W.nsIn K mainGlobals "flipped" = some (some (.ref f2)))
    (d3 : PySem.W.nsIn K dd "join" = some (some (.ref f3))) (m3 : PySem.W.nsIn K mainGlobals "joined" = some (some (.ref f3)))
    (d4 : PySem.W.nsIn K dd "mute" = some (some (.ref f4))) (m4 : PySem.W.nsIn K mainGlobals "hushed_or_not" = some (some (.ref f4)))
    (d5 : PySem.W.nsIn K dd "redo" = some (some (.ref f5))) (m5 : PySem.W.nsIn K mainGlobals "redone_by" = some (some (.ref f5)))
    (d6 : PySem.W.nsIn K dd "stop" = some (some (.ref f6))) (m6 : PySem.W.nsIn K mainGlobals "stopped" = some (some (.ref f6)))
    (d7 : PySem.W.nsIn K dd "tap" = some (some (.ref f7))) (m7 : PySem.W.nsIn K mainGlobals "tapped" = some (some (.ref f7)))
    (d8 : PySem.W.nsIn K dd "turn" = some (some (.ref f8))) (m8 : PySem.W.nsIn K mainGlobals "other_way" = some (some (.ref f8)))
    (d9 : PySem.W.nsIn K dd "undo" = some (some (.ref f9))) (m9 : PySem.W.nsIn K mainGlobals "undone_by" = some (some (.ref f9))) :
    ∃ (dd : Addr) (es : Array DictEntry) (n : Nat), mg "DEEDS" = some (.ref dd) ∧ KDict K w dd es n ∧ Vals (deedWords.map fun p => V.str p.str) (es.toList.map (·.key)) ∧ ∀ p : Pr, p.isPace = false → ∃ (f : Addr), PySem.W.nsIn K dd p.str = some (some (.ref f)) ∧ mg (deed p) = some (.ref f) := by
  refine ⟨dd, es, n, PySem.W.mg_of X G a, ⟨l, He.keysLit_of ks, low⟩, vals_words (ws := words9) ky, fun p hp => ?_⟩
  cases p with
  | clear => exact ⟨f1, d1, PySem.W.mg_of X G m1⟩
  | flip => exact ⟨f2, d2, PySem.W.mg_of X G m2⟩
  | join => exact ⟨f3, d3, PySem.W.mg_of X G m3⟩
  | mute => exact ⟨f4, d4, PySem.W.mg_of X G m4⟩
  | redo => exact ⟨f5, d5, PySem.W.mg_of X G m5⟩
  | stop => exact ⟨f6, d6, PySem.W.mg_of X G m6⟩
  | tap => exact ⟨f7, d7, PySem.W.mg_of X G m7⟩
  | turn => exact ⟨f8, d8, PySem.W.mg_of X G m8⟩
  | undo => exact ⟨f9, d9, PySem.W.mg_of X G m9⟩
  | _ => cases hp
end
end K53
end
open PySem PySem.W PyProof.Rows
set_option maxRecDepth 100000 in
set_option maxHeartbeats 0 in
theorem PySem.Challenge.cw_pedalrounds_k53_whole_ways_holds : PySem.Challenge.rw_pedalrounds_k53_whole_ways.Holds := by
  w_on; o_law; k_head; (case hw => w_witness2)
  k_fill
  refine K53.walk_all (l := PySem.Challenge.rw_pedalrounds_k53_whole_ways) rfl rfl (fun w h Y => PySem.W.kIn_of Y) ?F rfl
  case F =>
    intro w mg fa h KX G hmg
    clear hmg
    refine' ⟨?f51, ⟨?f5, ?f6, ?f13, ?f14, ?f15, ?f16, ?f17, ?f18, ?f19, ?f20, ?f21, ?f22, ?f23, ?f24, ?f25, ?f26, ?f27, ?f28, ?f29, ?f30, ?f31, ?f33, ?f34, ?f35, ?f37, ?f38, ?f40, ?f41, ?f42, ?f43, ?f44, ?f45, ?f46, ?f47, ?f48, ?f49, ?f50, ?gEmpty, ?gMT, ?gML, ?gLen, ?gPaces, ?gLooping, ?deeds, ?m_len, ?m_isinstance, ?m_int, ?m_bool, ?m_tuple, ?m_str, ?m_all, ?m_sum, ?m_zip, ?m_enum, ?m_sorted, ?m_range, ?m_list, ?m_repr, ?m_min⟩⟩
    case f5 =>
      refine' K53.fun_at KX G ?a ?l ?c ?k fun _ _ _ _ _ _ us hl => match us, hl with | [_, _, _], _ => rfl
      (case a => k_is); (case l => k_is); (case c => k_is); (case k => k_is)
    case f6 =>
      refine' K53.fun_at KX G ?a ?l ?c ?k fun _ _ _ _ _ _ us hl => match us, hl with | [_], _ => rfl
      (case a => k_is); (case l => k_is); (case c => k_is); (case k => k_is)
    case f13 =>
      refine' K53.fun_at KX G ?a ?l ?c ?k fun _ _ _ _ _ _ us hl => match us, hl with | [_, _, _], _ => rfl
      (case a => k_is); (case l => k_is); (case c => k_is); (case k => k_is)
    case f14 =>
      refine' K53.fun_at KX G ?a ?l ?c ?k fun _ _ _ _ _ _ us hl => match us, hl with | [_], _ => rfl
      (case a => k_is); (case l => k_is); (case c => k_is); (case k => k_is)
    case f15 =>
      refine' K53.fun_at KX G ?a ?l ?c ?k fun _ _ _ _ _ _ us hl => match us, hl with | [_], _ => rfl
      (case a => k_is); (case l => k_is); (case c => k_is); (case k => k_is)
    case f16 =>
      refine' K53.fun_at KX G ?a ?l ?c ?k fun _ _ _ _ _ _ us hl => match us, hl with | [_, _], _ => rfl
      (case a => k_is); (case l => k_is); (case c => k_is); (case k => k_is)
    case f17 =>
      refine' K53.fun_at KX G ?a ?l ?c ?k fun _ _ _ _ _ _ us hl => match us, hl with | [_], _ => rfl
      (case a => k_is); (case l => k_is); (case c => k_is); (case k => k_is)
    case f18 =>
      refine' K53.fun_at KX G ?a ?l ?c ?k fun _ _ _ _ _ _ us hl => match us, hl with | [_], _ => rfl
      (case a => k_is); (case l => k_is); (case c => k_is); (case k => k_is)
    case f19 =>
      refine' K53.fun_at KX G ?a ?l ?c ?k fun _ _ _ _ _ _ us hl => match us, hl with | [_], _ => rfl
      (case a => k_is); (case l => k_is); (case c => k_is); (case k => k_is)
    case f20 =>
      refine' K53.fun_at KX G ?a ?l ?c ?k fun _ _ _ _ _ _ us hl => match us, hl with | [_], _ => rfl
      (case a => k_is); (case l => k_is); (case c => k_is); (case k => k_is)
    case f21 =>
      refine' K53.fun_at KX G ?a ?l ?c ?k fun _ _ _ _ _ _ us hl => match us, hl with | [_, _], _ => rfl
      (case a => k_is); (case l => k_is); (case c => k_is); (case k => k_is)
    case f22 =>
      refine' K53.fun_at KX G ?a ?l ?c ?k fun _ _ _ _ _ _ us hl => match us, hl with | [_, _], _ => rfl
      (case a => k_is); (case l => k_is); (case c => k_is); (case k => k_is)
    case f23 =>
      refine' K53.fun_at KX G ?a ?l ?c ?k fun _ _ _ _ _ _ us hl => match us, hl with | [_], _ => rfl
      (case a => k_is); (case l => k_is); (case c => k_is); (case k => k_is)
    case f24 =>
      refine' K53.fun_at KX G ?a ?l ?c ?k fun _ _ _ _ _ _ us hl => match us, hl with | [_], _ => rfl
      (case a => k_is); (case l => k_is); (case c => k_is); (case k => k_is)
    case f25 =>
      refine' K53.fun_at KX G ?a ?l ?c ?k fun _ _ _ _ _ _ us hl => match us, hl with | [_], _ => rfl
      (case a => k_is); (case l => k_is); (case c => k_is); (case k => k_is)
    case f26 =>
      refine' K53.fun_at KX G ?a ?l ?c ?k fun _ _ _ _ _ _ us hl => match us, hl with | [_], _ => rfl
      (case a => k_is); (case l => k_is); (case c => k_is); (case k => k_is)
    case f27 =>
      refine' K53.fun_at KX G ?a ?l ?c ?k fun _ _ _ _ _ _ us hl => match us, hl with | [_], _ => rfl
      (case a => k_is); (case l => k_is); (case c => k_is); (case k => k_is)
    case f28 =>
      refine' K53.fun_at KX G ?a ?l ?c ?k fun _ _ _ _ _ _ us hl => match us, hl with | [_], _ => rfl
      (case a => k_is); (case l => k_is); (case c => k_is); (case k => k_is)
    case f29 =>
      refine' K53.fun_at KX G ?a ?l ?c ?k fun _ _ _ _ _ _ us hl => match us, hl with | [_], _ => rfl
      (case a => k_is); (case l => k_is); (case c => k_is); (case k => k_is)
    case f30 =>
      refine' K53.fun_at KX G ?a ?l ?c ?k fun _ _ _ _ _ _ us hl => match us, hl with | [_], _ => rfl
      (case a => k_is); (case l => k_is); (case c => k_is); (case k => k_is)
    case f31 =>
      refine' K53.fun_at KX G ?a ?l ?c ?k fun _ _ _ _ _ _ us hl => match us, hl with | [_], _ => rfl
      (case a => k_is); (case l => k_is); (case c => k_is); (case k => k_is)
    case f33 =>
      refine' K53.fun_at KX G ?a ?l ?c ?k fun _ _ _ _ _ _ us hl => match us, hl with | [_, _], _ => rfl
      (case a => k_is); (case l => k_is); (case c => k_is); (case k => k_is)
    case f34 =>
      refine' K53.fun_at KX G ?a ?l ?c ?k fun _ _ _ _ _ _ us hl => match us, hl with | [_, _], _ => rfl
      (case a => k_is); (case l => k_is); (case c => k_is); (case k => k_is)
    case f35 =>
      refine' K53.fun_at KX G ?a ?l ?c ?k fun _ _ _ _ _ _ us hl => match us, hl with | [_, _], _ => rfl
      (case a => k_is); (case l => k_is); (case c => k_is); (case k => k_is)
    case f37 =>
      refine' K53.fun_at KX G ?a ?l ?c ?k fun _ _ _ _ _ _ us hl => match us, hl with | [], _ => rfl
      (case a => k_is); (case l => k_is); (case c => k_is); (case k => k_is)
    case f38 =>
      refine' K53.fun_at KX G ?a ?l ?c ?k fun _ _ _ _ _ _ us hl => match us, hl with | [_, _], _ => rfl
      (case a => k_is); (case l => k_is); (case c => k_is); (case k => k_is)
    case f40 =>
      refine' K53.fun_at KX G ?a ?l ?c ?k fun _ _ _ _ _ _ us hl => match us, hl with | [_], _ => rfl
      (case a => k_is); (case l => k_is); (case c => k_is); (case k => k_is)
    case f41 =>
      refine' K53.fun_at KX G ?a ?l ?c ?k fun _ _ _ _ _ _ us hl => match us, hl with | [_, _], _ => rfl
      (case a => k_is); (case l => k_is); (case c => k_is); (case k => k_is)
    case f42 =>
      refine' K53.fun_at KX G ?a ?l ?c ?k fun _ _ _ _ _ _ us hl => match us, hl with | [_, _], _ => rfl
      (case a => k_is); (case l => k_is); (case c => k_is); (case k => k_is)
    case f43 =>
      refine' K53.fun_at KX G ?a ?l ?c ?k fun _ _ _ _ _ _ us hl => match us, hl with | [_], _ => rfl
      (case a => k_is); (case l => k_is); (case c => k_is); (case k => k_is)
    case f44 =>
      refine' K53.fun_at KX G ?a ?l ?c ?k fun _ _ _ _ _ _ us hl => match us, hl with | [_], _ => rfl
      (case a => k_is); (case l => k_is); (case c => k_is); (case k => k_is)
    case f45 =>
      refine' K53.fun_at KX G ?a ?l ?c ?k fun _ _ _ _ _ _ us hl => match us, hl with | [_], _ => rfl
      (case a => k_is); (case l => k_is); (case c => k_is); (case k => k_is)
    case f46 =>
      refine' K53.fun_at KX G ?a ?l ?c ?k fun _ _ _ _ _ _ us hl => match us, hl with | [_, _], _ => rfl
      (case a => k_is); (case l => k_is); (case c => k_is); (case k => k_is)
    case f47 =>
      refine' K53.fun_at KX G ?a ?l ?c ?k fun _ _ _ _ _ _ us hl => match us, hl with | [_, _], _ => rfl
      (case a => k_is); (case l => k_is); (case c => k_is); (case k => k_is)
    case f48 =>
      refine' K53.fun_at KX G ?a ?l ?c ?k fun _ _ _ _ _ _ us hl => match us, hl with | [_], _ => rfl
      (case a => k_is); (case l => k_is); (case c => k_is); (case k => k_is)
    case f49 =>
      refine' K53.fun_at KX G ?a ?l ?c ?k fun _ _ _ _ _ _ us hl => match us, hl with | [], _ => rfl
      (case a => k_is); (case l => k_is); (case c => k_is); (case k => k_is)
    case f50 =>
      refine' K53.fun_at KX G ?a ?l ?c ?k fun _ _ _ _ _ _ us hl => match us, hl with | [_, _, _], _ => rfl
      (case a => k_is); (case l => k_is); (case c => k_is); (case k => k_is)
    case f51 =>
      refine' K53.fun_at KX G ?a ?l ?c ?k fun _ _ _ _ _ _ us hl => match us, hl with | [_], _ => rfl
      (case a => k_is); (case l => k_is); (case c => k_is); (case k => k_is)
    case m_len =>
      refine' PySem.W.mg_none_of KX G ?m_lenz
      (case m_lenz => k_is)
    case m_isinstance =>
      refine' PySem.W.mg_none_of KX G ?m_isinstancez
      (case m_isinstancez => k_is)
    case m_int =>
      refine' PySem.W.mg_none_of KX G ?m_intz
      (case m_intz => k_is)
    case m_bool =>
      refine' PySem.W.mg_none_of KX G ?m_boolz
      (case m_boolz => k_is)
    case m_tuple =>
      refine' PySem.W.mg_none_of KX G ?m_tuplez
      (case m_tuplez => k_is)
    case m_str =>
      refine' PySem.W.mg_none_of KX G ?m_strz
      (case m_strz => k_is)
    case m_all =>
      refine' PySem.W.mg_none_of KX G ?m_allz
      (case m_allz => k_is)
    case m_sum =>
      refine' PySem.W.mg_none_of KX G ?m_sumz
      (case m_sumz => k_is)
    case m_zip =>
      refine' PySem.W.mg_none_of KX G ?m_zipz
      (case m_zipz => k_is)
    case m_enum =>
      refine' PySem.W.mg_none_of KX G ?m_enumz
      (case m_enumz => k_is)
    case m_sorted =>
      refine' PySem.W.mg_none_of KX G ?m_sortedz
      (case m_sortedz => k_is)
    case m_range =>
      refine' PySem.W.mg_none_of KX G ?m_rangez
      (case m_rangez => k_is)
    case m_list =>
      refine' PySem.W.mg_none_of KX G ?m_listz
      (case m_listz => k_is)
    case m_repr =>
      refine' PySem.W.mg_none_of KX G ?m_reprz
      (case m_reprz => k_is)
    case m_min =>
      refine' PySem.W.mg_none_of KX G ?m_minz
      (case m_minz => k_is)
    case gMT =>
      refine' K53.glob_int KX G ?gMTa
      (case gMTa => k_is)
    case gML =>
      refine' K53.glob_int KX G ?gMLa
      (case gMLa => k_is)
    case gLen =>
      refine' K53.glob_int KX G ?gLena
      (case gLena => k_is)
    case gPaces =>
      refine' K53.glob_paces KX G ?a ?l ?e
      (case a => k_is); (case l => k_is); (case e => rfl)
    case gLooping =>
      refine' K53.glob_looping KX G ?a ?l ?e
      (case a => k_is); (case l => k_is); (case e => rfl)
    case gEmpty =>
      refine' K53.glob_empty KX G ?a ?l ?e ?l1 ?z1 ?l2 ?z2
      (case a => k_is); (case l => k_is); (case e => rfl); (case l1 => k_is); (case z1 => rfl); (case l2 => k_is); (case z2 => rfl)
    case deeds =>
      refine' K53.deeds_mk (w := w) KX G ?a ?l ?ks ?low ?ky ?d1 ?m1 ?d2 ?m2 ?d3 ?m3 ?d4 ?m4 ?d5 ?m5 ?d6 ?m6 ?d7 ?m7 ?d8 ?m8 ?d9 ?m9
      (case a => k_is); (case l => k_is); (case ks => rfl); (case low => rfl); (case ky => rfl)
      (case d1 => k_is); (case m1 => k_is)
      (case d2 => k_is); (case m2 => k_is)
      (case d3 => k_is); (case m3 => k_is)
      (case d4 => k_is); (case m4 => k_is)
      (case d5 => k_is); (case m5 => k_is)
      (case d6 => k_is); (case m6 => k_is)
      (case d7 => k_is); (case m7 => k_is)
      (case d8 => k_is); (case m8 => k_is)
      (case d9 => k_is); (case m9 => k_is)
