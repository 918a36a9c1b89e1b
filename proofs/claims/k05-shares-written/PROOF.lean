import PyProof.Rows.All
import Wide.All
import OpenK.AllK
import Wide.FinOn
import HandS.ForMost
import HandS.Walk
import HandS.Exc
import HandS.TryOnly
import HandS.ExcOwn
import HandS.WordsExc
import HandS.Wide
import HandS.WideMore
import HandS.WideBits
import HandS.IsInst
import HandS.StrMore
import HandS.Zip
import HandS.SortInts
import HandS.SortKw
import HandS.Style
import HandS.Deep
import HandS.SetFor
import HandS.TryElse
import HandS.Rev
import HandS.Conv
import PySem.Challenge.RW_rentshare_k05_shares_written
set_option Elab.async false
set_option linter.all false
set_option maxRecDepth 100000
set_option maxHeartbeats 4000000

namespace Z
open PySem PySem.Spec PyProof.Rows L2

/-! ### data -/
inductive D where
  | non | bl (b : Bool) | int (i : Int) | str (x : Str) | scr (ns : List Int)
  | lst (xs : List D) | tup (xs : List D) | obj (C : Addr) (fs : List (Str × D))

abbrev Sub (F H : Hp) : Prop := Same F H
theorem Sub.rf (F : Hp) : Sub F F := fun _ _ h => h
theorem Sub.tr {F G H : Hp} (a : Sub F G) (b : Sub G H) : Sub F H := fun c o h => b c o (a c o h)
theorem Sub.new {H : Hp} {p : Addr} {o : HO} (h : H p = none) : Sub H (upd H p o) := fun a u e => by
  rw [upd_ne (ne_of_none e h)]; exact e
theorem Sub.none {F H : Hp} {a : Addr} (s : Sub F H) (h : H a = none) : F a = none := by
  cases e : F a with
  | none => rfl
  | some o => rw [s a o e] at h; cases h

mutual
def R (K : PySem.W.Frag) (G : Hp) : D → V → Prop
  | .non, v => v = .non
  | .bl b, v => v = .bl b
  | .int i, v => v = .int i
  | .str x, v => v = .str x
  | .scr ns, v => ∃ a, v = .ref a ∧ SqL K G a (ns.map V.int)
  | .lst ds, v => ∃ a vs, v = .ref a ∧ G a = some (.lst vs) ∧ RL K G ds vs
  | .tup ds, v => ∃ a vs, v = .ref a ∧ G a = some (.tup vs) ∧ RL K G ds vs
  | .obj C fs, v => ∃ a dx vfs, v = .ref a ∧ G a = some (.ins C dx vfs) ∧ RF K G fs vfs
def RL (K : PySem.W.Frag) (G : Hp) : List D → List V → Prop
  | [], vs => vs = []
  | d :: ds, vs => ∃ v vs', vs = v :: vs' ∧ R K G d v ∧ RL K G ds vs'
def RF (K : PySem.W.Frag) (G : Hp) : List (Str × D) → List (Str × V) → Prop
  | [], vs => vs = []
  | (f, d) :: ds, vs => ∃ v vs', vs = (f, v) :: vs' ∧ R K G d v ∧ RF K G ds vs'
end

mutual
theorem R.mono {K : PySem.W.Frag} {G G' : Hp} (s : Sub G G') : ∀ (d : D) (v : V), R K G d v → R K G' d v
  | .non, v, h => by unfold R at *; exact h
  | .bl b, v, h => by unfold R at *; exact h
  | .int i, v, h => by unfold R at *; exact h
  | .str x, v, h => by unfold R at *; exact h
  | .scr ns, v, h => by
    unfold R at *
    obtain ⟨a, e, q⟩ := h
    exact ⟨a, e, Same.seq s q⟩
  | .lst ds, v, h => by
    unfold R at *
    obtain ⟨a, vs, e, q, r⟩ := h
    exact ⟨a, vs, e, s _ _ q, RL.mono s ds vs r⟩
  | .tup ds, v, h => by
    unfold R at *
    obtain ⟨a, vs, e, q, r⟩ := h
    exact ⟨a, vs, e, s _ _ q, RL.mono s ds vs r⟩
  | .obj C fs, v, h => by
    unfold R at *
    obtain ⟨a, dx, vs, e, q, r⟩ := h
    exact ⟨a, dx, vs, e, s _ _ q, RF.mono s fs vs r⟩
theorem RL.mono {K : PySem.W.Frag} {G G' : Hp} (s : Sub G G') : ∀ (ds : List D) (vs : List V), RL K G ds vs → RL K G' ds vs
  | [], vs, h => by unfold RL at *; exact h
  | d :: ds, vs, h => by
    unfold RL at *
    obtain ⟨v, vs', e, a, b⟩ := h
    exact ⟨v, vs', e, R.mono s d v a, RL.mono s ds vs' b⟩
theorem RF.mono {K : PySem.W.Frag} {G G' : Hp} (s : Sub G G') : ∀ (ds : List (Str × D)) (vs : List (Str × V)), RF K G ds vs → RF K G' ds vs
  | [], vs, h => by unfold RF at *; exact h
  | (f, d) :: ds, vs, h => by
    unfold RF at *
    obtain ⟨v, vs', e, a, b⟩ := h
    exact ⟨v, vs', e, R.mono s d v a, RF.mono s ds vs' b⟩
end

section
variable {K : PySem.W.Frag} {G : Hp}
theorem r_non {v : V} : R K G .non v ↔ v = .non := by unfold R; exact Iff.rfl
theorem r_bl {b : Bool} {v : V} : R K G (.bl b) v ↔ v = .bl b := by unfold R; exact Iff.rfl
theorem r_int {i : Int} {v : V} : R K G (.int i) v ↔ v = .int i := by unfold R; exact Iff.rfl
theorem r_str {x : Str} {v : V} : R K G (.str x) v ↔ v = .str x := by unfold R; exact Iff.rfl
theorem r_scr {ns : List Int} {v : V} : R K G (.scr ns) v ↔ ∃ a, v = .ref a ∧ SqL K G a (ns.map V.int) := by unfold R; exact Iff.rfl
theorem r_lst {ds : List D} {v : V} : R K G (.lst ds) v ↔ ∃ a vs, v = .ref a ∧ G a = some (.lst vs) ∧ RL K G ds vs := by conv => lhs; unfold R
theorem r_tup {ds : List D} {v : V} : R K G (.tup ds) v ↔ ∃ a vs, v = .ref a ∧ G a = some (.tup vs) ∧ RL K G ds vs := by conv => lhs; unfold R
theorem r_obj {C : Addr} {fs : List (Str × D)} {v : V} : R K G (.obj C fs) v ↔ ∃ a dx vfs, v = .ref a ∧ G a = some (.ins C dx vfs) ∧ RF K G fs vfs := by conv => lhs; unfold R
theorem rl_nil {vs : List V} : RL K G [] vs ↔ vs = [] := by unfold RL; exact Iff.rfl
theorem rl_cons {d : D} {ds : List D} {vs : List V} : RL K G (d :: ds) vs ↔ ∃ v vs', vs = v :: vs' ∧ R K G d v ∧ RL K G ds vs' := by conv => lhs; unfold RL
theorem rf_nil {vs : List (Str × V)} : RF K G [] vs ↔ vs = [] := by unfold RF; exact Iff.rfl
theorem rf_cons {f : Str} {d : D} {ds : List (Str × D)} {vs : List (Str × V)} : RF K G ((f, d) :: ds) vs ↔ ∃ v vs', vs = (f, v) :: vs' ∧ R K G d v ∧ RF K G ds vs' := by conv => lhs; unfold RF
theorem RL.cons {d : D} {ds : List D} {v : V} {vs : List V} (a : R K G d v) (b : RL K G ds vs) : RL K G (d :: ds) (v :: vs) := rl_cons.mpr ⟨v, vs, rfl, a, b⟩
theorem RL.nil : RL K G [] [] := rl_nil.mpr rfl
theorem RL.uncons {d : D} {ds : List D} {v : V} {vs : List V} (h : RL K G (d :: ds) (v :: vs)) : R K G d v ∧ RL K G ds vs := by
  obtain ⟨_, _, e, a, b⟩ := rl_cons.mp h
  cases e; exact ⟨a, b⟩
theorem RL.length : ∀ {ds : List D} {vs : List V}, RL K G ds vs → vs.length = ds.length
  | [], _, h => by rw [rl_nil.mp h]; rfl
  | d :: ds, _, h => by
    obtain ⟨v, vs', rfl, _, b⟩ := rl_cons.mp h
    simp [RL.length b]
theorem RL.get : ∀ {ds : List D} {vs : List V} {i : Nat} {d : D}, RL K G ds vs → ds[i]? = some d → ∃ v, vs[i]? = some v ∧ R K G d v
  | [], _, i, d, _, e => by simp at e
  | d :: ds, _, 0, d', h, e => by
    obtain ⟨v, vs', rfl, a, _⟩ := rl_cons.mp h
    simp at e; subst e; exact ⟨v, rfl, a⟩
  | d :: ds, _, i + 1, d', h, e => by
    obtain ⟨v, vs', rfl, _, b⟩ := rl_cons.mp h
    obtain ⟨w, e1, e2⟩ := RL.get (i := i) b (by simpa using e)
    exact ⟨w, by simpa using e1, e2⟩
theorem RL.set : ∀ {ds : List D} {vs : List V} (i : Nat) {d : D} {v : V}, RL K G ds vs → R K G d v → RL K G (ds.set i d) (vs.set i v)
  | [], _, i, d, v, h, r => by rw [rl_nil.mp h]; exact RL.nil
  | d :: ds, _, 0, d', v, h, r => by
    obtain ⟨w, vs', rfl, a, b⟩ := rl_cons.mp h
    exact RL.cons r b
  | d :: ds, _, i + 1, d', v, h, r => by
    obtain ⟨w, vs', rfl, a, b⟩ := rl_cons.mp h
    exact RL.cons a (RL.set i b r)
theorem RL.append : ∀ {ds es : List D} {vs ws : List V}, RL K G ds vs → RL K G es ws → RL K G (ds ++ es) (vs ++ ws)
  | [], _, _, _, h, k => by rw [rl_nil.mp h]; exact k
  | d :: ds, _, _, _, h, k => by
    obtain ⟨w, vs', rfl, a, b⟩ := rl_cons.mp h
    exact RL.cons a (RL.append b k)
theorem RL.take : ∀ {ds : List D} {vs : List V} (n : Nat), RL K G ds vs → RL K G (ds.take n) (vs.take n)
  | _, _, 0, _ => RL.nil
  | [], _, n + 1, h => by rw [rl_nil.mp h]; exact RL.nil
  | d :: ds, _, n + 1, h => by
    obtain ⟨w, vs', rfl, a, b⟩ := rl_cons.mp h
    exact RL.cons a (RL.take n b)
theorem RL.drop : ∀ {ds : List D} {vs : List V} (n : Nat), RL K G ds vs → RL K G (ds.drop n) (vs.drop n)
  | _, _, 0, h => h
  | [], _, n + 1, h => by rw [rl_nil.mp h]; exact RL.nil
  | d :: ds, _, n + 1, h => by
    obtain ⟨w, vs', rfl, a, b⟩ := rl_cons.mp h
    exact RL.drop n b
theorem RL.ints : ∀ {ns : List Int} {vs : List V}, RL K G (ns.map D.int) vs → vs = ns.map V.int
  | [], _, h => rl_nil.mp h
  | n :: ns, _, h => by
    obtain ⟨v, vs', rfl, a, b⟩ := rl_cons.mp h
    rw [r_int.mp a, RL.ints b]; rfl
theorem RL.of_ints : ∀ {ns : List Int}, RL K G (ns.map D.int) (ns.map V.int)
  | [] => RL.nil
  | n :: ns => RL.cons (r_int.mpr rfl) RL.of_ints
theorem RL.bls : ∀ {ns : List Bool} {vs : List V}, RL K G (ns.map D.bl) vs → vs = ns.map V.bl
  | [], _, h => rl_nil.mp h
  | n :: ns, _, h => by
    obtain ⟨v, vs', rfl, a, b⟩ := rl_cons.mp h
    rw [r_bl.mp a, RL.bls b]; rfl
theorem RL.of_bls : ∀ {ns : List Bool}, RL K G (ns.map D.bl) (ns.map V.bl)
  | [] => RL.nil
  | n :: ns => RL.cons (r_bl.mpr rfl) RL.of_bls
theorem RL.strs : ∀ {ns : List Str} {vs : List V}, RL K G (ns.map D.str) vs → vs = ns.map V.str
  | [], _, h => rl_nil.mp h
  | n :: ns, _, h => by
    obtain ⟨v, vs', rfl, a, b⟩ := rl_cons.mp h
    rw [r_str.mp a, RL.strs b]; rfl
theorem RL.of_strs : ∀ {ns : List Str}, RL K G (ns.map D.str) (ns.map V.str)
  | [] => RL.nil
  | n :: ns => RL.cons (r_str.mpr rfl) RL.of_strs
theorem RF.lookup : ∀ {fs : List (Str × D)} {vfs : List (Str × V)} {f : Str} {d : D}, RF K G fs vfs → fs.lookup f = some d → ∃ v, vfs.lookup f = some v ∧ R K G d v
  | [], _, f, d, _, e => by simp at e
  | (g, d) :: fs, _, f, d', h, e => by
    obtain ⟨v, vs', rfl, a, b⟩ := rf_cons.mp h
    rw [List.lookup_cons] at e ⊢
    cases q : f == g with
    | true => rw [q] at e; cases e; exact ⟨v, rfl, a⟩
    | false => rw [q] at e; exact RF.lookup b e
theorem RF.lookupN : ∀ {fs : List (Str × D)} {vfs : List (Str × V)} {f : Str}, RF K G fs vfs → fs.lookup f = none → vfs.lookup f = none
  | [], _, f, h, e => by rw [rf_nil.mp h]; rfl
  | (g, d) :: fs, _, f, h, e => by
    obtain ⟨v, vs', rfl, a, b⟩ := rf_cons.mp h
    rw [List.lookup_cons] at e ⊢
    cases q : f == g with
    | true => rw [q] at e; cases e
    | false => rw [q] at e; exact RF.lookupN b e
end
/-- plain scalars, which no heap bears -/
def flat : D → Bool
  | .non => true | .bl _ => true | .int _ => true | .str _ => true | _ => false
theorem flat_any {K : PySem.W.Frag} {G G' : Hp} {d : D} {v : V} (f : flat d = true) (h : R K G d v) : R K G' d v := by
  cases d <;> first
    | (unfold R at *; exact h)
    | (exact absurd f (by simp [flat]))
theorem flats_any {K : PySem.W.Frag} {G G' : Hp} : ∀ {ds : List D} {vs : List V}, ds.all flat = true → RL K G ds vs → RL K G' ds vs
  | [], _, _, h => by rw [rl_nil.mp h]; exact RL.nil
  | d :: ds, _, f, h => by
    obtain ⟨v, vs', rfl, a, b⟩ := rl_cons.mp h
    rw [List.all_cons, Bool.and_eq_true] at f
    exact RL.cons (flat_any f.1 a) (flats_any f.2 b)

/-! ### states -/
/-- a slot: unknown, a value that stays as it is, a list of one's own -/
inductive Sl where
  | u | v (d : D) | o (ds : List D)

structure Ext (F H F' H' : Hp) : Prop where
  f : Sub F F'
  h : Sub H H'
  fh : Sub F' H'
  fr : ∀ a o, F' a = some o → F a = some o ∨ H a = none
theorem Ext.rf {F H : Hp} (s : Sub F H) : Ext F H F H := ⟨Sub.rf _, Sub.rf _, s, fun _ _ e => .inl e⟩
theorem Ext.tr {F H F1 H1 F2 H2 : Hp} (a : Ext F H F1 H1) (b : Ext F1 H1 F2 H2) : Ext F H F2 H2 :=
  ⟨a.f.tr b.f, a.h.tr b.h, b.fh, fun c o e => by
    rcases b.fr c o e with z | z
    · exact a.fr c o z
    · exact .inr (a.h.none z)⟩
/-- the frozen part stays, the heap grows -/
theorem Ext.grow {F H H' : Hp} (s : Sub F H) (g : Sub H H') : Ext F H F H' := ⟨Sub.rf _, g, s.tr g, fun _ _ e => .inl e⟩
/-- a new thing, frozen -/
theorem Ext.put {F H : Hp} {p : Addr} {o : HO} (s : Sub F H) (n : H p = none) : Ext F H (upd F p o) (upd H p o) := by
  refine ⟨Sub.new (s.none n), Sub.new n, fun a u e => ?_, fun a u e => ?_⟩
  · by_cases z : a = p
    · subst z; rw [upd_same] at e ⊢; exact e
    · rw [upd_ne z] at e ⊢; exact s a u e
  · by_cases z : a = p
    · subst z; exact .inr n
    · rw [upd_ne z] at e; exact .inl e

structure Stt (K : PySem.W.Frag) (G0 H0 F H : Hp) (σ : L2.St) (Δ : List Sl) : Prop where
  g : Sub G0 F
  fh : Sub F H
  h0 : Sub H0 H
  fr : ∀ a o, F a = some o → G0 a = some o ∨ H0 a = none
  len : σ.length = Δ.length
  val : ∀ (i : Nat) (d : D), Δ[i]? = some (Sl.v d) → ∃ x, σ[i]? = some (some x) ∧ R K F d x
  own : ∀ (i : Nat) (ds : List D), Δ[i]? = some (Sl.o ds) → ∃ a vs, σ[i]? = some (some (V.ref a)) ∧ H a = some (.lst vs) ∧ F a = none ∧ H0 a = none ∧ RL K F ds vs
  dis : ∀ (i j : Nat) (ds es : List D) (a : Addr), i ≠ j → Δ[i]? = some (Sl.o ds) → Δ[j]? = some (Sl.o es) → σ[i]? = some (some (V.ref a)) → σ[j]? = some (some (V.ref a)) → False
section
variable {K : PySem.W.Frag} {G0 H0 F H F' H' : Hp} {σ : L2.St} {Δ : List Sl}
theorem Stt.ext (S : Stt K G0 H0 F H σ Δ) (e : Ext F H F' H') : Stt K G0 H0 F' H' σ Δ where
  g := S.g.tr e.f
  fh := e.fh
  h0 := S.h0.tr e.h
  fr := fun a o q => by
    rcases e.fr a o q with z | z
    · exact S.fr a o z
    · exact .inr (S.h0.none z)
  len := S.len
  val := fun i d q => let ⟨x, a, b⟩ := S.val i d q; ⟨x, a, b.mono e.f⟩
  own := fun i ds q => by
    obtain ⟨a, vs, e1, e2, e3, e4, e5⟩ := S.own i ds q
    refine ⟨a, vs, e1, e.h _ _ e2, ?_, e4, e5.mono e.f⟩
    cases z : F' a with
    | none => rfl
    | some o =>
      rcases e.fr a o z with y | y
      · rw [e3] at y; cases y
      · rw [e2] at y; cases y
  dis := S.dis
/-- a slot is set -/
theorem Stt.setv (S : Stt K G0 H0 F H σ Δ) {i : Nat} {x : V} {d : D} (r : R K F d x) : Stt K G0 H0 F H (σ.set i (some x)) (Δ.set i (.v d)) where
  g := S.g
  fh := S.fh
  h0 := S.h0
  fr := S.fr
  len := by rw [List.length_set, List.length_set]; exact S.len
  val := fun j d' q => by
    rw [List.getElem?_set] at q ⊢
    by_cases z : i = j
    · subst z
      rw [if_pos rfl] at q ⊢
      split at q
      · rw [if_pos (by rw [S.len]; assumption)]; cases q; exact ⟨x, rfl, r⟩
      · cases q
    · rw [if_neg z] at q ⊢; exact S.val j d' q
  own := fun j ds q => by
    rw [List.getElem?_set] at q ⊢
    by_cases z : i = j
    · subst z
      rw [if_pos rfl] at q
      split at q <;> cases q
    · rw [if_neg z] at q ⊢; exact S.own j ds q
  dis := fun j k ds es a ne q1 q2 q3 q4 => by
    rw [List.getElem?_set] at q1 q2
    by_cases z : i = j
    · rw [if_pos z] at q1; split at q1 <;> cases q1
    · by_cases y : i = k
      · rw [if_pos y] at q2; split at q2 <;> cases q2
      · rw [if_neg z] at q1; rw [if_neg y] at q2
        rw [List.getElem?_set_ne z] at q3; rw [List.getElem?_set_ne y] at q4
        exact S.dis j k ds es a ne q1 q2 q3 q4
/-- a slot is forgotten, whatever it then holds -/
theorem Stt.setu (S : Stt K G0 H0 F H σ Δ) {i : Nat} {x : Option V} : Stt K G0 H0 F H (σ.set i x) (Δ.set i .u) where
  g := S.g
  fh := S.fh
  h0 := S.h0
  fr := S.fr
  len := by rw [List.length_set, List.length_set]; exact S.len
  val := fun j d' q => by
    rw [List.getElem?_set] at q ⊢
    by_cases z : i = j
    · rw [if_pos z] at q; split at q <;> cases q
    · rw [if_neg z] at q ⊢; exact S.val j d' q
  own := fun j ds q => by
    rw [List.getElem?_set] at q ⊢
    by_cases z : i = j
    · rw [if_pos z] at q; split at q <;> cases q
    · rw [if_neg z] at q ⊢; exact S.own j ds q
  dis := fun j k ds es a ne q1 q2 q3 q4 => by
    rw [List.getElem?_set] at q1 q2
    by_cases z : i = j
    · rw [if_pos z] at q1; split at q1 <;> cases q1
    · by_cases y : i = k
      · rw [if_pos y] at q2; split at q2 <;> cases q2
      · rw [if_neg z] at q1; rw [if_neg y] at q2
        rw [List.getElem?_set_ne z] at q3; rw [List.getElem?_set_ne y] at q4
        exact S.dis j k ds es a ne q1 q2 q3 q4
/-- a slot is forgotten, its value stays -/
theorem Stt.drop (S : Stt K G0 H0 F H σ Δ) {i : Nat} : Stt K G0 H0 F H σ (Δ.set i .u) where
  g := S.g
  fh := S.fh
  h0 := S.h0
  fr := S.fr
  len := by rw [List.length_set]; exact S.len
  val := fun j d' q => by
    rw [List.getElem?_set] at q
    by_cases z : i = j
    · rw [if_pos z] at q; split at q <;> cases q
    · rw [if_neg z] at q; exact S.val j d' q
  own := fun j ds q => by
    rw [List.getElem?_set] at q
    by_cases z : i = j
    · rw [if_pos z] at q; split at q <;> cases q
    · rw [if_neg z] at q; exact S.own j ds q
  dis := fun j k ds es a ne q1 q2 q3 q4 => by
    rw [List.getElem?_set] at q1 q2
    by_cases z : i = j
    · rw [if_pos z] at q1; split at q1 <;> cases q1
    · by_cases y : i = k
      · rw [if_pos y] at q2; split at q2 <;> cases q2
      · rw [if_neg z] at q1; rw [if_neg y] at q2
        exact S.dis j k ds es a ne q1 q2 q3 q4
/-- a new list of one's own comes to a slot -/
theorem Stt.seto (S : Stt K G0 H0 F H σ Δ) (e : Ext F H F' H') {i : Nat} {p : Addr} {vs : List V} {ds : List D} (n : H p = none) (h : H' p = some (.lst vs)) (f : F' p = none) (r : RL K F' ds vs) :
    Stt K G0 H0 F' H' (σ.set i (some (.ref p))) (Δ.set i (.o ds)) := by
  have T := S.ext e
  refine ⟨T.g, T.fh, T.h0, T.fr, by rw [List.length_set, List.length_set]; exact S.len, fun j d' q => ?_, fun j es q => ?_, fun j k ds' es a ne q1 q2 q3 q4 => ?_⟩
  · rw [List.getElem?_set] at q ⊢
    by_cases z : i = j
    · rw [if_pos z] at q; split at q <;> cases q
    · rw [if_neg z] at q ⊢; exact T.val j d' q
  · rw [List.getElem?_set] at q ⊢
    by_cases z : i = j
    · subst z
      rw [if_pos rfl] at q ⊢
      split at q
      · rw [if_pos (by rw [S.len]; assumption)]; cases q; exact ⟨p, vs, rfl, h, f, S.h0.none n, r⟩
      · cases q
    · rw [if_neg z] at q ⊢; exact T.own j es q
  · rw [List.getElem?_set] at q1 q2 q3 q4
    by_cases z : i = j
    · subst z
      rw [if_pos rfl] at q1 q3
      rw [if_neg ne] at q2 q4
      obtain ⟨b, ws, e1, e2, _⟩ := S.own k _ q2
      rw [e1] at q4; cases q4
      split at q3
      · cases q3; rw [n] at e2; cases e2
      · cases q3
    · by_cases y : i = k
      · subst y
        rw [if_pos rfl] at q2 q4
        rw [if_neg z] at q1 q3
        obtain ⟨b, ws, e1, e2, _⟩ := S.own j _ q1
        rw [e1] at q3; cases q3
        split at q4
        · cases q4; rw [n] at e2; cases e2
        · cases q4
      · rw [if_neg z] at q1 q3; rw [if_neg y] at q2 q4
        exact S.dis j k ds' es a ne q1 q2 q3 q4
/-- a list of one's own is changed -/
theorem Stt.chg (S : Stt K G0 H0 F H σ Δ) {i : Nat} {a : Addr} {ds es : List D} {vs : List V} (q : Δ[i]? = some (Sl.o ds)) (ha : σ[i]? = some (some (V.ref a))) (r : RL K F es vs) :
    Stt K G0 H0 F (upd H a (.lst vs)) σ (Δ.set i (.o es)) := by
  obtain ⟨b, ws, e1, e2, e3, e4, e5⟩ := S.own i ds q
  rw [e1] at ha
  have ha := Option.some.inj (Option.some.inj ha)
  have ha : b = a := by cases ha; rfl
  subst ha
  refine ⟨S.g, fun c o z => ?_, fun c o z => ?_, S.fr, by rw [List.length_set]; exact S.len, fun j d' q' => ?_, fun j ds' q' => ?_, fun j k ds' es' c ne q1 q2 q3 q4 => ?_⟩
  · rw [upd_ne (ne_of_none z e3)]; exact S.fh c o z
  · rw [upd_ne (ne_of_none z e4)]; exact S.h0 c o z
  · rw [List.getElem?_set] at q'
    by_cases z : i = j
    · rw [if_pos z] at q'; split at q' <;> cases q'
    · rw [if_neg z] at q'; exact S.val j d' q'
  · rw [List.getElem?_set] at q'
    by_cases z : i = j
    · subst z
      rw [if_pos rfl] at q'
      split at q'
      · cases q'; exact ⟨b, vs, e1, upd_same, e3, e4, r⟩
      · cases q'
    · rw [if_neg z] at q'
      obtain ⟨c, us, f1, f2, f3, f4, f5⟩ := S.own j ds' q'
      refine ⟨c, us, f1, ?_, f3, f4, f5⟩
      rw [upd_ne (fun w => ?_)]
      · exact f2
      · subst w; exact S.dis i j _ _ c z q q' e1 f1
  · rw [List.getElem?_set] at q1 q2
    have h1 : ∃ x, Δ[j]? = some (Sl.o x) := by
      by_cases z : i = j
      · subst z; exact ⟨_, q⟩
      · rw [if_neg z] at q1; exact ⟨_, q1⟩
    have h2 : ∃ x, Δ[k]? = some (Sl.o x) := by
      by_cases z : i = k
      · subst z; exact ⟨_, q⟩
      · rw [if_neg z] at q2; exact ⟨_, q2⟩
    obtain ⟨x, h1⟩ := h1
    obtain ⟨y, h2⟩ := h2
    exact S.dis j k x y c ne h1 h2 q3 q4
/-- a list of one's own is from here on as it is -/
theorem Stt.frz (S : Stt K G0 H0 F H σ Δ) {i : Nat} {ds : List D} (q : Δ[i]? = some (Sl.o ds)) : ∃ F', Sub F F' ∧ Stt K G0 H0 F' H σ (Δ.set i (.v (.lst ds))) := by
  obtain ⟨b, ws, e1, e2, e3, e4, e5⟩ := S.own i ds q
  have sF : Sub F (upd F b (.lst ws)) := Sub.new e3
  refine ⟨upd F b (.lst ws), sF, S.g.tr sF, fun c o z => ?_, S.h0, fun c o z => ?_, by rw [List.length_set]; exact S.len, fun j d' q' => ?_, fun j ds' q' => ?_, fun j k ds' es' c ne q1 q2 q3 q4 => ?_⟩
  · by_cases y : c = b
    · subst y; rw [upd_same] at z; cases z; exact e2
    · rw [upd_ne y] at z; exact S.fh c o z
  · by_cases y : c = b
    · subst y; exact .inr e4
    · rw [upd_ne y] at z; exact S.fr c o z
  · rw [List.getElem?_set] at q'
    by_cases z : i = j
    · subst z
      rw [if_pos rfl] at q'
      split at q'
      · cases q'; exact ⟨_, e1, r_lst.mpr ⟨b, ws, rfl, upd_same, e5.mono sF⟩⟩
      · cases q'
    · rw [if_neg z] at q'
      obtain ⟨x, h1, h2⟩ := S.val j d' q'
      exact ⟨x, h1, h2.mono sF⟩
  · rw [List.getElem?_set] at q'
    by_cases z : i = j
    · rw [if_pos z] at q'; split at q' <;> cases q'
    · rw [if_neg z] at q'
      obtain ⟨c, us, f1, f2, f3, f4, f5⟩ := S.own j ds' q'
      refine ⟨c, us, f1, f2, ?_, f4, f5.mono sF⟩
      rw [upd_ne (fun w => ?_)]
      · exact f3
      · subst w; exact S.dis i j _ _ c z q q' e1 f1
  · rw [List.getElem?_set] at q1 q2
    by_cases z : i = j
    · rw [if_pos z] at q1; split at q1 <;> cases q1
    · by_cases y : i = k
      · rw [if_pos y] at q2; split at q2 <;> cases q2
      · rw [if_neg z] at q1; rw [if_neg y] at q2
        exact S.dis j k ds' es' c ne q1 q2 q3 q4
end
end Z

namespace Z
open PySem PySem.Spec PyProof.Rows L2

/-! ### the widest readings -/
section
variable {X : Cx} {e : Expr} {es : List Expr} {st : Stmt} {sts : List Stmt}
structure uE (X : Cx) (e : Expr) (σ : L2.St) (H : Hp) (Q : VK) : Prop where
  run : ∀ (pins : List (Addr × Obj)) (s : Shared), Inv X pins σ H s → wpAny (model X.prog X.w) X.A (eval e X.env) (EP X pins σ Q) X.xe s
structure uT (X : Cx) (e : Expr) (σ : L2.St) (H : Hp) (Q : Bool → Hp → Prop) : Prop where
  run : ∀ (pins : List (Addr × Obj)) (s : Shared), Inv X pins σ H s → wpAny (model X.prog X.w) X.A (isTrue e X.env (eval e X.env)) (TP X pins σ Q) X.xe s
structure uW (X : Cx) (e : Expr) (σ : L2.St) (H : Hp) (Q : Bool → Hp → Prop) : Prop where
  run : ∀ (whole : Sem Value) (pins : List (Addr × Obj)) (s : Shared), Inv X pins σ H s → wpAny (model X.prog X.w) X.A (isTrue e X.env whole) (TP X pins σ Q) X.xe s
structure uA (X : Cx) (es : List Expr) (σ : L2.St) (H : Hp) (Q : List V → Hp → Prop) : Prop where
  run : ∀ (pos : Pos) (pins : List (Addr × Obj)) (s : Shared), Inv X pins σ H s → wpAny (model X.prog X.w) X.A (spliced (backTo pos (starEach es X.env))) (AP X pins σ Q) X.xe s
structure uS1 (X : Cx) (st : Stmt) (D : Ends) (σ : L2.St) (H : Hp) : Prop where
  run : ∀ (pins : List (Addr × Obj)) (s : Shared), Inv X pins σ H s → wpAny (model X.prog X.w) X.A (exec st X.env) (SP X pins D) X.xe s
structure uS (X : Cx) (sts : List Stmt) (D : Ends) (σ : L2.St) (H : Hp) : Prop where
  run : ∀ (pins : List (Addr × Obj)) (s : Shared), Inv X pins σ H s → wpAny (model X.prog X.w) X.A (execs sts X.env) (SP X pins D) X.xe s
theorem pe_u : PE X e (uE X e) := ⟨fun pins s σ H Q I h => h.run pins s I⟩
theorem pt_u : PT X e (uT X e) := ⟨fun pins s σ H Q I h => h.run pins s I⟩
theorem pw_u : PW X e (uW X e) := ⟨fun w pins s σ H Q I h => h.run w pins s I⟩
theorem pa_u : PA X es (uA X es) := ⟨fun p pins s σ H Q I h => h.run p pins s I⟩
theorem ps_u : PS X st (uS1 X st) := ⟨fun pins s σ H D I h => h.run pins s I⟩
theorem pss_u : PSs X sts (uS X sts) := ⟨fun pins s σ H D I h => h.run pins s I⟩
theorem eU {t : TE} (h : PE X e t) {σ : L2.St} {H : Hp} {Q : VK} (q : t σ H Q) : uE X e σ H Q := ⟨fun pins s I => h.run pins s σ H Q I q⟩
theorem tU {t : TT} (h : PT X e t) {σ : L2.St} {H : Hp} {Q : Bool → Hp → Prop} (q : t σ H Q) : uT X e σ H Q := ⟨fun pins s I => h.run pins s σ H Q I q⟩
theorem wU {t : TT} (h : PW X e t) {σ : L2.St} {H : Hp} {Q : Bool → Hp → Prop} (q : t σ H Q) : uW X e σ H Q := ⟨fun w pins s I => h.run w pins s σ H Q I q⟩
theorem aU {t : TA} (h : PA X es t) {σ : L2.St} {H : Hp} {Q : List V → Hp → Prop} (q : t σ H Q) : uA X es σ H Q := ⟨fun p pins s I => h.run p pins s σ H Q I q⟩
theorem sU1 {t : TS} (h : PS X st t) {D : Ends} {σ : L2.St} {H : Hp} (q : t D σ H) : uS1 X st D σ H := ⟨fun pins s I => h.run pins s σ H D I q⟩
theorem sU {t : TS} (h : PSs X sts t) {D : Ends} {σ : L2.St} {H : Hp} (q : t D σ H) : uS X sts D σ H := ⟨fun pins s I => h.run pins s σ H D I q⟩
end

/-! ### what evaluates to what -/
def sel (m : Bool) (F H : Hp) : Hp := match m with | true => F | false => H
theorem sel_sub {m : Bool} {F H F' H' : Hp} (e : Ext F H F' H') : Sub (sel m F H) (sel m F' H') := by
  cases m <;> first | exact e.h | exact e.f
theorem sel_h {m : Bool} {F H : Hp} (s : Sub F H) : Sub (sel m F H) H := by
  cases m <;> first | exact Sub.rf _ | exact s
theorem f_sel {m : Bool} {F H : Hp} (s : Sub F H) : Sub F (sel m F H) := by
  cases m <;> first | exact s | exact Sub.rf _

/-- e evaluates to d; m: what it gives leans on what stays as it is alone (true), or on lists of one's own too (false) -/
def EV (X : Cx) (Δ : List Sl) (m : Bool) (e : Expr) (d : D) : Prop :=
  ∀ (G0 H0 F H : Hp) (σ : L2.St), Stt X.K G0 H0 F H σ Δ → ∀ Q : VK, (∀ v F' H', Ext F H F' H' → R X.K (sel m F' H') d v → Q v H') → uE X e σ H Q
/-- e evaluates to a new list -/
def EO (X : Cx) (Δ : List Sl) (e : Expr) (ds : List D) : Prop :=
  ∀ (G0 H0 F H : Hp) (σ : L2.St), Stt X.K G0 H0 F H σ Δ → ∀ Q : VK, (∀ p vs F' H', Ext F H F' H' → H p = none → H' p = some (.lst vs) → F' p = none → RL X.K F' ds vs → Q (.ref p) H') → uE X e σ H Q
def TV (X : Cx) (Δ : List Sl) (e : Expr) (b : Bool) : Prop :=
  ∀ (G0 H0 F H : Hp) (σ : L2.St), Stt X.K G0 H0 F H σ Δ → ∀ Q : Bool → Hp → Prop, (∀ F' H', Ext F H F' H' → Q b H') → uT X e σ H Q
def TW (X : Cx) (Δ : List Sl) (e : Expr) (b : Bool) : Prop :=
  ∀ (G0 H0 F H : Hp) (σ : L2.St), Stt X.K G0 H0 F H σ Δ → ∀ Q : Bool → Hp → Prop, (∀ F' H', Ext F H F' H' → Q b H') → uW X e σ H Q
def AV (X : Cx) (Δ : List Sl) (m : Bool) (es : List Expr) (ds : List D) : Prop :=
  ∀ (G0 H0 F H : Hp) (σ : L2.St), Stt X.K G0 H0 F H σ Δ → ∀ Q : List V → Hp → Prop, (∀ vs F' H', Ext F H F' H' → RL X.K (sel m F' H') ds vs → Q vs H') → uA X es σ H Q

section
variable {X : Cx} {Δ : List Sl} {m : Bool} {e a b c : Expr} {es : List Expr} {d x y : D} {ds : List D} {pos : Pos}

theorem EV.weak (h : EV X Δ true e d) : EV X Δ m e d := fun G0 H0 F H σ S Q q => h G0 H0 F H σ S Q fun v F' H' e r => q v F' H' e (r.mono (f_sel e.fh))
theorem EV.low (h : EV X Δ m e d) : EV X Δ false e d := fun G0 H0 F H σ S Q q => h G0 H0 F H σ S Q fun v F' H' e r => q v F' H' e (r.mono (sel_h e.fh))
theorem EV.up (h : EV X Δ false e d) (f : flat d = true) : EV X Δ m e d := fun G0 H0 F H σ S Q q => h G0 H0 F H σ S Q fun v F' H' e r => q v F' H' e (flat_any f r)
theorem EV.to {d' : D} (h : EV X Δ m e d) (q : d = d') : EV X Δ m e d' := q ▸ h
theorem TV.to {b : Bool} (h : TV X Δ e true) (q : b = true) : TV X Δ e b := q ▸ h
theorem EO.ev (h : EO X Δ e ds) : EV X Δ m e (.lst ds) := EV.weak fun G0 H0 F H σ S Q q => h G0 H0 F H σ S Q fun p vs F' H' e n h1 f1 r => by
  refine q (.ref p) (upd F' p (.lst vs)) H' ⟨e.f.tr (Sub.new f1), e.h, fun a o z => ?_, fun a o z => ?_⟩ (r_lst.mpr ⟨p, vs, rfl, upd_same, r.mono (Sub.new f1)⟩)
  · by_cases w : a = p
    · subst w; rw [upd_same] at z; cases z; exact h1
    · rw [upd_ne w] at z; exact e.fh a o z
  · by_cases w : a = p
    · subst w; exact .inr n
    · rw [upd_ne w] at z; exact e.fr a o z

/-! names and constants -/
theorem ev_v {i : Nat} {n : Str} (hN : X.N[i]? = some n) (hΔ : Δ[i]? = some (Sl.v d)) (hv : Vis X.env.scope n := by first | exact Or.inl rfl | exact Or.inr (Or.inl rfl) | exact Or.inr (Or.inr rfl)) (hd : (n == ("__debug__" : Str)) = false := by decide) (hcd : (n == ("__classdict__" : Str)) = false := by decide) : EV X Δ m (.Name n pos) d := by
  refine EV.weak fun G0 H0 F H σ S Q q => ?_
  obtain ⟨x, e1, r⟩ := S.val i d hΔ
  exact eU (pe_var hN hv hd hcd) ⟨x, e1, q x F H (Ext.rf S.fh) r⟩
theorem ev_o {i : Nat} {n : Str} (hN : X.N[i]? = some n) (hΔ : Δ[i]? = some (Sl.o ds)) (hv : Vis X.env.scope n := by first | exact Or.inl rfl | exact Or.inr (Or.inl rfl) | exact Or.inr (Or.inr rfl)) (hd : (n == ("__debug__" : Str)) = false := by decide) (hcd : (n == ("__classdict__" : Str)) = false := by decide) : EV X Δ false (.Name n pos) (.lst ds) := by
  intro G0 H0 F H σ S Q q
  obtain ⟨p, vs, e1, e2, e3, e4, e5⟩ := S.own i ds hΔ
  exact eU (pe_var hN hv hd hcd) ⟨.ref p, e1, q _ F H (Ext.rf S.fh) (r_lst.mpr ⟨p, vs, rfl, e2, e5.mono S.fh⟩)⟩
theorem ev_int {i : Int} {j : Nat} : EV X Δ m (.Constant (.int i) j pos) (.int i) := fun G0 H0 F H σ S Q q => eU pe_int (q _ F H (Ext.rf S.fh) (r_int.mpr rfl))
theorem ev_bl {i : Bool} {j : Nat} : EV X Δ m (.Constant (.bool i) j pos) (.bl i) := fun G0 H0 F H σ S Q q => eU pe_bl (q _ F H (Ext.rf S.fh) (r_bl.mpr rfl))
theorem ev_non {j : Nat} : EV X Δ m (.Constant .none j pos) .non := fun G0 H0 F H σ S Q q => eU pe_non (q _ F H (Ext.rf S.fh) (r_non.mpr rfl))
theorem ev_str {i : Str} {j : Nat} : EV X Δ m (.Constant (.str i) j pos) (.str i) := fun G0 H0 F H σ S Q q => eU pe_str (q _ F H (Ext.rf S.fh) (r_str.mpr rfl))
/-- a module's constant that is a scalar -/
theorem ev_glob {n : Str} {v : V} {u : Value} (hg : Gl X n) (hm : X.mg n = some u) (r : RelV v u) (hd : (n == ("__debug__" : Str)) = false := by decide) (rd : ∀ G, R X.K G d v) : EV X Δ m (.Name n pos) d :=
  fun G0 H0 F H σ S Q q => eU (pe_glob hg hm r hd) (q v F H (Ext.rf S.fh) (rd _))

/-! two in a row -/
theorem two {m1 m2 : Bool} (ha : EV X Δ m1 a x) (hb : EV X Δ m2 b y) {G0 H0 F H : Hp} {σ : L2.St} (S : Stt X.K G0 H0 F H σ Δ) {Z : V → V → Hp → Prop}
    (h : ∀ v w F' H', Ext F H F' H' → R X.K (sel m1 F' H') x v → R X.K (sel m2 F' H') y w → Z v w H') : uE X a σ H fun v H1 => uE X b σ H1 fun w H2 => Z v w H2 := by
  refine ha G0 H0 F H σ S _ fun v F1 H1 e1 r1 => ?_
  refine hb G0 H0 F1 H1 σ (S.ext e1) _ fun w F2 H2 e2 r2 => ?_
  exact h v w F2 H2 (e1.tr e2) (r1.mono (sel_sub e2)) r2
theorem ev_opI {op : Operator} {C : Int → Int → Prop} {g : Int → Int → Int} {i j : Int} (ho : OpR X (binaryOp op) (rI C fun i j => V.int (g i j))) (ha : EV X Δ false a (.int i)) (hb : EV X Δ false b (.int j)) (hc : C i j) : EV X Δ m (.BinOp a op b pos) (.int (g i j)) := by
  intro G0 H0 F H σ S Q q
  refine eU (pe_op ho pe_u pe_u) (two ha hb S fun v w F' H' e r1 r2 => ?_)
  exact ⟨i, j, r_int.mp r1, r_int.mp r2, hc, q _ F' H' e (r_int.mpr rfl)⟩
theorem ev_opI0 {op : Operator} {g : Int → Int → Int} {i j : Int} (ho : OpR X (binaryOp op) (rI0 fun i j => V.int (g i j))) (ha : EV X Δ false a (.int i)) (hb : EV X Δ false b (.int j)) : EV X Δ m (.BinOp a op b pos) (.int (g i j)) := by
  intro G0 H0 F H σ S Q q
  refine eU (pe_op ho pe_u pe_u) (two ha hb S fun v w F' H' e r1 r2 => ?_)
  exact ⟨i, j, r_int.mp r1, r_int.mp r2, q _ F' H' e (r_int.mpr rfl)⟩
theorem ev_add {i j : Int} (ha : EV X Δ false a (.int i)) (hb : EV X Δ false b (.int j)) : EV X Δ m (.BinOp a .Add b pos) (.int (i + j)) := ev_opI0 op_add ha hb
theorem ev_sub {i j : Int} (ha : EV X Δ false a (.int i)) (hb : EV X Δ false b (.int j)) : EV X Δ m (.BinOp a .Sub b pos) (.int (i - j)) := ev_opI0 op_sub ha hb
theorem ev_mul {i j : Int} (ha : EV X Δ false a (.int i)) (hb : EV X Δ false b (.int j)) (hc : IntMulOk i j) : EV X Δ m (.BinOp a .Mult b pos) (.int (i * j)) :=
  ev_opI (C := IntMulOk) (opI fun _ _ _ _ _ _ _ hc q => mul_int q hc) ha hb hc
theorem ev_mod {i j : Int} (ha : EV X Δ false a (.int i)) (hb : EV X Δ false b (.int j)) (hc : 0 < j) : EV X Δ m (.BinOp a .Mod b pos) (.int (i % j)) := ev_opI op_mod ha hb hc
theorem ev_div {i j : Int} (ha : EV X Δ false a (.int i)) (hb : EV X Δ false b (.int j)) (hc : CDivW i j) : EV X Δ m (.BinOp a .FloorDiv b pos) (.int (i / j)) := ev_opI op_fdivW ha hb hc
theorem ev_pow {i j : Int} (ha : EV X Δ false a (.int i)) (hb : EV X Δ false b (.int j)) (hc : CPow i j) : EV X Δ m (.BinOp a .Pow b pos) (.int (i ^ j.toNat)) := ev_opI op_pow ha hb hc
theorem ev_neg {i : Int} (ha : EV X Δ false a (.int i)) : EV X Δ m (.UnaryOp .USub a pos) (.int (-i)) := by
  intro G0 H0 F H σ S Q q
  refine eU (pe_un un_neg pe_u) (ha G0 H0 F H σ S _ fun v F1 H1 e1 r1 => ?_)
  exact ⟨i, r_int.mp r1, q _ F1 H1 e1 (r_int.mpr rfl)⟩
theorem ev_adds {i j : Str} (ha : EV X Δ false a (.str i)) (hb : EV X Δ false b (.str j)) (hc : i.length + j.length ≤ sizeLine) : EV X Δ m (.BinOp a .Add b pos) (.str (i ++ j)) := by
  intro G0 H0 F H σ S Q q
  refine eU (pe_op op_add_str pe_u pe_u) (two ha hb S fun v w F' H' e r1 r2 => ?_)
  exact ⟨i, j, r_str.mp r1, r_str.mp r2, hc, q _ F' H' e (r_str.mpr rfl)⟩
/-- xs + ys -/
theorem eo_cat {xs ys : List D} (ha : EV X Δ true a (.lst xs)) (hb : EV X Δ true b (.lst ys)) (hc : xs.length + ys.length ≤ sizeLine) : EO X Δ (.BinOp a .Add b pos) (xs ++ ys) := by
  intro G0 H0 F H σ S Q q
  refine eU (pe_op op_cat pe_u pe_u) (two ha hb S fun v w F' H' e r1 r2 => ?_)
  obtain ⟨p1, v1, rfl, g1, l1⟩ := r_lst.mp r1
  obtain ⟨p2, v2, rfl, g2, l2⟩ := r_lst.mp r2
  refine ⟨p1, p2, v1, v2, rfl, rfl, e.fh _ _ g1, e.fh _ _ g2, by rw [l1.length, l2.length]; exact hc, fun p n => ?_⟩
  exact q p (v1 ++ v2) F' _ (e.tr (Ext.grow e.fh (Sub.new n))) (e.h.none n) upd_same (e.fh.none n) (l1.append l2)
/-- .. of flat things, lists of one's own too -/
theorem eo_catf {xs ys : List D} (ha : EV X Δ false a (.lst xs)) (hb : EV X Δ false b (.lst ys)) (f1 : xs.all flat = true) (f2 : ys.all flat = true) (hc : xs.length + ys.length ≤ sizeLine) : EO X Δ (.BinOp a .Add b pos) (xs ++ ys) := by
  intro G0 H0 F H σ S Q q
  refine eU (pe_op op_cat pe_u pe_u) (two ha hb S fun v w F' H' e r1 r2 => ?_)
  obtain ⟨p1, v1, rfl, g1, l1⟩ := r_lst.mp r1
  obtain ⟨p2, v2, rfl, g2, l2⟩ := r_lst.mp r2
  refine ⟨p1, p2, v1, v2, rfl, rfl, g1, g2, by rw [l1.length, l2.length]; exact hc, fun p n => ?_⟩
  exact q p (v1 ++ v2) F' _ (e.tr (Ext.grow e.fh (Sub.new n))) (e.h.none n) upd_same (e.fh.none n) ((flats_any f1 l1).append (flats_any f2 l2))
theorem RL.flatten {K : PySem.W.Frag} {G : Hp} {ds : List D} {vs : List V} (h : RL K G ds vs) : ∀ k : Nat, RL K G (List.replicate k ds).flatten (List.replicate k vs).flatten
  | 0 => RL.nil
  | k + 1 => by
    rw [List.replicate_succ, List.replicate_succ, List.flatten_cons, List.flatten_cons]
    exact h.append (RL.flatten h k)
/-- [x, ..] * n -/
theorem eo_rep {xs : List D} {k : Int} (ha : EV X Δ true a (.lst xs)) (hb : EV X Δ false b (.int k)) (h1 : -(2 ^ 63) ≤ k) (h2 : k < 2 ^ 63) (hc : xs.length * k.toNat ≤ sizeLine) : EO X Δ (.BinOp a .Mult b pos) (List.replicate k.toNat xs).flatten := by
  intro G0 H0 F H σ S Q q
  refine eU (pe_op op_rep pe_u pe_u) (two ha hb S fun v w F' H' e r1 r2 => ?_)
  obtain ⟨p1, v1, rfl, g1, l1⟩ := r_lst.mp r1
  rw [r_int.mp r2]
  refine ⟨p1, k, v1, rfl, rfl, e.fh _ _ g1, h1, h2, by rw [l1.length]; exact hc, fun p n => ?_⟩
  exact q p _ F' _ (e.tr (Ext.grow e.fh (Sub.new n))) (e.h.none n) upd_same (e.fh.none n) (l1.flatten _)

/-! comparisons -/
theorem ev_cmpI {op : CmpOp} {g : Int → Int → Bool} {i j : Int} (ho : OpR X (compareOp op) (rI0 fun i j => V.bl (g i j))) (ha : EV X Δ false a (.int i)) (hb : EV X Δ false b (.int j)) (hm : behindInMarks op b = false) : EV X Δ m (.Compare a [op] [b] pos) (.bl (g i j)) := by
  intro G0 H0 F H σ S Q q
  refine eU (pe_cmpR ho pe_u pe_u hm) (two ha hb S fun v w F' H' e r1 r2 => ?_)
  exact ⟨i, j, r_int.mp r1, r_int.mp r2, q _ F' H' e (r_bl.mpr rfl)⟩
theorem ev_lt {i j : Int} (ha : EV X Δ false a (.int i)) (hb : EV X Δ false b (.int j)) : EV X Δ m (.Compare a [.Lt] [b] pos) (.bl (decide (i < j))) := ev_cmpI op_lt ha hb (nomark _)
theorem ev_le {i j : Int} (ha : EV X Δ false a (.int i)) (hb : EV X Δ false b (.int j)) : EV X Δ m (.Compare a [.LtE] [b] pos) (.bl (decide (i ≤ j))) := ev_cmpI op_le ha hb (nomark _)
theorem ev_gt {i j : Int} (ha : EV X Δ false a (.int i)) (hb : EV X Δ false b (.int j)) : EV X Δ m (.Compare a [.Gt] [b] pos) (.bl (decide (j < i))) := ev_cmpI op_gt ha hb (nomark _)
theorem ev_ge {i j : Int} (ha : EV X Δ false a (.int i)) (hb : EV X Δ false b (.int j)) : EV X Δ m (.Compare a [.GtE] [b] pos) (.bl (decide (j ≤ i))) := ev_cmpI op_ge ha hb (nomark _)
/-- the scalars' own values -/
def toV : D → V
  | .non => .non | .bl b => .bl b | .int i => .int i | .str x => .str x | _ => .non
theorem r_flat {K : PySem.W.Frag} {G : Hp} {d : D} {v : V} (f : flat d = true) (h : R K G d v) : v = toV d := by
  cases d <;> first
    | (unfold R at h; exact h)
    | (exact absurd f (by simp [flat]))
theorem ev_eq (ha : EV X Δ false a x) (hb : EV X Δ false b y) (h1 : flat x = true) (h2 : flat y = true) (hs : scal (toV x) (toV y) = true) : EV X Δ m (.Compare a [.Eq] [b] pos) (.bl (decide (toV x = toV y))) := by
  intro G0 H0 F H σ S Q q
  refine eU (pe_cmpR op_eq pe_u pe_u (nomark _)) (two ha hb S fun v w F' H' e r1 r2 => ?_)
  rw [r_flat h1 r1, r_flat h2 r2]
  exact ⟨hs, q _ F' H' e (r_bl.mpr rfl)⟩
theorem ev_ne (ha : EV X Δ false a x) (hb : EV X Δ false b y) (h1 : flat x = true) (h2 : flat y = true) (hs : scal (toV x) (toV y) = true) : EV X Δ m (.Compare a [.NotEq] [b] pos) (.bl (!decide (toV x = toV y))) := by
  intro G0 H0 F H σ S Q q
  refine eU (pe_cmpR op_ne pe_u pe_u (nomark _)) (two ha hb S fun v w F' H' e r1 r2 => ?_)
  rw [r_flat h1 r1, r_flat h2 r2]
  exact ⟨hs, q _ F' H' e (r_bl.mpr rfl)⟩
theorem ev_eqI {i j : Int} (ha : EV X Δ false a (.int i)) (hb : EV X Δ false b (.int j)) : EV X Δ m (.Compare a [.Eq] [b] pos) (.bl (decide (i = j))) := by
  refine (ev_eq ha hb rfl rfl rfl).to ?_
  simp [toV]
theorem ev_neI {i j : Int} (ha : EV X Δ false a (.int i)) (hb : EV X Δ false b (.int j)) : EV X Δ m (.Compare a [.NotEq] [b] pos) (.bl (!decide (i = j))) := by
  refine (ev_ne ha hb rfl rfl rfl).to ?_
  simp [toV]
theorem ev_eqS {i j : Str} (ha : EV X Δ false a (.str i)) (hb : EV X Δ false b (.str j)) : EV X Δ m (.Compare a [.Eq] [b] pos) (.bl (decide (i = j))) := by
  refine (ev_eq ha hb rfl rfl rfl).to ?_
  simp [toV]
theorem ev_neS {i j : Str} (ha : EV X Δ false a (.str i)) (hb : EV X Δ false b (.str j)) : EV X Δ m (.Compare a [.NotEq] [b] pos) (.bl (!decide (i = j))) := by
  refine (ev_ne ha hb rfl rfl rfl).to ?_
  simp [toV]
theorem ev_eqB {i j : Bool} (ha : EV X Δ false a (.bl i)) (hb : EV X Δ false b (.bl j)) : EV X Δ m (.Compare a [.Eq] [b] pos) (.bl (decide (i = j))) := by
  refine (ev_eq ha hb rfl rfl rfl).to ?_
  simp [toV]
/-- a op1 b op2 c, of ints -/
theorem ev_chain {op op' : CmpOp} {g g' : Int → Int → Bool} {i j k : Int} (ho : OpR X (compareOp op) (rI0 fun i j => V.bl (g i j))) (ho' : OpR X (compareOp op') (rI0 fun i j => V.bl (g' i j))) (ha : EV X Δ false a (.int i)) (hb : EV X Δ false b (.int j)) (hc : EV X Δ false c (.int k))
    (hm : lastMarks [op, op'] [b, c] = false := by with_unfolding_all rfl) : EV X Δ m (.Compare a [op, op'] [b, c] pos) (.bl (g i j && g' j k)) := by
  intro G0 H0 F H σ S Q q
  refine eU (pe_chain ho ho' pe_u pe_u pe_u hm) (two ha hb S fun v w F' H' e r1 r2 => ?_)
  refine ⟨i, j, r_int.mp r1, r_int.mp r2, _, rfl, ?_⟩
  cases z : g i j with
  | true =>
    rw [if_pos rfl]
    refine hc G0 H0 F' H' σ (S.ext e) _ fun u F2 H2 e2 r3 => ?_
    exact ⟨j, k, r_int.mp r2, r_int.mp r3, q _ F2 H2 (e.tr e2) (r_bl.mpr (by rw [z]; rfl))⟩
  | false =>
    rw [if_neg Bool.false_ne_true]
    exact q _ F' H' e (r_bl.mpr (by rw [z]; rfl))
theorem ev_lelt {i j k : Int} (ha : EV X Δ false a (.int i)) (hb : EV X Δ false b (.int j)) (hc : EV X Δ false c (.int k)) (hm : lastMarks [.LtE, .Lt] [b, c] = false := by with_unfolding_all rfl) : EV X Δ m (.Compare a [.LtE, .Lt] [b, c] pos) (.bl (decide (i ≤ j) && decide (j < k))) := ev_chain op_le op_lt ha hb hc hm
theorem ev_lele {i j k : Int} (ha : EV X Δ false a (.int i)) (hb : EV X Δ false b (.int j)) (hc : EV X Δ false c (.int k)) (hm : lastMarks [.LtE, .LtE] [b, c] = false := by with_unfolding_all rfl) : EV X Δ m (.Compare a [.LtE, .LtE] [b, c] pos) (.bl (decide (i ≤ j) && decide (j ≤ k))) := ev_chain op_le op_le ha hb hc hm
theorem ev_isN (ha : EV X Δ false a x) : EV X Δ m (.Compare a [.Is] [.Constant .none k p2] pos) (.bl (match x with | .non => true | _ => false)) := by
  intro G0 H0 F H σ S Q q
  refine eU (pe_cmpR op_isN pe_u pe_non (nomark _)) (ha G0 H0 F H σ S _ fun v F' H' e r1 => ?_)
  refine ⟨rfl, q _ F' H' e (r_bl.mpr ?_)⟩
  cases x <;> (unfold R at r1) <;> first
    | (rw [r1]; simp)
    | (obtain ⟨_, z, _⟩ := r1; rw [z]; simp)
    | (obtain ⟨_, _, z, _⟩ := r1; rw [z]; simp)
    | (obtain ⟨_, _, _, z, _⟩ := r1; rw [z]; simp)
theorem ev_notN (ha : EV X Δ false a x) : EV X Δ m (.Compare a [.IsNot] [.Constant .none k p2] pos) (.bl (match x with | .non => false | _ => true)) := by
  intro G0 H0 F H σ S Q q
  refine eU (pe_cmpR op_notN pe_u pe_non (nomark _)) (ha G0 H0 F H σ S _ fun v F' H' e r1 => ?_)
  refine ⟨rfl, q _ F' H' e (r_bl.mpr ?_)⟩
  cases x <;> (unfold R at r1) <;> first
    | (rw [r1]; simp)
    | (obtain ⟨_, z, _⟩ := r1; rw [z]; simp)
    | (obtain ⟨_, _, z, _⟩ := r1; rw [z]; simp)
    | (obtain ⟨_, _, _, z, _⟩ := r1; rw [z]; simp)

/-! truth -/
theorem tv_bl {t : Bool} (h : EV X Δ false e (.bl t)) (he : ∀ whole, isTrue e X.env whole = (do let v ← whole; standAt e.pos; holding [v] (truthy v)) := by intro _; rfl) : TV X Δ e t := by
  intro G0 H0 F H σ S Q q
  refine tU (pt_val pe_u he) (h G0 H0 F H σ S _ fun v F' H' e r => ⟨t, r_bl.mp r, q F' H' e⟩)
theorem tv_cmp {op : CmpOp} {t : Bool} {r : R2} (ho : OpR X (compareOp op) r) (hm : behindInMarks op b = false) (h : ∀ (G0 H0 F H : Hp) (σ : L2.St), Stt X.K G0 H0 F H σ Δ → ∀ Q : VK, (∀ v F' H', Ext F H F' H' → v = .bl t → Q v H') → tOp r (uE X a) (uE X b) σ H Q) : TV X Δ (.Compare a [op] [b] pos) t := by
  intro G0 H0 F H σ S Q q
  exact tU (pt_cmpR ho pe_u pe_u hm) (h G0 H0 F H σ S _ fun v F' H' e r => ⟨t, r, q F' H' e⟩)
theorem tv_cmpI {op : CmpOp} {g : Int → Int → Bool} {i j : Int} (ho : OpR X (compareOp op) (rI0 fun i j => V.bl (g i j))) (ha : EV X Δ false a (.int i)) (hb : EV X Δ false b (.int j)) (hm : behindInMarks op b = false) : TV X Δ (.Compare a [op] [b] pos) (g i j) :=
  tv_cmp ho hm fun G0 H0 F H σ S Q q => two ha hb S fun v w F' H' e r1 r2 => ⟨i, j, r_int.mp r1, r_int.mp r2, q _ F' H' e rfl⟩
theorem tv_lt {i j : Int} (ha : EV X Δ false a (.int i)) (hb : EV X Δ false b (.int j)) : TV X Δ (.Compare a [.Lt] [b] pos) (decide (i < j)) := tv_cmpI op_lt ha hb (nomark _)
theorem tv_le {i j : Int} (ha : EV X Δ false a (.int i)) (hb : EV X Δ false b (.int j)) : TV X Δ (.Compare a [.LtE] [b] pos) (decide (i ≤ j)) := tv_cmpI op_le ha hb (nomark _)
theorem tv_gt {i j : Int} (ha : EV X Δ false a (.int i)) (hb : EV X Δ false b (.int j)) : TV X Δ (.Compare a [.Gt] [b] pos) (decide (j < i)) := tv_cmpI op_gt ha hb (nomark _)
theorem tv_ge {i j : Int} (ha : EV X Δ false a (.int i)) (hb : EV X Δ false b (.int j)) : TV X Δ (.Compare a [.GtE] [b] pos) (decide (j ≤ i)) := tv_cmpI op_ge ha hb (nomark _)
theorem tv_eq (ha : EV X Δ false a x) (hb : EV X Δ false b y) (h1 : flat x = true) (h2 : flat y = true) (hs : scal (toV x) (toV y) = true) : TV X Δ (.Compare a [.Eq] [b] pos) (decide (toV x = toV y)) :=
  tv_cmp op_eq (nomark _) fun G0 H0 F H σ S Q q => two ha hb S fun v w F' H' e r1 r2 => by
    rw [r_flat h1 r1, r_flat h2 r2]; exact ⟨hs, q _ F' H' e rfl⟩
theorem tv_ne (ha : EV X Δ false a x) (hb : EV X Δ false b y) (h1 : flat x = true) (h2 : flat y = true) (hs : scal (toV x) (toV y) = true) : TV X Δ (.Compare a [.NotEq] [b] pos) (!decide (toV x = toV y)) :=
  tv_cmp op_ne (nomark _) fun G0 H0 F H σ S Q q => two ha hb S fun v w F' H' e r1 r2 => by
    rw [r_flat h1 r1, r_flat h2 r2]; exact ⟨hs, q _ F' H' e rfl⟩
theorem TV.is {t t' : Bool} (h : TV X Δ e t) (q : t = t') : TV X Δ e t' := q ▸ h
theorem EO.to {rs : List D} (h : EO X Δ e ds) (q : ds = rs) : EO X Δ e rs := q ▸ h
theorem tv_eqI {i j : Int} (ha : EV X Δ false a (.int i)) (hb : EV X Δ false b (.int j)) : TV X Δ (.Compare a [.Eq] [b] pos) (decide (i = j)) := (tv_eq ha hb rfl rfl rfl).is (by simp [toV])
theorem tv_neI {i j : Int} (ha : EV X Δ false a (.int i)) (hb : EV X Δ false b (.int j)) : TV X Δ (.Compare a [.NotEq] [b] pos) (!decide (i = j)) := (tv_ne ha hb rfl rfl rfl).is (by simp [toV])
theorem tv_eqS {i j : Str} (ha : EV X Δ false a (.str i)) (hb : EV X Δ false b (.str j)) : TV X Δ (.Compare a [.Eq] [b] pos) (decide (i = j)) := (tv_eq ha hb rfl rfl rfl).is (by simp [toV])
theorem tv_neS {i j : Str} (ha : EV X Δ false a (.str i)) (hb : EV X Δ false b (.str j)) : TV X Δ (.Compare a [.NotEq] [b] pos) (!decide (i = j)) := (tv_ne ha hb rfl rfl rfl).is (by simp [toV])
theorem tv_isN (ha : EV X Δ false a x) : TV X Δ (.Compare a [.Is] [.Constant .none k p2] pos) (match x with | .non => true | _ => false) :=
  tv_cmp op_isN (nomark _) fun G0 H0 F H σ S Q q => ha G0 H0 F H σ S _ fun v F' H' e r1 => eU pe_non ⟨rfl, q _ F' H' e (by
    cases x <;> (unfold R at r1) <;> first
      | (rw [r1]; simp)
      | (obtain ⟨_, z, _⟩ := r1; rw [z]; simp)
      | (obtain ⟨_, _, z, _⟩ := r1; rw [z]; simp)
      | (obtain ⟨_, _, _, z, _⟩ := r1; rw [z]; simp))⟩
theorem tv_notN (ha : EV X Δ false a x) : TV X Δ (.Compare a [.IsNot] [.Constant .none k p2] pos) (match x with | .non => false | _ => true) :=
  tv_cmp op_notN (nomark _) fun G0 H0 F H σ S Q q => ha G0 H0 F H σ S _ fun v F' H' e r1 => eU pe_non ⟨rfl, q _ F' H' e (by
    cases x <;> (unfold R at r1) <;> first
      | (rw [r1]; simp)
      | (obtain ⟨_, z, _⟩ := r1; rw [z]; simp)
      | (obtain ⟨_, _, z, _⟩ := r1; rw [z]; simp)
      | (obtain ⟨_, _, _, z, _⟩ := r1; rw [z]; simp))⟩
theorem tv_chain {op op' : CmpOp} {g g' : Int → Int → Bool} {i j k : Int} (ho : OpR X (compareOp op) (rI0 fun i j => V.bl (g i j))) (ho' : OpR X (compareOp op') (rI0 fun i j => V.bl (g' i j))) (ha : EV X Δ false a (.int i)) (hb : EV X Δ false b (.int j)) (hc : EV X Δ false c (.int k))
    (hm : lastMarks [op, op'] [b, c] = false := by with_unfolding_all rfl) : TV X Δ (.Compare a [op, op'] [b, c] pos) (g i j && g' j k) := by
  intro G0 H0 F H σ S Q q
  refine tU (pt_chain ho ho' pe_u pe_u pe_u hm) (two ha hb S fun v w F' H' e r1 r2 => ?_)
  refine ⟨i, j, r_int.mp r1, r_int.mp r2, _, rfl, ?_⟩
  cases z : g i j with
  | true =>
    rw [if_pos rfl]
    refine hc G0 H0 F' H' σ (S.ext e) _ fun u F2 H2 e2 r3 => ?_
    refine ⟨j, k, r_int.mp r2, r_int.mp r3, _, rfl, ?_⟩
    have := q F2 H2 (e.tr e2)
    rw [z] at this
    exact this
  | false =>
    rw [if_neg Bool.false_ne_true]
    have := q F' H' e
    rw [z] at this
    exact ⟨_, rfl, this⟩
theorem tv_lelt {i j k : Int} (ha : EV X Δ false a (.int i)) (hb : EV X Δ false b (.int j)) (hc : EV X Δ false c (.int k)) (hm : lastMarks [.LtE, .Lt] [b, c] = false := by with_unfolding_all rfl) : TV X Δ (.Compare a [.LtE, .Lt] [b, c] pos) (decide (i ≤ j) && decide (j < k)) := tv_chain op_le op_lt ha hb hc hm
theorem tv_lele {i j k : Int} (ha : EV X Δ false a (.int i)) (hb : EV X Δ false b (.int j)) (hc : EV X Δ false c (.int k)) (hm : lastMarks [.LtE, .LtE] [b, c] = false := by with_unfolding_all rfl) : TV X Δ (.Compare a [.LtE, .LtE] [b, c] pos) (decide (i ≤ j) && decide (j ≤ k)) := tv_chain op_le op_le ha hb hc hm
theorem tv_not {t : Bool} (h : TV X Δ a t) : TV X Δ (.UnaryOp .Not a pos) (!t) := fun G0 H0 F H σ S Q q => tU (pt_not pt_u) (h G0 H0 F H σ S _ fun F' H' e => q F' H' e)
theorem TW.tv {t : Bool} (h : TW X Δ e t) : TV X Δ e t := fun G0 H0 F H σ S Q q => tU (PW.pt pw_u) (h G0 H0 F H σ S Q q)
theorem tw_and1 {t : Bool} (h : TV X Δ a t) : TW X Δ (.BoolOp .And [a] pos) t := fun G0 H0 F H σ S Q q => wU (pw_and1 pt_u) (h G0 H0 F H σ S Q q)
theorem tw_or1 {t : Bool} (h : TV X Δ a t) : TW X Δ (.BoolOp .Or [a] pos) t := fun G0 H0 F H σ S Q q => wU (pw_or1 pt_u) (h G0 H0 F H σ S Q q)
theorem tw_and {t u : Bool} {r : List Expr} (h : TV X Δ a t) (k : t = true → TW X Δ (.BoolOp .And (b :: r) pos) u) : TW X Δ (.BoolOp .And (a :: b :: r) pos) (t && u) := by
  intro G0 H0 F H σ S Q q
  refine wU (pw_and pt_u pw_u) (h G0 H0 F H σ S _ fun F' H' e => ?_)
  cases t with
  | true => rw [if_pos rfl]; exact k rfl G0 H0 F' H' σ (S.ext e) Q fun F2 H2 e2 => q F2 H2 (e.tr e2)
  | false => rw [if_neg Bool.false_ne_true]; exact q F' H' e
theorem tw_or {t u : Bool} {r : List Expr} (h : TV X Δ a t) (k : t = false → TW X Δ (.BoolOp .Or (b :: r) pos) u) : TW X Δ (.BoolOp .Or (a :: b :: r) pos) (t || u) := by
  intro G0 H0 F H σ S Q q
  refine wU (pw_or pt_u pw_u) (h G0 H0 F H σ S _ fun F' H' e => ?_)
  cases t with
  | false => rw [if_neg Bool.false_ne_true]; exact k rfl G0 H0 F' H' σ (S.ext e) Q fun F2 H2 e2 => q F2 H2 (e.tr e2)
  | true => rw [if_pos rfl]; exact q F' H' e
/-- the same as values -/
theorem ev_one {op : BoolOp} {m' : Bool} (h : EV X Δ m' a x) : EV X Δ m' (.BoolOp op [a] pos) x := fun G0 H0 F H σ S Q q => eU (pe_one pe_u) (h G0 H0 F H σ S Q q)
theorem ev_and {t u : Bool} {r : List Expr} (h : EV X Δ false a (.bl t)) (k : t = true → EV X Δ false (.BoolOp .And (b :: r) pos) (.bl u)) : EV X Δ m (.BoolOp .And (a :: b :: r) pos) (.bl (t && u)) := by
  refine EV.up (fun G0 H0 F H σ S Q q => ?_) rfl
  refine eU (pe_and pe_u pe_u) (h G0 H0 F H σ S _ fun v F' H' e r => ⟨t, r_bl.mp r, ?_⟩)
  cases t with
  | true => rw [if_pos rfl]; exact k rfl G0 H0 F' H' σ (S.ext e) Q fun v F2 H2 e2 r2 => q v F2 H2 (e.tr e2) r2
  | false => rw [if_neg Bool.false_ne_true]; exact q _ F' H' e (r_bl.mpr rfl)
theorem ev_or {t u : Bool} {r : List Expr} (h : EV X Δ false a (.bl t)) (k : t = false → EV X Δ false (.BoolOp .Or (b :: r) pos) (.bl u)) : EV X Δ m (.BoolOp .Or (a :: b :: r) pos) (.bl (t || u)) := by
  refine EV.up (fun G0 H0 F H σ S Q q => ?_) rfl
  refine eU (pe_or pe_u pe_u) (h G0 H0 F H σ S _ fun v F' H' e r => ⟨t, r_bl.mp r, ?_⟩)
  cases t with
  | false => rw [if_neg Bool.false_ne_true]; exact k rfl G0 H0 F' H' σ (S.ext e) Q fun v F2 H2 e2 r2 => q v F2 H2 (e.tr e2) r2
  | true => rw [if_pos rfl]; exact q _ F' H' e (r_bl.mpr rfl)
theorem ev_not {t : Bool} (h : EV X Δ false a (.bl t)) : EV X Δ m (.UnaryOp .Not a pos) (.bl (!t)) := by
  refine EV.up (fun G0 H0 F H σ S Q q => ?_) rfl
  exact eU (pe_not pe_u) (h G0 H0 F H σ S _ fun v F' H' e r => ⟨t, r_bl.mp r, q _ F' H' e (r_bl.mpr rfl)⟩)
theorem ev_if {t : Bool} (h : TV X Δ c t) (h1 : t = true → EV X Δ m a d) (h2 : t = false → EV X Δ m b d) : EV X Δ m (.IfExp c a b pos) d := by
  intro G0 H0 F H σ S Q q
  refine eU (pe_ifExp pt_u pe_u pe_u) (h G0 H0 F H σ S _ fun F' H' e => ?_)
  cases t with
  | true => rw [if_pos rfl]; exact h1 rfl G0 H0 F' H' σ (S.ext e) Q fun v F2 H2 e2 r2 => q v F2 H2 (e.tr e2) r2
  | false => rw [if_neg Bool.false_ne_true]; exact h2 rfl G0 H0 F' H' σ (S.ext e) Q fun v F2 H2 e2 r2 => q v F2 H2 (e.tr e2) r2

/-! displays -/
theorem av_nil : AV X Δ m [] [] := fun G0 H0 F H σ S Q q => aU pa_nil (q [] F H (Ext.rf S.fh) RL.nil)
theorem av_cons (h : EV X Δ m e d) (k : AV X Δ m es ds) (hs : starEach (e :: es) X.env = (false, eval e X.env) :: starEach es X.env := by rfl) : AV X Δ m (e :: es) (d :: ds) := by
  intro G0 H0 F H σ S Q q
  refine aU (pa_cons pe_u pa_u hs) (h G0 H0 F H σ S _ fun v F1 H1 e1 r1 => ?_)
  exact k G0 H0 F1 H1 σ (S.ext e1) _ fun vs F2 H2 e2 r2 => q _ F2 H2 (e1.tr e2) (RL.cons (r1.mono (sel_sub e2)) r2)
theorem ev_tup {k : Nat} (h : AV X Δ m es ds) (hl : ds.length ≤ 1000) : EV X Δ m (.Tuple es k pos) (.tup ds) := by
  intro G0 H0 F H σ S Q q
  refine eU (pe_tup pa_u) (h G0 H0 F H σ S _ fun vs F' H' e r => ⟨Nat.le_of_lt (small1000 (by rw [r.length]; exact hl)), fun p n => ?_⟩)
  cases m with
  | true => exact q (.ref p) (upd F' p (.tup vs)) _ (e.tr (Ext.put e.fh n)) (r_tup.mpr ⟨p, vs, rfl, upd_same, RL.mono (show Sub F' (upd F' p (.tup vs)) from Sub.new (e.fh.none n)) ds vs r⟩)
  | false => exact q (.ref p) F' _ (e.tr (Ext.grow e.fh (Sub.new n))) (r_tup.mpr ⟨p, vs, rfl, upd_same, RL.mono (show Sub H' (upd H' p (.tup vs)) from Sub.new n) ds vs r⟩)
theorem eo_lst (h : AV X Δ true es ds) (hl : ds.length ≤ 1000) : EO X Δ (.List es pos) ds := by
  intro G0 H0 F H σ S Q q
  refine eU (pe_lst pa_u) (h G0 H0 F H σ S _ fun vs F' H' e r => ⟨Nat.le_of_lt (small1000 (by rw [r.length]; exact hl)), fun p n => ?_⟩)
  exact q p vs F' _ (e.tr (Ext.grow e.fh (Sub.new n))) (e.h.none n) upd_same (e.fh.none n) r
/-- a written list as an operand -/
theorem ev_lst (h : AV X Δ m es ds) (hl : ds.length ≤ 1000) : EV X Δ m (.List es pos) (.lst ds) := by
  intro G0 H0 F H σ S Q q
  refine eU (pe_lst pa_u) (h G0 H0 F H σ S _ fun vs F' H' e r => ⟨Nat.le_of_lt (small1000 (by rw [r.length]; exact hl)), fun p n => ?_⟩)
  cases m with
  | true => exact q (.ref p) (upd F' p (.lst vs)) _ (e.tr (Ext.put e.fh n)) (r_lst.mpr ⟨p, vs, rfl, upd_same, RL.mono (show Sub F' (upd F' p (.lst vs)) from Sub.new (e.fh.none n)) ds vs r⟩)
  | false => exact q (.ref p) F' _ (e.tr (Ext.grow e.fh (Sub.new n))) (r_lst.mpr ⟨p, vs, rfl, upd_same, RL.mono (show Sub H' (upd H' p (.lst vs)) from Sub.new n) ds vs r⟩)

/-! subscripts -/
theorem RL.at {K : PySem.W.Frag} {G : Hp} {ds : List D} {vs : List V} {i : Int} {d : D} (h : RL K G ds vs) (e : atI ds i = some d) : ∃ v, atI vs i = some v ∧ R K G d v := by
  unfold atI at e ⊢
  rw [h.length]
  cases z : ixN ds.length i with
  | none => rw [z] at e; cases e
  | some j => rw [z] at e; exact h.get e
theorem ev_ix {i : Int} (ha : EV X Δ m a (.lst ds)) (hb : EV X Δ false b (.int i)) (h : atI ds i = some d) (hs : PlainIx b := by exact fun _ _ => rfl) : EV X Δ m (.Subscript a b pos) d := by
  intro G0 H0 F H σ S Q q
  refine eU (pe_ix ix_list pe_u pe_u hs) (two ha hb S fun v w F' H' e r1 r2 => ?_)
  obtain ⟨p, vs, rfl, g, l⟩ := r_lst.mp r1
  obtain ⟨u, e1, e2⟩ := l.at h
  exact ⟨p, vs, i, u, rfl, r_int.mp r2, SqL.of (sel_h e.fh _ _ g), e1, q _ F' H' e e2⟩
theorem ev_ixt {i : Int} (ha : EV X Δ m a (.tup ds)) (hb : EV X Δ false b (.int i)) (h : atI ds i = some d) (hs : PlainIx b := by exact fun _ _ => rfl) : EV X Δ m (.Subscript a b pos) d := by
  intro G0 H0 F H σ S Q q
  refine eU (pe_ix ix_tup pe_u pe_u hs) (two ha hb S fun v w F' H' e r1 r2 => ?_)
  obtain ⟨p, vs, rfl, g, l⟩ := r_tup.mp r1
  obtain ⟨u, e1, e2⟩ := l.at h
  exact ⟨p, vs, i, u, rfl, r_int.mp r2, SqT.of (sel_h e.fh _ _ g), e1, q _ F' H' e e2⟩
/-- an item of a list of one's own -/
theorem ev_ixo {i : Int} {k : Nat} {n : Str} {p1 : Pos} (hN : X.N[k]? = some n) (hΔ : Δ[k]? = some (Sl.o ds)) (hb : EV X Δ false b (.int i)) (h : atI ds i = some d) (hv : Vis X.env.scope n := by first | exact Or.inl rfl | exact Or.inr (Or.inl rfl) | exact Or.inr (Or.inr rfl)) (hs : PlainIx b := by exact fun _ _ => rfl) (hd : (n == ("__debug__" : Str)) = false := by decide) (hcd : (n == ("__classdict__" : Str)) = false := by decide) : EV X Δ m (.Subscript (.Name n p1) b pos) d := by
  refine EV.weak fun G0 H0 F H σ S Q q => ?_
  obtain ⟨p, vs, e1, e2, e3, e4, l⟩ := S.own k ds hΔ
  refine eU (pe_ix ix_list (pe_var hN hv hd hcd) pe_u hs) ⟨.ref p, e1, ?_⟩
  refine hb G0 H0 F H σ S _ fun w F' H' e r2 => ?_
  obtain ⟨u, f1, f2⟩ := l.at h
  exact ⟨p, vs, i, u, rfl, r_int.mp r2, SqL.of (e.h _ _ e2), f1, q _ F' H' e (f2.mono e.f)⟩
theorem ev_ixs {i j : Int} {ns : List Int} (ha : EV X Δ false a (.scr ns)) (hb : EV X Δ false b (.int i)) (h : atI ns i = some j) (hs : PlainIx b := by exact fun _ _ => rfl) : EV X Δ m (.Subscript a b pos) (.int j) := by
  refine EV.up (fun G0 H0 F H σ S Q q => ?_) rfl
  refine eU (pe_ix ix_list pe_u pe_u hs) (two ha hb S fun v w F' H' e r1 r2 => ?_)
  obtain ⟨p, rfl, g⟩ := r_scr.mp r1
  refine ⟨p, ns.map V.int, i, .int j, rfl, r_int.mp r2, g, ?_, q _ F' H' e (r_int.mpr rfl)⟩
  unfold atI at h ⊢
  rw [List.length_map]
  cases z : ixN ns.length i with
  | none => rw [z] at h; cases h
  | some k =>
    rw [z] at h
    have h : ns[k]? = some j := h
    show (ns.map V.int)[k]? = _
    rw [List.getElem?_map, h]; rfl
theorem ev_ixS {i : Int} {z : Str} {c : Nat} (ha : EV X Δ false a (.str z)) (hb : EV X Δ false b (.int i)) (hl : z.length ≤ sizeLine) (h : atI z.cps.toList i = some c) (hs : PlainIx b := by exact fun _ _ => rfl) : EV X Δ m (.Subscript a b pos) (.str ⟨#[c]⟩) := by
  refine EV.up (fun G0 H0 F H σ S Q q => ?_) rfl
  refine eU (pe_ix ix_str pe_u pe_u hs) (two ha hb S fun v w F' H' e r1 r2 => ?_)
  exact ⟨z, i, c, r_str.mp r1, r_int.mp r2, hl, h, q _ F' H' e (r_str.mpr rfl)⟩

/-! slices -/
def OV (X : Cx) (Δ : List Sl) (o : Option Expr) (r : Option Int) : Prop :=
  ∀ (G0 H0 F H : Hp) (σ : L2.St), Stt X.K G0 H0 F H σ Δ → ∀ Q : Option Int → Hp → Prop, (∀ F' H', Ext F H F' H' → Q r H') → (match o with | none => tNoPart | some e => tPart (uE X e)) σ H Q
theorem po_u {o : Option Expr} : PO X o (match o with | none => tNoPart | some e => tPart (uE X e)) := by
  cases o with
  | none => exact po_none
  | some e => exact po_some pe_u
theorem ov_none : OV X Δ none none := fun G0 H0 F H σ S Q q => q F H (Ext.rf S.fh)
theorem ov_some {i : Int} (h : EV X Δ false e (.int i)) : OV X Δ (some e) (some i) := fun G0 H0 F H σ S Q q => h G0 H0 F H σ S _ fun v F' H' x r => ⟨i, r_int.mp r, q F' H' x⟩
def slD {α : Type} (xs : List α) (lo hi : Option Int) : List α := (xs.drop (HT.sIx xs.length 0 lo)).take (HT.sIx xs.length xs.length hi - HT.sIx xs.length 0 lo)
theorem cutV_eq (xs : List V) (lo hi : Option Int) : cutV xs lo hi = slD xs lo hi := rfl
theorem RL.cut {K : PySem.W.Frag} {G : Hp} {ds : List D} {vs : List V} (h : RL K G ds vs) (lo hi : Option Int) : RL K G (slD ds lo hi) (cutV vs lo hi) := by
  unfold cutV slD
  rw [h.length]
  exact (h.drop _).take _
theorem eo_sl {lo hi : Option Expr} {l u : Option Int} {p2 : Pos} (ha : EV X Δ true a (.lst ds)) (hl : OV X Δ lo l) (hu : OV X Δ hi u) : EO X Δ (.Subscript a (.Slice lo hi none p2) pos) (slD ds l u) := by
  intro G0 H0 F H σ S Q q
  refine eU (pe_slice sl_list pe_u po_u po_u) (ha G0 H0 F H σ S _ fun v F1 H1 e1 r1 => ?_)
  refine hl G0 H0 F1 H1 σ (S.ext e1) _ fun F2 H2 e2 => hu G0 H0 F2 H2 σ (S.ext (e1.tr e2)) _ fun F3 H3 e3 => ?_
  obtain ⟨p, vs, rfl, g, r⟩ := r_lst.mp r1
  have e := e1.tr (e2.tr e3)
  have e23 := e2.tr e3
  have g' : F1 p = some (.lst vs) := g
  refine ⟨p, vs, rfl, SqL.of (e.fh _ _ (e23.f _ _ g')), fun n nn => ?_⟩
  exact q n _ F3 _ (e.tr (Ext.grow e.fh (Sub.new nn))) (e.h.none nn) upd_same (e.fh.none nn) (RL.cut (RL.mono e23.f _ _ r) l u)
theorem eo_slf {lo hi : Option Expr} {l u : Option Int} {p2 : Pos} (ha : EV X Δ false a (.lst ds)) (hl : OV X Δ lo l) (hu : OV X Δ hi u) (f : ds.all flat = true) : EO X Δ (.Subscript a (.Slice lo hi none p2) pos) (slD ds l u) := by
  intro G0 H0 F H σ S Q q
  refine eU (pe_slice sl_list pe_u po_u po_u) (ha G0 H0 F H σ S _ fun v F1 H1 e1 r1 => ?_)
  refine hl G0 H0 F1 H1 σ (S.ext e1) _ fun F2 H2 e2 => hu G0 H0 F2 H2 σ (S.ext (e1.tr e2)) _ fun F3 H3 e3 => ?_
  obtain ⟨p, vs, rfl, g, r⟩ := r_lst.mp r1
  have e := e1.tr (e2.tr e3)
  have e23 := e2.tr e3
  have g' : H1 p = some (.lst vs) := g
  refine ⟨p, vs, rfl, SqL.of (e23.h _ _ g'), fun n nn => ?_⟩
  exact q n _ F3 _ (e.tr (Ext.grow e.fh (Sub.new nn))) (e.h.none nn) upd_same (e.fh.none nn) (RL.cut (flats_any f r) l u)
theorem cut_ints (ns : List Int) (l u : Option Int) : cutV (ns.map V.int) l u = (slD ns l u).map V.int := by
  unfold cutV slD
  rw [List.length_map, ← List.map_drop, ← List.map_take]
/-- a slice of the script -/
theorem eo_sls {lo hi : Option Expr} {l u : Option Int} {p2 : Pos} {ns : List Int} (ha : EV X Δ false a (.scr ns)) (hl : OV X Δ lo l) (hu : OV X Δ hi u) : EO X Δ (.Subscript a (.Slice lo hi none p2) pos) ((slD ns l u).map D.int) := by
  intro G0 H0 F H σ S Q q
  refine eU (pe_slice sl_list pe_u po_u po_u) (ha G0 H0 F H σ S _ fun v F1 H1 e1 r1 => ?_)
  refine hl G0 H0 F1 H1 σ (S.ext e1) _ fun F2 H2 e2 => hu G0 H0 F2 H2 σ (S.ext (e1.tr e2)) _ fun F3 H3 e3 => ?_
  obtain ⟨p, rfl, g⟩ := r_scr.mp r1
  have e := e1.tr (e2.tr e3)
  have e23 := e2.tr e3
  refine ⟨p, _, rfl, Same.seq e23.h g, fun n nn => ?_⟩
  rw [cut_ints]
  exact q n _ F3 _ (e.tr (Ext.grow e.fh (Sub.new nn))) (e.h.none nn) upd_same (e.fh.none nn) RL.of_ints

/-! fields -/
theorem ev_fld {C : Addr} {fs : List (Str × D)} {f : Str} (ha : EV X Δ m a (.obj C fs)) (c : Cls X.K C) (n : NoAttr X.K C f) (hl : fs.lookup f = some d) (hb : attributeBase a f X.env (eval a X.env) = eval a X.env := by rfl) : EV X Δ m (.Attribute a f pos) d := by
  intro G0 H0 F H σ S Q q
  refine eU (pe_fld pe_u hb) (ha G0 H0 F H σ S _ fun v F' H' e r => ?_)
  obtain ⟨p, dx, vfs, rfl, g, rf⟩ := r_obj.mp r
  obtain ⟨w, e1, e2⟩ := rf.lookup hl
  exact ⟨p, C, dx, vfs, w, rfl, sel_h e.fh _ _ g, c, n, e1, q _ F' H' e e2⟩
end
end Z

namespace Z
open PySem PySem.Spec PyProof.Rows L2

inductive Res where
  | v (d : D) | o (ds : List D)
inductive Out where
  | nx (Δ : List Sl) | rt (r : Res) (Δ : List Sl) | bk (Δ : List Sl) | ct (Δ : List Sl)

def OutOk (K : PySem.W.Frag) (G0 H0 : Hp) (D : Ends) : Out → Prop
  | .nx Δ => ∀ (F H : Hp) (σ : L2.St), Stt K G0 H0 F H σ Δ → D.nx σ H
  | .bk Δ => ∀ (F H : Hp) (σ : L2.St), Stt K G0 H0 F H σ Δ → D.bk σ H
  | .ct Δ => ∀ (F H : Hp) (σ : L2.St), Stt K G0 H0 F H σ Δ → D.ct σ H
  | .rt (.v d) Δ => ∀ (F H : Hp) (σ : L2.St) (v : V), Stt K G0 H0 F H σ Δ → R K F d v → D.rt v H
  | .rt (.o ds) Δ => ∀ (F H : Hp) (σ : L2.St) (p : Addr) (vs : List V), Stt K G0 H0 F H σ Δ → H p = some (.lst vs) → F p = none → H0 p = none → RL K F ds vs → D.rt (.ref p) H

def Sm (X : Cx) (st : Stmt) (Δ : List Sl) (C : Out → Prop) : Prop :=
  ∀ (G0 H0 F H : Hp) (σ : L2.St), Stt X.K G0 H0 F H σ Δ → ∀ D : Ends, (∀ o, C o → OutOk X.K G0 H0 D o) → uS1 X st D σ H
def Bk (X : Cx) (sts : List Stmt) (Δ : List Sl) (C : Out → Prop) : Prop :=
  ∀ (G0 H0 F H : Hp) (σ : L2.St), Stt X.K G0 H0 F H σ Δ → ∀ D : Ends, (∀ o, C o → OutOk X.K G0 H0 D o) → uS X sts D σ H
/-- what a statement must come to, that the rest comes to C -/
def sq (X : Cx) (rest : List Stmt) (C : Out → Prop) : Out → Prop
  | .nx Δ => Bk X rest Δ C
  | o => C o

/-- a test that may change lists of one's own -/
def TS (X : Cx) (Δ : List Sl) (e : Expr) (C : Bool → List Sl → Prop) : Prop :=
  ∀ (G0 H0 F H : Hp) (σ : L2.St), Stt X.K G0 H0 F H σ Δ → ∀ Q : Bool → Hp → Prop, (∀ b Δ' F' H', C b Δ' → Stt X.K G0 H0 F' H' σ Δ' → Q b H') → uT X e σ H Q

section
variable {X : Cx} {Δ : List Sl} {m : Bool} {e a b c : Expr} {es : List Expr} {st : Stmt} {sts rest : List Stmt} {d x y : D} {ds : List D} {pos : Pos} {C C' : Out → Prop}
theorem Sm.mono (h : Sm X st Δ C) (k : ∀ o, C o → C' o) : Sm X st Δ C' := fun G0 H0 F H σ S D q => h G0 H0 F H σ S D fun o c => q o (k o c)
theorem Bk.mono (h : Bk X sts Δ C) (k : ∀ o, C o → C' o) : Bk X sts Δ C' := fun G0 H0 F H σ S D q => h G0 H0 F H σ S D fun o c => q o (k o c)
theorem TV.ts {t : Bool} (h : TV X Δ e t) : TS X Δ e (fun b Δ' => b = t ∧ Δ' = Δ) := fun G0 H0 F H σ S Q q => h G0 H0 F H σ S _ fun F' H' e => q t Δ F' H' ⟨rfl, rfl⟩ (S.ext e)
theorem bk_nil (h : C (.nx Δ)) : Bk X [] Δ C := fun G0 H0 F H σ S D q => sU pss_nil (q _ h F H σ S)
theorem bk_cons (h : Sm X st Δ (sq X rest C)) : Bk X (st :: rest) Δ C := by
  intro G0 H0 F H σ S D q
  refine sU (pss_cons ps_u pss_u) (h G0 H0 F H σ S _ fun o c => ?_)
  cases o with
  | nx Δ' => exact fun F1 H1 σ1 S1 => c G0 H0 F1 H1 σ1 S1 D q
  | bk Δ' => exact q _ c
  | ct Δ' => exact q _ c
  | rt r Δ' => cases r <;> exact q _ c
/-- the state is weakened, a list of one's own frozen -/
theorem bk_frz {i : Nat} (hΔ : Δ[i]? = some (Sl.o ds)) (h : Bk X sts (Δ.set i (.v (.lst ds))) C) : Bk X sts Δ C := by
  intro G0 H0 F H σ S D q
  obtain ⟨F', sF, S'⟩ := S.frz hΔ
  exact h G0 H0 F' H σ S' D q
theorem bk_drop {i : Nat} (h : Bk X sts (Δ.set i .u) C) : Bk X sts Δ C := fun G0 H0 F H σ S D q => h G0 H0 F H σ S.drop D q
theorem Bk.is {Δ' : List Sl} (h : Bk X sts Δ' C) (q : Δ = Δ') : Bk X sts Δ C := q ▸ h

theorem sm_ret (h : EV X Δ true e d) (k : C (.rt (.v d) Δ)) : Sm X (.Return (some e) pos) Δ C := fun G0 H0 F H σ S D q =>
  sU1 (ps_ret pe_u) (h G0 H0 F H σ S _ fun v F' H' e r => q _ k F' H' σ v (S.ext e) r)
theorem sm_reto (h : EO X Δ e ds) (k : C (.rt (.o ds) Δ)) : Sm X (.Return (some e) pos) Δ C := fun G0 H0 F H σ S D q =>
  sU1 (ps_ret pe_u) (h G0 H0 F H σ S _ fun p vs F' H' e n h1 f1 r => q _ k F' H' σ p vs (S.ext e) h1 f1 (S.h0.none n) r)
/-- a list of one's own is handed back -/
theorem sm_reton {i : Nat} {n : Str} {p1 : Pos} (hN : X.N[i]? = some n) (hΔ : Δ[i]? = some (Sl.o ds)) (k : C (.rt (.o ds) (Δ.set i .u))) (hv : Vis X.env.scope n := by first | exact Or.inl rfl | exact Or.inr (Or.inl rfl) | exact Or.inr (Or.inr rfl)) (hd : (n == ("__debug__" : Str)) = false := by decide) (hcd : (n == ("__classdict__" : Str)) = false := by decide) : Sm X (.Return (some (.Name n p1)) pos) Δ C := by
  intro G0 H0 F H σ S D q
  obtain ⟨p, vs, e1, e2, e3, e4, e5⟩ := S.own i ds hΔ
  exact sU1 (ps_ret (pe_var hN hv hd hcd)) ⟨.ref p, e1, q _ k F H σ p vs S.drop e2 e3 e4 e5⟩
theorem sm_retN (k : C (.rt (.v .non) Δ)) : Sm X (.Return none pos) Δ C := fun G0 H0 F H σ S D q => sU1 ps_retN (q _ k F H σ .non S (r_non.mpr rfl))
theorem sm_pass (k : C (.nx Δ)) : Sm X (.Pass pos) Δ C := fun G0 H0 F H σ S D q => sU1 ps_pass (q _ k F H σ S)
theorem sm_break (k : C (.bk Δ)) : Sm X (.Break pos) Δ C := fun G0 H0 F H σ S D q => sU1 ps_break (q _ k F H σ S)
theorem sm_cont (k : C (.ct Δ)) : Sm X (.Continue pos) Δ C := fun G0 H0 F H σ S D q => sU1 ps_continue (q _ k F H σ S)
theorem sm_expr (h : EV X Δ m e d) (k : C (.nx Δ)) (hs : swapsWith e none pos.line X.env = pure false := by rfl) : Sm X (.Expr e pos) Δ C := fun G0 H0 F H σ S D q =>
  sU1 (ps_expr pe_u hs) (h G0 H0 F H σ S _ fun v F' H' e r => q _ k F' H' σ (S.ext e))
theorem sm_set {i : Nat} {n : Str} {p1 : Pos} (hN : X.N.Nodup) (hi : X.N[i]? = some n) (hl : Loc X.env.scope n) (h : EV X Δ true e d) (k : C (.nx (Δ.set i (.v d)))) (hs : swapsWith e (some (.Name n p1)) pos.line X.env = pure false := by rfl) (hf : X.fn n = true ∨ X.env.scope.names.lookup n = some .local := by first | exact .inl rfl | exact .inr rfl) :
    Sm X (.Assign [.Name n p1] e pos) Δ C := fun G0 H0 F H σ S D q =>
  sU1 (ps_set hN hi hl pe_u hs hf) (h G0 H0 F H σ S _ fun v F' H' e r => q _ k F' H' _ ((S.ext e).setv r))
theorem sm_seto {i : Nat} {n : Str} {p1 : Pos} (hN : X.N.Nodup) (hi : X.N[i]? = some n) (hl : Loc X.env.scope n) (h : EO X Δ e ds) (k : C (.nx (Δ.set i (.o ds)))) (hs : swapsWith e (some (.Name n p1)) pos.line X.env = pure false := by rfl) (hf : X.fn n = true ∨ X.env.scope.names.lookup n = some .local := by first | exact .inl rfl | exact .inr rfl) :
    Sm X (.Assign [.Name n p1] e pos) Δ C := fun G0 H0 F H σ S D q =>
  sU1 (ps_set hN hi hl pe_u hs hf) (h G0 H0 F H σ S _ fun p vs F' H' e n1 h1 f1 r => q _ k F' H' _ (S.seto e n1 h1 f1 r))
theorem sm_aug {i : Nat} {n : Str} {p1 : Pos} {u w : Int} (hN : X.N.Nodup) (hi : X.N[i]? = some n) (hl : Loc X.env.scope n) (hΔ : Δ[i]? = some (Sl.v (.int u))) (h : EV X Δ false e (.int w)) (k : C (.nx (Δ.set i (.v (.int (u + w)))))) (hf : X.fn n = true ∨ X.env.scope.names.lookup n = some .local := by first | exact .inl rfl | exact .inr rfl) :
    Sm X (.AugAssign (.Name n p1) .Add e pos) Δ C := by
  intro G0 H0 F H σ S D q
  obtain ⟨x, e1, r⟩ := S.val i _ hΔ
  refine sU1 (ps_aug hN hi hl pe_u ip_add hf) ⟨x, e1, h G0 H0 F H σ S _ fun v F' H' e r2 => ?_⟩
  exact ⟨u, w, r_int.mp r, r_int.mp r2, q _ k F' H' _ ((S.ext e).setv (r_int.mpr rfl))⟩
theorem sm_augm {i : Nat} {n : Str} {p1 : Pos} {u w : Int} (hN : X.N.Nodup) (hi : X.N[i]? = some n) (hl : Loc X.env.scope n) (hΔ : Δ[i]? = some (Sl.v (.int u))) (h : EV X Δ false e (.int w)) (k : C (.nx (Δ.set i (.v (.int (u - w)))))) (hf : X.fn n = true ∨ X.env.scope.names.lookup n = some .local := by first | exact .inl rfl | exact .inr rfl) :
    Sm X (.AugAssign (.Name n p1) .Sub e pos) Δ C := by
  intro G0 H0 F H σ S D q
  obtain ⟨x, e1, r⟩ := S.val i _ hΔ
  refine sU1 (ps_aug hN hi hl pe_u ip_sub hf) ⟨x, e1, h G0 H0 F H σ S _ fun v F' H' e r2 => ?_⟩
  exact ⟨u, w, r_int.mp r, r_int.mp r2, q _ k F' H' _ ((S.ext e).setv (r_int.mpr rfl))⟩
theorem PIp.of {op : Operator} {r : R2} (h : OpR X (inplaceOp op) r) : PIp X op r := h
theorem sm_augx {i : Nat} {n : Str} {p1 : Pos} {u w : Int} (hN : X.N.Nodup) (hi : X.N[i]? = some n) (hl : Loc X.env.scope n) (hΔ : Δ[i]? = some (Sl.v (.int u))) (h : EV X Δ false e (.int w)) (hc : IntMulOk u w) (k : C (.nx (Δ.set i (.v (.int (u * w)))))) (hf : X.fn n = true ∨ X.env.scope.names.lookup n = some .local := by first | exact .inl rfl | exact .inr rfl) :
    Sm X (.AugAssign (.Name n p1) .Mult e pos) Δ C := by
  intro G0 H0 F H σ S D q
  obtain ⟨x, e1, r⟩ := S.val i _ hΔ
  refine sU1 (ps_aug hN hi hl pe_u (PIp.of (opI (C := IntMulOk) fun _ _ _ _ _ _ _ hc q => imul_int q hc)) hf) ⟨x, e1, h G0 H0 F H σ S _ fun v F' H' e r2 => ?_⟩
  exact ⟨u, w, r_int.mp r, r_int.mp r2, hc, q _ k F' H' _ ((S.ext e).setv (r_int.mpr rfl))⟩
/-- x.append(e) -/
theorem sm_append {i : Nat} {n : Str} {p1 p2 p3 : Pos} (hN : X.N[i]? = some n) (hΔ : Δ[i]? = some (Sl.o ds)) (h : EV X Δ true e d) (hl : ds.length < sizeLine) (k : C (.nx (Δ.set i (.o (ds ++ [d]))))) (hv : Vis X.env.scope n := by first | exact Or.inl rfl | exact Or.inr (Or.inl rfl) | exact Or.inr (Or.inr rfl))
    (hd : (n == ("__debug__" : Str)) = false := by decide) (hcd : (n == ("__classdict__" : Str)) = false := by decide)
    (hb : attributeBase (.Name n p1) "append" X.env (eval (.Name n p1) X.env) = eval (.Name n p1) X.env := by rfl) (hlin : (p2.endLine == p3.line) = true := by rfl)
    (hst : starEach [e] X.env = (false, eval e X.env) :: starEach [] X.env := by rfl) (hpl : (backTo p3 (starEach ([] : List Expr) X.env)).any (·.1) = false := by rfl) (hfew : ((((backTo p3 (starEach [e] X.env)).all fun x => !x.fst) && (backToKw p3 (keywordEach [] X.env)).all fun x => x.fst.isSome) && decide (([e].length + ([] : List Keyword).length + if ([] : List Keyword).isEmpty = true then 0 else 1) < 30)) = true := by rfl) (hs : swapsWith (.Call (.Attribute (.Name n p1) "append" p2) [e] [] p3) none pos.line X.env = pure false := by rfl) :
    Sm X (.Expr (.Call (.Attribute (.Name n p1) "append" p2) [e] [] p3) pos) Δ C := by
  intro G0 H0 F H σ S D q
  obtain ⟨p, vs, e1, e2, e3, e4, e5⟩ := S.own i ds hΔ
  refine sU1 (ps_expr (pe_bm (hbase := hb) (hfew := hfew) (hline := hlin) (hs := hst) (hplain := hpl) PySem.F.plainAttrs_list PySem.F.slot_list_append PySem.F.type_list_append mt_append (pe_var hN hv hd hcd) (pa_cons pe_u pa_nil hst)) hs) ?_
  refine ⟨.ref p, e1, .inl ⟨rfl, _, SqL.of e2⟩, h G0 H0 F H σ S _ fun v F' H' x r => ?_⟩
  have S' := S.ext x
  refine ⟨p, vs, v, rfl, rfl, x.h _ _ e2, by rw [e5.length]; exact hl, ?_⟩
  exact q _ k F' _ σ (S'.chg hΔ e1 ((RL.mono x.f _ _ e5).append (RL.cons r RL.nil)))
/-- x[j] = e -/
theorem sm_seti {i j : Nat} {n : Str} {p1 p2 : Pos} {z : Int} (hN : X.N[i]? = some n) (hΔ : Δ[i]? = some (Sl.o ds)) (h : EV X Δ true e d) (hj : EV X Δ false a (.int z)) (hz : ixN ds.length z = some j) (k : C (.nx (Δ.set i (.o (ds.set j d))))) (hv : Vis X.env.scope n := by first | exact Or.inl rfl | exact Or.inr (Or.inl rfl) | exact Or.inr (Or.inr rfl))
    (hd : (n == ("__debug__" : Str)) = false := by decide) (hcd : (n == ("__classdict__" : Str)) = false := by decide)
    (hs : swapsWithSole [.Subscript (.Name n p1) a p2] e pos.line X.env = pure false := by rfl) (hw : swappedStores [.Subscript (.Name n p1) a p2] e X.env = pure none := by rfl)
    (h1 : (assignEach [.Subscript (.Name n p1) a p2] X.env).map (·.2) = [assign (.Subscript (.Name n p1) a p2) X.env] := by rfl)
    (ha : ∀ v, assign (.Subscript (.Name n p1) a p2) X.env v = (do
      let ov ← holding [v] (eval (.Name n p1) X.env)
      let iv ← holding [v, ov] (eval a X.env)
      standAt p2
      holding [v, ov, iv] (setItem ov iv v)
      release [v, ov, iv] []) := by intro _; rfl) : Sm X (.Assign [.Subscript (.Name n p1) a p2] e pos) Δ C := by
  intro G0 H0 F H σ S D q
  refine sU1 (ps_asg pe_u (pg_sub (pe_var hN hv hd hcd) pe_u set_list ha) hs hw h1) ?_
  refine h G0 H0 F H σ S _ fun v F1 H1 x1 r1 => ?_
  have S1 := S.ext x1
  obtain ⟨p, vs, e1, e2, e3, e4, e5⟩ := S1.own i ds hΔ
  refine ⟨.ref p, e1, hj G0 H0 F1 H1 σ S1 _ fun w F2 H2 x2 r2 => ?_⟩
  have S2 := S1.ext x2
  refine ⟨p, vs, z, j, rfl, r_int.mp r2, x2.h _ _ e2, by rw [e5.length]; exact hz, ?_⟩
  exact q _ k F2 _ σ (S2.chg hΔ e1 (RL.set j (RL.mono x2.f _ _ e5) (r1.mono x2.f)))
theorem sm_if {c : Expr} {t u : List Stmt} {bb : Bool} (h : TV X Δ c bb) (k1 : bb = true → Bk X t Δ C) (k2 : bb = false → Bk X u Δ C) : Sm X (.If c t u pos) Δ C := by
  intro G0 H0 F H σ S D q
  refine sU1 (ps_if pt_u pss_u pss_u) (h G0 H0 F H σ S _ fun F' H' e => ?_)
  cases bb with
  | true => rw [if_pos rfl]; exact k1 rfl G0 H0 F' H' σ (S.ext e) D q
  | false => rw [if_neg Bool.false_ne_true]; exact k2 rfl G0 H0 F' H' σ (S.ext e) D q
theorem sm_ifs {c : Expr} {t u : List Stmt} {C2 : Bool → List Sl → Prop} (h : TS X Δ c C2) (k1 : ∀ Δ', C2 true Δ' → Bk X t Δ' C) (k2 : ∀ Δ', C2 false Δ' → Bk X u Δ' C) : Sm X (.If c t u pos) Δ C := by
  intro G0 H0 F H σ S D q
  refine sU1 (ps_if pt_u pss_u pss_u) (h G0 H0 F H σ S _ fun bb Δ' F' H' c S' => ?_)
  cases bb with
  | true => rw [if_pos rfl]; exact k1 _ c G0 H0 F' H' σ S' D q
  | false => rw [if_neg Bool.false_ne_true]; exact k2 _ c G0 H0 F' H' σ S' D q
theorem ts_not {C2 : Bool → List Sl → Prop} (h : TS X Δ a (fun b Δ' => C2 (!b) Δ')) : TS X Δ (.UnaryOp .Not a pos) C2 := fun G0 H0 F H σ S Q q => tU (pt_not pt_u) (h G0 H0 F H σ S _ fun b Δ' F' H' c S' => q _ Δ' F' H' c S')
/-- a and b, b may change lists of one's own -/
theorem ts_and {C2 : Bool → List Sl → Prop} {t : Bool} (h : TV X Δ a t) (k1 : t = false → C2 false Δ) (k2 : t = true → TS X Δ b C2) : TS X Δ (.BoolOp .And [a, b] pos) C2 := by
  intro G0 H0 F H σ S Q q
  refine tU (PW.pt (pw_and pt_u (pw_and1 pt_u))) (h G0 H0 F H σ S _ fun F' H' e => ?_)
  cases t with
  | true => rw [if_pos rfl]; exact k2 rfl G0 H0 F' H' σ (S.ext e) Q q
  | false => rw [if_neg Bool.false_ne_true]; exact q false Δ F' H' (k1 rfl) (S.ext e)

/-! targets -/
structure uG (X : Cx) (tg : Expr) (v : V) (σ : L2.St) (H : Hp) (Q : L2.St → Hp → Prop) : Prop where
  run : ∀ (pins : List (Addr × Obj)) (s : Shared) (u : Value), Inv X pins σ H s → RelV v u →
    wpAny (model X.prog X.w) X.A (assign tg X.env u) (fun _ s' => ∃ σ' H', Inv X pins σ' H' s' ∧ Q σ' H') X.xe s
theorem pg_u {tg : Expr} : PG X tg (uG X tg) := ⟨fun pins s σ H v u Q I r h => h.run pins s u I r⟩
theorem gU {tg : Expr} {t : TG} (h : PG X tg t) {v : V} {σ : L2.St} {H : Hp} {Q : L2.St → Hp → Prop} (q : t v σ H Q) : uG X tg v σ H Q := ⟨fun pins s u I r => h.run pins s σ H v u Q I r q⟩
/-- the slots but those at is stay -/
def Off (is : List Nat) (σ σ' : L2.St) : Prop := σ'.length = σ.length ∧ ∀ j : Nat, j ∉ is → σ'[j]? = σ[j]?
theorem Off.rf (is : List Nat) (σ : L2.St) : Off is σ σ := ⟨rfl, fun _ _ => rfl⟩
theorem Off.set (i : Nat) (σ : L2.St) (x : Option V) : Off [i] σ (σ.set i x) := ⟨List.length_set, fun j h => List.getElem?_set_ne (fun e => h (by rw [e]; exact List.mem_cons_self))⟩
theorem Off.tr {is js : List Nat} {σ σ1 σ2 : L2.St} (a : Off is σ σ1) (b : Off js σ1 σ2) : Off (is ++ js) σ σ2 := ⟨b.1.trans a.1, fun j h => (b.2 j fun z => h (List.mem_append_right _ z)).trans (a.2 j fun z => h (List.mem_append_left _ z))⟩
def GV (X : Cx) (is : List Nat) (tg : Expr) (d : D) (Δ Δ' : List Sl) : Prop :=
  ∀ (G0 H0 F H : Hp) (σ : L2.St) (v : V), Stt X.K G0 H0 F H σ Δ → R X.K F d v → ∀ Q : L2.St → Hp → Prop, (∀ σ', Off is σ σ' → Stt X.K G0 H0 F H σ' Δ' → Q σ' H) → uG X tg v σ H Q
def GVs (X : Cx) (is : List Nat) (ts : List Expr) (ds : List D) (Δ Δ' : List Sl) : Prop :=
  ∀ (G0 H0 F H : Hp) (σ : L2.St) (vs : List V), Stt X.K G0 H0 F H σ Δ → RL X.K F ds vs → ∃ t : TGs, PGs X ts t ∧ ∀ Q : L2.St → Hp → Prop, (∀ σ', Off is σ σ' → Stt X.K G0 H0 F H σ' Δ' → Q σ' H) → t vs σ H Q
theorem gv_name {i : Nat} {n : Str} (hN : X.N.Nodup) (hi : X.N[i]? = some n) (hl : Loc X.env.scope n) (hf : X.fn n = true ∨ X.env.scope.names.lookup n = some .local := by first | exact .inl rfl | exact .inr rfl) : GV X [i] (.Name n pos) d Δ (Δ.set i (.v d)) :=
  fun G0 H0 F H σ v S r Q q => gU (pg_name hN hi hl hf) (q _ (Off.set _ _ _) (S.setv r))
theorem gvs_nil : GVs X [] [] [] Δ Δ := fun G0 H0 F H σ vs S r => ⟨_, pgs_nil, fun Q q => ⟨rl_nil.mp r, q σ (Off.rf _ _) S⟩⟩
theorem gvs_cons {is js : List Nat} {tg : Expr} {ts : List Expr} {Δ1 Δ2 : List Sl} (h : GV X is tg d Δ Δ1) (k : GVs X js ts ds Δ1 Δ2) (hs : (assignEach (tg :: ts) X.env).map (·.2) = assign tg X.env :: (assignEach ts X.env).map (·.2) := by rfl) : GVs X (is ++ js) (tg :: ts) (d :: ds) Δ Δ2 := by
  intro G0 H0 F H σ vs S r
  obtain ⟨v, vs', rfl, r1, r2⟩ := rl_cons.mp r
  refine ⟨_, pgs_cons pg_u (t := uG X tg) (u := fun vs σ H Q => ∃ t, PGs X ts t ∧ t vs σ H Q) ⟨fun pins s σ H vs us Q I rr h => ?_⟩ hs, fun Q q => ⟨v, vs', rfl, h G0 H0 F H σ v S r1 _ fun σ1 o1 S1 => ?_⟩⟩
  · obtain ⟨t, p, h⟩ := h
    exact p.run pins s σ H vs us Q I rr h
  · obtain ⟨t, p, g⟩ := k G0 H0 F H σ1 vs' S1 r2
    exact ⟨t, p, g Q fun σ2 o2 S2 => q σ2 (o1.tr o2) S2⟩
theorem gv_tup {is : List Nat} {ts : List Expr} {kk : Nat} {Δ' : List Sl} (h : GVs X is ts ds Δ Δ') (hc : X.calm = true := by rfl) (hl : (assignEach ts X.env).length = ds.length := by rfl) (hst : (assignEach ts X.env).findIdx? (·.1) = none := by rfl) : GV X is (.Tuple ts kk pos) (.tup ds) Δ Δ' := by
  intro G0 H0 F H σ v S r Q q
  obtain ⟨p, vs, rfl, g, rl⟩ := r_tup.mp r
  obtain ⟨t, pg, k⟩ := h G0 H0 F H σ vs S rl
  exact gU (pg_tup hc pg hl hst) ⟨p, vs, rfl, SqT.of (S.fh _ _ g), rl.length, k Q q⟩
theorem gv_lst {is : List Nat} {ts : List Expr} {kk : Nat} {Δ' : List Sl} (h : GVs X is ts ds Δ Δ') (hc : X.calm = true := by rfl) (hl : (assignEach ts X.env).length = ds.length := by rfl) (hst : (assignEach ts X.env).findIdx? (·.1) = none := by rfl) : GV X is (.Tuple ts kk pos) (.lst ds) Δ Δ' := by
  intro G0 H0 F H σ v S r Q q
  obtain ⟨p, vs, rfl, g, rl⟩ := r_lst.mp r
  obtain ⟨t, pg, k⟩ := h G0 H0 F H σ vs S rl
  exact gU (pg_lst hc pg hl hst) ⟨p, vs, rfl, SqL.of (S.fh _ _ g), rl.length, k Q q⟩
/-- target = e, any target -/
theorem sm_asg {is : List Nat} {tg : Expr} {Δ' : List Sl} (h : EV X Δ true e d) (g : GV X is tg d Δ Δ') (k : C (.nx Δ')) (hs : swapsWithSole [tg] e pos.line X.env = pure false := by rfl) (hw : swappedStores [tg] e X.env = pure none := by rfl)
    (h1 : (assignEach [tg] X.env).map (·.2) = [assign tg X.env] := by rfl) : Sm X (.Assign [tg] e pos) Δ C := fun G0 H0 F H σ S D q =>
  sU1 (ps_asg pe_u pg_u hs hw h1) (h G0 H0 F H σ S _ fun v F' H' e r => g G0 H0 F' H' σ v (S.ext e) r _ fun σ' _ S' => q _ k F' H' σ' S')

/-! what is walked -/
/-- n turns over items ds, from (F, H) on -/
structure Wk (K : PySem.W.Frag) (F : Hp) (J : It) (ds : List D) : Prop where
  go : ∀ (i : Nat) H, i < ds.length → Sub F H → J.go i H
  stop : ∀ H, Sub F H → J.stop ds.length H
  yld : ∀ (i : Nat) (d : D) H x H' F2, ds[i]? = some d → Sub F F2 → Sub F2 H → J.yld i H x H' → ∃ F3, Ext F2 H F3 H' ∧ R K F3 d x
structure uI (X : Cx) (tg iter : Expr) (σ : L2.St) (H : Hp) (R' : It → Hp → Prop) : Prop where
  run : ∀ (pins : List (Addr × Obj)) (s : Shared), Inv X pins σ H s →
    wpAny (model X.prog X.w) X.A (eval iter X.env) (fun v s1 => wpAny (model X.prog X.w) X.A (pyIter v) (PIE X pins σ tg R') X.xe s1) X.xe s
theorem pi_u {tg iter : Expr} : PI X tg iter (uI X tg iter) := ⟨fun pins s σ H R' I h => h.run pins s I⟩
theorem iU {tg iter : Expr} {t : TI} (h : PI X tg iter t) {σ : L2.St} {H : Hp} {R' : It → Hp → Prop} (q : t σ H R') : uI X tg iter σ H R' := ⟨fun pins s I => h.run pins s σ H R' I q⟩
def IT (X : Cx) (Δ : List Sl) (tg iter : Expr) (ds : List D) : Prop :=
  ∀ (G0 H0 F H : Hp) (σ : L2.St), Stt X.K G0 H0 F H σ Δ → ∀ R' : It → Hp → Prop, (∀ J F' H', Ext F H F' H' → Wk X.K F' J ds → R' J H') → uI X tg iter σ H R'
theorem it_list {tg : Expr} (h : EV X Δ true e (.lst ds)) : IT X Δ tg e ds := by
  intro G0 H0 F H σ S R' q
  refine iU (pi_list pe_u) (h G0 H0 F H σ S _ fun v F' H' x r => ?_)
  obtain ⟨p, vs, rfl, g, l⟩ := r_lst.mp r
  have g' : F' p = some (.lst vs) := g
  refine ⟨p, rfl, ⟨vs, SqL.of (x.fh _ _ g')⟩, q _ F' H' x ⟨fun i H2 hi s => ?_, fun H2 s => ?_, fun i d H2 y H3 F2 hd s1 s2 yl => ?_⟩⟩
  · have hi' : i < vs.length := by rw [l.length]; exact hi
    exact ⟨vs, vs[i], SqL.of (s _ _ g'), by simp [hi']⟩
  · exact ⟨vs, SqL.of (s _ _ g'), by rw [l.length]; exact Nat.le_refl _⟩
  · obtain ⟨rfl, yl⟩ := yl
    obtain ⟨w, e1, e2⟩ := l.get hd
    have e3 := yl vs (SqL.of (s2 _ _ (s1 _ _ g')))
    rw [e1] at e3; cases e3
    exact ⟨F2, Ext.rf s2, R.mono (show Sub F' F2 from s1) _ _ e2⟩
theorem it_tup {tg : Expr} (h : EV X Δ true e (.tup ds)) : IT X Δ tg e ds := by
  intro G0 H0 F H σ S R' q
  refine iU (pi_tup pe_u) (h G0 H0 F H σ S _ fun v F' H' x r => ?_)
  obtain ⟨p, vs, rfl, g, l⟩ := r_tup.mp r
  have g' : F' p = some (.tup vs) := g
  refine ⟨p, rfl, ⟨vs, SqT.of (x.fh _ _ g')⟩, q _ F' H' x ⟨fun i H2 hi s => ?_, fun H2 s => ?_, fun i d H2 y H3 F2 hd s1 s2 yl => ?_⟩⟩
  · have hi' : i < vs.length := by rw [l.length]; exact hi
    exact ⟨vs, vs[i], SqT.of (s _ _ g'), by simp [hi']⟩
  · exact ⟨vs, SqT.of (s _ _ g'), by rw [l.length]; exact Nat.le_refl _⟩
  · obtain ⟨rfl, yl⟩ := yl
    obtain ⟨w, e1, e2⟩ := l.get hd
    have e3 := yl vs (SqT.of (s2 _ _ (s1 _ _ g')))
    rw [e1] at e3; cases e3
    exact ⟨F2, Ext.rf s2, R.mono (show Sub F' F2 from s1) _ _ e2⟩
theorem it_scr {tg : Expr} {ns : List Int} (h : EV X Δ true e (.scr ns)) : IT X Δ tg e (ns.map D.int) := by
  intro G0 H0 F H σ S R' q
  refine iU (pi_list pe_u) (h G0 H0 F H σ S _ fun v F' H' x r => ?_)
  obtain ⟨p, rfl, g⟩ := r_scr.mp r
  have g' : SqL X.K F' p (ns.map V.int) := g
  refine ⟨p, rfl, ⟨_, Same.seq x.fh g'⟩, q _ F' H' x ⟨fun i H2 hi s => ?_, fun H2 s => ?_, fun i d H2 y H3 F2 hd s1 s2 yl => ?_⟩⟩
  · have hi' : i < (ns.map V.int).length := by rw [List.length_map] at hi ⊢; exact hi
    exact ⟨_, (ns.map V.int)[i], Same.seq s g', List.getElem?_eq_getElem hi'⟩
  · exact ⟨_, Same.seq s g', by rw [List.length_map, List.length_map]; exact Nat.le_refl _⟩
  · obtain ⟨rfl, yl⟩ := yl
    have e3 := yl _ (Same.seq (s1.tr s2) g')
    rw [List.getElem?_map] at hd e3
    cases z : ns[i]? with
    | none => rw [z] at hd; cases hd
    | some w =>
      rw [z] at hd e3
      cases hd; cases e3
      exact ⟨F2, Ext.rf s2, r_int.mpr rfl⟩
def rngD (lo : Int) (n : Nat) : List D := (List.range n).map fun i => D.int (lo + (i : Nat))
theorem rngD_get {lo : Int} {n i : Nat} {d : D} (h : (rngD lo n)[i]? = some d) : i < n ∧ d = .int (lo + (i : Nat)) := by
  unfold rngD at h
  rw [List.getElem?_map] at h
  by_cases hi : i < n
  · rw [List.getElem?_range hi] at h; cases h; exact ⟨hi, rfl⟩
  · rw [List.getElem?_eq_none (by rw [List.length_range]; omega)] at h; cases h
theorem rngD_len (lo : Int) (n : Nat) : (rngD lo n).length = n := by simp [rngD]
theorem wk_rng {K : PySem.W.Frag} {F : Hp} (lo : Int) (n : Nat) : Wk K F (Itr lo n) (rngD lo n) := by
  refine ⟨fun i H2 hi s => by rw [rngD_len] at hi; exact hi, fun H2 s => by rw [rngD_len]; exact Nat.le_refl _, fun i d H2 y H3 F2 hd s1 s2 yl => ?_⟩
  obtain ⟨rfl, rfl⟩ := yl
  obtain ⟨_, rfl⟩ := rngD_get hd
  exact ⟨F2, Ext.rf s2, r_int.mpr rfl⟩
theorem it_range1 {tg : Expr} {p : Pos} {n : Int} (hg : Gl X "range") (hm : X.mg "range" = none) (h : EV X Δ false a (.int n)) (h1 : -(2 ^ 62) ≤ n) (h2 : n < 2 ^ 62) (hs : starEach [a] X.env = [(false, eval a X.env)] := by rfl) : IT X Δ tg (.Call (.Name "range" p) [a] [] pos) (rngD 0 n.toNat) := by
  intro G0 H0 F H σ S R' q
  refine iU (pi_range1 hg hm (pa_cons pe_u pa_nil hs) hs) (h G0 H0 F H σ S _ fun v F' H' x r => ?_)
  exact ⟨n, by rw [r_int.mp r], h1, h2, q _ F' H' x (wk_rng 0 _)⟩
theorem it_range2 {tg : Expr} {p : Pos} {n k : Int} (hg : Gl X "range") (hm : X.mg "range" = none) (h : EV X Δ false a (.int n)) (h' : EV X Δ false b (.int k)) (h1 : -(2 ^ 62) ≤ n) (h2 : n < 2 ^ 62) (h3 : -(2 ^ 62) ≤ k) (h4 : k < 2 ^ 62)
    (hs : starEach [a, b] X.env = [(false, eval a X.env), (false, eval b X.env)] := by rfl) (hs2 : starEach [b] X.env = [(false, eval b X.env)] := by rfl) : IT X Δ tg (.Call (.Name "range" p) [a, b] [] pos) (rngD n (k - n).toNat) := by
  intro G0 H0 F H σ S R' q
  refine iU (pi_range2 hg hm (pa_cons pe_u (pa_cons pe_u pa_nil hs2) (by rw [hs, hs2])) hs hs2) (two h h' S fun v w F' H' x r1 r2 => ?_)
  exact ⟨n, k, by rw [r_int.mp r1, r_int.mp r2], ⟨h1, h2, h3, h4⟩, q _ F' H' x (wk_rng n _)⟩
theorem wk_pair {K : PySem.W.Frag} {F F2 H H' : Hp} {v : V} {T : Addr} {x y : V} {d1 d2 : D} (s2 : Sub F2 H) (hT : H T = none) (e : H' = upd H T (.tup [x, y])) (ev : v = .ref T) (r1 : R K F2 d1 x) (r2 : R K F2 d2 y) : ∃ F3, Ext F2 H F3 H' ∧ R K F3 (.tup [d1, d2]) v := by
  subst e ev
  refine ⟨upd F2 T (.tup [x, y]), Ext.put s2 hT, r_tup.mpr ⟨T, _, rfl, upd_same, ?_⟩⟩
  have sb : Sub F2 (upd F2 T (.tup [x, y])) := Sub.new (s2.none hT)
  exact RL.cons (r1.mono sb) (RL.cons (r2.mono sb) RL.nil)
def enumD (ds : List D) : List D := ds.zipIdx.map fun p => D.tup [.int (p.2 : Nat), p.1]
theorem enumD_len (ds : List D) : (enumD ds).length = ds.length := by simp [enumD]
theorem enumD_get {ds : List D} {i : Nat} {d : D} (h : (enumD ds)[i]? = some d) : ∃ d', ds[i]? = some d' ∧ d = .tup [.int (i : Nat), d'] := by
  unfold enumD at h
  rw [List.getElem?_map, List.getElem?_zipIdx] at h
  cases z : ds[i]? with
  | none => rw [z] at h; cases h
  | some w => rw [z] at h; simp at h; exact ⟨w, rfl, h.symm⟩
theorem it_enum {elts : List Expr} {kk : Nat} {tpos p : Pos} (hg : Gl X "enumerate") (hm : X.mg "enumerate" = none) (h : EV X Δ true a (.lst ds)) (hs : starEach [a] X.env = [(false, eval a X.env)] := by rfl) : IT X Δ (.Tuple elts kk tpos) (.Call (.Name "enumerate" p) [a] [] pos) (enumD ds) := by
  intro G0 H0 F H σ S R' q
  refine iU (pi_enum hg hm (pa_cons pe_u pa_nil hs) hs) (h G0 H0 F H σ S _ fun v F' H' x r => ?_)
  obtain ⟨ad, vs, rfl, g, l⟩ := r_lst.mp r
  have g' : F' ad = some (.lst vs) := g
  have W := walk_enum (K := X.K) (a := ad) (xs := vs)
  refine ⟨ad, vs, rfl, SqL.of (x.fh _ _ g'), q _ F' H' x ⟨fun i H2 hi s => ?_, fun H2 s => ?_, fun i d H2 y H3 F2 hd s1 s2 yl => ?_⟩⟩
  · exact W.goes i H2 (by rw [enumD_len] at hi; rw [l.length]; exact hi) (SqL.of (s _ _ g'))
  · have := W.stops H2 (SqL.of (s _ _ g'))
    rw [enumD_len, ← l.length]; exact this
  · obtain ⟨d', e1, rfl⟩ := enumD_get hd
    have hi : i < vs.length := by rw [l.length]; exact (List.getElem?_eq_some_iff.mp e1).1
    obtain ⟨T, x1, y1, ev, hT, eH, f1, f2⟩ := W.yields i H2 y H3 hi (SqL.of (s2 _ _ (s1 _ _ g'))) yl
    cases f1
    obtain ⟨w, g1, g2⟩ := l.get e1
    have f2 : vs[i]? = some y1 := f2
    rw [g1] at f2; cases f2
    exact wk_pair (F := F') s2 hT eH ev (r_int.mpr rfl) (R.mono (show Sub F' F2 from s1) _ _ g2)
def zipD (ds es : List D) : List D := (ds.zip es).map fun p => D.tup [p.1, p.2]
theorem zipD_len (ds es : List D) : (zipD ds es).length = min ds.length es.length := by simp [zipD]
theorem zipD_get {ds es : List D} {i : Nat} {d : D} (h : (zipD ds es)[i]? = some d) : ∃ d1 d2, ds[i]? = some d1 ∧ es[i]? = some d2 ∧ d = .tup [d1, d2] := by
  unfold zipD at h
  rw [List.getElem?_map] at h
  cases z : (ds.zip es)[i]? with
  | none => rw [z] at h; cases h
  | some w =>
    rw [z] at h; simp at h
    rw [List.getElem?_zip_eq_some] at z
    exact ⟨w.1, w.2, z.1, z.2, h.symm⟩
theorem it_zip {elts : List Expr} {kk : Nat} {tpos p : Pos} {es : List D} (hg : Gl X "zip") (hm : X.mg "zip" = none) (h : EV X Δ true a (.lst ds)) (h' : EV X Δ true b (.lst es)) (hs : starEach [a, b] X.env = (false, eval a X.env) :: starEach [b] X.env := by rfl) (hs2 : starEach [b] X.env = [(false, eval b X.env)] := by rfl) (hpl : (backTo pos (starEach [b] X.env)).any (·.1) = false := by rfl) : IT X Δ (.Tuple elts kk tpos) (.Call (.Name "zip" p) [a, b] [] pos) (zipD ds es) := by
  intro G0 H0 F H σ S R' q
  refine iU (pi_zip hg hm (pa_cons pe_u (pa_cons pe_u pa_nil hs2) hs) hs hpl) (two h h' S fun v w F' H' x r1 r2 => ?_)
  obtain ⟨a1, vs, rfl, g, l⟩ := r_lst.mp r1
  obtain ⟨a2, ws, rfl, g2, l2⟩ := r_lst.mp r2
  have g' : F' a1 = some (.lst vs) := g
  have g2' : F' a2 = some (.lst ws) := g2
  have W := walk_zip (K := X.K) (a := a1) (b := a2) (xs := vs) (ys := ws) rfl
  have en : min vs.length ws.length = (zipD ds es).length := by rw [zipD_len, l.length, l2.length]
  refine ⟨a1, a2, vs, ws, rfl, SqL.of (x.fh _ _ g'), SqL.of (x.fh _ _ g2'), q _ F' H' x ⟨fun i H2 hi s => ?_, fun H2 s => ?_, fun i d H2 y H3 F2 hd s1 s2 yl => ?_⟩⟩
  · exact W.goes i H2 (by rw [en]; exact hi) ⟨SqL.of (s _ _ g'), SqL.of (s _ _ g2')⟩
  · have := W.stops H2 ⟨SqL.of (s _ _ g'), SqL.of (s _ _ g2')⟩
    rw [← en]; exact this
  · have hi : i < min vs.length ws.length := by rw [en]; exact (List.getElem?_eq_some_iff.mp hd).1
    obtain ⟨d1, d2, e1, e2, rfl⟩ := zipD_get hd
    obtain ⟨T, x1, y1, ev, hT, eH, f1, f2⟩ := W.yields i H2 y H3 hi ⟨SqL.of (s2 _ _ (s1 _ _ g')), SqL.of (s2 _ _ (s1 _ _ g2'))⟩ yl
    obtain ⟨w1, k1, k2⟩ := l.get e1
    obtain ⟨w2, k3, k4⟩ := l2.get e2
    have f1 : vs[i]? = some x1 := f1
    have f2 : ws[i]? = some y1 := f2
    rw [k1] at f1; cases f1
    rw [k3] at f2; cases f2
    exact wk_pair (F := F') s2 hT eH ev (R.mono (show Sub F' F2 from s1) _ _ k2) (R.mono (show Sub F' F2 from s1) _ _ k4)
/-- a text's signs -/
def sgnD (z : Str) : List D := z.cps.toList.map fun c => D.str ⟨#[c]⟩
theorem it_str {tg : Expr} {z : Str} (h : EV X Δ false e (.str z)) : IT X Δ tg e (sgnD z) := by
  intro G0 H0 F H σ S R' q
  refine iU (pi_str pe_u) (h G0 H0 F H σ S _ fun v F' H' x r => ?_)
  refine ⟨z, r_str.mp r, q _ F' H' x ⟨fun i H2 hi s => by show i < z.cps.size; simpa [sgnD] using hi, fun H2 s => by show z.cps.size ≤ _; simp [sgnD], fun i d H2 y H3 F2 hd s1 s2 yl => ?_⟩⟩
  obtain ⟨rfl, c, e1, rfl⟩ := yl
  unfold sgnD at hd
  rw [List.getElem?_map, Array.getElem?_toList, e1] at hd
  cases hd
  exact ⟨F2, Ext.rf s2, r_str.mpr rfl⟩

/-! loops -/
theorem Stt.back {K : PySem.W.Frag} {G0 H0 F H F1 H1 : Hp} {σ σ1 : L2.St} {Δ Δ1 : List Sl} (S : Stt K G0 H0 F H σ Δ) (T : Stt K F H0 F1 H1 σ1 Δ1) : Stt K G0 H0 F1 H1 σ1 Δ1 :=
  ⟨S.g.tr T.g, T.fh, T.h0, fun a o e => (T.fr a o e).elim (S.fr a o) .inr, T.len, T.val, T.own, T.dis⟩
theorem OutOk.fwd {K : PySem.W.Frag} {G0 H0 F H : Hp} {σ : L2.St} {Δ : List Sl} {D : Ends} (S : Stt K G0 H0 F H σ Δ) {o : Out} (h : OutOk K G0 H0 D o) : OutOk K F H0 D o := by
  cases o with
  | nx Δ' => exact fun F1 H1 σ1 T => h F1 H1 σ1 (S.back T)
  | bk Δ' => exact fun F1 H1 σ1 T => h F1 H1 σ1 (S.back T)
  | ct Δ' => exact fun F1 H1 σ1 T => h F1 H1 σ1 (S.back T)
  | rt r Δ' =>
    cases r with
    | v d => exact fun F1 H1 σ1 v T => h F1 H1 σ1 v (S.back T)
    | o ds => exact fun F1 H1 σ1 p vs T => h F1 H1 σ1 p vs (S.back T)
theorem Stt.self {K : PySem.W.Frag} {G0 H0 F H : Hp} {σ : L2.St} {Δ : List Sl} (S : Stt K G0 H0 F H σ Δ) : Stt K F H0 F H σ Δ := ⟨Sub.rf _, S.fh, S.h0, fun _ _ e => .inl e, S.len, S.val, S.own, S.dis⟩
/-- what a turn must come to -/
def turn (C : Out → Prop) (I : List Sl → Prop) : Out → Prop
  | .nx Δ => I Δ | .ct Δ => I Δ | .bk Δ => C (.nx Δ) | .rt r Δ => C (.rt r Δ)
theorem sm_for {tg iter : Expr} {body : List Stmt} (hi : IT X Δ tg iter ds) (I : Nat → List Sl → Prop) (h0 : I 0 Δ)
    (hs : ∀ (i : Nat) d Δi, ds[i]? = some d → I i Δi → ∃ is Δ', GV X is tg d Δi Δ' ∧ Bk X body Δ' (turn C (I (i + 1)))) (hd : ∀ Δn, I ds.length Δn → C (.nx Δn))
    (hp : PassesOwn (model X.prog X.w) X.A X.env X.xe := by exact PassesOwn.never) (hc : X.calm = true := by rfl) (hf : ∀ x, foldedSetIterable iter X.env x = pure x := by intro _; rfl) : Sm X (.For tg iter body [] pos) Δ C := by
  intro G0 H0 F H σ S D q
  refine sU1 (ps_for hp hc pi_u pg_u pss_u hf) (hi G0 H0 F H σ S _ fun J F' H' x W => ?_)
  have S1 := S.ext x
  refine for_it (J := J) (n := ds.length) (G := Sub F') (Y := J.yld) ⟨fun i H hi s => W.go i H hi s, fun H s => W.stop H s, fun i H x H' hi s y => y⟩
    (fun i σ H => ∃ F2 Δ2, I i Δ2 ∧ Stt X.K F' H0 F2 H σ Δ2) ⟨F', Δ, h0, S1.self⟩ (fun i σ H _ ⟨F2, Δ2, _, T⟩ => T.g.tr T.fh) (fun i v σ H H2 hil ⟨F2, Δ2, hI, T⟩ y => ?_) (fun σ H ⟨F2, Δ2, hI, T⟩ => q _ (hd Δ2 hI) F2 H σ (S1.back T))
  have hd' : ds[i]? = some ds[i] := List.getElem?_eq_getElem hil
  obtain ⟨is, Δ', g, b⟩ := hs i _ Δ2 hd' hI
  obtain ⟨F3, e3, r3⟩ := W.yld i _ H v H2 F2 hd' T.g T.fh y
  refine g F' H0 F3 H2 σ v (T.ext e3) r3 _ fun σ' _ T' => ?_
  refine b F' H0 F3 H2 σ' T' _ fun o ho => ?_
  cases o with
  | nx Δ4 => exact fun F5 H5 σ5 T5 => ⟨F5, Δ4, ho, T5⟩
  | ct Δ4 => exact fun F5 H5 σ5 T5 => ⟨F5, Δ4, ho, T5⟩
  | bk Δ4 => exact fun F5 H5 σ5 T5 => q _ ho F5 H5 σ5 (S1.back T5)
  | rt r Δ4 =>
    have z := OutOk.fwd S1 (q _ ho)
    cases r with
    | v d => exact z
    | o ds => exact z
theorem sm_while {c : Expr} {body : List Stmt} (I : Nat → List Sl → Prop) (m0 : Nat) (h0 : I m0 Δ)
    (hs : ∀ m Δi, I m Δi → TS X Δi c fun b Δ' => (b = true → Bk X body Δ' (turn C fun Δ2 => ∃ m', m' < m ∧ I m' Δ2)) ∧ (b = false → C (.nx Δ')))
    (hp : PassesOwn (model X.prog X.w) X.A X.env X.xe := by exact PassesOwn.never) : Sm X (.While c body [] pos) Δ C := by
  intro G0 H0 F H σ S D q
  refine sU1 (ps_while hp pt_u pss_u) ⟨fun m σ H => ∃ F2 Δ2, I m Δ2 ∧ Stt X.K G0 H0 F2 H σ Δ2, ⟨m0, F, Δ, h0, S⟩, fun m σ1 H1 ⟨F2, Δ2, hI, T⟩ => ?_⟩
  refine hs m Δ2 hI G0 H0 F2 H1 σ1 T _ fun b Δ' F3 H3 hb T3 => ?_
  cases b with
  | true =>
    rw [if_pos rfl]
    refine ⟨fun σ' H' => ∃ m', m' < m ∧ ∃ F4 Δ4, I m' Δ4 ∧ Stt X.K G0 H0 F4 H' σ' Δ4, fun σ' H' h => h, ?_⟩
    refine hb.1 rfl G0 H0 F3 H3 σ1 T3 _ fun o ho => ?_
    cases o with
    | nx Δ4 => exact fun F5 H5 σ5 T5 => let ⟨m', hm, hI'⟩ := ho; ⟨m', hm, F5, Δ4, hI', T5⟩
    | ct Δ4 => exact fun F5 H5 σ5 T5 => let ⟨m', hm, hI'⟩ := ho; ⟨m', hm, F5, Δ4, hI', T5⟩
    | bk Δ4 => exact q _ ho
    | rt r Δ4 =>
      have z := q _ ho
      cases r with
      | v d => exact z
      | o ds => exact z
  | false =>
    rw [if_neg Bool.false_ne_true]
    exact q _ (hb.2 rfl) F3 H3 σ1 T3
/-- a while whose test changes nothing -/
theorem sm_whileV {c : Expr} {body : List Stmt} (I : Nat → List Sl → Prop) (m0 : Nat) (h0 : I m0 Δ)
    (hs : ∀ m Δi, I m Δi → ∃ b, TV X Δi c b ∧ (b = true → Bk X body Δi (turn C fun Δ2 => ∃ m', m' < m ∧ I m' Δ2)) ∧ (b = false → C (.nx Δi)))
    (hp : PassesOwn (model X.prog X.w) X.A X.env X.xe := by exact PassesOwn.never) : Sm X (.While c body [] pos) Δ C := by
  refine sm_while I m0 h0 (fun m Δi hI => ?_) hp
  obtain ⟨b, tv, k⟩ := hs m Δi hI
  intro G0 H0 F H σ S Q q
  refine tv.ts G0 H0 F H σ S Q fun b' Δ' F' H' hb S' => ?_
  obtain ⟨rfl, rfl⟩ := hb
  exact q _ _ F' H' k S'
end
end Z

namespace Z
open PySem PySem.Spec PyProof.Rows L2

/-! ### a def's promise over data -/
def ResOk (K : PySem.W.Frag) (G H : Hp) (Q : VK) : Res → Prop
  | .v d => ∀ v G' H', Ext G H G' H' → R K G' d v → Q v H'
  | .o ds => ∀ p vs G' H', Ext G H G' H' → H p = none → H' p = some (.lst vs) → G' p = none → RL K G' ds vs → Q (.ref p) H'
def Pr (K : PySem.W.Frag) (spec : List D → Res → Prop) : Sp := fun vs H Q _ => ∃ G ds r, Sub G H ∧ RL K G ds vs ∧ spec ds r ∧ ResOk K G H Q r
/-- what a body must come to -/
def fin (r : Res) : Out → Prop
  | .rt r' _ => r' = r
  | .nx _ => r = .v .non
  | _ => False
def ini (N : List Str) (ds : List D) : List Sl := ds.map Sl.v ++ List.replicate (N.length - ds.length) Sl.u

section
variable {P : Program} {w : World} {K : PySem.W.Frag} {mg : Str → Option Value} {base : Heap}
theorem stt_ini {G H : Hp} {ds : List D} {vs : List V} {N : List Str} (s : Sub G H) (h : RL K G ds vs) (hl : ds.length ≤ N.length) : Stt K G H G H (L2.start N vs) (ini N ds) := by
  refine ⟨Sub.rf _, s, Sub.rf _, fun a o e => .inl e, ?_, fun i d q => ?_, fun i es q => ?_, fun i j es fs a ne q => ?_⟩
  · unfold L2.start ini
    simp [h.length]
  · unfold ini at q
    unfold L2.start
    by_cases hi : i < ds.length
    · rw [List.getElem?_append_left (by simpa using hi), List.getElem?_map] at q
      rw [List.getElem?_append_left (by simpa [h.length] using hi), List.getElem?_map]
      cases z : ds[i]? with
      | none => rw [z] at q; cases q
      | some d' =>
        rw [z] at q; cases q
        obtain ⟨v, e1, e2⟩ := h.get z
        exact ⟨v, by rw [e1]; rfl, e2⟩
    · rw [List.getElem?_append_right (by simpa using hi), List.getElem?_replicate] at q
      split at q <;> cases q
  · unfold ini at q
    by_cases hi : i < ds.length
    · rw [List.getElem?_append_left (by simpa using hi), List.getElem?_map] at q
      cases z : ds[i]? with
      | none => rw [z] at q; cases q
      | some d' => rw [z] at q; cases q
    · rw [List.getElem?_append_right (by simpa using hi), List.getElem?_replicate] at q
      split at q <;> cases q
  · exfalso
    unfold ini at q
    by_cases hi : i < ds.length
    · rw [List.getElem?_append_left (by simpa using hi), List.getElem?_map] at q
      cases z : ds[i]? with
      | none => rw [z] at q; cases q
      | some d' => rw [z] at q; cases q
    · rw [List.getElem?_append_right (by simpa using hi), List.getElem?_replicate] at q
      split at q <;> cases q
theorem Stt.out {G0 H0 F H : Hp} {σ : L2.St} {Δ : List Sl} (S : Stt K G0 H0 F H σ Δ) : Ext G0 H0 F H := ⟨S.g, S.h0, S.fh, S.fr⟩
theorem ends_of {G H : Hp} {Q : VK} {r : Res} (ro : ResOk K G H Q r) : ∀ o, fin r o → OutOk K G H { nx := fun _ H' => Q .non H', rt := Q } o := by
  intro o ho
  cases o with
  | nx Δ =>
    obtain rfl : r = .v .non := ho
    exact fun F1 H1 σ1 T => ro .non F1 H1 T.out (r_non.mpr rfl)
  | bk Δ => exact False.elim ho
  | ct Δ => exact False.elim ho
  | rt r' Δ =>
    obtain rfl : r' = r := ho
    cases r' with
    | v d => exact fun F1 H1 σ1 v T rr => ro v F1 H1 T.out rr
    | o ds => exact fun F1 H1 σ1 p vs T h1 f1 h0 rr => ro p vs F1 H1 T.out h0 h1 f1 rr
/-- THE RULE for a def -/
theorem fn_ok {x qual : Str} {st : Stmt} {f : Addr} {fd : FuncData} {N ps : List Str} {k : Nat} {spec : List D → Res → Prop} (Fn : Fun K x qual st f fd) (S : FnScope N ps (defScope st)) (ar : ∀ ds r, spec ds r → ds.length = ps.length)
    (hb : ∀ (cdv : Value) (A : Around) (outer : List Env) (s : Shared) (H : Hp) (E : XK), Room k (A.deeper (envOfC qual (defScope st) s.heap.objs.size f cdv)) → ∀ ds r, spec ds r →
      Bk ((cxOf CX0 P w K mg base N qual (defScope st) f cdv A outer s H E).nox) (defBody st) (ini N ds) (fin r)) : FnOk P w K mg base CX0 (k + 1) f fd ps (Pr K spec) := by
  refine Fn.ok S (fun vs H Q E h => ?_) (fun cdv A outer s H vs Q E hr h => ?_)
  · obtain ⟨G, ds, r, _, rl, sp, _⟩ := h
    rw [rl.length]; exact ar ds r sp
  · obtain ⟨G, ds, r, sub, rl, sp, ro⟩ := h
    refine ⟨uS _ (defBody st), pss_u, ?_⟩
    have hlen : ds.length ≤ N.length := by
      rw [ar ds r sp, ← S.pre]
      exact List.length_take_le' _ _
    exact hb cdv A outer s H E hr ds r sp G H G H _ (stt_ini sub rl hlen) _ (ends_of ro)
/-- a def that stands at the top by its name -/
structure FnK (P : Program) (w : World) (K : PySem.W.Frag) (mg : Str → Option Value) (base : Heap) (CX : CXT) (n : Str) (k : Nat) (spec : List D → Res → Prop) : Prop where
  ex : ∃ f fd ps, FnOk P w K mg base CX k f fd ps (Pr K spec) ∧ mg n = some (.ref f) ∧ PySem.W.keepIn K (.ref f) = true ∧ Binds K fd ps []
/-- a method of a class -/
structure FnM (P : Program) (w : World) (K : PySem.W.Frag) (mg : Str → Option Value) (base : Heap) (CX : CXT) (C : Addr) (n : Str) (k : Nat) (spec : List D → Res → Prop) : Prop where
  ex : ∃ f fd ps, FnOk P w K mg base CX k f fd ps (Pr K spec) ∧ Meth K C n f ∧ Binds K fd ps []
end

section
variable {X : Cx} {Δ : List Sl} {m : Bool} {e a b c o : Expr} {es : List Expr} {d x y : D} {ds rs : List D} {pos p apos : Pos} {n : Str} {k : Nat} {spec : List D → Res → Prop}
theorem Pr.at {K : PySem.W.Frag} {vs : List V} {F H : Hp} {E : XK} {Q : VK} (s : Sub F H) (r : RL K (sel m F H) ds vs) (hs : spec ds (.v d)) (q : ∀ v F' H', Ext F H F' H' → R K (sel m F' H') d v → Q v H') : Pr K spec vs H Q E := by
  cases m with
  | true => exact ⟨F, ds, _, s, r, hs, fun v G' H' e r => q v G' H' e r⟩
  | false => exact ⟨H, ds, _, Sub.rf _, r, hs, fun v G' H' e r => q v F H' (Ext.grow s e.h) (r.mono e.fh)⟩
theorem Pr.ato {K : PySem.W.Frag} {vs : List V} {F H : Hp} {E : XK} {Q : VK} (s : Sub F H) (r : RL K (sel m F H) ds vs) (hs : spec ds (.o rs)) (hf : m = false → rs.all flat = true) (q : ∀ p vs F' H', Ext F H F' H' → H p = none → H' p = some (.lst vs) → F' p = none → RL K F' rs vs → Q (.ref p) H') : Pr K spec vs H Q E := by
  cases m with
  | true => exact ⟨F, ds, _, s, r, hs, fun p vs G' H' e n h1 f1 r => q p vs G' H' e n h1 f1 r⟩
  | false => exact ⟨H, ds, _, Sub.rf _, r, hs, fun p vs G' H' e n h1 f1 r => q p vs F H' (Ext.grow s e.h) n h1 (s.none n) (flats_any (hf rfl) r)⟩
theorem ev_call (Fn : FnK X.prog X.w X.K X.mg X.base CX0 n k spec) (hr : Room k X.A) (hg : Gl X n) (ha : AV X Δ m (e :: es) ds) (hs : spec ds (.v d)) (hdb : (n == ("__debug__" : Str)) = false := by decide)
    (he : starEach (e :: es) X.env = (false, eval e X.env) :: starEach es X.env := by rfl) (hpl : (backTo pos (starEach es X.env)).any (·.1) = false := by rfl) : EV X Δ m (.Call (.Name n p) (e :: es) [] pos) d := by
  intro G0 H0 F H σ S Q q
  obtain ⟨f, fd, ps, F1, hm, hk, hb⟩ := Fn.ex
  refine eU (pe_call F1 hr hg hm hk hb .nil pass0 pa_u hdb he hpl) (ha G0 H0 F H σ S _ fun vs F' H' x r => ?_)
  show Pr X.K spec (vs ++ []) H' Q E0
  rw [List.append_nil]
  exact Pr.at x.fh r hs fun v F2 H2 x2 r2 => q v F2 H2 (x.tr x2) r2
theorem eo_call (Fn : FnK X.prog X.w X.K X.mg X.base CX0 n k spec) (hr : Room k X.A) (hg : Gl X n) (ha : AV X Δ m (e :: es) ds) (hs : spec ds (.o rs)) (hf : m = false → rs.all flat = true) (hdb : (n == ("__debug__" : Str)) = false := by decide)
    (he : starEach (e :: es) X.env = (false, eval e X.env) :: starEach es X.env := by rfl) (hpl : (backTo pos (starEach es X.env)).any (·.1) = false := by rfl) : EO X Δ (.Call (.Name n p) (e :: es) [] pos) rs := by
  intro G0 H0 F H σ S Q q
  obtain ⟨f, fd, ps, F1, hm, hk, hb⟩ := Fn.ex
  refine eU (pe_call F1 hr hg hm hk hb .nil pass0 pa_u hdb he hpl) (ha G0 H0 F H σ S _ fun vs F' H' x r => ?_)
  show Pr X.K spec (vs ++ []) H' Q E0
  rw [List.append_nil]
  exact Pr.ato x.fh r hs hf fun p vs F2 H2 x2 n2 h2 f2 r2 => q p vs F2 H2 (x.tr x2) (x.h.none n2) h2 f2 r2
theorem ev_meth0 {pl : Sem Bool} {C : Addr} {fs : List (Str × D)} (Fn : FnM X.prog X.w X.K X.mg X.base CX0 C n k spec) (cl : Cls X.K C) (hr : Room k X.A) (ha : EV X Δ m o (.obj C fs)) (hl : fs.lookup n = none) (hs : spec [.obj C fs] (.v d))
    (ht : eval (.Call (.Attribute o n apos) [] [] pos) X.env = (do
      let ov ← eval o X.env
      standAt apos.atName
      let (f, first) ← holding [ov] (getMethod ov n pl)
      callWith pos f first (backTo pos (starEach [] X.env)) (backToKw pos (keywordEach [] X.env))) := by rfl) : EV X Δ m (.Call (.Attribute o n apos) [] [] pos) d := by
  intro G0 H0 F H σ S Q q
  obtain ⟨f, fd, ps, F1, hm, hb'⟩ := Fn.ex
  refine eU (pe_meth0 (pl := pl) pe_u cl hm F1 hr hb' .nil pass0 ht) (ha G0 H0 F H σ S _ fun v F' H' x r => ?_)
  obtain ⟨ad, dx, vfs, rfl, g, rf⟩ := r_obj.mp r
  refine ⟨ad, dx, vfs, rfl, sel_h x.fh _ _ g, rf.lookupN hl, ?_⟩
  show Pr X.K spec (.ref ad :: ([] ++ [])) H' Q E0
  exact Pr.at x.fh (RL.cons r RL.nil) hs fun v F2 H2 x2 r2 => q v F2 H2 (x.tr x2) r2
theorem ev_meth {pl : Sem Bool} {C : Addr} {fs : List (Str × D)} (Fn : FnM X.prog X.w X.K X.mg X.base CX0 C n k spec) (cl : Cls X.K C) (hr : Room k X.A) (ho : EV X Δ m o (.obj C fs)) (hl : fs.lookup n = none) (ha : AV X Δ m (e :: es) ds) (hs : spec (.obj C fs :: ds) (.v d))
    (hst : starEach (e :: es) X.env = (false, eval e X.env) :: starEach es X.env := by rfl) (hpl : (backTo pos (starEach es X.env)).any (·.1) = false := by rfl)
    (ht : eval (.Call (.Attribute o n apos) (e :: es) [] pos) X.env = (do
      let ov ← eval o X.env
      standAt apos.atName
      let (f, first) ← holding [ov] (getMethod ov n pl)
      callWith pos f first (backTo pos (starEach (e :: es) X.env)) (backToKw pos (keywordEach [] X.env))) := by rfl) : EV X Δ m (.Call (.Attribute o n apos) (e :: es) [] pos) d := by
  intro G0 H0 F H σ S Q q
  obtain ⟨f, fd, ps, F1, hm, hb'⟩ := Fn.ex
  refine eU (pe_meth (pl := pl) pe_u cl hm F1 hr hb' .nil pass0 pa_u hst hpl ht) (ho G0 H0 F H σ S _ fun v F' H' x r => ?_)
  obtain ⟨ad, dx, vfs, rfl, g, rf⟩ := r_obj.mp r
  refine ⟨ad, dx, vfs, rfl, sel_h x.fh _ _ g, rf.lookupN hl, ha G0 H0 F' H' σ (S.ext x) _ fun vs F2 H2 x2 r2 => ?_⟩
  show Pr X.K spec (.ref ad :: (vs ++ [])) H2 Q E0
  rw [List.append_nil]
  exact Pr.at x2.fh (RL.cons (r.mono (sel_sub x2)) r2) hs fun v F3 H3 x3 r3 => q v F3 H3 ((x.tr x2).tr x3) r3
theorem eo_meth {pl : Sem Bool} {C : Addr} {fs : List (Str × D)} (Fn : FnM X.prog X.w X.K X.mg X.base CX0 C n k spec) (cl : Cls X.K C) (hr : Room k X.A) (ho : EV X Δ m o (.obj C fs)) (hl : fs.lookup n = none) (ha : AV X Δ m (e :: es) ds) (hs : spec (.obj C fs :: ds) (.o rs)) (hf : m = false → rs.all flat = true)
    (hst : starEach (e :: es) X.env = (false, eval e X.env) :: starEach es X.env := by rfl) (hpl : (backTo pos (starEach es X.env)).any (·.1) = false := by rfl)
    (ht : eval (.Call (.Attribute o n apos) (e :: es) [] pos) X.env = (do
      let ov ← eval o X.env
      standAt apos.atName
      let (f, first) ← holding [ov] (getMethod ov n pl)
      callWith pos f first (backTo pos (starEach (e :: es) X.env)) (backToKw pos (keywordEach [] X.env))) := by rfl) : EO X Δ (.Call (.Attribute o n apos) (e :: es) [] pos) rs := by
  intro G0 H0 F H σ S Q q
  obtain ⟨f, fd, ps, F1, hm, hb'⟩ := Fn.ex
  refine eU (pe_meth (pl := pl) pe_u cl hm F1 hr hb' .nil pass0 pa_u hst hpl ht) (ho G0 H0 F H σ S _ fun v F' H' x r => ?_)
  obtain ⟨ad, dx, vfs, rfl, g, rf⟩ := r_obj.mp r
  refine ⟨ad, dx, vfs, rfl, sel_h x.fh _ _ g, rf.lookupN hl, ha G0 H0 F' H' σ (S.ext x) _ fun vs F2 H2 x2 r2 => ?_⟩
  show Pr X.K spec (.ref ad :: (vs ++ [])) H2 Q E0
  rw [List.append_nil]
  exact Pr.ato x2.fh (RL.cons (r.mono (sel_sub x2)) r2) hs hf fun p vs F3 H3 x3 n3 h3 f3 r3 => q p vs F3 H3 ((x.tr x2).tr x3) ((x.tr x2).h.none n3) h3 f3 r3

/-! ### built-ins by name -/
theorem ev_B {id : String} {r : List V → Hp → VK → Prop} (hc : CallR X (.builtin id) r) (hg : Gl X n) (hm : X.mg n = none) (hv : bootBuiltins n = some (.builtin id)) (ha : AV X Δ false (e :: es) ds)
    (hr : ∀ vs F H, Sub F H → RL X.K H ds vs → ∀ Q : VK, (∀ v F' H', Ext F H F' H' → R X.K (sel m F' H') d v → Q v H') → r vs H Q)
    (hn : n ≠ "__name__" := by decide) (hdb : (n == ("__debug__" : Str)) = false := by decide) (he : starEach (e :: es) X.env = (false, eval e X.env) :: starEach es X.env := by rfl) (hpl : (backTo pos (starEach es X.env)).any (·.1) = false := by rfl) :
    EV X Δ m (.Call (.Name n p) (e :: es) [] pos) d := by
  intro G0 H0 F H σ S Q q
  refine eU (pe_callB hc hg hm hv pa_u hn hdb he hpl) (ha G0 H0 F H σ S _ fun vs F' H' x rl => ?_)
  exact hr vs F' H' x.fh rl Q fun v F2 H2 x2 r2 => q v F2 H2 (x.tr x2) r2
end
end Z

namespace Z
open PySem PySem.Spec PyProof.Rows L2

/-- the built-in names that a text uses stand for the built-ins -/
structure Bl (mg : Str → Option Value) : Prop where
  len : mg "len" = none
  range : mg "range" = none
  abs : mg "abs" = none
  min : mg "min" = none
  max : mg "max" = none
  sum : mg "sum" = none
  sorted : mg "sorted" = none
  set : mg "set" = none
  any : mg "any" = none
  all : mg "all" = none
  isinstance : mg "isinstance" = none
  divmod : mg "divmod" = none
  str : mg "str" = none
  int : mg "int" = none
  list : mg "list" = none
  tuple : mg "tuple" = none
  enumerate : mg "enumerate" = none
  zip : mg "zip" = none
  reversed : mg "reversed" = none
  bool : mg "bool" = none
  ValueError : mg "ValueError" = none
theorem bt_bool : bootBuiltins "bool" = some (.type "bool") := by decide +kernel
theorem bt_abs : bootBuiltins "abs" = some (.builtin "abs") := by decide +kernel
theorem bt_min : bootBuiltins "min" = some (.builtin "min") := by decide +kernel
theorem bt_max : bootBuiltins "max" = some (.builtin "max") := by decide +kernel
theorem bt_sum : bootBuiltins "sum" = some (.builtin "sum") := by decide +kernel
theorem bt_all : bootBuiltins "all" = some (.builtin "all") := by decide +kernel
theorem bt_any : bootBuiltins "any" = some (.builtin "any") := by decide +kernel
theorem bt_isinstance : bootBuiltins "isinstance" = some (.builtin "isinstance") := by decide +kernel
theorem bt_divmod : bootBuiltins "divmod" = some (.builtin "divmod") := by decide +kernel
theorem bt_sorted : bootBuiltins "sorted" = some (.builtin "sorted") := by decide +kernel
theorem bt_str : bootBuiltins "str" = some (.type "str") := by decide +kernel
theorem bt_int : bootBuiltins "int" = some (.type "int") := by decide +kernel
theorem bt_list : bootBuiltins "list" = some (.type "list") := by decide +kernel
theorem bt_tuple : bootBuiltins "tuple" = some (.type "tuple") := by decide +kernel
theorem bt_len : bootBuiltins "len" = some (.builtin "len") := by decide +kernel

def dabs (i : Int) : Int := if i < 0 then -i else i
theorem dabs_eq (i : Int) : dabs i = (i.natAbs : Int) := by unfold dabs; split <;> omega
def dmax (i j : Int) : Int := if j > i then j else i
def dmin (i j : Int) : Int := if j < i then j else i
/-- the built-in class of a datum -/
def tyD : D → String
  | .non => "NoneType" | .bl _ => "bool" | .int _ => "int" | .str _ => "str" | .lst _ => "list" | .tup _ => "tuple" | .scr _ => "list" | .obj _ _ => "object"
def plainD : D → Bool
  | .scr _ => false | .obj _ _ => false | _ => true
/-- whether a datum is one of a built-in class, as isinstance tells it -/
def isD (d : D) (T : String) : Bool := (kitB (tyD d) T).getD false

section
variable {X : Cx} {Δ : List Sl} {m : Bool} {e a b c : Expr} {es : List Expr} {d x y : D} {ds rs : List D} {pos p p2 apos : Pos} {n : Str}
theorem ev_T {T : String} {r : List V → Hp → VK → Prop} (hc : CallR X (.type T) r) (hg : Gl X n) (hm : X.mg n = none) (hv : bootBuiltins n = some (.type T)) (ha : AV X Δ false (e :: es) ds)
    (hr : ∀ vs F H, Sub F H → RL X.K H ds vs → ∀ Q : VK, (∀ v F' H', Ext F H F' H' → R X.K (sel m F' H') d v → Q v H') → r vs H Q)
    (hn : n ≠ "__name__" := by decide) (hdb : (n == ("__debug__" : Str)) = false := by decide) (he : starEach (e :: es) X.env = (false, eval e X.env) :: starEach es X.env := by rfl) (hpl : (backTo pos (starEach es X.env)).any (·.1) = false := by rfl) :
    EV X Δ m (.Call (.Name n p) (e :: es) [] pos) d := by
  intro G0 H0 F H σ S Q q
  refine eU (pe_callTy hc hg hm hv pa_u hn hdb he hpl) (ha G0 H0 F H σ S _ fun vs F' H' x rl => ?_)
  exact hr vs F' H' x.fh rl Q fun v F2 H2 x2 r2 => q v F2 H2 (x.tr x2) r2
theorem rl1 {K : PySem.W.Frag} {G : Hp} {vs : List V} (h : RL K G [d] vs) : ∃ v, vs = [v] ∧ R K G d v := by
  obtain ⟨v, w, rfl, r, q⟩ := rl_cons.mp h
  rw [rl_nil.mp q]; exact ⟨v, rfl, r⟩
theorem rl2 {K : PySem.W.Frag} {G : Hp} {vs : List V} (h : RL K G [x, y] vs) : ∃ v w, vs = [v, w] ∧ R K G x v ∧ R K G y w := by
  obtain ⟨v, w, rfl, r, q⟩ := rl_cons.mp h
  obtain ⟨u, rfl, r2⟩ := rl1 q
  exact ⟨v, u, rfl, r, r2⟩
/-! numbers -/
theorem ev_abs {i : Int} (hg : Gl X "abs") (hm : X.mg "abs" = none) (ha : EV X Δ false e (.int i)) (hs : starEach [e] X.env = (false, eval e X.env) :: starEach [] X.env := by rfl) (hpl : (backTo pos (starEach ([] : List Expr) X.env)).any (·.1) = false := by rfl) : EV X Δ m (.Call (.Name "abs" p) [e] [] pos) (.int (dabs i)) :=
  ev_B call_abs hg hm bt_abs (av_cons ha av_nil hs) (fun vs F H s rl Q q => by
    obtain ⟨v, rfl, r⟩ := rl1 rl
    exact ⟨i, by rw [r_int.mp r], q _ F H (Ext.rf s) (r_int.mpr rfl)⟩) (by decide) (by decide) hs hpl
theorem ev_max2 {i j : Int} (hc : X.calm = true) (hg : Gl X "max") (hm : X.mg "max" = none) (ha : EV X Δ false a (.int i)) (hb : EV X Δ false b (.int j)) (hs : starEach [a, b] X.env = (false, eval a X.env) :: starEach [b] X.env := by rfl) (hs2 : starEach [b] X.env = (false, eval b X.env) :: starEach [] X.env := by rfl) (hpl : (backTo pos (starEach [b] X.env)).any (·.1) = false := by rfl) : EV X Δ m (.Call (.Name "max" p) [a, b] [] pos) (.int (dmax i j)) :=
  ev_B (call_max2 hc) hg hm bt_max (av_cons ha (av_cons hb av_nil hs2) hs) (fun vs F H s rl Q q => by
    obtain ⟨v, w, rfl, r, r2⟩ := rl2 rl
    exact ⟨i, j, by rw [r_int.mp r, r_int.mp r2], q _ F H (Ext.rf s) (r_int.mpr rfl)⟩) (by decide) (by decide) hs hpl
theorem ev_min2 {i j : Int} (hc : X.calm = true) (hg : Gl X "min") (hm : X.mg "min" = none) (ha : EV X Δ false a (.int i)) (hb : EV X Δ false b (.int j)) (hs : starEach [a, b] X.env = (false, eval a X.env) :: starEach [b] X.env := by rfl) (hs2 : starEach [b] X.env = (false, eval b X.env) :: starEach [] X.env := by rfl) (hpl : (backTo pos (starEach [b] X.env)).any (·.1) = false := by rfl) : EV X Δ m (.Call (.Name "min" p) [a, b] [] pos) (.int (dmin i j)) :=
  ev_B (call_min2 hc) hg hm bt_min (av_cons ha (av_cons hb av_nil hs2) hs) (fun vs F H s rl Q q => by
    obtain ⟨v, w, rfl, r, r2⟩ := rl2 rl
    exact ⟨i, j, by rw [r_int.mp r, r_int.mp r2], q _ F H (Ext.rf s) (r_int.mpr rfl)⟩) (by decide) (by decide) hs hpl
/-- int(flag) -/
theorem ev_intb {k : Bool} (hg : Gl X "int") (hm : X.mg "int" = none) (ha : EV X Δ false e (.bl k)) (hs : starEach [e] X.env = (false, eval e X.env) :: starEach [] X.env := by rfl) (hpl : (backTo pos (starEach ([] : List Expr) X.env)).any (·.1) = false := by rfl) : EV X Δ m (.Call (.Name "int" p) [e] [] pos) (.int (if k then 1 else 0)) :=
  ev_T call_int1 hg hm bt_int (av_cons ha av_nil hs) (fun vs F H s rl Q q => by
    obtain ⟨v, rfl, r⟩ := rl1 rl
    exact .inr ⟨k, by rw [r_bl.mp r], q _ F H (Ext.rf s) (r_int.mpr rfl)⟩) (by decide) (by decide) hs hpl
theorem ev_intS {z : Str} {k : Int} (hg : Gl X "int") (hm : X.mg "int" = none) (ha : EV X Δ false e (.str z)) (h1 : PySem.intText? z = some k) (h2 : z.length ≤ 640) (hs : starEach [e] X.env = (false, eval e X.env) :: starEach [] X.env := by rfl) (hpl : (backTo pos (starEach ([] : List Expr) X.env)).any (·.1) = false := by rfl) : EV X Δ m (.Call (.Name "int" p) [e] [] pos) (.int k) :=
  ev_T call_int_str hg hm bt_int (av_cons ha av_nil hs) (fun vs F H s rl Q q => by
    obtain ⟨v, rfl, r⟩ := rl1 rl
    exact ⟨z, k, by rw [r_str.mp r], h1, h2, q _ F H (Ext.rf s) (r_int.mpr rfl)⟩) (by decide) (by decide) hs hpl
theorem ev_str1 {i : Int} (hg : Gl X "str") (hm : X.mg "str" = none) (ha : EV X Δ false e (.int i)) (hl : i.natAbs.log2 < 1920) (hs : starEach [e] X.env = (false, eval e X.env) :: starEach [] X.env := by rfl) (hpl : (backTo pos (starEach ([] : List Expr) X.env)).any (·.1) = false := by rfl) : EV X Δ m (.Call (.Name "str" p) [e] [] pos) (.str (Str.ofString (toString i))) :=
  ev_T call_str_int hg hm bt_str (av_cons ha av_nil hs) (fun vs F H s rl Q q => by
    obtain ⟨v, rfl, r⟩ := rl1 rl
    exact ⟨i, by rw [r_int.mp r], hl, q _ F H (Ext.rf s) (r_str.mpr rfl)⟩) (by decide) (by decide) hs hpl
/-! lengths -/
theorem line_of {K : PySem.W.Frag} {G : Hp} : True := trivial
theorem ev_len (hg : Gl X "len") (hm : X.mg "len" = none) (ha : EV X Δ false e (.lst ds)) (hs : starEach [e] X.env = (false, eval e X.env) :: starEach [] X.env := by rfl) (hpl : (backTo pos (starEach ([] : List Expr) X.env)).any (·.1) = false := by rfl) : EV X Δ m (.Call (.Name "len" p) [e] [] pos) (.int (ds.length : Int)) :=
  ev_B call_len_seq hg hm bt_len (av_cons ha av_nil hs) (fun vs F H s rl Q q => by
    obtain ⟨v, rfl, r⟩ := rl1 rl
    obtain ⟨ad, ws, rfl, g, l⟩ := r_lst.mp r
    exact ⟨ad, ws, rfl, .inl (SqL.of g), by rw [l.length]; exact q _ F H (Ext.rf s) (r_int.mpr rfl)⟩) (by decide) (by decide) hs hpl
theorem ev_lent (hg : Gl X "len") (hm : X.mg "len" = none) (ha : EV X Δ false e (.tup ds)) (hs : starEach [e] X.env = (false, eval e X.env) :: starEach [] X.env := by rfl) (hpl : (backTo pos (starEach ([] : List Expr) X.env)).any (·.1) = false := by rfl) : EV X Δ m (.Call (.Name "len" p) [e] [] pos) (.int (ds.length : Int)) :=
  ev_B call_len_seq hg hm bt_len (av_cons ha av_nil hs) (fun vs F H s rl Q q => by
    obtain ⟨v, rfl, r⟩ := rl1 rl
    obtain ⟨ad, ws, rfl, g, l⟩ := r_tup.mp r
    exact ⟨ad, ws, rfl, .inr (SqT.of g), by rw [l.length]; exact q _ F H (Ext.rf s) (r_int.mpr rfl)⟩) (by decide) (by decide) hs hpl
theorem ev_lens {ns : List Int} (hg : Gl X "len") (hm : X.mg "len" = none) (ha : EV X Δ false e (.scr ns)) (hs : starEach [e] X.env = (false, eval e X.env) :: starEach [] X.env := by rfl) (hpl : (backTo pos (starEach ([] : List Expr) X.env)).any (·.1) = false := by rfl) : EV X Δ m (.Call (.Name "len" p) [e] [] pos) (.int (ns.length : Int)) :=
  ev_B call_len_seq hg hm bt_len (av_cons ha av_nil hs) (fun vs F H s rl Q q => by
    obtain ⟨v, rfl, r⟩ := rl1 rl
    obtain ⟨ad, rfl, g⟩ := r_scr.mp r
    exact ⟨ad, _, rfl, .inl g, by rw [List.length_map]; exact q _ F H (Ext.rf s) (r_int.mpr rfl)⟩) (by decide) (by decide) hs hpl
theorem ev_lenS {z : Str} (hg : Gl X "len") (hm : X.mg "len" = none) (ha : EV X Δ false e (.str z)) (hl : z.length ≤ sizeLine) (hs : starEach [e] X.env = (false, eval e X.env) :: starEach [] X.env := by rfl) (hpl : (backTo pos (starEach ([] : List Expr) X.env)).any (·.1) = false := by rfl) : EV X Δ m (.Call (.Name "len" p) [e] [] pos) (.int (z.length : Int)) :=
  ev_B call_len_str hg hm bt_len (av_cons ha av_nil hs) (fun vs F H s rl Q q => by
    obtain ⟨v, rfl, r⟩ := rl1 rl
    exact ⟨z, by rw [r_str.mp r], hl, q _ F H (Ext.rf s) (r_int.mpr rfl)⟩) (by decide) (by decide) hs hpl
/-! over lists of ints, of bools -/
theorem ev_sum {ns : List Int} (hc : X.calm = true) (hg : Gl X "sum") (hm : X.mg "sum" = none) (ha : EV X Δ false e (.lst (ns.map D.int))) (hs : starEach [e] X.env = (false, eval e X.env) :: starEach [] X.env := by rfl) (hpl : (backTo pos (starEach ([] : List Expr) X.env)).any (·.1) = false := by rfl) : EV X Δ m (.Call (.Name "sum" p) [e] [] pos) (.int ns.sum) :=
  ev_B (cr_sum hc) hg hm bt_sum (av_cons ha av_nil hs) (fun vs F H s rl Q q => by
    obtain ⟨v, rfl, r⟩ := rl1 rl
    obtain ⟨ad, ws, rfl, g, l⟩ := r_lst.mp r
    exact ⟨ad, ns, rfl, SqL.of (by rw [g, l.ints]), q _ F H (Ext.rf s) (r_int.mpr rfl)⟩) (by decide) (by decide) hs hpl
theorem ev_all {bs : List Bool} (hc : X.calm = true) (hg : Gl X "all") (hm : X.mg "all" = none) (ha : EV X Δ false e (.lst (bs.map D.bl))) (hs : starEach [e] X.env = (false, eval e X.env) :: starEach [] X.env := by rfl) (hpl : (backTo pos (starEach ([] : List Expr) X.env)).any (·.1) = false := by rfl) : EV X Δ m (.Call (.Name "all" p) [e] [] pos) (.bl (bs.all id)) :=
  ev_B (cr_all hc) hg hm bt_all (av_cons ha av_nil hs) (fun vs F H s rl Q q => by
    obtain ⟨v, rfl, r⟩ := rl1 rl
    obtain ⟨ad, ws, rfl, g, l⟩ := r_lst.mp r
    exact ⟨ad, bs, rfl, SqL.of (by rw [g, l.bls]), q _ F H (Ext.rf s) (r_bl.mpr rfl)⟩) (by decide) (by decide) hs hpl
theorem ev_any {bs : List Bool} (hc : X.calm = true) (hg : Gl X "any") (hm : X.mg "any" = none) (ha : EV X Δ false e (.lst (bs.map D.bl))) (hs : starEach [e] X.env = (false, eval e X.env) :: starEach [] X.env := by rfl) (hpl : (backTo pos (starEach ([] : List Expr) X.env)).any (·.1) = false := by rfl) : EV X Δ m (.Call (.Name "any" p) [e] [] pos) (.bl (bs.any id)) :=
  ev_B (cr_any hc) hg hm bt_any (av_cons ha av_nil hs) (fun vs F H s rl Q q => by
    obtain ⟨v, rfl, r⟩ := rl1 rl
    obtain ⟨ad, ws, rfl, g, l⟩ := r_lst.mp r
    exact ⟨ad, bs, rfl, SqL.of (by rw [g, l.bls]), q _ F H (Ext.rf s) (r_bl.mpr rfl)⟩) (by decide) (by decide) hs hpl
/-- the least, the greatest, of a list of ints that isn't empty -/
def lmin : List Int → Int
  | [] => 0
  | [x] => x
  | x :: y :: r => min x (lmin (y :: r))
def lmax : List Int → Int
  | [] => 0
  | [x] => x
  | x :: y :: r => max x (lmax (y :: r))
theorem lmin_le : ∀ (l : List Int) (x : Int), x ∈ l → lmin l ≤ x
  | [y], x, h => by simp at h; subst h; exact Int.le_refl _
  | y :: z :: r, x, h => by
    unfold lmin
    rcases List.mem_cons.mp h with rfl | h
    · omega
    · have := lmin_le (z :: r) x h; omega
theorem lmin_mem : ∀ (l : List Int), l ≠ [] → lmin l ∈ l
  | [y], _ => by simp [lmin]
  | y :: z :: r, _ => by
    have ih := lmin_mem (z :: r) (by simp)
    unfold lmin
    by_cases h : y ≤ lmin (z :: r)
    · rw [Int.min_eq_left h]; exact List.mem_cons_self
    · rw [Int.min_eq_right (by omega)]; exact List.mem_cons_of_mem _ ih
theorem le_lmax : ∀ (l : List Int) (x : Int), x ∈ l → x ≤ lmax l
  | [y], x, h => by simp at h; subst h; exact Int.le_refl _
  | y :: z :: r, x, h => by
    unfold lmax
    rcases List.mem_cons.mp h with rfl | h
    · omega
    · have := le_lmax (z :: r) x h; omega
theorem lmax_mem : ∀ (l : List Int), l ≠ [] → lmax l ∈ l
  | [y], _ => by simp [lmax]
  | y :: z :: r, _ => by
    have ih := lmax_mem (z :: r) (by simp)
    unfold lmax
    by_cases h : lmax (z :: r) ≤ y
    · rw [Int.max_eq_left h]; exact List.mem_cons_self
    · rw [Int.max_eq_right (by omega)]; exact List.mem_cons_of_mem _ ih
theorem ev_min {ns : List Int} (hc : X.calm = true) (hg : Gl X "min") (hm : X.mg "min" = none) (ha : EV X Δ false e (.lst (ns.map D.int))) (hne : ns ≠ []) (hs : starEach [e] X.env = (false, eval e X.env) :: starEach [] X.env := by rfl) (hpl : (backTo pos (starEach ([] : List Expr) X.env)).any (·.1) = false := by rfl) : EV X Δ m (.Call (.Name "min" p) [e] [] pos) (.int (lmin ns)) :=
  ev_B (cr_min hc) hg hm bt_min (av_cons ha av_nil hs) (fun vs F H s rl Q q => by
    obtain ⟨v, rfl, r⟩ := rl1 rl
    obtain ⟨ad, ws, rfl, g, l⟩ := r_lst.mp r
    refine ⟨ad, ns, rfl, SqL.of (by rw [g, l.ints]), List.length_pos_iff.mpr hne, fun k hk hle => ?_⟩
    have : k = lmin ns := Int.le_antisymm (hle _ (lmin_mem ns hne)) (lmin_le ns k hk)
    rw [this]
    exact q _ F H (Ext.rf s) (r_int.mpr rfl)) (by decide) (by decide) hs hpl
theorem ev_max {ns : List Int} (hc : X.calm = true) (hg : Gl X "max") (hm : X.mg "max" = none) (ha : EV X Δ false e (.lst (ns.map D.int))) (hne : ns ≠ []) (hs : starEach [e] X.env = (false, eval e X.env) :: starEach [] X.env := by rfl) (hpl : (backTo pos (starEach ([] : List Expr) X.env)).any (·.1) = false := by rfl) : EV X Δ m (.Call (.Name "max" p) [e] [] pos) (.int (lmax ns)) :=
  ev_B (cr_max hc) hg hm bt_max (av_cons ha av_nil hs) (fun vs F H s rl Q q => by
    obtain ⟨v, rfl, r⟩ := rl1 rl
    obtain ⟨ad, ws, rfl, g, l⟩ := r_lst.mp r
    refine ⟨ad, ns, rfl, SqL.of (by rw [g, l.ints]), List.length_pos_iff.mpr hne, fun k hk hle => ?_⟩
    have : k = lmax ns := Int.le_antisymm (le_lmax ns k hk) (hle _ (lmax_mem ns hne))
    rw [this]
    exact q _ F H (Ext.rf s) (r_int.mpr rfl)) (by decide) (by decide) hs hpl
/-! list(..) -/
theorem eo_T {T : String} {r : List V → Hp → VK → Prop} (hc : CallR X (.type T) r) (hg : Gl X n) (hm : X.mg n = none) (hv : bootBuiltins n = some (.type T)) (ha : AV X Δ m (e :: es) ds)
    (hr : ∀ vs F H, Sub F H → RL X.K (sel m F H) ds vs → ∀ Q : VK, (∀ p vs F' H', Ext F H F' H' → H p = none → H' p = some (.lst vs) → F' p = none → RL X.K F' rs vs → Q (.ref p) H') → r vs H Q)
    (hn : n ≠ "__name__" := by decide) (hdb : (n == ("__debug__" : Str)) = false := by decide) (he : starEach (e :: es) X.env = (false, eval e X.env) :: starEach es X.env := by rfl) (hpl : (backTo pos (starEach es X.env)).any (·.1) = false := by rfl) :
    EO X Δ (.Call (.Name n p) (e :: es) [] pos) rs := by
  intro G0 H0 F H σ S Q q
  refine eU (pe_callTy hc hg hm hv pa_u hn hdb he hpl) (ha G0 H0 F H σ S _ fun vs F' H' x rl => ?_)
  exact hr vs F' H' x.fh rl Q fun p vs F2 H2 x2 n2 h2 f2 r2 => q p vs F2 H2 (x.tr x2) (x.h.none n2) h2 f2 r2
theorem eo_list (hg : Gl X "list") (hm : X.mg "list" = none) (ha : EV X Δ true e (.lst ds)) (hs : starEach [e] X.env = (false, eval e X.env) :: starEach [] X.env := by rfl) (hpl : (backTo pos (starEach ([] : List Expr) X.env)).any (·.1) = false := by rfl) : EO X Δ (.Call (.Name "list" p) [e] [] pos) ds :=
  eo_T (m := true) call_list_of hg hm bt_list (av_cons ha av_nil hs) (fun vs F H s rl Q q => by
    obtain ⟨v, rfl, r⟩ := rl1 rl
    obtain ⟨ad, ws, rfl, g, l⟩ := r_lst.mp r
    exact ⟨ad, ws, rfl, .inl (SqL.of (s _ _ g)), fun l2 n2 => q l2 ws F _ (Ext.grow s (Sub.new n2)) n2 upd_same (s.none n2) l⟩) (by decide) (by decide) hs hpl
theorem eo_listf (hg : Gl X "list") (hm : X.mg "list" = none) (ha : EV X Δ false e (.lst ds)) (f : ds.all flat = true) (hs : starEach [e] X.env = (false, eval e X.env) :: starEach [] X.env := by rfl) (hpl : (backTo pos (starEach ([] : List Expr) X.env)).any (·.1) = false := by rfl) : EO X Δ (.Call (.Name "list" p) [e] [] pos) ds :=
  eo_T (m := false) call_list_of hg hm bt_list (av_cons ha av_nil hs) (fun vs F H s rl Q q => by
    obtain ⟨v, rfl, r⟩ := rl1 rl
    obtain ⟨ad, ws, rfl, g, l⟩ := r_lst.mp r
    exact ⟨ad, ws, rfl, .inl (SqL.of g), fun l2 n2 => q l2 ws F _ (Ext.grow s (Sub.new n2)) n2 upd_same (s.none n2) (flats_any f l)⟩) (by decide) (by decide) hs hpl
/-! isinstance with a built-in class -/
theorem ty_of {K : PySem.W.Frag} {H : Hp} {v : V} (f : plainD x = true) (r : R K H x v) : TyX K H v (.type (tyD x)) := by
  cases x with
  | non => rw [r_non.mp r]; exact .base .non
  | bl b => rw [r_bl.mp r]; exact .base (.bl b)
  | int i => rw [r_int.mp r]; exact .base (.int i)
  | str z => rw [r_str.mp r]; exact .base (.str z)
  | scr ns => exact absurd f (by simp [plainD])
  | lst xs => obtain ⟨a, vs, rfl, g, _⟩ := r_lst.mp r; exact .base (.lst g)
  | tup xs => obtain ⟨a, vs, rfl, g, _⟩ := r_tup.mp r; exact .base (.tup g)
  | obj C fs => exact absurd f (by simp [plainD])
theorem ev_isi {T : String} (hg : Gl X "isinstance") (hm : X.mg "isinstance" = none) (ha : EV X Δ false a x) (f : plainD x = true) (hg2 : Gl X n) (hm2 : X.mg n = none) (hv2 : bootBuiltins n = some (.type T)) (hk : (kitB (tyD x) T).isSome = true) (hn2 : n ≠ "__name__" := by decide) (hd2 : (n == ("__debug__" : Str)) = false := by decide)
    (hs : starEach [a, .Name n p2] X.env = (false, eval a X.env) :: starEach [.Name n p2] X.env := by rfl) (hs2 : starEach [.Name n p2] X.env = (false, eval (.Name n p2) X.env) :: starEach [] X.env := by rfl) (hpl : (backTo pos (starEach [.Name n p2] X.env)).any (·.1) = false := by rfl) :
    EV X Δ m (.Call (.Name "isinstance" p) [a, .Name n p2] [] pos) (.bl (isD x T)) := by
  intro G0 H0 F H σ S Q q
  refine eU (pe_callB call_isi hg hm bt_isinstance (pa_cons pe_u (pa_cons (pe_bltn (v := .ty T) hg2 hm2 hv2 rfl hn2 hd2) pa_nil hs2) hs) (by decide) (by decide) hs hpl) (ha G0 H0 F H σ S _ fun v F' H' e r => ?_)
  refine ⟨v, .ty T, .type (tyD x), .type T, isD x T, rfl, .ty T, ty_of f r, kit_ty ?_, q _ F' H' e (r_bl.mpr rfl)⟩
  unfold isD
  cases z : kitB (tyD x) T with
  | none => rw [z] at hk; cases hk
  | some b => rfl

/-! divmod -/
theorem ev_divmod {i j : Int} (hg : Gl X "divmod") (hm : X.mg "divmod" = none) (ha : EV X Δ false a (.int i)) (hb : EV X Δ false b (.int j)) (hd : CDivP i j) (hs : starEach [a, b] X.env = (false, eval a X.env) :: starEach [b] X.env := by rfl) (hs2 : starEach [b] X.env = (false, eval b X.env) :: starEach [] X.env := by rfl) (hpl : (backTo pos (starEach [b] X.env)).any (·.1) = false := by rfl) :
    EV X Δ m (.Call (.Name "divmod" p) [a, b] [] pos) (.tup [.int (i / j), .int (i % j)]) :=
  EV.weak (ev_B call_divmodW hg hm bt_divmod (av_cons ha (av_cons hb av_nil hs2) hs) (fun vs F H s rl Q q => by
    obtain ⟨v, w, rfl, r, r2⟩ := rl2 rl
    refine ⟨i, j, by rw [r_int.mp r, r_int.mp r2], hd, fun pp np => ?_⟩
    exact q _ _ _ (Ext.put s np) (r_tup.mpr ⟨pp, _, rfl, upd_same, RL.cons (r_int.mpr rfl) (RL.cons (r_int.mpr rfl) RL.nil)⟩)) (by decide) (by decide) hs hpl)
end

/-! ### defs at the top -/
structure At (K : PySem.W.Frag) (mg : Str → Option Value) (n gn : Str) (st : Stmt) (ps : List Str) : Prop where
  ex : ∃ f fd, Fun K n n st f fd ∧ mg gn = some (.ref f) ∧ Binds K fd ps []
structure AtM (K : PySem.W.Frag) (C : Addr) (n qual : Str) (st : Stmt) (ps : List Str) : Prop where
  ex : ∃ f fd, Fun K n qual st f fd ∧ Meth K C n f ∧ Binds K fd ps []
theorem at_mk {K : PySem.W.Frag} {mg : Str → Option Value} {h : Heap} {n gn : Str} {st : Stmt} {ps : List Str} {f : Addr} {oc : Value} {od an : Option Addr} {osl : Array (Option Value)} {kV doc pm cdv ct : Value} (X : K.In h) (G : h.Ns mainGlobals mg)
    (a : PySem.W.nsIn K mainGlobals gn = some (some (.ref f))) (l : K.lookup f = some ⟨oc, od, .func (PySem.W.fnOf n n (defArgs st) (defBody st) (defScope st) .none kV doc pm an cdv ct), osl⟩) (c : PySem.W.codeIn K cdv n = true) (k : PySem.W.keepIn K (.ref f) = true)
    (hb : ∀ (kV doc pm : Value) (an : Option Addr) (cdv ct : Value) (us : List Value), us.length = ps.length → bindArgs (PySem.W.fnOf n n (defArgs st) (defBody st) (defScope st) .none kV doc pm an cdv ct) ⟨us, []⟩ = pure (ps.zip us)) : At K mg n gn st ps := by
  have F := fun_mk l c k
  exact ⟨f, _, F, PySem.W.mg_of X G a, F.binds hb⟩
theorem atm_mk {K : PySem.W.Frag} {C : Addr} {n qual : Str} {st : Stmt} {ps : List Str} {f : Addr} {oc : Value} {od an : Option Addr} {osl : Array (Option Value)} {kV doc pm cdv ct : Value}
    (a : PySem.W.findIn K (.ref C) n = some (some (.ref f))) (i : PySem.W.isFn K (.ref f) = true) (l : K.lookup f = some ⟨oc, od, .func (PySem.W.fnOf n qual (defArgs st) (defBody st) (defScope st) .none kV doc pm an cdv ct), osl⟩) (c : PySem.W.codeIn K cdv qual = true) (k : PySem.W.keepIn K (.ref f) = true)
    (hb : ∀ (kV doc pm : Value) (an : Option Addr) (cdv ct : Value) (us : List Value), us.length = ps.length → bindArgs (PySem.W.fnOf n qual (defArgs st) (defBody st) (defScope st) .none kV doc pm an cdv ct) ⟨us, []⟩ = pure (ps.zip us)) : AtM K C n qual st ps := by
  have F := fun_mk l c k
  exact ⟨f, _, F, ⟨a, i, k⟩, F.binds hb⟩
/-- the law's own promise -/
def spLaw : List D → Res → Prop := fun ds r => ∃ ns : List Int, ds = [.scr ns] ∧ ns.length ≤ 63 ∧ r = .v (.bl true)
theorem law_sp (K : PySem.W.Frag) (H : Hp) (a : Addr) (ns : List Int) (hl : ns.length ≤ 63) (hS : SqL K H a (ns.map V.int)) : Pr K spLaw [.ref a] H (fun v _ => v = .bl true) (fun _ _ _ => False) :=
  ⟨H, [.scr ns], .v (.bl true), Sub.rf _, RL.cons (r_scr.mpr ⟨a, rfl, hS⟩) RL.nil, ⟨ns, rfl, hl, rfl⟩, fun v G' H' e r => r_bl.mp r⟩

/-! ### small facts for side conditions -/
theorem mulok {i j : Int} {a b : Nat} (ha : i.natAbs < 2 ^ a) (hb : j.natAbs < 2 ^ b) (h : a + b ≤ 134217728) : IntMulOk i j := CMulX.ok (mulx_ok ha hb h)
theorem mulokL {i j : Int} (h1 : -18446744073709551616 < i) (h2 : i < 18446744073709551616) : IntMulOk i j := CMul.ok (.inl ⟨by omega, by omega⟩)
theorem mulokR {i j : Int} (h1 : -18446744073709551616 < j) (h2 : j < 18446744073709551616) : IntMulOk i j := CMul.ok (.inr ⟨by omega, by omega⟩)
theorem divok {i j : Int} (h1 : 0 < j) (h2 : j < 18446744073709551616) : CDivW i j := wide_div (b := 64) h1 (by omega) (by decide) (by decide)
theorem powok {i j : Int} (h0 : 0 ≤ j) (h1 : j ≤ 1000000) (h2 : -18446744073709551616 < i) (h3 : i < 18446744073709551616) : CPow i j := ⟨h0, h1, by omega⟩
theorem at_ints {ns : List Int} {i : Int} (h0 : 0 ≤ i) (h1 : i < ns.length) : atI (ns.map D.int) i = some (.int (ns.getD i.toNat 0)) := by
  obtain ⟨k, rfl⟩ : ∃ k : Nat, i = k := ⟨i.toNat, by omega⟩
  refine atI_nat ?_
  have hk : k < ns.length := by omega
  rw [List.getElem?_map, List.getElem?_eq_getElem hk]
  simp [List.getD, List.getElem?_eq_getElem hk]
theorem at_get {ds : List D} {i : Int} {k : Nat} {d : D} (e : i = (k : Int)) (h : ds[k]? = some d) : atI ds i = some d := by rw [e]; exact atI_nat h
/-- a statement whose ways meet -/
theorem bk_cut {X : Cx} {st : Stmt} {rest : List Stmt} {Δ : List Sl} {C : Out → Prop} {α : Type} (P : α → Prop) (S : α → List Sl) (h : Sm X st Δ (fun o => ∃ x, P x ∧ o = .nx (S x))) (k : ∀ x, P x → Bk X rest (S x) C) : Bk X (st :: rest) Δ C :=
  bk_cons (h.mono fun o ho => by
    obtain ⟨x, hx, rfl⟩ := ho
    exact k x hx)
end Z

namespace Z
open PySem PySem.Spec PyProof.Rows L2

/-! ### comprehensions -/
def wipD (Δ : List Sl) : List Nat → List Sl
  | [] => Δ
  | v :: vs => (wipD Δ vs).set v .u
theorem Stt.wip {K : PySem.W.Frag} {G0 H0 F H : Hp} {σ : L2.St} {Δ : List Sl} (S : Stt K G0 H0 F H σ Δ) : ∀ vs : List Nat, Stt K G0 H0 F H (wipe σ vs) (wipD Δ vs)
  | [] => S
  | v :: vs => (S.wip vs).setu
theorem set_comm_none {σ : L2.St} {i j : Nat} {x y : Option V} : i ≠ j → (σ.set i x).set j y = (σ.set j y).set i x := fun h => List.set_comm x y h
theorem wipe_get {σ : L2.St} {j : Nat} : ∀ (vs : List Nat), (wipe σ vs)[j]? = if j ∈ vs then (σ[j]?).map (fun _ => none) else σ[j]?
  | [] => by rw [if_neg (by simp)]; rfl
  | v :: vs => by
    have ih := wipe_get (σ := σ) (j := j) vs
    show ((wipe σ vs).set v none)[j]? = _
    rw [List.getElem?_set, wipe_length]
    by_cases h : v = j
    · subst h
      rw [if_pos rfl, if_pos List.mem_cons_self]
      by_cases hl : v < σ.length
      · rw [if_pos hl, List.getElem?_eq_getElem hl]; rfl
      · rw [if_neg hl, List.getElem?_eq_none (by omega)]; rfl
    · rw [if_neg h, ih]
      by_cases hm : j ∈ vs
      · rw [if_pos hm, if_pos (List.mem_cons_of_mem _ hm)]
      · rw [if_neg hm, if_neg (by simp [hm]; exact fun e => h e.symm)]
theorem wipe_off {σ σ2 : L2.St} {is vs : List Nat} (o : Off is (wipe σ vs) σ2) (h : ∀ j ∈ is, j ∈ vs) : wipe σ2 vs = wipe σ vs := by
  apply List.ext_getElem?
  intro j
  rw [wipe_get, wipe_get]
  by_cases hm : j ∈ vs
  · rw [if_pos hm, if_pos hm]
    have hl : σ2.length = σ.length := by rw [o.1, wipe_length]
    by_cases h2 : j < σ.length
    · rw [List.getElem?_eq_getElem h2, List.getElem?_eq_getElem (by rw [hl]; exact h2)]; rfl
    · rw [List.getElem?_eq_none (by omega), List.getElem?_eq_none (by omega)]
  · rw [if_neg hm, if_neg hm, o.2 j (fun z => hm (h j z)), wipe_get, if_neg hm]
abbrev BX (X : Cx) (scope : Scope) (s : Shared) (H : Hp) (C : Addr) (cl : List (Str × Addr)) (fp : List Addr) : Cx := X.blk s H scope (compEnvC scope cl C X.env) fp
def outs (c : D → Bool) (f : D → D) (ds : List D) : List D := (ds.filter c).map f
theorem outs_snoc (c : D → Bool) (f : D → D) (ds : List D) (d : D) : outs c f (ds ++ [d]) = outs c f ds ++ if c d then [f d] else [] := by
  unfold outs
  rw [List.filter_append, List.map_append]
  cases h : c d <;> simp [List.filter, h]
theorem outs_len (c : D → Bool) (f : D → D) (ds : List D) : (outs c f ds).length ≤ ds.length := by
  unfold outs; rw [List.length_map]; exact List.length_filter_le _ _
theorem outs_all (f : D → D) (ds : List D) : outs (fun _ => true) f ds = ds.map f := by
  unfold outs; rw [List.filter_eq_self.mpr (fun _ _ => rfl)]

section
variable {X : Cx} {Δ : List Sl} {elt tg iter cnd : Expr} {ifs : List Expr} {scope : Scope} {own : List (Str × Nat)} {ds : List D} {pos pos' py : Pos} {c : D → Bool} {f : D → D}
theorem lc_run {tt : TT} {vs : List Nat} (hlen : ds.length ≤ sizeLine) (hi : IT X Δ tg iter ds)
    (hb : ∀ d ∈ ds, ∃ is Δ1, (∀ j ∈ is, j ∈ vs) ∧ (∀ s H C cl fp, GV (BX X scope s H C cl fp) is tg d (wipD Δ vs) Δ1) ∧
      (∀ (G0 H0 F H : Hp) (σ : L2.St), Stt X.K G0 H0 F H σ Δ1 → ∀ Q : Bool → Hp → Prop, (∀ F' H', Ext F H F' H' → Q (c d) H') → tt σ H Q) ∧
      (c d = true → ∀ s H C cl fp, EV (BX X scope s H C cl fp) Δ1 true elt (f d)))
    {G0 H0 F H : Hp} {σ : L2.St} (S : Stt X.K G0 H0 F H σ Δ) {Q : VK} (q : ∀ p vs F' H', Ext F H F' H' → H p = none → H' p = some (.lst vs) → F' p = none → RL X.K F' (outs c f ds) vs → Q (.ref p) H') :
    tLc (uI X tg iter) (fun v σ H Q => ∀ s H' C cl fp, uG (BX X scope s H' C cl fp) tg v σ H Q) tt (fun σ H Q => ∀ s H' C cl fp, uE (BX X scope s H' C cl fp) elt σ H Q) vs σ H Q := by
  refine hi G0 H0 F H σ S _ fun J F1 H1 e1 W => fun D nD => ?_
  refine lc_it (g := fun v σ H Q => ∀ s H' C cl fp, uG (BX X scope s H' C cl fp) tg v σ H Q) (tt := tt) (te := fun σ H Q => ∀ s H' C cl fp, uE (BX X scope s H' C cl fp) elt σ H Q) (vs := vs) (σ := σ) (Qd := fun H' => Q (.ref D) H') (J := J) (n := ds.length) (G := Sub F1) (Y := J.yld) ⟨fun i H hi s => W.go i H hi s, fun H s => W.stop H s, fun i H x H' hi s y => y⟩
    (fun i H2 => ∃ F2 acc, Ext F1 H1 F2 H2 ∧ H2 D = some (.lst acc) ∧ F2 D = none ∧ RL X.K F2 (outs c f (ds.take i)) acc)
    ⟨F1, [], Ext.grow e1.fh (Sub.new nD), upd_same, e1.fh.none nD, by rw [List.take_zero]; exact RL.nil⟩ (fun i H2 _ ⟨F2, acc, x, _⟩ => x.f.tr x.fh)
    (fun i v H2 H3 hil ⟨F2, acc, x2, hD, fD, rl⟩ y => ?_) (fun H2 ⟨F2, acc, x2, hD, fD, rl⟩ => ?_)
  · have hd' : ds[i]? = some ds[i] := List.getElem?_eq_getElem hil
    generalize ds[i] = d at hd'
    obtain ⟨F3, e3, r3⟩ := W.yld i d H2 v H3 F2 hd' x2.f x2.fh y
    obtain ⟨is, Δ1, his, hg, ht, he⟩ := hb d (List.mem_of_getElem? hd')
    have S3 := ((S.ext (e1.tr (x2.tr e3))).wip vs)
    have e13 := x2.tr e3
    have tk : outs c f (ds.take (i + 1)) = outs c f (ds.take i) ++ if c d then [f d] else [] := by
      rw [List.take_add_one, hd']; exact outs_snoc _ _ _ _
    have keepD : ∀ {F4 H4 : Hp}, Ext F2 H2 F4 H4 → F4 D = none := fun {F4 H4} x4 => by
      cases z : F4 D with
      | none => rfl
      | some o =>
        rcases x4.fr D o z with w | w
        · rw [fD] at w; cases w
        · rw [hD] at w; cases w
    intro s HH C cl fp
    refine hg s HH C cl fp G0 H0 F3 H3 _ v S3 r3 _ fun σ2 o2 S4 => ⟨wipe_off o2 his, ?_⟩
    refine ht G0 H0 F3 H3 σ2 S4 _ fun F5 H5 e5 => ?_
    cases hcd : c d with
    | false =>
      rw [if_neg Bool.false_ne_true]
      rw [hcd, if_neg Bool.false_ne_true, List.append_nil] at tk
      refine ⟨F5, acc, e13.tr e5, (e3.tr e5).h _ _ hD, keepD (e3.tr e5), ?_⟩
      rw [tk]
      exact rl.mono (e3.tr e5).f
    | true =>
      rw [if_pos rfl]
      rw [hcd, if_pos rfl] at tk
      intro s HH C cl fp
      refine he hcd s HH C cl fp G0 H0 F5 H5 σ2 (S4.ext e5) _ fun yv F6 H6 e6 r6 => ?_
      have e26 := e3.tr (e5.tr e6)
      have e16 := x2.tr e26
      have r6 : R X.K F6 (f d) yv := r6
      refine ⟨acc, e26.h _ _ hD, ?_, F6, acc ++ [yv], ⟨e16.f, fun a o z => ?_, fun a o z => ?_, e16.fr⟩, upd_same, keepD e26, ?_⟩
      · have h1 := rl.length
        have h2 := outs_len c f (ds.take i)
        rw [List.length_take] at h2
        omega
      · rw [upd_ne (fun w => by subst w; rw [nD] at z; cases z)]; exact e16.h a o z
      · rw [upd_ne (fun w => by subst w; rw [keepD e26] at z; cases z)]; exact e16.fh a o z
      · rw [tk]
        exact (rl.mono e26.f).append (RL.cons r6 RL.nil)
  · rw [List.take_length] at rl
    exact q D acc F2 H2 (e1.tr x2) (e1.h.none nD) hD fD rl
theorem pg_b {s H C cl fp} : PG (BX X scope s H C cl fp) tg (fun v σ H Q => ∀ s H' C cl fp, uG (BX X scope s H' C cl fp) tg v σ H Q) := ⟨fun pins s' σ H' v u Q I r h => (h s H C cl fp).run pins s' u I r⟩
theorem pe_b {s H C cl fp} : PE (BX X scope s H C cl fp) elt (fun σ H Q => ∀ s H' C cl fp, uE (BX X scope s H' C cl fp) elt σ H Q) := ⟨fun pins s' σ H' Q I h => (h s H C cl fp).run pins s' I⟩
theorem pt_b {s H C cl fp} : PT (BX X scope s H C cl fp) cnd (fun σ H Q => ∀ s H' C cl fp, uT (BX X scope s H' C cl fp) cnd σ H Q) := ⟨fun pins s' σ H' Q I h => (h s H C cl fp).run pins s' I⟩
/-- [elt for tg in iter] -/
theorem eo_lc (own : List (Str × Nat)) (f : D → D) (hlen : ds.length ≤ sizeLine) (hi : IT X Δ tg iter ds)
    (hb : ∀ d ∈ ds, ∃ is Δ1, (∀ j ∈ is, j ∈ own.map (·.2)) ∧ (∀ s H C cl fp, GV (BX X scope s H C cl fp) is tg d (wipD Δ (own.map (·.2))) Δ1) ∧ (∀ s H C cl fp, EV (BX X scope s H C cl fp) Δ1 true elt (f d)))
    (hN : X.N.Nodup) (ok : BlkOk X.N X.env.scope scope own) (hc : X.calm = true := by rfl) (hs : ∀ x, foldedSetIterable iter X.env x = pure x := by intro _; rfl) : EO X Δ (.ListComp elt [⟨tg, iter, [], 0⟩] scope pos) (ds.map f) := by
  intro G0 H0 F H σ S Q q
  refine eU (pe_lc hc hN pi_u ok (fun _ _ _ _ _ => pg_b) (fun _ _ _ _ _ => pts_nil) (fun _ _ _ _ _ => pe_b) hs) ?_
  refine lc_run (c := fun _ => true) hlen hi (fun d hd => ?_) S (by rw [outs_all]; exact q)
  obtain ⟨is, Δ1, h1, h2, h3⟩ := hb d hd
  exact ⟨is, Δ1, h1, h2, fun G0 H0 F H σ S Q q => q F H (Ext.rf S.fh), fun _ => h3⟩
/-- [elt for tg in iter if cnd] -/
theorem eo_lcf (own : List (Str × Nat)) (c : D → Bool) (f : D → D) (hlen : ds.length ≤ sizeLine) (hi : IT X Δ tg iter ds)
    (hb : ∀ d ∈ ds, ∃ is Δ1, (∀ j ∈ is, j ∈ own.map (·.2)) ∧ (∀ s H C cl fp, GV (BX X scope s H C cl fp) is tg d (wipD Δ (own.map (·.2))) Δ1) ∧ (∀ s H C cl fp, TV (BX X scope s H C cl fp) Δ1 cnd (c d)) ∧ (c d = true → ∀ s H C cl fp, EV (BX X scope s H C cl fp) Δ1 true elt (f d)))
    (hN : X.N.Nodup) (ok : BlkOk X.N X.env.scope scope own) (hc : X.calm = true := by rfl) (hs : ∀ x, foldedSetIterable iter X.env x = pure x := by intro _; rfl) : EO X Δ (.ListComp elt [⟨tg, iter, [cnd], 0⟩] scope pos) ((ds.filter c).map f) := by
  intro G0 H0 F H σ S Q q
  refine eU (pe_lc hc hN pi_u ok (fun _ _ _ _ _ => pg_b) (fun _ _ _ _ _ => pts_one pt_b) (fun _ _ _ _ _ => pe_b) hs) ?_
  refine lc_run (c := c) hlen hi (fun d hd => ?_) S q
  obtain ⟨is, Δ1, h1, h2, h3, h4⟩ := hb d hd
  exact ⟨is, Δ1, h1, h2, fun G0 H0 F H σ S Q q s H' C cl fp => h3 s H' C cl fp G0 H0 F H σ S Q q, h4⟩
/-- y = [elt for tg in iter], on one row -/
theorem sm_lc {i : Nat} {y : Str} {C : Out → Prop} (own : List (Str × Nat)) (f : D → D) (hlen : ds.length ≤ sizeLine) (hy : X.N[i]? = some y) (hyl : X.env.scope.names.lookup y = some .local) (hi : IT X Δ tg iter ds)
    (hb : ∀ d ∈ ds, ∃ is Δ1, (∀ j ∈ is, j ∈ own.map (·.2)) ∧ (∀ s H C cl fp, GV (BX X scope s H C cl fp) is tg d (wipD Δ (own.map (·.2))) Δ1) ∧ (∀ s H C cl fp, EV (BX X scope s H C cl fp) Δ1 true elt (f d)))
    (k : C (.nx (Δ.set i (.o (ds.map f))))) (hN : X.N.Nodup) (ok : BlkOk X.N X.env.scope scope own) (hsw : swapsWith (.ListComp elt [⟨tg, iter, [], 0⟩] scope pos) (some (.Name y py)) pos'.line X.env = pure true := by exact sw_true rfl rfl rfl (by decide +kernel))
    (hc : X.calm = true := by rfl) (hs : ∀ x, foldedSetIterable iter X.env x = pure x := by intro _; rfl) : Sm X (.Assign [.Name y py] (.ListComp elt [⟨tg, iter, [], 0⟩] scope pos) pos') Δ C := by
  intro G0 H0 F H σ S D q
  refine sU1 (ps_setLc (i := i) hc hN hy hyl hsw pi_u ok (fun _ _ _ _ _ => pg_b) (fun _ _ _ _ _ => pts_nil) (fun _ _ _ _ _ => pe_b) hs) ?_
  refine lc_run (c := fun _ => true) hlen hi (fun d hd => ?_) S (fun p vs F' H' e n h1 f1 r => q _ k F' H' _ (S.seto e n h1 f1 (by rw [outs_all] at r; exact r)))
  obtain ⟨is, Δ1, h1, h2, h3⟩ := hb d hd
  exact ⟨is, Δ1, h1, h2, fun G0 H0 F H σ S Q q => q F H (Ext.rf S.fh), fun _ => h3⟩
theorem sm_lcf {i : Nat} {y : Str} {C : Out → Prop} (own : List (Str × Nat)) (c : D → Bool) (f : D → D) (hlen : ds.length ≤ sizeLine) (hy : X.N[i]? = some y) (hyl : X.env.scope.names.lookup y = some .local) (hi : IT X Δ tg iter ds)
    (hb : ∀ d ∈ ds, ∃ is Δ1, (∀ j ∈ is, j ∈ own.map (·.2)) ∧ (∀ s H C cl fp, GV (BX X scope s H C cl fp) is tg d (wipD Δ (own.map (·.2))) Δ1) ∧ (∀ s H C cl fp, TV (BX X scope s H C cl fp) Δ1 cnd (c d)) ∧ (c d = true → ∀ s H C cl fp, EV (BX X scope s H C cl fp) Δ1 true elt (f d)))
    (k : C (.nx (Δ.set i (.o ((ds.filter c).map f))))) (hN : X.N.Nodup) (ok : BlkOk X.N X.env.scope scope own) (hsw : swapsWith (.ListComp elt [⟨tg, iter, [cnd], 0⟩] scope pos) (some (.Name y py)) pos'.line X.env = pure true := by exact sw_true rfl rfl rfl (by decide +kernel))
    (hc : X.calm = true := by rfl) (hs : ∀ x, foldedSetIterable iter X.env x = pure x := by intro _; rfl) : Sm X (.Assign [.Name y py] (.ListComp elt [⟨tg, iter, [cnd], 0⟩] scope pos) pos') Δ C := by
  intro G0 H0 F H σ S D q
  refine sU1 (ps_setLc (i := i) hc hN hy hyl hsw pi_u ok (fun _ _ _ _ _ => pg_b) (fun _ _ _ _ _ => pts_one pt_b) (fun _ _ _ _ _ => pe_b) hs) ?_
  refine lc_run (c := c) hlen hi (fun d hd => ?_) S (fun p vs F' H' e n h1 f1 r => q _ k F' H' _ (S.seto e n h1 f1 r))
  obtain ⟨is, Δ1, h1, h2, h3, h4⟩ := hb d hd
  exact ⟨is, Δ1, h1, h2, fun G0 H0 F H σ S Q q s H' C cl fp => h3 s H' C cl fp G0 H0 F H σ S Q q, h4⟩
theorem blk_of {N ps N' : List Str} {sc scope sc' : Scope} {own : List (Str × Nat)} (S : FnScope N ps sc) (h : blkC N sc scope own = true) (e1 : N = N') (e2 : sc = sc') : BlkOk N' sc' scope own := by subst e1 e2; exact blkOk_by h
end
end Z

namespace Z
open PySem PySem.Spec PyProof.Rows L2

def D.toI : D → Int | .int i => i | _ => 0
def D.toS : D → Str | .str z => z | _ => ⟨#[]⟩
def D.toB : D → Bool | .bl b => b | _ => false
def D.toL : D → List D | .lst l => l | .tup l => l | _ => []

/-! ### == of data -/
mutual
def toPy : D → PyData
  | .non => .none | .bl b => .bool b | .int i => .int i | .str x => .str x | .scr ns => .list (ns.map PyData.int)
  | .lst ds => .list (toPys ds) | .tup ds => .tuple (toPys ds) | .obj _ _ => .none
def toPys : List D → List PyData
  | [] => [] | d :: ds => toPy d :: toPys ds
end
mutual
/-- data that == compares, not deeper than n -/
def eqOk : Nat → D → Bool
  | _, .non => true | _, .bl _ => true | _, .int _ => true | _, .str x => PyData.strOk x | _, .scr _ => false | _, .obj _ _ => false
  | 0, .lst _ => false | 0, .tup _ => false
  | n + 1, .lst ds => eqOks n ds | n + 1, .tup ds => eqOks n ds
def eqOks : Nat → List D → Bool
  | _, [] => true
  | n, d :: ds => eqOk n d && eqOks n ds
end
mutual
theorem eqOk_lay : ∀ (n : Nat) (d : D), eqOk n d = true → (toPy d).canLay0 = true ∧ (toPy d).depth ≤ n
  | n, .non, _ => by simp [toPy, PyData.canLay0, PyData.depth]
  | n, .bl _, _ => by simp [toPy, PyData.canLay0, PyData.depth]
  | n, .int _, _ => by simp [toPy, PyData.canLay0, PyData.depth]
  | n, .str x, h => by
    refine ⟨?_, by simp [toPy, PyData.depth]⟩
    rw [toPy, PyData.canLay0]
    cases n <;> (rw [eqOk] at h; exact h)
  | n, .scr _, h => by cases n <;> (rw [eqOk] at h; cases h)
  | n, .obj _ _, h => by cases n <;> (rw [eqOk] at h; cases h)
  | 0, .lst _, h => by rw [eqOk] at h; cases h
  | 0, .tup _, h => by rw [eqOk] at h; cases h
  | n + 1, .lst ds, h => by
    rw [eqOk] at h
    obtain ⟨a, b⟩ := eqOks_lay n ds h
    rw [toPy, PyData.canLay0, PyData.depth]
    exact ⟨a, by omega⟩
  | n + 1, .tup ds, h => by
    rw [eqOk] at h
    obtain ⟨a, b⟩ := eqOks_lay n ds h
    rw [toPy, PyData.canLay0, PyData.depth]
    exact ⟨a, by omega⟩
theorem eqOks_lay : ∀ (n : Nat) (ds : List D), eqOks n ds = true → PyData.canLayAll0 (toPys ds) = true ∧ PyData.depthAll (toPys ds) ≤ n
  | n, [], _ => by simp [toPys, PyData.canLayAll0, PyData.depthAll]
  | n, d :: ds, h => by
    rw [eqOks, Bool.and_eq_true] at h
    obtain ⟨a, b⟩ := eqOk_lay n d h.1
    obtain ⟨a2, b2⟩ := eqOks_lay n ds h.2
    rw [toPys, PyData.canLayAll0, PyData.depthAll, Bool.and_eq_true]
    exact ⟨⟨a, a2⟩, by omega⟩
end
theorem eqOk_shaped {d : D} (h : eqOk 64 d = true) : SeqAt.shaped (toPy d) = true := by
  obtain ⟨a, b⟩ := eqOk_lay 64 d h
  unfold SeqAt.shaped
  rw [a, decide_eq_true b]; rfl
theorem eqOks_ints (n : Nat) : ∀ ns : List Int, eqOks n (ns.map D.int) = true
  | [] => by cases n <;> rfl
  | i :: ns => by
    rw [List.map_cons, eqOks, eqOks_ints n ns]
    cases n <;> rfl
theorem eqOk_ints (n : Nat) (ns : List Int) : eqOk (n + 1) (.lst (ns.map D.int)) = true := by rw [eqOk]; exact eqOks_ints n ns
theorem eqOks_of (n : Nat) : ∀ ds : List D, (∀ d ∈ ds, eqOk n d = true) → eqOks n ds = true
  | [], _ => by cases n <;> rfl
  | d :: ds, h => by
    rw [eqOks, h d List.mem_cons_self, eqOks_of n ds fun e he => h e (List.mem_cons_of_mem _ he)]; rfl
theorem eqOk_lists (n : Nat) (rs : List (List Int)) : eqOk (n + 2) (.lst (rs.map fun r => D.lst (r.map D.int))) = true := by
  rw [eqOk]
  refine eqOks_of _ _ fun d hd => ?_
  obtain ⟨r, _, rfl⟩ := List.mem_map.mp hd
  exact eqOk_ints n r
mutual
theorem dp_of {K : PySem.W.Frag} {H : Hp} : ∀ (n : Nat) (d : D) (v : V), eqOk n d = true → R K H d v → Dp K H v (toPy d)
  | n, .non, v, _, r => by rw [r_non.mp r, toPy]; exact .non
  | n, .bl b, v, _, r => by rw [r_bl.mp r, toPy]; exact .bl b
  | n, .int i, v, _, r => by rw [r_int.mp r, toPy]; exact .int i
  | n, .str x, v, _, r => by rw [r_str.mp r, toPy]; exact .str x
  | n, .scr _, v, h, r => by cases n <;> (rw [eqOk] at h; cases h)
  | n, .obj _ _, v, h, r => by cases n <;> (rw [eqOk] at h; cases h)
  | 0, .lst _, v, h, r => by rw [eqOk] at h; cases h
  | 0, .tup _, v, h, r => by rw [eqOk] at h; cases h
  | n + 1, .lst ds, v, h, r => by
    rw [eqOk] at h
    obtain ⟨a, vs, rfl, g, l⟩ := r_lst.mp r
    rw [toPy]
    exact .lst (SqL.of g) (dps_of n ds vs h l)
  | n + 1, .tup ds, v, h, r => by
    rw [eqOk] at h
    obtain ⟨a, vs, rfl, g, l⟩ := r_tup.mp r
    rw [toPy]
    exact .tup (SqT.of g) (dps_of n ds vs h l)
theorem dps_of {K : PySem.W.Frag} {H : Hp} : ∀ (n : Nat) (ds : List D) (vs : List V), eqOks n ds = true → RL K H ds vs → DpAll K H vs (toPys ds)
  | n, [], vs, _, r => by rw [rl_nil.mp r, toPys]; exact .nil
  | n, d :: ds, vs, h, r => by
    rw [eqOks, Bool.and_eq_true] at h
    obtain ⟨v, vs', rfl, a, b⟩ := rl_cons.mp r
    rw [toPys]
    exact .cons (dp_of n d v h.1 a) (dps_of n ds vs' h.2 b)
end
section
variable {X : Cx} {Δ : List Sl} {m : Bool} {e a b c o : Expr} {es : List Expr} {d x y : D} {ds : List D} {pos p p2 apos : Pos} {n : Str}
theorem ev_eqD (ha : EV X Δ false a x) (hb : EV X Δ false b y) (hu : X.A.units + 64 < cLine) (h1 : eqOk 64 x = true) (h2 : eqOk 64 y = true) : EV X Δ m (.Compare a [.Eq] [b] pos) (.bl (PyData.eqv (toPy x) (toPy y))) := by
  intro G0 H0 F H σ S Q q
  refine eU (pe_cmpR (op_eqD hu) pe_u pe_u (nomark _)) (two ha hb S fun v w F' H' e r1 r2 => ?_)
  exact ⟨_, _, dp_of 64 x v h1 r1, dp_of 64 y w h2 r2, eqOk_shaped h1, eqOk_shaped h2, q _ F' H' e (r_bl.mpr rfl)⟩
theorem ev_neD (ha : EV X Δ false a x) (hb : EV X Δ false b y) (hu : X.A.units + 64 < cLine) (h1 : eqOk 64 x = true) (h2 : eqOk 64 y = true) : EV X Δ m (.Compare a [.NotEq] [b] pos) (.bl (!PyData.eqv (toPy x) (toPy y))) := by
  intro G0 H0 F H σ S Q q
  refine eU (pe_cmpR (op_neD hu) pe_u pe_u (nomark _)) (two ha hb S fun v w F' H' e r1 r2 => ?_)
  exact ⟨_, _, dp_of 64 x v h1 r1, dp_of 64 y w h2 r2, eqOk_shaped h1, eqOk_shaped h2, q _ F' H' e (r_bl.mpr rfl)⟩
theorem eqv_self (h : eqOk 64 x = true) : PyData.eqv (toPy x) (toPy x) = true := SeqAt.eqv_refl _ (eqOk_lay 64 x h).1
/-- the same datum twice -/
theorem ev_eqR (ha : EV X Δ false a x) (hb : EV X Δ false b x) (hu : X.A.units + 64 < cLine) (h1 : eqOk 64 x = true) : EV X Δ m (.Compare a [.Eq] [b] pos) (.bl true) := by
  have := ev_eqD (m := m) (pos := pos) ha hb hu h1 h1
  rw [eqv_self h1] at this; exact this
theorem ev_neR (ha : EV X Δ false a x) (hb : EV X Δ false b x) (hu : X.A.units + 64 < cLine) (h1 : eqOk 64 x = true) : EV X Δ m (.Compare a [.NotEq] [b] pos) (.bl false) := by
  have := ev_neD (m := m) (pos := pos) ha hb hu h1 h1
  rw [eqv_self h1] at this; exact this
theorem tv_of_ev {op : CmpOp} {t : Bool} {r : R2} (ho : OpR X (compareOp op) r) (hm : behindInMarks op b = false) (ha : EV X Δ false a x) (hb : EV X Δ false b y) (h : ∀ v w H, R X.K H x v → R X.K H y w → ∀ Q : VK, Q (.bl t) H → r v w H Q) : TV X Δ (.Compare a [op] [b] pos) t :=
  tv_cmp ho hm fun G0 H0 F H σ S Q q => two ha hb S fun v w F' H' e r1 r2 => h v w H' r1 r2 Q (q _ F' H' e rfl)
theorem tv_eqR (ha : EV X Δ false a x) (hb : EV X Δ false b x) (hu : X.A.units + 64 < cLine) (h1 : eqOk 64 x = true) : TV X Δ (.Compare a [.Eq] [b] pos) true :=
  tv_of_ev (op_eqD hu) (nomark _) ha hb fun v w H r1 r2 Q q => ⟨_, _, dp_of 64 x v h1 r1, dp_of 64 x w h1 r2, eqOk_shaped h1, eqOk_shaped h1, by rw [eqv_self h1]; exact q⟩
theorem tv_neR (ha : EV X Δ false a x) (hb : EV X Δ false b x) (hu : X.A.units + 64 < cLine) (h1 : eqOk 64 x = true) : TV X Δ (.Compare a [.NotEq] [b] pos) false :=
  tv_of_ev (op_neD hu) (nomark _) ha hb fun v w H r1 r2 Q q => ⟨_, _, dp_of 64 x v h1 r1, dp_of 64 x w h1 r2, eqOk_shaped h1, eqOk_shaped h1, by rw [eqv_self h1]; exact q⟩
theorem tv_eqD (ha : EV X Δ false a x) (hb : EV X Δ false b y) (hu : X.A.units + 64 < cLine) (h1 : eqOk 64 x = true) (h2 : eqOk 64 y = true) : TV X Δ (.Compare a [.Eq] [b] pos) (PyData.eqv (toPy x) (toPy y)) :=
  tv_of_ev (op_eqD hu) (nomark _) ha hb fun v w H r1 r2 Q q => ⟨_, _, dp_of 64 x v h1 r1, dp_of 64 y w h2 r2, eqOk_shaped h1, eqOk_shaped h2, q⟩
theorem tv_neD (ha : EV X Δ false a x) (hb : EV X Δ false b y) (hu : X.A.units + 64 < cLine) (h1 : eqOk 64 x = true) (h2 : eqOk 64 y = true) : TV X Δ (.Compare a [.NotEq] [b] pos) (!PyData.eqv (toPy x) (toPy y)) :=
  tv_of_ev (op_neD hu) (nomark _) ha hb fun v w H r1 r2 Q q => ⟨_, _, dp_of 64 x v h1 r1, dp_of 64 y w h2 r2, eqOk_shaped h1, eqOk_shaped h2, q⟩

/-! ### in a list of flat things -/
theorem flat_V {K : PySem.W.Frag} {G : Hp} {v : V} (f : flat x = true) (r : R K G x v) : flatV v = true := by
  cases x <;> first
    | (unfold R at r; rw [r]; rfl)
    | (exact absurd f (by simp [flat]))
theorem flats_V {K : PySem.W.Frag} {G : Hp} : ∀ {ds : List D} {vs : List V}, ds.all flat = true → RL K G ds vs → vs.all flatV = true
  | [], _, _, h => by rw [rl_nil.mp h]; rfl
  | d :: ds, _, f, h => by
    obtain ⟨v, vs', rfl, a, b⟩ := rl_cons.mp h
    rw [List.all_cons, Bool.and_eq_true] at f
    rw [List.all_cons, flat_V f.1 a, flats_V f.2 b]; rfl
theorem flats_toV {K : PySem.W.Frag} {G : Hp} : ∀ {ds : List D} {vs : List V}, ds.all flat = true → RL K G ds vs → vs = ds.map toV
  | [], _, _, h => by rw [rl_nil.mp h]; rfl
  | d :: ds, _, f, h => by
    obtain ⟨v, vs', rfl, a, b⟩ := rl_cons.mp h
    rw [List.all_cons, Bool.and_eq_true] at f
    rw [r_flat f.1 a, flats_toV f.2 b]; rfl
def inD (x : D) (ds : List D) : Bool := inV (toV x) (ds.map toV)
theorem flat_ints (ns : List Int) : (ns.map D.int).all flat = true := by rw [List.all_map]; exact List.all_eq_true.mpr fun _ _ => rfl
theorem flat_strs (ns : List Str) : (ns.map D.str).all flat = true := by rw [List.all_map]; exact List.all_eq_true.mpr fun _ _ => rfl
theorem inD_ints (i : Int) (ns : List Int) : inD (.int i) (ns.map D.int) = decide (i ∈ ns) := by
  unfold inD inV
  induction ns with
  | nil => rfl
  | cons k ns ih =>
    rw [List.map_cons, List.map_cons, List.any_cons, ih]
    show (eqV (.int k) (.int i) || _) = _
    by_cases h : k = i
    · subst h; simp [eqV]
    · have : ¬ i = k := fun e => h e.symm
      simp [eqV, h, this]
theorem ev_inL (ha : EV X Δ false a x) (hb : EV X Δ false b (.lst ds)) (f1 : flat x = true) (f2 : ds.all flat = true) (hm : behindInMarks .In b = false := by first | rfl | (with_unfolding_all rfl)) : EV X Δ m (.Compare a [.In] [b] pos) (.bl (inD x ds)) := by
  intro G0 H0 F H σ S Q q
  refine eU (pe_cmpR op_in_seq pe_u pe_u hm) (two ha hb S fun v w F' H' e r1 r2 => ?_)
  obtain ⟨p, vs, rfl, g, l⟩ := r_lst.mp r2
  refine ⟨p, vs, rfl, .inl (SqL.of g), flat_V f1 r1, flats_V f2 l, q _ F' H' e (r_bl.mpr ?_)⟩
  rw [r_flat f1 r1, flats_toV f2 l, if_neg Bool.false_ne_true]; rfl
theorem ev_ninL (ha : EV X Δ false a x) (hb : EV X Δ false b (.lst ds)) (f1 : flat x = true) (f2 : ds.all flat = true) (hm : behindInMarks .NotIn b = false := by first | rfl | (with_unfolding_all rfl)) : EV X Δ m (.Compare a [.NotIn] [b] pos) (.bl (!inD x ds)) := by
  intro G0 H0 F H σ S Q q
  refine eU (pe_cmpR op_notIn_seq pe_u pe_u hm) (two ha hb S fun v w F' H' e r1 r2 => ?_)
  obtain ⟨p, vs, rfl, g, l⟩ := r_lst.mp r2
  refine ⟨p, vs, rfl, .inl (SqL.of g), flat_V f1 r1, flats_V f2 l, q _ F' H' e (r_bl.mpr ?_)⟩
  rw [r_flat f1 r1, flats_toV f2 l, if_pos rfl]; rfl
theorem tv_inL (ha : EV X Δ false a x) (hb : EV X Δ false b (.lst ds)) (f1 : flat x = true) (f2 : ds.all flat = true) (hm : behindInMarks .In b = false := by first | rfl | (with_unfolding_all rfl)) : TV X Δ (.Compare a [.In] [b] pos) (inD x ds) :=
  tv_of_ev op_in_seq hm ha hb fun v w H r1 r2 Q q => by
    obtain ⟨p, vs, rfl, g, l⟩ := r_lst.mp r2
    refine ⟨p, vs, rfl, .inl (SqL.of g), flat_V f1 r1, flats_V f2 l, ?_⟩
    rw [r_flat f1 r1, flats_toV f2 l, if_neg Bool.false_ne_true]; exact q
theorem tv_ninL (ha : EV X Δ false a x) (hb : EV X Δ false b (.lst ds)) (f1 : flat x = true) (f2 : ds.all flat = true) (hm : behindInMarks .NotIn b = false := by first | rfl | (with_unfolding_all rfl)) : TV X Δ (.Compare a [.NotIn] [b] pos) (!inD x ds) :=
  tv_of_ev op_notIn_seq hm ha hb fun v w H r1 r2 Q q => by
    obtain ⟨p, vs, rfl, g, l⟩ := r_lst.mp r2
    refine ⟨p, vs, rfl, .inl (SqL.of g), flat_V f1 r1, flats_V f2 l, ?_⟩
    rw [r_flat f1 r1, flats_toV f2 l, if_pos rfl]; exact q
/-- a written tuple on the right -/
theorem tv_inT (ha : EV X Δ false a x) (hb : EV X Δ false b (.tup ds)) (f1 : flat x = true) (f2 : ds.all flat = true) (hm : behindInMarks .In b = false := by first | rfl | (with_unfolding_all rfl)) : TV X Δ (.Compare a [.In] [b] pos) (inD x ds) :=
  tv_of_ev op_in_seq hm ha hb fun v w H r1 r2 Q q => by
    obtain ⟨p, vs, rfl, g, l⟩ := r_tup.mp r2
    refine ⟨p, vs, rfl, .inr (SqT.of g), flat_V f1 r1, flats_V f2 l, ?_⟩
    rw [r_flat f1 r1, flats_toV f2 l, if_neg Bool.false_ne_true]; exact q

/-! ### texts -/
theorem ev_slS {lo hi : Option Expr} {l u : Option Int} {z : Str} (ha : EV X Δ false a (.str z)) (hl : OV X Δ lo l) (hu : OV X Δ hi u) (hz : z.length ≤ sizeLine) : EV X Δ m (.Subscript a (.Slice lo hi none p2) pos) (.str (cutS z l u)) := by
  refine EV.up (fun G0 H0 F H σ S Q q => ?_) rfl
  refine eU (pe_slice sl_str pe_u po_u po_u) (ha G0 H0 F H σ S _ fun v F1 H1 e1 r1 => ?_)
  refine hl G0 H0 F1 H1 σ (S.ext e1) _ fun F2 H2 e2 => hu G0 H0 F2 H2 σ (S.ext (e1.tr e2)) _ fun F3 H3 e3 => ?_
  exact ⟨z, r_str.mp r1, hz, q _ F3 H3 (e1.tr (e2.tr e3)) (r_str.mpr rfl)⟩
theorem ev_zfill {z : Str} {i : Int} (ho : EV X Δ false o (.str z)) (he : EV X Δ false e (.int i)) (hp : PadOk i = true) (hs : starEach [e] X.env = [(false, eval e X.env)] := by rfl) (hb : attributeBase o "zfill" X.env (eval o X.env) = eval o X.env := by rfl) (hl : (apos.endLine == pos.line) = true := by rfl) : EV X Δ m (.Call (.Attribute o "zfill" apos) [e] [] pos) (.str (Txt.zfill z i)) := by
  intro G0 H0 F H σ S Q q
  refine eU (pe_m1 PySem.F.slot_str_zfill PySem.F.type_str_zfill mt_zfill pe_u pe_u hs hb hl) (ho G0 H0 F H σ S _ fun v F' H' e r1 => ?_)
  refine ⟨⟨z, r_str.mp r1⟩, he G0 H0 F' H' σ (S.ext e) _ fun w F2 H2 e2 r2 => ?_⟩
  exact ⟨z, i, r_str.mp r1, by rw [r_int.mp r2], hp, q _ F2 H2 (e.tr e2) (r_str.mpr rfl)⟩
theorem ev_startswith {z t : Str} (ho : EV X Δ false o (.str z)) (he : EV X Δ false e (.str t)) (hs : starEach [e] X.env = [(false, eval e X.env)] := by rfl) (hb : attributeBase o "startswith" X.env (eval o X.env) = eval o X.env := by rfl) (hl : (apos.endLine == pos.line) = true := by rfl) : EV X Δ m (.Call (.Attribute o "startswith" apos) [e] [] pos) (.bl (Txt.startswith z t)) := by
  intro G0 H0 F H σ S Q q
  refine eU (pe_m1 PySem.F.slot_str_startswith PySem.F.type_str_startswith mt_startswith pe_u pe_u hs hb hl) (ho G0 H0 F H σ S _ fun v F' H' e r1 => ?_)
  refine ⟨⟨z, r_str.mp r1⟩, he G0 H0 F' H' σ (S.ext e) _ fun w F2 H2 e2 r2 => ?_⟩
  exact ⟨z, t, r_str.mp r1, by rw [r_str.mp r2], q _ F2 H2 (e.tr e2) (r_bl.mpr rfl)⟩
theorem ev_partition {z t : Str} (ho : EV X Δ false o (.str z)) (he : EV X Δ false e (.str t)) (h1 : (t.length == 0) = false) (h2 : z.length ≤ sizeLine) (hs : starEach [e] X.env = [(false, eval e X.env)] := by rfl) (hb : attributeBase o "partition" X.env (eval o X.env) = eval o X.env := by rfl) (hl : (apos.endLine == pos.line) = true := by rfl) : EV X Δ m (.Call (.Attribute o "partition" apos) [e] [] pos) (.tup [.str (Txt.partition z t).1, .str (Txt.partition z t).2.1, .str (Txt.partition z t).2.2]) := by
  refine EV.weak fun G0 H0 F H σ S Q q => ?_
  refine eU (pe_partition pe_u pe_u hs hb hl) (ho G0 H0 F H σ S _ fun v F' H' e r1 => ?_)
  refine ⟨⟨z, r_str.mp r1⟩, he G0 H0 F' H' σ (S.ext e) _ fun w F2 H2 e2 r2 => ?_⟩
  refine ⟨z, t, r_str.mp r1, by rw [r_str.mp r2], h1, h2, fun pp np => ?_⟩
  exact q _ _ _ ((e.tr e2).tr (Ext.put e2.fh np)) (r_tup.mpr ⟨pp, _, rfl, upd_same, RL.cons (r_str.mpr rfl) (RL.cons (r_str.mpr rfl) (RL.cons (r_str.mpr rfl) RL.nil))⟩)
theorem eo_split {z t : Str} (ho : EV X Δ false o (.str z)) (he : EV X Δ false e (.str t)) (h1 : (t.length == 0) = false) (h2 : z.length + 2 ≤ sizeLine) (hs : starEach [e] X.env = [(false, eval e X.env)] := by rfl) (hb : attributeBase o "split" X.env (eval o X.env) = eval o X.env := by rfl) (hl : (apos.endLine == pos.line) = true := by rfl) : EO X Δ (.Call (.Attribute o "split" apos) [e] [] pos) ((Txt.split z t).map D.str) := by
  intro G0 H0 F H σ S Q q
  refine eU (pe_split pe_u pe_u hs hb hl) (ho G0 H0 F H σ S _ fun v F' H' e r1 => ?_)
  refine ⟨⟨z, r_str.mp r1⟩, he G0 H0 F' H' σ (S.ext e) _ fun w F2 H2 e2 r2 => ?_⟩
  have x := e.tr e2
  refine ⟨z, t, r_str.mp r1, by rw [r_str.mp r2], h1, h2, fun pp np => ?_⟩
  exact q pp _ F2 _ (x.tr (Ext.grow x.fh (Sub.new np))) (x.h.none np) upd_same (x.fh.none np) RL.of_strs
theorem ev_inSign {k : Nat} {z : Str} (ha : EV X Δ false a (.str ⟨#[k]⟩)) (hb : EV X Δ false b (.str z)) (hm : behindInMarks .In b = false := by first | rfl | (with_unfolding_all rfl)) : EV X Δ m (.Compare a [.In] [b] pos) (.bl (decide (k ∈ z.cps.toList))) := by
  intro G0 H0 F H σ S Q q
  refine eU (pe_cmpR op_in_sign pe_u pe_u hm) (two ha hb S fun v w F' H' e r1 r2 => ?_)
  exact ⟨k, z, r_str.mp r1, r_str.mp r2, q _ F' H' e (r_bl.mpr rfl)⟩
theorem tv_ninSign {k : Nat} {z : Str} (ha : EV X Δ false a (.str ⟨#[k]⟩)) (hb : EV X Δ false b (.str z)) (hm : behindInMarks .NotIn b = false := by first | rfl | (with_unfolding_all rfl)) : TV X Δ (.Compare a [.NotIn] [b] pos) (!decide (k ∈ z.cps.toList)) :=
  tv_of_ev op_notIn_sign hm ha hb fun v w H r1 r2 Q q => ⟨k, z, r_str.mp r1, r_str.mp r2, q⟩
end
end Z

local macro_rules | `(tactic| walk_at "sc") => `(tactic| first
  | with_reducible assumption | with_reducible rfl
  | (with_reducible refine Z.mulokR ?_ ?_ <;> omega) | (with_reducible refine Z.mulokL ?_ ?_ <;> omega) | (with_reducible refine Z.divok ?_ ?_ <;> omega) | (with_reducible refine Z.powok ?_ ?_ ?_ ?_ <;> omega)
  | omega
  | (with_reducible refine Z.at_get (by assumption) ?_ <;> assumption) | decide)

namespace Y
open PySem PySem.Spec PyProof.Rows L2 TL Z
def topS (i : Nat) : Stmt := PySem.Challenge.pw_rentshare_k05_shares_written.main.body.getD i (.Pass ⟨0, 0, 0, 0⟩)
abbrev s_common : Stmt := topS 1
abbrev s_show_amount : Stmt := topS 3
abbrev s_show_share : Stmt := topS 4
abbrev s_mixed : Stmt := topS 6
abbrev s_number : Stmt := topS 7
abbrev s_written : Stmt := topS 8
abbrev s_lcommon : Stmt := topS 9
abbrev s_ltext : Stmt := topS 10
abbrev s_law : Stmt := topS 11
section
variable {P : Program} {w : World} {K : PySem.W.Frag} {mg : Str → Option Value} {base : Heap}
/-! ### amounts as texts -/
def amtN (a : Nat) : List Nat := numL (a / 100) ++ [46, 48 + a / 10 % 10, 48 + a % 10]
def amtL (n : Int) : List Nat := (if n < 0 then [45] else []) ++ amtN n.natAbs
def amt (n : Int) : Str := ⟨(amtL n).toArray⟩
theorem tl_amt (n : Int) : tl (amt n) = amtL n := rfl
theorem numL_first (n : Nat) : ∃ d r, numL n = (48 + d) :: r ∧ d < 10 := by
  have h1 := numL_digits n
  cases e : numL n with
  | nil => exact absurd e (numL_ne n)
  | cons c r =>
    have := h1 c (by rw [e]; exact List.mem_cons_self)
    exact ⟨c - 48, r, by congr 1; omega, by omega⟩
theorem tl_zfill (x : Str) (k : Nat) (h : ∃ d r, tl x = (48 + d) :: r ∧ d < 10) : tl (Txt.zfill x (k : Int)) = List.replicate (k - (tl x).length) 48 ++ tl x := by
  unfold Txt.zfill
  have hl := len_tl x
  by_cases q : (k : Int) ≤ x.length
  · rw [if_pos q]
    have : k - (tl x).length = 0 := by omega
    rw [this]; rfl
  · rw [if_neg q]
    obtain ⟨d, r, e, hd⟩ := h
    unfold zfilled
    have e0 : x.cps[0]? = some (48 + d) := by
      have : (tl x)[0]? = some (48 + d) := by rw [e]; rfl
      rw [← this]; unfold tl; rw [Array.getElem?_toList]
    rw [e0]
    have hne1 : 48 + d ≠ 43 := by omega
    have hne2 : 48 + d ≠ 45 := by omega
    split
    · rename_i z; exact absurd (Option.some.inj z) hne1
    · rename_i z; exact absurd (Option.some.inj z) hne2
    · show (Builtin.Str.padded x ((k : Int).toNat - x.length) 0 48).cps.toList = _
      rw [padded_list]
      simp [tl]
      rfl
theorem tl_num_first (n : Nat) : ∃ d r, tl (Str.ofString (toString ((n : Nat) : Int))) = (48 + d) :: r ∧ d < 10 := by rw [tl_num]; exact numL_first n
theorem tl_zf (n k : Nat) : tl (Txt.zfill (Str.ofString (toString ((n : Nat) : Int))) (k : Int)) = List.replicate (k - (numL n).length) 48 ++ numL n := by
  rw [tl_zfill _ _ (tl_num_first n), tl_num]
theorem numL_two {a : Nat} (h : 10 ≤ a) (h2 : a < 100) : numL a = [48 + a / 10, 48 + a % 10] := by
  rw [numL_step h, numL_lt (by omega)]; rfl
theorem numL_big {a : Nat} (h : 100 ≤ a) : numL a = numL (a / 100) ++ [48 + a / 10 % 10, 48 + a % 10] := by
  rw [numL_step (by omega), numL_step (show 10 ≤ a / 10 by omega), Nat.div_div_eq_div_mul, List.append_assoc]; rfl
/-- two figures -/
theorem zf2 (a : Nat) : List.replicate (2 - (numL (a % 100)).length) 48 ++ numL (a % 100) = [48 + a / 10 % 10, 48 + a % 10] := by
  by_cases h : a % 100 < 10
  · rw [numL_lt h]
    show [48, 48 + a % 100] = _
    have e1 : a / 10 % 10 = 0 := by omega
    have e2 : a % 100 = a % 10 := by omega
    rw [e1, e2]
  · rw [numL_two (by omega) (by omega)]
    show [48 + a % 100 / 10, 48 + a % 100 % 10] = _
    have e1 : a % 100 / 10 = a / 10 % 10 := by omega
    have e2 : a % 100 % 10 = a % 10 := by omega
    rw [e1, e2]
/-- three figures or more, cut -/
theorem zf3 (a : Nat) : ∃ p, List.replicate (3 - (numL a).length) 48 ++ numL a = p ++ [48 + a / 10 % 10, 48 + a % 10] ∧ p = numL (a / 100) := by
  refine ⟨numL (a / 100), ?_, rfl⟩
  by_cases h : a < 10
  · rw [numL_lt h, numL_lt (show a / 100 < 10 by omega)]
    show [48, 48, 48 + a] = [48 + a / 100, 48 + a / 10 % 10, 48 + a % 10]
    have e1 : a / 100 = 0 := by omega
    have e2 : a / 10 % 10 = 0 := by omega
    have e3 : a % 10 = a := by omega
    rw [e1, e2, e3]
  · by_cases h2 : a < 100
    · rw [numL_two (by omega) h2, numL_lt (show a / 100 < 10 by omega)]
      show [48, 48 + a / 10, 48 + a % 10] = [48 + a / 100, 48 + a / 10 % 10, 48 + a % 10]
      have e1 : a / 100 = 0 := by omega
      have e2 : a / 10 % 10 = a / 10 := by omega
      rw [e1, e2]
    · rw [numL_big (by omega)]
      have hl : 3 ≤ (numL (a / 100) ++ [48 + a / 10 % 10, 48 + a % 10]).length := by
        have := List.length_pos_iff.mpr (numL_ne (a / 100))
        simp; omega
      have : 3 - (numL (a / 100) ++ [48 + a / 10 % 10, 48 + a % 10]).length = 0 := by omega
      rw [this]; rfl
theorem log_ok {a : Nat} (h : a < 10 ^ 50) : a.log2 < 1920 := PySem.Flt.log2_lt_of (by decide) (Nat.lt_of_lt_of_le h (by decide))
theorem tl_of {l : List Nat} {x : Str} (h : tl x = l) : x = ⟨l.toArray⟩ := by rw [← h, mk_tl]
theorem tl_dot : tl (Str.ofString ".") = [46] := by decide +kernel
theorem tl_minus : tl (Str.ofString "-") = [45] := by decide +kernel
theorem len_cat2 (x y : Str) : (x ++ y).length = x.length + y.length := by rw [len_tl, tl_append, List.length_append, ← len_tl, ← len_tl]
theorem amt_len {n : Int} (h : n.natAbs < 10 ^ 48) : (amt n).length ≤ 53 := by
  rw [len_tl, tl_amt]
  unfold amtL amtN
  have l1 : (numL (n.natAbs / 100)).length ≤ 49 := numL_len (by decide) (by omega)
  rw [List.length_append, List.length_append]
  have : (if n < 0 then [45] else ([] : List Nat)).length ≤ 1 := by split <;> simp
  simp; omega
theorem str_len {a k : Nat} (hk : 0 < k) (h : a < 10 ^ k) : (Str.ofString (toString ((a : Nat) : Int))).length ≤ k := by
  rw [len_tl, tl_num]; exact numL_len hk h

/-! ### common divisors -/
def gcdI (a b : Int) : Int := ((Nat.gcd a.natAbs b.natAbs : Nat) : Int)
theorem gcdI_nn (a b : Int) : 0 ≤ gcdI a b := Int.natCast_nonneg _
theorem gcdI_zero (a : Int) (h : 0 ≤ a) : gcdI a 0 = a := by unfold gcdI; simp; omega
theorem gcdI_step {a b : Int} (ha : 0 ≤ a) (hb : 0 < b) : gcdI b (a % b) = gcdI a b := by
  unfold gcdI
  have e : (a % b).natAbs = a.natAbs % b.natAbs := by
    rw [Int.natAbs_emod_of_nonneg ha]
  rw [e, Nat.gcd_comm a.natAbs, Nat.gcd_rec b.natAbs a.natAbs, Nat.gcd_comm]
theorem gcdI_dvd1 (a b : Int) : gcdI a b ∣ a := Int.ofNat_dvd_left.mpr (Nat.gcd_dvd_left _ _)
theorem gcdI_dvd2 (a b : Int) : gcdI a b ∣ b := Int.ofNat_dvd_left.mpr (Nat.gcd_dvd_right _ _)
theorem gcdI_pos {a b : Int} (h : a ≠ 0) : 0 < gcdI a b := by
  unfold gcdI
  have := Nat.gcd_pos_of_pos_left b.natAbs (Int.natAbs_pos.mpr h)
  omega
theorem gcdI_le {a b : Int} (h : 0 < a) : gcdI a b ≤ a := Int.le_of_dvd h (gcdI_dvd1 a b)
theorem gcdI_mul (c a b : Int) : gcdI (c * a) (c * b) = (c.natAbs : Int) * gcdI a b := by
  unfold gcdI
  rw [Int.natAbs_mul, Int.natAbs_mul, Nat.gcd_mul_left]; simp
/-- of a number and a list -/
def gcdL (a : Int) (l : List Int) : Int := l.foldl (fun g r => gcdI g (dabs r)) a
theorem gcdI_dabs (a b : Int) : gcdI a (dabs b) = gcdI a b := by
  unfold gcdI; rw [dabs_eq]; simp
theorem gcdL_cons (a r : Int) (l : List Int) : gcdL a (r :: l) = gcdL (gcdI a r) l := by
  show gcdL (gcdI a (dabs r)) l = _
  rw [gcdI_dabs]
theorem gcdL_snoc (a r : Int) (l : List Int) : gcdL a (l ++ [r]) = gcdI (gcdL a l) r := by
  unfold gcdL; rw [List.foldl_append]
  show gcdI _ (dabs r) = _
  rw [gcdI_dabs]
theorem gcdL_pos : ∀ {l : List Int} {a : Int}, 0 < a → 0 < gcdL a l
  | [], _, h => h
  | r :: l, a, h => by rw [gcdL_cons]; exact gcdL_pos (gcdI_pos (by omega))
theorem gcdL_nn : ∀ {l : List Int} {a : Int}, 0 ≤ a → 0 ≤ gcdL a l
  | [], _, h => h
  | r :: l, a, h => by rw [gcdL_cons]; exact gcdL_nn (gcdI_nn _ _)
theorem gcdL_dvd0 : ∀ (l : List Int) (a : Int), gcdL a l ∣ a
  | [], _ => ⟨1, by simp [gcdL]⟩
  | r :: l, a => by rw [gcdL_cons]; exact Int.dvd_trans (gcdL_dvd0 l _) (gcdI_dvd1 _ _)
theorem gcdL_dvd : ∀ (l : List Int) (a : Int) (x : Int), x ∈ l → gcdL a l ∣ x
  | r :: l, a, x, h => by
    rw [gcdL_cons]
    rcases List.mem_cons.mp h with rfl | h
    · exact Int.dvd_trans (gcdL_dvd0 l _) (gcdI_dvd2 _ _)
    · exact gcdL_dvd l _ x h
theorem gcdL_le {l : List Int} {a : Int} (h : 0 < a) : gcdL a l ≤ a := Int.le_of_dvd h (gcdL_dvd0 l a)
theorem gcdL_mul (c : Int) (hc : 0 ≤ c) : ∀ (l : List Int) (a : Int), gcdL (c * a) (l.map (c * ·)) = c * gcdL a l
  | [], _ => rfl
  | r :: l, a => by
    rw [List.map_cons, gcdL_cons, gcdL_cons, gcdI_mul]
    have e : (c.natAbs : Int) = c := by omega
    rw [e]; exact gcdL_mul c hc l _
/-- what is left over has no common divisor -/
theorem gcdL_low {l : List Int} {a : Int} (h : 0 < a) : gcdL (a / gcdL a l) (l.map (· / gcdL a l)) = 1 := by
  have hg := gcdL_pos (l := l) h
  have e1 : gcdL a l * (a / gcdL a l) = a := Int.mul_ediv_cancel' (gcdL_dvd0 l a)
  have e2 : (l.map (· / gcdL a l)).map (gcdL a l * ·) = l := by
    rw [List.map_map]
    conv => rhs; rw [← List.map_id l]
    refine List.map_congr_left fun x hx => ?_
    exact Int.mul_ediv_cancel' (gcdL_dvd l a x hx)
  have e3 := gcdL_mul (gcdL a l) (by omega) (l.map (· / gcdL a l)) (a / gcdL a l)
  rw [e1, e2] at e3
  have e4 : gcdL a l * gcdL (a / gcdL a l) (l.map (· / gcdL a l)) = gcdL a l * 1 := by rw [← e3]; omega
  exact Int.eq_of_mul_eq_mul_left (by omega) e4
theorem low_same {a g p : Int} (hg : 0 < g) (h1 : g ∣ a) (h2 : g ∣ p) : a / g * p = a * (p / g) := by
  obtain ⟨x, rfl⟩ := h1
  obtain ⟨y, rfl⟩ := h2
  rw [Int.mul_ediv_cancel_left _ (by omega), Int.mul_ediv_cancel_left _ (by omega)]
  rw [Int.mul_comm g x, Int.mul_assoc]

/-! ### shares as texts -/
def strI (n : Int) : Str := Str.ofString (toString n)
def shareT (n p : Int) : Str :=
  if n % p = 0 then amt (n / p) else amt (n / p) ++ Str.ofString "+" ++ strI (n % p / gcdI p (n % p)) ++ Str.ofString "/" ++ strI (p / gcdI p (n % p))
theorem gcdI_comm (a b : Int) : gcdI a b = gcdI b a := by unfold gcdI; rw [Nat.gcd_comm]
theorem strI_len {n : Int} (h0 : 0 ≤ n) (h1 : n < 10 ^ 9) : (strI n).length ≤ 9 := by
  obtain ⟨k, rfl⟩ : ∃ k : Nat, n = k := ⟨n.toNat, by omega⟩
  exact str_len (by decide) (by omega)
structure ShOk (n p : Int) : Prop where
  p0 : 0 < p
  p1 : p ≤ 1000000
  wb : (n / p).natAbs < 10 ^ 48
  r0 : 0 ≤ n % p
  r1 : n % p < p
  g0 : 0 < gcdI p (n % p)
  g1 : gcdI p (n % p) ≤ p
  a0 : 0 ≤ n % p / gcdI p (n % p)
  a1 : n % p / gcdI p (n % p) ≤ 1000000
  b0 : 0 ≤ p / gcdI p (n % p)
  b1 : p / gcdI p (n % p) ≤ 1000000
theorem sh_ok {n p : Int} (h1 : 0 < p) (h2 : p ≤ 1000000) (h3 : n.natAbs < 10 ^ 48) : ShOk n p := by
  have r0 := Int.emod_nonneg n (show p ≠ 0 by omega)
  have r1 := Int.emod_lt_of_pos n h1
  have g0 := gcdI_pos (a := p) (b := n % p) (by omega)
  have g1 := gcdI_le (b := n % p) h1
  have a1 := Int.ediv_le_self (gcdI p (n % p)) r0
  have b1 := Int.ediv_le_self (gcdI p (n % p)) (show 0 ≤ p by omega)
  exact ⟨h1, h2, Nat.lt_of_le_of_lt (Int.natAbs_ediv_le_natAbs n p) h3, r0, r1, g0, g1, Int.ediv_nonneg r0 (by omega), by omega, Int.ediv_nonneg (by omega) (by omega), by omega⟩
theorem len_plus : (Str.ofString "+").length = 1 := by decide +kernel
theorem len_slash : (Str.ofString "/").length = 1 := by decide +kernel
theorem small_log {n : Int} (h0 : 0 ≤ n) (h1 : n ≤ 1000000) : n.natAbs.log2 < 1920 := log_ok (by omega)

def sp_common : List D → Res → Prop := fun ds r => ∃ a b, ds = [.int a, .int b] ∧ 0 ≤ a ∧ 0 ≤ b ∧ r = .v (.int (gcdI a b))
theorem sc_common : FnScope ["one", "other", "rest"] ["one", "other"] (defScope s_common) := ⟨rfl, rfl, rfl, by decide +kernel, rfl, by decide +kernel, by decide +kernel⟩
theorem kn_common (T : At K mg "common" "common" s_common ["one", "other"]) : FnK P w K mg base CX0 "common" 1 sp_common := by
  obtain ⟨f, fd, Fn, hm, hb⟩ := T.ex
  refine ⟨f, fd, _, fn_ok Fn sc_common (fun ds r h => ?_) (fun cdv A outer s H E hr ds r h => ?_), hm, Fn.kp, hb⟩
  · obtain ⟨x0, x1, rfl, _⟩ := h; rfl
  · obtain ⟨a, b, rfl, h1, h2, rfl⟩ := h
    refine bk_cons (sm_whileV (fun m Δ => ∃ x y z, Δ = [.v (.int x), .v (.int y), z] ∧ 0 ≤ x ∧ 0 ≤ y ∧ gcdI x y = gcdI a b ∧ m = y.toNat) b.toNat ⟨a, b, _, rfl, h1, h2, rfl, rfl⟩ (fun m Δi hI => ?_))
    obtain ⟨x, y, z, rfl, x0, y0, hg, rfl⟩ := hI
    refine ⟨_, (tv_neI (ev_v (i := 1) rfl rfl) ev_int), fun hc => ?_, fun hc => ?_⟩
    · have hy : 0 < y := by simp at hc; omega
      refine bk_cons (sm_set (i := 2) sc_common.nd rfl (.inl rfl) (ev_mod (ev_v (i := 0) rfl rfl) (ev_v (i := 1) rfl rfl) hy) ?_)
      refine bk_cons (sm_set (i := 0) sc_common.nd rfl (.inl rfl) (ev_v (i := 1) rfl rfl) ?_)
      refine bk_cons (sm_set (i := 1) sc_common.nd rfl (.inl rfl) (ev_v (i := 2) rfl rfl) ?_)
      have m1 := Int.emod_nonneg x (show y ≠ 0 by omega)
      have m2 := Int.emod_lt_of_pos x hy
      exact bk_nil ⟨(x % y).toNat, by omega, y, x % y, _, rfl, y0, m1, by rw [gcdI_step x0 hy, hg], rfl⟩
    · have hy : y = 0 := by simpa using hc
      subst hy
      rw [gcdI_zero x x0] at hg
      subst hg
      exact bk_cons (sm_ret (ev_v (i := 0) rfl rfl) rfl)

def sp_show_amount : List D → Res → Prop := fun ds r => ∃ n : Int, ds = [.int n] ∧ n.natAbs < 10 ^ 48 ∧ r = .v (.str (amt n))
theorem sc_show_amount : FnScope ["number", "whole", "rest", "text"] ["number"] (defScope s_show_amount) := ⟨rfl, rfl, rfl, by decide +kernel, rfl, by decide +kernel, by decide +kernel⟩
theorem kn_show_amount (B : Bl mg) (T : At K mg "show_amount" "show_amount" s_show_amount ["number"]) : FnK P w K mg base CX0 "show_amount" 1 sp_show_amount := by
  obtain ⟨f, fd, Fn, hm, hb⟩ := T.ex
  refine ⟨f, fd, _, fn_ok Fn sc_show_amount (fun ds r h => ?_) (fun cdv A outer s H E hr ds r h => ?_), hm, Fn.kp, hb⟩
  · obtain ⟨x0, rfl, _⟩ := h; rfl
  · obtain ⟨n, rfl, hn, rfl⟩ := h
    have hsz := sizeLine_eq
    have e1 : dabs n / 100 = ((n.natAbs / 100 : Nat) : Int) := by rw [dabs_eq]; omega
    have e2 : dabs n % 100 = ((n.natAbs % 100 : Nat) : Int) := by rw [dabs_eq]; omega
    refine bk_cons (sm_asg (d := .tup [.int ((n.natAbs / 100 : Nat) : Int), .int ((n.natAbs % 100 : Nat) : Int)]) (EV.to (ev_divmod rfl B.divmod (ev_abs rfl B.abs (ev_v (i := 0) rfl rfl)) ev_int ⟨by decide, PyProof.noPylong_small (by decide)⟩) (by rw [e1, e2])) (gv_tup (gvs_cons (gv_name (i := 1) sc_show_amount.nd rfl (.inl rfl)) (gvs_cons (gv_name (i := 2) sc_show_amount.nd rfl (.inl rfl)) gvs_nil))) ?_)
    have l1 : (Str.ofString (toString ((n.natAbs / 100 : Nat) : Int))).length ≤ 50 := by
      rw [len_tl, tl_num]; exact numL_len (by decide) (by omega)
    have z1 := tl_zf (n.natAbs % 100) 2
    rw [zf2] at z1
    have l2 : (Txt.zfill (Str.ofString (toString ((n.natAbs % 100 : Nat) : Int))) (2 : Int)).length = 2 := by rw [len_tl]; show (tl (Txt.zfill _ ((2 : Nat) : Int))).length = 2; rw [z1]; rfl
    have ld : (Str.ofString ".").length = 1 := by rw [len_tl, tl_dot]; rfl
    have lm : (Str.ofString "-").length = 1 := by rw [len_tl, tl_minus]; rfl
    have lc : ∀ x y : Str, (x ++ y).length = x.length + y.length := fun x y => by rw [len_tl, tl_append, List.length_append, ← len_tl, ← len_tl]
    have ht : Str.ofString (toString ((n.natAbs / 100 : Nat) : Int)) ++ Str.ofString "." ++ Txt.zfill (Str.ofString (toString ((n.natAbs % 100 : Nat) : Int))) (2 : Int) = ⟨(amtN n.natAbs).toArray⟩ := by
      refine tl_of ?_
      rw [tl_append, tl_append, tl_num, tl_dot]
      show _ ++ tl (Txt.zfill _ ((2 : Nat) : Int)) = _
      rw [z1, List.append_assoc]; rfl
    have la : (⟨(amtN n.natAbs).toArray⟩ : Str).length ≤ 53 := by rw [← ht, lc, lc, ld, l2]; omega
    refine bk_cons (sm_set (i := 3) (d := .str ⟨(amtN n.natAbs).toArray⟩) sc_show_amount.nd rfl (.inl rfl) (EV.to (ev_adds (ev_adds (ev_str1 rfl B.str (ev_v (i := 1) rfl rfl) (log_ok (by omega))) ev_str (by rw [ld]; omega)) (ev_zfill (ev_str1 rfl B.str (ev_v (i := 2) rfl rfl) (log_ok (by omega))) ev_int rfl) (by rw [lc, ld, l2]; omega)) (by rw [ht])) ?_)
    refine bk_cons (sm_if (tv_lt (ev_v (i := 0) rfl rfl) ev_int) (fun hc => ?_) (fun hc => ?_))
    · have hc := of_decide_eq_true hc
      refine bk_cons (sm_ret (ev_adds ev_str (ev_v (i := 3) rfl rfl) (by rw [lm]; omega)) ?_)
      show Res.v (D.str _) = Res.v (D.str _)
      congr 2
      refine tl_of ?_
      rw [tl_append, tl_minus]; unfold amtL; rw [if_pos hc]
    · have hc := of_decide_eq_false hc
      refine bk_nil (bk_cons (sm_ret (ev_v (i := 3) rfl rfl) ?_))
      show Res.v (D.str _) = Res.v (D.str _)
      congr 2
      unfold amt amtL; rw [if_neg hc]; rfl

def sp_show_share : List D → Res → Prop := fun ds r => ∃ n p : Int, ds = [.int n, .int p] ∧ 0 < p ∧ p ≤ 1000000 ∧ n.natAbs < 10 ^ 48 ∧ r = .v (.str (shareT n p))
theorem sc_show_share : FnScope ["number", "parts", "whole", "rest", "text", "by"] ["number", "parts"] (defScope s_show_share) := ⟨rfl, rfl, rfl, by decide +kernel, rfl, by decide +kernel, by decide +kernel⟩
theorem kn_show_share (B : Bl mg) (k_show_amount : FnK P w K mg base CX0 "show_amount" 1 sp_show_amount) (k_common : FnK P w K mg base CX0 "common" 1 sp_common) (T : At K mg "show_share" "show_share" s_show_share ["number", "parts"]) : FnK P w K mg base CX0 "show_share" 2 sp_show_share := by
  obtain ⟨f, fd, Fn, hm, hb⟩ := T.ex
  refine ⟨f, fd, _, fn_ok Fn sc_show_share (fun ds r h => ?_) (fun cdv A outer s H E hr ds r h => ?_), hm, Fn.kp, hb⟩
  · obtain ⟨x0, x1, rfl, _⟩ := h; rfl
  · obtain ⟨n, p, rfl, h1, h2, h3, rfl⟩ := h
    have hsz := sizeLine_eq
    obtain ⟨_, _, wb, r0, r1, g0, g1, a0, a1, b0, b1⟩ := sh_ok h1 h2 h3
    have la := amt_len wb
    have lx := strI_len a0 (by omega)
    have ly := strI_len b0 (by omega)
    refine bk_cons (sm_asg (ev_divmod rfl B.divmod (ev_v (i := 0) rfl rfl) (ev_v (i := 1) rfl rfl) ⟨h1, PyProof.noPylong_small (by omega)⟩) (gv_tup (gvs_cons (gv_name (i := 2) sc_show_share.nd rfl (.inl rfl)) (gvs_cons (gv_name (i := 3) sc_show_share.nd rfl (.inl rfl)) gvs_nil))) ?_)
    refine bk_cons (sm_set (i := 4) (d := .str (amt (n / p))) sc_show_share.nd rfl (.inl rfl) (ev_call k_show_amount (hr.mono (by decide)) rfl (av_cons (ev_v (i := 2) rfl rfl) av_nil) ⟨_, rfl, wb, rfl⟩) ?_)
    refine bk_cons (sm_if (tv_eqI (ev_v (i := 3) rfl rfl) ev_int) (fun hc => ?_) (fun hc => ?_))
    · have hc := of_decide_eq_true hc
      refine bk_cons (sm_ret (ev_v (i := 4) rfl rfl) ?_)
      show Res.v _ = Res.v _
      unfold shareT; rw [if_pos hc]
    · have hc := of_decide_eq_false hc
      refine bk_nil ?_
      refine bk_cons (sm_set (i := 5) (d := .int (gcdI p (n % p))) sc_show_share.nd rfl (.inl rfl) (ev_call k_common (hr.mono (by decide)) rfl (av_cons (ev_v (i := 1) rfl rfl) (av_cons (ev_v (i := 3) rfl rfl) av_nil)) ⟨_, _, rfl, by omega, r0, rfl⟩) ?_)
      have cd : ∀ x : Int, CDivW x (gcdI p (n % p)) := fun x => divok g0 (by omega)
      have e1 : (strI (n % p / gcdI p (n % p))).length ≤ 9 := lx
      refine bk_cons (sm_ret (ev_adds (ev_adds (ev_adds (ev_adds (ev_v (i := 4) rfl rfl) ev_str (by rw [len_plus]; omega)) (ev_str1 rfl B.str (ev_div (ev_v (i := 3) rfl rfl) (ev_v (i := 5) rfl rfl) (cd _)) (small_log a0 a1)) ?_) ev_str ?_) (ev_str1 rfl B.str (ev_div (ev_v (i := 1) rfl rfl) (ev_v (i := 5) rfl rfl) (cd _)) (small_log b0 b1)) ?_) ?_)
      · show _ + (strI _).length ≤ _
        rw [len_cat2, len_plus]; omega
      · show (_ ++ strI _).length + _ ≤ _
        rw [len_cat2, len_cat2, len_plus, len_slash]; omega
      · show (_ ++ strI _ ++ _).length + (strI _).length ≤ _
        rw [len_cat2, len_cat2, len_cat2, len_plus, len_slash]; omega
      · show Res.v _ = Res.v _
        unfold shareT; rw [if_neg hc]; rfl

def mixed (c k : Int) : Int := ((c % 2147483647 + 1) * (48271 + 2 * k * k) % 2147483647) * ((c % 2147483647 + 1) * (48271 + 2 * k * k) % 2147483647) % 2147483629
theorem mixed_nn (c k : Int) : 0 ≤ mixed c k := Int.emod_nonneg _ (by decide)
theorem mixed_lt (c k : Int) : mixed c k < 2147483629 := Int.emod_lt_of_pos _ (by decide)
def sp_mixed : List D → Res → Prop := fun ds r => ∃ c k, ds = [.int c, .int k] ∧ -1000000 ≤ k ∧ k ≤ 1000000 ∧ r = .v (.int (mixed c k))
theorem sc_mixed : FnScope ["_law_cell", "_law_k", "_law_m"] ["_law_cell", "_law_k"] (defScope s_mixed) := ⟨rfl, rfl, rfl, by decide +kernel, rfl, by decide +kernel, by decide +kernel⟩
theorem kn_mixed (T : At K mg "_law_mixed" "_law_mixed" s_mixed ["_law_cell", "_law_k"]) : FnK P w K mg base CX0 "_law_mixed" 1 sp_mixed := by
  obtain ⟨f, fd, Fn, hm, hb⟩ := T.ex
  refine ⟨f, fd, _, fn_ok Fn sc_mixed (fun ds r h => ?_) (fun cdv A outer s H E hr ds r h => ?_), hm, Fn.kp, hb⟩
  · obtain ⟨x0, x1, rfl, _⟩ := h; rfl
  · obtain ⟨c, k, rfl, h1, h2, rfl⟩ := h
    have c1 := Int.emod_nonneg c (show (2147483647 : Int) ≠ 0 by decide)
    have c2 := Int.emod_lt_of_pos c (show (0 : Int) < 2147483647 by decide)
    have m1 := Int.emod_nonneg ((c % 2147483647 + 1) * (48271 + 2 * k * k)) (show (2147483647 : Int) ≠ 0 by decide)
    have m2 := Int.emod_lt_of_pos ((c % 2147483647 + 1) * (48271 + 2 * k * k)) (show (0 : Int) < 2147483647 by decide)
    refine bk_cons (sm_set (i := 2) sc_mixed.nd rfl (.inl rfl) (ev_mod (ev_mul (ev_add (ev_mod (ev_v (i := 0) rfl rfl) ev_int (by walk_at "sc")) ev_int) (ev_add ev_int (ev_mul (ev_mul ev_int (ev_v (i := 1) rfl rfl) (by walk_at "sc")) (ev_v (i := 1) rfl rfl) (by walk_at "sc"))) (by walk_at "sc")) ev_int (by walk_at "sc")) ?_)
    exact bk_cons (sm_ret (ev_mod (ev_mul (ev_v (i := 2) rfl rfl) (ev_v (i := 2) rfl rfl) (by walk_at "sc")) ev_int (by walk_at "sc")) rfl)

def numA : List Int := [7, 1000, 10 ^ 6, 10 ^ 13, 10 ^ 20]
def numB (most : Int) : List Int := [most, -most, 0, 99, -99, 100, -100, 10, -1, most / 10]
def number (c k most : Int) : Int :=
  if mixed c k % 4 = 0 then c % 401 - 200 else if mixed c k % 4 = 1 then c % (2 * most + 1) - most
  else if mixed c k % 4 = 2 then mixed c k ^ 9 % (2 * numA.getD (mixed c k / 4 % 5).toNat 0 + 1) - numA.getD (mixed c k / 4 % 5).toNat 0
  else (numB most).getD (mixed c k / 4 % 10).toNat 0
theorem numA_bd (i : Int) (h0 : 0 ≤ i) (h1 : i < 5) : 0 < numA.getD i.toNat 0 ∧ numA.getD i.toNat 0 ≤ 10 ^ 20 := by
  obtain ⟨k, rfl⟩ : ∃ k : Nat, i = k := ⟨i.toNat, by omega⟩
  have : k = 0 ∨ k = 1 ∨ k = 2 ∨ k = 3 ∨ k = 4 := by omega
  rcases this with rfl | rfl | rfl | rfl | rfl <;> decide
theorem numB_bd (most : Int) (hm : 200 ≤ most) (i : Int) (h0 : 0 ≤ i) (h1 : i < 10) : -most ≤ (numB most).getD i.toNat 0 ∧ (numB most).getD i.toNat 0 ≤ most := by
  obtain ⟨k, rfl⟩ : ∃ k : Nat, i = k := ⟨i.toNat, by omega⟩
  have : k = 0 ∨ k = 1 ∨ k = 2 ∨ k = 3 ∨ k = 4 ∨ k = 5 ∨ k = 6 ∨ k = 7 ∨ k = 8 ∨ k = 9 := by omega
  rcases this with rfl | rfl | rfl | rfl | rfl | rfl | rfl | rfl | rfl | rfl <;> (simp [numB]) <;> omega
/-- in bounds -/
theorem number_bd (c k most : Int) (hm : 200 ≤ most) : -(most + 10 ^ 20) ≤ number c k most ∧ number c k most ≤ most + 10 ^ 20 := by
  have a1 := Int.emod_nonneg c (show (401 : Int) ≠ 0 by decide)
  have a2 := Int.emod_lt_of_pos c (show (0 : Int) < 401 by decide)
  have b1 := Int.emod_nonneg c (show (2 * most + 1 : Int) ≠ 0 by omega)
  have b2 := Int.emod_lt_of_pos c (show (0 : Int) < 2 * most + 1 by omega)
  obtain ⟨d1, d2⟩ := numA_bd (mixed c k / 4 % 5) (Int.emod_nonneg _ (by decide)) (Int.emod_lt_of_pos _ (by decide))
  obtain ⟨f1, f2⟩ := numB_bd most hm (mixed c k / 4 % 10) (Int.emod_nonneg _ (by decide)) (Int.emod_lt_of_pos _ (by decide))
  have e1 := Int.emod_nonneg (mixed c k ^ 9) (show (2 * numA.getD (mixed c k / 4 % 5).toNat 0 + 1 : Int) ≠ 0 by omega)
  have e2 := Int.emod_lt_of_pos (mixed c k ^ 9) (show (0 : Int) < 2 * numA.getD (mixed c k / 4 % 5).toNat 0 + 1 by omega)
  unfold number
  split
  · omega
  · split
    · omega
    · split <;> omega
def sp_number : List D → Res → Prop := fun ds r => ∃ c k most, ds = [.int c, .int k, .int most] ∧ -1000000 ≤ k ∧ k ≤ 1000000 ∧ 0 ≤ most ∧ r = .v (.int (number c k most))
theorem sc_number : FnScope ["_law_cell", "_law_k", "_law_most", "_law_m", "_law_size"] ["_law_cell", "_law_k", "_law_most"] (defScope s_number) := ⟨rfl, rfl, rfl, by decide +kernel, rfl, by decide +kernel, by decide +kernel⟩
theorem kn_number (k_mixed : FnK P w K mg base CX0 "_law_mixed" 1 sp_mixed) (T : At K mg "_law_number" "_law_number" s_number ["_law_cell", "_law_k", "_law_most"]) : FnK P w K mg base CX0 "_law_number" 2 sp_number := by
  obtain ⟨f, fd, Fn, hm, hb⟩ := T.ex
  refine ⟨f, fd, _, fn_ok Fn sc_number (fun ds r h => ?_) (fun cdv A outer s H E hr ds r h => ?_), hm, Fn.kp, hb⟩
  · obtain ⟨x0, x1, x2, rfl, _⟩ := h; rfl
  · obtain ⟨c, k, most, rfl, h1, h2, h3, rfl⟩ := h
    have q0 := mixed_nn c k
    have q1 := mixed_lt c k
    have i5 := Int.emod_nonneg (mixed c k / 4) (show (5 : Int) ≠ 0 by decide)
    have j5 := Int.emod_lt_of_pos (mixed c k / 4) (show (0 : Int) < 5 by decide)
    have i10 := Int.emod_nonneg (mixed c k / 4) (show (10 : Int) ≠ 0 by decide)
    have j10 := Int.emod_lt_of_pos (mixed c k / 4) (show (0 : Int) < 10 by decide)
    obtain ⟨d1, d2⟩ := numA_bd (mixed c k / 4 % 5) i5 j5
    refine bk_cons (sm_set (i := 3) sc_number.nd rfl (.inl rfl) (ev_call (d := .int (mixed c k)) k_mixed (hr.mono (by decide)) rfl (av_cons (ev_v (i := 0) rfl rfl) (av_cons (ev_v (i := 1) rfl rfl) av_nil)) ⟨c, k, rfl, h1, h2, rfl⟩) ?_)
    refine bk_cons (sm_if (tv_eqI (ev_mod (ev_v (i := 3) rfl rfl) ev_int (by walk_at "sc")) ev_int) (fun hc => ?_) (fun hc => ?_))
    · refine bk_cons (sm_ret (ev_sub (ev_mod (ev_v (i := 0) rfl rfl) ev_int (by walk_at "sc")) ev_int) ?_)
      have hc := of_decide_eq_true hc
      show Res.v _ = Res.v _
      unfold number; rw [if_pos hc]
    have hc := of_decide_eq_false hc
    refine bk_nil ?_
    refine bk_cons (sm_if (tv_eqI (ev_mod (ev_v (i := 3) rfl rfl) ev_int (by walk_at "sc")) ev_int) (fun hc2 => ?_) (fun hc2 => ?_))
    · refine bk_cons (sm_ret (ev_sub (ev_mod (ev_v (i := 0) rfl rfl) (ev_add (ev_mul ev_int (ev_v (i := 2) rfl rfl) (by walk_at "sc")) ev_int) (by walk_at "sc")) (ev_v (i := 2) rfl rfl)) ?_)
      have hc2 := of_decide_eq_true hc2
      show Res.v _ = Res.v _
      unfold number; rw [if_neg hc, if_pos hc2]
    have hc2 := of_decide_eq_false hc2
    refine bk_nil ?_
    refine bk_cons (sm_if (tv_eqI (ev_mod (ev_v (i := 3) rfl rfl) ev_int (by walk_at "sc")) ev_int) (fun hc3 => ?_) (fun hc3 => ?_))
    · refine bk_cons (sm_set (i := 4) sc_number.nd rfl (.inl rfl) (ev_ix (ev_lst (av_cons ev_int (av_cons ev_int (av_cons (ev_pow ev_int ev_int (by walk_at "sc")) (av_cons (ev_pow ev_int ev_int (by walk_at "sc")) (av_cons (ev_pow ev_int ev_int (by walk_at "sc")) av_nil))))) (by simp)) (ev_mod (ev_div (ev_v (i := 3) rfl rfl) ev_int (by walk_at "sc")) ev_int (by walk_at "sc")) (at_ints (ns := numA) i5 j5)) ?_)
      refine bk_cons (sm_ret (ev_sub (ev_mod (ev_pow (ev_v (i := 3) rfl rfl) ev_int (by walk_at "sc")) (ev_add (ev_mul ev_int (ev_v (i := 4) rfl rfl) (by walk_at "sc")) ev_int) (by walk_at "sc")) (ev_v (i := 4) rfl rfl)) ?_)
      have hc3 := of_decide_eq_true hc3
      show Res.v _ = Res.v _
      unfold number; rw [if_neg hc, if_neg hc2, if_pos hc3]
      rfl
    have hc3 := of_decide_eq_false hc3
    refine bk_nil ?_
    refine bk_cons (sm_ret (ev_ix (ev_lst (av_cons (ev_v (i := 2) rfl rfl) (av_cons (ev_neg (ev_v (i := 2) rfl rfl)) (av_cons ev_int (av_cons ev_int (av_cons (ev_neg ev_int) (av_cons ev_int (av_cons (ev_neg ev_int) (av_cons ev_int (av_cons (ev_neg ev_int) (av_cons (ev_div (ev_v (i := 2) rfl rfl) ev_int (by walk_at "sc")) av_nil)))))))))) (by simp)) (ev_mod (ev_div (ev_v (i := 3) rfl rfl) ev_int (by walk_at "sc")) ev_int (by walk_at "sc")) (at_ints (ns := numB most) i10 j10)) ?_)
    show Res.v _ = Res.v _
    unfold number; rw [if_neg hc, if_neg hc2, if_neg hc3]

def sp_written : List D → Res → Prop := fun ds r => ∃ n : Int, ds = [.int n] ∧ n.natAbs < 10 ^ 48 ∧ r = .v (.str (amt n))
theorem sc_written : FnScope ["_law_number_here", "_law_figures", "_law_text_here"] ["_law_number_here"] (defScope s_written) := ⟨rfl, rfl, rfl, by decide +kernel, rfl, by decide +kernel, by decide +kernel⟩
theorem kn_written (B : Bl mg) (T : At K mg "_law_written" "_law_written" s_written ["_law_number_here"]) : FnK P w K mg base CX0 "_law_written" 1 sp_written := by
  obtain ⟨f, fd, Fn, hm, hb⟩ := T.ex
  refine ⟨f, fd, _, fn_ok Fn sc_written (fun ds r h => ?_) (fun cdv A outer s H E hr ds r h => ?_), hm, Fn.kp, hb⟩
  · obtain ⟨x0, rfl, _⟩ := h; rfl
  · obtain ⟨n, rfl, hn, rfl⟩ := h
    have hsz := sizeLine_eq
    have e0 : dabs n = ((n.natAbs : Nat) : Int) := dabs_eq n
    obtain ⟨pre, zf, rfl⟩ := zf3 n.natAbs
    have zt := tl_zf n.natAbs 3
    rw [zf] at zt
    have l1 : (numL (n.natAbs / 100)).length ≤ 48 := numL_len (by decide) (by omega)
    have ld : (Str.ofString ".").length = 1 := by rw [len_tl, tl_dot]; rfl
    have lm : (Str.ofString "-").length = 1 := by rw [len_tl, tl_minus]; rfl
    have lc : ∀ x y : Str, (x ++ y).length = x.length + y.length := fun x y => by rw [len_tl, tl_append, List.length_append, ← len_tl, ← len_tl]
    refine bk_cons (sm_set (i := 1) (d := .str (Txt.zfill (Str.ofString (toString ((n.natAbs : Nat) : Int))) (3 : Int))) sc_written.nd rfl (.inl rfl) (EV.to (ev_zfill (ev_str1 rfl B.str (ev_abs rfl B.abs (ev_v (i := 0) rfl rfl)) (by rw [e0]; exact log_ok (by omega))) ev_int rfl) (by rw [e0])) ?_)
    have zt' : tl (Txt.zfill (Str.ofString (toString ((n.natAbs : Nat) : Int))) (3 : Int)) = numL (n.natAbs / 100) ++ [48 + n.natAbs / 10 % 10, 48 + n.natAbs % 10] := zt
    generalize Txt.zfill (Str.ofString (toString ((n.natAbs : Nat) : Int))) (3 : Int) = Z at zt'
    have lz : Z.length = (numL (n.natAbs / 100)).length + 2 := by rw [len_tl, zt', List.length_append]; rfl
    have ei : (Z.length : Int) - 2 = ((numL (n.natAbs / 100)).length : Nat) := by omega
    have cA : tl (cutS Z none (some ((Z.length : Int) - 2))) = numL (n.natAbs / 100) := by
      show ((tl Z).drop (HT.sIx Z.length 0 none)).take _ = _
      rw [ei, HT.sIx_nat, HT.sIx_none, zt', lz, List.drop_zero, Nat.min_eq_left (by omega), Nat.sub_zero, List.take_left' rfl]
    have cB : tl (cutS Z (some ((Z.length : Int) - 2)) none) = [48 + n.natAbs / 10 % 10, 48 + n.natAbs % 10] := by
      show ((tl Z).drop (HT.sIx Z.length 0 _)).take _ = _
      rw [ei, HT.sIx_nat, HT.sIx_none, zt', lz, Nat.min_eq_left (by omega), List.drop_left' rfl]
      rw [show (numL (n.natAbs / 100)).length + 2 - (numL (n.natAbs / 100)).length = 2 by omega]; rfl
    have lA : (cutS Z none (some ((Z.length : Int) - 2))).length ≤ 48 := by rw [len_tl, cA]; exact l1
    have lB : (cutS Z (some ((Z.length : Int) - 2)) none).length = 2 := by rw [len_tl, cB]; rfl
    have ht : cutS Z none (some ((Z.length : Int) - 2)) ++ Str.ofString "." ++ cutS Z (some ((Z.length : Int) - 2)) none = ⟨(amtN n.natAbs).toArray⟩ := by
      refine tl_of ?_
      rw [tl_append, tl_append, cA, cB, tl_dot, List.append_assoc]; rfl
    have la : (⟨(amtN n.natAbs).toArray⟩ : Str).length ≤ 51 := by rw [← ht, lc, lc, ld, lB]; omega
    refine bk_cons (sm_set (i := 2) (d := .str ⟨(amtN n.natAbs).toArray⟩) sc_written.nd rfl (.inl rfl) (EV.to (ev_adds (ev_adds (ev_slS (ev_v (i := 1) rfl rfl) ov_none (ov_some (ev_sub (ev_lenS rfl B.len (ev_v (i := 1) rfl rfl) (by omega)) ev_int)) (by omega)) ev_str (by rw [ld]; omega)) (ev_slS (ev_v (i := 1) rfl rfl) (ov_some (ev_sub (ev_lenS rfl B.len (ev_v (i := 1) rfl rfl) (by omega)) ev_int)) ov_none (by omega)) (by rw [lc, ld, lB]; omega)) (by rw [ht])) ?_)
    refine bk_cons (sm_if (tv_lt (ev_v (i := 0) rfl rfl) ev_int) (fun hc => ?_) (fun hc => ?_))
    · have hc := of_decide_eq_true hc
      refine bk_cons (sm_ret (ev_adds ev_str (ev_v (i := 2) rfl rfl) (by rw [lm]; omega)) ?_)
      show Res.v (D.str _) = Res.v (D.str _)
      congr 2
      refine tl_of ?_
      rw [tl_append, tl_minus]; unfold amtL; rw [if_pos hc]
    · have hc := of_decide_eq_false hc
      refine bk_nil (bk_cons (sm_ret (ev_v (i := 2) rfl rfl) ?_))
      show Res.v (D.str _) = Res.v (D.str _)
      congr 2
      unfold amt amtL; rw [if_neg hc]; rfl

def sp_lcommon : List D → Res → Prop := fun ds r => ∃ a b, ds = [.int a, .int b] ∧ 0 ≤ a ∧ 0 ≤ b ∧ r = .v (.int (gcdI a b))
theorem sc_lcommon : FnScope ["_law_one", "_law_other", "_law_kept"] ["_law_one", "_law_other"] (defScope s_lcommon) := ⟨rfl, rfl, rfl, by decide +kernel, rfl, by decide +kernel, by decide +kernel⟩
theorem kn_lcommon (T : At K mg "_law_common" "_law_common" s_lcommon ["_law_one", "_law_other"]) : FnK P w K mg base CX0 "_law_common" 1 sp_lcommon := by
  obtain ⟨f, fd, Fn, hm, hb⟩ := T.ex
  refine ⟨f, fd, _, fn_ok Fn sc_lcommon (fun ds r h => ?_) (fun cdv A outer s H E hr ds r h => ?_), hm, Fn.kp, hb⟩
  · obtain ⟨x0, x1, rfl, _⟩ := h; rfl
  · obtain ⟨a, b, rfl, h1, h2, rfl⟩ := h
    refine bk_cons (sm_whileV (fun m Δ => ∃ x y z, Δ = [.v (.int x), .v (.int y), z] ∧ 0 ≤ x ∧ 0 ≤ y ∧ gcdI x y = gcdI a b ∧ m = y.toNat) b.toNat ⟨a, b, _, rfl, h1, h2, rfl, rfl⟩ (fun m Δi hI => ?_))
    obtain ⟨x, y, z, rfl, x0, y0, hg, rfl⟩ := hI
    refine ⟨_, (tv_gt (ev_v (i := 1) rfl rfl) ev_int), fun hc => ?_, fun hc => ?_⟩
    · have hy : 0 < y := of_decide_eq_true hc
      refine bk_cons (sm_set (i := 2) sc_lcommon.nd rfl (.inl rfl) (ev_mod (ev_v (i := 0) rfl rfl) (ev_v (i := 1) rfl rfl) hy) ?_)
      refine bk_cons (sm_set (i := 0) sc_lcommon.nd rfl (.inl rfl) (ev_v (i := 1) rfl rfl) ?_)
      refine bk_cons (sm_set (i := 1) sc_lcommon.nd rfl (.inl rfl) (ev_v (i := 2) rfl rfl) ?_)
      have m1 := Int.emod_nonneg x (show y ≠ 0 by omega)
      have m2 := Int.emod_lt_of_pos x hy
      exact bk_nil ⟨(x % y).toNat, by omega, y, x % y, _, rfl, y0, m1, by rw [gcdI_step x0 hy, hg], rfl⟩
    · have hy : y = 0 := by have := of_decide_eq_false hc; omega
      subst hy
      rw [gcdI_zero x x0] at hg
      subst hg
      exact bk_cons (sm_ret (ev_v (i := 0) rfl rfl) rfl)

def sp_ltext : List D → Res → Prop := fun ds r => ∃ n p : Int, ds = [.int n, .int p] ∧ 0 < p ∧ p ≤ 1000000 ∧ n.natAbs < 10 ^ 48 ∧ r = .v (.str (shareT n p))
theorem sc_ltext : FnScope ["_law_number_here", "_law_parts", "_law_whole", "_law_rest", "_law_by"] ["_law_number_here", "_law_parts"] (defScope s_ltext) := ⟨rfl, rfl, rfl, by decide +kernel, rfl, by decide +kernel, by decide +kernel⟩
theorem kn_ltext (B : Bl mg) (k_written : FnK P w K mg base CX0 "_law_written" 1 sp_written) (k_lcommon : FnK P w K mg base CX0 "_law_common" 1 sp_lcommon) (T : At K mg "_law_text" "_law_text" s_ltext ["_law_number_here", "_law_parts"]) : FnK P w K mg base CX0 "_law_text" 2 sp_ltext := by
  obtain ⟨f, fd, Fn, hm, hb⟩ := T.ex
  refine ⟨f, fd, _, fn_ok Fn sc_ltext (fun ds r h => ?_) (fun cdv A outer s H E hr ds r h => ?_), hm, Fn.kp, hb⟩
  · obtain ⟨x0, x1, rfl, _⟩ := h; rfl
  · obtain ⟨n, p, rfl, h1, h2, h3, rfl⟩ := h
    have hsz := sizeLine_eq
    obtain ⟨_, _, wb, r0, r1, g0, g1, a0, a1, b0, b1⟩ := sh_ok h1 h2 h3
    have la := amt_len wb
    have lx := strI_len a0 (by omega)
    have ly := strI_len b0 (by omega)
    have er : n - n / p * p = n % p := by have := Int.mul_ediv_add_emod n p; rw [Int.mul_comm] at this; omega
    refine bk_cons (sm_set (i := 2) sc_ltext.nd rfl (.inl rfl) (ev_div (ev_v (i := 0) rfl rfl) (ev_v (i := 1) rfl rfl) (divok h1 (by omega))) ?_)
    refine bk_cons (sm_set (i := 3) (d := .int (n % p)) sc_ltext.nd rfl (.inl rfl) (EV.to (ev_sub (ev_v (i := 0) rfl rfl) (ev_mul (ev_v (i := 2) rfl rfl) (ev_v (i := 1) rfl rfl) (mulokR (by omega) (by omega)))) (by rw [er])) ?_)
    refine bk_cons (sm_if (tv_eqI (ev_v (i := 3) rfl rfl) ev_int) (fun hc => ?_) (fun hc => ?_))
    · have hc := of_decide_eq_true hc
      refine bk_cons (sm_ret (ev_call (d := .str (amt (n / p))) k_written (hr.mono (by decide)) rfl (av_cons (ev_v (i := 2) rfl rfl) av_nil) ⟨_, rfl, wb, rfl⟩) ?_)
      show Res.v _ = Res.v _
      unfold shareT; rw [if_pos hc]
    · have hc := of_decide_eq_false hc
      refine bk_nil ?_
      refine bk_cons (sm_set (i := 4) (d := .int (gcdI p (n % p))) sc_ltext.nd rfl (.inl rfl) (ev_call k_lcommon (hr.mono (by decide)) rfl (av_cons (ev_v (i := 3) rfl rfl) (av_cons (ev_v (i := 1) rfl rfl) av_nil)) ⟨_, _, rfl, r0, by omega, by rw [gcdI_comm]⟩) ?_)
      have cd : ∀ x : Int, CDivW x (gcdI p (n % p)) := fun x => divok g0 (by omega)
      refine bk_cons (sm_ret (ev_adds (ev_adds (ev_adds (ev_adds (ev_call (d := .str (amt (n / p))) k_written (hr.mono (by decide)) rfl (av_cons (ev_v (i := 2) rfl rfl) av_nil) ⟨_, rfl, wb, rfl⟩) ev_str (by rw [len_plus]; omega)) (ev_str1 rfl B.str (ev_div (ev_v (i := 3) rfl rfl) (ev_v (i := 4) rfl rfl) (cd _)) (small_log a0 a1)) ?_) ev_str ?_) (ev_str1 rfl B.str (ev_div (ev_v (i := 1) rfl rfl) (ev_v (i := 4) rfl rfl) (cd _)) (small_log b0 b1)) ?_) ?_)
      · show _ + (strI _).length ≤ _
        rw [len_cat2, len_plus]; omega
      · show (_ ++ strI _).length + _ ≤ _
        rw [len_cat2, len_cat2, len_plus, len_slash]; omega
      · show (_ ++ strI _ ++ _).length + (strI _).length ≤ _
        rw [len_cat2, len_cat2, len_cat2, len_plus, len_slash]; omega
      · show Res.v _ = Res.v _
        unfold shareT; rw [if_neg hc]; rfl

theorem sc_law : FnScope ["_law_script", "_law_k", "_law_cell", "_law_m", "_law_number_here", "_law_parts", "_law_factor", "_law_found"] ["_law_script"] (defScope s_law) := ⟨rfl, rfl, rfl, by decide +kernel, rfl, by decide +kernel, by decide +kernel⟩
theorem isD_str (z : Str) : isD (.str z) "str" = true := by show isD (.str _) "str" = true; rfl
def parts3 (m : Int) : List Int := [1 + m / 9 % 12, 1 + m / 9 % 10000, 10000 - m / 9 % 5]
theorem parts3_bd (m i : Int) (h0 : 0 ≤ i) (h1 : i < 3) : 0 < (parts3 m).getD i.toNat 0 ∧ (parts3 m).getD i.toNat 0 ≤ 10000 := by
  obtain ⟨k, rfl⟩ : ∃ k : Nat, i = k := ⟨i.toNat, by omega⟩
  have : k = 0 ∨ k = 1 ∨ k = 2 := by omega
  rcases this with rfl | rfl | rfl <;> (simp [parts3]) <;> omega
/-- n // (q * q) * q is no greater than n in size (for q of 1 or more) -/
theorem cut_le (n q : Int) (h : 0 < q) : (n / (q * q) * q).natAbs ≤ n.natAbs + q.natAbs * q.natAbs := by
  have hq : 0 < q * q := Int.mul_pos h h
  have e := Int.mul_ediv_add_emod n (q * q)
  have r0 := Int.emod_nonneg n (show q * q ≠ 0 by omega)
  have r1 := Int.emod_lt_of_pos n hq
  have h2 : (n / (q * q) * q).natAbs ≤ (n / (q * q) * (q * q)).natAbs := by
    rw [Int.natAbs_mul, Int.natAbs_mul, Int.natAbs_mul]
    refine Nat.mul_le_mul_left _ (Nat.le_mul_of_pos_left _ (by omega))
  have h3 : (n / (q * q) * (q * q)).natAbs ≤ n.natAbs + (q * q).natAbs := by
    rw [Int.mul_comm] at e
    generalize q * q = z at *
    generalize n / z * z = u at *
    omega
  rw [Int.natAbs_mul q q] at h3
  omega
theorem ok_law (B : Bl mg) (k_mixed : FnK P w K mg base CX0 "_law_mixed" 1 sp_mixed) (k_number : FnK P w K mg base CX0 "_law_number" 2 sp_number) (k_show_share : FnK P w K mg base CX0 "show_share" 2 sp_show_share) (k_ltext : FnK P w K mg base CX0 "_law_text" 2 sp_ltext)
    {f : Addr} {fd : FuncData} (Fn : Fun K "law" "law" s_law f fd) : FnOk P w K mg base CX0 3 f fd ["_law_script"] (Pr K spLaw) := by
  refine fn_ok Fn sc_law (fun ds r h => ?_) (fun cdv A outer s H E hr ds r h => ?_)
  · obtain ⟨x0, rfl, _⟩ := h; rfl
  · obtain ⟨ns, rfl, hl, rfl⟩ := h
    have hsz := sizeLine_eq
    have hsl : (slD ns none (some 40)).length ≤ 63 := by unfold slD; rw [List.length_take, List.length_drop]; omega
    obtain ⟨cells, hc, hcl⟩ : ∃ cells : List Int, (slD ns none (some 40)).map D.int ++ [D.int 3] = cells.map D.int ∧ cells.length ≤ 64 := ⟨slD ns none (some 40) ++ [3], by rw [List.map_append]; rfl, by rw [List.length_append]; simp; omega⟩
    refine bk_cons (sm_for (ds := enumD (cells.map D.int)) (by rw [← hc]; exact it_enum rfl B.enumerate (EO.ev (eo_cat (EO.ev (eo_sls (ev_v (i := 0) rfl rfl) ov_none (ov_some ev_int))) (EO.ev (eo_lst (av_cons ev_int av_nil) (by simp))) (by rw [List.length_map]; simp; omega)))) (fun i Δ => ∃ a b c d e f g, Δ = [.v (.scr ns), a, b, c, d, e, f, g]) ⟨_, _, _, _, _, _, _, rfl⟩ (fun i d Δi hd hI => ?_) (fun Δn hI => ?_))
    · obtain ⟨a, b, c, d', e', f', g', rfl⟩ := hI
      obtain ⟨dd, h1, rfl⟩ := enumD_get hd
      rw [List.getElem?_map] at h1
      cases e : cells[i]? with
      | none => rw [e] at h1; cases h1
      | some z =>
        rw [e] at h1; cases h1
        have hi : i < 64 := by have := (List.getElem?_eq_some_iff.mp e).1; omega
        have nb := number_bd z i (10 ^ 45 - 1) (by decide)
        have m0 := mixed_nn z (i + 200)
        have m1 := mixed_lt z (i + 200)
        refine ⟨_, _, (gv_tup (gvs_cons (gv_name (i := 1) sc_law.nd rfl (.inl rfl)) (gvs_cons (gv_name (i := 2) sc_law.nd rfl (.inl rfl)) gvs_nil))), ?_⟩
        refine bk_cons (sm_set (i := 3) (d := .int (mixed z (i + 200))) sc_law.nd rfl (.inl rfl) (ev_call k_mixed (hr.mono (by decide)) rfl (av_cons (ev_v (i := 2) rfl rfl) (av_cons (ev_add (ev_v (i := 1) rfl rfl) ev_int) av_nil)) ⟨_, _, rfl, by omega, by omega, rfl⟩) ?_)
        refine bk_cons (sm_set (i := 4) (d := .int (number z i (10 ^ 45 - 1))) sc_law.nd rfl (.inl rfl) (ev_call k_number (hr.mono (by decide)) rfl (av_cons (ev_v (i := 2) rfl rfl) (av_cons (ev_v (i := 1) rfl rfl) (av_cons (ev_sub (ev_pow ev_int ev_int (by walk_at "sc")) ev_int) av_nil))) ⟨_, _, _, rfl, by omega, by omega, by decide, rfl⟩) ?_)
        generalize number z i (10 ^ 45 - 1) = N at nb
        generalize mixed z (i + 200) = mm at m0 m1
        have i3 := Int.emod_nonneg mm (show (3 : Int) ≠ 0 by decide)
        have j3 := Int.emod_lt_of_pos mm (show (0 : Int) < 3 by decide)
        have pb := parts3_bd mm (mm % 3) i3 j3
        refine bk_cons (sm_set (i := 5) (d := .int ((parts3 mm).getD (mm % 3).toNat 0)) sc_law.nd rfl (.inl rfl) (ev_ix (ev_lst (av_cons (ev_add ev_int (ev_mod (ev_div (ev_v (i := 3) rfl rfl) ev_int (by walk_at "sc")) ev_int (by walk_at "sc"))) (av_cons (ev_add ev_int (ev_mod (ev_div (ev_v (i := 3) rfl rfl) ev_int (by walk_at "sc")) ev_int (by walk_at "sc"))) (av_cons (ev_sub ev_int (ev_mod (ev_div (ev_v (i := 3) rfl rfl) ev_int (by walk_at "sc")) ev_int (by walk_at "sc"))) av_nil))) (by simp)) (ev_mod (ev_v (i := 3) rfl rfl) ev_int (by walk_at "sc")) (at_ints (ns := parts3 mm) i3 j3)) ?_)
        generalize (parts3 mm).getD (mm % 3).toNat 0 = q at pb
        have nN : N.natAbs < 10 ^ 46 := by omega
        clear nb
        refine bk_cut (fun x : Int => x.natAbs < 10 ^ 47) (fun x => [.v (.scr ns), .v (.int i), .v (.int z), .v (.int mm), .v (.int x), .v (.int q), f', g']) (sm_if (tv_eqI (ev_mod (ev_div (ev_v (i := 3) rfl rfl) ev_int (by walk_at "sc")) ev_int (by walk_at "sc")) ev_int) (fun hc => ?_) (fun hc => ?_)) (fun x hx => ?_)
        · have hq : 0 < q * q := Int.mul_pos pb.1 pb.1
          have hq2 : q * q ≤ 10000 * 10000 := Int.mul_le_mul pb.2 pb.2 (by omega) (by decide)
          refine bk_cons (sm_set (i := 4) sc_law.nd rfl (.inl rfl) (ev_mul (ev_div (ev_v (i := 4) rfl rfl) (ev_mul (ev_v (i := 5) rfl rfl) (ev_v (i := 5) rfl rfl) (by walk_at "sc")) (divok hq (by omega))) (ev_v (i := 5) rfl rfl) (mulokR (by omega) (by omega))) ?_)
          refine bk_nil ⟨N / (q * q) * q, ?_, rfl⟩
          have h5 := cut_le N q pb.1
          have h6 : q.natAbs * q.natAbs ≤ 10000 * 10000 := Nat.mul_le_mul (by omega) (by omega)
          omega
        · exact bk_nil ⟨N, by omega, rfl⟩
        clear nN
        refine bk_cut (fun y : Int × Int => y.1.natAbs < 10 ^ 48 ∧ 0 < y.2 ∧ y.2 ≤ 1000000) (fun y => [.v (.scr ns), .v (.int i), .v (.int z), .v (.int mm), .v (.int y.1), .v (.int y.2), .u, g']) (sm_if (tv_eqI (ev_mod (ev_div (ev_v (i := 3) rfl rfl) ev_int (by walk_at "sc")) ev_int (by walk_at "sc")) ev_int) (fun hc => ?_) (fun hc => ?_)) (fun y hy => ?_)
        · have f0 := Int.emod_nonneg (mm / 9) (show (900 : Int) ≠ 0 by decide)
          have f1 := Int.emod_lt_of_pos (mm / 9) (show (0 : Int) < 900 by decide)
          have f2 := Int.emod_nonneg (mm / 9000) (show (8 : Int) ≠ 0 by decide)
          have f3 := Int.emod_lt_of_pos (mm / 9000) (show (0 : Int) < 8 by decide)
          refine bk_cons (sm_set (i := 6) (d := .int (101 + mm / 9 % 900)) sc_law.nd rfl (.inl rfl) (ev_add ev_int (ev_mod (ev_div (ev_v (i := 3) rfl rfl) ev_int (by walk_at "sc")) ev_int (by walk_at "sc"))) ?_)
          obtain ⟨fa, hfe, fa0, fa1⟩ : ∃ fa : Int, 101 + mm / 9 % 900 = fa ∧ 0 < fa ∧ fa ≤ 1001 := ⟨_, rfl, by omega, by omega⟩
          rw [hfe]
          refine bk_cons (sm_set (i := 5) (d := .int (fa * (2 + mm / 9000 % 8))) sc_law.nd rfl (.inl rfl) (ev_mul (ev_v (i := 6) rfl rfl) (ev_add ev_int (ev_mod (ev_div (ev_v (i := 3) rfl rfl) ev_int (by walk_at "sc")) ev_int (by walk_at "sc"))) (by walk_at "sc")) ?_)
          have hq : 0 < fa * fa := Int.mul_pos fa0 fa0
          have hq2 : fa * fa ≤ 1001 * 1001 := Int.mul_le_mul fa1 fa1 (by omega) (by decide)
          refine bk_cons (sm_set (i := 4) sc_law.nd rfl (.inl rfl) (ev_mul (ev_div (ev_v (i := 4) rfl rfl) (ev_mul (ev_v (i := 6) rfl rfl) (ev_v (i := 6) rfl rfl) (by walk_at "sc")) (divok hq (by omega))) (ev_v (i := 6) rfl rfl) (mulokR (by omega) (by omega))) ?_)
          refine bk_drop (i := 6) ?_
          refine bk_nil ⟨(x / (fa * fa) * fa, fa * (2 + mm / 9000 % 8)), ⟨?_, Int.mul_pos fa0 (by omega), ?_⟩, rfl⟩
          · have h5 := cut_le x fa fa0
            have h6 : fa.natAbs * fa.natAbs ≤ 1001 * 1001 := Nat.mul_le_mul (by omega) (by omega)
            show (x / (fa * fa) * fa).natAbs < _
            omega
          · have : fa * (2 + mm / 9000 % 8) ≤ 1001 * 9 := Int.mul_le_mul fa1 (by omega) (by omega) (by decide)
            show fa * (2 + mm / 9000 % 8) ≤ _
            omega
        · refine bk_drop (i := 6) ?_
          exact bk_nil ⟨(x, q), ⟨by show x.natAbs < _; omega, pb.1, by show q ≤ _; omega⟩, rfl⟩
        obtain ⟨n, q2⟩ := y
        obtain ⟨y1, y2, y3⟩ := hy
        simp only at y1 y2 y3
        refine bk_cons (sm_set (i := 7) (d := .str (shareT n q2)) sc_law.nd rfl (.inl rfl) (ev_call k_show_share (hr.mono (by decide)) rfl (av_cons (ev_v (i := 4) rfl rfl) (av_cons (ev_v (i := 5) rfl rfl) av_nil)) ⟨_, _, rfl, y2, y3, y1, rfl⟩) ?_)
        refine bk_cons (sm_if (bb := false) (TV.is (TW.tv (tw_or (tv_not (tv_bl (ev_isi rfl B.isinstance (ev_v (i := 7) rfl rfl) rfl rfl B.str bt_str rfl))) fun _ => (tw_or1 (tv_neS (j := shareT n q2) (ev_v (i := 7) rfl rfl) (ev_call k_ltext (hr.mono (by decide)) rfl (av_cons (ev_v (i := 4) rfl rfl) (av_cons (ev_v (i := 5) rfl rfl) av_nil)) ⟨_, _, rfl, y2, y3, y1, rfl⟩))))) ?_) (fun hc => ?_) (fun hc => ?_))
        · rw [isD_str]; simp
        · cases hc
        · exact bk_nil (bk_nil ⟨_, _, _, _, _, _, _, rfl⟩)
    · exact bk_cons (sm_ret ev_bl rfl)

end
theorem all_mk {l : PySem.W.OpenLaw} {w : World} {K : PySem.W.Frag} {h : Heap} {mg : Str → Option Value} {fa f1 f2 f3 f4 f5 f6 f7 f8 f9 : Addr}
    {od1 an1 od2 an2 od3 an3 od4 an4 od5 an5 od6 an6 od7 an7 od8 an8 od9 an9 : Option Addr} {sl1 sl2 sl3 sl4 sl5 sl6 sl7 sl8 sl9 : Array (Option Value)} {oc1 kV1 dc1 pm1 cd1 ct1 oc2 kV2 dc2 pm2 cd2 ct2 oc3 kV3 dc3 pm3 cd3 ct3 oc4 kV4 dc4 pm4 cd4 ct4 oc5 kV5 dc5 pm5 cd5 ct5 oc6 kV6 dc6 pm6 cd6 ct6 oc7 kV7 dc7 pm7 cd7 ct7 oc8 kV8 dc8 pm8 cd8 ct8 oc9 kV9 dc9 pm9 cd9 ct9 : Value} (X : K.In h) (G : h.Ns mainGlobals mg) (hfa : mg "law" = some (.ref fa))
    (a1 : PySem.W.nsIn K mainGlobals "common" = some (some (.ref f1))) (l1 : K.lookup f1 = some ⟨oc1, od1, .func (PySem.W.fnOf "common" "common" (defArgs s_common) (defBody s_common) (defScope s_common) .none kV1 dc1 pm1 an1 cd1 ct1), sl1⟩) (c1 : PySem.W.codeIn K cd1 "common" = true) (k1 : PySem.W.keepIn K (.ref f1) = true)
    (a2 : PySem.W.nsIn K mainGlobals "show_amount" = some (some (.ref f2))) (l2 : K.lookup f2 = some ⟨oc2, od2, .func (PySem.W.fnOf "show_amount" "show_amount" (defArgs s_show_amount) (defBody s_show_amount) (defScope s_show_amount) .none kV2 dc2 pm2 an2 cd2 ct2), sl2⟩) (c2 : PySem.W.codeIn K cd2 "show_amount" = true) (k2 : PySem.W.keepIn K (.ref f2) = true)
    (a3 : PySem.W.nsIn K mainGlobals "show_share" = some (some (.ref f3))) (l3 : K.lookup f3 = some ⟨oc3, od3, .func (PySem.W.fnOf "show_share" "show_share" (defArgs s_show_share) (defBody s_show_share) (defScope s_show_share) .none kV3 dc3 pm3 an3 cd3 ct3), sl3⟩) (c3 : PySem.W.codeIn K cd3 "show_share" = true) (k3 : PySem.W.keepIn K (.ref f3) = true)
    (a4 : PySem.W.nsIn K mainGlobals "_law_mixed" = some (some (.ref f4))) (l4 : K.lookup f4 = some ⟨oc4, od4, .func (PySem.W.fnOf "_law_mixed" "_law_mixed" (defArgs s_mixed) (defBody s_mixed) (defScope s_mixed) .none kV4 dc4 pm4 an4 cd4 ct4), sl4⟩) (c4 : PySem.W.codeIn K cd4 "_law_mixed" = true) (k4 : PySem.W.keepIn K (.ref f4) = true)
    (a5 : PySem.W.nsIn K mainGlobals "_law_number" = some (some (.ref f5))) (l5 : K.lookup f5 = some ⟨oc5, od5, .func (PySem.W.fnOf "_law_number" "_law_number" (defArgs s_number) (defBody s_number) (defScope s_number) .none kV5 dc5 pm5 an5 cd5 ct5), sl5⟩) (c5 : PySem.W.codeIn K cd5 "_law_number" = true) (k5 : PySem.W.keepIn K (.ref f5) = true)
    (a6 : PySem.W.nsIn K mainGlobals "_law_written" = some (some (.ref f6))) (l6 : K.lookup f6 = some ⟨oc6, od6, .func (PySem.W.fnOf "_law_written" "_law_written" (defArgs s_written) (defBody s_written) (defScope s_written) .none kV6 dc6 pm6 an6 cd6 ct6), sl6⟩) (c6 : PySem.W.codeIn K cd6 "_law_written" = true) (k6 : PySem.W.keepIn K (.ref f6) = true)
    (a7 : PySem.W.nsIn K mainGlobals "_law_common" = some (some (.ref f7))) (l7 : K.lookup f7 = some ⟨oc7, od7, .func (PySem.W.fnOf "_law_common" "_law_common" (defArgs s_lcommon) (defBody s_lcommon) (defScope s_lcommon) .none kV7 dc7 pm7 an7 cd7 ct7), sl7⟩) (c7 : PySem.W.codeIn K cd7 "_law_common" = true) (k7 : PySem.W.keepIn K (.ref f7) = true)
    (a8 : PySem.W.nsIn K mainGlobals "_law_text" = some (some (.ref f8))) (l8 : K.lookup f8 = some ⟨oc8, od8, .func (PySem.W.fnOf "_law_text" "_law_text" (defArgs s_ltext) (defBody s_ltext) (defScope s_ltext) .none kV8 dc8 pm8 an8 cd8 ct8), sl8⟩) (c8 : PySem.W.codeIn K cd8 "_law_text" = true) (k8 : PySem.W.keepIn K (.ref f8) = true)
    (a9 : PySem.W.nsIn K mainGlobals "law" = some (some (.ref f9))) (l9 : K.lookup f9 = some ⟨oc9, od9, .func (PySem.W.fnOf "law" "law" (defArgs s_law) (defBody s_law) (defScope s_law) .none kV9 dc9 pm9 an9 cd9 ct9), sl9⟩) (c9 : PySem.W.codeIn K cd9 "law" = true) (k9 : PySem.W.keepIn K (.ref f9) = true)
    (z_len : PySem.W.nsIn K mainGlobals "len" = some none) (z_range : PySem.W.nsIn K mainGlobals "range" = some none) (z_abs : PySem.W.nsIn K mainGlobals "abs" = some none) (z_min : PySem.W.nsIn K mainGlobals "min" = some none) (z_max : PySem.W.nsIn K mainGlobals "max" = some none) (z_sum : PySem.W.nsIn K mainGlobals "sum" = some none) (z_sorted : PySem.W.nsIn K mainGlobals "sorted" = some none) (z_set : PySem.W.nsIn K mainGlobals "set" = some none) (z_any : PySem.W.nsIn K mainGlobals "any" = some none) (z_all : PySem.W.nsIn K mainGlobals "all" = some none) (z_isinstance : PySem.W.nsIn K mainGlobals "isinstance" = some none) (z_divmod : PySem.W.nsIn K mainGlobals "divmod" = some none) (z_str : PySem.W.nsIn K mainGlobals "str" = some none) (z_int : PySem.W.nsIn K mainGlobals "int" = some none) (z_list : PySem.W.nsIn K mainGlobals "list" = some none) (z_tuple : PySem.W.nsIn K mainGlobals "tuple" = some none) (z_enumerate : PySem.W.nsIn K mainGlobals "enumerate" = some none) (z_zip : PySem.W.nsIn K mainGlobals "zip" = some none) (z_reversed : PySem.W.nsIn K mainGlobals "reversed" = some none) (z_bool : PySem.W.nsIn K mainGlobals "bool" = some none) (z_ValueError : PySem.W.nsIn K mainGlobals "ValueError" = some none) :
    ∃ fd : FuncData, (∀ (s : Shared) (v : Value), BindsTo s fd ⟨[v], []⟩ [("_law_script", v)]) ∧ ∀ base : Heap, K.In base → base.Ns mainGlobals mg → FnOk l.prog w K mg base CX0 3 fa fd ["_law_script"] (Pr K spLaw) := by
  have e := hfa.symm.trans (PySem.W.mg_of X G a9)
  cases e
  have B : Bl mg := ⟨PySem.W.mg_none_of X G z_len, PySem.W.mg_none_of X G z_range, PySem.W.mg_none_of X G z_abs, PySem.W.mg_none_of X G z_min, PySem.W.mg_none_of X G z_max, PySem.W.mg_none_of X G z_sum, PySem.W.mg_none_of X G z_sorted, PySem.W.mg_none_of X G z_set, PySem.W.mg_none_of X G z_any, PySem.W.mg_none_of X G z_all, PySem.W.mg_none_of X G z_isinstance, PySem.W.mg_none_of X G z_divmod, PySem.W.mg_none_of X G z_str, PySem.W.mg_none_of X G z_int, PySem.W.mg_none_of X G z_list, PySem.W.mg_none_of X G z_tuple, PySem.W.mg_none_of X G z_enumerate, PySem.W.mg_none_of X G z_zip, PySem.W.mg_none_of X G z_reversed, PySem.W.mg_none_of X G z_bool, PySem.W.mg_none_of X G z_ValueError⟩

  have T1 : At K mg "common" "common" s_common ["one", "other"] := at_mk X G a1 l1 c1 k1 fun _ _ _ _ _ _ us hl => match us, hl with | [_, _], _ => rfl
  have T2 : At K mg "show_amount" "show_amount" s_show_amount ["number"] := at_mk X G a2 l2 c2 k2 fun _ _ _ _ _ _ us hl => match us, hl with | [_], _ => rfl
  have T3 : At K mg "show_share" "show_share" s_show_share ["number", "parts"] := at_mk X G a3 l3 c3 k3 fun _ _ _ _ _ _ us hl => match us, hl with | [_, _], _ => rfl
  have T4 : At K mg "_law_mixed" "_law_mixed" s_mixed ["_law_cell", "_law_k"] := at_mk X G a4 l4 c4 k4 fun _ _ _ _ _ _ us hl => match us, hl with | [_, _], _ => rfl
  have T5 : At K mg "_law_number" "_law_number" s_number ["_law_cell", "_law_k", "_law_most"] := at_mk X G a5 l5 c5 k5 fun _ _ _ _ _ _ us hl => match us, hl with | [_, _, _], _ => rfl
  have T6 : At K mg "_law_written" "_law_written" s_written ["_law_number_here"] := at_mk X G a6 l6 c6 k6 fun _ _ _ _ _ _ us hl => match us, hl with | [_], _ => rfl
  have T7 : At K mg "_law_common" "_law_common" s_lcommon ["_law_one", "_law_other"] := at_mk X G a7 l7 c7 k7 fun _ _ _ _ _ _ us hl => match us, hl with | [_, _], _ => rfl
  have T8 : At K mg "_law_text" "_law_text" s_ltext ["_law_number_here", "_law_parts"] := at_mk X G a8 l8 c8 k8 fun _ _ _ _ _ _ us hl => match us, hl with | [_, _], _ => rfl
  have F9 := fun_mk (st := s_law) l9 c9 k9
  refine ⟨PySem.W.fnOf "law" "law" (defArgs s_law) (defBody s_law) (defScope s_law) .none kV9 dc9 pm9 an9 cd9 ct9, fun s v => .of_eq rfl, fun base _ _ => ?_⟩
  have k_common := kn_common (P := l.prog) (w := w) (K := K) (mg := mg) (base := base) T1
  have k_show_amount := kn_show_amount (P := l.prog) (w := w) (K := K) (mg := mg) (base := base) B T2
  have k_show_share := kn_show_share (P := l.prog) (w := w) (K := K) (mg := mg) (base := base) B k_show_amount k_common T3
  have k_mixed := kn_mixed (P := l.prog) (w := w) (K := K) (mg := mg) (base := base) T4
  have k_number := kn_number (P := l.prog) (w := w) (K := K) (mg := mg) (base := base) k_mixed T5
  have k_written := kn_written (P := l.prog) (w := w) (K := K) (mg := mg) (base := base) B T6
  have k_lcommon := kn_lcommon (P := l.prog) (w := w) (K := K) (mg := mg) (base := base) T7
  have k_ltext := kn_ltext (P := l.prog) (w := w) (K := K) (mg := mg) (base := base) B k_written k_lcommon T8
  exact ok_law B k_mixed k_number k_show_share k_ltext F9
end Y
open PySem PySem.W PyProof.Rows
set_option maxRecDepth 100000 in
set_option maxHeartbeats 0 in
theorem PySem.Challenge.cw_rentshare_k05_shares_written_holds : PySem.Challenge.rw_rentshare_k05_shares_written.Holds := by
  w_on; o_law; k_head; (case hw => w_witness2)
  k_fill
  refine L2.walk_ofK (l := PySem.Challenge.rw_rentshare_k05_shares_written) (n := 63) (k := 3) (x := "_law_script") (CX := L2.CX0) (sp := fun K => Z.Pr K Z.spLaw) rfl (by decide) rfl ⟨rfl, by decide, by decide⟩ (fun w h Y => PySem.W.kIn_of Y) ?F (fun K H a ns hl _ hS => Z.law_sp K H a ns hl hS) (fun _ _ _ _ h => h)
  case F =>
    intro w mg fa h KX G hmg
    refine' Y.all_mk KX G hmg ?a1 ?l1 ?c1 ?k1 ?a2 ?l2 ?c2 ?k2 ?a3 ?l3 ?c3 ?k3 ?a4 ?l4 ?c4 ?k4 ?a5 ?l5 ?c5 ?k5 ?a6 ?l6 ?c6 ?k6 ?a7 ?l7 ?c7 ?k7 ?a8 ?l8 ?c8 ?k8 ?a9 ?l9 ?c9 ?k9 ?z_len ?z_range ?z_abs ?z_min ?z_max ?z_sum ?z_sorted ?z_set ?z_any ?z_all ?z_isinstance ?z_divmod ?z_str ?z_int ?z_list ?z_tuple ?z_enumerate ?z_zip ?z_reversed ?z_bool ?z_ValueError
    (case a1 => k_is)
    (case l1 => k_is)
    (case c1 => k_is)
    (case k1 => k_is)
    (case a2 => k_is)
    (case l2 => k_is)
    (case c2 => k_is)
    (case k2 => k_is)
    (case a3 => k_is)
    (case l3 => k_is)
    (case c3 => k_is)
    (case k3 => k_is)
    (case a4 => k_is)
    (case l4 => k_is)
    (case c4 => k_is)
    (case k4 => k_is)
    (case a5 => k_is)
    (case l5 => k_is)
    (case c5 => k_is)
    (case k5 => k_is)
    (case a6 => k_is)
    (case l6 => k_is)
    (case c6 => k_is)
    (case k6 => k_is)
    (case a7 => k_is)
    (case l7 => k_is)
    (case c7 => k_is)
    (case k7 => k_is)
    (case a8 => k_is)
    (case l8 => k_is)
    (case c8 => k_is)
    (case k8 => k_is)
    (case a9 => k_is)
    (case l9 => k_is)
    (case c9 => k_is)
    (case k9 => k_is)
    (case z_len => k_is)
    (case z_range => k_is)
    (case z_abs => k_is)
    (case z_min => k_is)
    (case z_max => k_is)
    (case z_sum => k_is)
    (case z_sorted => k_is)
    (case z_set => k_is)
    (case z_any => k_is)
    (case z_all => k_is)
    (case z_isinstance => k_is)
    (case z_divmod => k_is)
    (case z_str => k_is)
    (case z_int => k_is)
    (case z_list => k_is)
    (case z_tuple => k_is)
    (case z_enumerate => k_is)
    (case z_zip => k_is)
    (case z_reversed => k_is)
    (case z_bool => k_is)
    (case z_ValueError => k_is)
#print axioms PySem.Challenge.cw_rentshare_k05_shares_written_holds
