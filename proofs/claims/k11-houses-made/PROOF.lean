import PyProof.Rows.All
import Wide.All
import OpenK.AllK
import Wide.FinOn
import HandS.ForMost
import HandS.Walk
import HandS.Exc
import HandS.TryOnly
import HandS.ExcOwn
import HandS.WordsExc
import HandS.Wide
import HandS.WideMore
import HandS.WideBits
import HandS.IsInst
import HandS.StrMore
import HandS.Zip
import HandS.SortInts
import HandS.SortKw
import HandS.Style
import HandS.Deep
import HandS.SetFor
import HandS.TryElse
import HandS.Rev
import HandS.Conv
import HandS.Lambda
import HandS.EndTab
import HandS.EndBits
import KE.IntBitsLaws
import KE.DataMinKey
import HandS.Strs
import HandS.Dict
import HandS.Sort
import HandS.ExcIs
import HandS.More
import KE.GoesEnum
import HandS.TupAny
import KE.SortKeyHeap
import HandS.Keys
import HandS.HotCalls
import HandS.Replace
import PySem.Challenge.RW_rentshare_k11_houses_made
set_option Elab.async false
set_option linter.all false
set_option maxRecDepth 100000
set_option maxHeartbeats 4000000

namespace Z
open PySem PySem.Spec PyProof.Rows L2

/-! ### data -/
inductive D where
  | non | bl (b : Bool) | int (i : Int) | str (x : Str) | scr (ns : List Int)
  | lst (xs : List D) | tup (xs : List D) | obj (C : Addr) (fs : List (Str × D)) | opq (a : Addr)

/-- the tables of code objects that grow, each with its code objects' name -/
class Tb where
  T : List (Addr × Str)
variable [τ : Tb]
/-- no table of code objects -/
def ntb (o : HO) : Prop := ∀ ps, o ≠ .tbl ps
/-- there is something there, no table -/
def Ow (H : Hp) (a : Addr) : Prop := ∃ o, H a = some o ∧ ntb o
theorem Ow.ne {H : Hp} {a : Addr} (h : Ow H a) : H a ≠ none := by
  obtain ⟨o, e, _⟩ := h
  rw [e]; exact fun z => nomatch z
theorem Ow.lst {H : Hp} {a : Addr} {vs : List V} (h : H a = some (.lst vs)) : Ow H a := ⟨_, h, fun _ z => nomatch z⟩
theorem Ow.tup {H : Hp} {a : Addr} {vs : List V} (h : H a = some (.tup vs)) : Ow H a := ⟨_, h, fun _ z => nomatch z⟩
theorem Ow.ins {H : Hp} {a C dx : Addr} {vs : List (Str × V)} (h : H a = some (.ins C dx vs)) : Ow H a := ⟨_, h, fun _ z => nomatch z⟩
abbrev Sub (F H : Hp) : Prop := Same F H
/-- all but the tables stays -/
structure Grow (H H' : Hp) : Prop where
  k : ∀ a o, H a = some o → ntb o → H' a = some o
  n : ∀ a, H' a = none → H a = none
  t : LamX.Tabs τ.T H → LamX.Tabs τ.T H'
theorem Sub.rf (F : Hp) : Sub F F := fun _ _ h => h
theorem Sub.tr {F G H : Hp} (a : Sub F G) (b : Sub G H) : Sub F H := fun c o h => b c o (a c o h)
theorem Sub.new {H : Hp} {p : Addr} {o : HO} (h : H p = none) : Sub H (upd H p o) := fun a u e => by
  rw [upd_ne (ne_of_none e h)]; exact e
theorem Sub.none {F H : Hp} {a : Addr} (s : Sub F H) (h : H a = none) : F a = none := by
  cases e : F a with
  | none => rfl
  | some o => rw [s a o e] at h; cases h

theorem Sub.gw {H H' : Hp} (s : Sub H H') : Grow H H' := ⟨fun a o e _ => s a o e, fun a e => s.none e, fun t => t.ext s⟩
theorem Grow.rf (H : Hp) : Grow H H := (Sub.rf H).gw
theorem Grow.tr {H H1 H2 : Hp} (a : Grow H H1) (b : Grow H1 H2) : Grow H H2 := ⟨fun c o e n => b.k c o (a.k c o e n) n, fun c e => a.n c (b.n c e), fun t => b.t (a.t t)⟩
theorem Grow.none {H H' : Hp} (s : Grow H H') {a : Addr} (h : H' a = .none) : H a = .none := s.n a h
theorem Grow.ow {H H' : Hp} (s : Grow H H') {a : Addr} (h : Ow H a) : Ow H' a := by
  obtain ⟨o, e, n⟩ := h
  exact ⟨o, s.k a o e n, n⟩
mutual
def R (K : PySem.W.Frag) (G : Hp) : D → V → Prop
  | .non, v => v = .non
  | .bl b, v => v = .bl b
  | .int i, v => v = .int i
  | .str x, v => v = .str x
  | .scr ns, v => ∃ a, v = .ref a ∧ SqL K G a (ns.map V.int)
  | .lst ds, v => ∃ a vs, v = .ref a ∧ G a = some (.lst vs) ∧ RL K G ds vs
  | .tup ds, v => ∃ a vs, v = .ref a ∧ G a = some (.tup vs) ∧ RL K G ds vs
  | .obj C fs, v => ∃ a dx vfs, v = .ref a ∧ G a = some (.ins C dx vfs) ∧ RF K G fs vfs
  | .opq a, v => v = .ref a
def RL (K : PySem.W.Frag) (G : Hp) : List D → List V → Prop
  | [], vs => vs = []
  | d :: ds, vs => ∃ v vs', vs = v :: vs' ∧ R K G d v ∧ RL K G ds vs'
def RF (K : PySem.W.Frag) (G : Hp) : List (Str × D) → List (Str × V) → Prop
  | [], vs => vs = []
  | (f, d) :: ds, vs => ∃ v vs', vs = (f, v) :: vs' ∧ R K G d v ∧ RF K G ds vs'
end

/-- all but the tables stays -/
def SubN (H H' : Hp) : Prop := ∀ a o, H a = some o → ntb o → H' a = some o
theorem Sub.nb {F H : Hp} (s : Sub F H) : SubN F H := fun a o e _ => s a o e
theorem SubN.seq {K : PySem.W.Frag} {G G' : Hp} {a : Addr} {xs : List V} (s : SubN G G') (q : SqL K G a xs) : SqL K G' a xs := by
  rcases q with (q | ⟨o, q⟩) | q
  · exact .inl (.inl (s _ _ q (fun _ z => nomatch z)))
  · exact .inl (.inr ⟨o, s _ _ q (fun _ z => nomatch z)⟩)
  · exact .inr q
mutual
theorem R.monoN {K : PySem.W.Frag} {G G' : Hp} (s : SubN G G') : ∀ (d : D) (v : V), R K G d v → R K G' d v
  | .non, v, h => by unfold R at *; exact h
  | .bl b, v, h => by unfold R at *; exact h
  | .int i, v, h => by unfold R at *; exact h
  | .str x, v, h => by unfold R at *; exact h
  | .scr ns, v, h => by
    unfold R at *
    obtain ⟨a, e, q⟩ := h
    exact ⟨a, e, SubN.seq s q⟩
  | .lst ds, v, h => by
    unfold R at *
    obtain ⟨a, vs, e, q, r⟩ := h
    exact ⟨a, vs, e, s _ _ q (fun _ z => nomatch z), RL.monoN s ds vs r⟩
  | .tup ds, v, h => by
    unfold R at *
    obtain ⟨a, vs, e, q, r⟩ := h
    exact ⟨a, vs, e, s _ _ q (fun _ z => nomatch z), RL.monoN s ds vs r⟩
  | .obj C fs, v, h => by
    unfold R at *
    obtain ⟨a, dx, vs, e, q, r⟩ := h
    exact ⟨a, dx, vs, e, s _ _ q (fun _ z => nomatch z), RF.monoN s fs vs r⟩
  | .opq a, v, h => by unfold R at *; exact h
theorem RL.monoN {K : PySem.W.Frag} {G G' : Hp} (s : SubN G G') : ∀ (ds : List D) (vs : List V), RL K G ds vs → RL K G' ds vs
  | [], vs, h => by unfold RL at *; exact h
  | d :: ds, vs, h => by
    unfold RL at *
    obtain ⟨v, vs', e, a, b⟩ := h
    exact ⟨v, vs', e, R.monoN s d v a, RL.monoN s ds vs' b⟩
theorem RF.monoN {K : PySem.W.Frag} {G G' : Hp} (s : SubN G G') : ∀ (ds : List (Str × D)) (vs : List (Str × V)), RF K G ds vs → RF K G' ds vs
  | [], vs, h => by unfold RF at *; exact h
  | (f, d) :: ds, vs, h => by
    unfold RF at *
    obtain ⟨v, vs', e, a, b⟩ := h
    exact ⟨v, vs', e, R.monoN s d v a, RF.monoN s ds vs' b⟩
end

section
variable {K : PySem.W.Frag} {G G' : Hp}
theorem R.mono (s : Sub G G') (d : D) (v : V) (h : R K G d v) : R K G' d v := R.monoN s.nb d v h
theorem RL.mono (s : Sub G G') (ds : List D) (vs : List V) (h : RL K G ds vs) : RL K G' ds vs := RL.monoN s.nb ds vs h
theorem RF.mono (s : Sub G G') (ds : List (Str × D)) (vs : List (Str × V)) (h : RF K G ds vs) : RF K G' ds vs := RF.monoN s.nb ds vs h
end
section
variable {K : PySem.W.Frag} {G : Hp}
theorem r_non {v : V} : R K G .non v ↔ v = .non := by unfold R; exact Iff.rfl
theorem r_bl {b : Bool} {v : V} : R K G (.bl b) v ↔ v = .bl b := by unfold R; exact Iff.rfl
theorem r_int {i : Int} {v : V} : R K G (.int i) v ↔ v = .int i := by unfold R; exact Iff.rfl
theorem r_str {x : Str} {v : V} : R K G (.str x) v ↔ v = .str x := by unfold R; exact Iff.rfl
theorem r_scr {ns : List Int} {v : V} : R K G (.scr ns) v ↔ ∃ a, v = .ref a ∧ SqL K G a (ns.map V.int) := by unfold R; exact Iff.rfl
theorem r_lst {ds : List D} {v : V} : R K G (.lst ds) v ↔ ∃ a vs, v = .ref a ∧ G a = some (.lst vs) ∧ RL K G ds vs := by conv => lhs; unfold R
theorem r_tup {ds : List D} {v : V} : R K G (.tup ds) v ↔ ∃ a vs, v = .ref a ∧ G a = some (.tup vs) ∧ RL K G ds vs := by conv => lhs; unfold R
theorem r_obj {C : Addr} {fs : List (Str × D)} {v : V} : R K G (.obj C fs) v ↔ ∃ a dx vfs, v = .ref a ∧ G a = some (.ins C dx vfs) ∧ RF K G fs vfs := by conv => lhs; unfold R
theorem r_opq {a : Addr} {v : V} : R K G (.opq a) v ↔ v = .ref a := by unfold R; exact Iff.rfl
theorem rl_nil {vs : List V} : RL K G [] vs ↔ vs = [] := by unfold RL; exact Iff.rfl
theorem rl_cons {d : D} {ds : List D} {vs : List V} : RL K G (d :: ds) vs ↔ ∃ v vs', vs = v :: vs' ∧ R K G d v ∧ RL K G ds vs' := by conv => lhs; unfold RL
theorem rf_nil {vs : List (Str × V)} : RF K G [] vs ↔ vs = [] := by unfold RF; exact Iff.rfl
theorem rf_cons {f : Str} {d : D} {ds : List (Str × D)} {vs : List (Str × V)} : RF K G ((f, d) :: ds) vs ↔ ∃ v vs', vs = (f, v) :: vs' ∧ R K G d v ∧ RF K G ds vs' := by conv => lhs; unfold RF
theorem RL.cons {d : D} {ds : List D} {v : V} {vs : List V} (a : R K G d v) (b : RL K G ds vs) : RL K G (d :: ds) (v :: vs) := rl_cons.mpr ⟨v, vs, rfl, a, b⟩
theorem RL.nil : RL K G [] [] := rl_nil.mpr rfl
theorem RL.uncons {d : D} {ds : List D} {v : V} {vs : List V} (h : RL K G (d :: ds) (v :: vs)) : R K G d v ∧ RL K G ds vs := by
  obtain ⟨_, _, e, a, b⟩ := rl_cons.mp h
  cases e; exact ⟨a, b⟩
theorem RL.length : ∀ {ds : List D} {vs : List V}, RL K G ds vs → vs.length = ds.length
  | [], _, h => by rw [rl_nil.mp h]; rfl
  | d :: ds, _, h => by
    obtain ⟨v, vs', rfl, _, b⟩ := rl_cons.mp h
    simp [RL.length b]
theorem RL.get : ∀ {ds : List D} {vs : List V} {i : Nat} {d : D}, RL K G ds vs → ds[i]? = some d → ∃ v, vs[i]? = some v ∧ R K G d v
  | [], _, i, d, _, e => by simp at e
  | d :: ds, _, 0, d', h, e => by
    obtain ⟨v, vs', rfl, a, _⟩ := rl_cons.mp h
    simp at e; subst e; exact ⟨v, rfl, a⟩
  | d :: ds, _, i + 1, d', h, e => by
    obtain ⟨v, vs', rfl, _, b⟩ := rl_cons.mp h
    obtain ⟨w, e1, e2⟩ := RL.get (i := i) b (by simpa using e)
    exact ⟨w, by simpa using e1, e2⟩
theorem RL.set : ∀ {ds : List D} {vs : List V} (i : Nat) {d : D} {v : V}, RL K G ds vs → R K G d v → RL K G (ds.set i d) (vs.set i v)
  | [], _, i, d, v, h, r => by rw [rl_nil.mp h]; exact RL.nil
  | d :: ds, _, 0, d', v, h, r => by
    obtain ⟨w, vs', rfl, a, b⟩ := rl_cons.mp h
    exact RL.cons r b
  | d :: ds, _, i + 1, d', v, h, r => by
    obtain ⟨w, vs', rfl, a, b⟩ := rl_cons.mp h
    exact RL.cons a (RL.set i b r)
theorem RL.append : ∀ {ds es : List D} {vs ws : List V}, RL K G ds vs → RL K G es ws → RL K G (ds ++ es) (vs ++ ws)
  | [], _, _, _, h, k => by rw [rl_nil.mp h]; exact k
  | d :: ds, _, _, _, h, k => by
    obtain ⟨w, vs', rfl, a, b⟩ := rl_cons.mp h
    exact RL.cons a (RL.append b k)
theorem RL.take : ∀ {ds : List D} {vs : List V} (n : Nat), RL K G ds vs → RL K G (ds.take n) (vs.take n)
  | _, _, 0, _ => RL.nil
  | [], _, n + 1, h => by rw [rl_nil.mp h]; exact RL.nil
  | d :: ds, _, n + 1, h => by
    obtain ⟨w, vs', rfl, a, b⟩ := rl_cons.mp h
    exact RL.cons a (RL.take n b)
theorem RL.drop : ∀ {ds : List D} {vs : List V} (n : Nat), RL K G ds vs → RL K G (ds.drop n) (vs.drop n)
  | _, _, 0, h => h
  | [], _, n + 1, h => by rw [rl_nil.mp h]; exact RL.nil
  | d :: ds, _, n + 1, h => by
    obtain ⟨w, vs', rfl, a, b⟩ := rl_cons.mp h
    exact RL.drop n b
theorem RL.ints : ∀ {ns : List Int} {vs : List V}, RL K G (ns.map D.int) vs → vs = ns.map V.int
  | [], _, h => rl_nil.mp h
  | n :: ns, _, h => by
    obtain ⟨v, vs', rfl, a, b⟩ := rl_cons.mp h
    rw [r_int.mp a, RL.ints b]; rfl
theorem RL.of_ints : ∀ {ns : List Int}, RL K G (ns.map D.int) (ns.map V.int)
  | [] => RL.nil
  | n :: ns => RL.cons (r_int.mpr rfl) RL.of_ints
theorem RL.bls : ∀ {ns : List Bool} {vs : List V}, RL K G (ns.map D.bl) vs → vs = ns.map V.bl
  | [], _, h => rl_nil.mp h
  | n :: ns, _, h => by
    obtain ⟨v, vs', rfl, a, b⟩ := rl_cons.mp h
    rw [r_bl.mp a, RL.bls b]; rfl
theorem RL.of_bls : ∀ {ns : List Bool}, RL K G (ns.map D.bl) (ns.map V.bl)
  | [] => RL.nil
  | n :: ns => RL.cons (r_bl.mpr rfl) RL.of_bls
theorem RL.strs : ∀ {ns : List Str} {vs : List V}, RL K G (ns.map D.str) vs → vs = ns.map V.str
  | [], _, h => rl_nil.mp h
  | n :: ns, _, h => by
    obtain ⟨v, vs', rfl, a, b⟩ := rl_cons.mp h
    rw [r_str.mp a, RL.strs b]; rfl
theorem RL.of_strs : ∀ {ns : List Str}, RL K G (ns.map D.str) (ns.map V.str)
  | [] => RL.nil
  | n :: ns => RL.cons (r_str.mpr rfl) RL.of_strs
theorem RF.lookup : ∀ {fs : List (Str × D)} {vfs : List (Str × V)} {f : Str} {d : D}, RF K G fs vfs → fs.lookup f = some d → ∃ v, vfs.lookup f = some v ∧ R K G d v
  | [], _, f, d, _, e => by simp at e
  | (g, d) :: fs, _, f, d', h, e => by
    obtain ⟨v, vs', rfl, a, b⟩ := rf_cons.mp h
    rw [List.lookup_cons] at e ⊢
    cases q : f == g with
    | true => rw [q] at e; cases e; exact ⟨v, rfl, a⟩
    | false => rw [q] at e; exact RF.lookup b e
theorem RF.lookupN : ∀ {fs : List (Str × D)} {vfs : List (Str × V)} {f : Str}, RF K G fs vfs → fs.lookup f = none → vfs.lookup f = none
  | [], _, f, h, e => by rw [rf_nil.mp h]; rfl
  | (g, d) :: fs, _, f, h, e => by
    obtain ⟨v, vs', rfl, a, b⟩ := rf_cons.mp h
    rw [List.lookup_cons] at e ⊢
    cases q : f == g with
    | true => rw [q] at e; cases e
    | false => rw [q] at e; exact RF.lookupN b e
end
/-- plain scalars, which no heap bears -/
def flat : D → Bool
  | .non => true | .bl _ => true | .int _ => true | .str _ => true | _ => false
theorem flat_any {K : PySem.W.Frag} {G G' : Hp} {d : D} {v : V} (f : flat d = true) (h : R K G d v) : R K G' d v := by
  cases d <;> first
    | (unfold R at *; exact h)
    | (exact absurd f (by simp [flat]))
theorem flats_any {K : PySem.W.Frag} {G G' : Hp} : ∀ {ds : List D} {vs : List V}, ds.all flat = true → RL K G ds vs → RL K G' ds vs
  | [], _, _, h => by rw [rl_nil.mp h]; exact RL.nil
  | d :: ds, _, f, h => by
    obtain ⟨v, vs', rfl, a, b⟩ := rl_cons.mp h
    rw [List.all_cons, Bool.and_eq_true] at f
    exact RL.cons (flat_any f.1 a) (flats_any f.2 b)

/-! ### trees of one's own -/
/-- fz: what stays as it is; ls, tp, ob: a list, a tuple, an instance that nobody else holds -/
inductive T where
  | fz (d : D) | ls (ts : List T) | tp (ts : List T) | ob (C : Addr) (fs : List (Str × T))
abbrev T.l (ds : List D) : T := .ls (ds.map .fz)
mutual
def T.d : T → D
  | .fz d => d | .ls ts => .lst (T.dl ts) | .tp ts => .tup (T.dl ts) | .ob C fs => .obj C (T.df fs)
def T.dl : List T → List D
  | [] => [] | t :: ts => T.d t :: T.dl ts
def T.df : List (Str × T) → List (Str × D)
  | [] => [] | (f, t) :: ts => (f, T.d t) :: T.df ts
end
theorem T.dl_fz : ∀ ds : List D, T.dl (ds.map .fz) = ds
  | [] => by rw [List.map_nil, T.dl]
  | d :: ds => by rw [List.map_cons, T.dl, T.d, T.dl_fz ds]
theorem T.d_l (ds : List D) : T.d (T.l ds) = .lst ds := by rw [T.l, T.d, T.dl_fz]
mutual
def RT (K : PySem.W.Frag) (F H : Hp) : T → V → List Addr → Prop
  | .fz d, v, fp => fp = [] ∧ R K F d v
  | .ls ts, v, fp => ∃ a vs f, v = .ref a ∧ fp = a :: f ∧ a ∉ f ∧ H a = some (.lst vs) ∧ RTL K F H ts vs f
  | .tp ts, v, fp => ∃ a vs f, v = .ref a ∧ fp = a :: f ∧ a ∉ f ∧ H a = some (.tup vs) ∧ RTL K F H ts vs f
  | .ob C fs, v, fp => ∃ a dx vfs f, v = .ref a ∧ fp = a :: f ∧ a ∉ f ∧ H a = some (.ins C dx vfs) ∧ RTF K F H fs vfs f
def RTL (K : PySem.W.Frag) (F H : Hp) : List T → List V → List Addr → Prop
  | [], vs, fp => vs = [] ∧ fp = []
  | t :: ts, vs, fp => ∃ v vs' f g, vs = v :: vs' ∧ fp = f ++ g ∧ (∀ a ∈ f, a ∉ g) ∧ RT K F H t v f ∧ RTL K F H ts vs' g
def RTF (K : PySem.W.Frag) (F H : Hp) : List (Str × T) → List (Str × V) → List Addr → Prop
  | [], vs, fp => vs = [] ∧ fp = []
  | (n, t) :: ts, vs, fp => ∃ v vs' f g, vs = (n, v) :: vs' ∧ fp = f ++ g ∧ (∀ a ∈ f, a ∉ g) ∧ RT K F H t v f ∧ RTF K F H ts vs' g
end
section
variable {K : PySem.W.Frag} {F H : Hp}
theorem rt_fz {d : D} {v : V} {fp : List Addr} : RT K F H (.fz d) v fp ↔ fp = [] ∧ R K F d v := by conv => lhs; unfold RT
theorem rt_ls {ts : List T} {v : V} {fp : List Addr} : RT K F H (.ls ts) v fp ↔ ∃ a vs f, v = .ref a ∧ fp = a :: f ∧ a ∉ f ∧ H a = some (.lst vs) ∧ RTL K F H ts vs f := by conv => lhs; unfold RT
theorem rt_tp {ts : List T} {v : V} {fp : List Addr} : RT K F H (.tp ts) v fp ↔ ∃ a vs f, v = .ref a ∧ fp = a :: f ∧ a ∉ f ∧ H a = some (.tup vs) ∧ RTL K F H ts vs f := by conv => lhs; unfold RT
theorem rt_ob {C : Addr} {fs : List (Str × T)} {v : V} {fp : List Addr} : RT K F H (.ob C fs) v fp ↔ ∃ a dx vfs f, v = .ref a ∧ fp = a :: f ∧ a ∉ f ∧ H a = some (.ins C dx vfs) ∧ RTF K F H fs vfs f := by conv => lhs; unfold RT
theorem rtl_nil {vs : List V} {fp : List Addr} : RTL K F H [] vs fp ↔ vs = [] ∧ fp = [] := by unfold RTL; exact Iff.rfl
theorem rtl_cons {t : T} {ts : List T} {vs : List V} {fp : List Addr} : RTL K F H (t :: ts) vs fp ↔ ∃ v vs' f g, vs = v :: vs' ∧ fp = f ++ g ∧ (∀ a ∈ f, a ∉ g) ∧ RT K F H t v f ∧ RTL K F H ts vs' g := by conv => lhs; unfold RTL
theorem rtf_nil {vs : List (Str × V)} {fp : List Addr} : RTF K F H [] vs fp ↔ vs = [] ∧ fp = [] := by unfold RTF; exact Iff.rfl
theorem rtf_cons {n : Str} {t : T} {ts : List (Str × T)} {vs : List (Str × V)} {fp : List Addr} : RTF K F H ((n, t) :: ts) vs fp ↔ ∃ v vs' f g, vs = (n, v) :: vs' ∧ fp = f ++ g ∧ (∀ a ∈ f, a ∉ g) ∧ RT K F H t v f ∧ RTF K F H ts vs' g := by conv => lhs; unfold RTF
end
mutual
theorem RT.mono {K : PySem.W.Frag} {F H F' H' : Hp} (s : Sub F F') : ∀ (t : T) (v : V) (fp : List Addr), (∀ a ∈ fp, H' a = H a) → RT K F H t v fp → RT K F' H' t v fp
  | .fz d, v, fp, h, r => by
    obtain ⟨e, r⟩ := rt_fz.mp r
    exact rt_fz.mpr ⟨e, r.mono s⟩
  | .ls ts, v, fp, h, r => by
    obtain ⟨a, vs, f, e, rfl, n, g, l⟩ := rt_ls.mp r
    exact rt_ls.mpr ⟨a, vs, f, e, rfl, n, by rw [h a List.mem_cons_self]; exact g, RTL.mono s ts vs f (fun b hb => h b (List.mem_cons_of_mem _ hb)) l⟩
  | .tp ts, v, fp, h, r => by
    obtain ⟨a, vs, f, e, rfl, n, g, l⟩ := rt_tp.mp r
    exact rt_tp.mpr ⟨a, vs, f, e, rfl, n, by rw [h a List.mem_cons_self]; exact g, RTL.mono s ts vs f (fun b hb => h b (List.mem_cons_of_mem _ hb)) l⟩
  | .ob C fs, v, fp, h, r => by
    obtain ⟨a, dx, vs, f, e, rfl, n, g, l⟩ := rt_ob.mp r
    exact rt_ob.mpr ⟨a, dx, vs, f, e, rfl, n, by rw [h a List.mem_cons_self]; exact g, RTF.mono s fs vs f (fun b hb => h b (List.mem_cons_of_mem _ hb)) l⟩
theorem RTL.mono {K : PySem.W.Frag} {F H F' H' : Hp} (s : Sub F F') : ∀ (ts : List T) (vs : List V) (fp : List Addr), (∀ a ∈ fp, H' a = H a) → RTL K F H ts vs fp → RTL K F' H' ts vs fp
  | [], vs, fp, h, r => rtl_nil.mpr (rtl_nil.mp r)
  | t :: ts, vs, fp, h, r => by
    obtain ⟨v, vs', f, g, e, rfl, dj, r1, r2⟩ := rtl_cons.mp r
    exact rtl_cons.mpr ⟨v, vs', f, g, e, rfl, dj, RT.mono s t v f (fun b hb => h b (List.mem_append_left _ hb)) r1, RTL.mono s ts vs' g (fun b hb => h b (List.mem_append_right _ hb)) r2⟩
theorem RTF.mono {K : PySem.W.Frag} {F H F' H' : Hp} (s : Sub F F') : ∀ (ts : List (Str × T)) (vs : List (Str × V)) (fp : List Addr), (∀ a ∈ fp, H' a = H a) → RTF K F H ts vs fp → RTF K F' H' ts vs fp
  | [], vs, fp, h, r => rtf_nil.mpr (rtf_nil.mp r)
  | (n, t) :: ts, vs, fp, h, r => by
    obtain ⟨v, vs', f, g, e, rfl, dj, r1, r2⟩ := rtf_cons.mp r
    exact rtf_cons.mpr ⟨v, vs', f, g, e, rfl, dj, RT.mono s t v f (fun b hb => h b (List.mem_append_left _ hb)) r1, RTF.mono s ts vs' g (fun b hb => h b (List.mem_append_right _ hb)) r2⟩
end
mutual
theorem RT.own {K : PySem.W.Frag} {F H : Hp} : ∀ (t : T) (v : V) (fp : List Addr), RT K F H t v fp → ∀ a ∈ fp, Ow H a
  | .fz d, v, fp, r, a, ha => by rw [(rt_fz.mp r).1] at ha; cases ha
  | .ls ts, v, fp, r, b, hb => by
    obtain ⟨a, vs, f, e, rfl, n, g, l⟩ := rt_ls.mp r
    rcases List.mem_cons.mp hb with rfl | hb
    · exact .lst g
    · exact RTL.own ts vs f l b hb
  | .tp ts, v, fp, r, b, hb => by
    obtain ⟨a, vs, f, e, rfl, n, g, l⟩ := rt_tp.mp r
    rcases List.mem_cons.mp hb with rfl | hb
    · exact .tup g
    · exact RTL.own ts vs f l b hb
  | .ob C fs, v, fp, r, b, hb => by
    obtain ⟨a, dx, vs, f, e, rfl, n, g, l⟩ := rt_ob.mp r
    rcases List.mem_cons.mp hb with rfl | hb
    · exact .ins g
    · exact RTF.own fs vs f l b hb
theorem RTL.own {K : PySem.W.Frag} {F H : Hp} : ∀ (ts : List T) (vs : List V) (fp : List Addr), RTL K F H ts vs fp → ∀ a ∈ fp, Ow H a
  | [], vs, fp, r, a, ha => by rw [(rtl_nil.mp r).2] at ha; cases ha
  | t :: ts, vs, fp, r, b, hb => by
    obtain ⟨v, vs', f, g, e, rfl, dj, r1, r2⟩ := rtl_cons.mp r
    rcases List.mem_append.mp hb with hb | hb
    · exact RT.own t v f r1 b hb
    · exact RTL.own ts vs' g r2 b hb
theorem RTF.own {K : PySem.W.Frag} {F H : Hp} : ∀ (ts : List (Str × T)) (vs : List (Str × V)) (fp : List Addr), RTF K F H ts vs fp → ∀ a ∈ fp, Ow H a
  | [], vs, fp, r, a, ha => by rw [(rtf_nil.mp r).2] at ha; cases ha
  | (n, t) :: ts, vs, fp, r, b, hb => by
    obtain ⟨v, vs', f, g, e, rfl, dj, r1, r2⟩ := rtf_cons.mp r
    rcases List.mem_append.mp hb with hb | hb
    · exact RT.own t v f r1 b hb
    · exact RTF.own ts vs' g r2 b hb
end
mutual
theorem RT.r {K : PySem.W.Frag} {F H G : Hp} (s : Sub F G) : ∀ (t : T) (v : V) (fp : List Addr), (∀ a ∈ fp, G a = H a) → RT K F H t v fp → R K G t.d v
  | .fz d, v, fp, h, r => by rw [T.d]; exact (rt_fz.mp r).2.mono s
  | .ls ts, v, fp, h, r => by
    obtain ⟨a, vs, f, e, rfl, n, g, l⟩ := rt_ls.mp r
    rw [T.d]
    exact r_lst.mpr ⟨a, vs, e, by rw [h a List.mem_cons_self]; exact g, RTL.r s ts vs f (fun b hb => h b (List.mem_cons_of_mem _ hb)) l⟩
  | .tp ts, v, fp, h, r => by
    obtain ⟨a, vs, f, e, rfl, n, g, l⟩ := rt_tp.mp r
    rw [T.d]
    exact r_tup.mpr ⟨a, vs, e, by rw [h a List.mem_cons_self]; exact g, RTL.r s ts vs f (fun b hb => h b (List.mem_cons_of_mem _ hb)) l⟩
  | .ob C fs, v, fp, h, r => by
    obtain ⟨a, dx, vs, f, e, rfl, n, g, l⟩ := rt_ob.mp r
    rw [T.d]
    exact r_obj.mpr ⟨a, dx, vs, e, by rw [h a List.mem_cons_self]; exact g, RTF.r s fs vs f (fun b hb => h b (List.mem_cons_of_mem _ hb)) l⟩
theorem RTL.r {K : PySem.W.Frag} {F H G : Hp} (s : Sub F G) : ∀ (ts : List T) (vs : List V) (fp : List Addr), (∀ a ∈ fp, G a = H a) → RTL K F H ts vs fp → RL K G (T.dl ts) vs
  | [], vs, fp, h, r => by rw [T.dl, (rtl_nil.mp r).1]; exact RL.nil
  | t :: ts, vs, fp, h, r => by
    obtain ⟨v, vs', f, g, rfl, rfl, dj, r1, r2⟩ := rtl_cons.mp r
    rw [T.dl]
    exact RL.cons (RT.r s t v f (fun b hb => h b (List.mem_append_left _ hb)) r1) (RTL.r s ts vs' g (fun b hb => h b (List.mem_append_right _ hb)) r2)
theorem RTF.r {K : PySem.W.Frag} {F H G : Hp} (s : Sub F G) : ∀ (ts : List (Str × T)) (vs : List (Str × V)) (fp : List Addr), (∀ a ∈ fp, G a = H a) → RTF K F H ts vs fp → RF K G (T.df ts) vs
  | [], vs, fp, h, r => by rw [T.df, (rtf_nil.mp r).1]; exact rf_nil.mpr rfl
  | (n, t) :: ts, vs, fp, h, r => by
    obtain ⟨v, vs', f, g, rfl, rfl, dj, r1, r2⟩ := rtf_cons.mp r
    rw [T.df]
    exact rf_cons.mpr ⟨v, vs', rfl, RT.r s t v f (fun b hb => h b (List.mem_append_left _ hb)) r1, RTF.r s ts vs' g (fun b hb => h b (List.mem_append_right _ hb)) r2⟩
end
section
variable {K : PySem.W.Frag} {F H F' H' : Hp}
theorem rtl_fz : ∀ {ds : List D} {vs : List V} {fp : List Addr}, RTL K F H (ds.map .fz) vs fp ↔ fp = [] ∧ RL K F ds vs
  | [], vs, fp => by rw [List.map_nil, rtl_nil, rl_nil]; exact And.comm
  | d :: ds, vs, fp => by
    rw [List.map_cons, rtl_cons, rl_cons]
    constructor
    · rintro ⟨v, vs', f, g, e, rfl, dj, r1, r2⟩
      obtain ⟨rfl, s1⟩ := rt_fz.mp r1
      obtain ⟨rfl, s2⟩ := rtl_fz.mp r2
      exact ⟨rfl, v, vs', e, s1, s2⟩
    · rintro ⟨rfl, v, vs', e, r1, r2⟩
      exact ⟨v, vs', [], [], e, rfl, fun _ h => (nomatch h), rt_fz.mpr ⟨rfl, r1⟩, rtl_fz.mpr ⟨rfl, r2⟩⟩
theorem rt_l {ds : List D} {v : V} {fp : List Addr} : RT K F H (T.l ds) v fp ↔ ∃ a vs, v = .ref a ∧ fp = [a] ∧ H a = some (.lst vs) ∧ RL K F ds vs := by
  rw [T.l, rt_ls]
  constructor
  · rintro ⟨a, vs, f, e, rfl, n, g, l⟩
    obtain ⟨rfl, l2⟩ := rtl_fz.mp l
    exact ⟨a, vs, e, rfl, g, l2⟩
  · rintro ⟨a, vs, e, rfl, g, l⟩
    exact ⟨a, vs, [], e, rfl, fun h => (nomatch h), g, rtl_fz.mpr ⟨rfl, l⟩⟩
theorem RTL.length : ∀ {ts : List T} {vs : List V} {fp : List Addr}, RTL K F H ts vs fp → vs.length = ts.length
  | [], vs, fp, h => by rw [(rtl_nil.mp h).1]; rfl
  | t :: ts, vs, fp, h => by
    obtain ⟨v, vs', f, g, rfl, _, _, _, r2⟩ := rtl_cons.mp h
    simp [RTL.length r2]
/-- an item, and what may be put in its place -/
theorem RTL.at_ : ∀ {ts : List T} {vs : List V} {fp : List Addr} {i : Nat} {t : T}, RTL K F H ts vs fp → ts[i]? = some t → ∃ v f, vs[i]? = some v ∧ RT K F H t v f ∧ (∀ a ∈ f, a ∈ fp) ∧
    ∀ (F' H' : Hp) (t' : T) (v' : V) (f' : List Addr), Sub F F' → (∀ a ∈ fp, a ∉ f → H' a = H a) → RT K F' H' t' v' f' → (∀ a ∈ f', a ∈ fp → a ∈ f) →
      ∃ fp', RTL K F' H' (ts.set i t') (vs.set i v') fp' ∧ ∀ a ∈ fp', a ∈ f' ∨ (a ∈ fp ∧ a ∉ f)
  | [], _, _, i, t, _, e => by simp at e
  | t :: ts, vs, fp, 0, t0, h, e => by
    obtain ⟨v, vs', f, g, rfl, rfl, dj, r1, r2⟩ := rtl_cons.mp h
    simp at e; subst e
    refine ⟨v, f, rfl, r1, fun a ha => List.mem_append_left _ ha, fun F' H' t' v' f' s k r' dj' => ⟨f' ++ g, rtl_cons.mpr ⟨v', vs', f', g, rfl, rfl, fun a ha hg => ?_, r', r2.mono s _ _ _ fun a ha => k a (List.mem_append_right _ ha) fun z => dj a z ha⟩, fun a ha => ?_⟩⟩
    · exact dj a (dj' a ha (List.mem_append_right _ hg)) hg
    · rcases List.mem_append.mp ha with ha | ha
      · exact .inl ha
      · exact .inr ⟨List.mem_append_right _ ha, fun z => dj a z ha⟩
  | t :: ts, vs, fp, i + 1, t0, h, e => by
    obtain ⟨v, vs', f, g, rfl, rfl, dj, r1, r2⟩ := rtl_cons.mp h
    obtain ⟨w, f2, e1, e2, e3, e4⟩ := RTL.at_ (i := i) r2 (by simpa using e)
    refine ⟨w, f2, by simpa using e1, e2, fun a ha => List.mem_append_right _ (e3 a ha), fun F' H' t' v' f' s k r' dj' => ?_⟩
    obtain ⟨gp, q1, q2⟩ := e4 F' H' t' v' f' s (fun a ha => k a (List.mem_append_right _ ha)) r' (fun a ha hg => dj' a ha (List.mem_append_right _ hg))
    refine ⟨f ++ gp, rtl_cons.mpr ⟨v, _, f, gp, rfl, rfl, fun a ha hg => ?_, r1.mono s _ _ _ fun a ha => k a (List.mem_append_left _ ha) fun z => dj a ha (e3 a z), q1⟩, fun a ha => ?_⟩
    · rcases q2 a hg with z | z
      · exact dj a ha (e3 a (dj' a z (List.mem_append_left _ ha)))
      · exact dj a ha z.1
    · rcases List.mem_append.mp ha with ha | ha
      · exact .inr ⟨List.mem_append_left _ ha, fun z => dj a ha (e3 a z)⟩
      · rcases q2 a ha with z | z
        · exact .inl z
        · exact .inr ⟨List.mem_append_right _ z.1, z.2⟩
def putT (n : Str) (t' : T) : List (Str × T) → List (Str × T)
  | [] => [(n, t')]
  | (m, t) :: r => if n == m then (m, t') :: r else (m, t) :: putT n t' r
theorem RTF.at_ : ∀ {ts : List (Str × T)} {vs : List (Str × V)} {fp : List Addr} {n : Str} {t : T}, RTF K F H ts vs fp → ts.lookup n = some t → ∃ v f, vs.lookup n = some v ∧ RT K F H t v f ∧ (∀ a ∈ f, a ∈ fp) ∧
    ∀ (F' H' : Hp) (t' : T) (v' : V) (f' : List Addr), Sub F F' → (∀ a ∈ fp, a ∉ f → H' a = H a) → RT K F' H' t' v' f' → (∀ a ∈ f', a ∈ fp → a ∈ f) →
      ∃ fp', RTF K F' H' (putT n t' ts) (putF n v' vs) fp' ∧ ∀ a ∈ fp', a ∈ f' ∨ (a ∈ fp ∧ a ∉ f)
  | [], _, _, i, t, _, e => by simp at e
  | (m, t) :: ts, vs, fp, n, t0, h, e => by
    obtain ⟨v, vs', f, g, rfl, rfl, dj, r1, r2⟩ := rtf_cons.mp h
    rw [List.lookup_cons] at e ⊢
    cases q : n == m with
    | true =>
      rw [q] at e
      have e := Option.some.inj e
      subst e
      refine ⟨v, f, rfl, r1, fun a ha => List.mem_append_left _ ha, fun F' H' t' v' f' s k r' dj' => ⟨f' ++ g, ?_, fun a ha => ?_⟩⟩
      · rw [putT, if_pos q, show putF n v' ((m, v) :: vs') = (m, v') :: vs' from by rw [putF, if_pos (eq_of_beq q).symm]]
        refine rtf_cons.mpr ⟨v', vs', f', g, rfl, rfl, fun a ha hg => ?_, r', r2.mono s _ _ _ fun a ha => k a (List.mem_append_right _ ha) fun z => dj a z ha⟩
        exact dj a (dj' a ha (List.mem_append_right _ hg)) hg
      · rcases List.mem_append.mp ha with ha | ha
        · exact .inl ha
        · exact .inr ⟨List.mem_append_right _ ha, fun z => dj a z ha⟩
    | false =>
      rw [q] at e
      obtain ⟨w, f2, e1, e2, e3, e4⟩ := RTF.at_ (n := n) r2 e
      refine ⟨w, f2, e1, e2, fun a ha => List.mem_append_right _ (e3 a ha), fun F' H' t' v' f' s k r' dj' => ?_⟩
      obtain ⟨gp, q1, q2⟩ := e4 F' H' t' v' f' s (fun a ha => k a (List.mem_append_right _ ha)) r' (fun a ha hg => dj' a ha (List.mem_append_right _ hg))
      refine ⟨f ++ gp, ?_, fun a ha => ?_⟩
      · have q' : ¬ (n == m) = true := by rw [q]; exact Bool.false_ne_true
        rw [putT, if_neg q', show putF n v' ((m, v) :: vs') = (m, v) :: putF n v' vs' from by rw [putF, if_neg fun e => q' (by rw [e]; exact BEq.rfl)]]
        refine rtf_cons.mpr ⟨v, _, f, gp, rfl, rfl, fun a ha hg => ?_, r1.mono s _ _ _ fun a ha => k a (List.mem_append_left _ ha) fun z => dj a ha (e3 a z), q1⟩
        rcases q2 a hg with z | z
        · exact dj a ha (e3 a (dj' a z (List.mem_append_left _ ha)))
        · exact dj a ha z.1
      · rcases List.mem_append.mp ha with ha | ha
        · exact .inr ⟨List.mem_append_left _ ha, fun z => dj a ha (e3 a z)⟩
        · rcases q2 a ha with z | z
          · exact .inl z
          · exact .inr ⟨List.mem_append_right _ z.1, z.2⟩
theorem RTF.lookN : ∀ {ts : List (Str × T)} {vs : List (Str × V)} {fp : List Addr} {n : Str}, RTF K F H ts vs fp → ts.lookup n = none → vs.lookup n = none
  | [], _, _, f, h, e => by rw [(rtf_nil.mp h).1]; rfl
  | (m, t) :: ts, vs, fp, n, h, e => by
    obtain ⟨v, vs', f, g, rfl, rfl, dj, r1, r2⟩ := rtf_cons.mp h
    rw [List.lookup_cons] at e ⊢
    cases q : n == m with
    | true => rw [q] at e; cases e
    | false => rw [q] at e; exact RTF.lookN r2 e
/-- a field that is not there yet -/
theorem RTF.put : ∀ {ts : List (Str × T)} {vs : List (Str × V)} {fp : List Addr} {n : Str} {t' : T} {v' : V} {f' : List Addr}, RTF K F H ts vs fp → ts.lookup n = none → RT K F H t' v' f' → (∀ a ∈ f', a ∉ fp) → RTF K F H (putT n t' ts) (putF n v' vs) (fp ++ f')
  | [], _, _, n, t', v', f', h, e, r, dj => by
    obtain ⟨rfl, rfl⟩ := rtf_nil.mp h
    exact rtf_cons.mpr ⟨v', [], f', [], rfl, by simp, fun _ _ z => (nomatch z), r, rtf_nil.mpr ⟨rfl, rfl⟩⟩
  | (m, t) :: ts, vs, fp, n, t', v', f', h, e, r, dj => by
    obtain ⟨v, vs', f, g, rfl, rfl, dj2, r1, r2⟩ := rtf_cons.mp h
    rw [List.lookup_cons] at e
    cases q : n == m with
    | true => rw [q] at e; cases e
    | false =>
      rw [q] at e
      have ih := RTF.put r2 e r fun a ha hg => dj a ha (List.mem_append_right _ hg)
      have q' : ¬ (n == m) = true := by rw [q]; exact Bool.false_ne_true
      rw [putT, if_neg q', show putF n v' ((m, v) :: vs') = (m, v) :: putF n v' vs' from by rw [putF, if_neg fun e => q' (by rw [e]; exact BEq.rfl)], List.append_assoc]
      refine rtf_cons.mpr ⟨v, _, f, g ++ f', rfl, rfl, fun a ha hg => ?_, r1, ih⟩
      rcases List.mem_append.mp hg with hg | hg
      · exact dj2 a ha hg
      · exact dj a hg (List.mem_append_left _ ha)
end
/-! paths into a tree -/
inductive Ste where
  | ix (i : Nat) | fl (n : Str)
def T.get : List Ste → T → Option T
  | [], t => some t
  | .ix i :: π, .ls ts => match ts[i]? with | some t => T.get π t | none => none
  | .ix i :: π, .tp ts => match ts[i]? with | some t => T.get π t | none => none
  | .fl n :: π, .ob _ fs => match fs.lookup n with | some t => T.get π t | none => none
  | _ :: _, _ => none
def T.put (s : T) : List Ste → T → T
  | [], _ => s
  | .ix i :: π, .ls ts => match ts[i]? with | some t => .ls (ts.set i (T.put s π t)) | none => .ls ts
  | .ix i :: π, .tp ts => match ts[i]? with | some t => .tp (ts.set i (T.put s π t)) | none => .tp ts
  | .fl n :: π, .ob C fs => match fs.lookup n with | some t => .ob C (putT n (T.put s π t) fs) | none => .ob C fs
  | _ :: _, t => t
theorem set_self {α : Type} : ∀ {l : List α} {i : Nat} {x : α}, l[i]? = some x → l.set i x = l
  | [], _, _, _ => rfl
  | y :: l, 0, x, e => by simp at e; subst e; rfl
  | y :: l, i + 1, x, e => by
    rw [List.set_cons_succ, set_self (by simpa using e)]
theorem putF_self : ∀ {l : List (Str × V)} {n : Str} {x : V}, l.lookup n = some x → putF n x l = l
  | [], _, _, e => by simp at e
  | (m, y) :: l, n, x, e => by
    rw [List.lookup_cons] at e
    cases q : n == m with
    | true =>
      rw [q] at e
      have e := Option.some.inj e
      subst e
      rw [putF, if_pos (eq_of_beq q).symm]
    | false =>
      rw [q] at e
      have q' : ¬ (n == m) = true := by rw [q]; exact Bool.false_ne_true
      rw [putF, if_neg fun e => q' (by rw [e]; exact BEq.rfl), putF_self e]
/-- the way from a value down a path -/
def Pth (H : Hp) : List Ste → V → V → Prop
  | [], v, x => x = v
  | .ix i :: π, v, x => ∃ a vs w, v = .ref a ∧ (H a = some (.lst vs) ∨ H a = some (.tup vs)) ∧ vs[i]? = some w ∧ Pth H π w x
  | .fl n :: π, v, x => ∃ a C dx vfs w, v = .ref a ∧ H a = some (.ins C dx vfs) ∧ vfs.lookup n = some w ∧ Pth H π w x
theorem Pth.det {H : Hp} : ∀ {π : List Ste} {v x y : V}, Pth H π v x → Pth H π v y → x = y
  | [], v, x, y, a, b => by cases a; cases b; rfl
  | .ix i :: π, v, x, y, a, b => by
    obtain ⟨a1, vs, w, rfl, g, e, p⟩ := a
    obtain ⟨b1, us, u, e2, g2, e3, p2⟩ := b
    cases e2
    have : vs = us := by
      rcases g with g | g <;> rcases g2 with g2 | g2 <;> (rw [g] at g2; cases g2) <;> rfl
    subst this
    rw [e] at e3; cases e3
    exact Pth.det p p2
  | .fl n :: π, v, x, y, a, b => by
    obtain ⟨a1, C, dx, vs, w, rfl, g, e, p⟩ := a
    obtain ⟨b1, C2, dx2, us, u, e2, g2, e3, p2⟩ := b
    cases e2
    rw [g] at g2; cases g2
    rw [e] at e3; cases e3
    exact Pth.det p p2
theorem Pth.snoc {H : Hp} : ∀ {π ρ : List Ste} {v w x : V}, Pth H π v w → Pth H ρ w x → Pth H (π ++ ρ) v x
  | [], ρ, v, w, x, a, b => by cases a; exact b
  | .ix i :: π, ρ, v, w, x, a, b => by
    obtain ⟨a1, vs, u, rfl, g, e, p⟩ := a
    exact ⟨a1, vs, u, rfl, g, e, p.snoc b⟩
  | .fl n :: π, ρ, v, w, x, a, b => by
    obtain ⟨a1, C, dx, vs, u, rfl, g, e, p⟩ := a
    exact ⟨a1, C, dx, vs, u, rfl, g, e, p.snoc b⟩
theorem RT.foc {K : PySem.W.Frag} {F H : Hp} {s : T} : ∀ (π : List Ste) {t : T} {v : V} {fp : List Addr}, RT K F H t v fp → T.get π t = some s → ∃ x f, Pth H π v x ∧ RT K F H s x f ∧ (∀ a ∈ f, a ∈ fp) ∧
    ∀ (F' H' : Hp) (s' : T) (f' : List Addr), Sub F F' → (∀ a ∈ fp, a ∉ f → H' a = H a) → RT K F' H' s' x f' → (∀ a ∈ f', a ∈ fp → a ∈ f) →
      ∃ fp', RT K F' H' (T.put s' π t) v fp' ∧ ∀ a ∈ fp', a ∈ f' ∨ (a ∈ fp ∧ a ∉ f)
  | [], t, v, fp, r, e => by
    rw [T.get] at e
    have e := Option.some.inj e
    subst e
    exact ⟨v, fp, rfl, r, fun a ha => ha, fun F' H' s' f' sb k r' dj => ⟨f', by rw [T.put]; exact r', fun a ha => .inl ha⟩⟩
  | .ix i :: π, .ls ts, v, fp, r, e => by
    rw [T.get] at e
    cases z : ts[i]? with
    | none => rw [z] at e; cases e
    | some t1 =>
      rw [z] at e
      obtain ⟨a, vs, f, rfl, rfl, n, g, l⟩ := rt_ls.mp r
      obtain ⟨w, f1, e1, r1, i1, k1⟩ := l.at_ z
      obtain ⟨x, f2, pp, r2, i2, k2⟩ := RT.foc π r1 e
      refine ⟨x, f2, ⟨a, vs, w, rfl, .inl g, e1, pp⟩, r2, fun b hb => List.mem_cons_of_mem _ (i1 b (i2 b hb)), fun F' H' s' f' sb k r' dj => ?_⟩
      obtain ⟨fp1, q1, q2⟩ := k2 F' H' s' f' sb (fun b hb hn => k b (List.mem_cons_of_mem _ (i1 b hb)) hn) r' (fun b hb hg => dj b hb (List.mem_cons_of_mem _ (i1 b hg)))
      have nf : a ∉ f' := fun h => n (i1 a (i2 a (dj a h List.mem_cons_self)))
      obtain ⟨fp2, q3, q4⟩ := k1 F' H' _ w fp1 sb (fun b hb hn => k b (List.mem_cons_of_mem _ hb) fun h => hn (i2 b h)) q1 (fun b hb hg => by
        rcases q2 b hb with z | z
        · exact i2 b (dj b z (List.mem_cons_of_mem _ hg))
        · exact z.1)
      rw [set_self e1] at q3
      have g' : H' a = _ := (k a List.mem_cons_self fun h => n (i1 a (i2 a h))).trans g
      have n' : a ∉ fp2 := fun h => by
        rcases q4 a h with y | y
        · rcases q2 a y with y | y
          · exact nf y
          · exact n (i1 a y.1)
        · exact n y.1
      refine ⟨a :: fp2, by rw [T.put, z]; exact rt_ls.mpr ⟨a, vs, fp2, rfl, rfl, n', g', q3⟩, fun b hb => ?_⟩
      · rcases List.mem_cons.mp hb with rfl | hb
        · exact .inr ⟨List.mem_cons_self, fun h => n (i1 b (i2 b h))⟩
        · rcases q4 b hb with y | y
          · rcases q2 b y with y | y
            · exact .inl y
            · exact .inr ⟨List.mem_cons_of_mem _ (i1 b y.1), y.2⟩
          · exact .inr ⟨List.mem_cons_of_mem _ y.1, fun h => y.2 (i2 b h)⟩
  | .ix i :: π, .tp ts, v, fp, r, e => by
    rw [T.get] at e
    cases z : ts[i]? with
    | none => rw [z] at e; cases e
    | some t1 =>
      rw [z] at e
      obtain ⟨a, vs, f, rfl, rfl, n, g, l⟩ := rt_tp.mp r
      obtain ⟨w, f1, e1, r1, i1, k1⟩ := l.at_ z
      obtain ⟨x, f2, pp, r2, i2, k2⟩ := RT.foc π r1 e
      refine ⟨x, f2, ⟨a, vs, w, rfl, .inr g, e1, pp⟩, r2, fun b hb => List.mem_cons_of_mem _ (i1 b (i2 b hb)), fun F' H' s' f' sb k r' dj => ?_⟩
      obtain ⟨fp1, q1, q2⟩ := k2 F' H' s' f' sb (fun b hb hn => k b (List.mem_cons_of_mem _ (i1 b hb)) hn) r' (fun b hb hg => dj b hb (List.mem_cons_of_mem _ (i1 b hg)))
      have nf : a ∉ f' := fun h => n (i1 a (i2 a (dj a h List.mem_cons_self)))
      obtain ⟨fp2, q3, q4⟩ := k1 F' H' _ w fp1 sb (fun b hb hn => k b (List.mem_cons_of_mem _ hb) fun h => hn (i2 b h)) q1 (fun b hb hg => by
        rcases q2 b hb with z | z
        · exact i2 b (dj b z (List.mem_cons_of_mem _ hg))
        · exact z.1)
      rw [set_self e1] at q3
      have g' : H' a = _ := (k a List.mem_cons_self fun h => n (i1 a (i2 a h))).trans g
      have n' : a ∉ fp2 := fun h => by
        rcases q4 a h with y | y
        · rcases q2 a y with y | y
          · exact nf y
          · exact n (i1 a y.1)
        · exact n y.1
      refine ⟨a :: fp2, by rw [T.put, z]; exact rt_tp.mpr ⟨a, vs, fp2, rfl, rfl, n', g', q3⟩, fun b hb => ?_⟩
      · rcases List.mem_cons.mp hb with rfl | hb
        · exact .inr ⟨List.mem_cons_self, fun h => n (i1 b (i2 b h))⟩
        · rcases q4 b hb with y | y
          · rcases q2 b y with y | y
            · exact .inl y
            · exact .inr ⟨List.mem_cons_of_mem _ (i1 b y.1), y.2⟩
          · exact .inr ⟨List.mem_cons_of_mem _ y.1, fun h => y.2 (i2 b h)⟩
  | .fl m :: π, .ob C fs, v, fp, r, e => by
    rw [T.get] at e
    cases z : fs.lookup m with
    | none => rw [z] at e; cases e
    | some t1 =>
      rw [z] at e
      obtain ⟨a, dx, vs, f, rfl, rfl, n, g, l⟩ := rt_ob.mp r
      obtain ⟨w, f1, e1, r1, i1, k1⟩ := l.at_ z
      obtain ⟨x, f2, pp, r2, i2, k2⟩ := RT.foc π r1 e
      refine ⟨x, f2, ⟨a, C, dx, vs, w, rfl, g, e1, pp⟩, r2, fun b hb => List.mem_cons_of_mem _ (i1 b (i2 b hb)), fun F' H' s' f' sb k r' dj => ?_⟩
      obtain ⟨fp1, q1, q2⟩ := k2 F' H' s' f' sb (fun b hb hn => k b (List.mem_cons_of_mem _ (i1 b hb)) hn) r' (fun b hb hg => dj b hb (List.mem_cons_of_mem _ (i1 b hg)))
      have nf : a ∉ f' := fun h => n (i1 a (i2 a (dj a h List.mem_cons_self)))
      obtain ⟨fp2, q3, q4⟩ := k1 F' H' _ w fp1 sb (fun b hb hn => k b (List.mem_cons_of_mem _ hb) fun h => hn (i2 b h)) q1 (fun b hb hg => by
        rcases q2 b hb with z | z
        · exact i2 b (dj b z (List.mem_cons_of_mem _ hg))
        · exact z.1)
      rw [putF_self e1] at q3
      have g' : H' a = _ := (k a List.mem_cons_self fun h => n (i1 a (i2 a h))).trans g
      have n' : a ∉ fp2 := fun h => by
        rcases q4 a h with y | y
        · rcases q2 a y with y | y
          · exact nf y
          · exact n (i1 a y.1)
        · exact n y.1
      refine ⟨a :: fp2, by rw [T.put, z]; exact rt_ob.mpr ⟨a, dx, vs, fp2, rfl, rfl, n', g', q3⟩, fun b hb => ?_⟩
      · rcases List.mem_cons.mp hb with rfl | hb
        · exact .inr ⟨List.mem_cons_self, fun h => n (i1 b (i2 b h))⟩
        · rcases q4 b hb with y | y
          · rcases q2 b y with y | y
            · exact .inl y
            · exact .inr ⟨List.mem_cons_of_mem _ (i1 b y.1), y.2⟩
          · exact .inr ⟨List.mem_cons_of_mem _ y.1, fun h => y.2 (i2 b h)⟩
  | .ix _ :: _, .fz _, _, _, _, e => by rw [T.get] at e; · cases e
                                        all_goals (intros; simp_all)
  | .ix _ :: _, .ob _ _, _, _, _, e => by rw [T.get] at e; · cases e
                                          all_goals (intros; simp_all)
  | .fl _ :: _, .fz _, _, _, _, e => by rw [T.get] at e; · cases e
                                        all_goals (intros; simp_all)
  | .fl _ :: _, .ls _, _, _, _, e => by rw [T.get] at e; · cases e
                                        all_goals (intros; simp_all)
  | .fl _ :: _, .tp _, _, _, _, e => by rw [T.get] at e; · cases e
                                        all_goals (intros; simp_all)
/-! ### states -/
/-- a slot: unknown, a value that stays as it is, a tree of one's own (at a known place, where q tells it), a dict of ints of one's own -/
inductive Sl where
  | u | v (d : D) | w (q : Option Addr) (t : T) | k (kvs : List (Int × Int))
/-- a dict's item -/
def kvD (p : Int × Int) : L2.Key × V := (Sum.inl p.1, V.int p.2)
/-- a list of one's own -/
abbrev Sl.o (ds : List D) : Sl := .w none (T.l ds)
abbrev Sl.p (a : Addr) (ds : List D) : Sl := .w (some a) (T.l ds)

structure Ext (F H F' H' : Hp) : Prop where
  f : Sub F F'
  h : Grow H H'
  fh : Sub F' H'
  fr : ∀ a o, F' a = some o → F a = some o ∨ H a = none
  nt : ∀ a ps, F' a = some (.tbl ps) → F a = some (.tbl ps)
theorem Ext.rf {F H : Hp} (s : Sub F H) : Ext F H F H := ⟨Sub.rf _, Grow.rf _, s, fun _ _ e => .inl e, fun _ _ e => e⟩
theorem Ext.tr {F H F1 H1 F2 H2 : Hp} (a : Ext F H F1 H1) (b : Ext F1 H1 F2 H2) : Ext F H F2 H2 :=
  ⟨a.f.tr b.f, a.h.tr b.h, b.fh, fun c o e => by
    rcases b.fr c o e with z | z
    · exact a.fr c o z
    · exact .inr (a.h.none z), fun c ps e => a.nt c ps (b.nt c ps e)⟩
/-- the frozen part stays, the heap grows -/
theorem Ext.grow {F H H' : Hp} (s : Sub F H) (g : Sub H H') : Ext F H F H' := ⟨Sub.rf _, g.gw, s.tr g, fun _ _ e => .inl e, fun _ _ e => e⟩
/-- a new thing, frozen -/
theorem Ext.put {F H : Hp} {p : Addr} {o : HO} (s : Sub F H) (n : H p = none) (hn : ntb o := by exact fun _ z => nomatch z) : Ext F H (upd F p o) (upd H p o) := by
  refine ⟨Sub.new (s.none n), (Sub.new n).gw, fun a u e => ?_, fun a u e => ?_, fun a ps e => ?_⟩
  · by_cases z : a = p
    · subst z; rw [upd_same] at e ⊢; exact e
    · rw [upd_ne z] at e ⊢; exact s a u e
  · by_cases z : a = p
    · subst z; exact .inr n
    · rw [upd_ne z] at e; exact .inl e
  · by_cases z : a = p
    · subst z; rw [upd_same] at e; exact absurd (Option.some.inj e) (hn ps)
    · rw [upd_ne z] at e; exact e
theorem Ext.keepN {F H F' H' : Hp} (e : Ext F H F' H') {a : Addr} (h : F a = none) (h2 : H a ≠ none) : F' a = none := by
  cases z : F' a with
  | none => rfl
  | some o =>
    rcases e.fr a o z with y | y
    · rw [h] at y; cases y
    · exact absurd y h2
theorem sub_eq {H H' : Hp} (s : Grow H H') {a : Addr} (h : Ow H a) : H' a = H a := by
  obtain ⟨o, e, n⟩ := h
  rw [e]; exact s.k a o e n

def SlOk (K : PySem.W.Frag) (F H : Hp) : Sl → Option V → List Addr → Prop
  | .u, _, _ => True
  | .v d, x, fp => fp = [] ∧ ∃ y, x = some y ∧ R K F d y
  | .w q t, x, fp => ∃ y, x = some y ∧ RT K F H t y fp ∧ ∀ a, q = some a → y = .ref a
  | .k kvs, x, fp => ∃ a, x = some (.ref a) ∧ fp = [a] ∧ H a = some (.dK (kvs.map kvD))
/-- the parts of one's own: at each place a part for its own, neither frozen nor of the heap ahead -/
structure Fps (K : PySem.W.Frag) (H0 F H : Hp) (σ : L2.St) (Δ : List Sl) (fp : Nat → List Addr) : Prop where
  ok : ∀ i s x, Δ[i]? = some s → σ[i]? = some x → SlOk K F H s x (fp i)
  nw : ∀ i, ∀ a ∈ fp i, F a = none ∧ H0 a = none ∧ Ow H a
  dj : ∀ i j a, i ≠ j → a ∈ fp i → a ∈ fp j → False
structure Stt (K : PySem.W.Frag) (G0 H0 F H : Hp) (σ : L2.St) (Δ : List Sl) : Prop where
  g : Sub G0 F
  fh : Sub F H
  h0 : Grow H0 H
  fr : ∀ a o, F a = some o → G0 a = some o ∨ H0 a = none
  nt : ∀ a ps, F a ≠ some (.tbl ps)
  tb : LamX.Tabs τ.T H
  len : σ.length = Δ.length
  sl : ∃ fp, Fps K H0 F H σ Δ fp
theorem len_of {σ : L2.St} {Δ : List Sl} (e : σ.length = Δ.length) {i : Nat} {s : Sl} (h : Δ[i]? = some s) : ∃ x, σ[i]? = some x := by
  have := (List.getElem?_eq_some_iff.mp h).1
  exact ⟨σ[i]'(by omega), List.getElem?_eq_getElem _⟩
/-- one place has another part -/
def fset (fp : Nat → List Addr) (i : Nat) (f : List Addr) : Nat → List Addr := fun j => if j = i then f else fp j
theorem fset_same {fp : Nat → List Addr} {i : Nat} {f : List Addr} : fset fp i f i = f := if_pos rfl
theorem fset_ne {fp : Nat → List Addr} {i j : Nat} {f : List Addr} (h : j ≠ i) : fset fp i f j = fp j := if_neg h
section
variable {K : PySem.W.Frag} {G0 H0 F H F' H' : Hp} {σ : L2.St} {Δ : List Sl} {fp : Nat → List Addr}
theorem Fps.chg {i : Nat} {s : Sl} {x : Option V} {f : List Addr} (P : Fps K H0 F H σ Δ fp) (sb : Sub F F') (hk : ∀ j, j ≠ i → ∀ a ∈ fp j, F' a = none ∧ H' a = H a) (hs : SlOk K F' H' s x f) (hn : ∀ a ∈ f, F' a = none ∧ H0 a = none ∧ Ow H' a) (hd : ∀ j, j ≠ i → ∀ a ∈ fp j, a ∉ f) :
    Fps K H0 F' H' (σ.set i x) (Δ.set i s) (fset fp i f) := by
  refine ⟨fun j s' x' e1 e2 => ?_, fun j a ha => ?_, fun j k a ne h1 h2 => ?_⟩
  · by_cases z : j = i
    · subst z
      rw [fset_same]
      rw [List.getElem?_set] at e1 e2
      rw [if_pos rfl] at e1 e2
      split at e1
      · split at e2
        · cases e1; cases e2; exact hs
        · cases e2
      · cases e1
    · rw [List.getElem?_set_ne (Ne.symm z)] at e1 e2
      rw [fset_ne z]
      have o := P.ok j s' x' e1 e2
      cases s' with
      | u => trivial
      | v d => obtain ⟨h1, y, h2, h3⟩ := o; exact ⟨h1, y, h2, h3.mono sb⟩
      | w q t => obtain ⟨y, h2, h3, h4⟩ := o; exact ⟨y, h2, h3.mono sb _ _ _ (fun a ha => (hk j z a ha).2), h4⟩
      | k kvs => obtain ⟨a, h1, h2, h3⟩ := o; exact ⟨a, h1, h2, by rw [(hk j z a (by rw [h2]; exact List.mem_singleton_self _)).2]; exact h3⟩
  · by_cases z : j = i
    · subst z; rw [fset_same] at ha; exact hn a ha
    · rw [fset_ne z] at ha
      have := P.nw j a ha
      have h2 := hk j z a ha
      exact ⟨h2.1, this.2.1, by obtain ⟨o, e, n⟩ := this.2.2; exact ⟨o, h2.2.trans e, n⟩⟩
  · by_cases z : j = i
    · subst z
      rw [fset_same] at h1
      rw [fset_ne (Ne.symm ne)] at h2
      exact hd k (Ne.symm ne) a h2 h1
    · rw [fset_ne z] at h1
      by_cases y : k = i
      · subst y; rw [fset_same] at h2; exact hd j z a h1 h2
      · rw [fset_ne y] at h2; exact P.dj j k a ne h1 h2
theorem Stt.ext (S : Stt K G0 H0 F H σ Δ) (e : Ext F H F' H') : Stt K G0 H0 F' H' σ Δ where
  g := S.g.tr e.f
  fh := e.fh
  h0 := S.h0.tr e.h
  fr := fun a o q => by
    rcases e.fr a o q with z | z
    · exact S.fr a o z
    · exact .inr (S.h0.none z)
  nt := fun a ps q => S.nt a ps (e.nt a ps q)
  tb := e.h.t S.tb
  len := S.len
  sl := by
    obtain ⟨fp, P⟩ := S.sl
    refine ⟨fp, fun i s x e1 e2 => ?_, fun i a ha => ?_, P.dj⟩
    · have o := P.ok i s x e1 e2
      cases s with
      | u => trivial
      | v d => obtain ⟨h1, y, h2, h3⟩ := o; exact ⟨h1, y, h2, h3.mono e.f⟩
      | w q t => obtain ⟨y, h2, h3, h4⟩ := o; exact ⟨y, h2, h3.mono e.f _ _ _ (fun a ha => sub_eq e.h (P.nw i a ha).2.2), h4⟩
      | k kvs => obtain ⟨a, h1, h2, h3⟩ := o; exact ⟨a, h1, h2, by rw [sub_eq e.h (P.nw i a (by rw [h2]; exact List.mem_singleton_self _)).2.2]; exact h3⟩
    · obtain ⟨h1, h2, h3⟩ := P.nw i a ha
      exact ⟨e.keepN h1 h3.ne, h2, e.h.ow h3⟩
theorem Stt.val (S : Stt K G0 H0 F H σ Δ) (i : Nat) (d : D) (h : Δ[i]? = some (Sl.v d)) : ∃ x, σ[i]? = some (some x) ∧ R K F d x := by
  obtain ⟨fp, P⟩ := S.sl
  obtain ⟨x, e⟩ := len_of S.len h
  obtain ⟨_, y, rfl, r⟩ := P.ok i _ x h e
  exact ⟨y, e, r⟩
theorem Stt.tree (S : Stt K G0 H0 F H σ Δ) (i : Nat) {q : Option Addr} {t : T} (h : Δ[i]? = some (Sl.w q t)) : ∃ y f, σ[i]? = some (some y) ∧ RT K F H t y f ∧ (∀ a, q = some a → y = .ref a) ∧ ∀ a ∈ f, F a = none ∧ H0 a = none ∧ Ow H a := by
  obtain ⟨fp, P⟩ := S.sl
  obtain ⟨x, e⟩ := len_of S.len h
  obtain ⟨y, rfl, r, k⟩ := P.ok i _ x h e
  exact ⟨y, fp i, e, r, k, P.nw i⟩
theorem Stt.own (S : Stt K G0 H0 F H σ Δ) (i : Nat) {q : Option Addr} (ds : List D) (h : Δ[i]? = some (Sl.w q (T.l ds))) : ∃ a vs, σ[i]? = some (some (V.ref a)) ∧ H a = some (.lst vs) ∧ F a = none ∧ H0 a = none ∧ RL K F ds vs := by
  obtain ⟨y, f, e, r, _, k⟩ := S.tree i h
  obtain ⟨a, vs, rfl, rfl, g, l⟩ := rt_l.mp r
  have := k a List.mem_cons_self
  exact ⟨a, vs, e, g, this.1, this.2.1, l⟩
theorem Stt.setx (S : Stt K G0 H0 F H σ Δ) {i : Nat} {s : Sl} {x : Option V} (h : SlOk K F H s x []) : Stt K G0 H0 F H (σ.set i x) (Δ.set i s) := by
  obtain ⟨fp, P⟩ := S.sl
  refine ⟨S.g, S.fh, S.h0, S.fr, S.nt, S.tb, by rw [List.length_set, List.length_set]; exact S.len, fset fp i [], ?_⟩
  exact P.chg (Sub.rf _) (fun j _ a ha => ⟨(P.nw j a ha).1, rfl⟩) h (fun _ h => (nomatch h)) fun _ _ _ _ h => (nomatch h)
/-- a slot is set -/
theorem Stt.setv (S : Stt K G0 H0 F H σ Δ) {i : Nat} {x : V} {d : D} (r : R K F d x) : Stt K G0 H0 F H (σ.set i (some x)) (Δ.set i (.v d)) := S.setx ⟨rfl, x, rfl, r⟩
/-- a slot is forgotten, whatever it then holds -/
theorem Stt.setu (S : Stt K G0 H0 F H σ Δ) {i : Nat} {x : Option V} : Stt K G0 H0 F H (σ.set i x) (Δ.set i .u) := S.setx trivial
theorem set_id {α : Type} {l : List α} {i : Nat} : ∀ x, l[i]? = some x → l.set i x = l := fun _ e => set_self e
/-- a slot is forgotten, its value stays -/
theorem Stt.drop (S : Stt K G0 H0 F H σ Δ) {i : Nat} : Stt K G0 H0 F H σ (Δ.set i .u) := by
  by_cases hi : i < σ.length
  · have := S.setu (i := i) (x := σ[i])
    rw [set_id _ (List.getElem?_eq_getElem hi)] at this
    exact this
  · rw [List.set_eq_of_length_le (by rw [← S.len]; omega)]; exact S
/-- a new tree of one's own comes to a slot -/
theorem Stt.sett (S : Stt K G0 H0 F H σ Δ) (e : Ext F H F' H') {i : Nat} {x : V} {t : T} {f : List Addr} (r : RT K F' H' t x f) (n : ∀ a ∈ f, H a = none ∧ F' a = none) :
    Stt K G0 H0 F' H' (σ.set i (some x)) (Δ.set i (.w none t)) := by
  have Se := S.ext e
  obtain ⟨fp, P⟩ := S.sl
  refine ⟨Se.g, Se.fh, Se.h0, Se.fr, Se.nt, Se.tb, by rw [List.length_set, List.length_set]; exact S.len, fset fp i f, ?_⟩
  refine P.chg e.f (fun j _ a ha => ?_) ⟨x, rfl, r, fun a h => (nomatch h)⟩ (fun a ha => ⟨(n a ha).2, S.h0.none (n a ha).1, r.own _ _ _ a ha⟩) fun j _ a ha hf => (P.nw j a ha).2.2.ne (n a hf).1
  obtain ⟨h1, h2, h3⟩ := P.nw j a ha
  exact ⟨e.keepN h1 h3.ne, sub_eq e.h h3⟩
theorem Stt.seto (S : Stt K G0 H0 F H σ Δ) (e : Ext F H F' H') {i : Nat} {p : Addr} {vs : List V} {ds : List D} (n : H p = none) (h : H' p = some (.lst vs)) (f : F' p = none) (r : RL K F' ds vs) :
    Stt K G0 H0 F' H' (σ.set i (some (.ref p))) (Δ.set i (.o ds)) :=
  S.sett e (rt_l.mpr ⟨p, vs, rfl, rfl, h, r⟩) fun a ha => by
    rw [List.mem_singleton] at ha
    subst ha; exact ⟨n, f⟩
/-- the same but at f -/
structure GwX (f : List Addr) (H H' : Hp) : Prop where
  k : ∀ a o, a ∉ f → H a = some o → ntb o → H' a = some o
  n : ∀ a, H' a = none → H a = none
  t : LamX.Tabs τ.T H → LamX.Tabs τ.T H'
theorem GwX.put1 {H H' : Hp} {ad : Addr} {u o0 : HO} (g : Grow H H') (h0 : H' ad = some o0) (hn0 : ntb o0) (hx : ∀ P, o0 ≠ .ext P) : GwX [ad] H (upd H' ad u) := by
  have ha : ∀ a, a ≠ ad → upd H' ad u a = H' a := fun a ha => upd_ne ha
  refine ⟨fun a o h e n => (ha a fun z => h (z ▸ List.mem_singleton.mpr rfl)).trans (g.k a o e n), fun a e => ?_, fun t => ?_⟩
  · by_cases z : a = ad
    · subst z; rw [upd_same] at e; cases e
    · rw [ha a z] at e; exact g.n a e
  · have tb : ∀ P ps, H' P = some (.tbl ps) → P ≠ ad := fun P ps e z => by
      subst z
      rw [e] at h0; cases h0; exact hn0 ps rfl
    intro p hp
    obtain ⟨ps, h1, h2, h3⟩ := g.t t p hp
    refine ⟨ps, (ha _ (tb _ _ h1)).trans h1, h2, fun pos cv hc => ?_⟩
    obtain ⟨c, e1, e2⟩ := h3 pos cv hc
    refine ⟨c, e1, (ha c fun z => ?_).trans e2⟩
    subst z
    rw [e2] at h0
    exact hx _ (Option.some.inj h0).symm
theorem Grow.wr {H H' : Hp} {ad : Addr} {u o0 : HO} (g : Grow H H') (hn : H ad = .none) (h0 : H' ad = some o0) (hn0 : ntb o0) (hx : ∀ P, o0 ≠ .ext P) : Grow H (upd H' ad u) := by
  have x := GwX.put1 (u := u) g h0 hn0 hx
  exact ⟨fun a o e n => x.k a o (fun z => by rw [List.mem_singleton] at z; subst z; rw [hn] at e; cases e) e n, x.n, x.t⟩
theorem Ext.wr {F H F' H' : Hp} {ad : Addr} {l l2 : List V} (e : Ext F H F' H') (hn : H ad = .none) (fD : F' ad = .none) (h : H' ad = some (.lst l)) : Ext F H F' (upd H' ad (.lst l2)) :=
  ⟨e.f, e.h.wr hn h (fun _ z => nomatch z) (fun _ z => nomatch z), fun a o z => by rw [upd_ne (ne_of_none z fD)]; exact e.fh a o z, e.fr, e.nt⟩
theorem GwX.more {f f' : List Addr} {H H' : Hp} (g : GwX f H H') (h : ∀ a ∈ f, a ∈ f') : GwX f' H H' := ⟨fun a o n => g.k a o fun z => n (h a z), g.n, g.t⟩
/-- a part of a tree of one's own is changed in its place -/
theorem Stt.chgP (S : Stt K G0 H0 F H σ Δ) {i : Nat} {q : Option Addr} {t s : T} {π : List Ste} (h : Δ[i]? = some (Sl.w q t)) (hg : T.get π t = some s) :
    ∃ y x f, σ[i]? = some (some y) ∧ Pth H π y x ∧ RT K F H s x f ∧ (∀ a ∈ f, F a = none ∧ H0 a = none ∧ Ow H a) ∧
      ∀ (F' H' : Hp) (s' : T) (f' : List Addr), Sub F F' → Sub F' H' → (∀ a o, F' a = some o → F a = some o ∨ H a = none) → GwX f H H' → (∀ a ps, F' a = some (.tbl ps) → F a = some (.tbl ps)) → RT K F' H' s' x f' → (∀ a ∈ f', a ∈ f ∨ H a = none) → (∀ a ∈ f', F' a = none) →
        Stt K G0 H0 F' H' σ (Δ.set i (.w q (T.put s' π t))) := by
  obtain ⟨fp, P⟩ := S.sl
  obtain ⟨z, e⟩ := len_of S.len h
  obtain ⟨y, rfl, r, k⟩ := P.ok i _ z h e
  obtain ⟨x, f, hx, r1, i1, k1⟩ := RT.foc π r hg
  refine ⟨y, x, f, e, hx, r1, fun a ha => P.nw i a (i1 a ha), fun F' H' s' f' sb fh fr kx nt r' hf hn => ?_⟩
  have kk : ∀ a, a ∉ f → Ow H a → H' a = H a := fun a ha ⟨o, e, n⟩ => by rw [e]; exact kx.k a o ha e n
  have fk : ∀ a, F a = none → H a ≠ none → F' a = none := fun a ha hb => by
    cases z : F' a with
    | none => rfl
    | some o =>
      rcases fr a o z with w | w
      · rw [ha] at w; cases w
      · exact absurd w hb
  obtain ⟨fp', q1, q2⟩ := k1 F' H' s' f' sb (fun a ha hnf => kk a hnf (P.nw i a ha).2.2) r' (fun a ha hg => by
    rcases hf a ha with w | w
    · exact w
    · exact absurd w (P.nw i a hg).2.2.ne)
  have h0 : ∀ a o, H0 a = some o → a ∉ f := fun a o ho hf => by
    have := (P.nw i a (i1 a hf)).2.1
    rw [ho] at this; cases this
  refine ⟨S.g.tr sb, fh, ⟨fun a o ho n => kx.k a o (h0 a o ho) (S.h0.k a o ho n) n, fun a e => S.h0.none (kx.n a e), fun z => kx.t (S.h0.t z)⟩, fun a o ho => ?_, fun a ps q => S.nt a ps (nt a ps q), kx.t S.tb, by rw [List.length_set]; exact S.len, fset fp i fp', ?_⟩
  · rcases fr a o ho with w | w
    · exact S.fr a o w
    · exact .inr (S.h0.none w)
  · have := P.chg (i := i) (s := .w q (T.put s' π t)) (x := some y) (f := fp') sb (F' := F') (H' := H') (fun j hj a ha => ⟨fk a (P.nw j a ha).1 (P.nw j a ha).2.2.ne, kk a (fun hf => P.dj i j a (Ne.symm hj) (i1 a hf) ha) (P.nw j a ha).2.2⟩) ⟨y, rfl, q1, k⟩ (fun a ha => ?_) (fun j hj a ha hf2 => ?_)
    · rw [set_id _ e] at this
      exact this
    · refine ⟨?_, ?_, q1.own _ _ _ a ha⟩
      · rcases q2 a ha with w | w
        · exact hn a w
        · exact fk a (P.nw i a w.1).1 (P.nw i a w.1).2.2.ne
      · rcases q2 a ha with w | w
        · rcases hf a w with v | v
          · exact (P.nw i a (i1 a v)).2.1
          · exact S.h0.none v
        · exact (P.nw i a w.1).2.1
    · rcases q2 a hf2 with w | w
      · rcases hf a w with v | v
        · exact P.dj i j a (Ne.symm hj) (i1 a v) ha
        · exact (P.nw j a ha).2.2.ne v
      · exact P.dj i j a (Ne.symm hj) w.1 ha
/-- a list of one's own is changed -/
theorem Stt.chg (S : Stt K G0 H0 F H σ Δ) {i : Nat} {q : Option Addr} {a : Addr} {ds es : List D} {vs : List V} (h : Δ[i]? = some (Sl.w q (T.l ds))) (ha : σ[i]? = some (some (V.ref a))) (r : RL K F es vs) :
    Stt K G0 H0 F (upd H a (.lst vs)) σ (Δ.set i (.w q (T.l es))) := by
  obtain ⟨y, x, f, e, hx, r1, hn, k⟩ := S.chgP (π := []) h rfl
  have hx : x = y := hx
  subst hx
  rw [e] at ha
  have ha := Option.some.inj (Option.some.inj ha)
  subst ha
  obtain ⟨b, ws, eb, rfl, g, l⟩ := rt_l.mp r1
  cases eb
  have nb := (hn a List.mem_cons_self).1
  refine k F (upd H a (.lst vs)) (T.l es) [a] (Sub.rf _) (fun c o z => ?_) (fun c o z => .inl z) (GwX.put1 (Grow.rf _) g (fun _ z => nomatch z) fun _ z => nomatch z) (fun _ _ z => z) (rt_l.mpr ⟨a, vs, rfl, rfl, upd_same, r⟩) (fun c hc => .inl hc) (fun c hc => ?_)
  · rw [upd_ne (ne_of_none z nb)]; exact S.fh c o z
  · rw [List.mem_singleton] at hc; subst hc; exact nb
/-- a tree of one's own is from here on as it is -/
theorem Stt.frzT (S : Stt K G0 H0 F H σ Δ) {i : Nat} {q : Option Addr} {t : T} (h : Δ[i]? = some (Sl.w q t)) : ∃ F', Sub F F' ∧ Stt K G0 H0 F' H σ (Δ.set i (.v t.d)) := by
  obtain ⟨fp, P⟩ := S.sl
  obtain ⟨z, e⟩ := len_of S.len h
  obtain ⟨y, rfl, r, k⟩ := P.ok i _ z h e
  have sF : Sub F (fun a => if a ∈ fp i then H a else F a) := fun a o ho => by
    show (if a ∈ fp i then H a else F a) = some o
    rw [if_neg fun ha => by rw [(P.nw i a ha).1] at ho; cases ho]; exact ho
  refine ⟨_, sF, S.g.tr sF, fun a o ho => ?_, S.h0, fun a o ho => ?_, fun a ps ho => ?_, S.tb, by rw [List.length_set]; exact S.len, fset fp i [], ?_⟩
  · have ho : (if a ∈ fp i then H a else F a) = some o := ho
    split at ho
    · exact ho
    · exact S.fh a o ho
  · have ho : (if a ∈ fp i then H a else F a) = some o := ho
    split at ho
    · rename_i ha; exact .inr (P.nw i a ha).2.1
    · exact S.fr a o ho
  · have ho : (if a ∈ fp i then H a else F a) = some (.tbl ps) := ho
    split at ho
    · rename_i ha
      obtain ⟨o, e, n⟩ := (P.nw i a ha).2.2
      rw [ho] at e; cases e; exact n ps rfl
    · exact S.nt a ps ho
  · have := P.chg (i := i) (s := .v t.d) (x := some y) (f := []) (H' := H) sF (fun j hj a ha => ⟨?_, rfl⟩) ⟨rfl, y, rfl, r.r sF _ _ _ fun a ha => if_pos ha⟩ (fun _ h => (nomatch h)) (fun _ _ _ _ h => (nomatch h))
    · rw [set_id _ e] at this; exact this
    · show (if a ∈ fp i then H a else F a) = none
      rw [if_neg fun hb => P.dj i j a (Ne.symm hj) hb ha]; exact (P.nw j a ha).1
theorem Stt.frz (S : Stt K G0 H0 F H σ Δ) {i : Nat} {q : Option Addr} {ds : List D} (h : Δ[i]? = some (Sl.w q (T.l ds))) : ∃ F', Sub F F' ∧ Stt K G0 H0 F' H σ (Δ.set i (.v (.lst ds))) := by
  have := S.frzT h
  rw [T.d_l] at this; exact this
end
/-- the heap without the tables -/
def unt (H : Hp) : Hp := fun a => match H a with | some (.tbl _) => none | o => o
theorem unt_nt (H : Hp) : ∀ a ps, unt H a ≠ some (.tbl ps) := fun a ps e => by
  unfold unt at e
  split at e
  · cases e
  · rename_i h; exact h ps e
theorem unt_sub (H : Hp) : Sub (unt H) H := fun a o e => by
  unfold unt at e
  split at e
  · cases e
  · exact e
theorem unt_nb (H : Hp) : SubN H (unt H) := fun a o e n => by
  unfold unt
  split
  · rename_i ps h; rw [h] at e; cases e; exact absurd rfl (n ps)
  · exact e
theorem Ext.growG {F H H' : Hp} (s : Sub F H) (nt : ∀ a ps, F a ≠ some (.tbl ps)) (g : Grow H H') : Ext F H F H' :=
  ⟨Sub.rf _, g, fun a o e => g.k a o (s a o e) fun ps z => nt a ps (z ▸ e), fun _ _ e => .inl e, fun _ _ e => e⟩
end Z

namespace Z
open PySem PySem.Spec PyProof.Rows L2
variable [τ : Tb]

structure Rf (p : Prop) : Prop where
  ok : p
structure Rd (p : Prop) : Prop where
  ok : p
structure Rx (p : Prop) : Prop where
  ok : p
structure Ri (p : Prop) : Prop where
  ok : p
structure Rp (p : Prop) : Prop where
  ok : p
structure Rv (p : Prop) : Prop where
  ok : p
structure Rl (p : Prop) : Prop where
  ok : p
structure Ru (p : Prop) : Prop where
  ok : p
structure Rm (p : Prop) : Prop where
  ok : p
structure Rw (p : Prop) : Prop where
  ok : p
/-! ### the widest readings -/
section
variable {X : Cx} {e : Expr} {es : List Expr} {st : Stmt} {sts : List Stmt}
structure uE (X : Cx) (e : Expr) (σ : L2.St) (H : Hp) (Q : VK) : Prop where
  run : ∀ (pins : List (Addr × Obj)) (s : Shared), Inv X pins σ H s → wpAny (model X.prog X.w) X.A (eval e X.env) (EP X pins σ Q) X.xe s
structure uT (X : Cx) (e : Expr) (σ : L2.St) (H : Hp) (Q : Bool → Hp → Prop) : Prop where
  run : ∀ (pins : List (Addr × Obj)) (s : Shared), Inv X pins σ H s → wpAny (model X.prog X.w) X.A (isTrue e X.env (eval e X.env)) (TP X pins σ Q) X.xe s
structure uW (X : Cx) (e : Expr) (σ : L2.St) (H : Hp) (Q : Bool → Hp → Prop) : Prop where
  run : ∀ (whole : Sem Value) (pins : List (Addr × Obj)) (s : Shared), Inv X pins σ H s → wpAny (model X.prog X.w) X.A (isTrue e X.env whole) (TP X pins σ Q) X.xe s
structure uA (X : Cx) (es : List Expr) (σ : L2.St) (H : Hp) (Q : List V → Hp → Prop) : Prop where
  run : ∀ (pos : Pos) (pins : List (Addr × Obj)) (s : Shared), Inv X pins σ H s → wpAny (model X.prog X.w) X.A (spliced (backTo pos (starEach es X.env))) (AP X pins σ Q) X.xe s
structure uS1 (X : Cx) (st : Stmt) (D : Ends) (σ : L2.St) (H : Hp) : Prop where
  run : ∀ (pins : List (Addr × Obj)) (s : Shared), Inv X pins σ H s → wpAny (model X.prog X.w) X.A (exec st X.env) (SP X pins D) X.xe s
structure uS (X : Cx) (sts : List Stmt) (D : Ends) (σ : L2.St) (H : Hp) : Prop where
  run : ∀ (pins : List (Addr × Obj)) (s : Shared), Inv X pins σ H s → wpAny (model X.prog X.w) X.A (execs sts X.env) (SP X pins D) X.xe s
theorem pe_u : PE X e (uE X e) := ⟨fun pins s σ H Q I h => h.run pins s I⟩
theorem pt_u : PT X e (uT X e) := ⟨fun pins s σ H Q I h => h.run pins s I⟩
theorem pw_u : PW X e (uW X e) := ⟨fun w pins s σ H Q I h => h.run w pins s I⟩
theorem pa_u : PA X es (uA X es) := ⟨fun p pins s σ H Q I h => h.run p pins s I⟩
theorem ps_u : PS X st (uS1 X st) := ⟨fun pins s σ H D I h => h.run pins s I⟩
theorem pss_u : PSs X sts (uS X sts) := ⟨fun pins s σ H D I h => h.run pins s I⟩
theorem eU {t : TE} (h : PE X e t) {σ : L2.St} {H : Hp} {Q : VK} (q : t σ H Q) : uE X e σ H Q := ⟨fun pins s I => h.run pins s σ H Q I q⟩
theorem tU {t : TT} (h : PT X e t) {σ : L2.St} {H : Hp} {Q : Bool → Hp → Prop} (q : t σ H Q) : uT X e σ H Q := ⟨fun pins s I => h.run pins s σ H Q I q⟩
theorem wU {t : TT} (h : PW X e t) {σ : L2.St} {H : Hp} {Q : Bool → Hp → Prop} (q : t σ H Q) : uW X e σ H Q := ⟨fun w pins s I => h.run w pins s σ H Q I q⟩
theorem aU {t : TA} (h : PA X es t) {σ : L2.St} {H : Hp} {Q : List V → Hp → Prop} (q : t σ H Q) : uA X es σ H Q := ⟨fun p pins s I => h.run p pins s σ H Q I q⟩
theorem sU1 {t : TS} (h : PS X st t) {D : Ends} {σ : L2.St} {H : Hp} (q : t D σ H) : uS1 X st D σ H := ⟨fun pins s I => h.run pins s σ H D I q⟩
theorem sU {t : TS} (h : PSs X sts t) {D : Ends} {σ : L2.St} {H : Hp} (q : t D σ H) : uS X sts D σ H := ⟨fun pins s I => h.run pins s σ H D I q⟩
end

/-! ### what evaluates to what -/
def sel (m : Bool) (F H : Hp) : Hp := match m with | true => F | false => H
theorem sel_sub {m : Bool} {F H F' H' : Hp} (e : Ext F H F' H') : SubN (sel m F H) (sel m F' H') := by
  cases m <;> first | exact e.h.k | exact e.f.nb
theorem R.up {K : PySem.W.Frag} {m : Bool} {F H F' H' : Hp} {d : D} {v : V} (r : R K (sel m F H) d v) (e : Ext F H F' H') : R K (sel m F' H') d v := R.monoN (sel_sub e) d v r
theorem RL.up {K : PySem.W.Frag} {m : Bool} {F H F' H' : Hp} {ds : List D} {vs : List V} (r : RL K (sel m F H) ds vs) (e : Ext F H F' H') : RL K (sel m F' H') ds vs := RL.monoN (sel_sub e) ds vs r
theorem sel_h {m : Bool} {F H : Hp} (s : Sub F H) : Sub (sel m F H) H := by
  cases m <;> first | exact Sub.rf _ | exact s
theorem f_sel {m : Bool} {F H : Hp} (s : Sub F H) : Sub F (sel m F H) := by
  cases m <;> first | exact s | exact Sub.rf _

/-- e evaluates to d; m: what it gives leans on what stays as it is alone (true), or on lists of one's own too (false) -/
def EV (X : Cx) (Δ : List Sl) (m : Bool) (e : Expr) (d : D) : Prop :=
  ∀ (G0 H0 F H : Hp) (σ : L2.St), Stt X.K G0 H0 F H σ Δ → ∀ Q : VK, (∀ v F' H', Ext F H F' H' → R X.K (sel m F' H') d v → Q v H') → uE X e σ H Q
/-- e evaluates to a new list -/
def EO (X : Cx) (Δ : List Sl) (e : Expr) (ds : List D) : Prop :=
  ∀ (G0 H0 F H : Hp) (σ : L2.St), Stt X.K G0 H0 F H σ Δ → ∀ Q : VK, (∀ p vs F' H', Ext F H F' H' → H p = none → H' p = some (.lst vs) → F' p = none → RL X.K F' ds vs → Q (.ref p) H') → uE X e σ H Q
def TV (X : Cx) (Δ : List Sl) (e : Expr) (b : Bool) : Prop :=
  ∀ (G0 H0 F H : Hp) (σ : L2.St), Stt X.K G0 H0 F H σ Δ → ∀ Q : Bool → Hp → Prop, (∀ F' H', Ext F H F' H' → Q b H') → uT X e σ H Q
def TW (X : Cx) (Δ : List Sl) (e : Expr) (b : Bool) : Prop :=
  ∀ (G0 H0 F H : Hp) (σ : L2.St), Stt X.K G0 H0 F H σ Δ → ∀ Q : Bool → Hp → Prop, (∀ F' H', Ext F H F' H' → Q b H') → uW X e σ H Q
def AV (X : Cx) (Δ : List Sl) (m : Bool) (es : List Expr) (ds : List D) : Prop :=
  ∀ (G0 H0 F H : Hp) (σ : L2.St), Stt X.K G0 H0 F H σ Δ → ∀ Q : List V → Hp → Prop, (∀ vs F' H', Ext F H F' H' → RL X.K (sel m F' H') ds vs → Q vs H') → uA X es σ H Q

section
variable {X : Cx} {Δ : List Sl} {m : Bool} {e a b c : Expr} {es : List Expr} {d x y : D} {ds : List D} {pos : Pos}

theorem EV.weak (h : EV X Δ true e d) : EV X Δ m e d := fun G0 H0 F H σ S Q q => h G0 H0 F H σ S Q fun v F' H' e r => q v F' H' e (r.mono (f_sel e.fh))
theorem EV.low (h : EV X Δ m e d) : EV X Δ false e d := fun G0 H0 F H σ S Q q => h G0 H0 F H σ S Q fun v F' H' e r => q v F' H' e (r.mono (sel_h e.fh))
theorem EV.up (h : EV X Δ false e d) (f : flat d = true) : EV X Δ m e d := fun G0 H0 F H σ S Q q => h G0 H0 F H σ S Q fun v F' H' e r => q v F' H' e (flat_any f r)
theorem EV.to {d' : D} (h : EV X Δ m e d) (q : d = d') : EV X Δ m e d' := q ▸ h
theorem TV.to {b : Bool} (h : TV X Δ e true) (q : b = true) : TV X Δ e b := q ▸ h
theorem EO.ev (h : EO X Δ e ds) : EV X Δ m e (.lst ds) := EV.weak fun G0 H0 F H σ S Q q => h G0 H0 F H σ S Q fun p vs F' H' e n h1 f1 r => by
  refine q (.ref p) (upd F' p (.lst vs)) H' ⟨e.f.tr (Sub.new f1), e.h, fun a o z => ?_, fun a o z => ?_, fun a ps z => ?_⟩ (r_lst.mpr ⟨p, vs, rfl, upd_same, r.mono (Sub.new f1)⟩)
  · by_cases w : a = p
    · subst w; rw [upd_same] at z; cases z; exact h1
    · rw [upd_ne w] at z; exact e.fh a o z
  · by_cases w : a = p
    · subst w; exact .inr n
    · rw [upd_ne w] at z; exact e.fr a o z
  · by_cases w : a = p
    · subst w; rw [upd_same] at z; cases z
    · rw [upd_ne w] at z; exact e.nt a ps z

/-! names and constants -/
theorem ev_v {i : Nat} {n : Str} (hN : X.N[i]? = some n) (hΔ : Δ[i]? = some (Sl.v d)) (hv : Vis X.env.scope n := by first | exact Or.inl rfl | exact Or.inr (Or.inl rfl) | exact Or.inr (Or.inr rfl)) (hd : (n == ("__debug__" : Str)) = false := by decide) (hcd : (n == ("__classdict__" : Str)) = false := by decide) : EV X Δ m (.Name n pos) d := by
  refine EV.weak fun G0 H0 F H σ S Q q => ?_
  obtain ⟨x, e1, r⟩ := S.val i d hΔ
  exact eU (pe_var hN hv hd hcd) ⟨x, e1, q x F H (Ext.rf S.fh) r⟩
theorem ev_v_a {i : Nat} {n : Str} (hN : X.N[i]? = some n) (hΔ : Δ[i]? = some (Sl.v d)) (hv : Rv (Vis X.env.scope n)) (hd : Rd ((n == ("__debug__" : Str)) = false)) (hcd : Rd ((n == ("__classdict__" : Str)) = false)) : EV X Δ m (.Name n pos) d := ev_v hN hΔ hv.ok hd.ok hcd.ok
theorem ev_o {i : Nat} {n : Str} {qq : Option Addr} (hN : X.N[i]? = some n) (hΔ : Δ[i]? = some (Sl.w qq (T.l ds))) (hv : Vis X.env.scope n := by first | exact Or.inl rfl | exact Or.inr (Or.inl rfl) | exact Or.inr (Or.inr rfl)) (hd : (n == ("__debug__" : Str)) = false := by decide) (hcd : (n == ("__classdict__" : Str)) = false := by decide) : EV X Δ false (.Name n pos) (.lst ds) := by
  intro G0 H0 F H σ S Q q
  obtain ⟨p, vs, e1, e2, e3, e4, e5⟩ := S.own i ds hΔ
  exact eU (pe_var hN hv hd hcd) ⟨.ref p, e1, q _ F H (Ext.rf S.fh) (r_lst.mpr ⟨p, vs, rfl, e2, e5.mono S.fh⟩)⟩
theorem ev_o_a {i : Nat} {n : Str} {qq : Option Addr} (hN : X.N[i]? = some n) (hΔ : Δ[i]? = some (Sl.w qq (T.l ds))) (hv : Rv (Vis X.env.scope n)) (hd : Rd ((n == ("__debug__" : Str)) = false)) (hcd : Rd ((n == ("__classdict__" : Str)) = false)) : EV X Δ false (.Name n pos) (.lst ds) := ev_o hN hΔ hv.ok hd.ok hcd.ok
theorem ev_int {i : Int} {j : Nat} : EV X Δ m (.Constant (.int i) j pos) (.int i) := fun G0 H0 F H σ S Q q => eU pe_int (q _ F H (Ext.rf S.fh) (r_int.mpr rfl))
theorem ev_bl {i : Bool} {j : Nat} : EV X Δ m (.Constant (.bool i) j pos) (.bl i) := fun G0 H0 F H σ S Q q => eU pe_bl (q _ F H (Ext.rf S.fh) (r_bl.mpr rfl))
theorem ev_non {j : Nat} : EV X Δ m (.Constant .none j pos) .non := fun G0 H0 F H σ S Q q => eU pe_non (q _ F H (Ext.rf S.fh) (r_non.mpr rfl))
theorem ev_str {i : Str} {j : Nat} : EV X Δ m (.Constant (.str i) j pos) (.str i) := fun G0 H0 F H σ S Q q => eU pe_str (q _ F H (Ext.rf S.fh) (r_str.mpr rfl))
/-- a module's constant that is a scalar -/
theorem ev_glob {n : Str} {v : V} {u : Value} (hg : Gl X n) (hm : X.mg n = some u) (r : RelV v u) (hd : (n == ("__debug__" : Str)) = false := by decide) (rd : ∀ G, R X.K G d v) : EV X Δ m (.Name n pos) d :=
  fun G0 H0 F H σ S Q q => eU (pe_glob hg hm r hd) (q v F H (Ext.rf S.fh) (rd _))

theorem ev_glob_a {n : Str} {v : V} {u : Value} (hg : Gl X n) (hm : X.mg n = some u) (r : RelV v u) (hd : Rd ((n == ("__debug__" : Str)) = false)) (rd : ∀ G, R X.K G d v) : EV X Δ m (.Name n pos) d := ev_glob hg hm r hd.ok rd
/-! two in a row -/
theorem two {m1 m2 : Bool} (ha : EV X Δ m1 a x) (hb : EV X Δ m2 b y) {G0 H0 F H : Hp} {σ : L2.St} (S : Stt X.K G0 H0 F H σ Δ) {Z : V → V → Hp → Prop}
    (h : ∀ v w F' H', Ext F H F' H' → R X.K (sel m1 F' H') x v → R X.K (sel m2 F' H') y w → Z v w H') : uE X a σ H fun v H1 => uE X b σ H1 fun w H2 => Z v w H2 := by
  refine ha G0 H0 F H σ S _ fun v F1 H1 e1 r1 => ?_
  refine hb G0 H0 F1 H1 σ (S.ext e1) _ fun w F2 H2 e2 r2 => ?_
  exact h v w F2 H2 (e1.tr e2) (r1.up e2) r2
theorem ev_opI {op : Operator} {C : Int → Int → Prop} {g : Int → Int → Int} {i j : Int} (ho : OpR X (binaryOp op) (rI C fun i j => V.int (g i j))) (ha : EV X Δ false a (.int i)) (hb : EV X Δ false b (.int j)) (hc : C i j) : EV X Δ m (.BinOp a op b pos) (.int (g i j)) := by
  intro G0 H0 F H σ S Q q
  refine eU (pe_op ho pe_u pe_u) (two ha hb S fun v w F' H' e r1 r2 => ?_)
  exact ⟨i, j, r_int.mp r1, r_int.mp r2, hc, q _ F' H' e (r_int.mpr rfl)⟩
theorem ev_opI0 {op : Operator} {g : Int → Int → Int} {i j : Int} (ho : OpR X (binaryOp op) (rI0 fun i j => V.int (g i j))) (ha : EV X Δ false a (.int i)) (hb : EV X Δ false b (.int j)) : EV X Δ m (.BinOp a op b pos) (.int (g i j)) := by
  intro G0 H0 F H σ S Q q
  refine eU (pe_op ho pe_u pe_u) (two ha hb S fun v w F' H' e r1 r2 => ?_)
  exact ⟨i, j, r_int.mp r1, r_int.mp r2, q _ F' H' e (r_int.mpr rfl)⟩
theorem ev_add {i j : Int} (ha : EV X Δ false a (.int i)) (hb : EV X Δ false b (.int j)) : EV X Δ m (.BinOp a .Add b pos) (.int (i + j)) := ev_opI0 op_add ha hb
theorem ev_sub {i j : Int} (ha : EV X Δ false a (.int i)) (hb : EV X Δ false b (.int j)) : EV X Δ m (.BinOp a .Sub b pos) (.int (i - j)) := ev_opI0 op_sub ha hb
theorem ev_mul {i j : Int} (ha : EV X Δ false a (.int i)) (hb : EV X Δ false b (.int j)) (hc : IntMulOk i j) : EV X Δ m (.BinOp a .Mult b pos) (.int (i * j)) :=
  ev_opI (C := IntMulOk) (opI fun _ _ _ _ _ _ _ hc q => mul_int q hc) ha hb hc
theorem ev_mod {i j : Int} (ha : EV X Δ false a (.int i)) (hb : EV X Δ false b (.int j)) (hc : 0 < j) : EV X Δ m (.BinOp a .Mod b pos) (.int (i % j)) := ev_opI op_mod ha hb hc
theorem ev_div {i j : Int} (ha : EV X Δ false a (.int i)) (hb : EV X Δ false b (.int j)) (hc : CDivW i j) : EV X Δ m (.BinOp a .FloorDiv b pos) (.int (i / j)) := ev_opI op_fdivW ha hb hc
theorem ev_pow {i j : Int} (ha : EV X Δ false a (.int i)) (hb : EV X Δ false b (.int j)) (hc : CPow i j) : EV X Δ m (.BinOp a .Pow b pos) (.int (i ^ j.toNat)) := ev_opI op_pow ha hb hc
theorem ev_neg {i : Int} (ha : EV X Δ false a (.int i)) : EV X Δ m (.UnaryOp .USub a pos) (.int (-i)) := by
  intro G0 H0 F H σ S Q q
  refine eU (pe_un un_neg pe_u) (ha G0 H0 F H σ S _ fun v F1 H1 e1 r1 => ?_)
  exact ⟨i, r_int.mp r1, q _ F1 H1 e1 (r_int.mpr rfl)⟩
theorem ev_adds {i j : Str} (ha : EV X Δ false a (.str i)) (hb : EV X Δ false b (.str j)) (hc : i.length + j.length ≤ sizeLine) : EV X Δ m (.BinOp a .Add b pos) (.str (i ++ j)) := by
  intro G0 H0 F H σ S Q q
  refine eU (pe_op op_add_str pe_u pe_u) (two ha hb S fun v w F' H' e r1 r2 => ?_)
  exact ⟨i, j, r_str.mp r1, r_str.mp r2, hc, q _ F' H' e (r_str.mpr rfl)⟩
/-- xs + ys -/
theorem eo_cat {xs ys : List D} (ha : EV X Δ true a (.lst xs)) (hb : EV X Δ true b (.lst ys)) (hc : xs.length + ys.length ≤ sizeLine) : EO X Δ (.BinOp a .Add b pos) (xs ++ ys) := by
  intro G0 H0 F H σ S Q q
  refine eU (pe_op op_cat pe_u pe_u) (two ha hb S fun v w F' H' e r1 r2 => ?_)
  obtain ⟨p1, v1, rfl, g1, l1⟩ := r_lst.mp r1
  obtain ⟨p2, v2, rfl, g2, l2⟩ := r_lst.mp r2
  refine ⟨p1, p2, v1, v2, rfl, rfl, e.fh _ _ g1, e.fh _ _ g2, by rw [l1.length, l2.length]; exact hc, fun p n => ?_⟩
  exact q p (v1 ++ v2) F' _ (e.tr (Ext.grow e.fh (Sub.new n))) (e.h.none n) upd_same (e.fh.none n) (l1.append l2)
/-- .. of flat things, lists of one's own too -/
theorem eo_catf {xs ys : List D} (ha : EV X Δ false a (.lst xs)) (hb : EV X Δ false b (.lst ys)) (f1 : xs.all flat = true) (f2 : ys.all flat = true) (hc : xs.length + ys.length ≤ sizeLine) : EO X Δ (.BinOp a .Add b pos) (xs ++ ys) := by
  intro G0 H0 F H σ S Q q
  refine eU (pe_op op_cat pe_u pe_u) (two ha hb S fun v w F' H' e r1 r2 => ?_)
  obtain ⟨p1, v1, rfl, g1, l1⟩ := r_lst.mp r1
  obtain ⟨p2, v2, rfl, g2, l2⟩ := r_lst.mp r2
  refine ⟨p1, p2, v1, v2, rfl, rfl, g1, g2, by rw [l1.length, l2.length]; exact hc, fun p n => ?_⟩
  exact q p (v1 ++ v2) F' _ (e.tr (Ext.grow e.fh (Sub.new n))) (e.h.none n) upd_same (e.fh.none n) ((flats_any f1 l1).append (flats_any f2 l2))
theorem RL.flatten {K : PySem.W.Frag} {G : Hp} {ds : List D} {vs : List V} (h : RL K G ds vs) : ∀ k : Nat, RL K G (List.replicate k ds).flatten (List.replicate k vs).flatten
  | 0 => RL.nil
  | k + 1 => by
    rw [List.replicate_succ, List.replicate_succ, List.flatten_cons, List.flatten_cons]
    exact h.append (RL.flatten h k)
/-- [x, ..] * n -/
theorem eo_rep {xs : List D} {k : Int} (ha : EV X Δ true a (.lst xs)) (hb : EV X Δ false b (.int k)) (h1 : -(2 ^ 63) ≤ k) (h2 : k < 2 ^ 63) (hc : xs.length * k.toNat ≤ sizeLine) : EO X Δ (.BinOp a .Mult b pos) (List.replicate k.toNat xs).flatten := by
  intro G0 H0 F H σ S Q q
  refine eU (pe_op op_rep pe_u pe_u) (two ha hb S fun v w F' H' e r1 r2 => ?_)
  obtain ⟨p1, v1, rfl, g1, l1⟩ := r_lst.mp r1
  rw [r_int.mp r2]
  refine ⟨p1, k, v1, rfl, rfl, e.fh _ _ g1, h1, h2, by rw [l1.length]; exact hc, fun p n => ?_⟩
  exact q p _ F' _ (e.tr (Ext.grow e.fh (Sub.new n))) (e.h.none n) upd_same (e.fh.none n) (l1.flatten _)

/-! comparisons -/
theorem ev_cmpI {op : CmpOp} {g : Int → Int → Bool} {i j : Int} (ho : OpR X (compareOp op) (rI0 fun i j => V.bl (g i j))) (ha : EV X Δ false a (.int i)) (hb : EV X Δ false b (.int j)) (hm : behindInMarks op b = false) : EV X Δ m (.Compare a [op] [b] pos) (.bl (g i j)) := by
  intro G0 H0 F H σ S Q q
  refine eU (pe_cmpR ho pe_u pe_u hm) (two ha hb S fun v w F' H' e r1 r2 => ?_)
  exact ⟨i, j, r_int.mp r1, r_int.mp r2, q _ F' H' e (r_bl.mpr rfl)⟩
theorem ev_lt {i j : Int} (ha : EV X Δ false a (.int i)) (hb : EV X Δ false b (.int j)) : EV X Δ m (.Compare a [.Lt] [b] pos) (.bl (decide (i < j))) := ev_cmpI op_lt ha hb (nomark _)
theorem ev_le {i j : Int} (ha : EV X Δ false a (.int i)) (hb : EV X Δ false b (.int j)) : EV X Δ m (.Compare a [.LtE] [b] pos) (.bl (decide (i ≤ j))) := ev_cmpI op_le ha hb (nomark _)
theorem ev_gt {i j : Int} (ha : EV X Δ false a (.int i)) (hb : EV X Δ false b (.int j)) : EV X Δ m (.Compare a [.Gt] [b] pos) (.bl (decide (j < i))) := ev_cmpI op_gt ha hb (nomark _)
theorem ev_ge {i j : Int} (ha : EV X Δ false a (.int i)) (hb : EV X Δ false b (.int j)) : EV X Δ m (.Compare a [.GtE] [b] pos) (.bl (decide (j ≤ i))) := ev_cmpI op_ge ha hb (nomark _)
/-- the scalars' own values -/
def toV : D → V
  | .non => .non | .bl b => .bl b | .int i => .int i | .str x => .str x | _ => .non
theorem r_flat {K : PySem.W.Frag} {G : Hp} {d : D} {v : V} (f : flat d = true) (h : R K G d v) : v = toV d := by
  cases d <;> first
    | (unfold R at h; exact h)
    | (exact absurd f (by simp [flat]))
theorem ev_eq (ha : EV X Δ false a x) (hb : EV X Δ false b y) (h1 : flat x = true) (h2 : flat y = true) (hs : scal (toV x) (toV y) = true) : EV X Δ m (.Compare a [.Eq] [b] pos) (.bl (decide (toV x = toV y))) := by
  intro G0 H0 F H σ S Q q
  refine eU (pe_cmpR op_eq pe_u pe_u (nomark _)) (two ha hb S fun v w F' H' e r1 r2 => ?_)
  rw [r_flat h1 r1, r_flat h2 r2]
  exact ⟨hs, q _ F' H' e (r_bl.mpr rfl)⟩
theorem ev_ne (ha : EV X Δ false a x) (hb : EV X Δ false b y) (h1 : flat x = true) (h2 : flat y = true) (hs : scal (toV x) (toV y) = true) : EV X Δ m (.Compare a [.NotEq] [b] pos) (.bl (!decide (toV x = toV y))) := by
  intro G0 H0 F H σ S Q q
  refine eU (pe_cmpR op_ne pe_u pe_u (nomark _)) (two ha hb S fun v w F' H' e r1 r2 => ?_)
  rw [r_flat h1 r1, r_flat h2 r2]
  exact ⟨hs, q _ F' H' e (r_bl.mpr rfl)⟩
theorem ev_eqI {i j : Int} (ha : EV X Δ false a (.int i)) (hb : EV X Δ false b (.int j)) : EV X Δ m (.Compare a [.Eq] [b] pos) (.bl (decide (i = j))) := by
  refine (ev_eq ha hb rfl rfl rfl).to ?_
  simp [toV]
theorem ev_neI {i j : Int} (ha : EV X Δ false a (.int i)) (hb : EV X Δ false b (.int j)) : EV X Δ m (.Compare a [.NotEq] [b] pos) (.bl (!decide (i = j))) := by
  refine (ev_ne ha hb rfl rfl rfl).to ?_
  simp [toV]
theorem ev_eqS {i j : Str} (ha : EV X Δ false a (.str i)) (hb : EV X Δ false b (.str j)) : EV X Δ m (.Compare a [.Eq] [b] pos) (.bl (decide (i = j))) := by
  refine (ev_eq ha hb rfl rfl rfl).to ?_
  simp [toV]
theorem ev_neS {i j : Str} (ha : EV X Δ false a (.str i)) (hb : EV X Δ false b (.str j)) : EV X Δ m (.Compare a [.NotEq] [b] pos) (.bl (!decide (i = j))) := by
  refine (ev_ne ha hb rfl rfl rfl).to ?_
  simp [toV]
theorem ev_eqB {i j : Bool} (ha : EV X Δ false a (.bl i)) (hb : EV X Δ false b (.bl j)) : EV X Δ m (.Compare a [.Eq] [b] pos) (.bl (decide (i = j))) := by
  refine (ev_eq ha hb rfl rfl rfl).to ?_
  simp [toV]
/-- a op1 b op2 c, of ints -/
theorem ev_chain {op op' : CmpOp} {g g' : Int → Int → Bool} {i j k : Int} (ho : OpR X (compareOp op) (rI0 fun i j => V.bl (g i j))) (ho' : OpR X (compareOp op') (rI0 fun i j => V.bl (g' i j))) (ha : EV X Δ false a (.int i)) (hb : EV X Δ false b (.int j)) (hc : EV X Δ false c (.int k))
    (hm : lastMarks [op, op'] [b, c] = false := by with_unfolding_all rfl) : EV X Δ m (.Compare a [op, op'] [b, c] pos) (.bl (g i j && g' j k)) := by
  intro G0 H0 F H σ S Q q
  refine eU (pe_chain ho ho' pe_u pe_u pe_u hm) (two ha hb S fun v w F' H' e r1 r2 => ?_)
  refine ⟨i, j, r_int.mp r1, r_int.mp r2, _, rfl, ?_⟩
  cases z : g i j with
  | true =>
    rw [if_pos rfl]
    refine hc G0 H0 F' H' σ (S.ext e) _ fun u F2 H2 e2 r3 => ?_
    exact ⟨j, k, r_int.mp r2, r_int.mp r3, q _ F2 H2 (e.tr e2) (r_bl.mpr (by rw [z]; rfl))⟩
  | false =>
    rw [if_neg Bool.false_ne_true]
    exact q _ F' H' e (r_bl.mpr (by rw [z]; rfl))
theorem ev_chain_a {op op' : CmpOp} {g g' : Int → Int → Bool} {i j k : Int} (ho : OpR X (compareOp op) (rI0 fun i j => V.bl (g i j))) (ho' : OpR X (compareOp op') (rI0 fun i j => V.bl (g' i j))) (ha : EV X Δ false a (.int i)) (hb : EV X Δ false b (.int j)) (hc : EV X Δ false c (.int k)) (hm : Ru (lastMarks [op, op'] [b, c] = false)) : EV X Δ m (.Compare a [op, op'] [b, c] pos) (.bl (g i j && g' j k)) := ev_chain ho ho' ha hb hc hm.ok
theorem ev_lelt {i j k : Int} (ha : EV X Δ false a (.int i)) (hb : EV X Δ false b (.int j)) (hc : EV X Δ false c (.int k)) (hm : lastMarks [.LtE, .Lt] [b, c] = false := by with_unfolding_all rfl) : EV X Δ m (.Compare a [.LtE, .Lt] [b, c] pos) (.bl (decide (i ≤ j) && decide (j < k))) := ev_chain op_le op_lt ha hb hc hm
theorem ev_lelt_a {i j k : Int} (ha : EV X Δ false a (.int i)) (hb : EV X Δ false b (.int j)) (hc : EV X Δ false c (.int k)) (hm : Ru (lastMarks [.LtE, .Lt] [b, c] = false)) : EV X Δ m (.Compare a [.LtE, .Lt] [b, c] pos) (.bl (decide (i ≤ j) && decide (j < k))) := ev_lelt ha hb hc hm.ok
theorem ev_lele {i j k : Int} (ha : EV X Δ false a (.int i)) (hb : EV X Δ false b (.int j)) (hc : EV X Δ false c (.int k)) (hm : lastMarks [.LtE, .LtE] [b, c] = false := by with_unfolding_all rfl) : EV X Δ m (.Compare a [.LtE, .LtE] [b, c] pos) (.bl (decide (i ≤ j) && decide (j ≤ k))) := ev_chain op_le op_le ha hb hc hm
theorem ev_lele_a {i j k : Int} (ha : EV X Δ false a (.int i)) (hb : EV X Δ false b (.int j)) (hc : EV X Δ false c (.int k)) (hm : Ru (lastMarks [.LtE, .LtE] [b, c] = false)) : EV X Δ m (.Compare a [.LtE, .LtE] [b, c] pos) (.bl (decide (i ≤ j) && decide (j ≤ k))) := ev_lele ha hb hc hm.ok
theorem ev_isN (ha : EV X Δ false a x) : EV X Δ m (.Compare a [.Is] [.Constant .none k p2] pos) (.bl (match x with | .non => true | _ => false)) := by
  intro G0 H0 F H σ S Q q
  refine eU (pe_cmpR op_isN pe_u pe_non (nomark _)) (ha G0 H0 F H σ S _ fun v F' H' e r1 => ?_)
  refine ⟨rfl, q _ F' H' e (r_bl.mpr ?_)⟩
  cases x <;> (unfold R at r1) <;> first
    | (rw [r1]; simp)
    | (obtain ⟨_, z, _⟩ := r1; rw [z]; simp)
    | (obtain ⟨_, _, z, _⟩ := r1; rw [z]; simp)
    | (obtain ⟨_, _, _, z, _⟩ := r1; rw [z]; simp)
theorem ev_notN (ha : EV X Δ false a x) : EV X Δ m (.Compare a [.IsNot] [.Constant .none k p2] pos) (.bl (match x with | .non => false | _ => true)) := by
  intro G0 H0 F H σ S Q q
  refine eU (pe_cmpR op_notN pe_u pe_non (nomark _)) (ha G0 H0 F H σ S _ fun v F' H' e r1 => ?_)
  refine ⟨rfl, q _ F' H' e (r_bl.mpr ?_)⟩
  cases x <;> (unfold R at r1) <;> first
    | (rw [r1]; simp)
    | (obtain ⟨_, z, _⟩ := r1; rw [z]; simp)
    | (obtain ⟨_, _, z, _⟩ := r1; rw [z]; simp)
    | (obtain ⟨_, _, _, z, _⟩ := r1; rw [z]; simp)

/-! truth -/
theorem tv_bl {t : Bool} (h : EV X Δ false e (.bl t)) (he : ∀ whole, isTrue e X.env whole = (do let v ← whole; standAt e.pos; holding [v] (truthy v)) := by intro _; rfl) : TV X Δ e t := by
  intro G0 H0 F H σ S Q q
  refine tU (pt_val pe_u he) (h G0 H0 F H σ S _ fun v F' H' e r => ⟨t, r_bl.mp r, q F' H' e⟩)
theorem tv_bl_a {t : Bool} (h : EV X Δ false e (.bl t)) (he : Ri (∀ whole, isTrue e X.env whole = (do let v ← whole; standAt e.pos; holding [v] (truthy v)))) : TV X Δ e t := tv_bl h he.ok
theorem tv_cmp {op : CmpOp} {t : Bool} {r : R2} (ho : OpR X (compareOp op) r) (hm : behindInMarks op b = false) (h : ∀ (G0 H0 F H : Hp) (σ : L2.St), Stt X.K G0 H0 F H σ Δ → ∀ Q : VK, (∀ v F' H', Ext F H F' H' → v = .bl t → Q v H') → tOp r (uE X a) (uE X b) σ H Q) : TV X Δ (.Compare a [op] [b] pos) t := by
  intro G0 H0 F H σ S Q q
  exact tU (pt_cmpR ho pe_u pe_u hm) (h G0 H0 F H σ S _ fun v F' H' e r => ⟨t, r, q F' H' e⟩)
theorem tv_cmpI {op : CmpOp} {g : Int → Int → Bool} {i j : Int} (ho : OpR X (compareOp op) (rI0 fun i j => V.bl (g i j))) (ha : EV X Δ false a (.int i)) (hb : EV X Δ false b (.int j)) (hm : behindInMarks op b = false) : TV X Δ (.Compare a [op] [b] pos) (g i j) :=
  tv_cmp ho hm fun G0 H0 F H σ S Q q => two ha hb S fun v w F' H' e r1 r2 => ⟨i, j, r_int.mp r1, r_int.mp r2, q _ F' H' e rfl⟩
theorem tv_lt {i j : Int} (ha : EV X Δ false a (.int i)) (hb : EV X Δ false b (.int j)) : TV X Δ (.Compare a [.Lt] [b] pos) (decide (i < j)) := tv_cmpI op_lt ha hb (nomark _)
theorem tv_le {i j : Int} (ha : EV X Δ false a (.int i)) (hb : EV X Δ false b (.int j)) : TV X Δ (.Compare a [.LtE] [b] pos) (decide (i ≤ j)) := tv_cmpI op_le ha hb (nomark _)
theorem tv_gt {i j : Int} (ha : EV X Δ false a (.int i)) (hb : EV X Δ false b (.int j)) : TV X Δ (.Compare a [.Gt] [b] pos) (decide (j < i)) := tv_cmpI op_gt ha hb (nomark _)
theorem tv_ge {i j : Int} (ha : EV X Δ false a (.int i)) (hb : EV X Δ false b (.int j)) : TV X Δ (.Compare a [.GtE] [b] pos) (decide (j ≤ i)) := tv_cmpI op_ge ha hb (nomark _)
theorem tv_eq (ha : EV X Δ false a x) (hb : EV X Δ false b y) (h1 : flat x = true) (h2 : flat y = true) (hs : scal (toV x) (toV y) = true) : TV X Δ (.Compare a [.Eq] [b] pos) (decide (toV x = toV y)) :=
  tv_cmp op_eq (nomark _) fun G0 H0 F H σ S Q q => two ha hb S fun v w F' H' e r1 r2 => by
    rw [r_flat h1 r1, r_flat h2 r2]; exact ⟨hs, q _ F' H' e rfl⟩
theorem tv_ne (ha : EV X Δ false a x) (hb : EV X Δ false b y) (h1 : flat x = true) (h2 : flat y = true) (hs : scal (toV x) (toV y) = true) : TV X Δ (.Compare a [.NotEq] [b] pos) (!decide (toV x = toV y)) :=
  tv_cmp op_ne (nomark _) fun G0 H0 F H σ S Q q => two ha hb S fun v w F' H' e r1 r2 => by
    rw [r_flat h1 r1, r_flat h2 r2]; exact ⟨hs, q _ F' H' e rfl⟩
theorem TV.is {t t' : Bool} (h : TV X Δ e t) (q : t = t') : TV X Δ e t' := q ▸ h
theorem EO.to {rs : List D} (h : EO X Δ e ds) (q : ds = rs) : EO X Δ e rs := q ▸ h
theorem tv_eqI {i j : Int} (ha : EV X Δ false a (.int i)) (hb : EV X Δ false b (.int j)) : TV X Δ (.Compare a [.Eq] [b] pos) (decide (i = j)) := (tv_eq ha hb rfl rfl rfl).is (by simp [toV])
theorem tv_neI {i j : Int} (ha : EV X Δ false a (.int i)) (hb : EV X Δ false b (.int j)) : TV X Δ (.Compare a [.NotEq] [b] pos) (!decide (i = j)) := (tv_ne ha hb rfl rfl rfl).is (by simp [toV])
theorem tv_eqS {i j : Str} (ha : EV X Δ false a (.str i)) (hb : EV X Δ false b (.str j)) : TV X Δ (.Compare a [.Eq] [b] pos) (decide (i = j)) := (tv_eq ha hb rfl rfl rfl).is (by simp [toV])
theorem tv_neS {i j : Str} (ha : EV X Δ false a (.str i)) (hb : EV X Δ false b (.str j)) : TV X Δ (.Compare a [.NotEq] [b] pos) (!decide (i = j)) := (tv_ne ha hb rfl rfl rfl).is (by simp [toV])
theorem tv_isN (ha : EV X Δ false a x) : TV X Δ (.Compare a [.Is] [.Constant .none k p2] pos) (match x with | .non => true | _ => false) :=
  tv_cmp op_isN (nomark _) fun G0 H0 F H σ S Q q => ha G0 H0 F H σ S _ fun v F' H' e r1 => eU pe_non ⟨rfl, q _ F' H' e (by
    cases x <;> (unfold R at r1) <;> first
      | (rw [r1]; simp)
      | (obtain ⟨_, z, _⟩ := r1; rw [z]; simp)
      | (obtain ⟨_, _, z, _⟩ := r1; rw [z]; simp)
      | (obtain ⟨_, _, _, z, _⟩ := r1; rw [z]; simp))⟩
theorem tv_notN (ha : EV X Δ false a x) : TV X Δ (.Compare a [.IsNot] [.Constant .none k p2] pos) (match x with | .non => false | _ => true) :=
  tv_cmp op_notN (nomark _) fun G0 H0 F H σ S Q q => ha G0 H0 F H σ S _ fun v F' H' e r1 => eU pe_non ⟨rfl, q _ F' H' e (by
    cases x <;> (unfold R at r1) <;> first
      | (rw [r1]; simp)
      | (obtain ⟨_, z, _⟩ := r1; rw [z]; simp)
      | (obtain ⟨_, _, z, _⟩ := r1; rw [z]; simp)
      | (obtain ⟨_, _, _, z, _⟩ := r1; rw [z]; simp))⟩
theorem tv_chain {op op' : CmpOp} {g g' : Int → Int → Bool} {i j k : Int} (ho : OpR X (compareOp op) (rI0 fun i j => V.bl (g i j))) (ho' : OpR X (compareOp op') (rI0 fun i j => V.bl (g' i j))) (ha : EV X Δ false a (.int i)) (hb : EV X Δ false b (.int j)) (hc : EV X Δ false c (.int k))
    (hm : lastMarks [op, op'] [b, c] = false := by with_unfolding_all rfl) : TV X Δ (.Compare a [op, op'] [b, c] pos) (g i j && g' j k) := by
  intro G0 H0 F H σ S Q q
  refine tU (pt_chain ho ho' pe_u pe_u pe_u hm) (two ha hb S fun v w F' H' e r1 r2 => ?_)
  refine ⟨i, j, r_int.mp r1, r_int.mp r2, _, rfl, ?_⟩
  cases z : g i j with
  | true =>
    rw [if_pos rfl]
    refine hc G0 H0 F' H' σ (S.ext e) _ fun u F2 H2 e2 r3 => ?_
    refine ⟨j, k, r_int.mp r2, r_int.mp r3, _, rfl, ?_⟩
    have := q F2 H2 (e.tr e2)
    rw [z] at this
    exact this
  | false =>
    rw [if_neg Bool.false_ne_true]
    have := q F' H' e
    rw [z] at this
    exact ⟨_, rfl, this⟩
theorem tv_chain_a {op op' : CmpOp} {g g' : Int → Int → Bool} {i j k : Int} (ho : OpR X (compareOp op) (rI0 fun i j => V.bl (g i j))) (ho' : OpR X (compareOp op') (rI0 fun i j => V.bl (g' i j))) (ha : EV X Δ false a (.int i)) (hb : EV X Δ false b (.int j)) (hc : EV X Δ false c (.int k)) (hm : Ru (lastMarks [op, op'] [b, c] = false)) : TV X Δ (.Compare a [op, op'] [b, c] pos) (g i j && g' j k) := tv_chain ho ho' ha hb hc hm.ok
theorem tv_lelt {i j k : Int} (ha : EV X Δ false a (.int i)) (hb : EV X Δ false b (.int j)) (hc : EV X Δ false c (.int k)) (hm : lastMarks [.LtE, .Lt] [b, c] = false := by with_unfolding_all rfl) : TV X Δ (.Compare a [.LtE, .Lt] [b, c] pos) (decide (i ≤ j) && decide (j < k)) := tv_chain op_le op_lt ha hb hc hm
theorem tv_lelt_a {i j k : Int} (ha : EV X Δ false a (.int i)) (hb : EV X Δ false b (.int j)) (hc : EV X Δ false c (.int k)) (hm : Ru (lastMarks [.LtE, .Lt] [b, c] = false)) : TV X Δ (.Compare a [.LtE, .Lt] [b, c] pos) (decide (i ≤ j) && decide (j < k)) := tv_lelt ha hb hc hm.ok
theorem tv_lele {i j k : Int} (ha : EV X Δ false a (.int i)) (hb : EV X Δ false b (.int j)) (hc : EV X Δ false c (.int k)) (hm : lastMarks [.LtE, .LtE] [b, c] = false := by with_unfolding_all rfl) : TV X Δ (.Compare a [.LtE, .LtE] [b, c] pos) (decide (i ≤ j) && decide (j ≤ k)) := tv_chain op_le op_le ha hb hc hm
theorem tv_lele_a {i j k : Int} (ha : EV X Δ false a (.int i)) (hb : EV X Δ false b (.int j)) (hc : EV X Δ false c (.int k)) (hm : Ru (lastMarks [.LtE, .LtE] [b, c] = false)) : TV X Δ (.Compare a [.LtE, .LtE] [b, c] pos) (decide (i ≤ j) && decide (j ≤ k)) := tv_lele ha hb hc hm.ok
theorem tv_not {t : Bool} (h : TV X Δ a t) : TV X Δ (.UnaryOp .Not a pos) (!t) := fun G0 H0 F H σ S Q q => tU (pt_not pt_u) (h G0 H0 F H σ S _ fun F' H' e => q F' H' e)
theorem TW.tv {t : Bool} (h : TW X Δ e t) : TV X Δ e t := fun G0 H0 F H σ S Q q => tU (PW.pt pw_u) (h G0 H0 F H σ S Q q)
theorem tw_and1 {t : Bool} (h : TV X Δ a t) : TW X Δ (.BoolOp .And [a] pos) t := fun G0 H0 F H σ S Q q => wU (pw_and1 pt_u) (h G0 H0 F H σ S Q q)
theorem tw_or1 {t : Bool} (h : TV X Δ a t) : TW X Δ (.BoolOp .Or [a] pos) t := fun G0 H0 F H σ S Q q => wU (pw_or1 pt_u) (h G0 H0 F H σ S Q q)
theorem tw_and {t u : Bool} {r : List Expr} (h : TV X Δ a t) (k : t = true → TW X Δ (.BoolOp .And (b :: r) pos) u) : TW X Δ (.BoolOp .And (a :: b :: r) pos) (t && u) := by
  intro G0 H0 F H σ S Q q
  refine wU (pw_and pt_u pw_u) (h G0 H0 F H σ S _ fun F' H' e => ?_)
  cases t with
  | true => rw [if_pos rfl]; exact k rfl G0 H0 F' H' σ (S.ext e) Q fun F2 H2 e2 => q F2 H2 (e.tr e2)
  | false => rw [if_neg Bool.false_ne_true]; exact q F' H' e
theorem tw_or {t u : Bool} {r : List Expr} (h : TV X Δ a t) (k : t = false → TW X Δ (.BoolOp .Or (b :: r) pos) u) : TW X Δ (.BoolOp .Or (a :: b :: r) pos) (t || u) := by
  intro G0 H0 F H σ S Q q
  refine wU (pw_or pt_u pw_u) (h G0 H0 F H σ S _ fun F' H' e => ?_)
  cases t with
  | false => rw [if_neg Bool.false_ne_true]; exact k rfl G0 H0 F' H' σ (S.ext e) Q fun F2 H2 e2 => q F2 H2 (e.tr e2)
  | true => rw [if_pos rfl]; exact q F' H' e
/-- the same as values -/
theorem ev_one {op : BoolOp} {m' : Bool} (h : EV X Δ m' a x) : EV X Δ m' (.BoolOp op [a] pos) x := fun G0 H0 F H σ S Q q => eU (pe_one pe_u) (h G0 H0 F H σ S Q q)
theorem ev_and {t u : Bool} {r : List Expr} (h : EV X Δ false a (.bl t)) (k : t = true → EV X Δ false (.BoolOp .And (b :: r) pos) (.bl u)) : EV X Δ m (.BoolOp .And (a :: b :: r) pos) (.bl (t && u)) := by
  refine EV.up (fun G0 H0 F H σ S Q q => ?_) rfl
  refine eU (pe_and pe_u pe_u) (h G0 H0 F H σ S _ fun v F' H' e r => ⟨t, r_bl.mp r, ?_⟩)
  cases t with
  | true => rw [if_pos rfl]; exact k rfl G0 H0 F' H' σ (S.ext e) Q fun v F2 H2 e2 r2 => q v F2 H2 (e.tr e2) r2
  | false => rw [if_neg Bool.false_ne_true]; exact q _ F' H' e (r_bl.mpr rfl)
theorem ev_or {t u : Bool} {r : List Expr} (h : EV X Δ false a (.bl t)) (k : t = false → EV X Δ false (.BoolOp .Or (b :: r) pos) (.bl u)) : EV X Δ m (.BoolOp .Or (a :: b :: r) pos) (.bl (t || u)) := by
  refine EV.up (fun G0 H0 F H σ S Q q => ?_) rfl
  refine eU (pe_or pe_u pe_u) (h G0 H0 F H σ S _ fun v F' H' e r => ⟨t, r_bl.mp r, ?_⟩)
  cases t with
  | false => rw [if_neg Bool.false_ne_true]; exact k rfl G0 H0 F' H' σ (S.ext e) Q fun v F2 H2 e2 r2 => q v F2 H2 (e.tr e2) r2
  | true => rw [if_pos rfl]; exact q _ F' H' e (r_bl.mpr rfl)
theorem ev_not {t : Bool} (h : EV X Δ false a (.bl t)) : EV X Δ m (.UnaryOp .Not a pos) (.bl (!t)) := by
  refine EV.up (fun G0 H0 F H σ S Q q => ?_) rfl
  exact eU (pe_not pe_u) (h G0 H0 F H σ S _ fun v F' H' e r => ⟨t, r_bl.mp r, q _ F' H' e (r_bl.mpr rfl)⟩)
theorem ev_if {t : Bool} (h : TV X Δ c t) (h1 : t = true → EV X Δ m a d) (h2 : t = false → EV X Δ m b d) : EV X Δ m (.IfExp c a b pos) d := by
  intro G0 H0 F H σ S Q q
  refine eU (pe_ifExp pt_u pe_u pe_u) (h G0 H0 F H σ S _ fun F' H' e => ?_)
  cases t with
  | true => rw [if_pos rfl]; exact h1 rfl G0 H0 F' H' σ (S.ext e) Q fun v F2 H2 e2 r2 => q v F2 H2 (e.tr e2) r2
  | false => rw [if_neg Bool.false_ne_true]; exact h2 rfl G0 H0 F' H' σ (S.ext e) Q fun v F2 H2 e2 r2 => q v F2 H2 (e.tr e2) r2

/-! displays -/
theorem av_nil : AV X Δ m [] [] := fun G0 H0 F H σ S Q q => aU pa_nil (q [] F H (Ext.rf S.fh) RL.nil)
theorem av_cons (h : EV X Δ m e d) (k : AV X Δ m es ds) (hs : starEach (e :: es) X.env = (false, eval e X.env) :: starEach es X.env := by rfl) : AV X Δ m (e :: es) (d :: ds) := by
  intro G0 H0 F H σ S Q q
  refine aU (pa_cons pe_u pa_u hs) (h G0 H0 F H σ S _ fun v F1 H1 e1 r1 => ?_)
  exact k G0 H0 F1 H1 σ (S.ext e1) _ fun vs F2 H2 e2 r2 => q _ F2 H2 (e1.tr e2) (RL.cons (r1.up e2) r2)
theorem av_cons_a (h : EV X Δ m e d) (k : AV X Δ m es ds) (hs : Rf (starEach (e :: es) X.env = (false, eval e X.env) :: starEach es X.env)) : AV X Δ m (e :: es) (d :: ds) := av_cons h k hs.ok
theorem ev_tup {k : Nat} (h : AV X Δ m es ds) (hl : ds.length ≤ 1000) : EV X Δ m (.Tuple es k pos) (.tup ds) := by
  intro G0 H0 F H σ S Q q
  refine eU (pe_tup pa_u) (h G0 H0 F H σ S _ fun vs F' H' e r => ⟨Nat.le_of_lt (small1000 (by rw [r.length]; exact hl)), fun p n => ?_⟩)
  cases m with
  | true => exact q (.ref p) (upd F' p (.tup vs)) _ (e.tr (Ext.put e.fh n)) (r_tup.mpr ⟨p, vs, rfl, upd_same, RL.mono (show Sub F' (upd F' p (.tup vs)) from Sub.new (e.fh.none n)) ds vs r⟩)
  | false => exact q (.ref p) F' _ (e.tr (Ext.grow e.fh (Sub.new n))) (r_tup.mpr ⟨p, vs, rfl, upd_same, RL.mono (show Sub H' (upd H' p (.tup vs)) from Sub.new n) ds vs r⟩)
theorem eo_lst (h : AV X Δ true es ds) (hl : ds.length ≤ 1000) : EO X Δ (.List es pos) ds := by
  intro G0 H0 F H σ S Q q
  refine eU (pe_lst pa_u) (h G0 H0 F H σ S _ fun vs F' H' e r => ⟨Nat.le_of_lt (small1000 (by rw [r.length]; exact hl)), fun p n => ?_⟩)
  exact q p vs F' _ (e.tr (Ext.grow e.fh (Sub.new n))) (e.h.none n) upd_same (e.fh.none n) r
/-- a written list as an operand -/
theorem ev_lst (h : AV X Δ m es ds) (hl : ds.length ≤ 1000) : EV X Δ m (.List es pos) (.lst ds) := by
  intro G0 H0 F H σ S Q q
  refine eU (pe_lst pa_u) (h G0 H0 F H σ S _ fun vs F' H' e r => ⟨Nat.le_of_lt (small1000 (by rw [r.length]; exact hl)), fun p n => ?_⟩)
  cases m with
  | true => exact q (.ref p) (upd F' p (.lst vs)) _ (e.tr (Ext.put e.fh n)) (r_lst.mpr ⟨p, vs, rfl, upd_same, RL.mono (show Sub F' (upd F' p (.lst vs)) from Sub.new (e.fh.none n)) ds vs r⟩)
  | false => exact q (.ref p) F' _ (e.tr (Ext.grow e.fh (Sub.new n))) (r_lst.mpr ⟨p, vs, rfl, upd_same, RL.mono (show Sub H' (upd H' p (.lst vs)) from Sub.new n) ds vs r⟩)

/-! subscripts -/
theorem RL.at {K : PySem.W.Frag} {G : Hp} {ds : List D} {vs : List V} {i : Int} {d : D} (h : RL K G ds vs) (e : atI ds i = some d) : ∃ v, atI vs i = some v ∧ R K G d v := by
  unfold atI at e ⊢
  rw [h.length]
  cases z : ixN ds.length i with
  | none => rw [z] at e; cases e
  | some j => rw [z] at e; exact h.get e
theorem ev_ix {i : Int} (ha : EV X Δ m a (.lst ds)) (hb : EV X Δ false b (.int i)) (h : atI ds i = some d) (hs : PlainIx b := by exact fun _ _ => rfl) : EV X Δ m (.Subscript a b pos) d := by
  intro G0 H0 F H σ S Q q
  refine eU (pe_ix ix_list pe_u pe_u hs) (two ha hb S fun v w F' H' e r1 r2 => ?_)
  obtain ⟨p, vs, rfl, g, l⟩ := r_lst.mp r1
  obtain ⟨u, e1, e2⟩ := l.at h
  exact ⟨p, vs, i, u, rfl, r_int.mp r2, SqL.of (sel_h e.fh _ _ g), e1, q _ F' H' e e2⟩
theorem ev_ix_a {i : Int} (ha : EV X Δ m a (.lst ds)) (hb : EV X Δ false b (.int i)) (h : atI ds i = some d) (hs : Rx (PlainIx b)) : EV X Δ m (.Subscript a b pos) d := ev_ix ha hb h hs.ok
theorem ev_ixt {i : Int} (ha : EV X Δ m a (.tup ds)) (hb : EV X Δ false b (.int i)) (h : atI ds i = some d) (hs : PlainIx b := by exact fun _ _ => rfl) : EV X Δ m (.Subscript a b pos) d := by
  intro G0 H0 F H σ S Q q
  refine eU (pe_ix ix_tup pe_u pe_u hs) (two ha hb S fun v w F' H' e r1 r2 => ?_)
  obtain ⟨p, vs, rfl, g, l⟩ := r_tup.mp r1
  obtain ⟨u, e1, e2⟩ := l.at h
  exact ⟨p, vs, i, u, rfl, r_int.mp r2, SqT.of (sel_h e.fh _ _ g), e1, q _ F' H' e e2⟩
theorem ev_ixt_a {i : Int} (ha : EV X Δ m a (.tup ds)) (hb : EV X Δ false b (.int i)) (h : atI ds i = some d) (hs : Rx (PlainIx b)) : EV X Δ m (.Subscript a b pos) d := ev_ixt ha hb h hs.ok
/-- an item of a list of one's own -/
theorem ev_ixo {i : Int} {k : Nat} {n : Str} {p1 : Pos} {qq : Option Addr} (hN : X.N[k]? = some n) (hΔ : Δ[k]? = some (Sl.w qq (T.l ds))) (hb : EV X Δ false b (.int i)) (h : atI ds i = some d) (hv : Vis X.env.scope n := by first | exact Or.inl rfl | exact Or.inr (Or.inl rfl) | exact Or.inr (Or.inr rfl)) (hs : PlainIx b := by exact fun _ _ => rfl) (hd : (n == ("__debug__" : Str)) = false := by decide) (hcd : (n == ("__classdict__" : Str)) = false := by decide) : EV X Δ m (.Subscript (.Name n p1) b pos) d := by
  refine EV.weak fun G0 H0 F H σ S Q q => ?_
  obtain ⟨p, vs, e1, e2, e3, e4, l⟩ := S.own k ds hΔ
  refine eU (pe_ix ix_list (pe_var hN hv hd hcd) pe_u hs) ⟨.ref p, e1, ?_⟩
  refine hb G0 H0 F H σ S _ fun w F' H' e r2 => ?_
  obtain ⟨u, f1, f2⟩ := l.at h
  exact ⟨p, vs, i, u, rfl, r_int.mp r2, SqL.of (e.h.k _ _ e2 (fun _ z => nomatch z)), f1, q _ F' H' e (f2.mono e.f)⟩
theorem ev_ixo_a {i : Int} {k : Nat} {n : Str} {p1 : Pos} {qq : Option Addr} (hN : X.N[k]? = some n) (hΔ : Δ[k]? = some (Sl.w qq (T.l ds))) (hb : EV X Δ false b (.int i)) (h : atI ds i = some d) (hv : Rv (Vis X.env.scope n)) (hs : Rx (PlainIx b)) (hd : Rd ((n == ("__debug__" : Str)) = false)) (hcd : Rd ((n == ("__classdict__" : Str)) = false)) : EV X Δ m (.Subscript (.Name n p1) b pos) d := ev_ixo hN hΔ hb h hv.ok hs.ok hd.ok hcd.ok
theorem ev_ixs {i j : Int} {ns : List Int} (ha : EV X Δ false a (.scr ns)) (hb : EV X Δ false b (.int i)) (h : atI ns i = some j) (hs : PlainIx b := by exact fun _ _ => rfl) : EV X Δ m (.Subscript a b pos) (.int j) := by
  refine EV.up (fun G0 H0 F H σ S Q q => ?_) rfl
  refine eU (pe_ix ix_list pe_u pe_u hs) (two ha hb S fun v w F' H' e r1 r2 => ?_)
  obtain ⟨p, rfl, g⟩ := r_scr.mp r1
  refine ⟨p, ns.map V.int, i, .int j, rfl, r_int.mp r2, g, ?_, q _ F' H' e (r_int.mpr rfl)⟩
  unfold atI at h ⊢
  rw [List.length_map]
  cases z : ixN ns.length i with
  | none => rw [z] at h; cases h
  | some k =>
    rw [z] at h
    have h : ns[k]? = some j := h
    show (ns.map V.int)[k]? = _
    rw [List.getElem?_map, h]; rfl
theorem ev_ixs_a {i j : Int} {ns : List Int} (ha : EV X Δ false a (.scr ns)) (hb : EV X Δ false b (.int i)) (h : atI ns i = some j) (hs : Rx (PlainIx b)) : EV X Δ m (.Subscript a b pos) (.int j) := ev_ixs ha hb h hs.ok
theorem ev_ixS {i : Int} {z : Str} {c : Nat} (ha : EV X Δ false a (.str z)) (hb : EV X Δ false b (.int i)) (hl : z.length ≤ sizeLine) (h : atI z.cps.toList i = some c) (hs : PlainIx b := by exact fun _ _ => rfl) : EV X Δ m (.Subscript a b pos) (.str ⟨#[c]⟩) := by
  refine EV.up (fun G0 H0 F H σ S Q q => ?_) rfl
  refine eU (pe_ix ix_str pe_u pe_u hs) (two ha hb S fun v w F' H' e r1 r2 => ?_)
  exact ⟨z, i, c, r_str.mp r1, r_int.mp r2, hl, h, q _ F' H' e (r_str.mpr rfl)⟩

theorem ev_ixS_a {i : Int} {z : Str} {c : Nat} (ha : EV X Δ false a (.str z)) (hb : EV X Δ false b (.int i)) (hl : z.length ≤ sizeLine) (h : atI z.cps.toList i = some c) (hs : Rx (PlainIx b)) : EV X Δ m (.Subscript a b pos) (.str ⟨#[c]⟩) := ev_ixS ha hb hl h hs.ok
/-! slices -/
def OV (X : Cx) (Δ : List Sl) (o : Option Expr) (r : Option Int) : Prop :=
  ∀ (G0 H0 F H : Hp) (σ : L2.St), Stt X.K G0 H0 F H σ Δ → ∀ Q : Option Int → Hp → Prop, (∀ F' H', Ext F H F' H' → Q r H') → (match o with | none => tNoPart | some e => tPart (uE X e)) σ H Q
theorem po_u {o : Option Expr} : PO X o (match o with | none => tNoPart | some e => tPart (uE X e)) := by
  cases o with
  | none => exact po_none
  | some e => exact po_some pe_u
theorem ov_none : OV X Δ none none := fun G0 H0 F H σ S Q q => q F H (Ext.rf S.fh)
theorem ov_some {i : Int} (h : EV X Δ false e (.int i)) : OV X Δ (some e) (some i) := fun G0 H0 F H σ S Q q => h G0 H0 F H σ S _ fun v F' H' x r => ⟨i, r_int.mp r, q F' H' x⟩
def slD {α : Type} (xs : List α) (lo hi : Option Int) : List α := (xs.drop (HT.sIx xs.length 0 lo)).take (HT.sIx xs.length xs.length hi - HT.sIx xs.length 0 lo)
theorem cutV_eq (xs : List V) (lo hi : Option Int) : cutV xs lo hi = slD xs lo hi := rfl
theorem RL.cut {K : PySem.W.Frag} {G : Hp} {ds : List D} {vs : List V} (h : RL K G ds vs) (lo hi : Option Int) : RL K G (slD ds lo hi) (cutV vs lo hi) := by
  unfold cutV slD
  rw [h.length]
  exact (h.drop _).take _
theorem eo_sl {lo hi : Option Expr} {l u : Option Int} {p2 : Pos} (ha : EV X Δ true a (.lst ds)) (hl : OV X Δ lo l) (hu : OV X Δ hi u) : EO X Δ (.Subscript a (.Slice lo hi none p2) pos) (slD ds l u) := by
  intro G0 H0 F H σ S Q q
  refine eU (pe_slice sl_list pe_u po_u po_u) (ha G0 H0 F H σ S _ fun v F1 H1 e1 r1 => ?_)
  refine hl G0 H0 F1 H1 σ (S.ext e1) _ fun F2 H2 e2 => hu G0 H0 F2 H2 σ (S.ext (e1.tr e2)) _ fun F3 H3 e3 => ?_
  obtain ⟨p, vs, rfl, g, r⟩ := r_lst.mp r1
  have e := e1.tr (e2.tr e3)
  have e23 := e2.tr e3
  have g' : F1 p = some (.lst vs) := g
  refine ⟨p, vs, rfl, SqL.of (e.fh _ _ (e23.f _ _ g')), fun n nn => ?_⟩
  exact q n _ F3 _ (e.tr (Ext.grow e.fh (Sub.new nn))) (e.h.none nn) upd_same (e.fh.none nn) (RL.cut (RL.mono e23.f _ _ r) l u)
theorem eo_slf {lo hi : Option Expr} {l u : Option Int} {p2 : Pos} (ha : EV X Δ false a (.lst ds)) (hl : OV X Δ lo l) (hu : OV X Δ hi u) (f : ds.all flat = true) : EO X Δ (.Subscript a (.Slice lo hi none p2) pos) (slD ds l u) := by
  intro G0 H0 F H σ S Q q
  refine eU (pe_slice sl_list pe_u po_u po_u) (ha G0 H0 F H σ S _ fun v F1 H1 e1 r1 => ?_)
  refine hl G0 H0 F1 H1 σ (S.ext e1) _ fun F2 H2 e2 => hu G0 H0 F2 H2 σ (S.ext (e1.tr e2)) _ fun F3 H3 e3 => ?_
  obtain ⟨p, vs, rfl, g, r⟩ := r_lst.mp r1
  have e := e1.tr (e2.tr e3)
  have e23 := e2.tr e3
  have g' : H1 p = some (.lst vs) := g
  refine ⟨p, vs, rfl, SqL.of (e23.h.k _ _ g' (fun _ z => nomatch z)), fun n nn => ?_⟩
  exact q n _ F3 _ (e.tr (Ext.grow e.fh (Sub.new nn))) (e.h.none nn) upd_same (e.fh.none nn) (RL.cut (flats_any f r) l u)
theorem cut_ints (ns : List Int) (l u : Option Int) : cutV (ns.map V.int) l u = (slD ns l u).map V.int := by
  unfold cutV slD
  rw [List.length_map, ← List.map_drop, ← List.map_take]
/-- a slice of the script -/
theorem eo_sls {lo hi : Option Expr} {l u : Option Int} {p2 : Pos} {ns : List Int} (ha : EV X Δ false a (.scr ns)) (hl : OV X Δ lo l) (hu : OV X Δ hi u) : EO X Δ (.Subscript a (.Slice lo hi none p2) pos) ((slD ns l u).map D.int) := by
  intro G0 H0 F H σ S Q q
  refine eU (pe_slice sl_list pe_u po_u po_u) (ha G0 H0 F H σ S _ fun v F1 H1 e1 r1 => ?_)
  refine hl G0 H0 F1 H1 σ (S.ext e1) _ fun F2 H2 e2 => hu G0 H0 F2 H2 σ (S.ext (e1.tr e2)) _ fun F3 H3 e3 => ?_
  obtain ⟨p, rfl, g⟩ := r_scr.mp r1
  have e := e1.tr (e2.tr e3)
  have e23 := e2.tr e3
  refine ⟨p, _, rfl, SubN.seq e23.h.k g, fun n nn => ?_⟩
  rw [cut_ints]
  exact q n _ F3 _ (e.tr (Ext.grow e.fh (Sub.new nn))) (e.h.none nn) upd_same (e.fh.none nn) RL.of_ints

/-! fields -/
theorem ev_fld {C : Addr} {fs : List (Str × D)} {f : Str} (ha : EV X Δ m a (.obj C fs)) (c : Cls X.K C) (n : NoAttr X.K C f) (hl : fs.lookup f = some d) (hb : attributeBase a f X.env (eval a X.env) = eval a X.env := by rfl) : EV X Δ m (.Attribute a f pos) d := by
  intro G0 H0 F H σ S Q q
  refine eU (pe_fld pe_u hb) (ha G0 H0 F H σ S _ fun v F' H' e r => ?_)
  obtain ⟨p, dx, vfs, rfl, g, rf⟩ := r_obj.mp r
  obtain ⟨w, e1, e2⟩ := rf.lookup hl
  exact ⟨p, C, dx, vfs, w, rfl, sel_h e.fh _ _ g, c, n, e1, q _ F' H' e e2⟩
theorem ev_fld_a {C : Addr} {fs : List (Str × D)} {f : Str} (ha : EV X Δ m a (.obj C fs)) (c : Cls X.K C) (n : NoAttr X.K C f) (hl : fs.lookup f = some d) (hb : Rf (attributeBase a f X.env (eval a X.env) = eval a X.env)) : EV X Δ m (.Attribute a f pos) d := ev_fld ha c n hl hb.ok
end
end Z

namespace Z
open PySem PySem.Spec PyProof.Rows L2
variable [τ : Tb]

inductive Res where
  | v (d : D) | o (ds : List D) | t (t : T)
inductive Out where
  | nx (Δ : List Sl) | rt (r : Res) (Δ : List Sl) | bk (Δ : List Sl) | ct (Δ : List Sl) | xr (C : Addr) (Δ : List Sl)

/-- xr: an exception of the class C, with nothing in it, is taken -/
def OutOk (X : Cx) (G0 H0 : Hp) (D : Ends) : Out → Prop
  | .nx Δ => ∀ (F H : Hp) (σ : L2.St), Stt X.K G0 H0 F H σ Δ → D.nx σ H
  | .bk Δ => ∀ (F H : Hp) (σ : L2.St), Stt X.K G0 H0 F H σ Δ → D.bk σ H
  | .ct Δ => ∀ (F H : Hp) (σ : L2.St), Stt X.K G0 H0 F H σ Δ → D.ct σ H
  | .rt (.v d) Δ => ∀ (F H : Hp) (σ : L2.St) (v : V), Stt X.K G0 H0 F H σ Δ → R X.K F d v → D.rt v H
  | .rt (.o ds) Δ => ∀ (F H : Hp) (σ : L2.St) (p : Addr) (vs : List V), Stt X.K G0 H0 F H σ Δ → H p = some (.lst vs) → F p = none → H0 p = none → RL X.K F ds vs → D.rt (.ref p) H
  | .rt (.t t) Δ => ∀ (F H : Hp) (σ : L2.St) (v : V) (f : List Addr), Stt X.K G0 H0 F H σ Δ → RT X.K F H t v f → (∀ a ∈ f, F a = none ∧ H0 a = none) → D.rt v H
  | .xr C Δ => ∀ (F H : Hp) (σ : L2.St), Stt X.K G0 H0 F H σ Δ → Takes X (fun cls d σ' H' => cls = .ref C ∧ d = none ∧ σ' = σ ∧ H' = H)

def Sm (X : Cx) (st : Stmt) (Δ : List Sl) (C : Out → Prop) : Prop :=
  ∀ (G0 H0 F H : Hp) (σ : L2.St), Stt X.K G0 H0 F H σ Δ → ∀ D : Ends, (∀ o, C o → OutOk X G0 H0 D o) → uS1 X st D σ H
def Bk (X : Cx) (sts : List Stmt) (Δ : List Sl) (C : Out → Prop) : Prop :=
  ∀ (G0 H0 F H : Hp) (σ : L2.St), Stt X.K G0 H0 F H σ Δ → ∀ D : Ends, (∀ o, C o → OutOk X G0 H0 D o) → uS X sts D σ H
/-- what a statement must come to, that the rest comes to C -/
def sq (X : Cx) (rest : List Stmt) (C : Out → Prop) : Out → Prop
  | .nx Δ => Bk X rest Δ C
  | o => C o

/-- a test that may change lists of one's own -/
def TS (X : Cx) (Δ : List Sl) (e : Expr) (C : Bool → List Sl → Prop) : Prop :=
  ∀ (G0 H0 F H : Hp) (σ : L2.St), Stt X.K G0 H0 F H σ Δ → ∀ Q : Bool → Hp → Prop, (∀ b Δ' F' H', C b Δ' → Stt X.K G0 H0 F' H' σ Δ' → Q b H') → uT X e σ H Q

section
variable {X : Cx} {Δ : List Sl} {m : Bool} {e a b c : Expr} {es : List Expr} {st : Stmt} {sts rest : List Stmt} {d x y : D} {ds : List D} {pos : Pos} {C C' : Out → Prop}
theorem Sm.mono (h : Sm X st Δ C) (k : ∀ o, C o → C' o) : Sm X st Δ C' := fun G0 H0 F H σ S D q => h G0 H0 F H σ S D fun o c => q o (k o c)
theorem Bk.mono (h : Bk X sts Δ C) (k : ∀ o, C o → C' o) : Bk X sts Δ C' := fun G0 H0 F H σ S D q => h G0 H0 F H σ S D fun o c => q o (k o c)
theorem TV.ts {t : Bool} (h : TV X Δ e t) : TS X Δ e (fun b Δ' => b = t ∧ Δ' = Δ) := fun G0 H0 F H σ S Q q => h G0 H0 F H σ S _ fun F' H' e => q t Δ F' H' ⟨rfl, rfl⟩ (S.ext e)
theorem bk_nil (h : C (.nx Δ)) : Bk X [] Δ C := fun G0 H0 F H σ S D q => sU pss_nil (q _ h F H σ S)
theorem bk_cons (h : Sm X st Δ (sq X rest C)) : Bk X (st :: rest) Δ C := by
  intro G0 H0 F H σ S D q
  refine sU (pss_cons ps_u pss_u) (h G0 H0 F H σ S _ fun o c => ?_)
  cases o with
  | nx Δ' => exact fun F1 H1 σ1 S1 => c G0 H0 F1 H1 σ1 S1 D q
  | bk Δ' => exact q _ c
  | ct Δ' => exact q _ c
  | rt r Δ' => cases r <;> exact q _ c
  | xr C Δ' => exact q _ c
/-- the state is weakened, a list of one's own frozen -/
theorem bk_frz {i : Nat} {qq : Option Addr} (hΔ : Δ[i]? = some (Sl.w qq (T.l ds))) (h : Bk X sts (Δ.set i (.v (.lst ds))) C) : Bk X sts Δ C := by
  intro G0 H0 F H σ S D q
  obtain ⟨F', sF, S'⟩ := S.frz hΔ
  exact h G0 H0 F' H σ S' D q
/-- a tree of one's own frozen -/
theorem bk_frzT {i : Nat} {qq : Option Addr} {t : T} (hΔ : Δ[i]? = some (Sl.w qq t)) (h : Bk X sts (Δ.set i (.v t.d)) C) : Bk X sts Δ C := by
  intro G0 H0 F H σ S D q
  obtain ⟨F', sF, S'⟩ := S.frzT hΔ
  exact h G0 H0 F' H σ S' D q
theorem bk_drop {i : Nat} (h : Bk X sts (Δ.set i .u) C) : Bk X sts Δ C := fun G0 H0 F H σ S D q => h G0 H0 F H σ S.drop D q
theorem Bk.is {Δ' : List Sl} (h : Bk X sts Δ' C) (q : Δ = Δ') : Bk X sts Δ C := q ▸ h

theorem sm_ret (h : EV X Δ true e d) (k : C (.rt (.v d) Δ)) : Sm X (.Return (some e) pos) Δ C := fun G0 H0 F H σ S D q =>
  sU1 (ps_ret pe_u) (h G0 H0 F H σ S _ fun v F' H' e r => q _ k F' H' σ v (S.ext e) r)
theorem sm_reto (h : EO X Δ e ds) (k : C (.rt (.o ds) Δ)) : Sm X (.Return (some e) pos) Δ C := fun G0 H0 F H σ S D q =>
  sU1 (ps_ret pe_u) (h G0 H0 F H σ S _ fun p vs F' H' e n h1 f1 r => q _ k F' H' σ p vs (S.ext e) h1 f1 (S.h0.none n) r)
/-- a list of one's own is handed back -/
theorem sm_reton {i : Nat} {n : Str} {p1 : Pos} {qq : Option Addr} (hN : X.N[i]? = some n) (hΔ : Δ[i]? = some (Sl.w qq (T.l ds))) (k : C (.rt (.o ds) (Δ.set i .u))) (hv : Vis X.env.scope n := by first | exact Or.inl rfl | exact Or.inr (Or.inl rfl) | exact Or.inr (Or.inr rfl)) (hd : (n == ("__debug__" : Str)) = false := by decide) (hcd : (n == ("__classdict__" : Str)) = false := by decide) : Sm X (.Return (some (.Name n p1)) pos) Δ C := by
  intro G0 H0 F H σ S D q
  obtain ⟨p, vs, e1, e2, e3, e4, e5⟩ := S.own i ds hΔ
  exact sU1 (ps_ret (pe_var hN hv hd hcd)) ⟨.ref p, e1, q _ k F H σ p vs S.drop e2 e3 e4 e5⟩
theorem sm_reton_a {i : Nat} {n : Str} {p1 : Pos} {qq : Option Addr} (hN : X.N[i]? = some n) (hΔ : Δ[i]? = some (Sl.w qq (T.l ds))) (k : C (.rt (.o ds) (Δ.set i .u))) (hv : Rv (Vis X.env.scope n)) (hd : Rd ((n == ("__debug__" : Str)) = false)) (hcd : Rd ((n == ("__classdict__" : Str)) = false)) : Sm X (.Return (some (.Name n p1)) pos) Δ C := sm_reton hN hΔ k hv.ok hd.ok hcd.ok
theorem sm_retN (k : C (.rt (.v .non) Δ)) : Sm X (.Return none pos) Δ C := fun G0 H0 F H σ S D q => sU1 ps_retN (q _ k F H σ .non S (r_non.mpr rfl))
theorem sm_pass (k : C (.nx Δ)) : Sm X (.Pass pos) Δ C := fun G0 H0 F H σ S D q => sU1 ps_pass (q _ k F H σ S)
theorem sm_break (k : C (.bk Δ)) : Sm X (.Break pos) Δ C := fun G0 H0 F H σ S D q => sU1 ps_break (q _ k F H σ S)
theorem sm_cont (k : C (.ct Δ)) : Sm X (.Continue pos) Δ C := fun G0 H0 F H σ S D q => sU1 ps_continue (q _ k F H σ S)
theorem sm_expr (h : EV X Δ m e d) (k : C (.nx Δ)) (hs : swapsWith e none pos.line X.env = pure false := by rfl) : Sm X (.Expr e pos) Δ C := fun G0 H0 F H σ S D q =>
  sU1 (ps_expr pe_u hs) (h G0 H0 F H σ S _ fun v F' H' e r => q _ k F' H' σ (S.ext e))
theorem sm_expr_a (h : EV X Δ m e d) (k : C (.nx Δ)) (hs : Rf (swapsWith e none pos.line X.env = pure false)) : Sm X (.Expr e pos) Δ C := sm_expr h k hs.ok
theorem sm_set {i : Nat} {n : Str} {p1 : Pos} (hN : X.N.Nodup) (hi : X.N[i]? = some n) (hl : Loc X.env.scope n) (h : EV X Δ true e d) (k : C (.nx (Δ.set i (.v d)))) (hs : swapsWith e (some (.Name n p1)) pos.line X.env = pure false := by rfl) (hf : X.fn n = true ∨ X.env.scope.names.lookup n = some .local := by first | exact .inl rfl | exact .inr rfl) :
    Sm X (.Assign [.Name n p1] e pos) Δ C := fun G0 H0 F H σ S D q =>
  sU1 (ps_set hN hi hl pe_u hs hf) (h G0 H0 F H σ S _ fun v F' H' e r => q _ k F' H' _ ((S.ext e).setv r))
theorem sm_set_a {i : Nat} {n : Str} {p1 : Pos} (hN : X.N.Nodup) (hi : X.N[i]? = some n) (hl : Loc X.env.scope n) (h : EV X Δ true e d) (k : C (.nx (Δ.set i (.v d)))) (hs : Rf (swapsWith e (some (.Name n p1)) pos.line X.env = pure false)) (hf : Rl (X.fn n = true ∨ X.env.scope.names.lookup n = some .local)) : Sm X (.Assign [.Name n p1] e pos) Δ C := sm_set hN hi hl h k hs.ok hf.ok
theorem sm_seto {i : Nat} {n : Str} {p1 : Pos} (hN : X.N.Nodup) (hi : X.N[i]? = some n) (hl : Loc X.env.scope n) (h : EO X Δ e ds) (k : C (.nx (Δ.set i (.o ds)))) (hs : swapsWith e (some (.Name n p1)) pos.line X.env = pure false := by rfl) (hf : X.fn n = true ∨ X.env.scope.names.lookup n = some .local := by first | exact .inl rfl | exact .inr rfl) :
    Sm X (.Assign [.Name n p1] e pos) Δ C := fun G0 H0 F H σ S D q =>
  sU1 (ps_set hN hi hl pe_u hs hf) (h G0 H0 F H σ S _ fun p vs F' H' e n1 h1 f1 r => q _ k F' H' _ (S.seto e n1 h1 f1 r))
theorem sm_seto_a {i : Nat} {n : Str} {p1 : Pos} (hN : X.N.Nodup) (hi : X.N[i]? = some n) (hl : Loc X.env.scope n) (h : EO X Δ e ds) (k : C (.nx (Δ.set i (.o ds)))) (hs : Rf (swapsWith e (some (.Name n p1)) pos.line X.env = pure false)) (hf : Rl (X.fn n = true ∨ X.env.scope.names.lookup n = some .local)) : Sm X (.Assign [.Name n p1] e pos) Δ C := sm_seto hN hi hl h k hs.ok hf.ok
theorem sm_aug {i : Nat} {n : Str} {p1 : Pos} {u w : Int} (hN : X.N.Nodup) (hi : X.N[i]? = some n) (hl : Loc X.env.scope n) (hΔ : Δ[i]? = some (Sl.v (.int u))) (h : EV X Δ false e (.int w)) (k : C (.nx (Δ.set i (.v (.int (u + w)))))) (hf : X.fn n = true ∨ X.env.scope.names.lookup n = some .local := by first | exact .inl rfl | exact .inr rfl) :
    Sm X (.AugAssign (.Name n p1) .Add e pos) Δ C := by
  intro G0 H0 F H σ S D q
  obtain ⟨x, e1, r⟩ := S.val i _ hΔ
  refine sU1 (ps_aug hN hi hl pe_u ip_add hf) ⟨x, e1, h G0 H0 F H σ S _ fun v F' H' e r2 => ?_⟩
  exact ⟨u, w, r_int.mp r, r_int.mp r2, q _ k F' H' _ ((S.ext e).setv (r_int.mpr rfl))⟩
theorem sm_aug_a {i : Nat} {n : Str} {p1 : Pos} {u w : Int} (hN : X.N.Nodup) (hi : X.N[i]? = some n) (hl : Loc X.env.scope n) (hΔ : Δ[i]? = some (Sl.v (.int u))) (h : EV X Δ false e (.int w)) (k : C (.nx (Δ.set i (.v (.int (u + w)))))) (hf : Rl (X.fn n = true ∨ X.env.scope.names.lookup n = some .local)) : Sm X (.AugAssign (.Name n p1) .Add e pos) Δ C := sm_aug hN hi hl hΔ h k hf.ok
theorem sm_augm {i : Nat} {n : Str} {p1 : Pos} {u w : Int} (hN : X.N.Nodup) (hi : X.N[i]? = some n) (hl : Loc X.env.scope n) (hΔ : Δ[i]? = some (Sl.v (.int u))) (h : EV X Δ false e (.int w)) (k : C (.nx (Δ.set i (.v (.int (u - w)))))) (hf : X.fn n = true ∨ X.env.scope.names.lookup n = some .local := by first | exact .inl rfl | exact .inr rfl) :
    Sm X (.AugAssign (.Name n p1) .Sub e pos) Δ C := by
  intro G0 H0 F H σ S D q
  obtain ⟨x, e1, r⟩ := S.val i _ hΔ
  refine sU1 (ps_aug hN hi hl pe_u ip_sub hf) ⟨x, e1, h G0 H0 F H σ S _ fun v F' H' e r2 => ?_⟩
  exact ⟨u, w, r_int.mp r, r_int.mp r2, q _ k F' H' _ ((S.ext e).setv (r_int.mpr rfl))⟩
theorem sm_augm_a {i : Nat} {n : Str} {p1 : Pos} {u w : Int} (hN : X.N.Nodup) (hi : X.N[i]? = some n) (hl : Loc X.env.scope n) (hΔ : Δ[i]? = some (Sl.v (.int u))) (h : EV X Δ false e (.int w)) (k : C (.nx (Δ.set i (.v (.int (u - w)))))) (hf : Rl (X.fn n = true ∨ X.env.scope.names.lookup n = some .local)) : Sm X (.AugAssign (.Name n p1) .Sub e pos) Δ C := sm_augm hN hi hl hΔ h k hf.ok
theorem PIp.of {op : Operator} {r : R2} (h : OpR X (inplaceOp op) r) : PIp X op r := h
theorem sm_augx {i : Nat} {n : Str} {p1 : Pos} {u w : Int} (hN : X.N.Nodup) (hi : X.N[i]? = some n) (hl : Loc X.env.scope n) (hΔ : Δ[i]? = some (Sl.v (.int u))) (h : EV X Δ false e (.int w)) (hc : IntMulOk u w) (k : C (.nx (Δ.set i (.v (.int (u * w)))))) (hf : X.fn n = true ∨ X.env.scope.names.lookup n = some .local := by first | exact .inl rfl | exact .inr rfl) :
    Sm X (.AugAssign (.Name n p1) .Mult e pos) Δ C := by
  intro G0 H0 F H σ S D q
  obtain ⟨x, e1, r⟩ := S.val i _ hΔ
  refine sU1 (ps_aug hN hi hl pe_u (PIp.of (opI (C := IntMulOk) fun _ _ _ _ _ _ _ hc q => imul_int q hc)) hf) ⟨x, e1, h G0 H0 F H σ S _ fun v F' H' e r2 => ?_⟩
  exact ⟨u, w, r_int.mp r, r_int.mp r2, hc, q _ k F' H' _ ((S.ext e).setv (r_int.mpr rfl))⟩
theorem sm_augx_a {i : Nat} {n : Str} {p1 : Pos} {u w : Int} (hN : X.N.Nodup) (hi : X.N[i]? = some n) (hl : Loc X.env.scope n) (hΔ : Δ[i]? = some (Sl.v (.int u))) (h : EV X Δ false e (.int w)) (hc : IntMulOk u w) (k : C (.nx (Δ.set i (.v (.int (u * w)))))) (hf : Rl (X.fn n = true ∨ X.env.scope.names.lookup n = some .local)) : Sm X (.AugAssign (.Name n p1) .Mult e pos) Δ C := sm_augx hN hi hl hΔ h hc k hf.ok
/-- x.append(e) -/
theorem sm_append {i : Nat} {n : Str} {p1 p2 p3 : Pos} {qq : Option Addr} (hN : X.N[i]? = some n) (hΔ : Δ[i]? = some (Sl.w qq (T.l ds))) (h : EV X Δ true e d) (hl : ds.length < sizeLine) (k : C (.nx (Δ.set i (.w qq (T.l (ds ++ [d])))))) (hv : Vis X.env.scope n := by first | exact Or.inl rfl | exact Or.inr (Or.inl rfl) | exact Or.inr (Or.inr rfl))
    (hd : (n == ("__debug__" : Str)) = false := by decide) (hcd : (n == ("__classdict__" : Str)) = false := by decide)
    (hb : attributeBase (.Name n p1) "append" X.env (eval (.Name n p1) X.env) = eval (.Name n p1) X.env := by rfl) (hlin : (p2.endLine == p3.line) = true := by rfl)
    (hst : starEach [e] X.env = (false, eval e X.env) :: starEach [] X.env := by rfl) (hpl : (backTo p3 (starEach ([] : List Expr) X.env)).any (·.1) = false := by rfl) (hfew : ((((backTo p3 (starEach [e] X.env)).all fun x => !x.fst) && (backToKw p3 (keywordEach [] X.env)).all fun x => x.fst.isSome) && decide (([e].length + ([] : List Keyword).length + if ([] : List Keyword).isEmpty = true then 0 else 1) < 30)) = true := by rfl) (hs : swapsWith (.Call (.Attribute (.Name n p1) "append" p2) [e] [] p3) none pos.line X.env = pure false := by rfl) :
    Sm X (.Expr (.Call (.Attribute (.Name n p1) "append" p2) [e] [] p3) pos) Δ C := by
  intro G0 H0 F H σ S D q
  obtain ⟨p, vs, e1, e2, e3, e4, e5⟩ := S.own i ds hΔ
  refine sU1 (ps_expr (pe_bm (hbase := hb) (hfew := hfew) (hline := hlin) (hs := hst) (hplain := hpl) PySem.F.plainAttrs_list PySem.F.slot_list_append PySem.F.type_list_append mt_append (pe_var hN hv hd hcd) (pa_cons pe_u pa_nil hst)) hs) ?_
  refine ⟨.ref p, e1, .inl ⟨rfl, _, SqL.of e2⟩, h G0 H0 F H σ S _ fun v F' H' x r => ?_⟩
  have S' := S.ext x
  refine ⟨p, vs, v, rfl, rfl, x.h.k _ _ e2 (fun _ z => nomatch z), by rw [e5.length]; exact hl, ?_⟩
  exact q _ k F' _ σ (S'.chg hΔ e1 ((RL.mono x.f _ _ e5).append (RL.cons r RL.nil)))
theorem sm_append_a {i : Nat} {n : Str} {p1 p2 p3 : Pos} {qq : Option Addr} (hN : X.N[i]? = some n) (hΔ : Δ[i]? = some (Sl.w qq (T.l ds))) (h : EV X Δ true e d) (hl : ds.length < sizeLine) (k : C (.nx (Δ.set i (.w qq (T.l (ds ++ [d])))))) (hv : Rv (Vis X.env.scope n)) (hd : Rd ((n == ("__debug__" : Str)) = false)) (hcd : Rd ((n == ("__classdict__" : Str)) = false)) (hb : Rf (attributeBase (.Name n p1) "append" X.env (eval (.Name n p1) X.env) = eval (.Name n p1) X.env)) (hlin : Rf ((p2.endLine == p3.line) = true)) (hst : Rf (starEach [e] X.env = (false, eval e X.env) :: starEach [] X.env)) (hpl : Rf ((backTo p3 (starEach ([] : List Expr) X.env)).any (·.1) = false)) (hfew : Rf (((((backTo p3 (starEach [e] X.env)).all fun x => !x.fst) && (backToKw p3 (keywordEach [] X.env)).all fun x => x.fst.isSome) && decide (([e].length + ([] : List Keyword).length + if ([] : List Keyword).isEmpty = true then 0 else 1) < 30)) = true)) (hs : Rf (swapsWith (.Call (.Attribute (.Name n p1) "append" p2) [e] [] p3) none pos.line X.env = pure false)) : Sm X (.Expr (.Call (.Attribute (.Name n p1) "append" p2) [e] [] p3) pos) Δ C := sm_append hN hΔ h hl k hv.ok hd.ok hcd.ok hb.ok hlin.ok hst.ok hpl.ok hfew.ok hs.ok
/-- x[j] = e -/
theorem sm_seti {i j : Nat} {n : Str} {p1 p2 : Pos} {z : Int} {qq : Option Addr} (hN : X.N[i]? = some n) (hΔ : Δ[i]? = some (Sl.w qq (T.l ds))) (h : EV X Δ true e d) (hj : EV X Δ false a (.int z)) (hz : ixN ds.length z = some j) (k : C (.nx (Δ.set i (.w qq (T.l (ds.set j d)))))) (hv : Vis X.env.scope n := by first | exact Or.inl rfl | exact Or.inr (Or.inl rfl) | exact Or.inr (Or.inr rfl))
    (hd : (n == ("__debug__" : Str)) = false := by decide) (hcd : (n == ("__classdict__" : Str)) = false := by decide)
    (hs : swapsWithSole [.Subscript (.Name n p1) a p2] e pos.line X.env = pure false := by rfl) (hw : swappedStores [.Subscript (.Name n p1) a p2] e X.env = pure none := by rfl)
    (h1 : (assignEach [.Subscript (.Name n p1) a p2] X.env).map (·.2) = [assign (.Subscript (.Name n p1) a p2) X.env] := by rfl)
    (ha : ∀ v, assign (.Subscript (.Name n p1) a p2) X.env v = (do
      let ov ← holding [v] (eval (.Name n p1) X.env)
      let iv ← holding [v, ov] (eval a X.env)
      standAt p2
      holding [v, ov, iv] (setItem ov iv v)
      release [v, ov, iv] []) := by intro _; rfl) : Sm X (.Assign [.Subscript (.Name n p1) a p2] e pos) Δ C := by
  intro G0 H0 F H σ S D q
  refine sU1 (ps_asg pe_u (pg_sub (pe_var hN hv hd hcd) pe_u set_list ha) hs hw h1) ?_
  refine h G0 H0 F H σ S _ fun v F1 H1 x1 r1 => ?_
  have S1 := S.ext x1
  obtain ⟨p, vs, e1, e2, e3, e4, e5⟩ := S1.own i ds hΔ
  refine ⟨.ref p, e1, hj G0 H0 F1 H1 σ S1 _ fun w F2 H2 x2 r2 => ?_⟩
  have S2 := S1.ext x2
  refine ⟨p, vs, z, j, rfl, r_int.mp r2, x2.h.k _ _ e2 (fun _ z => nomatch z), by rw [e5.length]; exact hz, ?_⟩
  exact q _ k F2 _ σ (S2.chg hΔ e1 (RL.set j (RL.mono x2.f _ _ e5) (r1.mono x2.f)))
theorem sm_seti_a {i j : Nat} {n : Str} {p1 p2 : Pos} {z : Int} {qq : Option Addr} (hN : X.N[i]? = some n) (hΔ : Δ[i]? = some (Sl.w qq (T.l ds))) (h : EV X Δ true e d) (hj : EV X Δ false a (.int z)) (hz : ixN ds.length z = some j) (k : C (.nx (Δ.set i (.w qq (T.l (ds.set j d)))))) (hv : Rv (Vis X.env.scope n)) (hd : Rd ((n == ("__debug__" : Str)) = false)) (hcd : Rd ((n == ("__classdict__" : Str)) = false)) (hs : Rf (swapsWithSole [.Subscript (.Name n p1) a p2] e pos.line X.env = pure false)) (hw : Rf (swappedStores [.Subscript (.Name n p1) a p2] e X.env = pure none)) (h1 : Rf ((assignEach [.Subscript (.Name n p1) a p2] X.env).map (·.2) = [assign (.Subscript (.Name n p1) a p2) X.env])) (ha : Ri (∀ v, assign (.Subscript (.Name n p1) a p2) X.env v = (do
      let ov ← holding [v] (eval (.Name n p1) X.env)
      let iv ← holding [v, ov] (eval a X.env)
      standAt p2
      holding [v, ov, iv] (setItem ov iv v)
      release [v, ov, iv] []))) : Sm X (.Assign [.Subscript (.Name n p1) a p2] e pos) Δ C := sm_seti hN hΔ h hj hz k hv.ok hd.ok hcd.ok hs.ok hw.ok h1.ok ha.ok
theorem sm_if {c : Expr} {t u : List Stmt} {bb : Bool} (h : TV X Δ c bb) (k1 : bb = true → Bk X t Δ C) (k2 : bb = false → Bk X u Δ C) : Sm X (.If c t u pos) Δ C := by
  intro G0 H0 F H σ S D q
  refine sU1 (ps_if pt_u pss_u pss_u) (h G0 H0 F H σ S _ fun F' H' e => ?_)
  cases bb with
  | true => rw [if_pos rfl]; exact k1 rfl G0 H0 F' H' σ (S.ext e) D q
  | false => rw [if_neg Bool.false_ne_true]; exact k2 rfl G0 H0 F' H' σ (S.ext e) D q
theorem sm_ifs {c : Expr} {t u : List Stmt} {C2 : Bool → List Sl → Prop} (h : TS X Δ c C2) (k1 : ∀ Δ', C2 true Δ' → Bk X t Δ' C) (k2 : ∀ Δ', C2 false Δ' → Bk X u Δ' C) : Sm X (.If c t u pos) Δ C := by
  intro G0 H0 F H σ S D q
  refine sU1 (ps_if pt_u pss_u pss_u) (h G0 H0 F H σ S _ fun bb Δ' F' H' c S' => ?_)
  cases bb with
  | true => rw [if_pos rfl]; exact k1 _ c G0 H0 F' H' σ S' D q
  | false => rw [if_neg Bool.false_ne_true]; exact k2 _ c G0 H0 F' H' σ S' D q
theorem ts_not {C2 : Bool → List Sl → Prop} (h : TS X Δ a (fun b Δ' => C2 (!b) Δ')) : TS X Δ (.UnaryOp .Not a pos) C2 := fun G0 H0 F H σ S Q q => tU (pt_not pt_u) (h G0 H0 F H σ S _ fun b Δ' F' H' c S' => q _ Δ' F' H' c S')
/-- a and b, b may change lists of one's own -/
theorem ts_and {C2 : Bool → List Sl → Prop} {t : Bool} (h : TV X Δ a t) (k1 : t = false → C2 false Δ) (k2 : t = true → TS X Δ b C2) : TS X Δ (.BoolOp .And [a, b] pos) C2 := by
  intro G0 H0 F H σ S Q q
  refine tU (PW.pt (pw_and pt_u (pw_and1 pt_u))) (h G0 H0 F H σ S _ fun F' H' e => ?_)
  cases t with
  | true => rw [if_pos rfl]; exact k2 rfl G0 H0 F' H' σ (S.ext e) Q q
  | false => rw [if_neg Bool.false_ne_true]; exact q false Δ F' H' (k1 rfl) (S.ext e)

/-! targets -/
structure uG (X : Cx) (tg : Expr) (v : V) (σ : L2.St) (H : Hp) (Q : L2.St → Hp → Prop) : Prop where
  run : ∀ (pins : List (Addr × Obj)) (s : Shared) (u : Value), Inv X pins σ H s → RelV v u →
    wpAny (model X.prog X.w) X.A (assign tg X.env u) (fun _ s' => ∃ σ' H', Inv X pins σ' H' s' ∧ Q σ' H') X.xe s
theorem pg_u {tg : Expr} : PG X tg (uG X tg) := ⟨fun pins s σ H v u Q I r h => h.run pins s u I r⟩
theorem gU {tg : Expr} {t : TG} (h : PG X tg t) {v : V} {σ : L2.St} {H : Hp} {Q : L2.St → Hp → Prop} (q : t v σ H Q) : uG X tg v σ H Q := ⟨fun pins s u I r => h.run pins s σ H v u Q I r q⟩
/-- the slots but those at is stay -/
def Off (is : List Nat) (σ σ' : L2.St) : Prop := σ'.length = σ.length ∧ ∀ j : Nat, j ∉ is → σ'[j]? = σ[j]?
theorem Off.rf (is : List Nat) (σ : L2.St) : Off is σ σ := ⟨rfl, fun _ _ => rfl⟩
theorem Off.set (i : Nat) (σ : L2.St) (x : Option V) : Off [i] σ (σ.set i x) := ⟨List.length_set, fun j h => List.getElem?_set_ne (fun e => h (by rw [e]; exact List.mem_cons_self))⟩
theorem Off.tr {is js : List Nat} {σ σ1 σ2 : L2.St} (a : Off is σ σ1) (b : Off js σ1 σ2) : Off (is ++ js) σ σ2 := ⟨b.1.trans a.1, fun j h => (b.2 j fun z => h (List.mem_append_right _ z)).trans (a.2 j fun z => h (List.mem_append_left _ z))⟩
def GV (X : Cx) (is : List Nat) (tg : Expr) (d : D) (Δ Δ' : List Sl) : Prop :=
  ∀ (G0 H0 F H : Hp) (σ : L2.St) (v : V), Stt X.K G0 H0 F H σ Δ → R X.K F d v → ∀ Q : L2.St → Hp → Prop, (∀ σ', Off is σ σ' → Stt X.K G0 H0 F H σ' Δ' → Q σ' H) → uG X tg v σ H Q
def GVs (X : Cx) (is : List Nat) (ts : List Expr) (ds : List D) (Δ Δ' : List Sl) : Prop :=
  ∀ (G0 H0 F H : Hp) (σ : L2.St) (vs : List V), Stt X.K G0 H0 F H σ Δ → RL X.K F ds vs → ∃ t : TGs, PGs X ts t ∧ ∀ Q : L2.St → Hp → Prop, (∀ σ', Off is σ σ' → Stt X.K G0 H0 F H σ' Δ' → Q σ' H) → t vs σ H Q
theorem gv_name {i : Nat} {n : Str} (hN : X.N.Nodup) (hi : X.N[i]? = some n) (hl : Loc X.env.scope n) (hf : X.fn n = true ∨ X.env.scope.names.lookup n = some .local := by first | exact .inl rfl | exact .inr rfl) : GV X [i] (.Name n pos) d Δ (Δ.set i (.v d)) :=
  fun G0 H0 F H σ v S r Q q => gU (pg_name hN hi hl hf) (q _ (Off.set _ _ _) (S.setv r))
theorem gv_name_a {i : Nat} {n : Str} (hN : X.N.Nodup) (hi : X.N[i]? = some n) (hl : Loc X.env.scope n) (hf : Rl (X.fn n = true ∨ X.env.scope.names.lookup n = some .local)) : GV X [i] (.Name n pos) d Δ (Δ.set i (.v d)) := gv_name hN hi hl hf.ok
theorem gvs_nil : GVs X [] [] [] Δ Δ := fun G0 H0 F H σ vs S r => ⟨_, pgs_nil, fun Q q => ⟨rl_nil.mp r, q σ (Off.rf _ _) S⟩⟩
theorem gvs_cons {is js : List Nat} {tg : Expr} {ts : List Expr} {Δ1 Δ2 : List Sl} (h : GV X is tg d Δ Δ1) (k : GVs X js ts ds Δ1 Δ2) (hs : (assignEach (tg :: ts) X.env).map (·.2) = assign tg X.env :: (assignEach ts X.env).map (·.2) := by rfl) : GVs X (is ++ js) (tg :: ts) (d :: ds) Δ Δ2 := by
  intro G0 H0 F H σ vs S r
  obtain ⟨v, vs', rfl, r1, r2⟩ := rl_cons.mp r
  refine ⟨_, pgs_cons pg_u (t := uG X tg) (u := fun vs σ H Q => ∃ t, PGs X ts t ∧ t vs σ H Q) ⟨fun pins s σ H vs us Q I rr h => ?_⟩ hs, fun Q q => ⟨v, vs', rfl, h G0 H0 F H σ v S r1 _ fun σ1 o1 S1 => ?_⟩⟩
  · obtain ⟨t, p, h⟩ := h
    exact p.run pins s σ H vs us Q I rr h
  · obtain ⟨t, p, g⟩ := k G0 H0 F H σ1 vs' S1 r2
    exact ⟨t, p, g Q fun σ2 o2 S2 => q σ2 (o1.tr o2) S2⟩
theorem gvs_cons_a {is js : List Nat} {tg : Expr} {ts : List Expr} {Δ1 Δ2 : List Sl} (h : GV X is tg d Δ Δ1) (k : GVs X js ts ds Δ1 Δ2) (hs : Rf ((assignEach (tg :: ts) X.env).map (·.2) = assign tg X.env :: (assignEach ts X.env).map (·.2))) : GVs X (is ++ js) (tg :: ts) (d :: ds) Δ Δ2 := gvs_cons h k hs.ok
theorem gv_tup {is : List Nat} {ts : List Expr} {kk : Nat} {Δ' : List Sl} (h : GVs X is ts ds Δ Δ') (hc : X.calm = true := by rfl) (hl : (assignEach ts X.env).length = ds.length := by rfl) (hst : (assignEach ts X.env).findIdx? (·.1) = none := by rfl) : GV X is (.Tuple ts kk pos) (.tup ds) Δ Δ' := by
  intro G0 H0 F H σ v S r Q q
  obtain ⟨p, vs, rfl, g, rl⟩ := r_tup.mp r
  obtain ⟨t, pg, k⟩ := h G0 H0 F H σ vs S rl
  exact gU (pg_tup hc pg hl hst) ⟨p, vs, rfl, SqT.of (S.fh _ _ g), rl.length, k Q q⟩
theorem gv_tup_a {is : List Nat} {ts : List Expr} {kk : Nat} {Δ' : List Sl} (h : GVs X is ts ds Δ Δ') (hc : Rf (X.calm = true)) (hl : Rf ((assignEach ts X.env).length = ds.length)) (hst : Rf ((assignEach ts X.env).findIdx? (·.1) = none)) : GV X is (.Tuple ts kk pos) (.tup ds) Δ Δ' := gv_tup h hc.ok hl.ok hst.ok
theorem gv_lst {is : List Nat} {ts : List Expr} {kk : Nat} {Δ' : List Sl} (h : GVs X is ts ds Δ Δ') (hc : X.calm = true := by rfl) (hl : (assignEach ts X.env).length = ds.length := by rfl) (hst : (assignEach ts X.env).findIdx? (·.1) = none := by rfl) : GV X is (.Tuple ts kk pos) (.lst ds) Δ Δ' := by
  intro G0 H0 F H σ v S r Q q
  obtain ⟨p, vs, rfl, g, rl⟩ := r_lst.mp r
  obtain ⟨t, pg, k⟩ := h G0 H0 F H σ vs S rl
  exact gU (pg_lst hc pg hl hst) ⟨p, vs, rfl, SqL.of (S.fh _ _ g), rl.length, k Q q⟩
theorem gv_lst_a {is : List Nat} {ts : List Expr} {kk : Nat} {Δ' : List Sl} (h : GVs X is ts ds Δ Δ') (hc : Rf (X.calm = true)) (hl : Rf ((assignEach ts X.env).length = ds.length)) (hst : Rf ((assignEach ts X.env).findIdx? (·.1) = none)) : GV X is (.Tuple ts kk pos) (.lst ds) Δ Δ' := gv_lst h hc.ok hl.ok hst.ok
/-- target = e, any target -/
theorem sm_asg {is : List Nat} {tg : Expr} {Δ' : List Sl} (h : EV X Δ true e d) (g : GV X is tg d Δ Δ') (k : C (.nx Δ')) (hs : swapsWithSole [tg] e pos.line X.env = pure false := by rfl) (hw : swappedStores [tg] e X.env = pure none := by rfl)
    (h1 : (assignEach [tg] X.env).map (·.2) = [assign tg X.env] := by rfl) : Sm X (.Assign [tg] e pos) Δ C := fun G0 H0 F H σ S D q =>
  sU1 (ps_asg pe_u pg_u hs hw h1) (h G0 H0 F H σ S _ fun v F' H' e r => g G0 H0 F' H' σ v (S.ext e) r _ fun σ' _ S' => q _ k F' H' σ' S')

theorem sm_asg_a {is : List Nat} {tg : Expr} {Δ' : List Sl} (h : EV X Δ true e d) (g : GV X is tg d Δ Δ') (k : C (.nx Δ')) (hs : Rf (swapsWithSole [tg] e pos.line X.env = pure false)) (hw : Rf (swappedStores [tg] e X.env = pure none)) (h1 : Rf ((assignEach [tg] X.env).map (·.2) = [assign tg X.env])) : Sm X (.Assign [tg] e pos) Δ C := sm_asg h g k hs.ok hw.ok h1.ok
/-! what is walked -/
/-- n turns over items ds, from (F, H) on -/
structure Wk (K : PySem.W.Frag) (F : Hp) (J : It) (ds : List D) : Prop where
  go : ∀ (i : Nat) H, i < ds.length → Sub F H → J.go i H
  stop : ∀ H, Sub F H → J.stop ds.length H
  yld : ∀ (i : Nat) (d : D) H x H' F2, ds[i]? = some d → Sub F F2 → Sub F2 H → J.yld i H x H' → ∃ F3, Ext F2 H F3 H' ∧ R K F3 d x
structure uI (X : Cx) (tg iter : Expr) (σ : L2.St) (H : Hp) (R' : It → Hp → Prop) : Prop where
  run : ∀ (pins : List (Addr × Obj)) (s : Shared), Inv X pins σ H s →
    wpAny (model X.prog X.w) X.A (eval iter X.env) (fun v s1 => wpAny (model X.prog X.w) X.A (pyIter v) (PIE X pins σ tg R') X.xe s1) X.xe s
theorem pi_u {tg iter : Expr} : PI X tg iter (uI X tg iter) := ⟨fun pins s σ H R' I h => h.run pins s I⟩
theorem iU {tg iter : Expr} {t : TI} (h : PI X tg iter t) {σ : L2.St} {H : Hp} {R' : It → Hp → Prop} (q : t σ H R') : uI X tg iter σ H R' := ⟨fun pins s I => h.run pins s σ H R' I q⟩
def IT (X : Cx) (Δ : List Sl) (tg iter : Expr) (ds : List D) : Prop :=
  ∀ (G0 H0 F H : Hp) (σ : L2.St), Stt X.K G0 H0 F H σ Δ → ∀ R' : It → Hp → Prop, (∀ J F' H', Ext F H F' H' → Wk X.K F' J ds → R' J H') → uI X tg iter σ H R'
theorem it_list {tg : Expr} (h : EV X Δ true e (.lst ds)) : IT X Δ tg e ds := by
  intro G0 H0 F H σ S R' q
  refine iU (pi_list pe_u) (h G0 H0 F H σ S _ fun v F' H' x r => ?_)
  obtain ⟨p, vs, rfl, g, l⟩ := r_lst.mp r
  have g' : F' p = some (.lst vs) := g
  refine ⟨p, rfl, ⟨vs, SqL.of (x.fh _ _ g')⟩, q _ F' H' x ⟨fun i H2 hi s => ?_, fun H2 s => ?_, fun i d H2 y H3 F2 hd s1 s2 yl => ?_⟩⟩
  · have hi' : i < vs.length := by rw [l.length]; exact hi
    exact ⟨vs, vs[i], SqL.of (s _ _ g'), by simp [hi']⟩
  · exact ⟨vs, SqL.of (s _ _ g'), by rw [l.length]; exact Nat.le_refl _⟩
  · obtain ⟨rfl, yl⟩ := yl
    obtain ⟨w, e1, e2⟩ := l.get hd
    have e3 := yl vs (SqL.of (s2 _ _ (s1 _ _ g')))
    rw [e1] at e3; cases e3
    exact ⟨F2, Ext.rf s2, R.mono (show Sub F' F2 from s1) _ _ e2⟩
theorem it_tup {tg : Expr} (h : EV X Δ true e (.tup ds)) : IT X Δ tg e ds := by
  intro G0 H0 F H σ S R' q
  refine iU (pi_tup pe_u) (h G0 H0 F H σ S _ fun v F' H' x r => ?_)
  obtain ⟨p, vs, rfl, g, l⟩ := r_tup.mp r
  have g' : F' p = some (.tup vs) := g
  refine ⟨p, rfl, ⟨vs, SqT.of (x.fh _ _ g')⟩, q _ F' H' x ⟨fun i H2 hi s => ?_, fun H2 s => ?_, fun i d H2 y H3 F2 hd s1 s2 yl => ?_⟩⟩
  · have hi' : i < vs.length := by rw [l.length]; exact hi
    exact ⟨vs, vs[i], SqT.of (s _ _ g'), by simp [hi']⟩
  · exact ⟨vs, SqT.of (s _ _ g'), by rw [l.length]; exact Nat.le_refl _⟩
  · obtain ⟨rfl, yl⟩ := yl
    obtain ⟨w, e1, e2⟩ := l.get hd
    have e3 := yl vs (SqT.of (s2 _ _ (s1 _ _ g')))
    rw [e1] at e3; cases e3
    exact ⟨F2, Ext.rf s2, R.mono (show Sub F' F2 from s1) _ _ e2⟩
theorem it_scr {tg : Expr} {ns : List Int} (h : EV X Δ true e (.scr ns)) : IT X Δ tg e (ns.map D.int) := by
  intro G0 H0 F H σ S R' q
  refine iU (pi_list pe_u) (h G0 H0 F H σ S _ fun v F' H' x r => ?_)
  obtain ⟨p, rfl, g⟩ := r_scr.mp r
  have g' : SqL X.K F' p (ns.map V.int) := g
  refine ⟨p, rfl, ⟨_, Same.seq x.fh g'⟩, q _ F' H' x ⟨fun i H2 hi s => ?_, fun H2 s => ?_, fun i d H2 y H3 F2 hd s1 s2 yl => ?_⟩⟩
  · have hi' : i < (ns.map V.int).length := by rw [List.length_map] at hi ⊢; exact hi
    exact ⟨_, (ns.map V.int)[i], Same.seq s g', List.getElem?_eq_getElem hi'⟩
  · exact ⟨_, Same.seq s g', by rw [List.length_map, List.length_map]; exact Nat.le_refl _⟩
  · obtain ⟨rfl, yl⟩ := yl
    have e3 := yl _ (Same.seq (s1.tr s2) g')
    rw [List.getElem?_map] at hd e3
    cases z : ns[i]? with
    | none => rw [z] at hd; cases hd
    | some w =>
      rw [z] at hd e3
      cases hd; cases e3
      exact ⟨F2, Ext.rf s2, r_int.mpr rfl⟩
def rngD (lo : Int) (n : Nat) : List D := (List.range n).map fun i => D.int (lo + (i : Nat))
theorem rngD_get {lo : Int} {n i : Nat} {d : D} (h : (rngD lo n)[i]? = some d) : i < n ∧ d = .int (lo + (i : Nat)) := by
  unfold rngD at h
  rw [List.getElem?_map] at h
  by_cases hi : i < n
  · rw [List.getElem?_range hi] at h; cases h; exact ⟨hi, rfl⟩
  · rw [List.getElem?_eq_none (by rw [List.length_range]; omega)] at h; cases h
theorem rngD_len (lo : Int) (n : Nat) : (rngD lo n).length = n := by simp [rngD]
theorem wk_rng {K : PySem.W.Frag} {F : Hp} (lo : Int) (n : Nat) : Wk K F (Itr lo n) (rngD lo n) := by
  refine ⟨fun i H2 hi s => by rw [rngD_len] at hi; exact hi, fun H2 s => by rw [rngD_len]; exact Nat.le_refl _, fun i d H2 y H3 F2 hd s1 s2 yl => ?_⟩
  obtain ⟨rfl, rfl⟩ := yl
  obtain ⟨_, rfl⟩ := rngD_get hd
  exact ⟨F2, Ext.rf s2, r_int.mpr rfl⟩
theorem it_range1 {tg : Expr} {p : Pos} {n : Int} (hg : Gl X "range") (hm : X.mg "range" = none) (h : EV X Δ false a (.int n)) (h1 : -(2 ^ 62) ≤ n) (h2 : n < 2 ^ 62) (hs : starEach [a] X.env = [(false, eval a X.env)] := by rfl) : IT X Δ tg (.Call (.Name "range" p) [a] [] pos) (rngD 0 n.toNat) := by
  intro G0 H0 F H σ S R' q
  refine iU (pi_range1 hg hm (pa_cons pe_u pa_nil hs) hs) (h G0 H0 F H σ S _ fun v F' H' x r => ?_)
  exact ⟨n, by rw [r_int.mp r], h1, h2, q _ F' H' x (wk_rng 0 _)⟩
theorem it_range1_a {tg : Expr} {p : Pos} {n : Int} (hg : Gl X "range") (hm : X.mg "range" = none) (h : EV X Δ false a (.int n)) (h1 : -(2 ^ 62) ≤ n) (h2 : n < 2 ^ 62) (hs : Rf (starEach [a] X.env = [(false, eval a X.env)])) : IT X Δ tg (.Call (.Name "range" p) [a] [] pos) (rngD 0 n.toNat) := it_range1 hg hm h h1 h2 hs.ok
theorem it_range2 {tg : Expr} {p : Pos} {n k : Int} (hg : Gl X "range") (hm : X.mg "range" = none) (h : EV X Δ false a (.int n)) (h' : EV X Δ false b (.int k)) (h1 : -(2 ^ 62) ≤ n) (h2 : n < 2 ^ 62) (h3 : -(2 ^ 62) ≤ k) (h4 : k < 2 ^ 62)
    (hs : starEach [a, b] X.env = [(false, eval a X.env), (false, eval b X.env)] := by rfl) (hs2 : starEach [b] X.env = [(false, eval b X.env)] := by rfl) : IT X Δ tg (.Call (.Name "range" p) [a, b] [] pos) (rngD n (k - n).toNat) := by
  intro G0 H0 F H σ S R' q
  refine iU (pi_range2 hg hm (pa_cons pe_u (pa_cons pe_u pa_nil hs2) (by rw [hs, hs2])) hs hs2) (two h h' S fun v w F' H' x r1 r2 => ?_)
  exact ⟨n, k, by rw [r_int.mp r1, r_int.mp r2], ⟨h1, h2, h3, h4⟩, q _ F' H' x (wk_rng n _)⟩
theorem it_range2_a {tg : Expr} {p : Pos} {n k : Int} (hg : Gl X "range") (hm : X.mg "range" = none) (h : EV X Δ false a (.int n)) (h' : EV X Δ false b (.int k)) (h1 : -(2 ^ 62) ≤ n) (h2 : n < 2 ^ 62) (h3 : -(2 ^ 62) ≤ k) (h4 : k < 2 ^ 62) (hs : Rf (starEach [a, b] X.env = [(false, eval a X.env), (false, eval b X.env)])) (hs2 : Rf (starEach [b] X.env = [(false, eval b X.env)])) : IT X Δ tg (.Call (.Name "range" p) [a, b] [] pos) (rngD n (k - n).toNat) := it_range2 hg hm h h' h1 h2 h3 h4 hs.ok hs2.ok
theorem wk_pair {K : PySem.W.Frag} {F F2 H H' : Hp} {v : V} {T : Addr} {x y : V} {d1 d2 : D} (s2 : Sub F2 H) (hT : H T = none) (e : H' = upd H T (.tup [x, y])) (ev : v = .ref T) (r1 : R K F2 d1 x) (r2 : R K F2 d2 y) : ∃ F3, Ext F2 H F3 H' ∧ R K F3 (.tup [d1, d2]) v := by
  subst e ev
  refine ⟨upd F2 T (.tup [x, y]), Ext.put s2 hT, r_tup.mpr ⟨T, _, rfl, upd_same, ?_⟩⟩
  have sb : Sub F2 (upd F2 T (.tup [x, y])) := Sub.new (s2.none hT)
  exact RL.cons (r1.mono sb) (RL.cons (r2.mono sb) RL.nil)
def enumD (ds : List D) : List D := ds.zipIdx.map fun p => D.tup [.int (p.2 : Nat), p.1]
theorem enumD_len (ds : List D) : (enumD ds).length = ds.length := by simp [enumD]
theorem enumD_get {ds : List D} {i : Nat} {d : D} (h : (enumD ds)[i]? = some d) : ∃ d', ds[i]? = some d' ∧ d = .tup [.int (i : Nat), d'] := by
  unfold enumD at h
  rw [List.getElem?_map, List.getElem?_zipIdx] at h
  cases z : ds[i]? with
  | none => rw [z] at h; cases h
  | some w => rw [z] at h; simp at h; exact ⟨w, rfl, h.symm⟩
theorem it_enum {elts : List Expr} {kk : Nat} {tpos p : Pos} (hg : Gl X "enumerate") (hm : X.mg "enumerate" = none) (h : EV X Δ true a (.lst ds)) (hs : starEach [a] X.env = [(false, eval a X.env)] := by rfl) : IT X Δ (.Tuple elts kk tpos) (.Call (.Name "enumerate" p) [a] [] pos) (enumD ds) := by
  intro G0 H0 F H σ S R' q
  refine iU (pi_enum hg hm (pa_cons pe_u pa_nil hs) hs) (h G0 H0 F H σ S _ fun v F' H' x r => ?_)
  obtain ⟨ad, vs, rfl, g, l⟩ := r_lst.mp r
  have g' : F' ad = some (.lst vs) := g
  have W := walk_enum (K := X.K) (a := ad) (xs := vs)
  refine ⟨ad, vs, rfl, SqL.of (x.fh _ _ g'), q _ F' H' x ⟨fun i H2 hi s => ?_, fun H2 s => ?_, fun i d H2 y H3 F2 hd s1 s2 yl => ?_⟩⟩
  · exact W.goes i H2 (by rw [enumD_len] at hi; rw [l.length]; exact hi) (SqL.of (s _ _ g'))
  · have := W.stops H2 (SqL.of (s _ _ g'))
    rw [enumD_len, ← l.length]; exact this
  · obtain ⟨d', e1, rfl⟩ := enumD_get hd
    have hi : i < vs.length := by rw [l.length]; exact (List.getElem?_eq_some_iff.mp e1).1
    obtain ⟨T, x1, y1, ev, hT, eH, f1, f2⟩ := W.yields i H2 y H3 hi (SqL.of (s2 _ _ (s1 _ _ g'))) yl
    cases f1
    obtain ⟨w, g1, g2⟩ := l.get e1
    have f2 : vs[i]? = some y1 := f2
    rw [g1] at f2; cases f2
    exact wk_pair (F := F') s2 hT eH ev (r_int.mpr rfl) (R.mono (show Sub F' F2 from s1) _ _ g2)
theorem it_enum_a {elts : List Expr} {kk : Nat} {tpos p : Pos} (hg : Gl X "enumerate") (hm : X.mg "enumerate" = none) (h : EV X Δ true a (.lst ds)) (hs : Rf (starEach [a] X.env = [(false, eval a X.env)])) : IT X Δ (.Tuple elts kk tpos) (.Call (.Name "enumerate" p) [a] [] pos) (enumD ds) := it_enum hg hm h hs.ok
def zipD (ds es : List D) : List D := (ds.zip es).map fun p => D.tup [p.1, p.2]
theorem zipD_len (ds es : List D) : (zipD ds es).length = min ds.length es.length := by simp [zipD]
theorem zipD_get {ds es : List D} {i : Nat} {d : D} (h : (zipD ds es)[i]? = some d) : ∃ d1 d2, ds[i]? = some d1 ∧ es[i]? = some d2 ∧ d = .tup [d1, d2] := by
  unfold zipD at h
  rw [List.getElem?_map] at h
  cases z : (ds.zip es)[i]? with
  | none => rw [z] at h; cases h
  | some w =>
    rw [z] at h; simp at h
    rw [List.getElem?_zip_eq_some] at z
    exact ⟨w.1, w.2, z.1, z.2, h.symm⟩
theorem it_zip {elts : List Expr} {kk : Nat} {tpos p : Pos} {es : List D} (hg : Gl X "zip") (hm : X.mg "zip" = none) (h : EV X Δ true a (.lst ds)) (h' : EV X Δ true b (.lst es)) (hs : starEach [a, b] X.env = (false, eval a X.env) :: starEach [b] X.env := by rfl) (hs2 : starEach [b] X.env = [(false, eval b X.env)] := by rfl) (hpl : (backTo pos (starEach [b] X.env)).any (·.1) = false := by rfl) : IT X Δ (.Tuple elts kk tpos) (.Call (.Name "zip" p) [a, b] [] pos) (zipD ds es) := by
  intro G0 H0 F H σ S R' q
  refine iU (pi_zip hg hm (pa_cons pe_u (pa_cons pe_u pa_nil hs2) hs) hs hpl) (two h h' S fun v w F' H' x r1 r2 => ?_)
  obtain ⟨a1, vs, rfl, g, l⟩ := r_lst.mp r1
  obtain ⟨a2, ws, rfl, g2, l2⟩ := r_lst.mp r2
  have g' : F' a1 = some (.lst vs) := g
  have g2' : F' a2 = some (.lst ws) := g2
  have W := walk_zip (K := X.K) (a := a1) (b := a2) (xs := vs) (ys := ws) rfl
  have en : min vs.length ws.length = (zipD ds es).length := by rw [zipD_len, l.length, l2.length]
  refine ⟨a1, a2, vs, ws, rfl, SqL.of (x.fh _ _ g'), SqL.of (x.fh _ _ g2'), q _ F' H' x ⟨fun i H2 hi s => ?_, fun H2 s => ?_, fun i d H2 y H3 F2 hd s1 s2 yl => ?_⟩⟩
  · exact W.goes i H2 (by rw [en]; exact hi) ⟨SqL.of (s _ _ g'), SqL.of (s _ _ g2')⟩
  · have := W.stops H2 ⟨SqL.of (s _ _ g'), SqL.of (s _ _ g2')⟩
    rw [← en]; exact this
  · have hi : i < min vs.length ws.length := by rw [en]; exact (List.getElem?_eq_some_iff.mp hd).1
    obtain ⟨d1, d2, e1, e2, rfl⟩ := zipD_get hd
    obtain ⟨T, x1, y1, ev, hT, eH, f1, f2⟩ := W.yields i H2 y H3 hi ⟨SqL.of (s2 _ _ (s1 _ _ g')), SqL.of (s2 _ _ (s1 _ _ g2'))⟩ yl
    obtain ⟨w1, k1, k2⟩ := l.get e1
    obtain ⟨w2, k3, k4⟩ := l2.get e2
    have f1 : vs[i]? = some x1 := f1
    have f2 : ws[i]? = some y1 := f2
    rw [k1] at f1; cases f1
    rw [k3] at f2; cases f2
    exact wk_pair (F := F') s2 hT eH ev (R.mono (show Sub F' F2 from s1) _ _ k2) (R.mono (show Sub F' F2 from s1) _ _ k4)
theorem it_zip_a {elts : List Expr} {kk : Nat} {tpos p : Pos} {es : List D} (hg : Gl X "zip") (hm : X.mg "zip" = none) (h : EV X Δ true a (.lst ds)) (h' : EV X Δ true b (.lst es)) (hs : Rf (starEach [a, b] X.env = (false, eval a X.env) :: starEach [b] X.env)) (hs2 : Rf (starEach [b] X.env = [(false, eval b X.env)])) (hpl : Rf ((backTo pos (starEach [b] X.env)).any (·.1) = false)) : IT X Δ (.Tuple elts kk tpos) (.Call (.Name "zip" p) [a, b] [] pos) (zipD ds es) := it_zip hg hm h h' hs.ok hs2.ok hpl.ok
/-- a text's signs -/
def sgnD (z : Str) : List D := z.cps.toList.map fun c => D.str ⟨#[c]⟩
theorem it_str {tg : Expr} {z : Str} (h : EV X Δ false e (.str z)) : IT X Δ tg e (sgnD z) := by
  intro G0 H0 F H σ S R' q
  refine iU (pi_str pe_u) (h G0 H0 F H σ S _ fun v F' H' x r => ?_)
  refine ⟨z, r_str.mp r, q _ F' H' x ⟨fun i H2 hi s => by show i < z.cps.size; simpa [sgnD] using hi, fun H2 s => by show z.cps.size ≤ _; simp [sgnD], fun i d H2 y H3 F2 hd s1 s2 yl => ?_⟩⟩
  obtain ⟨rfl, c, e1, rfl⟩ := yl
  unfold sgnD at hd
  rw [List.getElem?_map, Array.getElem?_toList, e1] at hd
  cases hd
  exact ⟨F2, Ext.rf s2, r_str.mpr rfl⟩

/-! loops -/
theorem Stt.back {K : PySem.W.Frag} {G0 H0 F H F1 H1 : Hp} {σ σ1 : L2.St} {Δ Δ1 : List Sl} (S : Stt K G0 H0 F H σ Δ) (T : Stt K F H0 F1 H1 σ1 Δ1) : Stt K G0 H0 F1 H1 σ1 Δ1 :=
  ⟨S.g.tr T.g, T.fh, T.h0, fun a o e => (T.fr a o e).elim (S.fr a o) .inr, T.nt, T.tb, T.len, T.sl⟩
theorem OutOk.fwd {X : Cx} {G0 H0 F H : Hp} {σ : L2.St} {Δ : List Sl} {D : Ends} (S : Stt X.K G0 H0 F H σ Δ) {o : Out} (h : OutOk X G0 H0 D o) : OutOk X F H0 D o := by
  cases o with
  | nx Δ' => exact fun F1 H1 σ1 T => h F1 H1 σ1 (S.back T)
  | bk Δ' => exact fun F1 H1 σ1 T => h F1 H1 σ1 (S.back T)
  | ct Δ' => exact fun F1 H1 σ1 T => h F1 H1 σ1 (S.back T)
  | rt r Δ' =>
    cases r with
    | v d => exact fun F1 H1 σ1 v T => h F1 H1 σ1 v (S.back T)
    | o ds => exact fun F1 H1 σ1 p vs T => h F1 H1 σ1 p vs (S.back T)
    | t t => exact fun F1 H1 σ1 v f T => h F1 H1 σ1 v f (S.back T)
  | xr C Δ' => exact fun F1 H1 σ1 T => h F1 H1 σ1 (S.back T)
theorem Stt.self {K : PySem.W.Frag} {G0 H0 F H : Hp} {σ : L2.St} {Δ : List Sl} (S : Stt K G0 H0 F H σ Δ) : Stt K F H0 F H σ Δ := ⟨Sub.rf _, S.fh, S.h0, fun _ _ e => .inl e, S.nt, S.tb, S.len, S.sl⟩
/-- what a turn must come to -/
def turn (C : Out → Prop) (I : List Sl → Prop) : Out → Prop
  | .nx Δ => I Δ | .ct Δ => I Δ | .bk Δ => C (.nx Δ) | .rt r Δ => C (.rt r Δ) | .xr E Δ => C (.xr E Δ)
theorem sm_for {tg iter : Expr} {body : List Stmt} (hi : IT X Δ tg iter ds) (I : Nat → List Sl → Prop) (h0 : I 0 Δ)
    (hs : ∀ (i : Nat) d Δi, ds[i]? = some d → I i Δi → ∃ is Δ', GV X is tg d Δi Δ' ∧ Bk X body Δ' (turn C (I (i + 1)))) (hd : ∀ Δn, I ds.length Δn → C (.nx Δn))
    (hp : PassesOwn (model X.prog X.w) X.A X.env X.xe := by exact PassesOwn.never) (hc : X.calm = true := by rfl) (hf : ∀ x, foldedSetIterable iter X.env x = pure x := by intro _; rfl) : Sm X (.For tg iter body [] pos) Δ C := by
  intro G0 H0 F H σ S D q
  refine sU1 (ps_for hp hc pi_u pg_u pss_u hf) (hi G0 H0 F H σ S _ fun J F' H' x W => ?_)
  have S1 := S.ext x
  refine for_it (J := J) (n := ds.length) (G := Sub F') (Y := J.yld) ⟨fun i H hi s => W.go i H hi s, fun H s => W.stop H s, fun i H x H' hi s y => y⟩
    (fun i σ H => ∃ F2 Δ2, I i Δ2 ∧ Stt X.K F' H0 F2 H σ Δ2) ⟨F', Δ, h0, S1.self⟩ (fun i σ H _ ⟨F2, Δ2, _, T⟩ => T.g.tr T.fh) (fun i v σ H H2 hil ⟨F2, Δ2, hI, T⟩ y => ?_) (fun σ H ⟨F2, Δ2, hI, T⟩ => q _ (hd Δ2 hI) F2 H σ (S1.back T))
  have hd' : ds[i]? = some ds[i] := List.getElem?_eq_getElem hil
  obtain ⟨is, Δ', g, b⟩ := hs i _ Δ2 hd' hI
  obtain ⟨F3, e3, r3⟩ := W.yld i _ H v H2 F2 hd' T.g T.fh y
  refine g F' H0 F3 H2 σ v (T.ext e3) r3 _ fun σ' _ T' => ?_
  refine b F' H0 F3 H2 σ' T' _ fun o ho => ?_
  cases o with
  | nx Δ4 => exact fun F5 H5 σ5 T5 => ⟨F5, Δ4, ho, T5⟩
  | ct Δ4 => exact fun F5 H5 σ5 T5 => ⟨F5, Δ4, ho, T5⟩
  | bk Δ4 => exact fun F5 H5 σ5 T5 => q _ ho F5 H5 σ5 (S1.back T5)
  | rt r Δ4 =>
    have z := OutOk.fwd S1 (q _ ho)
    cases r with
    | v d => exact z
    | o ds => exact z
    | t t => exact z
  | xr E Δ4 => exact OutOk.fwd S1 (q _ ho)
theorem sm_for_a {tg iter : Expr} {body : List Stmt} (hi : IT X Δ tg iter ds) (I : Nat → List Sl → Prop) (h0 : I 0 Δ) (hs : ∀ (i : Nat) d Δi, ds[i]? = some d → I i Δi → ∃ is Δ', GV X is tg d Δi Δ' ∧ Bk X body Δ' (turn C (I (i + 1)))) (hd : ∀ Δn, I ds.length Δn → C (.nx Δn)) (hp : Rp (PassesOwn (model X.prog X.w) X.A X.env X.xe)) (hc : Rf (X.calm = true)) (hf : Ri (∀ x, foldedSetIterable iter X.env x = pure x)) : Sm X (.For tg iter body [] pos) Δ C := sm_for hi I h0 hs hd hp.ok hc.ok hf.ok
theorem sm_while {c : Expr} {body : List Stmt} (I : Nat → List Sl → Prop) (m0 : Nat) (h0 : I m0 Δ)
    (hs : ∀ m Δi, I m Δi → TS X Δi c fun b Δ' => (b = true → Bk X body Δ' (turn C fun Δ2 => ∃ m', m' < m ∧ I m' Δ2)) ∧ (b = false → C (.nx Δ')))
    (hp : PassesOwn (model X.prog X.w) X.A X.env X.xe := by exact PassesOwn.never) : Sm X (.While c body [] pos) Δ C := by
  intro G0 H0 F H σ S D q
  refine sU1 (ps_while hp pt_u pss_u) ⟨fun m σ H => ∃ F2 Δ2, I m Δ2 ∧ Stt X.K G0 H0 F2 H σ Δ2, ⟨m0, F, Δ, h0, S⟩, fun m σ1 H1 ⟨F2, Δ2, hI, T⟩ => ?_⟩
  refine hs m Δ2 hI G0 H0 F2 H1 σ1 T _ fun b Δ' F3 H3 hb T3 => ?_
  cases b with
  | true =>
    rw [if_pos rfl]
    refine ⟨fun σ' H' => ∃ m', m' < m ∧ ∃ F4 Δ4, I m' Δ4 ∧ Stt X.K G0 H0 F4 H' σ' Δ4, fun σ' H' h => h, ?_⟩
    refine hb.1 rfl G0 H0 F3 H3 σ1 T3 _ fun o ho => ?_
    cases o with
    | nx Δ4 => exact fun F5 H5 σ5 T5 => let ⟨m', hm, hI'⟩ := ho; ⟨m', hm, F5, Δ4, hI', T5⟩
    | ct Δ4 => exact fun F5 H5 σ5 T5 => let ⟨m', hm, hI'⟩ := ho; ⟨m', hm, F5, Δ4, hI', T5⟩
    | bk Δ4 => exact q _ ho
    | rt r Δ4 =>
      have z := q _ ho
      cases r with
      | v d => exact z
      | o ds => exact z
      | t t => exact z
    | xr E Δ4 => exact q _ ho
  | false =>
    rw [if_neg Bool.false_ne_true]
    exact q _ (hb.2 rfl) F3 H3 σ1 T3
theorem sm_while_a {c : Expr} {body : List Stmt} (I : Nat → List Sl → Prop) (m0 : Nat) (h0 : I m0 Δ) (hs : ∀ m Δi, I m Δi → TS X Δi c fun b Δ' => (b = true → Bk X body Δ' (turn C fun Δ2 => ∃ m', m' < m ∧ I m' Δ2)) ∧ (b = false → C (.nx Δ'))) (hp : Rp (PassesOwn (model X.prog X.w) X.A X.env X.xe)) : Sm X (.While c body [] pos) Δ C := sm_while I m0 h0 hs hp.ok
/-- a while whose test changes nothing -/
theorem sm_whileV {c : Expr} {body : List Stmt} (I : Nat → List Sl → Prop) (m0 : Nat) (h0 : I m0 Δ)
    (hs : ∀ m Δi, I m Δi → ∃ b, TV X Δi c b ∧ (b = true → Bk X body Δi (turn C fun Δ2 => ∃ m', m' < m ∧ I m' Δ2)) ∧ (b = false → C (.nx Δi)))
    (hp : PassesOwn (model X.prog X.w) X.A X.env X.xe := by exact PassesOwn.never) : Sm X (.While c body [] pos) Δ C := by
  refine sm_while I m0 h0 (fun m Δi hI => ?_) hp
  obtain ⟨b, tv, k⟩ := hs m Δi hI
  intro G0 H0 F H σ S Q q
  refine tv.ts G0 H0 F H σ S Q fun b' Δ' F' H' hb S' => ?_
  obtain ⟨rfl, rfl⟩ := hb
  exact q _ _ F' H' k S'
theorem sm_whileV_a {c : Expr} {body : List Stmt} (I : Nat → List Sl → Prop) (m0 : Nat) (h0 : I m0 Δ) (hs : ∀ m Δi, I m Δi → ∃ b, TV X Δi c b ∧ (b = true → Bk X body Δi (turn C fun Δ2 => ∃ m', m' < m ∧ I m' Δ2)) ∧ (b = false → C (.nx Δi))) (hp : Rp (PassesOwn (model X.prog X.w) X.A X.env X.xe)) : Sm X (.While c body [] pos) Δ C := sm_whileV I m0 h0 hs hp.ok
end
end Z

namespace Z
open PySem PySem.Spec PyProof.Rows L2
variable [τ : Tb]

/-! ### a def's promise over data -/
def ResOk (K : PySem.W.Frag) (G H : Hp) (Q : VK) : Res → Prop
  | .v d => ∀ v G' H', Ext G H G' H' → R K G' d v → Q v H'
  | .o ds => ∀ p vs G' H', Ext G H G' H' → H p = none → H' p = some (.lst vs) → G' p = none → RL K G' ds vs → Q (.ref p) H'
  | .t t => ∀ v f G' H', Ext G H G' H' → RT K G' H' t v f → (∀ a ∈ f, H a = none ∧ G' a = none) → Q v H'
def Pr (K : PySem.W.Frag) (spec : List D → Res → Prop) : Sp := fun vs H Q _ => ∃ G ds r, Sub G H ∧ (∀ a ps, G a ≠ some (.tbl ps)) ∧ LamX.Tabs τ.T H ∧ RL K G ds vs ∧ spec ds r ∧ ResOk K G H Q r
/-- what a body must come to -/
def fin (r : Res) : Out → Prop
  | .rt r' _ => r' = r
  | .nx _ => r = .v .non
  | _ => False
def ini (N : List Str) (ds : List D) : List Sl := ds.map Sl.v ++ List.replicate (N.length - ds.length) Sl.u

section
variable {P : Program} {w : World} {K : PySem.W.Frag} {mg : Str → Option Value} {base : Heap}
theorem stt_ini {G H : Hp} {ds : List D} {vs : List V} {N : List Str} (s : Sub G H) (nt : ∀ a ps, G a ≠ some (.tbl ps)) (tb : LamX.Tabs τ.T H) (h : RL K G ds vs) (hl : ds.length ≤ N.length) : Stt K G H G H (L2.start N vs) (ini N ds) := by
  refine ⟨Sub.rf _, s, Grow.rf _, fun a o e => .inl e, nt, tb, ?_, fun _ => [], fun i d x q1 q2 => ?_, fun i a ha => (nomatch ha), fun i j a _ ha => (nomatch ha)⟩
  · unfold L2.start ini
    simp [h.length]
  · unfold ini at q1
    unfold L2.start at q2
    by_cases hi : i < ds.length
    · rw [List.getElem?_append_left (by simpa using hi), List.getElem?_map] at q1
      rw [List.getElem?_append_left (by simpa [h.length] using hi), List.getElem?_map] at q2
      cases z : ds[i]? with
      | none => rw [z] at q1; cases q1
      | some d' =>
        rw [z] at q1; cases q1
        obtain ⟨v, e1, e2⟩ := h.get z
        rw [e1] at q2; cases q2
        exact ⟨rfl, v, rfl, e2⟩
    · rw [List.getElem?_append_right (by simpa using hi), List.getElem?_replicate] at q1
      split at q1 <;> cases q1
      trivial
theorem Stt.out {G0 H0 F H : Hp} {σ : L2.St} {Δ : List Sl} (S : Stt K G0 H0 F H σ Δ) : Ext G0 H0 F H := ⟨S.g, S.h0, S.fh, S.fr, fun a ps e => absurd e (S.nt a ps)⟩
theorem ends_of {X : Cx} {G H : Hp} {Q : VK} {r : Res} (ro : ResOk X.K G H Q r) : ∀ o, fin r o → OutOk X G H { nx := fun _ H' => Q .non H', rt := Q } o := by
  intro o ho
  cases o with
  | nx Δ =>
    obtain rfl : r = .v .non := ho
    exact fun F1 H1 σ1 T => ro .non F1 H1 T.out (r_non.mpr rfl)
  | bk Δ => exact False.elim ho
  | ct Δ => exact False.elim ho
  | xr C Δ => exact False.elim ho
  | rt r' Δ =>
    obtain rfl : r' = r := ho
    cases r' with
    | v d => exact fun F1 H1 σ1 v T rr => ro v F1 H1 T.out rr
    | o ds => exact fun F1 H1 σ1 p vs T h1 f1 h0 rr => ro p vs F1 H1 T.out h0 h1 f1 rr
    | t t => exact fun F1 H1 σ1 v f T rr n => ro v f F1 H1 T.out rr fun a ha => ⟨(n a ha).2, (n a ha).1⟩
/-- THE RULE for a def -/
theorem fn_ok {x qual : Str} {st : Stmt} {f : Addr} {fd : FuncData} {N ps : List Str} {k : Nat} {spec : List D → Res → Prop} (Fn : Fun K x qual st f fd) (S : FnScope N ps (defScope st)) (ar : ∀ ds r, spec ds r → ds.length = ps.length)
    (hb : ∀ (cdv : Value) (A : Around) (outer : List Env) (s : Shared) (H : Hp) (E : XK), Room k (A.deeper (envOfC qual (defScope st) s.heap.objs.size f cdv)) → ∀ ds r, spec ds r →
      Bk ((cxOf CX0 P w K mg base N qual (defScope st) f cdv A outer s H E).nox) (defBody st) (ini N ds) (fin r)) : FnOk P w K mg base CX0 (k + 1) f fd ps (Pr K spec) := by
  refine Fn.ok S (fun vs H Q E h => ?_) (fun cdv A outer s H vs Q E hr h => ?_)
  · obtain ⟨G, ds, r, _, _, _, rl, sp, _⟩ := h
    rw [rl.length]; exact ar ds r sp
  · obtain ⟨G, ds, r, sub, nt, tb, rl, sp, ro⟩ := h
    refine ⟨uS _ (defBody st), pss_u, ?_⟩
    have hlen : ds.length ≤ N.length := by
      rw [ar ds r sp, ← S.pre]
      exact List.length_take_le' _ _
    exact hb cdv A outer s H E hr ds r sp G H G H _ (stt_ini sub nt tb rl hlen) _ (ends_of ro)
/-- a def that stands at the top by its name -/
structure FnK (P : Program) (w : World) (K : PySem.W.Frag) (mg : Str → Option Value) (base : Heap) (CX : CXT) (n : Str) (k : Nat) (spec : List D → Res → Prop) : Prop where
  ex : ∃ f fd ps, FnOk P w K mg base CX k f fd ps (Pr K spec) ∧ mg n = some (.ref f) ∧ PySem.W.keepIn K (.ref f) = true ∧ Binds K fd ps []
/-- a method of a class -/
structure FnM (P : Program) (w : World) (K : PySem.W.Frag) (mg : Str → Option Value) (base : Heap) (CX : CXT) (C : Addr) (n : Str) (k : Nat) (spec : List D → Res → Prop) : Prop where
  ex : ∃ f fd ps, FnOk P w K mg base CX k f fd ps (Pr K spec) ∧ Meth K C n f ∧ Binds K fd ps []
end

section
variable {X : Cx} {Δ : List Sl} {m : Bool} {e a b c o : Expr} {es : List Expr} {d x y : D} {ds rs : List D} {pos p apos : Pos} {n : Str} {k : Nat} {spec : List D → Res → Prop}
theorem Pr.at {K : PySem.W.Frag} {vs : List V} {F H : Hp} {E : XK} {Q : VK} (s : Sub F H) (nt : ∀ a ps, F a ≠ some (.tbl ps)) (tb : LamX.Tabs τ.T H) (r : RL K (sel m F H) ds vs) (hs : spec ds (.v d)) (q : ∀ v F' H', Ext F H F' H' → R K (sel m F' H') d v → Q v H') : Pr K spec vs H Q E := by
  cases m with
  | true => exact ⟨F, ds, _, s, nt, tb, r, hs, fun v G' H' e r => q v G' H' e r⟩
  | false => exact ⟨unt H, ds, _, unt_sub H, unt_nt H, tb, RL.monoN (unt_nb H) _ _ r, hs, fun v G' H' e r => q v F H' (Ext.growG s nt e.h) (r.mono e.fh)⟩
theorem Pr.ato {K : PySem.W.Frag} {vs : List V} {F H : Hp} {E : XK} {Q : VK} (s : Sub F H) (nt : ∀ a ps, F a ≠ some (.tbl ps)) (tb : LamX.Tabs τ.T H) (r : RL K (sel m F H) ds vs) (hs : spec ds (.o rs)) (hf : m = false → rs.all flat = true) (q : ∀ p vs F' H', Ext F H F' H' → H p = none → H' p = some (.lst vs) → F' p = none → RL K F' rs vs → Q (.ref p) H') : Pr K spec vs H Q E := by
  cases m with
  | true => exact ⟨F, ds, _, s, nt, tb, r, hs, fun p vs G' H' e n h1 f1 r => q p vs G' H' e n h1 f1 r⟩
  | false => exact ⟨unt H, ds, _, unt_sub H, unt_nt H, tb, RL.monoN (unt_nb H) _ _ r, hs, fun p vs G' H' e n h1 f1 r => q p vs F H' (Ext.growG s nt e.h) n h1 (s.none n) (flats_any (hf rfl) r)⟩
theorem ev_call (Fn : FnK X.prog X.w X.K X.mg X.base CX0 n k spec) (hr : Room k X.A) (hg : Gl X n) (ha : AV X Δ m (e :: es) ds) (hs : spec ds (.v d)) (hdb : (n == ("__debug__" : Str)) = false := by decide)
    (he : starEach (e :: es) X.env = (false, eval e X.env) :: starEach es X.env := by rfl) (hpl : (backTo pos (starEach es X.env)).any (·.1) = false := by rfl) : EV X Δ m (.Call (.Name n p) (e :: es) [] pos) d := by
  intro G0 H0 F H σ S Q q
  obtain ⟨f, fd, ps, F1, hm, hk, hb⟩ := Fn.ex
  refine eU (pe_call F1 hr hg hm hk hb .nil pass0 pa_u hdb he hpl) (ha G0 H0 F H σ S _ fun vs F' H' x r => ?_)
  show Pr X.K spec (vs ++ []) H' Q E0
  rw [List.append_nil]
  exact Pr.at x.fh (S.ext x).nt (S.ext x).tb r hs fun v F2 H2 x2 r2 => q v F2 H2 (x.tr x2) r2
theorem ev_call_a (Fn : FnK X.prog X.w X.K X.mg X.base CX0 n k spec) (hr : Room k X.A) (hg : Gl X n) (ha : AV X Δ m (e :: es) ds) (hs : spec ds (.v d)) (hdb : Rd ((n == ("__debug__" : Str)) = false)) (he : Rf (starEach (e :: es) X.env = (false, eval e X.env) :: starEach es X.env)) (hpl : Rf ((backTo pos (starEach es X.env)).any (·.1) = false)) : EV X Δ m (.Call (.Name n p) (e :: es) [] pos) d := ev_call Fn hr hg ha hs hdb.ok he.ok hpl.ok
theorem eo_call (Fn : FnK X.prog X.w X.K X.mg X.base CX0 n k spec) (hr : Room k X.A) (hg : Gl X n) (ha : AV X Δ m (e :: es) ds) (hs : spec ds (.o rs)) (hf : m = false → rs.all flat = true) (hdb : (n == ("__debug__" : Str)) = false := by decide)
    (he : starEach (e :: es) X.env = (false, eval e X.env) :: starEach es X.env := by rfl) (hpl : (backTo pos (starEach es X.env)).any (·.1) = false := by rfl) : EO X Δ (.Call (.Name n p) (e :: es) [] pos) rs := by
  intro G0 H0 F H σ S Q q
  obtain ⟨f, fd, ps, F1, hm, hk, hb⟩ := Fn.ex
  refine eU (pe_call F1 hr hg hm hk hb .nil pass0 pa_u hdb he hpl) (ha G0 H0 F H σ S _ fun vs F' H' x r => ?_)
  show Pr X.K spec (vs ++ []) H' Q E0
  rw [List.append_nil]
  exact Pr.ato x.fh (S.ext x).nt (S.ext x).tb r hs hf fun p vs F2 H2 x2 n2 h2 f2 r2 => q p vs F2 H2 (x.tr x2) (x.h.none n2) h2 f2 r2
theorem eo_call_a (Fn : FnK X.prog X.w X.K X.mg X.base CX0 n k spec) (hr : Room k X.A) (hg : Gl X n) (ha : AV X Δ m (e :: es) ds) (hs : spec ds (.o rs)) (hf : m = false → rs.all flat = true) (hdb : Rd ((n == ("__debug__" : Str)) = false)) (he : Rf (starEach (e :: es) X.env = (false, eval e X.env) :: starEach es X.env)) (hpl : Rf ((backTo pos (starEach es X.env)).any (·.1) = false)) : EO X Δ (.Call (.Name n p) (e :: es) [] pos) rs := eo_call Fn hr hg ha hs hf hdb.ok he.ok hpl.ok
theorem ev_meth0 {pl : Sem Bool} {C : Addr} {fs : List (Str × D)} (Fn : FnM X.prog X.w X.K X.mg X.base CX0 C n k spec) (cl : Cls X.K C) (hr : Room k X.A) (ha : EV X Δ m o (.obj C fs)) (hl : fs.lookup n = none) (hs : spec [.obj C fs] (.v d))
    (ht : eval (.Call (.Attribute o n apos) [] [] pos) X.env = (do
      let ov ← eval o X.env
      standAt apos.atName
      let (f, first) ← holding [ov] (getMethod ov n pl)
      callWith pos f first (backTo pos (starEach [] X.env)) (backToKw pos (keywordEach [] X.env))) := by rfl) : EV X Δ m (.Call (.Attribute o n apos) [] [] pos) d := by
  intro G0 H0 F H σ S Q q
  obtain ⟨f, fd, ps, F1, hm, hb'⟩ := Fn.ex
  refine eU (pe_meth0 (pl := pl) pe_u cl hm F1 hr hb' .nil pass0 ht) (ha G0 H0 F H σ S _ fun v F' H' x r => ?_)
  obtain ⟨ad, dx, vfs, rfl, g, rf⟩ := r_obj.mp r
  refine ⟨ad, dx, vfs, rfl, sel_h x.fh _ _ g, rf.lookupN hl, ?_⟩
  show Pr X.K spec (.ref ad :: ([] ++ [])) H' Q E0
  exact Pr.at x.fh (S.ext x).nt (S.ext x).tb (RL.cons r RL.nil) hs fun v F2 H2 x2 r2 => q v F2 H2 (x.tr x2) r2
theorem ev_meth0_a {pl : Sem Bool} {C : Addr} {fs : List (Str × D)} (Fn : FnM X.prog X.w X.K X.mg X.base CX0 C n k spec) (cl : Cls X.K C) (hr : Room k X.A) (ha : EV X Δ m o (.obj C fs)) (hl : fs.lookup n = none) (hs : spec [.obj C fs] (.v d)) (ht : Rf (eval (.Call (.Attribute o n apos) [] [] pos) X.env = (do
      let ov ← eval o X.env
      standAt apos.atName
      let (f, first) ← holding [ov] (getMethod ov n pl)
      callWith pos f first (backTo pos (starEach [] X.env)) (backToKw pos (keywordEach [] X.env))))) : EV X Δ m (.Call (.Attribute o n apos) [] [] pos) d := ev_meth0 Fn cl hr ha hl hs ht.ok
theorem ev_meth {pl : Sem Bool} {C : Addr} {fs : List (Str × D)} (Fn : FnM X.prog X.w X.K X.mg X.base CX0 C n k spec) (cl : Cls X.K C) (hr : Room k X.A) (ho : EV X Δ m o (.obj C fs)) (hl : fs.lookup n = none) (ha : AV X Δ m (e :: es) ds) (hs : spec (.obj C fs :: ds) (.v d))
    (hst : starEach (e :: es) X.env = (false, eval e X.env) :: starEach es X.env := by rfl) (hpl : (backTo pos (starEach es X.env)).any (·.1) = false := by rfl)
    (ht : eval (.Call (.Attribute o n apos) (e :: es) [] pos) X.env = (do
      let ov ← eval o X.env
      standAt apos.atName
      let (f, first) ← holding [ov] (getMethod ov n pl)
      callWith pos f first (backTo pos (starEach (e :: es) X.env)) (backToKw pos (keywordEach [] X.env))) := by rfl) : EV X Δ m (.Call (.Attribute o n apos) (e :: es) [] pos) d := by
  intro G0 H0 F H σ S Q q
  obtain ⟨f, fd, ps, F1, hm, hb'⟩ := Fn.ex
  refine eU (pe_meth (pl := pl) pe_u cl hm F1 hr hb' .nil pass0 pa_u hst hpl ht) (ho G0 H0 F H σ S _ fun v F' H' x r => ?_)
  obtain ⟨ad, dx, vfs, rfl, g, rf⟩ := r_obj.mp r
  refine ⟨ad, dx, vfs, rfl, sel_h x.fh _ _ g, rf.lookupN hl, ha G0 H0 F' H' σ (S.ext x) _ fun vs F2 H2 x2 r2 => ?_⟩
  show Pr X.K spec (.ref ad :: (vs ++ [])) H2 Q E0
  rw [List.append_nil]
  exact Pr.at x2.fh ((S.ext x).ext x2).nt ((S.ext x).ext x2).tb (RL.cons (r.up x2) r2) hs fun v F3 H3 x3 r3 => q v F3 H3 ((x.tr x2).tr x3) r3
theorem ev_meth_a {pl : Sem Bool} {C : Addr} {fs : List (Str × D)} (Fn : FnM X.prog X.w X.K X.mg X.base CX0 C n k spec) (cl : Cls X.K C) (hr : Room k X.A) (ho : EV X Δ m o (.obj C fs)) (hl : fs.lookup n = none) (ha : AV X Δ m (e :: es) ds) (hs : spec (.obj C fs :: ds) (.v d)) (hst : Rf (starEach (e :: es) X.env = (false, eval e X.env) :: starEach es X.env)) (hpl : Rf ((backTo pos (starEach es X.env)).any (·.1) = false)) (ht : Rf (eval (.Call (.Attribute o n apos) (e :: es) [] pos) X.env = (do
      let ov ← eval o X.env
      standAt apos.atName
      let (f, first) ← holding [ov] (getMethod ov n pl)
      callWith pos f first (backTo pos (starEach (e :: es) X.env)) (backToKw pos (keywordEach [] X.env))))) : EV X Δ m (.Call (.Attribute o n apos) (e :: es) [] pos) d := ev_meth Fn cl hr ho hl ha hs hst.ok hpl.ok ht.ok
theorem eo_meth {pl : Sem Bool} {C : Addr} {fs : List (Str × D)} (Fn : FnM X.prog X.w X.K X.mg X.base CX0 C n k spec) (cl : Cls X.K C) (hr : Room k X.A) (ho : EV X Δ m o (.obj C fs)) (hl : fs.lookup n = none) (ha : AV X Δ m (e :: es) ds) (hs : spec (.obj C fs :: ds) (.o rs)) (hf : m = false → rs.all flat = true)
    (hst : starEach (e :: es) X.env = (false, eval e X.env) :: starEach es X.env := by rfl) (hpl : (backTo pos (starEach es X.env)).any (·.1) = false := by rfl)
    (ht : eval (.Call (.Attribute o n apos) (e :: es) [] pos) X.env = (do
      let ov ← eval o X.env
      standAt apos.atName
      let (f, first) ← holding [ov] (getMethod ov n pl)
      callWith pos f first (backTo pos (starEach (e :: es) X.env)) (backToKw pos (keywordEach [] X.env))) := by rfl) : EO X Δ (.Call (.Attribute o n apos) (e :: es) [] pos) rs := by
  intro G0 H0 F H σ S Q q
  obtain ⟨f, fd, ps, F1, hm, hb'⟩ := Fn.ex
  refine eU (pe_meth (pl := pl) pe_u cl hm F1 hr hb' .nil pass0 pa_u hst hpl ht) (ho G0 H0 F H σ S _ fun v F' H' x r => ?_)
  obtain ⟨ad, dx, vfs, rfl, g, rf⟩ := r_obj.mp r
  refine ⟨ad, dx, vfs, rfl, sel_h x.fh _ _ g, rf.lookupN hl, ha G0 H0 F' H' σ (S.ext x) _ fun vs F2 H2 x2 r2 => ?_⟩
  show Pr X.K spec (.ref ad :: (vs ++ [])) H2 Q E0
  rw [List.append_nil]
  exact Pr.ato x2.fh ((S.ext x).ext x2).nt ((S.ext x).ext x2).tb (RL.cons (r.up x2) r2) hs hf fun p vs F3 H3 x3 n3 h3 f3 r3 => q p vs F3 H3 ((x.tr x2).tr x3) ((x.tr x2).h.none n3) h3 f3 r3

theorem eo_meth_a {pl : Sem Bool} {C : Addr} {fs : List (Str × D)} (Fn : FnM X.prog X.w X.K X.mg X.base CX0 C n k spec) (cl : Cls X.K C) (hr : Room k X.A) (ho : EV X Δ m o (.obj C fs)) (hl : fs.lookup n = none) (ha : AV X Δ m (e :: es) ds) (hs : spec (.obj C fs :: ds) (.o rs)) (hf : m = false → rs.all flat = true) (hst : Rf (starEach (e :: es) X.env = (false, eval e X.env) :: starEach es X.env)) (hpl : Rf ((backTo pos (starEach es X.env)).any (·.1) = false)) (ht : Rf (eval (.Call (.Attribute o n apos) (e :: es) [] pos) X.env = (do
      let ov ← eval o X.env
      standAt apos.atName
      let (f, first) ← holding [ov] (getMethod ov n pl)
      callWith pos f first (backTo pos (starEach (e :: es) X.env)) (backToKw pos (keywordEach [] X.env))))) : EO X Δ (.Call (.Attribute o n apos) (e :: es) [] pos) rs := eo_meth Fn cl hr ho hl ha hs hf hst.ok hpl.ok ht.ok
/-! ### built-ins by name -/
theorem ev_B {id : String} {r : List V → Hp → VK → Prop} (hc : CallR X (.builtin id) r) (hg : Gl X n) (hm : X.mg n = none) (hv : bootBuiltins n = some (.builtin id)) (ha : AV X Δ false (e :: es) ds)
    (hr : ∀ vs F H, Sub F H → RL X.K H ds vs → ∀ Q : VK, (∀ v F' H', Ext F H F' H' → R X.K (sel m F' H') d v → Q v H') → r vs H Q)
    (hn : n ≠ "__name__" := by decide) (hdb : (n == ("__debug__" : Str)) = false := by decide) (he : starEach (e :: es) X.env = (false, eval e X.env) :: starEach es X.env := by rfl) (hpl : (backTo pos (starEach es X.env)).any (·.1) = false := by rfl) :
    EV X Δ m (.Call (.Name n p) (e :: es) [] pos) d := by
  intro G0 H0 F H σ S Q q
  refine eU (pe_callB hc hg hm hv pa_u hn hdb he hpl) (ha G0 H0 F H σ S _ fun vs F' H' x rl => ?_)
  exact hr vs F' H' x.fh rl Q fun v F2 H2 x2 r2 => q v F2 H2 (x.tr x2) r2
theorem ev_B_a {id : String} {r : List V → Hp → VK → Prop} (hc : CallR X (.builtin id) r) (hg : Gl X n) (hm : X.mg n = none) (hv : bootBuiltins n = some (.builtin id)) (ha : AV X Δ false (e :: es) ds) (hr : ∀ vs F H, Sub F H → RL X.K H ds vs → ∀ Q : VK, (∀ v F' H', Ext F H F' H' → R X.K (sel m F' H') d v → Q v H') → r vs H Q) (hn : Rd (n ≠ "__name__")) (hdb : Rd ((n == ("__debug__" : Str)) = false)) (he : Rf (starEach (e :: es) X.env = (false, eval e X.env) :: starEach es X.env)) (hpl : Rf ((backTo pos (starEach es X.env)).any (·.1) = false)) : EV X Δ m (.Call (.Name n p) (e :: es) [] pos) d := ev_B hc hg hm hv ha hr hn.ok hdb.ok he.ok hpl.ok
end
end Z

namespace Z
open PySem PySem.Spec PyProof.Rows L2
variable [τ : Tb]

/-- the built-in names that a text uses stand for the built-ins -/
structure Bl (mg : Str → Option Value) : Prop where
  len : mg "len" = none
  range : mg "range" = none
  abs : mg "abs" = none
  min : mg "min" = none
  max : mg "max" = none
  sum : mg "sum" = none
  sorted : mg "sorted" = none
  set : mg "set" = none
  any : mg "any" = none
  all : mg "all" = none
  isinstance : mg "isinstance" = none
  divmod : mg "divmod" = none
  str : mg "str" = none
  int : mg "int" = none
  list : mg "list" = none
  tuple : mg "tuple" = none
  enumerate : mg "enumerate" = none
  zip : mg "zip" = none
  reversed : mg "reversed" = none
  bool : mg "bool" = none
  ValueError : mg "ValueError" = none
theorem bt_bool : bootBuiltins "bool" = some (.type "bool") := by decide +kernel
theorem bt_abs : bootBuiltins "abs" = some (.builtin "abs") := by decide +kernel
theorem bt_min : bootBuiltins "min" = some (.builtin "min") := by decide +kernel
theorem bt_max : bootBuiltins "max" = some (.builtin "max") := by decide +kernel
theorem bt_sum : bootBuiltins "sum" = some (.builtin "sum") := by decide +kernel
theorem bt_all : bootBuiltins "all" = some (.builtin "all") := by decide +kernel
theorem bt_any : bootBuiltins "any" = some (.builtin "any") := by decide +kernel
theorem bt_isinstance : bootBuiltins "isinstance" = some (.builtin "isinstance") := by decide +kernel
theorem bt_divmod : bootBuiltins "divmod" = some (.builtin "divmod") := by decide +kernel
theorem bt_sorted : bootBuiltins "sorted" = some (.builtin "sorted") := by decide +kernel
theorem bt_str : bootBuiltins "str" = some (.type "str") := by decide +kernel
theorem bt_int : bootBuiltins "int" = some (.type "int") := by decide +kernel
theorem bt_list : bootBuiltins "list" = some (.type "list") := by decide +kernel
theorem bt_tuple : bootBuiltins "tuple" = some (.type "tuple") := by decide +kernel
theorem bt_len : bootBuiltins "len" = some (.builtin "len") := by decide +kernel

def dabs (i : Int) : Int := if i < 0 then -i else i
theorem dabs_eq (i : Int) : dabs i = (i.natAbs : Int) := by unfold dabs; split <;> omega
def dmax (i j : Int) : Int := if j > i then j else i
def dmin (i j : Int) : Int := if j < i then j else i
/-- the built-in class of a datum -/
def tyD : D → String
  | .non => "NoneType" | .bl _ => "bool" | .int _ => "int" | .str _ => "str" | .lst _ => "list" | .tup _ => "tuple" | .scr _ => "list" | .obj _ _ => "object" | .opq _ => "object"
def plainD : D → Bool
  | .scr _ => false | .obj _ _ => false | .opq _ => false | _ => true
/-- whether a datum is one of a built-in class, as isinstance tells it -/
def isD (d : D) (T : String) : Bool := (kitB (tyD d) T).getD false

section
variable {X : Cx} {Δ : List Sl} {m : Bool} {e a b c : Expr} {es : List Expr} {d x y : D} {ds rs : List D} {pos p p2 apos : Pos} {n : Str}
theorem ev_T {T : String} {r : List V → Hp → VK → Prop} (hc : CallR X (.type T) r) (hg : Gl X n) (hm : X.mg n = none) (hv : bootBuiltins n = some (.type T)) (ha : AV X Δ false (e :: es) ds)
    (hr : ∀ vs F H, Sub F H → RL X.K H ds vs → ∀ Q : VK, (∀ v F' H', Ext F H F' H' → R X.K (sel m F' H') d v → Q v H') → r vs H Q)
    (hn : n ≠ "__name__" := by decide) (hdb : (n == ("__debug__" : Str)) = false := by decide) (he : starEach (e :: es) X.env = (false, eval e X.env) :: starEach es X.env := by rfl) (hpl : (backTo pos (starEach es X.env)).any (·.1) = false := by rfl) :
    EV X Δ m (.Call (.Name n p) (e :: es) [] pos) d := by
  intro G0 H0 F H σ S Q q
  refine eU (pe_callTy hc hg hm hv pa_u hn hdb he hpl) (ha G0 H0 F H σ S _ fun vs F' H' x rl => ?_)
  exact hr vs F' H' x.fh rl Q fun v F2 H2 x2 r2 => q v F2 H2 (x.tr x2) r2
theorem ev_T_a {T : String} {r : List V → Hp → VK → Prop} (hc : CallR X (.type T) r) (hg : Gl X n) (hm : X.mg n = none) (hv : bootBuiltins n = some (.type T)) (ha : AV X Δ false (e :: es) ds) (hr : ∀ vs F H, Sub F H → RL X.K H ds vs → ∀ Q : VK, (∀ v F' H', Ext F H F' H' → R X.K (sel m F' H') d v → Q v H') → r vs H Q) (hn : Rd (n ≠ "__name__")) (hdb : Rd ((n == ("__debug__" : Str)) = false)) (he : Rf (starEach (e :: es) X.env = (false, eval e X.env) :: starEach es X.env)) (hpl : Rf ((backTo pos (starEach es X.env)).any (·.1) = false)) : EV X Δ m (.Call (.Name n p) (e :: es) [] pos) d := ev_T hc hg hm hv ha hr hn.ok hdb.ok he.ok hpl.ok
theorem rl1 {K : PySem.W.Frag} {G : Hp} {vs : List V} (h : RL K G [d] vs) : ∃ v, vs = [v] ∧ R K G d v := by
  obtain ⟨v, w, rfl, r, q⟩ := rl_cons.mp h
  rw [rl_nil.mp q]; exact ⟨v, rfl, r⟩
theorem rl2 {K : PySem.W.Frag} {G : Hp} {vs : List V} (h : RL K G [x, y] vs) : ∃ v w, vs = [v, w] ∧ R K G x v ∧ R K G y w := by
  obtain ⟨v, w, rfl, r, q⟩ := rl_cons.mp h
  obtain ⟨u, rfl, r2⟩ := rl1 q
  exact ⟨v, u, rfl, r, r2⟩
/-! numbers -/
theorem ev_abs {i : Int} (hg : Gl X "abs") (hm : X.mg "abs" = none) (ha : EV X Δ false e (.int i)) (hs : starEach [e] X.env = (false, eval e X.env) :: starEach [] X.env := by rfl) (hpl : (backTo pos (starEach ([] : List Expr) X.env)).any (·.1) = false := by rfl) : EV X Δ m (.Call (.Name "abs" p) [e] [] pos) (.int (dabs i)) :=
  ev_B call_abs hg hm bt_abs (av_cons ha av_nil hs) (fun vs F H s rl Q q => by
    obtain ⟨v, rfl, r⟩ := rl1 rl
    exact ⟨i, by rw [r_int.mp r], q _ F H (Ext.rf s) (r_int.mpr rfl)⟩) (by decide) (by decide) hs hpl
theorem ev_abs_a {i : Int} (hg : Gl X "abs") (hm : X.mg "abs" = none) (ha : EV X Δ false e (.int i)) (hs : Rf (starEach [e] X.env = (false, eval e X.env) :: starEach [] X.env)) (hpl : Rf ((backTo pos (starEach ([] : List Expr) X.env)).any (·.1) = false)) : EV X Δ m (.Call (.Name "abs" p) [e] [] pos) (.int (dabs i)) := ev_abs hg hm ha hs.ok hpl.ok
theorem ev_max2 {i j : Int} (hc : X.calm = true) (hg : Gl X "max") (hm : X.mg "max" = none) (ha : EV X Δ false a (.int i)) (hb : EV X Δ false b (.int j)) (hs : starEach [a, b] X.env = (false, eval a X.env) :: starEach [b] X.env := by rfl) (hs2 : starEach [b] X.env = (false, eval b X.env) :: starEach [] X.env := by rfl) (hpl : (backTo pos (starEach [b] X.env)).any (·.1) = false := by rfl) : EV X Δ m (.Call (.Name "max" p) [a, b] [] pos) (.int (dmax i j)) :=
  ev_B (call_max2 hc) hg hm bt_max (av_cons ha (av_cons hb av_nil hs2) hs) (fun vs F H s rl Q q => by
    obtain ⟨v, w, rfl, r, r2⟩ := rl2 rl
    exact ⟨i, j, by rw [r_int.mp r, r_int.mp r2], q _ F H (Ext.rf s) (r_int.mpr rfl)⟩) (by decide) (by decide) hs hpl
theorem ev_max2_a {i j : Int} (hc : X.calm = true) (hg : Gl X "max") (hm : X.mg "max" = none) (ha : EV X Δ false a (.int i)) (hb : EV X Δ false b (.int j)) (hs : Rf (starEach [a, b] X.env = (false, eval a X.env) :: starEach [b] X.env)) (hs2 : Rf (starEach [b] X.env = (false, eval b X.env) :: starEach [] X.env)) (hpl : Rf ((backTo pos (starEach [b] X.env)).any (·.1) = false)) : EV X Δ m (.Call (.Name "max" p) [a, b] [] pos) (.int (dmax i j)) := ev_max2 hc hg hm ha hb hs.ok hs2.ok hpl.ok
theorem ev_min2 {i j : Int} (hc : X.calm = true) (hg : Gl X "min") (hm : X.mg "min" = none) (ha : EV X Δ false a (.int i)) (hb : EV X Δ false b (.int j)) (hs : starEach [a, b] X.env = (false, eval a X.env) :: starEach [b] X.env := by rfl) (hs2 : starEach [b] X.env = (false, eval b X.env) :: starEach [] X.env := by rfl) (hpl : (backTo pos (starEach [b] X.env)).any (·.1) = false := by rfl) : EV X Δ m (.Call (.Name "min" p) [a, b] [] pos) (.int (dmin i j)) :=
  ev_B (call_min2 hc) hg hm bt_min (av_cons ha (av_cons hb av_nil hs2) hs) (fun vs F H s rl Q q => by
    obtain ⟨v, w, rfl, r, r2⟩ := rl2 rl
    exact ⟨i, j, by rw [r_int.mp r, r_int.mp r2], q _ F H (Ext.rf s) (r_int.mpr rfl)⟩) (by decide) (by decide) hs hpl
theorem ev_min2_a {i j : Int} (hc : X.calm = true) (hg : Gl X "min") (hm : X.mg "min" = none) (ha : EV X Δ false a (.int i)) (hb : EV X Δ false b (.int j)) (hs : Rf (starEach [a, b] X.env = (false, eval a X.env) :: starEach [b] X.env)) (hs2 : Rf (starEach [b] X.env = (false, eval b X.env) :: starEach [] X.env)) (hpl : Rf ((backTo pos (starEach [b] X.env)).any (·.1) = false)) : EV X Δ m (.Call (.Name "min" p) [a, b] [] pos) (.int (dmin i j)) := ev_min2 hc hg hm ha hb hs.ok hs2.ok hpl.ok
/-- int(flag) -/
theorem ev_intb {k : Bool} (hg : Gl X "int") (hm : X.mg "int" = none) (ha : EV X Δ false e (.bl k)) (hs : starEach [e] X.env = (false, eval e X.env) :: starEach [] X.env := by rfl) (hpl : (backTo pos (starEach ([] : List Expr) X.env)).any (·.1) = false := by rfl) : EV X Δ m (.Call (.Name "int" p) [e] [] pos) (.int (if k then 1 else 0)) :=
  ev_T call_int1 hg hm bt_int (av_cons ha av_nil hs) (fun vs F H s rl Q q => by
    obtain ⟨v, rfl, r⟩ := rl1 rl
    exact .inr ⟨k, by rw [r_bl.mp r], q _ F H (Ext.rf s) (r_int.mpr rfl)⟩) (by decide) (by decide) hs hpl
theorem ev_intb_a {k : Bool} (hg : Gl X "int") (hm : X.mg "int" = none) (ha : EV X Δ false e (.bl k)) (hs : Rf (starEach [e] X.env = (false, eval e X.env) :: starEach [] X.env)) (hpl : Rf ((backTo pos (starEach ([] : List Expr) X.env)).any (·.1) = false)) : EV X Δ m (.Call (.Name "int" p) [e] [] pos) (.int (if k then 1 else 0)) := ev_intb hg hm ha hs.ok hpl.ok
theorem ev_intS {z : Str} {k : Int} (hg : Gl X "int") (hm : X.mg "int" = none) (ha : EV X Δ false e (.str z)) (h1 : PySem.intText? z = some k) (h2 : z.length ≤ 640) (hs : starEach [e] X.env = (false, eval e X.env) :: starEach [] X.env := by rfl) (hpl : (backTo pos (starEach ([] : List Expr) X.env)).any (·.1) = false := by rfl) : EV X Δ m (.Call (.Name "int" p) [e] [] pos) (.int k) :=
  ev_T call_int_str hg hm bt_int (av_cons ha av_nil hs) (fun vs F H s rl Q q => by
    obtain ⟨v, rfl, r⟩ := rl1 rl
    exact ⟨z, k, by rw [r_str.mp r], h1, h2, q _ F H (Ext.rf s) (r_int.mpr rfl)⟩) (by decide) (by decide) hs hpl
theorem ev_intS_a {z : Str} {k : Int} (hg : Gl X "int") (hm : X.mg "int" = none) (ha : EV X Δ false e (.str z)) (h1 : PySem.intText? z = some k) (h2 : z.length ≤ 640) (hs : Rf (starEach [e] X.env = (false, eval e X.env) :: starEach [] X.env)) (hpl : Rf ((backTo pos (starEach ([] : List Expr) X.env)).any (·.1) = false)) : EV X Δ m (.Call (.Name "int" p) [e] [] pos) (.int k) := ev_intS hg hm ha h1 h2 hs.ok hpl.ok
theorem ev_str1 {i : Int} (hg : Gl X "str") (hm : X.mg "str" = none) (ha : EV X Δ false e (.int i)) (hl : i.natAbs.log2 < 1920) (hs : starEach [e] X.env = (false, eval e X.env) :: starEach [] X.env := by rfl) (hpl : (backTo pos (starEach ([] : List Expr) X.env)).any (·.1) = false := by rfl) : EV X Δ m (.Call (.Name "str" p) [e] [] pos) (.str (Str.ofString (toString i))) :=
  ev_T call_str_int hg hm bt_str (av_cons ha av_nil hs) (fun vs F H s rl Q q => by
    obtain ⟨v, rfl, r⟩ := rl1 rl
    exact ⟨i, by rw [r_int.mp r], hl, q _ F H (Ext.rf s) (r_str.mpr rfl)⟩) (by decide) (by decide) hs hpl
theorem ev_str1_a {i : Int} (hg : Gl X "str") (hm : X.mg "str" = none) (ha : EV X Δ false e (.int i)) (hl : i.natAbs.log2 < 1920) (hs : Rf (starEach [e] X.env = (false, eval e X.env) :: starEach [] X.env)) (hpl : Rf ((backTo pos (starEach ([] : List Expr) X.env)).any (·.1) = false)) : EV X Δ m (.Call (.Name "str" p) [e] [] pos) (.str (Str.ofString (toString i))) := ev_str1 hg hm ha hl hs.ok hpl.ok
/-! lengths -/
theorem line_of {K : PySem.W.Frag} {G : Hp} : True := trivial
theorem ev_len (hg : Gl X "len") (hm : X.mg "len" = none) (ha : EV X Δ false e (.lst ds)) (hs : starEach [e] X.env = (false, eval e X.env) :: starEach [] X.env := by rfl) (hpl : (backTo pos (starEach ([] : List Expr) X.env)).any (·.1) = false := by rfl) : EV X Δ m (.Call (.Name "len" p) [e] [] pos) (.int (ds.length : Int)) :=
  ev_B call_len_seq hg hm bt_len (av_cons ha av_nil hs) (fun vs F H s rl Q q => by
    obtain ⟨v, rfl, r⟩ := rl1 rl
    obtain ⟨ad, ws, rfl, g, l⟩ := r_lst.mp r
    exact ⟨ad, ws, rfl, .inl (SqL.of g), by rw [l.length]; exact q _ F H (Ext.rf s) (r_int.mpr rfl)⟩) (by decide) (by decide) hs hpl
theorem ev_len_a (hg : Gl X "len") (hm : X.mg "len" = none) (ha : EV X Δ false e (.lst ds)) (hs : Rf (starEach [e] X.env = (false, eval e X.env) :: starEach [] X.env)) (hpl : Rf ((backTo pos (starEach ([] : List Expr) X.env)).any (·.1) = false)) : EV X Δ m (.Call (.Name "len" p) [e] [] pos) (.int (ds.length : Int)) := ev_len hg hm ha hs.ok hpl.ok
theorem ev_lent (hg : Gl X "len") (hm : X.mg "len" = none) (ha : EV X Δ false e (.tup ds)) (hs : starEach [e] X.env = (false, eval e X.env) :: starEach [] X.env := by rfl) (hpl : (backTo pos (starEach ([] : List Expr) X.env)).any (·.1) = false := by rfl) : EV X Δ m (.Call (.Name "len" p) [e] [] pos) (.int (ds.length : Int)) :=
  ev_B call_len_seq hg hm bt_len (av_cons ha av_nil hs) (fun vs F H s rl Q q => by
    obtain ⟨v, rfl, r⟩ := rl1 rl
    obtain ⟨ad, ws, rfl, g, l⟩ := r_tup.mp r
    exact ⟨ad, ws, rfl, .inr (SqT.of g), by rw [l.length]; exact q _ F H (Ext.rf s) (r_int.mpr rfl)⟩) (by decide) (by decide) hs hpl
theorem ev_lent_a (hg : Gl X "len") (hm : X.mg "len" = none) (ha : EV X Δ false e (.tup ds)) (hs : Rf (starEach [e] X.env = (false, eval e X.env) :: starEach [] X.env)) (hpl : Rf ((backTo pos (starEach ([] : List Expr) X.env)).any (·.1) = false)) : EV X Δ m (.Call (.Name "len" p) [e] [] pos) (.int (ds.length : Int)) := ev_lent hg hm ha hs.ok hpl.ok
theorem ev_lens {ns : List Int} (hg : Gl X "len") (hm : X.mg "len" = none) (ha : EV X Δ false e (.scr ns)) (hs : starEach [e] X.env = (false, eval e X.env) :: starEach [] X.env := by rfl) (hpl : (backTo pos (starEach ([] : List Expr) X.env)).any (·.1) = false := by rfl) : EV X Δ m (.Call (.Name "len" p) [e] [] pos) (.int (ns.length : Int)) :=
  ev_B call_len_seq hg hm bt_len (av_cons ha av_nil hs) (fun vs F H s rl Q q => by
    obtain ⟨v, rfl, r⟩ := rl1 rl
    obtain ⟨ad, rfl, g⟩ := r_scr.mp r
    exact ⟨ad, _, rfl, .inl g, by rw [List.length_map]; exact q _ F H (Ext.rf s) (r_int.mpr rfl)⟩) (by decide) (by decide) hs hpl
theorem ev_lens_a {ns : List Int} (hg : Gl X "len") (hm : X.mg "len" = none) (ha : EV X Δ false e (.scr ns)) (hs : Rf (starEach [e] X.env = (false, eval e X.env) :: starEach [] X.env)) (hpl : Rf ((backTo pos (starEach ([] : List Expr) X.env)).any (·.1) = false)) : EV X Δ m (.Call (.Name "len" p) [e] [] pos) (.int (ns.length : Int)) := ev_lens hg hm ha hs.ok hpl.ok
theorem ev_lenS {z : Str} (hg : Gl X "len") (hm : X.mg "len" = none) (ha : EV X Δ false e (.str z)) (hl : z.length ≤ sizeLine) (hs : starEach [e] X.env = (false, eval e X.env) :: starEach [] X.env := by rfl) (hpl : (backTo pos (starEach ([] : List Expr) X.env)).any (·.1) = false := by rfl) : EV X Δ m (.Call (.Name "len" p) [e] [] pos) (.int (z.length : Int)) :=
  ev_B call_len_str hg hm bt_len (av_cons ha av_nil hs) (fun vs F H s rl Q q => by
    obtain ⟨v, rfl, r⟩ := rl1 rl
    exact ⟨z, by rw [r_str.mp r], hl, q _ F H (Ext.rf s) (r_int.mpr rfl)⟩) (by decide) (by decide) hs hpl
theorem ev_lenS_a {z : Str} (hg : Gl X "len") (hm : X.mg "len" = none) (ha : EV X Δ false e (.str z)) (hl : z.length ≤ sizeLine) (hs : Rf (starEach [e] X.env = (false, eval e X.env) :: starEach [] X.env)) (hpl : Rf ((backTo pos (starEach ([] : List Expr) X.env)).any (·.1) = false)) : EV X Δ m (.Call (.Name "len" p) [e] [] pos) (.int (z.length : Int)) := ev_lenS hg hm ha hl hs.ok hpl.ok
/-! over lists of ints, of bools -/
theorem ev_sum {ns : List Int} (hc : X.calm = true) (hg : Gl X "sum") (hm : X.mg "sum" = none) (ha : EV X Δ false e (.lst (ns.map D.int))) (hs : starEach [e] X.env = (false, eval e X.env) :: starEach [] X.env := by rfl) (hpl : (backTo pos (starEach ([] : List Expr) X.env)).any (·.1) = false := by rfl) : EV X Δ m (.Call (.Name "sum" p) [e] [] pos) (.int ns.sum) :=
  ev_B (cr_sum hc) hg hm bt_sum (av_cons ha av_nil hs) (fun vs F H s rl Q q => by
    obtain ⟨v, rfl, r⟩ := rl1 rl
    obtain ⟨ad, ws, rfl, g, l⟩ := r_lst.mp r
    exact ⟨ad, ns, rfl, SqL.of (by rw [g, l.ints]), q _ F H (Ext.rf s) (r_int.mpr rfl)⟩) (by decide) (by decide) hs hpl
theorem ev_sum_a {ns : List Int} (hc : X.calm = true) (hg : Gl X "sum") (hm : X.mg "sum" = none) (ha : EV X Δ false e (.lst (ns.map D.int))) (hs : Rf (starEach [e] X.env = (false, eval e X.env) :: starEach [] X.env)) (hpl : Rf ((backTo pos (starEach ([] : List Expr) X.env)).any (·.1) = false)) : EV X Δ m (.Call (.Name "sum" p) [e] [] pos) (.int ns.sum) := ev_sum hc hg hm ha hs.ok hpl.ok
theorem ev_all {bs : List Bool} (hc : X.calm = true) (hg : Gl X "all") (hm : X.mg "all" = none) (ha : EV X Δ false e (.lst (bs.map D.bl))) (hs : starEach [e] X.env = (false, eval e X.env) :: starEach [] X.env := by rfl) (hpl : (backTo pos (starEach ([] : List Expr) X.env)).any (·.1) = false := by rfl) : EV X Δ m (.Call (.Name "all" p) [e] [] pos) (.bl (bs.all id)) :=
  ev_B (cr_all hc) hg hm bt_all (av_cons ha av_nil hs) (fun vs F H s rl Q q => by
    obtain ⟨v, rfl, r⟩ := rl1 rl
    obtain ⟨ad, ws, rfl, g, l⟩ := r_lst.mp r
    exact ⟨ad, bs, rfl, SqL.of (by rw [g, l.bls]), q _ F H (Ext.rf s) (r_bl.mpr rfl)⟩) (by decide) (by decide) hs hpl
theorem ev_all_a {bs : List Bool} (hc : X.calm = true) (hg : Gl X "all") (hm : X.mg "all" = none) (ha : EV X Δ false e (.lst (bs.map D.bl))) (hs : Rf (starEach [e] X.env = (false, eval e X.env) :: starEach [] X.env)) (hpl : Rf ((backTo pos (starEach ([] : List Expr) X.env)).any (·.1) = false)) : EV X Δ m (.Call (.Name "all" p) [e] [] pos) (.bl (bs.all id)) := ev_all hc hg hm ha hs.ok hpl.ok
theorem ev_any {bs : List Bool} (hc : X.calm = true) (hg : Gl X "any") (hm : X.mg "any" = none) (ha : EV X Δ false e (.lst (bs.map D.bl))) (hs : starEach [e] X.env = (false, eval e X.env) :: starEach [] X.env := by rfl) (hpl : (backTo pos (starEach ([] : List Expr) X.env)).any (·.1) = false := by rfl) : EV X Δ m (.Call (.Name "any" p) [e] [] pos) (.bl (bs.any id)) :=
  ev_B (cr_any hc) hg hm bt_any (av_cons ha av_nil hs) (fun vs F H s rl Q q => by
    obtain ⟨v, rfl, r⟩ := rl1 rl
    obtain ⟨ad, ws, rfl, g, l⟩ := r_lst.mp r
    exact ⟨ad, bs, rfl, SqL.of (by rw [g, l.bls]), q _ F H (Ext.rf s) (r_bl.mpr rfl)⟩) (by decide) (by decide) hs hpl
theorem ev_any_a {bs : List Bool} (hc : X.calm = true) (hg : Gl X "any") (hm : X.mg "any" = none) (ha : EV X Δ false e (.lst (bs.map D.bl))) (hs : Rf (starEach [e] X.env = (false, eval e X.env) :: starEach [] X.env)) (hpl : Rf ((backTo pos (starEach ([] : List Expr) X.env)).any (·.1) = false)) : EV X Δ m (.Call (.Name "any" p) [e] [] pos) (.bl (bs.any id)) := ev_any hc hg hm ha hs.ok hpl.ok
/-- the least, the greatest, of a list of ints that isn't empty -/
def lmin : List Int → Int
  | [] => 0
  | [x] => x
  | x :: y :: r => min x (lmin (y :: r))
def lmax : List Int → Int
  | [] => 0
  | [x] => x
  | x :: y :: r => max x (lmax (y :: r))
theorem lmin_le : ∀ (l : List Int) (x : Int), x ∈ l → lmin l ≤ x
  | [y], x, h => by simp at h; subst h; exact Int.le_refl _
  | y :: z :: r, x, h => by
    unfold lmin
    rcases List.mem_cons.mp h with rfl | h
    · omega
    · have := lmin_le (z :: r) x h; omega
theorem lmin_mem : ∀ (l : List Int), l ≠ [] → lmin l ∈ l
  | [y], _ => by simp [lmin]
  | y :: z :: r, _ => by
    have ih := lmin_mem (z :: r) (by simp)
    unfold lmin
    by_cases h : y ≤ lmin (z :: r)
    · rw [Int.min_eq_left h]; exact List.mem_cons_self
    · rw [Int.min_eq_right (by omega)]; exact List.mem_cons_of_mem _ ih
theorem le_lmax : ∀ (l : List Int) (x : Int), x ∈ l → x ≤ lmax l
  | [y], x, h => by simp at h; subst h; exact Int.le_refl _
  | y :: z :: r, x, h => by
    unfold lmax
    rcases List.mem_cons.mp h with rfl | h
    · omega
    · have := le_lmax (z :: r) x h; omega
theorem lmax_mem : ∀ (l : List Int), l ≠ [] → lmax l ∈ l
  | [y], _ => by simp [lmax]
  | y :: z :: r, _ => by
    have ih := lmax_mem (z :: r) (by simp)
    unfold lmax
    by_cases h : lmax (z :: r) ≤ y
    · rw [Int.max_eq_left h]; exact List.mem_cons_self
    · rw [Int.max_eq_right (by omega)]; exact List.mem_cons_of_mem _ ih
theorem ev_min {ns : List Int} (hc : X.calm = true) (hg : Gl X "min") (hm : X.mg "min" = none) (ha : EV X Δ false e (.lst (ns.map D.int))) (hne : ns ≠ []) (hs : starEach [e] X.env = (false, eval e X.env) :: starEach [] X.env := by rfl) (hpl : (backTo pos (starEach ([] : List Expr) X.env)).any (·.1) = false := by rfl) : EV X Δ m (.Call (.Name "min" p) [e] [] pos) (.int (lmin ns)) :=
  ev_B (cr_min hc) hg hm bt_min (av_cons ha av_nil hs) (fun vs F H s rl Q q => by
    obtain ⟨v, rfl, r⟩ := rl1 rl
    obtain ⟨ad, ws, rfl, g, l⟩ := r_lst.mp r
    refine ⟨ad, ns, rfl, SqL.of (by rw [g, l.ints]), List.length_pos_iff.mpr hne, fun k hk hle => ?_⟩
    have : k = lmin ns := Int.le_antisymm (hle _ (lmin_mem ns hne)) (lmin_le ns k hk)
    rw [this]
    exact q _ F H (Ext.rf s) (r_int.mpr rfl)) (by decide) (by decide) hs hpl
theorem ev_min_a {ns : List Int} (hc : X.calm = true) (hg : Gl X "min") (hm : X.mg "min" = none) (ha : EV X Δ false e (.lst (ns.map D.int))) (hne : ns ≠ []) (hs : Rf (starEach [e] X.env = (false, eval e X.env) :: starEach [] X.env)) (hpl : Rf ((backTo pos (starEach ([] : List Expr) X.env)).any (·.1) = false)) : EV X Δ m (.Call (.Name "min" p) [e] [] pos) (.int (lmin ns)) := ev_min hc hg hm ha hne hs.ok hpl.ok
theorem ev_max {ns : List Int} (hc : X.calm = true) (hg : Gl X "max") (hm : X.mg "max" = none) (ha : EV X Δ false e (.lst (ns.map D.int))) (hne : ns ≠ []) (hs : starEach [e] X.env = (false, eval e X.env) :: starEach [] X.env := by rfl) (hpl : (backTo pos (starEach ([] : List Expr) X.env)).any (·.1) = false := by rfl) : EV X Δ m (.Call (.Name "max" p) [e] [] pos) (.int (lmax ns)) :=
  ev_B (cr_max hc) hg hm bt_max (av_cons ha av_nil hs) (fun vs F H s rl Q q => by
    obtain ⟨v, rfl, r⟩ := rl1 rl
    obtain ⟨ad, ws, rfl, g, l⟩ := r_lst.mp r
    refine ⟨ad, ns, rfl, SqL.of (by rw [g, l.ints]), List.length_pos_iff.mpr hne, fun k hk hle => ?_⟩
    have : k = lmax ns := Int.le_antisymm (le_lmax ns k hk) (hle _ (lmax_mem ns hne))
    rw [this]
    exact q _ F H (Ext.rf s) (r_int.mpr rfl)) (by decide) (by decide) hs hpl
theorem ev_max_a {ns : List Int} (hc : X.calm = true) (hg : Gl X "max") (hm : X.mg "max" = none) (ha : EV X Δ false e (.lst (ns.map D.int))) (hne : ns ≠ []) (hs : Rf (starEach [e] X.env = (false, eval e X.env) :: starEach [] X.env)) (hpl : Rf ((backTo pos (starEach ([] : List Expr) X.env)).any (·.1) = false)) : EV X Δ m (.Call (.Name "max" p) [e] [] pos) (.int (lmax ns)) := ev_max hc hg hm ha hne hs.ok hpl.ok
/-! list(..) -/
theorem eo_T {T : String} {r : List V → Hp → VK → Prop} (hc : CallR X (.type T) r) (hg : Gl X n) (hm : X.mg n = none) (hv : bootBuiltins n = some (.type T)) (ha : AV X Δ m (e :: es) ds)
    (hr : ∀ vs F H, Sub F H → RL X.K (sel m F H) ds vs → ∀ Q : VK, (∀ p vs F' H', Ext F H F' H' → H p = none → H' p = some (.lst vs) → F' p = none → RL X.K F' rs vs → Q (.ref p) H') → r vs H Q)
    (hn : n ≠ "__name__" := by decide) (hdb : (n == ("__debug__" : Str)) = false := by decide) (he : starEach (e :: es) X.env = (false, eval e X.env) :: starEach es X.env := by rfl) (hpl : (backTo pos (starEach es X.env)).any (·.1) = false := by rfl) :
    EO X Δ (.Call (.Name n p) (e :: es) [] pos) rs := by
  intro G0 H0 F H σ S Q q
  refine eU (pe_callTy hc hg hm hv pa_u hn hdb he hpl) (ha G0 H0 F H σ S _ fun vs F' H' x rl => ?_)
  exact hr vs F' H' x.fh rl Q fun p vs F2 H2 x2 n2 h2 f2 r2 => q p vs F2 H2 (x.tr x2) (x.h.none n2) h2 f2 r2
theorem eo_T_a {T : String} {r : List V → Hp → VK → Prop} (hc : CallR X (.type T) r) (hg : Gl X n) (hm : X.mg n = none) (hv : bootBuiltins n = some (.type T)) (ha : AV X Δ m (e :: es) ds) (hr : ∀ vs F H, Sub F H → RL X.K (sel m F H) ds vs → ∀ Q : VK, (∀ p vs F' H', Ext F H F' H' → H p = none → H' p = some (.lst vs) → F' p = none → RL X.K F' rs vs → Q (.ref p) H') → r vs H Q) (hn : Rd (n ≠ "__name__")) (hdb : Rd ((n == ("__debug__" : Str)) = false)) (he : Rf (starEach (e :: es) X.env = (false, eval e X.env) :: starEach es X.env)) (hpl : Rf ((backTo pos (starEach es X.env)).any (·.1) = false)) : EO X Δ (.Call (.Name n p) (e :: es) [] pos) rs := eo_T hc hg hm hv ha hr hn.ok hdb.ok he.ok hpl.ok
theorem eo_list (hg : Gl X "list") (hm : X.mg "list" = none) (ha : EV X Δ true e (.lst ds)) (hs : starEach [e] X.env = (false, eval e X.env) :: starEach [] X.env := by rfl) (hpl : (backTo pos (starEach ([] : List Expr) X.env)).any (·.1) = false := by rfl) : EO X Δ (.Call (.Name "list" p) [e] [] pos) ds :=
  eo_T (m := true) call_list_of hg hm bt_list (av_cons ha av_nil hs) (fun vs F H s rl Q q => by
    obtain ⟨v, rfl, r⟩ := rl1 rl
    obtain ⟨ad, ws, rfl, g, l⟩ := r_lst.mp r
    exact ⟨ad, ws, rfl, .inl (SqL.of (s _ _ g)), fun l2 n2 => q l2 ws F _ (Ext.grow s (Sub.new n2)) n2 upd_same (s.none n2) l⟩) (by decide) (by decide) hs hpl
theorem eo_list_a (hg : Gl X "list") (hm : X.mg "list" = none) (ha : EV X Δ true e (.lst ds)) (hs : Rf (starEach [e] X.env = (false, eval e X.env) :: starEach [] X.env)) (hpl : Rf ((backTo pos (starEach ([] : List Expr) X.env)).any (·.1) = false)) : EO X Δ (.Call (.Name "list" p) [e] [] pos) ds := eo_list hg hm ha hs.ok hpl.ok
theorem eo_listf (hg : Gl X "list") (hm : X.mg "list" = none) (ha : EV X Δ false e (.lst ds)) (f : ds.all flat = true) (hs : starEach [e] X.env = (false, eval e X.env) :: starEach [] X.env := by rfl) (hpl : (backTo pos (starEach ([] : List Expr) X.env)).any (·.1) = false := by rfl) : EO X Δ (.Call (.Name "list" p) [e] [] pos) ds :=
  eo_T (m := false) call_list_of hg hm bt_list (av_cons ha av_nil hs) (fun vs F H s rl Q q => by
    obtain ⟨v, rfl, r⟩ := rl1 rl
    obtain ⟨ad, ws, rfl, g, l⟩ := r_lst.mp r
    exact ⟨ad, ws, rfl, .inl (SqL.of g), fun l2 n2 => q l2 ws F _ (Ext.grow s (Sub.new n2)) n2 upd_same (s.none n2) (flats_any f l)⟩) (by decide) (by decide) hs hpl
theorem eo_listf_a (hg : Gl X "list") (hm : X.mg "list" = none) (ha : EV X Δ false e (.lst ds)) (f : ds.all flat = true) (hs : Rf (starEach [e] X.env = (false, eval e X.env) :: starEach [] X.env)) (hpl : Rf ((backTo pos (starEach ([] : List Expr) X.env)).any (·.1) = false)) : EO X Δ (.Call (.Name "list" p) [e] [] pos) ds := eo_listf hg hm ha f hs.ok hpl.ok
/-! isinstance with a built-in class -/
theorem ty_of {K : PySem.W.Frag} {H : Hp} {v : V} (f : plainD x = true) (r : R K H x v) : TyX K H v (.type (tyD x)) := by
  cases x with
  | non => rw [r_non.mp r]; exact .base .non
  | bl b => rw [r_bl.mp r]; exact .base (.bl b)
  | int i => rw [r_int.mp r]; exact .base (.int i)
  | str z => rw [r_str.mp r]; exact .base (.str z)
  | scr ns => exact absurd f (by simp [plainD])
  | lst xs => obtain ⟨a, vs, rfl, g, _⟩ := r_lst.mp r; exact .base (.lst g)
  | tup xs => obtain ⟨a, vs, rfl, g, _⟩ := r_tup.mp r; exact .base (.tup g)
  | obj C fs => exact absurd f (by simp [plainD])
  | opq a => exact absurd f (by simp [plainD])
theorem ev_isi {T : String} (hg : Gl X "isinstance") (hm : X.mg "isinstance" = none) (ha : EV X Δ false a x) (f : plainD x = true) (hg2 : Gl X n) (hm2 : X.mg n = none) (hv2 : bootBuiltins n = some (.type T)) (hk : (kitB (tyD x) T).isSome = true) (hn2 : n ≠ "__name__" := by decide) (hd2 : (n == ("__debug__" : Str)) = false := by decide)
    (hs : starEach [a, .Name n p2] X.env = (false, eval a X.env) :: starEach [.Name n p2] X.env := by rfl) (hs2 : starEach [.Name n p2] X.env = (false, eval (.Name n p2) X.env) :: starEach [] X.env := by rfl) (hpl : (backTo pos (starEach [.Name n p2] X.env)).any (·.1) = false := by rfl) :
    EV X Δ m (.Call (.Name "isinstance" p) [a, .Name n p2] [] pos) (.bl (isD x T)) := by
  intro G0 H0 F H σ S Q q
  refine eU (pe_callB call_isi hg hm bt_isinstance (pa_cons pe_u (pa_cons (pe_bltn (v := .ty T) hg2 hm2 hv2 rfl hn2 hd2) pa_nil hs2) hs) (by decide) (by decide) hs hpl) (ha G0 H0 F H σ S _ fun v F' H' e r => ?_)
  refine ⟨v, .ty T, .type (tyD x), .type T, isD x T, rfl, .ty T, ty_of f r, kit_ty ?_, q _ F' H' e (r_bl.mpr rfl)⟩
  unfold isD
  cases z : kitB (tyD x) T with
  | none => rw [z] at hk; cases hk
  | some b => rfl

theorem ev_isi_a {T : String} (hg : Gl X "isinstance") (hm : X.mg "isinstance" = none) (ha : EV X Δ false a x) (f : plainD x = true) (hg2 : Gl X n) (hm2 : X.mg n = none) (hv2 : bootBuiltins n = some (.type T)) (hk : (kitB (tyD x) T).isSome = true) (hn2 : Rd (n ≠ "__name__")) (hd2 : Rd ((n == ("__debug__" : Str)) = false)) (hs : Rf (starEach [a, .Name n p2] X.env = (false, eval a X.env) :: starEach [.Name n p2] X.env)) (hs2 : Rf (starEach [.Name n p2] X.env = (false, eval (.Name n p2) X.env) :: starEach [] X.env)) (hpl : Rf ((backTo pos (starEach [.Name n p2] X.env)).any (·.1) = false)) : EV X Δ m (.Call (.Name "isinstance" p) [a, .Name n p2] [] pos) (.bl (isD x T)) := ev_isi hg hm ha f hg2 hm2 hv2 hk hn2.ok hd2.ok hs.ok hs2.ok hpl.ok
/-! divmod -/
theorem ev_divmod {i j : Int} (hg : Gl X "divmod") (hm : X.mg "divmod" = none) (ha : EV X Δ false a (.int i)) (hb : EV X Δ false b (.int j)) (hd : CDivP i j) (hs : starEach [a, b] X.env = (false, eval a X.env) :: starEach [b] X.env := by rfl) (hs2 : starEach [b] X.env = (false, eval b X.env) :: starEach [] X.env := by rfl) (hpl : (backTo pos (starEach [b] X.env)).any (·.1) = false := by rfl) :
    EV X Δ m (.Call (.Name "divmod" p) [a, b] [] pos) (.tup [.int (i / j), .int (i % j)]) :=
  EV.weak (ev_B call_divmodW hg hm bt_divmod (av_cons ha (av_cons hb av_nil hs2) hs) (fun vs F H s rl Q q => by
    obtain ⟨v, w, rfl, r, r2⟩ := rl2 rl
    refine ⟨i, j, by rw [r_int.mp r, r_int.mp r2], hd, fun pp np => ?_⟩
    exact q _ _ _ (Ext.put s np) (r_tup.mpr ⟨pp, _, rfl, upd_same, RL.cons (r_int.mpr rfl) (RL.cons (r_int.mpr rfl) RL.nil)⟩)) (by decide) (by decide) hs hpl)
theorem ev_divmod_a {i j : Int} (hg : Gl X "divmod") (hm : X.mg "divmod" = none) (ha : EV X Δ false a (.int i)) (hb : EV X Δ false b (.int j)) (hd : CDivP i j) (hs : Rf (starEach [a, b] X.env = (false, eval a X.env) :: starEach [b] X.env)) (hs2 : Rf (starEach [b] X.env = (false, eval b X.env) :: starEach [] X.env)) (hpl : Rf ((backTo pos (starEach [b] X.env)).any (·.1) = false)) : EV X Δ m (.Call (.Name "divmod" p) [a, b] [] pos) (.tup [.int (i / j), .int (i % j)]) := ev_divmod hg hm ha hb hd hs.ok hs2.ok hpl.ok
end

/-! ### defs at the top -/
structure At (K : PySem.W.Frag) (mg : Str → Option Value) (n gn : Str) (st : Stmt) (ps : List Str) : Prop where
  ex : ∃ f fd, Fun K n n st f fd ∧ mg gn = some (.ref f) ∧ Binds K fd ps []
structure AtM (K : PySem.W.Frag) (C : Addr) (n qual : Str) (st : Stmt) (ps : List Str) : Prop where
  ex : ∃ f fd, Fun K n qual st f fd ∧ Meth K C n f ∧ Binds K fd ps []
theorem at_mk {K : PySem.W.Frag} {mg : Str → Option Value} {h : Heap} {n gn : Str} {st : Stmt} {ps : List Str} {f : Addr} {oc : Value} {od an : Option Addr} {osl : Array (Option Value)} {kV doc pm cdv ct : Value} (X : K.In h) (G : h.Ns mainGlobals mg)
    (a : PySem.W.nsIn K mainGlobals gn = some (some (.ref f))) (l : K.lookup f = some ⟨oc, od, .func (PySem.W.fnOf n n (defArgs st) (defBody st) (defScope st) .none kV doc pm an cdv ct), osl⟩) (c : PySem.W.codeIn K cdv n = true) (k : PySem.W.keepIn K (.ref f) = true)
    (hb : ∀ (kV doc pm : Value) (an : Option Addr) (cdv ct : Value) (us : List Value), us.length = ps.length → bindArgs (PySem.W.fnOf n n (defArgs st) (defBody st) (defScope st) .none kV doc pm an cdv ct) ⟨us, []⟩ = pure (ps.zip us)) : At K mg n gn st ps := by
  have F := fun_mk l c k
  exact ⟨f, _, F, PySem.W.mg_of X G a, F.binds hb⟩
theorem atm_mk {K : PySem.W.Frag} {C : Addr} {n qual : Str} {st : Stmt} {ps : List Str} {f : Addr} {oc : Value} {od an : Option Addr} {osl : Array (Option Value)} {kV doc pm cdv ct : Value}
    (a : PySem.W.findIn K (.ref C) n = some (some (.ref f))) (i : PySem.W.isFn K (.ref f) = true) (l : K.lookup f = some ⟨oc, od, .func (PySem.W.fnOf n qual (defArgs st) (defBody st) (defScope st) .none kV doc pm an cdv ct), osl⟩) (c : PySem.W.codeIn K cdv qual = true) (k : PySem.W.keepIn K (.ref f) = true)
    (hb : ∀ (kV doc pm : Value) (an : Option Addr) (cdv ct : Value) (us : List Value), us.length = ps.length → bindArgs (PySem.W.fnOf n qual (defArgs st) (defBody st) (defScope st) .none kV doc pm an cdv ct) ⟨us, []⟩ = pure (ps.zip us)) : AtM K C n qual st ps := by
  have F := fun_mk l c k
  exact ⟨f, _, F, ⟨a, i, k⟩, F.binds hb⟩
/-- the law's own promise -/
def spLaw : List D → Res → Prop := fun ds r => ∃ ns : List Int, ds = [.scr ns] ∧ ns.length ≤ 63 ∧ r = .v (.bl true)
theorem law_sp (K : PySem.W.Frag) (H : Hp) (a : Addr) (ns : List Int) (hl : ns.length ≤ 63) (tb : LamX.Tabs τ.T H) (hS : SqL K H a (ns.map V.int)) : Pr K spLaw [.ref a] H (fun v _ => v = .bl true) (fun _ _ _ => False) :=
  ⟨unt H, [.scr ns], .v (.bl true), unt_sub H, unt_nt H, tb, RL.monoN (unt_nb H) _ _ (RL.cons (r_scr.mpr ⟨a, rfl, hS⟩) RL.nil), ⟨ns, rfl, hl, rfl⟩, fun v G' H' e r => r_bl.mp r⟩

/-! ### small facts for side conditions -/
theorem mulok {i j : Int} {a b : Nat} (ha : i.natAbs < 2 ^ a) (hb : j.natAbs < 2 ^ b) (h : a + b ≤ 134217728) : IntMulOk i j := CMulX.ok (mulx_ok ha hb h)
theorem mulokL {i j : Int} (h1 : -18446744073709551616 < i) (h2 : i < 18446744073709551616) : IntMulOk i j := CMul.ok (.inl ⟨by omega, by omega⟩)
theorem mulokR {i j : Int} (h1 : -18446744073709551616 < j) (h2 : j < 18446744073709551616) : IntMulOk i j := CMul.ok (.inr ⟨by omega, by omega⟩)
theorem divok {i j : Int} (h1 : 0 < j) (h2 : j < 18446744073709551616) : CDivW i j := wide_div (b := 64) h1 (by omega) (by decide) (by decide)
theorem powok {i j : Int} (h0 : 0 ≤ j) (h1 : j ≤ 1000000) (h2 : -18446744073709551616 < i) (h3 : i < 18446744073709551616) : CPow i j := ⟨h0, h1, by omega⟩
theorem at_ints {ns : List Int} {i : Int} (h0 : 0 ≤ i) (h1 : i < ns.length) : atI (ns.map D.int) i = some (.int (ns.getD i.toNat 0)) := by
  obtain ⟨k, rfl⟩ : ∃ k : Nat, i = k := ⟨i.toNat, by omega⟩
  refine atI_nat ?_
  have hk : k < ns.length := by omega
  rw [List.getElem?_map, List.getElem?_eq_getElem hk]
  simp [List.getD, List.getElem?_eq_getElem hk]
theorem at_get {ds : List D} {i : Int} {k : Nat} {d : D} (e : i = (k : Int)) (h : ds[k]? = some d) : atI ds i = some d := by rw [e]; exact atI_nat h
/-- a statement whose ways meet -/
theorem bk_cut {X : Cx} {st : Stmt} {rest : List Stmt} {Δ : List Sl} {C : Out → Prop} {α : Type} (P : α → Prop) (S : α → List Sl) (h : Sm X st Δ (fun o => ∃ x, P x ∧ o = .nx (S x))) (k : ∀ x, P x → Bk X rest (S x) C) : Bk X (st :: rest) Δ C :=
  bk_cons (h.mono fun o ho => by
    obtain ⟨x, hx, rfl⟩ := ho
    exact k x hx)
end Z

namespace Z
open PySem PySem.Spec PyProof.Rows L2
variable [τ : Tb]

/-! ### comprehensions -/
def wipD (Δ : List Sl) : List Nat → List Sl
  | [] => Δ
  | v :: vs => (wipD Δ vs).set v .u
theorem Stt.wip {K : PySem.W.Frag} {G0 H0 F H : Hp} {σ : L2.St} {Δ : List Sl} (S : Stt K G0 H0 F H σ Δ) : ∀ vs : List Nat, Stt K G0 H0 F H (wipe σ vs) (wipD Δ vs)
  | [] => S
  | v :: vs => (S.wip vs).setu
theorem set_comm_none {σ : L2.St} {i j : Nat} {x y : Option V} : i ≠ j → (σ.set i x).set j y = (σ.set j y).set i x := fun h => List.set_comm x y h
theorem wipe_get {σ : L2.St} {j : Nat} : ∀ (vs : List Nat), (wipe σ vs)[j]? = if j ∈ vs then (σ[j]?).map (fun _ => none) else σ[j]?
  | [] => by rw [if_neg (by simp)]; rfl
  | v :: vs => by
    have ih := wipe_get (σ := σ) (j := j) vs
    show ((wipe σ vs).set v none)[j]? = _
    rw [List.getElem?_set, wipe_length]
    by_cases h : v = j
    · subst h
      rw [if_pos rfl, if_pos List.mem_cons_self]
      by_cases hl : v < σ.length
      · rw [if_pos hl, List.getElem?_eq_getElem hl]; rfl
      · rw [if_neg hl, List.getElem?_eq_none (by omega)]; rfl
    · rw [if_neg h, ih]
      by_cases hm : j ∈ vs
      · rw [if_pos hm, if_pos (List.mem_cons_of_mem _ hm)]
      · rw [if_neg hm, if_neg (by simp [hm]; exact fun e => h e.symm)]
theorem wipe_off {σ σ2 : L2.St} {is vs : List Nat} (o : Off is (wipe σ vs) σ2) (h : ∀ j ∈ is, j ∈ vs) : wipe σ2 vs = wipe σ vs := by
  apply List.ext_getElem?
  intro j
  rw [wipe_get, wipe_get]
  by_cases hm : j ∈ vs
  · rw [if_pos hm, if_pos hm]
    have hl : σ2.length = σ.length := by rw [o.1, wipe_length]
    by_cases h2 : j < σ.length
    · rw [List.getElem?_eq_getElem h2, List.getElem?_eq_getElem (by rw [hl]; exact h2)]; rfl
    · rw [List.getElem?_eq_none (by omega), List.getElem?_eq_none (by omega)]
  · rw [if_neg hm, if_neg hm, o.2 j (fun z => hm (h j z)), wipe_get, if_neg hm]
abbrev BX (X : Cx) (scope : Scope) (s : Shared) (H : Hp) (C : Addr) (cl : List (Str × Addr)) (fp : List Addr) : Cx := X.blk s H scope (compEnvC scope cl C X.env) fp
def outs (c : D → Bool) (f : D → D) (ds : List D) : List D := (ds.filter c).map f
theorem outs_snoc (c : D → Bool) (f : D → D) (ds : List D) (d : D) : outs c f (ds ++ [d]) = outs c f ds ++ if c d then [f d] else [] := by
  unfold outs
  rw [List.filter_append, List.map_append]
  cases h : c d <;> simp [List.filter, h]
theorem outs_len (c : D → Bool) (f : D → D) (ds : List D) : (outs c f ds).length ≤ ds.length := by
  unfold outs; rw [List.length_map]; exact List.length_filter_le _ _
theorem outs_all (f : D → D) (ds : List D) : outs (fun _ => true) f ds = ds.map f := by
  unfold outs; rw [List.filter_eq_self.mpr (fun _ _ => rfl)]

section
variable {X : Cx} {Δ : List Sl} {elt tg iter cnd : Expr} {ifs : List Expr} {scope : Scope} {own : List (Str × Nat)} {ds : List D} {pos pos' py : Pos} {c : D → Bool} {f : D → D}
theorem lc_run {tt : TT} {vs : List Nat} (hlen : ds.length ≤ sizeLine) (hi : IT X Δ tg iter ds)
    (hb : ∀ d ∈ ds, ∃ is Δ1, (∀ j ∈ is, j ∈ vs) ∧ (∀ s H C cl fp, GV (BX X scope s H C cl fp) is tg d (wipD Δ vs) Δ1) ∧
      (∀ (G0 H0 F H : Hp) (σ : L2.St), Stt X.K G0 H0 F H σ Δ1 → ∀ Q : Bool → Hp → Prop, (∀ F' H', Ext F H F' H' → Q (c d) H') → tt σ H Q) ∧
      (c d = true → ∀ s H C cl fp, EV (BX X scope s H C cl fp) Δ1 true elt (f d)))
    {G0 H0 F H : Hp} {σ : L2.St} (S : Stt X.K G0 H0 F H σ Δ) {Q : VK} (q : ∀ p vs F' H', Ext F H F' H' → H p = none → H' p = some (.lst vs) → F' p = none → RL X.K F' (outs c f ds) vs → Q (.ref p) H') :
    tLc (uI X tg iter) (fun v σ H Q => ∀ s H' C cl fp, uG (BX X scope s H' C cl fp) tg v σ H Q) tt (fun σ H Q => ∀ s H' C cl fp, uE (BX X scope s H' C cl fp) elt σ H Q) vs σ H Q := by
  refine hi G0 H0 F H σ S _ fun J F1 H1 e1 W => fun D nD => ?_
  refine lc_it (g := fun v σ H Q => ∀ s H' C cl fp, uG (BX X scope s H' C cl fp) tg v σ H Q) (tt := tt) (te := fun σ H Q => ∀ s H' C cl fp, uE (BX X scope s H' C cl fp) elt σ H Q) (vs := vs) (σ := σ) (Qd := fun H' => Q (.ref D) H') (J := J) (n := ds.length) (G := Sub F1) (Y := J.yld) ⟨fun i H hi s => W.go i H hi s, fun H s => W.stop H s, fun i H x H' hi s y => y⟩
    (fun i H2 => ∃ F2 acc, Ext F1 H1 F2 H2 ∧ H2 D = some (.lst acc) ∧ F2 D = none ∧ RL X.K F2 (outs c f (ds.take i)) acc)
    ⟨F1, [], Ext.grow e1.fh (Sub.new nD), upd_same, e1.fh.none nD, by rw [List.take_zero]; exact RL.nil⟩ (fun i H2 _ ⟨F2, acc, x, _⟩ => x.f.tr x.fh)
    (fun i v H2 H3 hil ⟨F2, acc, x2, hD, fD, rl⟩ y => ?_) (fun H2 ⟨F2, acc, x2, hD, fD, rl⟩ => ?_)
  · have hd' : ds[i]? = some ds[i] := List.getElem?_eq_getElem hil
    generalize ds[i] = d at hd'
    obtain ⟨F3, e3, r3⟩ := W.yld i d H2 v H3 F2 hd' x2.f x2.fh y
    obtain ⟨is, Δ1, his, hg, ht, he⟩ := hb d (List.mem_of_getElem? hd')
    have S3 := ((S.ext (e1.tr (x2.tr e3))).wip vs)
    have e13 := x2.tr e3
    have tk : outs c f (ds.take (i + 1)) = outs c f (ds.take i) ++ if c d then [f d] else [] := by
      rw [List.take_add_one, hd']; exact outs_snoc _ _ _ _
    have keepD : ∀ {F4 H4 : Hp}, Ext F2 H2 F4 H4 → F4 D = none := fun {F4 H4} x4 => by
      cases z : F4 D with
      | none => rfl
      | some o =>
        rcases x4.fr D o z with w | w
        · rw [fD] at w; cases w
        · rw [hD] at w; cases w
    intro s HH C cl fp
    refine hg s HH C cl fp G0 H0 F3 H3 _ v S3 r3 _ fun σ2 o2 S4 => ⟨wipe_off o2 his, ?_⟩
    refine ht G0 H0 F3 H3 σ2 S4 _ fun F5 H5 e5 => ?_
    cases hcd : c d with
    | false =>
      rw [if_neg Bool.false_ne_true]
      rw [hcd, if_neg Bool.false_ne_true, List.append_nil] at tk
      refine ⟨F5, acc, e13.tr e5, (e3.tr e5).h.k _ _ hD (fun _ z => nomatch z), keepD (e3.tr e5), ?_⟩
      rw [tk]
      exact rl.mono (e3.tr e5).f
    | true =>
      rw [if_pos rfl]
      rw [hcd, if_pos rfl] at tk
      intro s HH C cl fp
      refine he hcd s HH C cl fp G0 H0 F5 H5 σ2 (S4.ext e5) _ fun yv F6 H6 e6 r6 => ?_
      have e26 := e3.tr (e5.tr e6)
      have e16 := x2.tr e26
      have r6 : R X.K F6 (f d) yv := r6
      refine ⟨acc, e26.h.k _ _ hD (fun _ z => nomatch z), ?_, F6, acc ++ [yv], e16.wr nD (keepD e26) (e26.h.k _ _ hD (fun _ z => nomatch z)), upd_same, keepD e26, ?_⟩
      · have h1 := rl.length
        have h2 := outs_len c f (ds.take i)
        rw [List.length_take] at h2
        omega
      · rw [tk]
        exact (rl.mono e26.f).append (RL.cons r6 RL.nil)
  · rw [List.take_length] at rl
    exact q D acc F2 H2 (e1.tr x2) (e1.h.none nD) hD fD rl
theorem pg_b {s H C cl fp} : PG (BX X scope s H C cl fp) tg (fun v σ H Q => ∀ s H' C cl fp, uG (BX X scope s H' C cl fp) tg v σ H Q) := ⟨fun pins s' σ H' v u Q I r h => (h s H C cl fp).run pins s' u I r⟩
theorem pe_b {s H C cl fp} : PE (BX X scope s H C cl fp) elt (fun σ H Q => ∀ s H' C cl fp, uE (BX X scope s H' C cl fp) elt σ H Q) := ⟨fun pins s' σ H' Q I h => (h s H C cl fp).run pins s' I⟩
theorem pt_b {s H C cl fp} : PT (BX X scope s H C cl fp) cnd (fun σ H Q => ∀ s H' C cl fp, uT (BX X scope s H' C cl fp) cnd σ H Q) := ⟨fun pins s' σ H' Q I h => (h s H C cl fp).run pins s' I⟩
/-- [elt for tg in iter] -/
theorem eo_lc (own : List (Str × Nat)) (f : D → D) (hlen : ds.length ≤ sizeLine) (hi : IT X Δ tg iter ds)
    (hb : ∀ d ∈ ds, ∃ is Δ1, (∀ j ∈ is, j ∈ own.map (·.2)) ∧ (∀ s H C cl fp, GV (BX X scope s H C cl fp) is tg d (wipD Δ (own.map (·.2))) Δ1) ∧ (∀ s H C cl fp, EV (BX X scope s H C cl fp) Δ1 true elt (f d)))
    (hN : X.N.Nodup) (ok : BlkOk X.N X.env.scope scope own) (hc : X.calm = true := by rfl) (hs : ∀ x, foldedSetIterable iter X.env x = pure x := by intro _; rfl) : EO X Δ (.ListComp elt [⟨tg, iter, [], 0⟩] scope pos) (ds.map f) := by
  intro G0 H0 F H σ S Q q
  refine eU (pe_lc hc hN pi_u ok (fun _ _ _ _ _ => pg_b) (fun _ _ _ _ _ => pts_nil) (fun _ _ _ _ _ => pe_b) hs) ?_
  refine lc_run (c := fun _ => true) hlen hi (fun d hd => ?_) S (by rw [outs_all]; exact q)
  obtain ⟨is, Δ1, h1, h2, h3⟩ := hb d hd
  exact ⟨is, Δ1, h1, h2, fun G0 H0 F H σ S Q q => q F H (Ext.rf S.fh), fun _ => h3⟩
theorem eo_lc_a (own : List (Str × Nat)) (f : D → D) (hlen : ds.length ≤ sizeLine) (hi : IT X Δ tg iter ds) (hb : ∀ d ∈ ds, ∃ is Δ1, (∀ j ∈ is, j ∈ own.map (·.2)) ∧ (∀ s H C cl fp, GV (BX X scope s H C cl fp) is tg d (wipD Δ (own.map (·.2))) Δ1) ∧ (∀ s H C cl fp, EV (BX X scope s H C cl fp) Δ1 true elt (f d))) (hN : X.N.Nodup) (ok : BlkOk X.N X.env.scope scope own) (hc : Rf (X.calm = true)) (hs : Ri (∀ x, foldedSetIterable iter X.env x = pure x)) : EO X Δ (.ListComp elt [⟨tg, iter, [], 0⟩] scope pos) (ds.map f) := eo_lc own f hlen hi hb hN ok hc.ok hs.ok
/-- [elt for tg in iter if cnd] -/
theorem eo_lcf (own : List (Str × Nat)) (c : D → Bool) (f : D → D) (hlen : ds.length ≤ sizeLine) (hi : IT X Δ tg iter ds)
    (hb : ∀ d ∈ ds, ∃ is Δ1, (∀ j ∈ is, j ∈ own.map (·.2)) ∧ (∀ s H C cl fp, GV (BX X scope s H C cl fp) is tg d (wipD Δ (own.map (·.2))) Δ1) ∧ (∀ s H C cl fp, TV (BX X scope s H C cl fp) Δ1 cnd (c d)) ∧ (c d = true → ∀ s H C cl fp, EV (BX X scope s H C cl fp) Δ1 true elt (f d)))
    (hN : X.N.Nodup) (ok : BlkOk X.N X.env.scope scope own) (hc : X.calm = true := by rfl) (hs : ∀ x, foldedSetIterable iter X.env x = pure x := by intro _; rfl) : EO X Δ (.ListComp elt [⟨tg, iter, [cnd], 0⟩] scope pos) ((ds.filter c).map f) := by
  intro G0 H0 F H σ S Q q
  refine eU (pe_lc hc hN pi_u ok (fun _ _ _ _ _ => pg_b) (fun _ _ _ _ _ => pts_one pt_b) (fun _ _ _ _ _ => pe_b) hs) ?_
  refine lc_run (c := c) hlen hi (fun d hd => ?_) S q
  obtain ⟨is, Δ1, h1, h2, h3, h4⟩ := hb d hd
  exact ⟨is, Δ1, h1, h2, fun G0 H0 F H σ S Q q s H' C cl fp => h3 s H' C cl fp G0 H0 F H σ S Q q, h4⟩
theorem eo_lcf_a (own : List (Str × Nat)) (c : D → Bool) (f : D → D) (hlen : ds.length ≤ sizeLine) (hi : IT X Δ tg iter ds) (hb : ∀ d ∈ ds, ∃ is Δ1, (∀ j ∈ is, j ∈ own.map (·.2)) ∧ (∀ s H C cl fp, GV (BX X scope s H C cl fp) is tg d (wipD Δ (own.map (·.2))) Δ1) ∧ (∀ s H C cl fp, TV (BX X scope s H C cl fp) Δ1 cnd (c d)) ∧ (c d = true → ∀ s H C cl fp, EV (BX X scope s H C cl fp) Δ1 true elt (f d))) (hN : X.N.Nodup) (ok : BlkOk X.N X.env.scope scope own) (hc : Rf (X.calm = true)) (hs : Ri (∀ x, foldedSetIterable iter X.env x = pure x)) : EO X Δ (.ListComp elt [⟨tg, iter, [cnd], 0⟩] scope pos) ((ds.filter c).map f) := eo_lcf own c f hlen hi hb hN ok hc.ok hs.ok
/-- y = [elt for tg in iter], on one row -/
theorem sm_lc {i : Nat} {y : Str} {C : Out → Prop} (own : List (Str × Nat)) (f : D → D) (hlen : ds.length ≤ sizeLine) (hy : X.N[i]? = some y) (hyl : X.env.scope.names.lookup y = some .local) (hi : IT X Δ tg iter ds)
    (hb : ∀ d ∈ ds, ∃ is Δ1, (∀ j ∈ is, j ∈ own.map (·.2)) ∧ (∀ s H C cl fp, GV (BX X scope s H C cl fp) is tg d (wipD Δ (own.map (·.2))) Δ1) ∧ (∀ s H C cl fp, EV (BX X scope s H C cl fp) Δ1 true elt (f d)))
    (k : C (.nx (Δ.set i (.o (ds.map f))))) (hN : X.N.Nodup) (ok : BlkOk X.N X.env.scope scope own) (hsw : swapsWith (.ListComp elt [⟨tg, iter, [], 0⟩] scope pos) (some (.Name y py)) pos'.line X.env = pure true := by exact sw_true rfl rfl rfl (by decide +kernel))
    (hc : X.calm = true := by rfl) (hs : ∀ x, foldedSetIterable iter X.env x = pure x := by intro _; rfl) : Sm X (.Assign [.Name y py] (.ListComp elt [⟨tg, iter, [], 0⟩] scope pos) pos') Δ C := by
  intro G0 H0 F H σ S D q
  refine sU1 (ps_setLc (i := i) hc hN hy hyl hsw pi_u ok (fun _ _ _ _ _ => pg_b) (fun _ _ _ _ _ => pts_nil) (fun _ _ _ _ _ => pe_b) hs) ?_
  refine lc_run (c := fun _ => true) hlen hi (fun d hd => ?_) S (fun p vs F' H' e n h1 f1 r => q _ k F' H' _ (S.seto e n h1 f1 (by rw [outs_all] at r; exact r)))
  obtain ⟨is, Δ1, h1, h2, h3⟩ := hb d hd
  exact ⟨is, Δ1, h1, h2, fun G0 H0 F H σ S Q q => q F H (Ext.rf S.fh), fun _ => h3⟩
theorem sm_lc_a {i : Nat} {y : Str} {C : Out → Prop} (own : List (Str × Nat)) (f : D → D) (hlen : ds.length ≤ sizeLine) (hy : X.N[i]? = some y) (hyl : X.env.scope.names.lookup y = some .local) (hi : IT X Δ tg iter ds) (hb : ∀ d ∈ ds, ∃ is Δ1, (∀ j ∈ is, j ∈ own.map (·.2)) ∧ (∀ s H C cl fp, GV (BX X scope s H C cl fp) is tg d (wipD Δ (own.map (·.2))) Δ1) ∧ (∀ s H C cl fp, EV (BX X scope s H C cl fp) Δ1 true elt (f d))) (k : C (.nx (Δ.set i (.o (ds.map f))))) (hN : X.N.Nodup) (ok : BlkOk X.N X.env.scope scope own) (hsw : Rw (swapsWith (.ListComp elt [⟨tg, iter, [], 0⟩] scope pos) (some (.Name y py)) pos'.line X.env = pure true)) (hc : Rf (X.calm = true)) (hs : Ri (∀ x, foldedSetIterable iter X.env x = pure x)) : Sm X (.Assign [.Name y py] (.ListComp elt [⟨tg, iter, [], 0⟩] scope pos) pos') Δ C := sm_lc own f hlen hy hyl hi hb k hN ok hsw.ok hc.ok hs.ok
theorem sm_lcf {i : Nat} {y : Str} {C : Out → Prop} (own : List (Str × Nat)) (c : D → Bool) (f : D → D) (hlen : ds.length ≤ sizeLine) (hy : X.N[i]? = some y) (hyl : X.env.scope.names.lookup y = some .local) (hi : IT X Δ tg iter ds)
    (hb : ∀ d ∈ ds, ∃ is Δ1, (∀ j ∈ is, j ∈ own.map (·.2)) ∧ (∀ s H C cl fp, GV (BX X scope s H C cl fp) is tg d (wipD Δ (own.map (·.2))) Δ1) ∧ (∀ s H C cl fp, TV (BX X scope s H C cl fp) Δ1 cnd (c d)) ∧ (c d = true → ∀ s H C cl fp, EV (BX X scope s H C cl fp) Δ1 true elt (f d)))
    (k : C (.nx (Δ.set i (.o ((ds.filter c).map f))))) (hN : X.N.Nodup) (ok : BlkOk X.N X.env.scope scope own) (hsw : swapsWith (.ListComp elt [⟨tg, iter, [cnd], 0⟩] scope pos) (some (.Name y py)) pos'.line X.env = pure true := by exact sw_true rfl rfl rfl (by decide +kernel))
    (hc : X.calm = true := by rfl) (hs : ∀ x, foldedSetIterable iter X.env x = pure x := by intro _; rfl) : Sm X (.Assign [.Name y py] (.ListComp elt [⟨tg, iter, [cnd], 0⟩] scope pos) pos') Δ C := by
  intro G0 H0 F H σ S D q
  refine sU1 (ps_setLc (i := i) hc hN hy hyl hsw pi_u ok (fun _ _ _ _ _ => pg_b) (fun _ _ _ _ _ => pts_one pt_b) (fun _ _ _ _ _ => pe_b) hs) ?_
  refine lc_run (c := c) hlen hi (fun d hd => ?_) S (fun p vs F' H' e n h1 f1 r => q _ k F' H' _ (S.seto e n h1 f1 r))
  obtain ⟨is, Δ1, h1, h2, h3, h4⟩ := hb d hd
  exact ⟨is, Δ1, h1, h2, fun G0 H0 F H σ S Q q s H' C cl fp => h3 s H' C cl fp G0 H0 F H σ S Q q, h4⟩
theorem sm_lcf_a {i : Nat} {y : Str} {C : Out → Prop} (own : List (Str × Nat)) (c : D → Bool) (f : D → D) (hlen : ds.length ≤ sizeLine) (hy : X.N[i]? = some y) (hyl : X.env.scope.names.lookup y = some .local) (hi : IT X Δ tg iter ds) (hb : ∀ d ∈ ds, ∃ is Δ1, (∀ j ∈ is, j ∈ own.map (·.2)) ∧ (∀ s H C cl fp, GV (BX X scope s H C cl fp) is tg d (wipD Δ (own.map (·.2))) Δ1) ∧ (∀ s H C cl fp, TV (BX X scope s H C cl fp) Δ1 cnd (c d)) ∧ (c d = true → ∀ s H C cl fp, EV (BX X scope s H C cl fp) Δ1 true elt (f d))) (k : C (.nx (Δ.set i (.o ((ds.filter c).map f))))) (hN : X.N.Nodup) (ok : BlkOk X.N X.env.scope scope own) (hsw : Rw (swapsWith (.ListComp elt [⟨tg, iter, [cnd], 0⟩] scope pos) (some (.Name y py)) pos'.line X.env = pure true)) (hc : Rf (X.calm = true)) (hs : Ri (∀ x, foldedSetIterable iter X.env x = pure x)) : Sm X (.Assign [.Name y py] (.ListComp elt [⟨tg, iter, [cnd], 0⟩] scope pos) pos') Δ C := sm_lcf own c f hlen hy hyl hi hb k hN ok hsw.ok hc.ok hs.ok
theorem blk_of {N ps N' : List Str} {sc scope sc' : Scope} {own : List (Str × Nat)} (S : FnScope N ps sc) (h : blkC N sc scope own = true) (e1 : N = N') (e2 : sc = sc') : BlkOk N' sc' scope own := by subst e1 e2; exact blkOk_by h
end
end Z

namespace Z
open PySem PySem.Spec PyProof.Rows L2
variable [τ : Tb]

def D.toI : D → Int | .int i => i | _ => 0
def D.toS : D → Str | .str z => z | _ => ⟨#[]⟩
def D.toB : D → Bool | .bl b => b | _ => false
def D.toL : D → List D | .lst l => l | .tup l => l | _ => []

/-! ### == of data -/
mutual
def toPy : D → PyData
  | .non => .none | .bl b => .bool b | .int i => .int i | .str x => .str x | .scr ns => .list (ns.map PyData.int)
  | .lst ds => .list (toPys ds) | .tup ds => .tuple (toPys ds) | .obj _ _ => .none | .opq _ => .none
def toPys : List D → List PyData
  | [] => [] | d :: ds => toPy d :: toPys ds
end
mutual
/-- data that == compares, not deeper than n -/
def eqOk : Nat → D → Bool
  | _, .non => true | _, .bl _ => true | _, .int _ => true | _, .str x => PyData.strOk x | _, .scr _ => false | _, .obj _ _ => false | _, .opq _ => false
  | 0, .lst _ => false | 0, .tup _ => false
  | n + 1, .lst ds => eqOks n ds | n + 1, .tup ds => eqOks n ds
def eqOks : Nat → List D → Bool
  | _, [] => true
  | n, d :: ds => eqOk n d && eqOks n ds
end
mutual
theorem eqOk_lay : ∀ (n : Nat) (d : D), eqOk n d = true → (toPy d).canLay0 = true ∧ (toPy d).depth ≤ n
  | n, .non, _ => by simp [toPy, PyData.canLay0, PyData.depth]
  | n, .bl _, _ => by simp [toPy, PyData.canLay0, PyData.depth]
  | n, .int _, _ => by simp [toPy, PyData.canLay0, PyData.depth]
  | n, .str x, h => by
    refine ⟨?_, by simp [toPy, PyData.depth]⟩
    rw [toPy, PyData.canLay0]
    cases n <;> (rw [eqOk] at h; exact h)
  | n, .scr _, h => by cases n <;> (rw [eqOk] at h; cases h)
  | n, .obj _ _, h => by cases n <;> (rw [eqOk] at h; cases h)
  | n, .opq _, h => by cases n <;> (rw [eqOk] at h; cases h)
  | 0, .lst _, h => by rw [eqOk] at h; cases h
  | 0, .tup _, h => by rw [eqOk] at h; cases h
  | n + 1, .lst ds, h => by
    rw [eqOk] at h
    obtain ⟨a, b⟩ := eqOks_lay n ds h
    rw [toPy, PyData.canLay0, PyData.depth]
    exact ⟨a, by omega⟩
  | n + 1, .tup ds, h => by
    rw [eqOk] at h
    obtain ⟨a, b⟩ := eqOks_lay n ds h
    rw [toPy, PyData.canLay0, PyData.depth]
    exact ⟨a, by omega⟩
theorem eqOks_lay : ∀ (n : Nat) (ds : List D), eqOks n ds = true → PyData.canLayAll0 (toPys ds) = true ∧ PyData.depthAll (toPys ds) ≤ n
  | n, [], _ => by simp [toPys, PyData.canLayAll0, PyData.depthAll]
  | n, d :: ds, h => by
    rw [eqOks, Bool.and_eq_true] at h
    obtain ⟨a, b⟩ := eqOk_lay n d h.1
    obtain ⟨a2, b2⟩ := eqOks_lay n ds h.2
    rw [toPys, PyData.canLayAll0, PyData.depthAll, Bool.and_eq_true]
    exact ⟨⟨a, a2⟩, by omega⟩
end
theorem eqOk_shaped {d : D} (h : eqOk 64 d = true) : SeqAt.shaped (toPy d) = true := by
  obtain ⟨a, b⟩ := eqOk_lay 64 d h
  unfold SeqAt.shaped
  rw [a, decide_eq_true b]; rfl
theorem eqOks_ints (n : Nat) : ∀ ns : List Int, eqOks n (ns.map D.int) = true
  | [] => by cases n <;> rfl
  | i :: ns => by
    rw [List.map_cons, eqOks, eqOks_ints n ns]
    cases n <;> rfl
theorem eqOk_ints (n : Nat) (ns : List Int) : eqOk (n + 1) (.lst (ns.map D.int)) = true := by rw [eqOk]; exact eqOks_ints n ns
theorem eqOks_of (n : Nat) : ∀ ds : List D, (∀ d ∈ ds, eqOk n d = true) → eqOks n ds = true
  | [], _ => by cases n <;> rfl
  | d :: ds, h => by
    rw [eqOks, h d List.mem_cons_self, eqOks_of n ds fun e he => h e (List.mem_cons_of_mem _ he)]; rfl
theorem eqOk_lists (n : Nat) (rs : List (List Int)) : eqOk (n + 2) (.lst (rs.map fun r => D.lst (r.map D.int))) = true := by
  rw [eqOk]
  refine eqOks_of _ _ fun d hd => ?_
  obtain ⟨r, _, rfl⟩ := List.mem_map.mp hd
  exact eqOk_ints n r
mutual
theorem dp_of {K : PySem.W.Frag} {H : Hp} : ∀ (n : Nat) (d : D) (v : V), eqOk n d = true → R K H d v → Dp K H v (toPy d)
  | n, .non, v, _, r => by rw [r_non.mp r, toPy]; exact .non
  | n, .bl b, v, _, r => by rw [r_bl.mp r, toPy]; exact .bl b
  | n, .int i, v, _, r => by rw [r_int.mp r, toPy]; exact .int i
  | n, .str x, v, _, r => by rw [r_str.mp r, toPy]; exact .str x
  | n, .scr _, v, h, r => by cases n <;> (rw [eqOk] at h; cases h)
  | n, .obj _ _, v, h, r => by cases n <;> (rw [eqOk] at h; cases h)
  | n, .opq _, v, h, r => by cases n <;> (rw [eqOk] at h; cases h)
  | 0, .lst _, v, h, r => by rw [eqOk] at h; cases h
  | 0, .tup _, v, h, r => by rw [eqOk] at h; cases h
  | n + 1, .lst ds, v, h, r => by
    rw [eqOk] at h
    obtain ⟨a, vs, rfl, g, l⟩ := r_lst.mp r
    rw [toPy]
    exact .lst (SqL.of g) (dps_of n ds vs h l)
  | n + 1, .tup ds, v, h, r => by
    rw [eqOk] at h
    obtain ⟨a, vs, rfl, g, l⟩ := r_tup.mp r
    rw [toPy]
    exact .tup (SqT.of g) (dps_of n ds vs h l)
theorem dps_of {K : PySem.W.Frag} {H : Hp} : ∀ (n : Nat) (ds : List D) (vs : List V), eqOks n ds = true → RL K H ds vs → DpAll K H vs (toPys ds)
  | n, [], vs, _, r => by rw [rl_nil.mp r, toPys]; exact .nil
  | n, d :: ds, vs, h, r => by
    rw [eqOks, Bool.and_eq_true] at h
    obtain ⟨v, vs', rfl, a, b⟩ := rl_cons.mp r
    rw [toPys]
    exact .cons (dp_of n d v h.1 a) (dps_of n ds vs' h.2 b)
end
section
variable {X : Cx} {Δ : List Sl} {m : Bool} {e a b c o : Expr} {es : List Expr} {d x y : D} {ds : List D} {pos p p2 apos : Pos} {n : Str}
theorem ev_eqD (ha : EV X Δ false a x) (hb : EV X Δ false b y) (hu : X.A.units + 64 < cLine) (h1 : eqOk 64 x = true) (h2 : eqOk 64 y = true) : EV X Δ m (.Compare a [.Eq] [b] pos) (.bl (PyData.eqv (toPy x) (toPy y))) := by
  intro G0 H0 F H σ S Q q
  refine eU (pe_cmpR (op_eqD hu) pe_u pe_u (nomark _)) (two ha hb S fun v w F' H' e r1 r2 => ?_)
  exact ⟨_, _, dp_of 64 x v h1 r1, dp_of 64 y w h2 r2, eqOk_shaped h1, eqOk_shaped h2, q _ F' H' e (r_bl.mpr rfl)⟩
theorem ev_neD (ha : EV X Δ false a x) (hb : EV X Δ false b y) (hu : X.A.units + 64 < cLine) (h1 : eqOk 64 x = true) (h2 : eqOk 64 y = true) : EV X Δ m (.Compare a [.NotEq] [b] pos) (.bl (!PyData.eqv (toPy x) (toPy y))) := by
  intro G0 H0 F H σ S Q q
  refine eU (pe_cmpR (op_neD hu) pe_u pe_u (nomark _)) (two ha hb S fun v w F' H' e r1 r2 => ?_)
  exact ⟨_, _, dp_of 64 x v h1 r1, dp_of 64 y w h2 r2, eqOk_shaped h1, eqOk_shaped h2, q _ F' H' e (r_bl.mpr rfl)⟩
theorem eqv_self (h : eqOk 64 x = true) : PyData.eqv (toPy x) (toPy x) = true := SeqAt.eqv_refl _ (eqOk_lay 64 x h).1
/-- the same datum twice -/
theorem ev_eqR (ha : EV X Δ false a x) (hb : EV X Δ false b x) (hu : X.A.units + 64 < cLine) (h1 : eqOk 64 x = true) : EV X Δ m (.Compare a [.Eq] [b] pos) (.bl true) := by
  have := ev_eqD (m := m) (pos := pos) ha hb hu h1 h1
  rw [eqv_self h1] at this; exact this
theorem ev_neR (ha : EV X Δ false a x) (hb : EV X Δ false b x) (hu : X.A.units + 64 < cLine) (h1 : eqOk 64 x = true) : EV X Δ m (.Compare a [.NotEq] [b] pos) (.bl false) := by
  have := ev_neD (m := m) (pos := pos) ha hb hu h1 h1
  rw [eqv_self h1] at this; exact this
theorem tv_of_ev {op : CmpOp} {t : Bool} {r : R2} (ho : OpR X (compareOp op) r) (hm : behindInMarks op b = false) (ha : EV X Δ false a x) (hb : EV X Δ false b y) (h : ∀ v w H, R X.K H x v → R X.K H y w → ∀ Q : VK, Q (.bl t) H → r v w H Q) : TV X Δ (.Compare a [op] [b] pos) t :=
  tv_cmp ho hm fun G0 H0 F H σ S Q q => two ha hb S fun v w F' H' e r1 r2 => h v w H' r1 r2 Q (q _ F' H' e rfl)
theorem tv_eqR (ha : EV X Δ false a x) (hb : EV X Δ false b x) (hu : X.A.units + 64 < cLine) (h1 : eqOk 64 x = true) : TV X Δ (.Compare a [.Eq] [b] pos) true :=
  tv_of_ev (op_eqD hu) (nomark _) ha hb fun v w H r1 r2 Q q => ⟨_, _, dp_of 64 x v h1 r1, dp_of 64 x w h1 r2, eqOk_shaped h1, eqOk_shaped h1, by rw [eqv_self h1]; exact q⟩
theorem tv_neR (ha : EV X Δ false a x) (hb : EV X Δ false b x) (hu : X.A.units + 64 < cLine) (h1 : eqOk 64 x = true) : TV X Δ (.Compare a [.NotEq] [b] pos) false :=
  tv_of_ev (op_neD hu) (nomark _) ha hb fun v w H r1 r2 Q q => ⟨_, _, dp_of 64 x v h1 r1, dp_of 64 x w h1 r2, eqOk_shaped h1, eqOk_shaped h1, by rw [eqv_self h1]; exact q⟩
theorem tv_eqD (ha : EV X Δ false a x) (hb : EV X Δ false b y) (hu : X.A.units + 64 < cLine) (h1 : eqOk 64 x = true) (h2 : eqOk 64 y = true) : TV X Δ (.Compare a [.Eq] [b] pos) (PyData.eqv (toPy x) (toPy y)) :=
  tv_of_ev (op_eqD hu) (nomark _) ha hb fun v w H r1 r2 Q q => ⟨_, _, dp_of 64 x v h1 r1, dp_of 64 y w h2 r2, eqOk_shaped h1, eqOk_shaped h2, q⟩
theorem tv_neD (ha : EV X Δ false a x) (hb : EV X Δ false b y) (hu : X.A.units + 64 < cLine) (h1 : eqOk 64 x = true) (h2 : eqOk 64 y = true) : TV X Δ (.Compare a [.NotEq] [b] pos) (!PyData.eqv (toPy x) (toPy y)) :=
  tv_of_ev (op_neD hu) (nomark _) ha hb fun v w H r1 r2 Q q => ⟨_, _, dp_of 64 x v h1 r1, dp_of 64 y w h2 r2, eqOk_shaped h1, eqOk_shaped h2, q⟩

/-! ### in a list of flat things -/
theorem flat_V {K : PySem.W.Frag} {G : Hp} {v : V} (f : flat x = true) (r : R K G x v) : flatV v = true := by
  cases x <;> first
    | (unfold R at r; rw [r]; rfl)
    | (exact absurd f (by simp [flat]))
theorem flats_V {K : PySem.W.Frag} {G : Hp} : ∀ {ds : List D} {vs : List V}, ds.all flat = true → RL K G ds vs → vs.all flatV = true
  | [], _, _, h => by rw [rl_nil.mp h]; rfl
  | d :: ds, _, f, h => by
    obtain ⟨v, vs', rfl, a, b⟩ := rl_cons.mp h
    rw [List.all_cons, Bool.and_eq_true] at f
    rw [List.all_cons, flat_V f.1 a, flats_V f.2 b]; rfl
theorem flats_toV {K : PySem.W.Frag} {G : Hp} : ∀ {ds : List D} {vs : List V}, ds.all flat = true → RL K G ds vs → vs = ds.map toV
  | [], _, _, h => by rw [rl_nil.mp h]; rfl
  | d :: ds, _, f, h => by
    obtain ⟨v, vs', rfl, a, b⟩ := rl_cons.mp h
    rw [List.all_cons, Bool.and_eq_true] at f
    rw [r_flat f.1 a, flats_toV f.2 b]; rfl
def inD (x : D) (ds : List D) : Bool := inV (toV x) (ds.map toV)
theorem flat_ints (ns : List Int) : (ns.map D.int).all flat = true := by rw [List.all_map]; exact List.all_eq_true.mpr fun _ _ => rfl
theorem flat_strs (ns : List Str) : (ns.map D.str).all flat = true := by rw [List.all_map]; exact List.all_eq_true.mpr fun _ _ => rfl
theorem inD_ints (i : Int) (ns : List Int) : inD (.int i) (ns.map D.int) = decide (i ∈ ns) := by
  unfold inD inV
  induction ns with
  | nil => rfl
  | cons k ns ih =>
    rw [List.map_cons, List.map_cons, List.any_cons, ih]
    show (eqV (.int k) (.int i) || _) = _
    by_cases h : k = i
    · subst h; simp [eqV]
    · have : ¬ i = k := fun e => h e.symm
      simp [eqV, h, this]
theorem ev_inL (ha : EV X Δ false a x) (hb : EV X Δ false b (.lst ds)) (f1 : flat x = true) (f2 : ds.all flat = true) (hm : behindInMarks .In b = false := by first | rfl | (with_unfolding_all rfl)) : EV X Δ m (.Compare a [.In] [b] pos) (.bl (inD x ds)) := by
  intro G0 H0 F H σ S Q q
  refine eU (pe_cmpR op_in_seq pe_u pe_u hm) (two ha hb S fun v w F' H' e r1 r2 => ?_)
  obtain ⟨p, vs, rfl, g, l⟩ := r_lst.mp r2
  refine ⟨p, vs, rfl, .inl (SqL.of g), flat_V f1 r1, flats_V f2 l, q _ F' H' e (r_bl.mpr ?_)⟩
  rw [r_flat f1 r1, flats_toV f2 l, if_neg Bool.false_ne_true]; rfl
theorem ev_inL_a (ha : EV X Δ false a x) (hb : EV X Δ false b (.lst ds)) (f1 : flat x = true) (f2 : ds.all flat = true) (hm : Ru (behindInMarks .In b = false)) : EV X Δ m (.Compare a [.In] [b] pos) (.bl (inD x ds)) := ev_inL ha hb f1 f2 hm.ok
theorem ev_ninL (ha : EV X Δ false a x) (hb : EV X Δ false b (.lst ds)) (f1 : flat x = true) (f2 : ds.all flat = true) (hm : behindInMarks .NotIn b = false := by first | rfl | (with_unfolding_all rfl)) : EV X Δ m (.Compare a [.NotIn] [b] pos) (.bl (!inD x ds)) := by
  intro G0 H0 F H σ S Q q
  refine eU (pe_cmpR op_notIn_seq pe_u pe_u hm) (two ha hb S fun v w F' H' e r1 r2 => ?_)
  obtain ⟨p, vs, rfl, g, l⟩ := r_lst.mp r2
  refine ⟨p, vs, rfl, .inl (SqL.of g), flat_V f1 r1, flats_V f2 l, q _ F' H' e (r_bl.mpr ?_)⟩
  rw [r_flat f1 r1, flats_toV f2 l, if_pos rfl]; rfl
theorem ev_ninL_a (ha : EV X Δ false a x) (hb : EV X Δ false b (.lst ds)) (f1 : flat x = true) (f2 : ds.all flat = true) (hm : Ru (behindInMarks .NotIn b = false)) : EV X Δ m (.Compare a [.NotIn] [b] pos) (.bl (!inD x ds)) := ev_ninL ha hb f1 f2 hm.ok
theorem tv_inL (ha : EV X Δ false a x) (hb : EV X Δ false b (.lst ds)) (f1 : flat x = true) (f2 : ds.all flat = true) (hm : behindInMarks .In b = false := by first | rfl | (with_unfolding_all rfl)) : TV X Δ (.Compare a [.In] [b] pos) (inD x ds) :=
  tv_of_ev op_in_seq hm ha hb fun v w H r1 r2 Q q => by
    obtain ⟨p, vs, rfl, g, l⟩ := r_lst.mp r2
    refine ⟨p, vs, rfl, .inl (SqL.of g), flat_V f1 r1, flats_V f2 l, ?_⟩
    rw [r_flat f1 r1, flats_toV f2 l, if_neg Bool.false_ne_true]; exact q
theorem tv_inL_a (ha : EV X Δ false a x) (hb : EV X Δ false b (.lst ds)) (f1 : flat x = true) (f2 : ds.all flat = true) (hm : Ru (behindInMarks .In b = false)) : TV X Δ (.Compare a [.In] [b] pos) (inD x ds) := tv_inL ha hb f1 f2 hm.ok
theorem tv_ninL (ha : EV X Δ false a x) (hb : EV X Δ false b (.lst ds)) (f1 : flat x = true) (f2 : ds.all flat = true) (hm : behindInMarks .NotIn b = false := by first | rfl | (with_unfolding_all rfl)) : TV X Δ (.Compare a [.NotIn] [b] pos) (!inD x ds) :=
  tv_of_ev op_notIn_seq hm ha hb fun v w H r1 r2 Q q => by
    obtain ⟨p, vs, rfl, g, l⟩ := r_lst.mp r2
    refine ⟨p, vs, rfl, .inl (SqL.of g), flat_V f1 r1, flats_V f2 l, ?_⟩
    rw [r_flat f1 r1, flats_toV f2 l, if_pos rfl]; exact q
theorem tv_ninL_a (ha : EV X Δ false a x) (hb : EV X Δ false b (.lst ds)) (f1 : flat x = true) (f2 : ds.all flat = true) (hm : Ru (behindInMarks .NotIn b = false)) : TV X Δ (.Compare a [.NotIn] [b] pos) (!inD x ds) := tv_ninL ha hb f1 f2 hm.ok
/-- a written tuple on the right -/
theorem tv_inT (ha : EV X Δ false a x) (hb : EV X Δ false b (.tup ds)) (f1 : flat x = true) (f2 : ds.all flat = true) (hm : behindInMarks .In b = false := by first | rfl | (with_unfolding_all rfl)) : TV X Δ (.Compare a [.In] [b] pos) (inD x ds) :=
  tv_of_ev op_in_seq hm ha hb fun v w H r1 r2 Q q => by
    obtain ⟨p, vs, rfl, g, l⟩ := r_tup.mp r2
    refine ⟨p, vs, rfl, .inr (SqT.of g), flat_V f1 r1, flats_V f2 l, ?_⟩
    rw [r_flat f1 r1, flats_toV f2 l, if_neg Bool.false_ne_true]; exact q

theorem tv_inT_a (ha : EV X Δ false a x) (hb : EV X Δ false b (.tup ds)) (f1 : flat x = true) (f2 : ds.all flat = true) (hm : Ru (behindInMarks .In b = false)) : TV X Δ (.Compare a [.In] [b] pos) (inD x ds) := tv_inT ha hb f1 f2 hm.ok
/-! ### texts -/
theorem ev_slS {lo hi : Option Expr} {l u : Option Int} {z : Str} (ha : EV X Δ false a (.str z)) (hl : OV X Δ lo l) (hu : OV X Δ hi u) (hz : z.length ≤ sizeLine) : EV X Δ m (.Subscript a (.Slice lo hi none p2) pos) (.str (cutS z l u)) := by
  refine EV.up (fun G0 H0 F H σ S Q q => ?_) rfl
  refine eU (pe_slice sl_str pe_u po_u po_u) (ha G0 H0 F H σ S _ fun v F1 H1 e1 r1 => ?_)
  refine hl G0 H0 F1 H1 σ (S.ext e1) _ fun F2 H2 e2 => hu G0 H0 F2 H2 σ (S.ext (e1.tr e2)) _ fun F3 H3 e3 => ?_
  exact ⟨z, r_str.mp r1, hz, q _ F3 H3 (e1.tr (e2.tr e3)) (r_str.mpr rfl)⟩
theorem ev_zfill {z : Str} {i : Int} (ho : EV X Δ false o (.str z)) (he : EV X Δ false e (.int i)) (hp : PadOk i = true) (hs : starEach [e] X.env = [(false, eval e X.env)] := by rfl) (hb : attributeBase o "zfill" X.env (eval o X.env) = eval o X.env := by rfl) (hl : (apos.endLine == pos.line) = true := by rfl) : EV X Δ m (.Call (.Attribute o "zfill" apos) [e] [] pos) (.str (Txt.zfill z i)) := by
  intro G0 H0 F H σ S Q q
  refine eU (pe_m1 PySem.F.slot_str_zfill PySem.F.type_str_zfill mt_zfill pe_u pe_u hs hb hl) (ho G0 H0 F H σ S _ fun v F' H' e r1 => ?_)
  refine ⟨⟨z, r_str.mp r1⟩, he G0 H0 F' H' σ (S.ext e) _ fun w F2 H2 e2 r2 => ?_⟩
  exact ⟨z, i, r_str.mp r1, by rw [r_int.mp r2], hp, q _ F2 H2 (e.tr e2) (r_str.mpr rfl)⟩
theorem ev_zfill_a {z : Str} {i : Int} (ho : EV X Δ false o (.str z)) (he : EV X Δ false e (.int i)) (hp : PadOk i = true) (hs : Rf (starEach [e] X.env = [(false, eval e X.env)])) (hb : Rf (attributeBase o "zfill" X.env (eval o X.env) = eval o X.env)) (hl : Rf ((apos.endLine == pos.line) = true)) : EV X Δ m (.Call (.Attribute o "zfill" apos) [e] [] pos) (.str (Txt.zfill z i)) := ev_zfill ho he hp hs.ok hb.ok hl.ok
theorem ev_startswith {z t : Str} (ho : EV X Δ false o (.str z)) (he : EV X Δ false e (.str t)) (hs : starEach [e] X.env = [(false, eval e X.env)] := by rfl) (hb : attributeBase o "startswith" X.env (eval o X.env) = eval o X.env := by rfl) (hl : (apos.endLine == pos.line) = true := by rfl) : EV X Δ m (.Call (.Attribute o "startswith" apos) [e] [] pos) (.bl (Txt.startswith z t)) := by
  intro G0 H0 F H σ S Q q
  refine eU (pe_m1 PySem.F.slot_str_startswith PySem.F.type_str_startswith mt_startswith pe_u pe_u hs hb hl) (ho G0 H0 F H σ S _ fun v F' H' e r1 => ?_)
  refine ⟨⟨z, r_str.mp r1⟩, he G0 H0 F' H' σ (S.ext e) _ fun w F2 H2 e2 r2 => ?_⟩
  exact ⟨z, t, r_str.mp r1, by rw [r_str.mp r2], q _ F2 H2 (e.tr e2) (r_bl.mpr rfl)⟩
theorem ev_startswith_a {z t : Str} (ho : EV X Δ false o (.str z)) (he : EV X Δ false e (.str t)) (hs : Rf (starEach [e] X.env = [(false, eval e X.env)])) (hb : Rf (attributeBase o "startswith" X.env (eval o X.env) = eval o X.env)) (hl : Rf ((apos.endLine == pos.line) = true)) : EV X Δ m (.Call (.Attribute o "startswith" apos) [e] [] pos) (.bl (Txt.startswith z t)) := ev_startswith ho he hs.ok hb.ok hl.ok
theorem ev_partition {z t : Str} (ho : EV X Δ false o (.str z)) (he : EV X Δ false e (.str t)) (h1 : (t.length == 0) = false) (h2 : z.length ≤ sizeLine) (hs : starEach [e] X.env = [(false, eval e X.env)] := by rfl) (hb : attributeBase o "partition" X.env (eval o X.env) = eval o X.env := by rfl) (hl : (apos.endLine == pos.line) = true := by rfl) : EV X Δ m (.Call (.Attribute o "partition" apos) [e] [] pos) (.tup [.str (Txt.partition z t).1, .str (Txt.partition z t).2.1, .str (Txt.partition z t).2.2]) := by
  refine EV.weak fun G0 H0 F H σ S Q q => ?_
  refine eU (pe_partition pe_u pe_u hs hb hl) (ho G0 H0 F H σ S _ fun v F' H' e r1 => ?_)
  refine ⟨⟨z, r_str.mp r1⟩, he G0 H0 F' H' σ (S.ext e) _ fun w F2 H2 e2 r2 => ?_⟩
  refine ⟨z, t, r_str.mp r1, by rw [r_str.mp r2], h1, h2, fun pp np => ?_⟩
  exact q _ _ _ ((e.tr e2).tr (Ext.put e2.fh np)) (r_tup.mpr ⟨pp, _, rfl, upd_same, RL.cons (r_str.mpr rfl) (RL.cons (r_str.mpr rfl) (RL.cons (r_str.mpr rfl) RL.nil))⟩)
theorem ev_partition_a {z t : Str} (ho : EV X Δ false o (.str z)) (he : EV X Δ false e (.str t)) (h1 : (t.length == 0) = false) (h2 : z.length ≤ sizeLine) (hs : Rf (starEach [e] X.env = [(false, eval e X.env)])) (hb : Rf (attributeBase o "partition" X.env (eval o X.env) = eval o X.env)) (hl : Rf ((apos.endLine == pos.line) = true)) : EV X Δ m (.Call (.Attribute o "partition" apos) [e] [] pos) (.tup [.str (Txt.partition z t).1, .str (Txt.partition z t).2.1, .str (Txt.partition z t).2.2]) := ev_partition ho he h1 h2 hs.ok hb.ok hl.ok
theorem eo_split {z t : Str} (ho : EV X Δ false o (.str z)) (he : EV X Δ false e (.str t)) (h1 : (t.length == 0) = false) (h2 : z.length + 2 ≤ sizeLine) (hs : starEach [e] X.env = [(false, eval e X.env)] := by rfl) (hb : attributeBase o "split" X.env (eval o X.env) = eval o X.env := by rfl) (hl : (apos.endLine == pos.line) = true := by rfl) : EO X Δ (.Call (.Attribute o "split" apos) [e] [] pos) ((Txt.split z t).map D.str) := by
  intro G0 H0 F H σ S Q q
  refine eU (pe_split pe_u pe_u hs hb hl) (ho G0 H0 F H σ S _ fun v F' H' e r1 => ?_)
  refine ⟨⟨z, r_str.mp r1⟩, he G0 H0 F' H' σ (S.ext e) _ fun w F2 H2 e2 r2 => ?_⟩
  have x := e.tr e2
  refine ⟨z, t, r_str.mp r1, by rw [r_str.mp r2], h1, h2, fun pp np => ?_⟩
  exact q pp _ F2 _ (x.tr (Ext.grow x.fh (Sub.new np))) (x.h.none np) upd_same (x.fh.none np) RL.of_strs
theorem eo_split_a {z t : Str} (ho : EV X Δ false o (.str z)) (he : EV X Δ false e (.str t)) (h1 : (t.length == 0) = false) (h2 : z.length + 2 ≤ sizeLine) (hs : Rf (starEach [e] X.env = [(false, eval e X.env)])) (hb : Rf (attributeBase o "split" X.env (eval o X.env) = eval o X.env)) (hl : Rf ((apos.endLine == pos.line) = true)) : EO X Δ (.Call (.Attribute o "split" apos) [e] [] pos) ((Txt.split z t).map D.str) := eo_split ho he h1 h2 hs.ok hb.ok hl.ok
theorem ev_inSign {k : Nat} {z : Str} (ha : EV X Δ false a (.str ⟨#[k]⟩)) (hb : EV X Δ false b (.str z)) (hm : behindInMarks .In b = false := by first | rfl | (with_unfolding_all rfl)) : EV X Δ m (.Compare a [.In] [b] pos) (.bl (decide (k ∈ z.cps.toList))) := by
  intro G0 H0 F H σ S Q q
  refine eU (pe_cmpR op_in_sign pe_u pe_u hm) (two ha hb S fun v w F' H' e r1 r2 => ?_)
  exact ⟨k, z, r_str.mp r1, r_str.mp r2, q _ F' H' e (r_bl.mpr rfl)⟩
theorem ev_inSign_a {k : Nat} {z : Str} (ha : EV X Δ false a (.str ⟨#[k]⟩)) (hb : EV X Δ false b (.str z)) (hm : Ru (behindInMarks .In b = false)) : EV X Δ m (.Compare a [.In] [b] pos) (.bl (decide (k ∈ z.cps.toList))) := ev_inSign ha hb hm.ok
theorem tv_ninSign {k : Nat} {z : Str} (ha : EV X Δ false a (.str ⟨#[k]⟩)) (hb : EV X Δ false b (.str z)) (hm : behindInMarks .NotIn b = false := by first | rfl | (with_unfolding_all rfl)) : TV X Δ (.Compare a [.NotIn] [b] pos) (!decide (k ∈ z.cps.toList)) :=
  tv_of_ev op_notIn_sign hm ha hb fun v w H r1 r2 Q q => ⟨k, z, r_str.mp r1, r_str.mp r2, q⟩
theorem tv_ninSign_a {k : Nat} {z : Str} (ha : EV X Δ false a (.str ⟨#[k]⟩)) (hb : EV X Δ false b (.str z)) (hm : Ru (behindInMarks .NotIn b = false)) : TV X Δ (.Compare a [.NotIn] [b] pos) (!decide (k ∈ z.cps.toList)) := tv_ninSign ha hb hm.ok
end
end Z

namespace Z
open PySem PySem.Spec PyProof.Rows L2
variable [τ : Tb]

/-! ### trees of one's own: made, reached, changed -/
/-- e evaluates to a new tree -/
def ET (X : Cx) (Δ : List Sl) (e : Expr) (t : T) : Prop :=
  ∀ (G0 H0 F H : Hp) (σ : L2.St), Stt X.K G0 H0 F H σ Δ → ∀ Q : VK, (∀ v f F' H', Ext F H F' H' → RT X.K F' H' t v f → (∀ a ∈ f, H a = none ∧ F' a = none) → Q v H') → uE X e σ H Q
def AT (X : Cx) (Δ : List Sl) (es : List Expr) (ts : List T) : Prop :=
  ∀ (G0 H0 F H : Hp) (σ : L2.St), Stt X.K G0 H0 F H σ Δ → ∀ Q : List V → Hp → Prop, (∀ vs f F' H', Ext F H F' H' → RTL X.K F' H' ts vs f → (∀ a ∈ f, H a = none ∧ F' a = none) → Q vs H') → uA X es σ H Q
theorem RT.pth {K : PySem.W.Frag} {F H : Hp} {s : T} : ∀ (π : List Ste) {t : T} {v : V} {fp : List Addr}, RT K F H t v fp → T.get π t = some s → ∃ x f, Pth H π v x ∧ RT K F H s x f ∧ ∀ a ∈ f, a ∈ fp
  | [], t, v, fp, r, e => by
    rw [T.get] at e
    have e := Option.some.inj e
    subst e
    exact ⟨v, fp, rfl, r, fun a h => h⟩
  | .ix i :: π, .ls ts, v, fp, r, e => by
    rw [T.get] at e
    cases z : ts[i]? with
    | none => rw [z] at e; cases e
    | some t1 =>
      rw [z] at e
      obtain ⟨a, vs, f, rfl, rfl, n, g, l⟩ := rt_ls.mp r
      obtain ⟨w, f1, e1, r1, i1, k1⟩ := l.at_ z
      obtain ⟨x, f2, p, r2, i2⟩ := RT.pth π r1 e
      exact ⟨x, f2, ⟨a, vs, w, rfl, .inl g, e1, p⟩, r2, fun b hb => List.mem_cons_of_mem _ (i1 b (i2 b hb))⟩
  | .ix i :: π, .tp ts, v, fp, r, e => by
    rw [T.get] at e
    cases z : ts[i]? with
    | none => rw [z] at e; cases e
    | some t1 =>
      rw [z] at e
      obtain ⟨a, vs, f, rfl, rfl, n, g, l⟩ := rt_tp.mp r
      obtain ⟨w, f1, e1, r1, i1, k1⟩ := l.at_ z
      obtain ⟨x, f2, p, r2, i2⟩ := RT.pth π r1 e
      exact ⟨x, f2, ⟨a, vs, w, rfl, .inr g, e1, p⟩, r2, fun b hb => List.mem_cons_of_mem _ (i1 b (i2 b hb))⟩
  | .fl m :: π, .ob C fs, v, fp, r, e => by
    rw [T.get] at e
    cases z : fs.lookup m with
    | none => rw [z] at e; cases e
    | some t1 =>
      rw [z] at e
      obtain ⟨a, dx, vs, f, rfl, rfl, n, g, l⟩ := rt_ob.mp r
      obtain ⟨w, f1, e1, r1, i1, k1⟩ := l.at_ z
      obtain ⟨x, f2, p, r2, i2⟩ := RT.pth π r1 e
      exact ⟨x, f2, ⟨a, C, dx, vs, w, rfl, g, e1, p⟩, r2, fun b hb => List.mem_cons_of_mem _ (i1 b (i2 b hb))⟩
  | .ix _ :: _, .fz _, _, _, _, e => by rw [T.get] at e; · cases e
                                        all_goals (intros; simp_all)
  | .ix _ :: _, .ob _ _, _, _, _, e => by rw [T.get] at e; · cases e
                                          all_goals (intros; simp_all)
  | .fl _ :: _, .fz _, _, _, _, e => by rw [T.get] at e; · cases e
                                        all_goals (intros; simp_all)
  | .fl _ :: _, .ls _, _, _, _, e => by rw [T.get] at e; · cases e
                                        all_goals (intros; simp_all)
  | .fl _ :: _, .tp _, _, _, _, e => by rw [T.get] at e; · cases e
                                        all_goals (intros; simp_all)
theorem T.get_snoc {s u : T} : ∀ (π ρ : List Ste) {t : T}, T.get π t = some s → T.get ρ s = some u → T.get (π ++ ρ) t = some u
  | [], ρ, t, e, e2 => by
    rw [T.get] at e
    have e := Option.some.inj e
    subst e; exact e2
  | .ix i :: π, ρ, .ls ts, e, e2 => by
    rw [T.get] at e
    rw [List.cons_append, T.get]
    cases z : ts[i]? with
    | none => rw [z] at e; cases e
    | some t1 => rw [z] at e; exact T.get_snoc π ρ e e2
  | .ix i :: π, ρ, .tp ts, e, e2 => by
    rw [T.get] at e
    rw [List.cons_append, T.get]
    cases z : ts[i]? with
    | none => rw [z] at e; cases e
    | some t1 => rw [z] at e; exact T.get_snoc π ρ e e2
  | .fl m :: π, ρ, .ob C fs, e, e2 => by
    rw [T.get] at e
    rw [List.cons_append, T.get]
    cases z : fs.lookup m with
    | none => rw [z] at e; cases e
    | some t1 => rw [z] at e; exact T.get_snoc π ρ e e2
  | .ix _ :: _, _, .fz _, e, _ => by rw [T.get] at e; · cases e
                                     all_goals (intros; simp_all)
  | .ix _ :: _, _, .ob _ _, e, _ => by rw [T.get] at e; · cases e
                                       all_goals (intros; simp_all)
  | .fl _ :: _, _, .fz _, e, _ => by rw [T.get] at e; · cases e
                                     all_goals (intros; simp_all)
  | .fl _ :: _, _, .ls _, e, _ => by rw [T.get] at e; · cases e
                                     all_goals (intros; simp_all)
  | .fl _ :: _, _, .tp _, e, _ => by rw [T.get] at e; · cases e
                                     all_goals (intros; simp_all)
/-- e evaluates to what lies at the path π of the tree in slot i -/
def EP (X : Cx) (Δ : List Sl) (e : Expr) (i : Nat) (π : List Ste) : Prop :=
  ∀ (G0 H0 F H : Hp) (σ : L2.St), Stt X.K G0 H0 F H σ Δ → ∀ Q : VK, (∀ y x F' H', Ext F H F' H' → σ[i]? = some (some y) → Pth H' π y x → Q x H') → uE X e σ H Q
section
variable {K : PySem.W.Frag} {G0 H0 F H F' H' : Hp} {σ : L2.St} {Δ : List Sl}
/-- the same with the way there -/
theorem Stt.chgQ (S : Stt K G0 H0 F H σ Δ) {i : Nat} {q : Option Addr} {t s : T} {π : List Ste} {y x : V} (h : Δ[i]? = some (Sl.w q t)) (hg : T.get π t = some s) (hy : σ[i]? = some (some y)) (hp : Pth H π y x) :
    ∃ f, RT K F H s x f ∧ (∀ a ∈ f, F a = none ∧ H0 a = none ∧ Ow H a) ∧
      ∀ (F' H' : Hp) (s' : T) (f' : List Addr), Sub F F' → Sub F' H' → (∀ a o, F' a = some o → F a = some o ∨ H a = none) → GwX f H H' → (∀ a ps, F' a = some (.tbl ps) → F a = some (.tbl ps)) → RT K F' H' s' x f' → (∀ a ∈ f', a ∈ f ∨ H a = none) → (∀ a ∈ f', F' a = none) →
        Stt K G0 H0 F' H' σ (Δ.set i (.w q (T.put s' π t))) := by
  obtain ⟨y1, x1, f, e, pp, r, n, k⟩ := S.chgP h hg
  rw [hy] at e; cases e
  cases hp.det pp
  exact ⟨f, r, n, k⟩
end

theorem Pth.mono {H H' : Hp} (s : SubN H H') : ∀ {π : List Ste} {v x : V}, Pth H π v x → Pth H' π v x
  | [], v, x, a => a
  | .ix i :: π, v, x, a => by
    obtain ⟨a1, vs, u, rfl, g, e, p⟩ := a
    exact ⟨a1, vs, u, rfl, g.imp (fun g => s _ _ g (fun _ z => nomatch z)) (fun g => s _ _ g (fun _ z => nomatch z)), e, p.mono s⟩
  | .fl n :: π, v, x, a => by
    obtain ⟨a1, C, dx, vs, u, rfl, g, e, p⟩ := a
    exact ⟨a1, C, dx, vs, u, rfl, s _ _ g (fun _ z => nomatch z), e, p.mono s⟩
theorem RT.ext {K : PySem.W.Frag} {F H F' H' : Hp} {t : T} {v : V} {f : List Addr} (r : RT K F H t v f) (e : Ext F H F' H') : RT K F' H' t v f := r.mono e.f _ _ _ fun a ha => sub_eq e.h (r.own _ _ _ a ha)
theorem RTL.ext {K : PySem.W.Frag} {F H F' H' : Hp} {t : List T} {v : List V} {f : List Addr} (r : RTL K F H t v f) (e : Ext F H F' H') : RTL K F' H' t v f := r.mono e.f _ _ _ fun a ha => sub_eq e.h (r.own _ _ _ a ha)
theorem RTL.snoc {K : PySem.W.Frag} {F H : Hp} : ∀ {ts : List T} {vs : List V} {f : List Addr} {t : T} {v : V} {g : List Addr}, RTL K F H ts vs f → RT K F H t v g → (∀ a ∈ g, a ∉ f) → RTL K F H (ts ++ [t]) (vs ++ [v]) (f ++ g)
  | [], vs, f, t, v, g, r, r2, dj => by
    obtain ⟨rfl, rfl⟩ := rtl_nil.mp r
    exact rtl_cons.mpr ⟨v, [], g, [], rfl, by simp, fun _ _ h => (nomatch h), r2, rtl_nil.mpr ⟨rfl, rfl⟩⟩
  | u :: ts, vs, f, t, v, g, r, r2, dj => by
    obtain ⟨w, vs', f1, f2, rfl, rfl, d1, r3, r4⟩ := rtl_cons.mp r
    refine rtl_cons.mpr ⟨w, vs' ++ [v], f1, f2 ++ g, rfl, List.append_assoc _ _ _, fun a ha hb => ?_, r3, RTL.snoc r4 r2 fun a ha hb => dj a ha (List.mem_append_right _ hb)⟩
    rcases List.mem_append.mp hb with hb | hb
    · exact d1 a ha hb
    · exact dj a hb (List.mem_append_left _ ha)
theorem RTF.length {K : PySem.W.Frag} {F H : Hp} : ∀ {ts : List (Str × T)} {vs : List (Str × V)} {fp : List Addr}, RTF K F H ts vs fp → vs.length = ts.length
  | [], vs, fp, h => by rw [(rtf_nil.mp h).1]; rfl
  | (n, t) :: ts, vs, fp, h => by
    obtain ⟨v, vs', f, g, rfl, _, _, _, r2⟩ := rtf_cons.mp h
    simp [RTF.length r2]
section
variable {X : Cx} {Δ : List Sl} {m : Bool} {e a b c o : Expr} {es : List Expr} {d x y : D} {ds : List D} {pos p p2 apos : Pos} {n : Str} {q : Option Addr} {t s u : T} {ts : List T} {i k : Nat} {π : List Ste} {z : Int} {C : Out → Prop}
theorem EO.et (h : EO X Δ e ds) : ET X Δ e (T.l ds) := fun G0 H0 F H σ S Q q => h G0 H0 F H σ S Q fun p vs F' H' x n h1 f1 r => q _ [p] F' H' x (rt_l.mpr ⟨p, vs, rfl, rfl, h1, r⟩) fun a ha => by
  rw [List.mem_singleton] at ha; subst ha; exact ⟨n, f1⟩
theorem EV.et (h : EV X Δ true e d) : ET X Δ e (.fz d) := fun G0 H0 F H σ S Q q => h G0 H0 F H σ S Q fun v F' H' x r => q v [] F' H' x (rt_fz.mpr ⟨rfl, r⟩) fun _ h => (nomatch h)
theorem ET.to (h : ET X Δ e t) (q : t = s) : ET X Δ e s := q ▸ h
/-- the parts that are frozen with f -/
def frzF (f : List Addr) (F H : Hp) : Hp := fun a => if a ∈ f then H a else F a
theorem frz_ext {F H F' H' : Hp} {f : List Addr} (e : Ext F H F' H') (n : ∀ a ∈ f, H a = none ∧ F' a = none) (no : ∀ a ∈ f, Ow H' a) : Ext F H (frzF f F' H') H' ∧ Sub F' (frzF f F' H') := by
  have sF : Sub F' (frzF f F' H') := fun a o ho => by
    show (if a ∈ f then H' a else F' a) = some o
    rw [if_neg fun ha => by rw [(n a ha).2] at ho; cases ho]; exact ho
  refine ⟨⟨e.f.tr sF, e.h, fun a o ho => ?_, fun a o ho => ?_, fun a ps ho => ?_⟩, sF⟩
  · have ho : (if a ∈ f then H' a else F' a) = some o := ho
    split at ho
    · exact ho
    · exact e.fh a o ho
  · have ho : (if a ∈ f then H' a else F' a) = some o := ho
    split at ho
    · rename_i ha; exact .inr (n a ha).1
    · exact e.fr a o ho
  · have ho : (if a ∈ f then H' a else F' a) = some (.tbl ps) := ho
    split at ho
    · rename_i ha
      obtain ⟨o, e2, nn⟩ := no a ha
      rw [ho] at e2; cases e2; exact absurd rfl (nn ps)
    · exact e.nt a ps ho
theorem ET.ev (h : ET X Δ e t) : EV X Δ m e t.d := EV.weak fun G0 H0 F H σ S Q q => h G0 H0 F H σ S Q fun v f F' H' x r n => by
  obtain ⟨x2, sF⟩ := frz_ext x n fun a ha => r.own _ _ _ a ha
  exact q v _ H' x2 (r.r sF _ _ _ fun a ha => if_pos ha)
theorem at_nil : AT X Δ [] [] := fun G0 H0 F H σ S Q q => aU pa_nil (q [] [] F H (Ext.rf S.fh) (rtl_nil.mpr ⟨rfl, rfl⟩) fun _ h => (nomatch h))
theorem at_cons (h : ET X Δ e t) (k : AT X Δ es ts) (hs : starEach (e :: es) X.env = (false, eval e X.env) :: starEach es X.env := by rfl) : AT X Δ (e :: es) (t :: ts) := by
  intro G0 H0 F H σ S Q q
  refine aU (pa_cons pe_u pa_u hs) (h G0 H0 F H σ S _ fun v f F1 H1 e1 r1 n1 => ?_)
  refine k G0 H0 F1 H1 σ (S.ext e1) _ fun vs g F2 H2 e2 r2 n2 => ?_
  refine q _ (f ++ g) F2 H2 (e1.tr e2) (rtl_cons.mpr ⟨v, vs, f, g, rfl, rfl, fun a ha hb => ?_, r1.ext e2, r2⟩) fun a ha => ?_
  · exact (r1.own _ _ _ a ha).ne (n2 a hb).1
  · rcases List.mem_append.mp ha with ha | ha
    · exact ⟨(n1 a ha).1, e2.keepN (n1 a ha).2 (r1.own _ _ _ a ha).ne⟩
    · exact ⟨e1.h.none (n2 a ha).1, (n2 a ha).2⟩
theorem at_cons_a (h : ET X Δ e t) (k : AT X Δ es ts) (hs : Rf (starEach (e :: es) X.env = (false, eval e X.env) :: starEach es X.env)) : AT X Δ (e :: es) (t :: ts) := at_cons h k hs.ok
theorem et_lst (h : AT X Δ es ts) (hl : ts.length ≤ 1000) : ET X Δ (.List es pos) (.ls ts) := by
  intro G0 H0 F H σ S Q q
  refine eU (pe_lst pa_u) (h G0 H0 F H σ S _ fun vs f F' H' x r n => ⟨Nat.le_of_lt (small1000 (by rw [r.length]; exact hl)), fun p np => ?_⟩)
  have x2 : Ext F' H' F' (upd H' p (.lst vs)) := Ext.grow x.fh (Sub.new np)
  have nf : p ∉ f := fun h => (r.own _ _ _ p h).ne np
  refine q (.ref p) (p :: f) F' _ (x.tr x2) (rt_ls.mpr ⟨p, vs, f, rfl, rfl, nf, upd_same, r.ext x2⟩) fun a ha => ?_
  rcases List.mem_cons.mp ha with rfl | ha
  · exact ⟨x.h.none np, x.fh.none np⟩
  · exact n a ha
theorem et_tup {kk : Nat} (h : AT X Δ es ts) (hl : ts.length ≤ 1000) : ET X Δ (.Tuple es kk pos) (.tp ts) := by
  intro G0 H0 F H σ S Q q
  refine eU (pe_tup pa_u) (h G0 H0 F H σ S _ fun vs f F' H' x r n => ⟨Nat.le_of_lt (small1000 (by rw [r.length]; exact hl)), fun p np => ?_⟩)
  have x2 : Ext F' H' F' (upd H' p (.tup vs)) := Ext.grow x.fh (Sub.new np)
  have nf : p ∉ f := fun h => (r.own _ _ _ p h).ne np
  refine q (.ref p) (p :: f) F' _ (x.tr x2) (rt_tp.mpr ⟨p, vs, f, rfl, rfl, nf, upd_same, r.ext x2⟩) fun a ha => ?_
  rcases List.mem_cons.mp ha with rfl | ha
  · exact ⟨x.h.none np, x.fh.none np⟩
  · exact n a ha
/-! reached by a path -/
theorem ep_name {i : Nat} (hN : X.N[i]? = some n) (hΔ : Δ[i]? = some (Sl.w q t)) (hv : Vis X.env.scope n := by first | exact Or.inl rfl | exact Or.inr (Or.inl rfl) | exact Or.inr (Or.inr rfl)) (hd : (n == ("__debug__" : Str)) = false := by decide) (hcd : (n == ("__classdict__" : Str)) = false := by decide) : EP X Δ (.Name n pos) i [] := by
  intro G0 H0 F H σ S Q q
  obtain ⟨y, f, e, r, _⟩ := S.tree i hΔ
  exact eU (pe_var hN hv hd hcd) ⟨y, e, q y y F H (Ext.rf S.fh) e rfl⟩
theorem ep_name_a {i : Nat} (hN : X.N[i]? = some n) (hΔ : Δ[i]? = some (Sl.w q t)) (hv : Rv (Vis X.env.scope n)) (hd : Rd ((n == ("__debug__" : Str)) = false)) (hcd : Rd ((n == ("__classdict__" : Str)) = false)) : EP X Δ (.Name n pos) i [] := ep_name hN hΔ hv.ok hd.ok hcd.ok
theorem at_path {K : PySem.W.Frag} {G0 H0 F H : Hp} {σ : L2.St} (S : Stt K G0 H0 F H σ Δ) {y w : V} (hΔ : Δ[i]? = some (Sl.w q t)) (hg : T.get π t = some s) (hy : σ[i]? = some (some y)) (hp : Pth H π y w) : ∃ f, RT K F H s w f := by
  obtain ⟨f, r, _⟩ := S.chgQ hΔ hg hy hp
  exact ⟨f, r⟩
theorem ep_ix (ha : EP X Δ a i π) (hΔ : Δ[i]? = some (Sl.w q t)) (hg : T.get π t = some (.ls ts)) (hb : EV X Δ false b (.int z)) (hz : ixN ts.length z = some k) (hk : k < ts.length) (hs : PlainIx b := by exact fun _ _ => rfl) : EP X Δ (.Subscript a b pos) i (π ++ [.ix k]) := by
  intro G0 H0 F H σ S Q q
  refine eU (pe_ix ix_list pe_u pe_u hs) (ha G0 H0 F H σ S _ fun y x F1 H1 e1 hy hp => ?_)
  have S1 := S.ext e1
  refine hb G0 H0 F1 H1 σ S1 _ fun w F2 H2 e2 r2 => ?_
  obtain ⟨f, r⟩ := at_path S1 hΔ hg hy hp
  obtain ⟨ad, vs, g, rfl, rfl, _, hh, l⟩ := rt_ls.mp r
  have hk' : k < vs.length := by rw [l.length]; exact hk
  refine ⟨ad, vs, z, vs[k], rfl, r_int.mp r2, SqL.of (e2.h.k _ _ hh (fun _ z => nomatch z)), ?_, ?_⟩
  · unfold atI; rw [l.length, hz]; exact List.getElem?_eq_getElem hk'
  · exact q y _ F2 H2 (e1.tr e2) hy ((hp.mono e2.h.k).snoc ⟨ad, vs, vs[k], rfl, .inl (e2.h.k _ _ hh (fun _ z => nomatch z)), List.getElem?_eq_getElem hk', rfl⟩)
theorem ep_ix_a (ha : EP X Δ a i π) (hΔ : Δ[i]? = some (Sl.w q t)) (hg : T.get π t = some (.ls ts)) (hb : EV X Δ false b (.int z)) (hz : ixN ts.length z = some k) (hk : k < ts.length) (hs : Rx (PlainIx b)) : EP X Δ (.Subscript a b pos) i (π ++ [.ix k]) := ep_ix ha hΔ hg hb hz hk hs.ok
theorem ep_ixt (ha : EP X Δ a i π) (hΔ : Δ[i]? = some (Sl.w q t)) (hg : T.get π t = some (.tp ts)) (hb : EV X Δ false b (.int z)) (hz : ixN ts.length z = some k) (hk : k < ts.length) (hs : PlainIx b := by exact fun _ _ => rfl) : EP X Δ (.Subscript a b pos) i (π ++ [.ix k]) := by
  intro G0 H0 F H σ S Q q
  refine eU (pe_ix ix_tup pe_u pe_u hs) (ha G0 H0 F H σ S _ fun y x F1 H1 e1 hy hp => ?_)
  have S1 := S.ext e1
  refine hb G0 H0 F1 H1 σ S1 _ fun w F2 H2 e2 r2 => ?_
  obtain ⟨f, r⟩ := at_path S1 hΔ hg hy hp
  obtain ⟨ad, vs, g, rfl, rfl, _, hh, l⟩ := rt_tp.mp r
  have hk' : k < vs.length := by rw [l.length]; exact hk
  refine ⟨ad, vs, z, vs[k], rfl, r_int.mp r2, SqT.of (e2.h.k _ _ hh (fun _ z => nomatch z)), ?_, ?_⟩
  · unfold atI; rw [l.length, hz]; exact List.getElem?_eq_getElem hk'
  · exact q y _ F2 H2 (e1.tr e2) hy ((hp.mono e2.h.k).snoc ⟨ad, vs, vs[k], rfl, .inr (e2.h.k _ _ hh (fun _ z => nomatch z)), List.getElem?_eq_getElem hk', rfl⟩)
theorem ep_ixt_a (ha : EP X Δ a i π) (hΔ : Δ[i]? = some (Sl.w q t)) (hg : T.get π t = some (.tp ts)) (hb : EV X Δ false b (.int z)) (hz : ixN ts.length z = some k) (hk : k < ts.length) (hs : Rx (PlainIx b)) : EP X Δ (.Subscript a b pos) i (π ++ [.ix k]) := ep_ixt ha hΔ hg hb hz hk hs.ok
theorem ep_fld {CC : Addr} {fs : List (Str × T)} {f : Str} (ha : EP X Δ a i π) (hΔ : Δ[i]? = some (Sl.w q t)) (hg : T.get π t = some (.ob CC fs)) (c : Cls X.K CC) (nn : NoAttr X.K CC f) (hl : fs.lookup f = some u) (hb : attributeBase a f X.env (eval a X.env) = eval a X.env := by rfl) : EP X Δ (.Attribute a f pos) i (π ++ [.fl f]) := by
  intro G0 H0 F H σ S Q q
  refine eU (pe_fld pe_u hb) (ha G0 H0 F H σ S _ fun y x F1 H1 e1 hy hp => ?_)
  have S1 := S.ext e1
  obtain ⟨f, r⟩ := at_path S1 hΔ hg hy hp
  obtain ⟨ad, dx, vs, g, rfl, rfl, _, hh, l⟩ := rt_ob.mp r
  obtain ⟨w, f2, e2, _⟩ := l.at_ hl
  exact ⟨ad, CC, dx, vs, w, rfl, hh, c, nn, e2, q y _ F1 H1 e1 hy (hp.snoc ⟨ad, CC, dx, vs, w, rfl, hh, e2, rfl⟩)⟩
theorem ep_fld_a {CC : Addr} {fs : List (Str × T)} {f : Str} (ha : EP X Δ a i π) (hΔ : Δ[i]? = some (Sl.w q t)) (hg : T.get π t = some (.ob CC fs)) (c : Cls X.K CC) (nn : NoAttr X.K CC f) (hl : fs.lookup f = some u) (hb : Rf (attributeBase a f X.env (eval a X.env) = eval a X.env)) : EP X Δ (.Attribute a f pos) i (π ++ [.fl f]) := ep_fld ha hΔ hg c nn hl hb.ok
/-- what stays as it is at a path -/
theorem EP.fz (h : EP X Δ e i π) (hΔ : Δ[i]? = some (Sl.w q t)) (hg : T.get π t = some (.fz d)) : EV X Δ m e d := EV.weak fun G0 H0 F H σ S Q q => h G0 H0 F H σ S Q fun y x F1 H1 e1 hy hp => by
  obtain ⟨f, r⟩ := at_path (S.ext e1) hΔ hg hy hp
  exact q x F1 H1 e1 (rt_fz.mp r).2
/-- what lies there now -/
theorem EP.ev (h : EP X Δ e i π) (hΔ : Δ[i]? = some (Sl.w q t)) (hg : T.get π t = some s) : EV X Δ false e s.d := fun G0 H0 F H σ S Q q => h G0 H0 F H σ S Q fun y x F1 H1 e1 hy hp => by
  obtain ⟨f, r⟩ := at_path (S.ext e1) hΔ hg hy hp
  exact q x F1 H1 e1 (r.r e1.fh _ _ _ fun a _ => rfl)
/-! statements -/
theorem sm_sett {i : Nat} {p1 : Pos} (hN : X.N.Nodup) (hi : X.N[i]? = some n) (hl : Loc X.env.scope n) (h : ET X Δ e t) (k : C (.nx (Δ.set i (.w none t)))) (hs : swapsWith e (some (.Name n p1)) pos.line X.env = pure false := by rfl) (hf : X.fn n = true ∨ X.env.scope.names.lookup n = some .local := by first | exact .inl rfl | exact .inr rfl) :
    Sm X (.Assign [.Name n p1] e pos) Δ C := fun G0 H0 F H σ S D q =>
  sU1 (ps_set hN hi hl pe_u hs hf) (h G0 H0 F H σ S _ fun v f F' H' x r n => q _ k F' H' _ (S.sett x r n))
theorem sm_sett_a {i : Nat} {p1 : Pos} (hN : X.N.Nodup) (hi : X.N[i]? = some n) (hl : Loc X.env.scope n) (h : ET X Δ e t) (k : C (.nx (Δ.set i (.w none t)))) (hs : Rf (swapsWith e (some (.Name n p1)) pos.line X.env = pure false)) (hf : Rl (X.fn n = true ∨ X.env.scope.names.lookup n = some .local)) : Sm X (.Assign [.Name n p1] e pos) Δ C := sm_sett hN hi hl h k hs.ok hf.ok
theorem sm_rett (h : ET X Δ e t) (k : C (.rt (.t t) Δ)) : Sm X (.Return (some e) pos) Δ C := fun G0 H0 F H σ S D q =>
  sU1 (ps_ret pe_u) (h G0 H0 F H σ S _ fun v f F' H' x r n => q _ k F' H' σ v f (S.ext x) r fun a ha => ⟨(n a ha).2, S.h0.none (n a ha).1⟩)
/-- a tree of one's own is handed back -/
theorem sm_retnt {i : Nat} {p1 : Pos} (hN : X.N[i]? = some n) (hΔ : Δ[i]? = some (Sl.w q t)) (k : C (.rt (.t t) (Δ.set i .u))) (hv : Vis X.env.scope n := by first | exact Or.inl rfl | exact Or.inr (Or.inl rfl) | exact Or.inr (Or.inr rfl)) (hd : (n == ("__debug__" : Str)) = false := by decide) (hcd : (n == ("__classdict__" : Str)) = false := by decide) : Sm X (.Return (some (.Name n p1)) pos) Δ C := by
  intro G0 H0 F H σ S D q
  obtain ⟨y, f, e, r, _, nn⟩ := S.tree i hΔ
  exact sU1 (ps_ret (pe_var hN hv hd hcd)) ⟨y, e, q _ k F H σ y f S.drop r fun a ha => ⟨(nn a ha).1, (nn a ha).2.1⟩⟩
theorem sm_retnt_a {i : Nat} {p1 : Pos} (hN : X.N[i]? = some n) (hΔ : Δ[i]? = some (Sl.w q t)) (k : C (.rt (.t t) (Δ.set i .u))) (hv : Rv (Vis X.env.scope n)) (hd : Rd ((n == ("__debug__" : Str)) = false)) (hcd : Rd ((n == ("__classdict__" : Str)) = false)) : Sm X (.Return (some (.Name n p1)) pos) Δ C := sm_retnt hN hΔ k hv.ok hd.ok hcd.ok
/-- base[b] = e, base at a path -/
theorem sm_setiP {p2 : Pos} (h : ET X Δ e s) (hp : EP X Δ a i π) (hΔ : Δ[i]? = some (Sl.w q t)) (hg : T.get π t = some (.ls ts)) (hj : EV X Δ false b (.int z)) (hz : ixN ts.length z = some k) (hk : k < ts.length) (kk : C (.nx (Δ.set i (.w q (T.put (.ls (ts.set k s)) π t)))))
    (hs : swapsWithSole [.Subscript a b p2] e pos.line X.env = pure false := by rfl) (hw : swappedStores [.Subscript a b p2] e X.env = pure none := by rfl)
    (h1 : (assignEach [.Subscript a b p2] X.env).map (·.2) = [assign (.Subscript a b p2) X.env] := by rfl)
    (ha : ∀ v, assign (.Subscript a b p2) X.env v = (do
      let ov ← holding [v] (eval a X.env)
      let iv ← holding [v, ov] (eval b X.env)
      standAt p2
      holding [v, ov, iv] (setItem ov iv v)
      release [v, ov, iv] []) := by intro _; rfl) : Sm X (.Assign [.Subscript a b p2] e pos) Δ C := by
  intro G0 H0 F H σ S D qq
  refine sU1 (ps_asg pe_u (pg_sub pe_u pe_u set_list ha) hs hw h1) ?_
  refine h G0 H0 F H σ S _ fun v fs F1 H1 x1 r1 n1 => ?_
  have S1 := S.ext x1
  refine hp G0 H0 F1 H1 σ S1 _ fun y x F2 H2 x2 hy hpth => ?_
  have S2 := S1.ext x2
  refine hj G0 H0 F2 H2 σ S2 _ fun w F3 H3 x3 r3 => ?_
  have x13 := x1.tr (x2.tr x3)
  obtain ⟨y0, x0, f, ey, pp, r, nf, K⟩ := S.chgP hΔ hg
  rw [hy] at ey; cases ey
  have ex : x0 = x := (pp.mono (x1.tr x2).h.k).det hpth
  subst ex
  obtain ⟨ad, vs, g, rfl, rfl, na, hh, l⟩ := rt_ls.mp r
  have hh3 : H3 ad = some (.lst vs) := x13.h.k _ _ hh (fun _ z => nomatch z)
  refine ⟨ad, vs, z, k, rfl, r_int.mp r3, hh3, by rw [l.length]; exact hz, ?_⟩
  have r1' := r1.ext (x2.tr x3)
  have fsad : ad ∉ fs := fun hf => by have := (n1 ad hf).1; rw [hh] at this; cases this
  have gO : ∀ a ∈ g, Ow H a := fun a ha => l.own _ _ _ a ha
  have gH : ∀ a ∈ g, H a ≠ none := fun a ha => (gO a ha).ne
  obtain ⟨w1, f1, e1, q1, i1, k1⟩ := l.at_ (List.getElem?_eq_getElem hk)
  have up : ∀ a, a ≠ ad → upd H3 ad (.lst (vs.set k v)) a = H3 a := fun a ha => upd_ne ha
  obtain ⟨fp', q2, q3⟩ := k1 F3 (upd H3 ad (.lst (vs.set k v))) s v fs x13.f (fun a ha _ => by
      rw [up a (fun z => na (z ▸ ha)), sub_eq x13.h (gO a ha)]) (r1'.mono (Sub.rf _) _ _ _ fun a ha => up a fun z => fsad (z ▸ ha)) (fun a ha hga => absurd (n1 a ha).1 (gH a hga))
  have ff : ∀ a ∈ fp', a ∈ fs ∨ a ∈ g := fun a ha => (q3 a ha).imp id (·.1)
  refine qq _ kk F3 _ σ (K F3 _ _ (ad :: fp') x13.f (fun c o ho => ?_) x13.fr ((GwX.put1 x13.h (x13.h.k _ _ hh (fun _ z => nomatch z)) (fun _ z => nomatch z) (fun _ z => nomatch z)).more (fun c hc => by rw [List.mem_singleton] at hc; subst hc; exact List.mem_cons_self)) x13.nt (rt_ls.mpr ⟨ad, _, fp', rfl, rfl, fun hm => ?_, upd_same, q2⟩) (fun c hc => ?_) (fun c hc => ?_))
  · rw [upd_ne (ne_of_none ho (x13.keepN (nf ad List.mem_cons_self).1 (nf ad List.mem_cons_self).2.2.ne))]; exact x13.fh c o ho
  · rcases ff ad hm with hm | hm
    · exact fsad hm
    · exact na hm
  · rcases List.mem_cons.mp hc with rfl | hc
    · exact .inl List.mem_cons_self
    · rcases ff c hc with hm | hm
      · exact .inr (n1 c hm).1
      · exact .inl (List.mem_cons_of_mem _ hm)
  · rcases List.mem_cons.mp hc with rfl | hc
    · exact x13.keepN (nf c List.mem_cons_self).1 (nf c List.mem_cons_self).2.2.ne
    · rcases ff c hc with hm | hm
      · exact (x2.tr x3).keepN (n1 c hm).2 (r1.own _ _ _ c hm).ne
      · exact x13.keepN (nf c (List.mem_cons_of_mem _ hm)).1 (nf c (List.mem_cons_of_mem _ hm)).2.2.ne
theorem sm_setiP_a {p2 : Pos} (h : ET X Δ e s) (hp : EP X Δ a i π) (hΔ : Δ[i]? = some (Sl.w q t)) (hg : T.get π t = some (.ls ts)) (hj : EV X Δ false b (.int z)) (hz : ixN ts.length z = some k) (hk : k < ts.length) (kk : C (.nx (Δ.set i (.w q (T.put (.ls (ts.set k s)) π t))))) (hs : Rf (swapsWithSole [.Subscript a b p2] e pos.line X.env = pure false)) (hw : Rf (swappedStores [.Subscript a b p2] e X.env = pure none)) (h1 : Rf ((assignEach [.Subscript a b p2] X.env).map (·.2) = [assign (.Subscript a b p2) X.env])) (ha : Ri (∀ v, assign (.Subscript a b p2) X.env v = (do
      let ov ← holding [v] (eval a X.env)
      let iv ← holding [v, ov] (eval b X.env)
      standAt p2
      holding [v, ov, iv] (setItem ov iv v)
      release [v, ov, iv] []))) : Sm X (.Assign [.Subscript a b p2] e pos) Δ C := sm_setiP h hp hΔ hg hj hz hk kk hs.ok hw.ok h1.ok ha.ok
/-- base.append(e), base at a path -/
theorem sm_appendP {p2 p3 : Pos} (hp : EP X Δ a i π) (hΔ : Δ[i]? = some (Sl.w q t)) (hg : T.get π t = some (.ls ts)) (h : ET X Δ e s) (hl : ts.length < sizeLine) (kk : C (.nx (Δ.set i (.w q (T.put (.ls (ts ++ [s])) π t)))))
    (hb : attributeBase a "append" X.env (eval a X.env) = eval a X.env := by rfl) (hlin : (p2.endLine == p3.line) = true := by rfl)
    (hst : starEach [e] X.env = (false, eval e X.env) :: starEach [] X.env := by rfl) (hpl : (backTo p3 (starEach ([] : List Expr) X.env)).any (·.1) = false := by rfl) (hfew : ((((backTo p3 (starEach [e] X.env)).all fun x => !x.fst) && (backToKw p3 (keywordEach [] X.env)).all fun x => x.fst.isSome) && decide (([e].length + ([] : List Keyword).length + if ([] : List Keyword).isEmpty = true then 0 else 1) < 30)) = true := by rfl) (hs : swapsWith (.Call (.Attribute a "append" p2) [e] [] p3) none pos.line X.env = pure false := by rfl) :
    Sm X (.Expr (.Call (.Attribute a "append" p2) [e] [] p3) pos) Δ C := by
  intro G0 H0 F H σ S D qq
  refine sU1 (ps_expr (pe_bm (hbase := hb) (hfew := hfew) (hline := hlin) (hs := hst) (hplain := hpl) PySem.F.plainAttrs_list PySem.F.slot_list_append PySem.F.type_list_append mt_append pe_u (pa_cons pe_u pa_nil hst)) hs) ?_
  refine hp G0 H0 F H σ S _ fun y x F1 H1 x1 hy hpth => ?_
  have S1 := S.ext x1
  obtain ⟨y0, x0, f, ey, pp, r, nf, K⟩ := S.chgP hΔ hg
  rw [hy] at ey; cases ey
  have ex : x0 = x := (pp.mono x1.h.k).det hpth
  subst ex
  obtain ⟨ad, vs, g, rfl, rfl, na, hh, l⟩ := rt_ls.mp r
  refine .inl ⟨rfl, _, SqL.of (x1.h.k _ _ hh (fun _ z => nomatch z))⟩ |> fun z => ⟨z, ?_⟩
  refine h G0 H0 F1 H1 σ S1 _ fun v fs F3 H3 x3 r1 n1 => ?_
  have x13 := x1.tr x3
  refine ⟨ad, vs, v, rfl, rfl, x13.h.k _ _ hh (fun _ z => nomatch z), by rw [l.length]; exact hl, ?_⟩
  have fsad : ad ∉ fs := fun hf => by have := x1.h.none (n1 ad hf).1; rw [hh] at this; cases this
  have gO : ∀ a ∈ g, Ow H a := fun a ha => l.own _ _ _ a ha
  have gH : ∀ a ∈ g, H a ≠ none := fun a ha => (gO a ha).ne
  have up : ∀ a, a ≠ ad → upd H3 ad (.lst (vs ++ [v])) a = H3 a := fun a ha => upd_ne ha
  have q2 : RTL X.K F3 (upd H3 ad (.lst (vs ++ [v]))) (ts ++ [s]) (vs ++ [v]) (g ++ fs) := by
    refine RTL.snoc (l.mono x13.f _ _ _ fun a ha => ?_) (r1.mono (Sub.rf _) _ _ _ fun a ha => up a fun z => fsad (z ▸ ha)) fun a ha hga => gH a hga (x1.h.none (n1 a ha).1)
    rw [up a (fun z => na (z ▸ ha)), sub_eq x13.h (gO a ha)]
  refine qq _ kk F3 _ σ (K F3 _ _ (ad :: (g ++ fs)) x13.f (fun c o ho => ?_) x13.fr ((GwX.put1 x13.h (x13.h.k _ _ hh (fun _ z => nomatch z)) (fun _ z => nomatch z) (fun _ z => nomatch z)).more (fun c hc => by rw [List.mem_singleton] at hc; subst hc; exact List.mem_cons_self)) x13.nt (rt_ls.mpr ⟨ad, _, _, rfl, rfl, fun hm => ?_, upd_same, q2⟩) (fun c hc => ?_) (fun c hc => ?_))
  · rw [upd_ne (ne_of_none ho (x13.keepN (nf ad List.mem_cons_self).1 (nf ad List.mem_cons_self).2.2.ne))]; exact x13.fh c o ho
  · rcases List.mem_append.mp hm with hm | hm
    · exact na hm
    · exact fsad hm
  · rcases List.mem_cons.mp hc with rfl | hc
    · exact .inl List.mem_cons_self
    · rcases List.mem_append.mp hc with hm | hm
      · exact .inl (List.mem_cons_of_mem _ hm)
      · exact .inr (x1.h.none (n1 c hm).1)
  · rcases List.mem_cons.mp hc with rfl | hc
    · exact x13.keepN (nf c List.mem_cons_self).1 (nf c List.mem_cons_self).2.2.ne
    · rcases List.mem_append.mp hc with hm | hm
      · exact x13.keepN (nf c (List.mem_cons_of_mem _ hm)).1 (nf c (List.mem_cons_of_mem _ hm)).2.2.ne
      · exact (n1 c hm).2
theorem sm_appendP_a {p2 p3 : Pos} (hp : EP X Δ a i π) (hΔ : Δ[i]? = some (Sl.w q t)) (hg : T.get π t = some (.ls ts)) (h : ET X Δ e s) (hl : ts.length < sizeLine) (kk : C (.nx (Δ.set i (.w q (T.put (.ls (ts ++ [s])) π t))))) (hb : Rf (attributeBase a "append" X.env (eval a X.env) = eval a X.env)) (hlin : Rf ((p2.endLine == p3.line) = true)) (hst : Rf (starEach [e] X.env = (false, eval e X.env) :: starEach [] X.env)) (hpl : Rf ((backTo p3 (starEach ([] : List Expr) X.env)).any (·.1) = false)) (hfew : Rf (((((backTo p3 (starEach [e] X.env)).all fun x => !x.fst) && (backToKw p3 (keywordEach [] X.env)).all fun x => x.fst.isSome) && decide (([e].length + ([] : List Keyword).length + if ([] : List Keyword).isEmpty = true then 0 else 1) < 30)) = true)) (hs : Rf (swapsWith (.Call (.Attribute a "append" p2) [e] [] p3) none pos.line X.env = pure false)) : Sm X (.Expr (.Call (.Attribute a "append" p2) [e] [] p3) pos) Δ C := sm_appendP hp hΔ hg h hl kk hb.ok hlin.ok hst.ok hpl.ok hfew.ok hs.ok
/-- base.f = e, base at a path -/
theorem sm_setf {p2 : Pos} {CC : Addr} {fs : List (Str × T)} {fn : Str} (h : ET X Δ e s) (hp : EP X Δ a i π) (hΔ : Δ[i]? = some (Sl.w q t)) (hg : T.get π t = some (.ob CC fs)) (c : Cls X.K CC) (nn : NoAttr X.K CC fn) (hl : fs.length < 1000) (kk : C (.nx (Δ.set i (.w q (T.put (.ob CC (putT fn s fs)) π t)))))
    (hs : swapsWith e (some (.Attribute a fn p2)) pos.line X.env = pure false := by rfl) : Sm X (.Assign [.Attribute a fn p2] e pos) Δ C := by
  intro G0 H0 F H σ S D qq
  refine sU1 (ps_fld pe_u pe_u hs) ?_
  refine h G0 H0 F H σ S _ fun v fv F1 H1 x1 r1 n1 => ?_
  have S1 := S.ext x1
  refine hp G0 H0 F1 H1 σ S1 _ fun y x F3 H3 x3 hy hpth => ?_
  have x13 := x1.tr x3
  obtain ⟨y0, x0, f, ey, pp, r, nf, K⟩ := S.chgP hΔ hg
  rw [hy] at ey; cases ey
  have ex : x0 = x := (pp.mono x13.h.k).det hpth
  subst ex
  obtain ⟨ad, dx, vs, g, rfl, rfl, na, hh, l⟩ := rt_ob.mp r
  refine ⟨ad, CC, dx, vs, rfl, x13.h.k _ _ hh (fun _ z => nomatch z), c, nn, by rw [l.length]; exact hl, ?_⟩
  have r1' := r1.ext x3
  have fsad : ad ∉ fv := fun hf => by have := (n1 ad hf).1; rw [hh] at this; cases this
  have gO : ∀ a ∈ g, Ow H a := fun a ha => l.own _ _ _ a ha
  have gH : ∀ a ∈ g, H a ≠ none := fun a ha => (gO a ha).ne
  have up : ∀ a, a ≠ ad → upd H3 ad (.ins CC dx (putF fn v vs)) a = H3 a := fun a ha => upd_ne ha
  have rv := r1'.mono (F' := F3) (H' := upd H3 ad (.ins CC dx (putF fn v vs))) (Sub.rf _) _ _ _ fun a ha => up a fun z => fsad (z ▸ ha)
  have kg : ∀ a ∈ g, upd H3 ad (.ins CC dx (putF fn v vs)) a = H a := fun a ha => by rw [up a (fun z => na (z ▸ ha)), sub_eq x13.h (gO a ha)]
  obtain ⟨fp', q2, ff⟩ : ∃ fp', RTF X.K F3 (upd H3 ad (.ins CC dx (putF fn v vs))) (putT fn s fs) (putF fn v vs) fp' ∧ ∀ a ∈ fp', a ∈ fv ∨ a ∈ g := by
    cases z : fs.lookup fn with
    | none =>
      refine ⟨_, RTF.put (l.mono x13.f _ _ _ kg) z rv fun a ha hga => gH a hga (n1 a ha).1, fun a ha => ?_⟩
      exact (List.mem_append.mp ha).symm
    | some t1 =>
      obtain ⟨w1, f1, e1, q1, i1, k1⟩ := l.at_ z
      obtain ⟨fp', q2, q3⟩ := k1 F3 _ s v fv x13.f (fun a ha _ => kg a ha) rv (fun a ha hga => absurd (n1 a ha).1 (gH a hga))
      exact ⟨fp', q2, fun a ha => (q3 a ha).imp id (·.1)⟩
  refine qq _ kk F3 _ σ (K F3 _ _ (ad :: fp') x13.f (fun c o ho => ?_) x13.fr ((GwX.put1 x13.h (x13.h.k _ _ hh (fun _ z => nomatch z)) (fun _ z => nomatch z) (fun _ z => nomatch z)).more (fun c hc => by rw [List.mem_singleton] at hc; subst hc; exact List.mem_cons_self)) x13.nt (rt_ob.mpr ⟨ad, dx, _, fp', rfl, rfl, fun hm => ?_, upd_same, q2⟩) (fun c hc => ?_) (fun c hc => ?_))
  · rw [upd_ne (ne_of_none ho (x13.keepN (nf ad List.mem_cons_self).1 (nf ad List.mem_cons_self).2.2.ne))]; exact x13.fh c o ho
  · rcases ff ad hm with hm | hm
    · exact fsad hm
    · exact na hm
  · rcases List.mem_cons.mp hc with rfl | hc
    · exact .inl List.mem_cons_self
    · rcases ff c hc with hm | hm
      · exact .inr (n1 c hm).1
      · exact .inl (List.mem_cons_of_mem _ hm)
  · rcases List.mem_cons.mp hc with rfl | hc
    · exact x13.keepN (nf c List.mem_cons_self).1 (nf c List.mem_cons_self).2.2.ne
    · rcases ff c hc with hm | hm
      · exact x3.keepN (n1 c hm).2 (r1.own _ _ _ c hm).ne
      · exact x13.keepN (nf c (List.mem_cons_of_mem _ hm)).1 (nf c (List.mem_cons_of_mem _ hm)).2.2.ne
theorem sm_setf_a {p2 : Pos} {CC : Addr} {fs : List (Str × T)} {fn : Str} (h : ET X Δ e s) (hp : EP X Δ a i π) (hΔ : Δ[i]? = some (Sl.w q t)) (hg : T.get π t = some (.ob CC fs)) (c : Cls X.K CC) (nn : NoAttr X.K CC fn) (hl : fs.length < 1000) (kk : C (.nx (Δ.set i (.w q (T.put (.ob CC (putT fn s fs)) π t))))) (hs : Rf (swapsWith e (some (.Attribute a fn p2)) pos.line X.env = pure false)) : Sm X (.Assign [.Attribute a fn p2] e pos) Δ C := sm_setf h hp hΔ hg c nn hl kk hs.ok
end
end Z

namespace Z
open PySem PySem.Spec PyProof.Rows L2
variable [τ : Tb]

/-! ### defs that change what they are handed -/
/-- what is handed: a datum; the tree in slot k, which goes from t to t' -/
inductive Arg where
  | by (d : D) | sl (k : Nat) (t t' : T)
def inA (ad : Nat → Addr) : Arg → Sl
  | .by d => .v d | .sl k t _ => .w (some (ad k)) t
def outA (ad : Nat → Addr) : Arg → Sl
  | .by d => .v d | .sl k _ t' => .w (some (ad k)) t'
def upd1 (Δ : List Sl) : Arg → List Sl
  | .by _ => Δ
  | .sl k _ t' => match Δ[k]? with | some (.w q _) => Δ.set k (.w q t') | _ => Δ
def upds : List Arg → List Sl → List Sl
  | [], Δ => Δ
  | a :: r, Δ => upds r (upd1 Δ a)
/-- a promise over slots: what is handed, the answer, what is left -/
def PrM (K : PySem.W.Frag) (spec : List Sl → D → List Sl → Prop) : Sp := fun vs H Q _ =>
  ∃ G H0 Δ d Δ', Stt K G H0 G H (vs.map some) Δ ∧ spec Δ d Δ' ∧ ∀ v G' H', Stt K G H0 G' H' (vs.map some) Δ' → R K G' d v → Q v H'
/-- what may be asked of the slots handed -/
def ArgOk (Δ : List Sl) (i : Nat) : Sl → Prop
  | .u => True | .v d => Δ[i]? = some (.v d) | .w q t => ∃ a t0, q = some a ∧ Δ[i]? = some (.w (some a) t0) | .k _ => False
def ArgsOk (Δ Δ' : List Sl) : Prop := Δ'.length = Δ.length ∧ ∀ (i : Nat) (s : Sl), Δ'[i]? = some s → ArgOk Δ i s
def upTo (Δ' Δf : List Sl) : Prop := ∀ (i : Nat) (q : Option Addr) (t : T), Δ'[i]? = some (Sl.w q t) → Δf[i]? = some (Sl.w q t)
/-- what the body of such a def must come to -/
def finM (d : D) (Δ' : List Sl) : Out → Prop
  | .rt r Δf => r = .v d ∧ upTo Δ' Δf
  | .nx Δf => d = .non ∧ upTo Δ' Δf
  | _ => False
def iniM (N : List Str) (Δ : List Sl) : List Sl := Δ ++ List.replicate (N.length - Δ.length) Sl.u
section
variable {P : Program} {w : World} {K : PySem.W.Frag} {mg : Str → Option Value} {base : Heap}
theorem stt_iniM {G H0 F H : Hp} {Δ : List Sl} {vs : List V} {N : List Str} (S : Stt K G H0 F H (vs.map some) Δ) : Stt K G H0 F H (L2.start N vs) (iniM N Δ) := by
  obtain ⟨fp, Q⟩ := S.sl
  have hl : vs.length = Δ.length := by have := S.len; rwa [List.length_map] at this
  refine ⟨S.g, S.fh, S.h0, S.fr, S.nt, S.tb, ?_, fp, fun i s x q1 q2 => ?_, Q.nw, Q.dj⟩
  · unfold L2.start iniM
    simp [hl]
  · unfold iniM at q1
    unfold L2.start at q2
    by_cases hi : i < Δ.length
    · rw [List.getElem?_append_left hi] at q1
      rw [List.getElem?_append_left (by simpa [hl] using hi)] at q2
      exact Q.ok i s x q1 q2
    · rw [List.getElem?_append_right (by omega), List.getElem?_replicate] at q1
      split at q1 <;> cases q1
      trivial
def isW : Option Sl → Bool
  | some (.w _ _) => true | _ => false
theorem stt_finM {G H0 H F' H' : Hp} {Δ Δ' Δf : List Sl} {vs : List V} {σ' : L2.St} (S : Stt K G H0 G H (vs.map some) Δ) (S' : Stt K G H0 F' H' σ' Δf) (ao : ArgsOk Δ Δ') (u : upTo Δ' Δf) : Stt K G H0 F' H' (vs.map some) Δ' := by
  obtain ⟨fp, Q⟩ := S'.sl
  refine ⟨S'.g, S'.fh, S'.h0, S'.fr, S'.nt, S'.tb, S.len.trans ao.1.symm, fun i => if isW Δ'[i]? then fp i else [], fun i s x q1 q2 => ?_, fun i a ha => ?_, fun i j a ne h1 h2 => ?_⟩
  · have hk := ao.2 i s q1
    cases s with
    | u => trivial
    | k kvs => exact False.elim hk
    | v d =>
      have hk : Δ[i]? = some (.v d) := hk
      obtain ⟨y, e, r⟩ := S.val i d hk
      rw [e] at q2; cases q2
      refine ⟨?_, y, rfl, r.mono S'.g⟩
      rw [q1]; rfl
    | w q t =>
      obtain ⟨a, t0, rfl, e0⟩ := hk
      obtain ⟨y, f, e1, _, k1, _⟩ := S.tree i e0
      rw [e1] at q2; cases q2
      have hf := u i _ _ q1
      obtain ⟨z, e2⟩ := len_of S'.len hf
      obtain ⟨y2, rfl, r2, k2⟩ := Q.ok i _ z hf e2
      have h1 := k1 a rfl
      have h2 := k2 a rfl
      refine ⟨y, rfl, ?_, fun b hb => by cases hb; exact h1⟩
      rw [q1, show isW (some (Sl.w (some a) t)) = true from rfl, if_pos rfl, h1, ← h2]; exact r2
  · cases z : isW Δ'[i]? with
    | false => rw [z] at ha; cases ha
    | true => rw [z, if_pos rfl] at ha; exact Q.nw i a ha
  · cases z : isW Δ'[i]? with
    | false => rw [z] at h1; cases h1
    | true =>
      rw [z, if_pos rfl] at h1
      cases z2 : isW Δ'[j]? with
      | false => rw [z2] at h2; cases h2
      | true => rw [z2, if_pos rfl] at h2; exact Q.dj i j a ne h1 h2
/-- THE RULE for a def that changes what it is handed -/
theorem fn_okM {x qual : Str} {st : Stmt} {f : Addr} {fd : FuncData} {N ps : List Str} {k : Nat} {spec : List Sl → D → List Sl → Prop} (Fn : Fun K x qual st f fd) (S : FnScope N ps (defScope st)) (ar : ∀ Δ d Δ', spec Δ d Δ' → Δ.length = ps.length ∧ ArgsOk Δ Δ')
    (hb : ∀ (cdv : Value) (A : Around) (outer : List Env) (s : Shared) (H : Hp) (E : XK), Room k (A.deeper (envOfC qual (defScope st) s.heap.objs.size f cdv)) → ∀ Δ d Δ', spec Δ d Δ' →
      Bk ((cxOf CX0 P w K mg base N qual (defScope st) f cdv A outer s H E).nox) (defBody st) (iniM N Δ) (finM d Δ')) : FnOk P w K mg base CX0 (k + 1) f fd ps (PrM K spec) := by
  refine Fn.ok S (fun vs H Q E h => ?_) (fun cdv A outer s H vs Q E hr h => ?_)
  · obtain ⟨G, H0, Δ, d, Δ', St, sp, _⟩ := h
    have := St.len
    rw [List.length_map] at this
    rw [this]; exact (ar Δ d Δ' sp).1
  · obtain ⟨G, H0, Δ, d, Δ', St, sp, ro⟩ := h
    refine ⟨uS _ (defBody st), pss_u, ?_⟩
    have ao := (ar Δ d Δ' sp).2
    refine hb cdv A outer s H E hr Δ d Δ' sp G H0 G H _ (stt_iniM St) _ fun o ho => ?_
    cases o with
    | nx Δf =>
      obtain ⟨rfl, u⟩ := ho
      exact fun F1 H1 σ1 T1 => ro .non F1 H1 (stt_finM St T1 ao u) (r_non.mpr rfl)
    | bk Δf => exact False.elim ho
    | ct Δf => exact False.elim ho
    | xr C Δf => exact False.elim ho
    | rt r Δf =>
      obtain ⟨rfl, u⟩ := ho
      exact fun F1 H1 σ1 v T1 rr => ro v F1 H1 (stt_finM St T1 ao u) rr
structure FnC (P : Program) (w : World) (K : PySem.W.Frag) (mg : Str → Option Value) (base : Heap) (CX : CXT) (n : Str) (k : Nat) (spec : List Sl → D → List Sl → Prop) : Prop where
  ex : ∃ f fd ps, FnOk P w K mg base CX k f fd ps (PrM K spec) ∧ mg n = some (.ref f) ∧ PySem.W.keepIn K (.ref f) = true ∧ Binds K fd ps []
/-- a class's __init__ -/
structure FnI (P : Program) (w : World) (K : PySem.W.Frag) (mg : Str → Option Value) (base : Heap) (CX : CXT) (C : Addr) (k : Nat) (spec : List Sl → D → List Sl → Prop) : Prop where
  ex : ∃ f fd ps, FnOk P w K mg base CX k f fd ps (PrM K spec) ∧ Mk K C f ∧ Binds K fd ps []
end
/-! ### calls -/
def ArgR (K : PySem.W.Frag) (F : Hp) (σ : L2.St) : Arg → V → Prop
  | .by d, v => R K F d v
  | .sl k _ _, v => σ[k]? = some (some v)
def ArgsR (K : PySem.W.Frag) (F : Hp) (σ : L2.St) : List Arg → List V → Prop
  | [], vs => vs = []
  | a :: as, vs => ∃ v vs', vs = v :: vs' ∧ ArgR K F σ a v ∧ ArgsR K F σ as vs'
theorem ArgsR.mono {K : PySem.W.Frag} {F F' : Hp} {σ : L2.St} (s : Sub F F') : ∀ {as : List Arg} {vs : List V}, ArgsR K F σ as vs → ArgsR K F' σ as vs
  | [], _, h => h
  | a :: as, _, h => by
    obtain ⟨v, vs', rfl, h1, h2⟩ := h
    refine ⟨v, vs', rfl, ?_, h2.mono s⟩
    cases a with
    | «by» d => exact R.mono s _ _ h1
    | sl k t t' => exact h1
theorem ArgsR.get {K : PySem.W.Frag} {F : Hp} {σ : L2.St} : ∀ {as : List Arg} {vs : List V}, ArgsR K F σ as vs → vs.length = as.length ∧ ∀ (i : Nat) (a : Arg) (v : V), as[i]? = some a → vs[i]? = some v → ArgR K F σ a v
  | [], _, h => by cases h; exact ⟨rfl, fun i a v e => by simp at e⟩
  | a :: as, _, h => by
    obtain ⟨v, vs', rfl, h1, h2⟩ := h
    obtain ⟨e, k⟩ := h2.get
    refine ⟨by simp [e], fun i b w e1 e2 => ?_⟩
    cases i with
    | zero => simp at e1 e2; subst e1 e2; exact h1
    | succ i => simp at e1 e2; exact k i b w e1 e2
def AM (X : Cx) (Δ : List Sl) (es : List Expr) (as : List Arg) : Prop :=
  ∀ (G0 H0 F H : Hp) (σ : L2.St), Stt X.K G0 H0 F H σ Δ → ∀ Q : List V → Hp → Prop, (∀ vs F' H', Ext F H F' H' → ArgsR X.K F' σ as vs → Q vs H') → uA X es σ H Q
/-- e evaluates to d and leaves the slots Δ' -/
def EM (X : Cx) (Δ : List Sl) (e : Expr) (d : D) (Δ' : List Sl) : Prop :=
  ∀ (G0 H0 F H : Hp) (σ : L2.St), Stt X.K G0 H0 F H σ Δ → ∀ Q : VK, (∀ v F' H', Stt X.K G0 H0 F' H' σ Δ' → R X.K F' d v → Q v H') → uE X e σ H Q
/-- the slots handed are trees that lie there, no slot twice -/
def SlsOk (Δ : List Sl) : List Arg → Prop
  | [] => True
  | .by _ :: r => SlsOk Δ r
  | .sl k t _ :: r => (∃ q, Δ[k]? = some (Sl.w q t)) ∧ (∀ t1 t2, Arg.sl k t1 t2 ∉ r) ∧ SlsOk Δ r
theorem SlsOk.get {Δ : List Sl} : ∀ {as : List Arg}, SlsOk Δ as → (∀ k t t', Arg.sl k t t' ∈ as → ∃ q, Δ[k]? = some (Sl.w q t)) ∧ (∀ (i j k : Nat) (t t' u u' : T), as[i]? = some (Arg.sl k t t') → as[j]? = some (Arg.sl k u u') → i = j)
  | [], _ => ⟨fun _ _ _ h => (nomatch h), fun i j k t t' u u' e => by simp at e⟩
  | .by d :: r, h => by
    obtain ⟨a, b⟩ := SlsOk.get (as := r) h
    refine ⟨fun k t t' hm => ?_, fun i j k t t' u u' e1 e2 => ?_⟩
    · rcases List.mem_cons.mp hm with z | z
      · cases z
      · exact a k t t' z
    · cases i with
      | zero => simp at e1
      | succ i =>
        cases j with
        | zero => simp at e2
        | succ j => simp at e1 e2; rw [b i j k t t' u u' e1 e2]
  | .sl k0 t0 t1 :: r, h => by
    obtain ⟨h1, h2, h3⟩ := h
    obtain ⟨a, b⟩ := SlsOk.get h3
    refine ⟨fun k t t' hm => ?_, fun i j k t t' u u' e1 e2 => ?_⟩
    · rcases List.mem_cons.mp hm with z | z
      · cases z; exact h1
      · exact a k t t' z
    · cases i with
      | zero =>
        simp at e1
        obtain ⟨rfl, rfl, rfl⟩ := e1
        cases j with
        | zero => rfl
        | succ j => simp at e2; exact absurd (List.mem_of_getElem? e2) (h2 u u')
      | succ i =>
        simp at e1
        cases j with
        | zero =>
          simp at e2
          obtain ⟨rfl, rfl, rfl⟩ := e2
          exact absurd (List.mem_of_getElem? e1) (h2 t t')
        | succ j => simp at e2; rw [b i j k t t' u u' e1 e2]
theorem upd1_get {Δ : List Sl} {a : Arg} {j : Nat} : (upd1 Δ a)[j]? = match a with | .by _ => Δ[j]? | .sl k _ t' => if j = k then (match Δ[k]? with | some (.w q _) => some (.w q t') | o => o) else Δ[j]? := by
  cases a with
  | «by» d => rfl
  | sl k t t' =>
    show (match Δ[k]? with | some (.w q _) => Δ.set k (.w q t') | _ => Δ)[j]? = if j = k then _ else _
    cases e : Δ[k]? with
    | none =>
      by_cases z : j = k
      · subst z; rw [if_pos rfl]; exact e
      · rw [if_neg z]
    | some s =>
      cases s with
      | w q t0 =>
        by_cases z : j = k
        · subst z
          rw [if_pos rfl]
          show (Δ.set j (.w q t'))[j]? = some (.w q t')
          rw [List.getElem?_set, if_pos rfl, if_pos (List.getElem?_eq_some_iff.mp e).1]
        · rw [if_neg z]
          exact List.getElem?_set_ne (Ne.symm z)
      | u =>
        by_cases z : j = k
        · subst z; rw [if_pos rfl]; exact e
        · rw [if_neg z]
      | v d =>
        by_cases z : j = k
        · subst z; rw [if_pos rfl]; exact e
        · rw [if_neg z]
      | k kvs =>
        by_cases z : j = k
        · subst z; rw [if_pos rfl]; exact e
        · rw [if_neg z]
theorem upd1_len {Δ : List Sl} {a : Arg} : (upd1 Δ a).length = Δ.length := by
  cases a with
  | «by» d => rfl
  | sl k t t' =>
    show (match Δ[k]? with | some (.w q _) => Δ.set k (.w q t') | _ => Δ).length = _
    split
    · exact List.length_set
    · rfl
theorem upds_get : ∀ {as : List Arg} {Δ : List Sl} {j : Nat}, (upds as Δ).length = Δ.length ∧ ((∀ t t', Arg.sl j t t' ∉ as) → (upds as Δ)[j]? = Δ[j]?) ∧
    (∀ (i : Nat) (t t' : T) (q : Option Addr), as[i]? = some (Arg.sl j t t') → (∀ (i2 : Nat) (u u' : T), as[i2]? = some (Arg.sl j u u') → i2 = i) → Δ[j]? = some (Sl.w q t) → (upds as Δ)[j]? = some (Sl.w q t'))
  | [], Δ, j => ⟨rfl, fun _ => rfl, fun i t t' q e => by simp at e⟩
  | a :: as, Δ, j => by
    obtain ⟨h1, h2, h3⟩ := upds_get (as := as) (Δ := upd1 Δ a) (j := j)
    refine ⟨h1.trans upd1_len, fun hn => ?_, fun i t t' q e un hd => ?_⟩
    · show (upds as (upd1 Δ a))[j]? = _
      rw [h2 fun t t' hm => hn t t' (List.mem_cons_of_mem _ hm), upd1_get]
      cases a with
      | «by» d => rfl
      | sl k t t' =>
        show (if j = k then _ else _) = _
        rw [if_neg fun z => hn t t' (by rw [z]; exact List.mem_cons_self)]
    · show (upds as (upd1 Δ a))[j]? = _
      cases i with
      | zero =>
        simp at e
        subst e
        have nn : ∀ u u', Arg.sl j u u' ∉ as := fun u u' hm => by
          obtain ⟨i2, hi2, e2⟩ := List.mem_iff_getElem.mp hm
          have := un (i2 + 1) u u' (by simp [List.getElem?_eq_getElem hi2, e2])
          omega
        rw [h2 nn, upd1_get]
        show (if j = j then _ else _) = _
        rw [if_pos rfl, hd]
      | succ i =>
        simp at e
        refine h3 i t t' q e (fun i2 u u' e2 => ?_) ?_
        · have := un (i2 + 1) u u' (by simpa using e2); omega
        · rw [upd1_get]
          cases a with
          | «by» d => exact hd
          | sl k u u' =>
            show (if j = k then _ else _) = _
            by_cases z : j = k
            · subst z
              have := un 0 u u' rfl
              omega
            · rw [if_neg z]; exact hd
section
variable {X : Cx} {Δ Δ' : List Sl} {m : Bool} {e a b c o : Expr} {es : List Expr} {d x y : D} {ds : List D} {pos p apos : Pos} {n : Str} {k : Nat} {as : List Arg} {spec : List Sl → D → List Sl → Prop} {t t' : T} {C : Out → Prop}
theorem am_nil : AM X Δ [] [] := fun G0 H0 F H σ S Q q => aU pa_nil (q [] F H (Ext.rf S.fh) rfl)
theorem am_by (h : EV X Δ true e d) (kk : AM X Δ es as) (hs : starEach (e :: es) X.env = (false, eval e X.env) :: starEach es X.env := by rfl) : AM X Δ (e :: es) (.by d :: as) := by
  intro G0 H0 F H σ S Q q
  refine aU (pa_cons pe_u pa_u hs) (h G0 H0 F H σ S _ fun v F1 H1 e1 r1 => ?_)
  refine kk G0 H0 F1 H1 σ (S.ext e1) _ fun vs F2 H2 e2 r2 => q _ F2 H2 (e1.tr e2) ⟨v, vs, rfl, ?_, r2⟩
  exact R.mono e2.f _ _ r1
theorem am_by_a (h : EV X Δ true e d) (kk : AM X Δ es as) (hs : Rf (starEach (e :: es) X.env = (false, eval e X.env) :: starEach es X.env)) : AM X Δ (e :: es) (.by d :: as) := am_by h kk hs.ok
theorem am_sl {q : Option Addr} (t' : T) (hN : X.N[k]? = some n) (hΔ : Δ[k]? = some (.w q t)) (kk : AM X Δ es as) (hs : starEach (.Name n p :: es) X.env = (false, eval (.Name n p) X.env) :: starEach es X.env := by rfl) (hv : Vis X.env.scope n := by first | exact Or.inl rfl | exact Or.inr (Or.inl rfl) | exact Or.inr (Or.inr rfl)) (hd : (n == ("__debug__" : Str)) = false := by decide) (hcd : (n == ("__classdict__" : Str)) = false := by decide) : AM X Δ (.Name n p :: es) (.sl k t t' :: as) := by
  intro G0 H0 F H σ S Q q
  obtain ⟨y, f, ey, _⟩ := S.tree k hΔ
  refine aU (pa_cons (pe_var hN hv hd hcd) pa_u hs) ⟨y, ey, ?_⟩
  exact kk G0 H0 F H σ S _ fun vs F2 H2 e2 r2 => q _ F2 H2 e2 ⟨y, vs, rfl, ey, r2⟩
theorem am_sl_a {q : Option Addr} (t' : T) (hN : X.N[k]? = some n) (hΔ : Δ[k]? = some (.w q t)) (kk : AM X Δ es as) (hs : Rf (starEach (.Name n p :: es) X.env = (false, eval (.Name n p) X.env) :: starEach es X.env)) (hv : Rv (Vis X.env.scope n)) (hd : Rd ((n == ("__debug__" : Str)) = false)) (hcd : Rd ((n == ("__classdict__" : Str)) = false)) : AM X Δ (.Name n p :: es) (.sl k t t' :: as) := am_sl t' hN hΔ kk hs.ok hv.ok hd.ok hcd.ok
theorem RT.root {K : PySem.W.Frag} {F H : Hp} {v : V} {f : List Addr} (r : RT K F H t v f) (h : ∀ d, t ≠ .fz d) : ∃ a, v = .ref a := by
  cases t with
  | fz d => exact absurd rfl (h d)
  | ls ts => obtain ⟨a, _, _, e, _⟩ := rt_ls.mp r; exact ⟨a, e⟩
  | tp ts => obtain ⟨a, _, _, e, _⟩ := rt_tp.mp r; exact ⟨a, e⟩
  | ob C fs => obtain ⟨a, _, _, _, e, _⟩ := rt_ob.mp r; exact ⟨a, e⟩
/-- the heap without what is handed -/
noncomputable def less (H : Hp) (P : Addr → Prop) : Hp := fun a => open Classical in if P a then none else H a
theorem less_in {H : Hp} {P : Addr → Prop} {a : Addr} (h : P a) : less H P a = none := if_pos h
theorem less_out {H : Hp} {P : Addr → Prop} {a : Addr} (h : ¬ P a) : less H P a = H a := if_neg h
def noFz : Arg → Prop
  | .by _ => True | .sl _ t _ => ∀ d, t ≠ .fz d
theorem stt_call {K : PySem.W.Frag} {G0 H0 F H : Hp} {σ : L2.St} {vs : List V} (S : Stt K G0 H0 F H σ Δ) (ok : SlsOk Δ as) (nf : ∀ a ∈ as, noFz a) (r : ArgsR K F σ as vs) :
    ∃ (ad : Nat → Addr) (Hc : Hp), Stt K F Hc F H (vs.map some) (as.map (inA ad)) ∧ ∀ F2 H2, Stt K F Hc F2 H2 (vs.map some) (as.map (outA ad)) → Stt K G0 H0 F2 H2 σ (upds as Δ) := by
  obtain ⟨fp, Q⟩ := S.sl
  obtain ⟨so1, so2⟩ := ok.get
  obtain ⟨rl, rg⟩ := r.get
  have key : ∀ k t t', Arg.sl k t t' ∈ as → ∃ (q : Option Addr) (a : Addr), Δ[k]? = some (Sl.w q t) ∧ σ[k]? = some (some (V.ref a)) ∧ RT K F H t (.ref a) (fp k) ∧ (∀ b, q = some b → V.ref a = .ref b) := fun k t t' hm => by
    obtain ⟨q, e⟩ := so1 k t t' hm
    obtain ⟨z, e2⟩ := len_of S.len e
    obtain ⟨y, rfl, r1, k1⟩ := Q.ok k _ z e e2
    obtain ⟨a, rfl⟩ := r1.root (nf _ hm)
    exact ⟨q, a, e, e2, r1, k1⟩
  let ad : Nat → Addr := fun k => match σ[k]? with | some (some (.ref a)) => a | _ => 0
  have had : ∀ (k : Nat) (a : Addr), σ[k]? = some (some (V.ref a)) → ad k = a := fun k a e => by show (match σ[k]? with | some (some (.ref a)) => a | _ => 0) = a; rw [e]
  let PP : Addr → Prop := fun a => ∃ k t t', Arg.sl k t t' ∈ as ∧ a ∈ fp k
  have hH0 : ∀ a o, H0 a = some o → ¬ PP a := fun a o ho ⟨k, t, t', _, ha⟩ => by
    rw [(Q.nw k a ha).2.1] at ho; cases ho
  have hF : ∀ a o, F a = some o → ¬ PP a := fun a o ho ⟨k, t, t', _, ha⟩ => by
    rw [(Q.nw k a ha).1] at ho; cases ho
  let fpc : Nat → List Addr := fun i => match as[i]? with | some (.sl k _ _) => fp k | _ => []
  refine ⟨ad, less H PP, ⟨Sub.rf _, S.fh, ⟨fun a o ho _ => ?_, fun a e => Classical.byCases (p := PP a) (fun hp => less_in hp) (fun hp => by rw [less_out hp]; exact e), fun _ => S.tb⟩, fun a o ho => .inl ho, S.nt, S.tb, by rw [List.length_map, List.length_map, rl], fpc, fun i s x e1 e2 => ?_, fun i a ha => ?_, fun i j a ne h1 h2 => ?_⟩, fun F2 H2 S2 => ?_⟩
  · by_cases hp : PP a
    · rw [less_in hp] at ho; cases ho
    · rw [less_out hp] at ho; exact ho
  · rw [List.getElem?_map] at e1 e2
    cases za : as[i]? with
    | none => rw [za] at e1; cases e1
    | some A =>
      rw [za] at e1; cases e1
      cases zv : vs[i]? with
      | none => rw [zv] at e2; cases e2
      | some v =>
        rw [zv] at e2; cases e2
        have hr := rg i A v za zv
        cases A with
        | «by» d =>
          refine ⟨?_, v, rfl, hr⟩
          show (match as[i]? with | some (.sl k _ _) => fp k | _ => []) = []
          rw [za]
        | sl k t t' =>
          obtain ⟨q, a, h1, h2, h3, h4⟩ := key k t t' (List.mem_of_getElem? za)
          have hr : σ[k]? = some (some v) := hr
          rw [h2] at hr; cases hr
          refine ⟨_, rfl, ?_, fun b hb => ?_⟩
          · show RT K F H t (.ref a) (match as[i]? with | some (.sl k _ _) => fp k | _ => [])
            rw [za]; exact h3
          · cases hb; rw [had k a h2]
  · have ha : a ∈ (match as[i]? with | some (.sl k _ _) => fp k | _ => []) := ha
    cases za : as[i]? with
    | none => rw [za] at ha; cases ha
    | some A =>
      rw [za] at ha
      cases A with
      | «by» d => cases ha
      | sl k t t' =>
        have := Q.nw k a ha
        exact ⟨this.1, less_in ⟨k, t, t', List.mem_of_getElem? za, ha⟩, this.2.2⟩
  · have h1 : a ∈ (match as[i]? with | some (.sl k _ _) => fp k | _ => []) := h1
    have h2 : a ∈ (match as[j]? with | some (.sl k _ _) => fp k | _ => []) := h2
    cases za : as[i]? with
    | none => rw [za] at h1; cases h1
    | some A =>
      cases zb : as[j]? with
      | none => rw [zb] at h2; cases h2
      | some B =>
        rw [za] at h1; rw [zb] at h2
        cases A with
        | «by» d => cases h1
        | sl k t t' =>
          cases B with
          | «by» d => cases h2
          | sl l u u' =>
            by_cases z : k = l
            · subst z; exact ne (so2 i j k t t' u u' za zb)
            · exact Q.dj k l a z h1 h2
  · obtain ⟨fp2, Q2⟩ := S2.sl
    have lessN : ∀ a, less H PP a = none → PP a ∨ H a = none := fun a h => by
      by_cases hp : PP a
      · exact .inl hp
      · rw [less_out hp] at h; exact .inr h
    have keep : ∀ a, ¬ PP a → Ow H a → H2 a = H a := fun a hp ⟨o, e, n⟩ => by
      rw [e]; exact S2.h0.k a o (by rw [less_out hp]; exact e) n
    have oldP : ∀ j, (∀ t t', Arg.sl j t t' ∉ as) → ∀ a ∈ fp j, ¬ PP a := fun j hj a ha ⟨k, t, t', hm, hk⟩ => by
      by_cases z : j = k
      · subst z; exact hj t t' hm
      · exact Q.dj j k a z ha hk
    have fk : ∀ a, F a = none → ¬ PP a → H a ≠ none → F2 a = none := fun a h hp hn => by
      cases z : F2 a with
      | none => rfl
      | some o =>
        rcases S2.fr a o z with y | y
        · rw [h] at y; cases y
        · rw [less_out hp] at y; exact absurd y hn
    classical
    let pos : Nat → Option Nat := fun j => if h : ∃ (i : Nat) (t t' : T), as[i]? = some (Arg.sl j t t') then some h.choose else none
    have pos_s : ∀ (j i : Nat), pos j = some i → ∃ t t', as[i]? = some (Arg.sl j t t') := fun j i h => by
      have h : (if h : ∃ (i : Nat) (t t' : T), as[i]? = some (Arg.sl j t t') then some h.choose else none) = some i := h
      split at h
      · rename_i hh; cases h; exact hh.choose_spec
      · cases h
    have pos_n : ∀ j, pos j = none → ∀ t t', Arg.sl j t t' ∉ as := fun j h t t' hm => by
      obtain ⟨i, hi, e⟩ := List.mem_iff_getElem.mp hm
      have h : (if h : ∃ (i : Nat) (t t' : T), as[i]? = some (Arg.sl j t t') then some h.choose else none) = none := h
      rw [dif_pos ⟨i, t, t', by rw [List.getElem?_eq_getElem hi, e]⟩] at h
      cases h
    let fpn : Nat → List Addr := fun j => match pos j with | some i => fp2 i | none => fp j
    have n_s : ∀ j i, pos j = some i → fpn j = fp2 i := fun j i h => by show (match pos j with | some i => fp2 i | none => fp j) = _; rw [h]
    have n_n : ∀ j, pos j = none → fpn j = fp j := fun j h => by show (match pos j with | some i => fp2 i | none => fp j) = _; rw [h]
    refine ⟨S.g.tr S2.g, S2.fh, ⟨fun a o ho n => ?_, fun a e => ?_, fun _ => S2.tb⟩, fun a o ho => ?_, S2.nt, S2.tb, S.len.trans (upds_get (j := 0)).1.symm, fpn, fun j s x e1 e2 => ?_, fun j a ha => ?_, fun j l a ne h1 h2 => ?_⟩
    · have e1 := S.h0.k a o ho n
      rw [keep a (hH0 a o ho) ⟨o, e1, n⟩]; exact e1
    · rcases lessN a (S2.h0.none e) with ⟨k, t, t', hm, ha⟩ | z
      · exact (Q.nw k a ha).2.1
      · exact S.h0.none z
    · rcases S2.fr a o ho with z | z
      · exact S.fr a o z
      · rcases lessN a z with ⟨k, t, t', hm, ha⟩ | z
        · exact .inr (Q.nw k a ha).2.1
        · exact .inr (S.h0.none z)
    · obtain ⟨u1, u2, u3⟩ := upds_get (as := as) (Δ := Δ) (j := j)
      cases zp : pos j with
      | none =>
        rw [n_n j zp]
        have hn := pos_n j zp
        rw [u2 hn] at e1
        have o := Q.ok j s x e1 e2
        cases s with
        | u => trivial
        | v d => obtain ⟨h1, y, h2, h3⟩ := o; exact ⟨h1, y, h2, h3.mono S2.g⟩
        | w q t => obtain ⟨y, h2, h3, h4⟩ := o; exact ⟨y, h2, h3.mono S2.g _ _ _ (fun a ha => keep a (oldP j hn a ha) (Q.nw j a ha).2.2), h4⟩
        | k kvs => obtain ⟨a, h1, h2, h3⟩ := o; exact ⟨a, h1, h2, by rw [keep a (oldP j hn a (by rw [h2]; exact List.mem_singleton_self _)) (Q.nw j a (by rw [h2]; exact List.mem_singleton_self _)).2.2]; exact h3⟩
      | some i =>
        rw [n_s j i zp]
        obtain ⟨t, t', ei⟩ := pos_s j i zp
        obtain ⟨q, a, h1, h2, h3, h4⟩ := key j t t' (List.mem_of_getElem? ei)
        rw [u3 i t t' q ei (fun i2 u u' e3 => so2 i2 i j u u' t t' e3 ei) h1] at e1
        cases e1
        rw [h2] at e2; cases e2
        have hi : i < vs.length := by rw [rl]; exact (List.getElem?_eq_some_iff.mp ei).1
        have hr := rg i _ vs[i] ei (List.getElem?_eq_getElem hi)
        have hr : σ[j]? = some (some vs[i]) := hr
        rw [h2] at hr
        have hr := Option.some.inj (Option.some.inj hr)
        obtain ⟨y2, e5, r5, k5⟩ := Q2.ok i (.w (some (ad j)) t') (some vs[i]) (by rw [List.getElem?_map, ei]; rfl) (by rw [List.getElem?_map, List.getElem?_eq_getElem hi]; rfl)
        cases e5
        rw [← hr] at r5
        exact ⟨_, rfl, r5, h4⟩
    · cases zp : pos j with
      | none =>
        rw [n_n j zp] at ha
        have hn := pos_n j zp
        have hp := oldP j hn a ha
        obtain ⟨h1, h2, h3⟩ := Q.nw j a ha
        exact ⟨fk a h1 hp h3.ne, h2, by obtain ⟨o, e, n⟩ := h3; exact ⟨o, (keep a hp ⟨o, e, n⟩).trans e, n⟩⟩
      | some i =>
        rw [n_s j i zp] at ha
        obtain ⟨h1, h2, h3⟩ := Q2.nw i a ha
        refine ⟨h1, ?_, h3⟩
        cases zz : H0 a with
        | none => rfl
        | some o =>
          rw [less_out (hH0 a o zz)] at h2
          rw [S.h0.n a h2] at zz; cases zz
    · cases zp : pos j with
      | none =>
        rw [n_n j zp] at h1
        cases zq : pos l with
        | none => rw [n_n l zq] at h2; exact Q.dj j l a ne h1 h2
        | some i =>
          rw [n_s l i zq] at h2
          have := (Q2.nw i a h2).2.1
          rw [less_out (oldP j (pos_n j zp) a h1)] at this
          exact (Q.nw j a h1).2.2.ne this
      | some i =>
        rw [n_s j i zp] at h1
        cases zq : pos l with
        | none =>
          rw [n_n l zq] at h2
          have := (Q2.nw i a h1).2.1
          rw [less_out (oldP l (pos_n l zq) a h2)] at this
          exact (Q.nw l a h2).2.2.ne this
        | some i2 =>
          rw [n_s l i2 zq] at h2
          by_cases z : i = i2
          · subst z
            obtain ⟨t, t', e1⟩ := pos_s j i zp
            obtain ⟨u, u', e2⟩ := pos_s l i zq
            rw [e1] at e2; cases e2; exact ne rfl
          · exact Q2.dj i i2 a z h1 h2
/-- a call of a def that changes what it is handed -/
theorem em_call (Fn : FnC X.prog X.w X.K X.mg X.base CX0 n k spec) (hr : Room k X.A) (hg : Gl X n) (ha : AM X Δ (e :: es) as) (ok : SlsOk Δ as) (nf : ∀ a ∈ as, noFz a) (hs : ∀ ad : Nat → Addr, spec (as.map (inA ad)) d (as.map (outA ad))) (hdb : (n == ("__debug__" : Str)) = false := by decide)
    (he : starEach (e :: es) X.env = (false, eval e X.env) :: starEach es X.env := by rfl) (hpl : (backTo pos (starEach es X.env)).any (·.1) = false := by rfl) : EM X Δ (.Call (.Name n p) (e :: es) [] pos) d (upds as Δ) := by
  intro G0 H0 F H σ S Q q
  obtain ⟨f, fd, ps, F1, hm, hk, hb⟩ := Fn.ex
  refine eU (pe_call F1 hr hg hm hk hb .nil pass0 pa_u hdb he hpl) (ha G0 H0 F H σ S _ fun vs F' H' x r => ?_)
  show PrM X.K spec (vs ++ []) H' Q E0
  rw [List.append_nil]
  obtain ⟨ad, Hc, S1, S2⟩ := stt_call (S.ext x) ok nf r
  exact ⟨F', Hc, _, d, _, S1, hs ad, fun v F2 H2 S3 r3 => q v F2 H2 (S2 F2 H2 S3) r3⟩
theorem em_call_a (Fn : FnC X.prog X.w X.K X.mg X.base CX0 n k spec) (hr : Room k X.A) (hg : Gl X n) (ha : AM X Δ (e :: es) as) (ok : SlsOk Δ as) (nf : ∀ a ∈ as, noFz a) (hs : ∀ ad : Nat → Addr, spec (as.map (inA ad)) d (as.map (outA ad))) (hdb : Rd ((n == ("__debug__" : Str)) = false)) (he : Rf (starEach (e :: es) X.env = (false, eval e X.env) :: starEach es X.env)) (hpl : Rf ((backTo pos (starEach es X.env)).any (·.1) = false)) : EM X Δ (.Call (.Name n p) (e :: es) [] pos) d (upds as Δ) := em_call Fn hr hg ha ok nf hs hdb.ok he.ok hpl.ok
theorem EM.to {Δ2 : List Sl} (h : EM X Δ e d Δ') (q : Δ' = Δ2) : EM X Δ e d Δ2 := q ▸ h
theorem EM.ts {t : Bool} (h : EM X Δ e (.bl t) Δ') (he : ∀ whole, isTrue e X.env whole = (do let v ← whole; standAt e.pos; holding [v] (truthy v)) := by intro _; rfl) : TS X Δ e (fun b Δ'' => b = t ∧ Δ'' = Δ') := by
  intro G0 H0 F H σ S Q q
  exact tU (pt_val pe_u he) (h G0 H0 F H σ S _ fun v F' H' S' r => ⟨t, r_bl.mp r, q t Δ' F' H' ⟨rfl, rfl⟩ S'⟩)
theorem EM.ts_a {t : Bool} (h : EM X Δ e (.bl t) Δ') (he : Ri (∀ whole, isTrue e X.env whole = (do let v ← whole; standAt e.pos; holding [v] (truthy v)))) : TS X Δ e (fun b Δ'' => b = t ∧ Δ'' = Δ') := EM.ts h he.ok
theorem sm_exprM (h : EM X Δ e d Δ') (kk : C (.nx Δ')) (hs : swapsWith e none pos.line X.env = pure false := by rfl) : Sm X (.Expr e pos) Δ C := fun G0 H0 F H σ S D q =>
  sU1 (ps_expr pe_u hs) (h G0 H0 F H σ S _ fun v F' H' S' r => q _ kk F' H' σ S')
theorem sm_exprM_a (h : EM X Δ e d Δ') (kk : C (.nx Δ')) (hs : Rf (swapsWith e none pos.line X.env = pure false)) : Sm X (.Expr e pos) Δ C := sm_exprM h kk hs.ok
theorem sm_setM {i : Nat} {p1 : Pos} (hN : X.N.Nodup) (hi : X.N[i]? = some n) (hl : Loc X.env.scope n) (h : EM X Δ e d Δ') (kk : C (.nx (Δ'.set i (.v d)))) (hs : swapsWith e (some (.Name n p1)) pos.line X.env = pure false := by rfl) (hf : X.fn n = true ∨ X.env.scope.names.lookup n = some .local := by first | exact .inl rfl | exact .inr rfl) :
    Sm X (.Assign [.Name n p1] e pos) Δ C := fun G0 H0 F H σ S D q =>
  sU1 (ps_set hN hi hl pe_u hs hf) (h G0 H0 F H σ S _ fun v F' H' S' r => q _ kk F' H' _ (S'.setv r))
theorem sm_setM_a {i : Nat} {p1 : Pos} (hN : X.N.Nodup) (hi : X.N[i]? = some n) (hl : Loc X.env.scope n) (h : EM X Δ e d Δ') (kk : C (.nx (Δ'.set i (.v d)))) (hs : Rf (swapsWith e (some (.Name n p1)) pos.line X.env = pure false)) (hf : Rl (X.fn n = true ∨ X.env.scope.names.lookup n = some .local)) : Sm X (.Assign [.Name n p1] e pos) Δ C := sm_setM hN hi hl h kk hs.ok hf.ok
theorem sm_retM (h : EM X Δ e d Δ') (kk : C (.rt (.v d) Δ')) : Sm X (.Return (some e) pos) Δ C := fun G0 H0 F H σ S D q =>
  sU1 (ps_ret pe_u) (h G0 H0 F H σ S _ fun v F' H' S' r => q _ kk F' H' σ v S' r)
/-- C(e, ..) -/
theorem et_make {CC : Addr} (Fn : FnI X.prog X.w X.K X.mg X.base CX0 CC k spec) (hr : Room (k + 1) X.A) (hg : Gl X n) (hm : X.mg n = some (.ref CC)) (ha : AV X Δ true (e :: es) ds) (hs : ∀ a : Addr, ∃ Δ', spec (.w (some a) (.ob CC []) :: ds.map .v) .non (.w (some a) t :: Δ')) (hdb : (n == ("__debug__" : Str)) = false := by decide)
    (he : starEach (e :: es) X.env = (false, eval e X.env) :: starEach es X.env := by rfl) (hpl : (backTo pos (starEach es X.env)).any (·.1) = false := by rfl) : ET X Δ (.Call (.Name n p) (e :: es) [] pos) t := by
  intro G0 H0 F H σ S Q q
  obtain ⟨f, fd, ps, F1, M, hb⟩ := Fn.ex
  refine eU (pe_make M F1 hr hg hm hb .nil pass0 pa_u hdb he hpl) (ha G0 H0 F H σ S _ fun vs F' H' x r => fun ax dx nx ndx nex => ?_)
  have r : RL X.K F' ds vs := r
  obtain ⟨Δ', hsp⟩ := hs ax
  have s1 : Sub H' (upd H' dx (.own ax)) := Sub.new ndx
  have nax : upd H' dx (.own ax) ax = none := by rw [upd_ne (Ne.symm nex)]; exact nx
  have s2 : Sub (upd H' dx (.own ax)) (upd (upd H' dx (.own ax)) ax (.ins CC dx [])) := Sub.new nax
  show PrM X.K spec (.ref ax :: (vs ++ [])) _ _ E0
  rw [List.append_nil]
  have fx : F' ax = none := x.fh.none nx
  refine ⟨F', upd H' dx (.own ax), _, _, _, ⟨Sub.rf _, x.fh.tr (s1.tr s2), s2.gw, fun a o h => .inl h, (S.ext x).nt, ((S.ext x).tb.ext s1).ext s2, ?_, fun i => if i = 0 then [ax] else [], fun i s z e1 e2 => ?_, fun i a ha => ?_, fun i j a ne h1 h2 => ?_⟩, hsp, fun v F2 H2 S2 r2 => ⟨r_non.mp r2, ?_⟩⟩
  · simp [r.length]
  · cases i with
    | zero =>
      simp at e1 e2
      subst e1 e2
      refine ⟨_, rfl, ?_, fun a h => by cases h; rfl⟩
      rw [if_pos rfl]
      exact rt_ob.mpr ⟨ax, dx, [], [], rfl, rfl, fun h => (nomatch h), upd_same, rtf_nil.mpr ⟨rfl, rfl⟩⟩
    | succ i =>
      rw [List.map_cons, List.getElem?_cons_succ, List.getElem?_map] at e2
      rw [List.getElem?_cons_succ, List.getElem?_map] at e1
      cases zd : ds[i]? with
      | none => rw [zd] at e1; cases e1
      | some d1 =>
        rw [zd] at e1; cases e1
        obtain ⟨v, h1, h2⟩ := r.get zd
        rw [h1] at e2; cases e2
        exact ⟨if_neg (by omega), v, rfl, h2⟩
  · have ha : a ∈ (if i = 0 then [ax] else []) := ha
    split at ha
    · rw [List.mem_singleton] at ha
      subst ha
      exact ⟨fx, nax, Ow.ins upd_same⟩
    · cases ha
  · have h1 : a ∈ (if i = 0 then [ax] else []) := h1
    have h2 : a ∈ (if j = 0 then [ax] else []) := h2
    split at h1
    · split at h2
      · omega
      · cases h2
    · cases h1
  · obtain ⟨y, ff, ey, ry, ky, nn⟩ := S2.tree 0 rfl
    simp at ey
    have := ky ax rfl
    subst ey
    refine q _ ff F2 H2 (x.tr ⟨S2.g, s1.gw.tr S2.h0, S2.fh, fun a o h => ?_, fun a ps h => absurd h (S2.nt a ps)⟩) ry fun a ha => ⟨x.h.none (s1.none (nn a ha).2.1), (nn a ha).1⟩
    rcases S2.fr a o h with z | z
    · exact .inl z
    · exact .inr (s1.none z)
theorem et_make_a {CC : Addr} (Fn : FnI X.prog X.w X.K X.mg X.base CX0 CC k spec) (hr : Room (k + 1) X.A) (hg : Gl X n) (hm : X.mg n = some (.ref CC)) (ha : AV X Δ true (e :: es) ds) (hs : ∀ a : Addr, ∃ Δ', spec (.w (some a) (.ob CC []) :: ds.map .v) .non (.w (some a) t :: Δ')) (hdb : Rd ((n == ("__debug__" : Str)) = false)) (he : Rf (starEach (e :: es) X.env = (false, eval e X.env) :: starEach es X.env)) (hpl : Rf ((backTo pos (starEach es X.env)).any (·.1) = false)) : ET X Δ (.Call (.Name n p) (e :: es) [] pos) t := et_make Fn hr hg hm ha hs hdb.ok he.ok hpl.ok
end
end Z

namespace Z
open PySem PySem.Spec PyProof.Rows L2
variable [τ : Tb]

/-! ### comprehensions that make trees -/
section
variable {X : Cx} {Δ : List Sl} {elt tg iter cnd : Expr} {scope : Scope} {ds : List D} {pos pos' py : Pos} {f : D → T}
theorem lct_run {tt : TT} {vs : List Nat} (hlen : ds.length ≤ sizeLine) (hi : IT X Δ tg iter ds)
    (hb : ∀ d ∈ ds, ∃ is Δ1, (∀ j ∈ is, j ∈ vs) ∧ (∀ s H C cl fp, GV (BX X scope s H C cl fp) is tg d (wipD Δ vs) Δ1) ∧
      (∀ (G0 H0 F H : Hp) (σ : L2.St), Stt X.K G0 H0 F H σ Δ1 → ∀ Q : Bool → Hp → Prop, (∀ F' H', Ext F H F' H' → Q true H') → tt σ H Q) ∧
      (∀ s H C cl fp, ET (BX X scope s H C cl fp) Δ1 elt (f d)))
    {G0 H0 F H : Hp} {σ : L2.St} (S : Stt X.K G0 H0 F H σ Δ) {Q : VK} (q : ∀ v fl F' H', Ext F H F' H' → RT X.K F' H' (.ls (ds.map f)) v fl → (∀ a ∈ fl, H a = none ∧ F' a = none) → Q v H') :
    tLc (uI X tg iter) (fun v σ H Q => ∀ s H' C cl fp, uG (BX X scope s H' C cl fp) tg v σ H Q) tt (fun σ H Q => ∀ s H' C cl fp, uE (BX X scope s H' C cl fp) elt σ H Q) vs σ H Q := by
  refine hi G0 H0 F H σ S _ fun J F1 H1 e1 W => fun D nD => ?_
  refine lc_it (g := fun v σ H Q => ∀ s H' C cl fp, uG (BX X scope s H' C cl fp) tg v σ H Q) (tt := tt) (te := fun σ H Q => ∀ s H' C cl fp, uE (BX X scope s H' C cl fp) elt σ H Q) (vs := vs) (σ := σ) (Qd := fun H' => Q (.ref D) H') (J := J) (n := ds.length) (G := Sub F1) (Y := J.yld) ⟨fun i H hi s => W.go i H hi s, fun H s => W.stop H s, fun i H x H' hi s y => y⟩
    (fun i H2 => ∃ F2 acc fl, Ext F1 H1 F2 H2 ∧ H2 D = some (.lst acc) ∧ F2 D = none ∧ RTL X.K F2 H2 ((ds.take i).map f) acc fl ∧ (∀ a ∈ fl, H1 a = none ∧ F2 a = none) ∧ D ∉ fl)
    ⟨F1, [], [], Ext.grow e1.fh (Sub.new nD), upd_same, e1.fh.none nD, by rw [List.take_zero]; exact rtl_nil.mpr ⟨rfl, rfl⟩, fun _ h => (nomatch h), fun h => (nomatch h)⟩ (fun i H2 _ ⟨F2, acc, fl, x, _⟩ => x.f.tr x.fh)
    (fun i v H2 H3 hil ⟨F2, acc, fl, x2, hD, fD, rl, nf, nDf⟩ y => ?_) (fun H2 ⟨F2, acc, fl, x2, hD, fD, rl, nf, nDf⟩ => ?_)
  · have hd' : ds[i]? = some ds[i] := List.getElem?_eq_getElem hil
    generalize ds[i] = d at hd'
    obtain ⟨F3, e3, r3⟩ := W.yld i d H2 v H3 F2 hd' x2.f x2.fh y
    obtain ⟨is, Δ1, his, hg, ht, he⟩ := hb d (List.mem_of_getElem? hd')
    have S3 := ((S.ext (e1.tr (x2.tr e3))).wip vs)
    have e13 := x2.tr e3
    have tk : (ds.take (i + 1)).map f = (ds.take i).map f ++ [f d] := by
      rw [List.take_add_one, hd']; simp
    have hDn : H2 D ≠ none := by rw [hD]; exact fun z => nomatch z
    have keepD : ∀ {F4 H4 : Hp}, Ext F2 H2 F4 H4 → F4 D = none := fun {F4 H4} x4 => x4.keepN fD hDn
    intro s HH C cl fp
    refine hg s HH C cl fp G0 H0 F3 H3 _ v S3 r3 _ fun σ2 o2 S4 => ⟨wipe_off o2 his, ?_⟩
    refine ht G0 H0 F3 H3 σ2 S4 _ fun F5 H5 e5 => ?_
    rw [if_pos rfl]
    intro s HH C cl fp
    refine he s HH C cl fp G0 H0 F5 H5 σ2 (S4.ext e5) _ fun yv fy F6 H6 e6 r6 n6 => ?_
    have e26 := e3.tr (e5.tr e6)
    have e25 := e3.tr e5
    have e16 := x2.tr e26
    have r6 : RT X.K F6 H6 (f d) yv fy := r6
    have rl6 := rl.ext e26
    have Dfy : D ∉ fy := fun h => by have := e25.h.none (n6 D h).1; exact hDn this
    have up : ∀ a, a ≠ D → upd H6 D (.lst (acc ++ [yv])) a = H6 a := fun a ha => upd_ne ha
    refine ⟨acc, e26.h.k _ _ hD (fun _ z => nomatch z), ?_, F6, acc ++ [yv], fl ++ fy, e16.wr nD (keepD e26) (e26.h.k _ _ hD (fun _ z => nomatch z)), upd_same, keepD e26, ?_, fun a ha => ?_, fun h => ?_⟩
    · have h1 := rl.length
      rw [List.length_map, List.length_take] at h1
      omega
    · rw [tk]
      refine RTL.snoc (rl6.mono (Sub.rf _) _ _ _ fun a ha => up a fun z => nDf (z ▸ ha)) (r6.mono (Sub.rf _) _ _ _ fun a ha => up a fun z => Dfy (z ▸ ha)) fun a ha hb => ?_
      exact (rl.own _ _ _ a hb).ne (e25.h.none (n6 a ha).1)
    · rcases List.mem_append.mp ha with ha | ha
      · exact ⟨(nf a ha).1, e26.keepN (nf a ha).2 (rl.own _ _ _ a ha).ne⟩
      · exact ⟨(x2.tr e25).h.none (n6 a ha).1, (n6 a ha).2⟩
    · rcases List.mem_append.mp h with h | h
      · exact nDf h
      · exact Dfy h
  · rw [List.take_length] at rl
    refine q (.ref D) (D :: fl) F2 H2 (e1.tr x2) (rt_ls.mpr ⟨D, acc, fl, rfl, rfl, nDf, hD, rl⟩) fun a ha => ?_
    rcases List.mem_cons.mp ha with rfl | ha
    · exact ⟨e1.h.none nD, fD⟩
    · exact ⟨e1.h.none (nf a ha).1, (nf a ha).2⟩
/-- [elt for tg in iter], each item a new tree -/
theorem et_lc (own : List (Str × Nat)) (f : D → T) (hlen : ds.length ≤ sizeLine) (hi : IT X Δ tg iter ds)
    (hb : ∀ d ∈ ds, ∃ is Δ1, (∀ j ∈ is, j ∈ own.map (·.2)) ∧ (∀ s H C cl fp, GV (BX X scope s H C cl fp) is tg d (wipD Δ (own.map (·.2))) Δ1) ∧ (∀ s H C cl fp, ET (BX X scope s H C cl fp) Δ1 elt (f d)))
    (hN : X.N.Nodup) (ok : BlkOk X.N X.env.scope scope own) (hc : X.calm = true := by rfl) (hs : ∀ x, foldedSetIterable iter X.env x = pure x := by intro _; rfl) : ET X Δ (.ListComp elt [⟨tg, iter, [], 0⟩] scope pos) (.ls (ds.map f)) := by
  intro G0 H0 F H σ S Q q
  refine eU (pe_lc hc hN pi_u ok (fun _ _ _ _ _ => pg_b) (fun _ _ _ _ _ => pts_nil) (fun _ _ _ _ _ => pe_b) hs) ?_
  refine lct_run hlen hi (fun d hd => ?_) S q
  obtain ⟨is, Δ1, h1, h2, h3⟩ := hb d hd
  exact ⟨is, Δ1, h1, h2, fun G0 H0 F H σ S Q q => q F H (Ext.rf S.fh), h3⟩
theorem et_lc_a (own : List (Str × Nat)) (f : D → T) (hlen : ds.length ≤ sizeLine) (hi : IT X Δ tg iter ds) (hb : ∀ d ∈ ds, ∃ is Δ1, (∀ j ∈ is, j ∈ own.map (·.2)) ∧ (∀ s H C cl fp, GV (BX X scope s H C cl fp) is tg d (wipD Δ (own.map (·.2))) Δ1) ∧ (∀ s H C cl fp, ET (BX X scope s H C cl fp) Δ1 elt (f d))) (hN : X.N.Nodup) (ok : BlkOk X.N X.env.scope scope own) (hc : Rf (X.calm = true)) (hs : Ri (∀ x, foldedSetIterable iter X.env x = pure x)) : ET X Δ (.ListComp elt [⟨tg, iter, [], 0⟩] scope pos) (.ls (ds.map f)) := et_lc own f hlen hi hb hN ok hc.ok hs.ok
theorem sm_lct {i : Nat} {y : Str} {C : Out → Prop} (own : List (Str × Nat)) (f : D → T) (hlen : ds.length ≤ sizeLine) (hy : X.N[i]? = some y) (hyl : X.env.scope.names.lookup y = some .local) (hi : IT X Δ tg iter ds)
    (hb : ∀ d ∈ ds, ∃ is Δ1, (∀ j ∈ is, j ∈ own.map (·.2)) ∧ (∀ s H C cl fp, GV (BX X scope s H C cl fp) is tg d (wipD Δ (own.map (·.2))) Δ1) ∧ (∀ s H C cl fp, ET (BX X scope s H C cl fp) Δ1 elt (f d)))
    (k : C (.nx (Δ.set i (.w none (.ls (ds.map f)))))) (hN : X.N.Nodup) (ok : BlkOk X.N X.env.scope scope own) (hsw : swapsWith (.ListComp elt [⟨tg, iter, [], 0⟩] scope pos) (some (.Name y py)) pos'.line X.env = pure true := by exact sw_true rfl rfl rfl (by decide +kernel))
    (hc : X.calm = true := by rfl) (hs : ∀ x, foldedSetIterable iter X.env x = pure x := by intro _; rfl) : Sm X (.Assign [.Name y py] (.ListComp elt [⟨tg, iter, [], 0⟩] scope pos) pos') Δ C := by
  intro G0 H0 F H σ S D q
  refine sU1 (ps_setLc (i := i) hc hN hy hyl hsw pi_u ok (fun _ _ _ _ _ => pg_b) (fun _ _ _ _ _ => pts_nil) (fun _ _ _ _ _ => pe_b) hs) ?_
  refine lct_run hlen hi (fun d hd => ?_) S (fun v fl F' H' e r n => q _ k F' H' _ (S.sett e r n))
  obtain ⟨is, Δ1, h1, h2, h3⟩ := hb d hd
  exact ⟨is, Δ1, h1, h2, fun G0 H0 F H σ S Q q => q F H (Ext.rf S.fh), h3⟩
theorem sm_lct_a {i : Nat} {y : Str} {C : Out → Prop} (own : List (Str × Nat)) (f : D → T) (hlen : ds.length ≤ sizeLine) (hy : X.N[i]? = some y) (hyl : X.env.scope.names.lookup y = some .local) (hi : IT X Δ tg iter ds) (hb : ∀ d ∈ ds, ∃ is Δ1, (∀ j ∈ is, j ∈ own.map (·.2)) ∧ (∀ s H C cl fp, GV (BX X scope s H C cl fp) is tg d (wipD Δ (own.map (·.2))) Δ1) ∧ (∀ s H C cl fp, ET (BX X scope s H C cl fp) Δ1 elt (f d))) (k : C (.nx (Δ.set i (.w none (.ls (ds.map f)))))) (hN : X.N.Nodup) (ok : BlkOk X.N X.env.scope scope own) (hsw : Rw (swapsWith (.ListComp elt [⟨tg, iter, [], 0⟩] scope pos) (some (.Name y py)) pos'.line X.env = pure true)) (hc : Rf (X.calm = true)) (hs : Ri (∀ x, foldedSetIterable iter X.env x = pure x)) : Sm X (.Assign [.Name y py] (.ListComp elt [⟨tg, iter, [], 0⟩] scope pos) pos') Δ C := sm_lct own f hlen hy hyl hi hb k hN ok hsw.ok hc.ok hs.ok
end
/-! ### classes -/
/-- what is known of a class -/
structure TyC (K : PySem.W.Frag) (mg : Str → Option Value) (n : Str) (C : Addr) (fs : List Str) : Prop where
  cl : Cls K C
  na : ∀ f ∈ fs, NoAttr K C f
  gl : mg n = some (.ref C)
/-- a class's __init__ as it stands -/
structure AtI (K : PySem.W.Frag) (C : Addr) (qual : Str) (st : Stmt) (ps : List Str) : Prop where
  ex : ∃ f fd, Fun K "__init__" qual st f fd ∧ Mk K C f ∧ Binds K fd ps []
theorem ati_mk {K : PySem.W.Frag} {C : Addr} {qual : Str} {st : Stmt} {ps : List Str} {f : Addr} {oc : Value} {od an : Option Addr} {osl : Array (Option Value)} {kV doc pm cdv ct : Value}
    (a : PySem.W.findIn K (.ref C) "__init__" = some (some (.ref f))) (i : PySem.W.isFn K (.ref f) = true) (l : K.lookup f = some ⟨oc, od, .func (PySem.W.fnOf "__init__" qual (defArgs st) (defBody st) (defScope st) .none kV doc pm an cdv ct), osl⟩) (c : PySem.W.codeIn K cdv qual = true) (k : PySem.W.keepIn K (.ref f) = true)
    (mk : PySem.W.makesIn K C = true) (kc : PySem.W.keepIn K (.ref C) = true)
    (hb : ∀ (kV doc pm : Value) (an : Option Addr) (cdv ct : Value) (us : List Value), us.length = ps.length → bindArgs (PySem.W.fnOf "__init__" qual (defArgs st) (defBody st) (defScope st) .none kV doc pm an cdv ct) ⟨us, []⟩ = pure (ps.zip us)) : AtI K C qual st ps := by
  have F := fun_mk l c k
  exact ⟨f, _, F, ⟨mk, a, i, kc⟩, F.binds hb⟩
abbrev intsD (ns : List Int) : D := .lst (ns.map .int)
abbrev rowsD (rs : List (List Int)) : D := .lst (rs.map intsD)

/-! ### x[j] += e -/
theorem get_list {X : Cx} : PGet X (rIxL X.K) := by
  intro pins s σ H x y v u Q I rx ry h
  obtain ⟨p, xs, i, z, rfl, rfl, hq, he, q⟩ := h
  cases rx
  obtain ⟨t, rfl⟩ := ry
  obtain ⟨its, r, pl, hz⟩ := I.list hq
  obtain ⟨j, h1, h2, h3, h4, h5⟩ := atI_get he
  obtain ⟨w, ew, rw'⟩ := r.get h2
  have hl := r.length
  have hn := line63
  have fin : L2.EP X pins σ Q w s := ⟨z, H, I, rw', q⟩
  by_cases h0 : 0 ≤ i
  · have hj : i.toNat = j := by
      rw [seqIndex_of h0 h5] at h1
      exact Option.some.inj h1
    exact PySem.wpAny_getItem_list pl.isList h0 (by omega) (by rw [hj]; simpa using ew) fin
  · have hj : (i + (its.toArray.size : Int)).toNat = j := by
      rw [seqIndex_neg (by omega) h4] at h1
      rw [List.size_toArray, ← hl]
      exact Option.some.inj h1
    exact PySem.wpAny_getItem_list_neg pl.isList (by omega) (by rw [List.size_toArray] <;> omega) (by omega) (by rw [hj]; simpa using ew) fin
section
variable {X : Cx} {Δ : List Sl} {e a b : Expr} {ds : List D} {pos : Pos} {n : Str} {C : Out → Prop}
theorem sm_augi {i j : Nat} {p1 p2 : Pos} {z u w : Int} {qq : Option Addr} (hN : X.N[i]? = some n) (hΔ : Δ[i]? = some (Sl.w qq (T.l ds))) (hj : EV X Δ false a (.int z)) (hz : ixN ds.length z = some j) (hu : ds[j]? = some (.int u)) (h : EV X Δ false e (.int w)) (k : C (.nx (Δ.set i (.w qq (T.l (ds.set j (.int (u + w)))))))) (hv : Vis X.env.scope n := by first | exact Or.inl rfl | exact Or.inr (Or.inl rfl) | exact Or.inr (Or.inr rfl))
    (hd : (n == ("__debug__" : Str)) = false := by decide) (hcd : (n == ("__classdict__" : Str)) = false := by decide)
    (ha : ∀ ov iv new, augStore a ov iv new = (do holding [new, ov, iv] (setItem ov iv new); release [new, ov, iv] []; pure .next) := by intros; rfl) : Sm X (.AugAssign (.Subscript (.Name n p1) a p2) .Add e pos) Δ C := by
  intro G0 H0 F H σ S D q
  obtain ⟨p, vs, e1, e2, e3, e4, e5⟩ := S.own i ds hΔ
  refine sU1 (ps_augS (pe_var hN hv hd hcd) pe_u get_list pe_u ip_add set_list ha) ?_
  refine ⟨.ref p, e1, hj G0 H0 F H σ S _ fun v1 F1 H1 x1 r1 => ?_⟩
  obtain ⟨y, f1, f2⟩ := e5.get hu
  have hl := e5.length
  refine ⟨p, vs, z, y, rfl, r_int.mp r1, SqL.of (x1.h.k _ _ e2 (fun _ z => nomatch z)), by unfold atI; rw [hl, hz]; exact f1, ?_⟩
  have S1 := S.ext x1
  refine h G0 H0 F1 H1 σ S1 _ fun v2 F2 H2 x2 r2 => ?_
  refine ⟨u, w, r_int.mp f2, r_int.mp r2, p, vs, z, j, rfl, r_int.mp r1, (x1.tr x2).h.k _ _ e2 (fun _ z => nomatch z), by rw [hl]; exact hz, ?_⟩
  have S2 := S1.ext x2
  exact q _ k F2 _ σ (S2.chg hΔ e1 (RL.set j (RL.mono (x1.tr x2).f _ _ e5) (r_int.mpr rfl)))
theorem sm_augi_a {i j : Nat} {p1 p2 : Pos} {z u w : Int} {qq : Option Addr} (hN : X.N[i]? = some n) (hΔ : Δ[i]? = some (Sl.w qq (T.l ds))) (hj : EV X Δ false a (.int z)) (hz : ixN ds.length z = some j) (hu : ds[j]? = some (.int u)) (h : EV X Δ false e (.int w)) (k : C (.nx (Δ.set i (.w qq (T.l (ds.set j (.int (u + w)))))))) (hv : Rv (Vis X.env.scope n)) (hd : Rd ((n == ("__debug__" : Str)) = false)) (hcd : Rd ((n == ("__classdict__" : Str)) = false)) (ha : Ri (∀ ov iv new, augStore a ov iv new = (do holding [new, ov, iv] (setItem ov iv new); release [new, ov, iv] []; pure .next))) : Sm X (.AugAssign (.Subscript (.Name n p1) a p2) .Add e pos) Δ C := sm_augi hN hΔ hj hz hu h k hv.ok hd.ok hcd.ok ha.ok
end
/-! ### what is left of the slots handed -/
theorem upTo_nil {Δf : List Sl} : upTo [] Δf := fun i q t h => by simp at h
theorem upTo_v {d : D} {x : Sl} {Δ' Δf : List Sl} (h : upTo Δ' Δf) : upTo (.v d :: Δ') (x :: Δf) := fun i q t e => by
  cases i with
  | zero => simp at e
  | succ i => simp at e ⊢; exact h i q t e
theorem upTo_w {s : Sl} {Δ' Δf : List Sl} (h : upTo Δ' Δf) : upTo (s :: Δ') (s :: Δf) := fun i q t e => by
  cases i with
  | zero => exact e
  | succ i => simp at e ⊢; exact h i q t e
theorem argsOk_nil : ArgsOk [] [] := ⟨rfl, fun i s h => by simp at h⟩
theorem argsOk_v {d : D} {Δ Δ' : List Sl} (h : ArgsOk Δ Δ') : ArgsOk (.v d :: Δ) (.v d :: Δ') := by
  refine ⟨by simp [h.1], fun i s e => ?_⟩
  cases i with
  | zero => simp at e; subst e; exact rfl
  | succ i =>
    simp at e
    have := h.2 i s e
    cases s <;> exact this
theorem argsOk_w {a : Addr} {t t' : T} {Δ Δ' : List Sl} (h : ArgsOk Δ Δ') : ArgsOk (.w (some a) t :: Δ) (.w (some a) t' :: Δ') := by
  refine ⟨by simp [h.1], fun i s e => ?_⟩
  cases i with
  | zero => simp at e; subst e; exact ⟨a, t, rfl, rfl⟩
  | succ i =>
    simp at e
    have := h.2 i s e
    cases s <;> exact this
theorem lookup_relabel {env : Env} : ∀ {names : List (Str × NameKind)} {x : Str} {k : NameKind}, names.lookup x = some k →
    (names.map fun (n, k) => if (k == NameKind.free && env.scope.kind == .function && env.kindOf n == some .cell) then (n, NameKind.cell) else (n, k)).lookup x = some (if (k == NameKind.free && env.scope.kind == .function && env.kindOf x == some .cell) then NameKind.cell else k)
  | [], x, k, h => by simp at h
  | (n, j) :: r, x, k, h => by
    have ih := @lookup_relabel env r x k
    show List.lookup x ((if (j == NameKind.free && env.scope.kind == .function && env.kindOf n == some .cell) = true then (n, NameKind.cell) else (n, j)) :: _) = _
    cases hx : x == n with
    | true =>
      have e := eq_of_beq hx
      subst e
      simp only [List.lookup_cons, hx] at h
      cases h
      split <;> simp [List.lookup_cons]
    | false =>
      simp only [List.lookup_cons, hx] at h
      split <;> (simp only [List.lookup_cons, hx]; exact ih h)
/-- a comprehension within a comprehension -/
theorem blk_in {X : Cx} {scope sc2 : Scope} {s : Shared} {H : Hp} {C : Addr} {cl : List (Str × Addr)} {fp : List Addr} {N : List Str} {own : List (Str × Nat)} (h : blkC N scope sc2 own = true) (e : X.N = N) : BlkOk (BX X scope s H C cl fp).N (BX X scope s H C cl fp).env.scope sc2 own := by
  subst e
  obtain ⟨h1, h2, h3, h4, h5⟩ := blkOk_by h
  refine ⟨h1, h2, h3, fun y hy hf => ?_, h5⟩
  show (relabel scope X.env).names.lookup y.1 = _ ∨ (relabel scope X.env).names.lookup y.1 = _
  unfold relabel
  rcases h4 y hy hf with z | z
  · exact .inl (lookup_relabel z)
  · have := lookup_relabel (env := X.env) z
    by_cases c : (NameKind.free == NameKind.free && X.env.scope.kind == .function && X.env.kindOf y.1 == some .cell) = true
    · rw [if_pos c] at this; exact .inl this
    · rw [if_neg c] at this; exact .inr this
end Z

namespace Z
open PySem PySem.Spec PyProof.Rows L2
variable [τ : Tb]

/-! ### answers of which only a part is told -/
def PrE (K : PySem.W.Frag) (spec : List D → (Res → Prop) → Prop) : Sp := fun vs H Q _ => ∃ G ds P, Sub G H ∧ (∀ a ps, G a ≠ some (.tbl ps)) ∧ LamX.Tabs τ.T H ∧ RL K G ds vs ∧ spec ds P ∧ ∀ r, P r → ResOk K G H Q r
section
variable {P : Program} {w : World} {K : PySem.W.Frag} {mg : Str → Option Value} {base : Heap}
theorem ends_ofE {X : Cx} {G H : Hp} {Q : VK} {R : Res → Prop} (ro : ∀ r, R r → ResOk X.K G H Q r) : ∀ o, (∃ r, R r ∧ fin r o) → OutOk X G H { nx := fun _ H' => Q .non H', rt := Q } o := fun o ⟨r, h, f⟩ => ends_of (ro r h) o f
theorem fn_okE {x qual : Str} {st : Stmt} {f : Addr} {fd : FuncData} {N ps : List Str} {k : Nat} {spec : List D → (Res → Prop) → Prop} (Fn : Fun K x qual st f fd) (S : FnScope N ps (defScope st)) (ar : ∀ ds R, spec ds R → ds.length = ps.length)
    (hb : ∀ (cdv : Value) (A : Around) (outer : List Env) (s : Shared) (H : Hp) (E : XK), Room k (A.deeper (envOfC qual (defScope st) s.heap.objs.size f cdv)) → ∀ ds R, spec ds R →
      Bk ((cxOf CX0 P w K mg base N qual (defScope st) f cdv A outer s H E).nox) (defBody st) (ini N ds) (fun o => ∃ r, R r ∧ fin r o)) : FnOk P w K mg base CX0 (k + 1) f fd ps (PrE K spec) := by
  refine Fn.ok S (fun vs H Q E h => ?_) (fun cdv A outer s H vs Q E hr h => ?_)
  · obtain ⟨G, ds, R, _, _, _, rl, sp, _⟩ := h
    rw [rl.length]; exact ar ds R sp
  · obtain ⟨G, ds, R, sub, nt, tb, rl, sp, ro⟩ := h
    refine ⟨uS _ (defBody st), pss_u, ?_⟩
    have hlen : ds.length ≤ N.length := by
      rw [ar ds R sp, ← S.pre]
      exact List.length_take_le' _ _
    exact hb cdv A outer s H E hr ds R sp G H G H _ (stt_ini sub nt tb rl hlen) _ (ends_ofE ro)
structure FnE (P : Program) (w : World) (K : PySem.W.Frag) (mg : Str → Option Value) (base : Heap) (CX : CXT) (n : Str) (k : Nat) (spec : List D → (Res → Prop) → Prop) : Prop where
  ex : ∃ f fd ps, FnOk P w K mg base CX k f fd ps (PrE K spec) ∧ mg n = some (.ref f) ∧ PySem.W.keepIn K (.ref f) = true ∧ Binds K fd ps []
end
/-- e evaluates to some datum of R -/
def EVE (X : Cx) (Δ : List Sl) (m : Bool) (e : Expr) (R' : D → Prop) : Prop :=
  ∀ (G0 H0 F H : Hp) (σ : L2.St), Stt X.K G0 H0 F H σ Δ → ∀ Q : VK, (∀ d v F' H', R' d → Ext F H F' H' → R X.K (sel m F' H') d v → Q v H') → uE X e σ H Q
/-- e evaluates to some new list of R -/
def EOE (X : Cx) (Δ : List Sl) (e : Expr) (R' : List D → Prop) : Prop :=
  ∀ (G0 H0 F H : Hp) (σ : L2.St), Stt X.K G0 H0 F H σ Δ → ∀ Q : VK, (∀ ds p vs F' H', R' ds → Ext F H F' H' → H p = none → H' p = some (.lst vs) → F' p = none → RL X.K F' ds vs → Q (.ref p) H') → uE X e σ H Q
section
variable {X : Cx} {Δ : List Sl} {m : Bool} {e a b c o : Expr} {es : List Expr} {d x y : D} {ds rs : List D} {pos p apos : Pos} {n : Str} {k : Nat} {spec : List D → (Res → Prop) → Prop} {C : Out → Prop} {R' : D → Prop} {RL' : List D → Prop}
theorem EOE.ev (h : EOE X Δ e RL') : EVE X Δ m e (fun d => ∃ ds, RL' ds ∧ d = .lst ds) := by
  intro G0 H0 F H σ S Q q
  refine h G0 H0 F H σ S _ fun ds p vs F' H' hr e n h1 f1 r => ?_
  have fz := frz_ext (f := [p]) e fun a ha => by rw [List.mem_singleton] at ha; subst ha; exact ⟨n, f1⟩
  have fz := fz fun a ha => by rw [List.mem_singleton] at ha; subst ha; exact Ow.lst h1
  refine q (.lst ds) (.ref p) (frzF [p] F' H') H' ⟨ds, hr, rfl⟩ fz.1 ?_
  have rr : R X.K (frzF [p] F' H') (.lst ds) (.ref p) := r_lst.mpr ⟨p, vs, rfl, by show (if p ∈ [p] then H' p else F' p) = _; rw [if_pos List.mem_cons_self]; exact h1, RL.mono (show Sub F' (frzF [p] F' H') from fz.2) _ _ r⟩
  cases m with
  | true => exact rr
  | false => exact R.mono (show Sub (frzF [p] F' H') H' from fz.1.fh) _ _ rr
theorem eve_call (Fn : FnE X.prog X.w X.K X.mg X.base CX0 n k spec) (hr : Room k X.A) (hg : Gl X n) (ha : AV X Δ m (e :: es) ds) (hs : spec ds (fun r => ∃ d, R' d ∧ r = .v d)) (hdb : (n == ("__debug__" : Str)) = false := by decide)
    (he : starEach (e :: es) X.env = (false, eval e X.env) :: starEach es X.env := by rfl) (hpl : (backTo pos (starEach es X.env)).any (·.1) = false := by rfl) : EVE X Δ m (.Call (.Name n p) (e :: es) [] pos) R' := by
  intro G0 H0 F H σ S Q q
  obtain ⟨f, fd, ps, F1, hm, hk, hb⟩ := Fn.ex
  refine eU (pe_call F1 hr hg hm hk hb .nil pass0 pa_u hdb he hpl) (ha G0 H0 F H σ S _ fun vs F' H' x r => ?_)
  show PrE X.K spec (vs ++ []) H' Q E0
  rw [List.append_nil]
  cases m with
  | true =>
    refine ⟨F', ds, _, x.fh, (S.ext x).nt, (S.ext x).tb, r, hs, fun rr ⟨d, hd, e⟩ => ?_⟩
    subst e
    exact fun v G' H2 e2 r2 => q d v G' H2 hd (x.tr e2) r2
  | false =>
    refine ⟨unt H', ds, _, unt_sub H', unt_nt H', (S.ext x).tb, RL.monoN (unt_nb H') _ _ r, hs, fun rr ⟨d, hd, e⟩ => ?_⟩
    subst e
    exact fun v G' H2 e2 r2 => q d v F' H2 hd (x.tr (Ext.growG x.fh (S.ext x).nt e2.h)) (r2.mono e2.fh)
theorem eve_call_a (Fn : FnE X.prog X.w X.K X.mg X.base CX0 n k spec) (hr : Room k X.A) (hg : Gl X n) (ha : AV X Δ m (e :: es) ds) (hs : spec ds (fun r => ∃ d, R' d ∧ r = .v d)) (hdb : Rd ((n == ("__debug__" : Str)) = false)) (he : Rf (starEach (e :: es) X.env = (false, eval e X.env) :: starEach es X.env)) (hpl : Rf ((backTo pos (starEach es X.env)).any (·.1) = false)) : EVE X Δ m (.Call (.Name n p) (e :: es) [] pos) R' := eve_call Fn hr hg ha hs hdb.ok he.ok hpl.ok
theorem eoe_call (Fn : FnE X.prog X.w X.K X.mg X.base CX0 n k spec) (hr : Room k X.A) (hg : Gl X n) (ha : AV X Δ true (e :: es) ds) (hs : spec ds (fun r => ∃ ds, RL' ds ∧ r = .o ds)) (hdb : (n == ("__debug__" : Str)) = false := by decide)
    (he : starEach (e :: es) X.env = (false, eval e X.env) :: starEach es X.env := by rfl) (hpl : (backTo pos (starEach es X.env)).any (·.1) = false := by rfl) : EOE X Δ (.Call (.Name n p) (e :: es) [] pos) RL' := by
  intro G0 H0 F H σ S Q q
  obtain ⟨f, fd, ps, F1, hm, hk, hb⟩ := Fn.ex
  refine eU (pe_call F1 hr hg hm hk hb .nil pass0 pa_u hdb he hpl) (ha G0 H0 F H σ S _ fun vs F' H' x r => ?_)
  show PrE X.K spec (vs ++ []) H' Q E0
  rw [List.append_nil]
  refine ⟨F', ds, _, x.fh, (S.ext x).nt, (S.ext x).tb, r, hs, fun rr ⟨ds, hd, e⟩ => ?_⟩
  subst e
  exact fun p vs G' H2 e2 n2 h2 f2 r2 => q ds p vs G' H2 hd (x.tr e2) (x.h.none n2) h2 f2 r2
theorem eoe_call_a (Fn : FnE X.prog X.w X.K X.mg X.base CX0 n k spec) (hr : Room k X.A) (hg : Gl X n) (ha : AV X Δ true (e :: es) ds) (hs : spec ds (fun r => ∃ ds, RL' ds ∧ r = .o ds)) (hdb : Rd ((n == ("__debug__" : Str)) = false)) (he : Rf (starEach (e :: es) X.env = (false, eval e X.env) :: starEach es X.env)) (hpl : Rf ((backTo pos (starEach es X.env)).any (·.1) = false)) : EOE X Δ (.Call (.Name n p) (e :: es) [] pos) RL' := eoe_call Fn hr hg ha hs hdb.ok he.ok hpl.ok
theorem sm_setE {i : Nat} {p1 : Pos} (hN : X.N.Nodup) (hi : X.N[i]? = some n) (hl : Loc X.env.scope n) (h : EVE X Δ true e R') (k : ∀ d, R' d → C (.nx (Δ.set i (.v d)))) (hs : swapsWith e (some (.Name n p1)) pos.line X.env = pure false := by rfl) (hf : X.fn n = true ∨ X.env.scope.names.lookup n = some .local := by first | exact .inl rfl | exact .inr rfl) :
    Sm X (.Assign [.Name n p1] e pos) Δ C := fun G0 H0 F H σ S D q =>
  sU1 (ps_set hN hi hl pe_u hs hf) (h G0 H0 F H σ S _ fun d v F' H' hd e r => q _ (k d hd) F' H' _ ((S.ext e).setv r))
theorem sm_setE_a {i : Nat} {p1 : Pos} (hN : X.N.Nodup) (hi : X.N[i]? = some n) (hl : Loc X.env.scope n) (h : EVE X Δ true e R') (k : ∀ d, R' d → C (.nx (Δ.set i (.v d)))) (hs : Rf (swapsWith e (some (.Name n p1)) pos.line X.env = pure false)) (hf : Rl (X.fn n = true ∨ X.env.scope.names.lookup n = some .local)) : Sm X (.Assign [.Name n p1] e pos) Δ C := sm_setE hN hi hl h k hs.ok hf.ok
theorem sm_setoE {i : Nat} {p1 : Pos} (hN : X.N.Nodup) (hi : X.N[i]? = some n) (hl : Loc X.env.scope n) (h : EOE X Δ e RL') (k : ∀ ds, RL' ds → C (.nx (Δ.set i (.o ds)))) (hs : swapsWith e (some (.Name n p1)) pos.line X.env = pure false := by rfl) (hf : X.fn n = true ∨ X.env.scope.names.lookup n = some .local := by first | exact .inl rfl | exact .inr rfl) :
    Sm X (.Assign [.Name n p1] e pos) Δ C := fun G0 H0 F H σ S D q =>
  sU1 (ps_set hN hi hl pe_u hs hf) (h G0 H0 F H σ S _ fun ds p vs F' H' hd e n1 h1 f1 r => q _ (k ds hd) F' H' _ (S.seto e n1 h1 f1 r))
theorem sm_setoE_a {i : Nat} {p1 : Pos} (hN : X.N.Nodup) (hi : X.N[i]? = some n) (hl : Loc X.env.scope n) (h : EOE X Δ e RL') (k : ∀ ds, RL' ds → C (.nx (Δ.set i (.o ds)))) (hs : Rf (swapsWith e (some (.Name n p1)) pos.line X.env = pure false)) (hf : Rl (X.fn n = true ∨ X.env.scope.names.lookup n = some .local)) : Sm X (.Assign [.Name n p1] e pos) Δ C := sm_setoE hN hi hl h k hs.ok hf.ok
theorem sm_asgE {is : List Nat} {tg : Expr} {Δ' : D → List Sl} (h : EVE X Δ true e R') (g : ∀ d, R' d → GV X is tg d Δ (Δ' d)) (k : ∀ d, R' d → C (.nx (Δ' d))) (hs : swapsWithSole [tg] e pos.line X.env = pure false := by rfl) (hw : swappedStores [tg] e X.env = pure none := by rfl)
    (h1 : (assignEach [tg] X.env).map (·.2) = [assign tg X.env] := by rfl) : Sm X (.Assign [tg] e pos) Δ C := fun G0 H0 F H σ S D q =>
  sU1 (ps_asg pe_u pg_u hs hw h1) (h G0 H0 F H σ S _ fun d v F' H' hd e r => g d hd G0 H0 F' H' σ v (S.ext e) r _ fun σ' _ S' => q _ (k d hd) F' H' σ' S')
theorem sm_asgE_a {is : List Nat} {tg : Expr} {Δ' : D → List Sl} (h : EVE X Δ true e R') (g : ∀ d, R' d → GV X is tg d Δ (Δ' d)) (k : ∀ d, R' d → C (.nx (Δ' d))) (hs : Rf (swapsWithSole [tg] e pos.line X.env = pure false)) (hw : Rf (swappedStores [tg] e X.env = pure none)) (h1 : Rf ((assignEach [tg] X.env).map (·.2) = [assign tg X.env])) : Sm X (.Assign [tg] e pos) Δ C := sm_asgE h g k hs.ok hw.ok h1.ok
theorem sm_retE (h : EVE X Δ true e R') (k : ∀ d, R' d → C (.rt (.v d) Δ)) : Sm X (.Return (some e) pos) Δ C := fun G0 H0 F H σ S D q =>
  sU1 (ps_ret pe_u) (h G0 H0 F H σ S _ fun d v F' H' hd e r => q _ (k d hd) F' H' σ v (S.ext e) r)
end
/-- what a for walks, only in part told -/
def ITE (X : Cx) (Δ : List Sl) (tg iter : Expr) (R' : List D → Prop) : Prop :=
  ∀ (G0 H0 F H : Hp) (σ : L2.St), Stt X.K G0 H0 F H σ Δ → ∀ R2 : It → Hp → Prop, (∀ ds J F' H', R' ds → Ext F H F' H' → Wk X.K F' J ds → R2 J H') → uI X tg iter σ H R2
section
variable {X : Cx} {Δ : List Sl} {m : Bool} {e a b c : Expr} {ds : List D} {pos : Pos} {C : Out → Prop}
theorem ite_list {tg : Expr} {R' : List D → Prop} (h : EVE X Δ true e (fun d => ∃ ds, R' ds ∧ d = .lst ds)) : ITE X Δ tg e R' := by
  intro G0 H0 F H σ S R2 q
  refine iU (pi_list pe_u) (h G0 H0 F H σ S _ fun d v F' H' hd x r => ?_)
  obtain ⟨ds, hR, rfl⟩ := hd
  obtain ⟨p, vs, rfl, g, l⟩ := r_lst.mp r
  have g' : F' p = some (.lst vs) := g
  refine ⟨p, rfl, ⟨vs, SqL.of (x.fh _ _ g')⟩, q ds _ F' H' hR x ⟨fun i H2 hi s => ?_, fun H2 s => ?_, fun i d H2 y H3 F2 hd s1 s2 yl => ?_⟩⟩
  · have hi' : i < vs.length := by rw [l.length]; exact hi
    exact ⟨vs, vs[i], SqL.of (s _ _ g'), by simp [hi']⟩
  · exact ⟨vs, SqL.of (s _ _ g'), by rw [l.length]; exact Nat.le_refl _⟩
  · obtain ⟨rfl, yl⟩ := yl
    obtain ⟨w, e1, e2⟩ := l.get hd
    have e3 := yl vs (SqL.of (s2 _ _ (s1 _ _ g')))
    rw [e1] at e3; cases e3
    exact ⟨F2, Ext.rf s2, R.mono (show Sub F' F2 from s1) _ _ e2⟩
theorem sm_forE {tg iter : Expr} {body : List Stmt} {R' : List D → Prop} (hi : ITE X Δ tg iter R') (I : List D → Nat → List Sl → Prop) (h0 : ∀ ds, R' ds → I ds 0 Δ)
    (hs : ∀ ds, R' ds → ∀ (i : Nat) d Δi, ds[i]? = some d → I ds i Δi → ∃ is Δ', GV X is tg d Δi Δ' ∧ Bk X body Δ' (turn C (I ds (i + 1)))) (hd : ∀ ds, R' ds → ∀ Δn, I ds ds.length Δn → C (.nx Δn))
    (hp : PassesOwn (model X.prog X.w) X.A X.env X.xe := by exact PassesOwn.never) (hc : X.calm = true := by rfl) (hf : ∀ x, foldedSetIterable iter X.env x = pure x := by intro _; rfl) : Sm X (.For tg iter body [] pos) Δ C := by
  intro G0 H0 F H σ S D q
  refine sU1 (ps_for hp hc pi_u pg_u pss_u hf) (hi G0 H0 F H σ S _ fun ds J F' H' hR x W => ?_)
  have S1 := S.ext x
  refine for_it (J := J) (n := ds.length) (G := Sub F') (Y := J.yld) ⟨fun i H hi s => W.go i H hi s, fun H s => W.stop H s, fun i H x H' hi s y => y⟩
    (fun i σ H => ∃ F2 Δ2, I ds i Δ2 ∧ Stt X.K F' H0 F2 H σ Δ2) ⟨F', Δ, h0 ds hR, S1.self⟩ (fun i σ H _ ⟨F2, Δ2, _, T⟩ => T.g.tr T.fh) (fun i v σ H H2 hil ⟨F2, Δ2, hI, T⟩ y => ?_) (fun σ H ⟨F2, Δ2, hI, T⟩ => q _ (hd ds hR Δ2 hI) F2 H σ (S1.back T))
  have hd' : ds[i]? = some ds[i] := List.getElem?_eq_getElem hil
  obtain ⟨is, Δ', g, b⟩ := hs ds hR i _ Δ2 hd' hI
  obtain ⟨F3, e3, r3⟩ := W.yld i _ H v H2 F2 hd' T.g T.fh y
  refine g F' H0 F3 H2 σ v (T.ext e3) r3 _ fun σ' _ T' => ?_
  refine b F' H0 F3 H2 σ' T' _ fun o ho => ?_
  cases o with
  | nx Δ4 => exact fun F5 H5 σ5 T5 => ⟨F5, Δ4, ho, T5⟩
  | ct Δ4 => exact fun F5 H5 σ5 T5 => ⟨F5, Δ4, ho, T5⟩
  | bk Δ4 => exact fun F5 H5 σ5 T5 => q _ ho F5 H5 σ5 (S1.back T5)
  | rt r Δ4 =>
    have z := OutOk.fwd S1 (q _ ho)
    cases r with
    | v d => exact z
    | o ds => exact z
    | t t => exact z
  | xr E Δ4 => exact OutOk.fwd S1 (q _ ho)
theorem sm_forE_a {tg iter : Expr} {body : List Stmt} {R' : List D → Prop} (hi : ITE X Δ tg iter R') (I : List D → Nat → List Sl → Prop) (h0 : ∀ ds, R' ds → I ds 0 Δ) (hs : ∀ ds, R' ds → ∀ (i : Nat) d Δi, ds[i]? = some d → I ds i Δi → ∃ is Δ', GV X is tg d Δi Δ' ∧ Bk X body Δ' (turn C (I ds (i + 1)))) (hd : ∀ ds, R' ds → ∀ Δn, I ds ds.length Δn → C (.nx Δn)) (hp : Rp (PassesOwn (model X.prog X.w) X.A X.env X.xe)) (hc : Rf (X.calm = true)) (hf : Ri (∀ x, foldedSetIterable iter X.env x = pure x)) : Sm X (.For tg iter body [] pos) Δ C := sm_forE hi I h0 hs hd hp.ok hc.ok hf.ok
end
section
variable {X : Cx} {Δ : List Sl} {m : Bool} {a b : Expr} {pos : Pos}
theorem tv_eqB {i j : Bool} (ha : EV X Δ false a (.bl i)) (hb : EV X Δ false b (.bl j)) : TV X Δ (.Compare a [.Eq] [b] pos) (decide (i = j)) := (tv_eq ha hb rfl rfl rfl).is (by simp [toV])
theorem tv_neB {i j : Bool} (ha : EV X Δ false a (.bl i)) (hb : EV X Δ false b (.bl j)) : TV X Δ (.Compare a [.NotEq] [b] pos) (!decide (i = j)) := (tv_ne ha hb rfl rfl rfl).is (by simp [toV])
theorem ev_neB {i j : Bool} (ha : EV X Δ false a (.bl i)) (hb : EV X Δ false b (.bl j)) : EV X Δ m (.Compare a [.NotEq] [b] pos) (.bl (!decide (i = j))) := by
  refine (ev_ne ha hb rfl rfl rfl).to ?_
  simp [toV]
end
/-! ### the numbers' sizes -/
def Small (ns : List Int) : Prop := ∀ z ∈ ns, Builtin.Int.intBits z ≤ 1048576
def spLawB : List D → Res → Prop := fun ds r => ∃ ns : List Int, ds = [.scr ns] ∧ ns.length ≤ 63 ∧ Small ns ∧ r = .v (.bl true)
theorem law_spB (K : PySem.W.Frag) (H : Hp) (a : Addr) (ns : List Int) (hl : ns.length ≤ 63) (hb : Small ns) (tb : LamX.Tabs τ.T H) (hS : SqL K H a (ns.map V.int)) : Pr K spLawB [.ref a] H (fun v _ => v = .bl true) (fun _ _ _ => False) :=
  ⟨unt H, [.scr ns], .v (.bl true), unt_sub H, unt_nt H, tb, RL.monoN (unt_nb H) _ _ (RL.cons (r_scr.mpr ⟨a, rfl, hS⟩) RL.nil), ⟨ns, rfl, hl, hb, rfl⟩, fun v G' H' e r => r_bl.mp r⟩
theorem walk_ofBK {l : PySem.W.OpenLaw} {n k : Nat} {q : Program} {loose : List Str} {XP : (Str → Option Value) → Heap → Prop} {YP : World → Heap → Prop} {d : DefRec} {K : Params → PySem.W.Frag} {CX : CXT} {sp : PySem.W.Frag → Sp} {x : Str}
    (hn : l.most = some n) (hn2 : n ≤ sizeLine) (hdf : d.params.defaults = []) (hr : Room k callerA)
    (hY : ∀ (w : World) (h : Heap), YP w h → (K w.params).In h)
    (F : ∀ (w : World) (mg : Str → Option Value) (fa : Addr) (h : Heap), (K w.params).In h → h.Ns mainGlobals mg → mg d.name = some (.ref fa) →
      ∃ fd : FuncData, (∀ (s : Shared) (u : Value), BindsTo s fd ⟨[u], []⟩ [(x, u)]) ∧
        ∀ base : Heap, (K w.params).In base → base.Ns mainGlobals mg → FnOk l.prog w (K w.params) mg base CX k fa fd [x] (sp (K w.params)))
    (hsp : ∀ (K : PySem.W.Frag) (H : Hp) (a : Addr) (ns : List Int), ns.length ≤ n → Small ns → SqL K H a (ns.map V.int) → sp K [.ref a] H (fun v _ => v = .bl true) fun _ _ _ => False)
    (hCX : ∀ (H : Hp) (s : Shared) (e : Value) (s' : Shared), CX [] H s (fun _ _ _ => False) e s' → False) :
    PySem.W.WalkO q loose XP YP l.row.toRowW d [] (fun f vs => PySem.call f vs) :=
  L2.walk_ofB (K := K) (CX := fun _ => CX) (sp := fun w => sp (K w.params)) hn hn2 hdf hr hY F (fun w H a ns h1 hb h2 h3 => hsp (K w.params) H a ns h1 hb h3) fun _ H s e s' => hCX H s e s'
theorem bits_lt {x : Int} {m : Nat} (h : x.natAbs < 2 ^ m) : Builtin.Int.intBits x ≤ m := intBits_le_iff.mpr h
end Z

namespace Z
open PySem PySem.Spec PyProof.Rows L2
variable [τ : Tb]

/-! ### walking by tactics -/
structure Sd (p : Prop) : Prop where
  ok : p
inductive NAt : List Str → Str → Nat → Prop
  | here {n : Str} {r : List Str} : NAt (n :: r) n 0
  | there {m n : Str} {r : List Str} {i : Nat} : NAt r n i → NAt (m :: r) n (i + 1)
theorem NAt.get : ∀ {N : List Str} {n : Str} {i : Nat}, NAt N n i → N[i]? = some n
  | _, _, _, .here => rfl
  | _, _, _, .there h => by simpa using h.get
inductive SAt : List Sl → Nat → Sl → Prop
  | here {s : Sl} {r : List Sl} : SAt (s :: r) 0 s
  | there {s t : Sl} {r : List Sl} {i : Nat} : SAt r i s → SAt (t :: r) (i + 1) s
theorem SAt.get : ∀ {Δ : List Sl} {i : Nat} {s : Sl}, SAt Δ i s → Δ[i]? = some s
  | _, _, _, .here => rfl
  | _, _, _, .there h => by simpa using h.get
inductive Put : List Sl → Nat → Sl → List Sl → Prop
  | here {s t : Sl} {r : List Sl} : Put (t :: r) 0 s (s :: r)
  | there {s t : Sl} {r r' : List Sl} {i : Nat} : Put r i s r' → Put (t :: r) (i + 1) s (t :: r')
theorem Put.eq : ∀ {Δ Δ' : List Sl} {i : Nat} {s : Sl}, Put Δ i s Δ' → Δ.set i s = Δ'
  | _, _, _, _, .here => rfl
  | _, _, _, _, .there h => by rw [List.set_cons_succ, h.eq]
inductive NmD : Bool → Sl → D → Prop
  | v {m : Bool} {d : D} : NmD m (.v d) d
  | o {q : Option Addr} {ds : List D} : NmD false (.w q (T.l ds)) (.lst ds)
  | t {q : Option Addr} {t : T} : NmD false (.w q t) t.d
/-- slots hold at least this -/
inductive Le : List Sl → List Sl → Prop
  | nil : Le [] []
  | same {s : Sl} {a b : List Sl} : Le a b → Le (s :: a) (s :: b)
  | drop {s : Sl} {a b : List Sl} : Le a b → Le (s :: a) (.u :: b)
  | frz {q : Option Addr} {ds : List D} {a b : List Sl} : Le a b → Le (.w q (T.l ds) :: a) (.v (.lst ds) :: b)
  | frzT {q : Option Addr} {t : T} {a b : List Sl} : Le a b → Le (.w q t :: a) (.v t.d :: b)
  | eqv {s t : Sl} {a b : List Sl} : Sd (s = t) → Le a b → Le (s :: a) (t :: b)
theorem Stt.le1 {K : PySem.W.Frag} {G0 H0 F H : Hp} {σ : L2.St} : ∀ {a b p : List Sl}, Le a b → Stt K G0 H0 F H σ (p ++ a) → ∃ F', Sub F F' ∧ Stt K G0 H0 F' H σ (p ++ b)
  | _, _, p, .nil, S => ⟨F, Sub.rf _, S⟩
  | s :: a, _, p, .same h, S => by
    have := Stt.le1 (p := p ++ [s]) h (by rw [List.append_assoc]; exact S)
    rw [List.append_assoc] at this; exact this
  | s :: a, _ :: b, p, .drop h, S => by
    have S1 := S.drop (i := p.length)
    rw [List.set_append_right _ _ (Nat.le_refl _), Nat.sub_self, List.set_cons_zero] at S1
    have := Stt.le1 (p := p ++ [.u]) h (by rw [List.append_assoc]; exact S1)
    rw [List.append_assoc] at this; exact this
  | .w q (.ls _) :: a, _ :: b, p, .frz (ds := ds) h, S => by
    obtain ⟨F1, s1, S1⟩ := S.frz (i := p.length) (q := q) (ds := ds) (by rw [List.getElem?_append_right (Nat.le_refl _), Nat.sub_self]; rfl)
    rw [List.set_append_right _ _ (Nat.le_refl _), Nat.sub_self, List.set_cons_zero] at S1
    obtain ⟨F2, s2, S2⟩ := Stt.le1 (p := p ++ [.v (.lst ds)]) h (by rw [List.append_assoc]; exact S1)
    rw [List.append_assoc] at S2; exact ⟨F2, s1.tr s2, S2⟩
  | .w q t :: a, _ :: b, p, .frzT h, S => by
    obtain ⟨F1, s1, S1⟩ := S.frzT (i := p.length) (q := q) (t := t) (by rw [List.getElem?_append_right (Nat.le_refl _), Nat.sub_self]; rfl)
    rw [List.set_append_right _ _ (Nat.le_refl _), Nat.sub_self, List.set_cons_zero] at S1
    obtain ⟨F2, s2, S2⟩ := Stt.le1 (p := p ++ [.v t.d]) h (by rw [List.append_assoc]; exact S1)
    rw [List.append_assoc] at S2; exact ⟨F2, s1.tr s2, S2⟩
  | s :: a, _ :: b, p, .eqv e h, S => by
    obtain ⟨rfl⟩ := e
    have := Stt.le1 (p := p ++ [s]) h (by rw [List.append_assoc]; exact S)
    rw [List.append_assoc] at this; exact this
theorem Stt.le {K : PySem.W.Frag} {G0 H0 F H : Hp} {σ : L2.St} {a b : List Sl} (h : Le a b) (S : Stt K G0 H0 F H σ a) : ∃ F', Sub F F' ∧ Stt K G0 H0 F' H σ b := Stt.le1 (p := []) h S
theorem bk_le {X : Cx} {sts : List Stmt} {Δ Δ' : List Sl} {C : Out → Prop} (l : Le Δ Δ') (h : Bk X sts Δ' C) : Bk X sts Δ C := by
  intro G0 H0 F H σ S D q
  obtain ⟨F', sF, S'⟩ := S.le l
  exact h G0 H0 F' H σ S' D q

/-! relations that tell what an operation makes of data -/
def OpD (X : Cx) (op : Operator) (x y d : D) : Prop := ∀ (Δ : List Sl) (m : Bool) (a b : Expr) (pos : Pos), EV X Δ false a x → EV X Δ false b y → EV X Δ m (.BinOp a op b pos) d
def CmpD (X : Cx) (op : CmpOp) (x y : D) (t : Bool) : Prop := ∃ r : R2, OpR X (compareOp op) r ∧ ∀ v w H, R X.K H x v → R X.K H y w → ∀ Q : VK, Q (.bl t) H → r v w H Q
def LenD (X : Cx) (x : D) (n : Nat) : Prop := ∃ r : List V → Hp → VK → Prop, CallR X (.builtin "len") r ∧ ∀ v H, R X.K H x v → ∀ (Q : VK), Q (.int n) H → r [v] H Q
section
variable {X : Cx} {Δ Δ' : List Sl} {m : Bool} {e a b c o : Expr} {es : List Expr} {d x y : D} {ds : List D} {pos p p2 apos : Pos} {n : Str} {N : List Str} {i k : Nat} {s : Sl} {t u : Bool} {op : Operator} {co : CmpOp} {C : Out → Prop} {rest : List Stmt}
theorem ev_name (hN : X.N = N) (h : NAt N n i) (hs : SAt Δ i s) (hd : NmD m s d) (hv : Vis X.env.scope n := by first | exact Or.inl rfl | exact Or.inr (Or.inl rfl) | exact Or.inr (Or.inr rfl)) (h1 : (n == ("__debug__" : Str)) = false := by decide) (h2 : (n == ("__classdict__" : Str)) = false := by decide) : EV X Δ m (.Name n pos) d := by
  have e := h.get
  rw [← hN] at e
  cases hd with
  | v => exact ev_v e hs.get hv h1 h2
  | o => exact ev_o e hs.get hv h1 h2
  | t => exact EP.ev (ep_name e hs.get hv h1 h2) hs.get rfl
theorem ev_name_a (hN : X.N = N) (h : NAt N n i) (hs : SAt Δ i s) (hd : NmD m s d) (hv : Rv (Vis X.env.scope n)) (h1 : Rd ((n == ("__debug__" : Str)) = false)) (h2 : Rd ((n == ("__classdict__" : Str)) = false)) : EV X Δ m (.Name n pos) d := ev_name hN h hs hd hv.ok h1.ok h2.ok
theorem ev_bin (ha : EV X Δ false a x) (hb : EV X Δ false b y) (ho : OpD X op x y d) : EV X Δ m (.BinOp a op b pos) d := ho _ _ _ _ _ ha hb
theorem od_add {i j : Int} : OpD X .Add (.int i) (.int j) (.int (i + j)) := fun _ _ _ _ _ ha hb => ev_add ha hb
theorem od_sub {i j : Int} : OpD X .Sub (.int i) (.int j) (.int (i - j)) := fun _ _ _ _ _ ha hb => ev_sub ha hb
theorem od_mul {i j : Int} (h : Sd (IntMulOk i j)) : OpD X .Mult (.int i) (.int j) (.int (i * j)) := fun _ _ _ _ _ ha hb => ev_mul ha hb h.ok
theorem od_mod {i j : Int} (h : Sd (0 < j)) : OpD X .Mod (.int i) (.int j) (.int (i % j)) := fun _ _ _ _ _ ha hb => ev_mod ha hb h.ok
theorem od_div {i j : Int} (h : Sd (CDivW i j)) : OpD X .FloorDiv (.int i) (.int j) (.int (i / j)) := fun _ _ _ _ _ ha hb => ev_div ha hb h.ok
theorem od_pow {i j : Int} (h : Sd (CPow i j)) : OpD X .Pow (.int i) (.int j) (.int (i ^ j.toNat)) := fun _ _ _ _ _ ha hb => ev_pow ha hb h.ok
theorem od_adds {i j : Str} (h : Sd (i.length + j.length ≤ sizeLine)) : OpD X .Add (.str i) (.str j) (.str (i ++ j)) := fun _ _ _ _ _ ha hb => ev_adds ha hb h.ok
theorem ev_cmpD (ha : EV X Δ false a x) (hb : EV X Δ false b y) (hc : CmpD X co x y t) (hm : behindInMarks co b = false := by first | exact nomark _ | rfl | (with_unfolding_all rfl)) : EV X Δ m (.Compare a [co] [b] pos) (.bl t) := by
  obtain ⟨r, ho, hr⟩ := hc
  intro G0 H0 F H σ S Q q
  exact eU (pe_cmpR ho pe_u pe_u hm) (two ha hb S fun v w F' H' e r1 r2 => hr v w H' (r1.mono (sel_h e.fh)) (r2.mono (sel_h e.fh)) Q (q _ F' H' e (r_bl.mpr rfl)))
theorem ev_cmpD_a (ha : EV X Δ false a x) (hb : EV X Δ false b y) (hc : CmpD X co x y t) (hm : Rm (behindInMarks co b = false)) : EV X Δ m (.Compare a [co] [b] pos) (.bl t) := ev_cmpD ha hb hc hm.ok
theorem tv_cmpD (ha : EV X Δ false a x) (hb : EV X Δ false b y) (hc : CmpD X co x y t) (hm : behindInMarks co b = false := by first | exact nomark _ | rfl | (with_unfolding_all rfl)) : TV X Δ (.Compare a [co] [b] pos) t := by
  obtain ⟨r, ho, hr⟩ := hc
  exact tv_of_ev ho hm ha hb fun v w H r1 r2 Q q => hr v w H r1 r2 Q q
theorem tv_cmpD_a (ha : EV X Δ false a x) (hb : EV X Δ false b y) (hc : CmpD X co x y t) (hm : Rm (behindInMarks co b = false)) : TV X Δ (.Compare a [co] [b] pos) t := tv_cmpD ha hb hc hm.ok
theorem cd_int {g : Int → Int → Bool} {i j : Int} (ho : OpR X (compareOp co) (rI0 fun i j => V.bl (g i j))) : CmpD X co (.int i) (.int j) (g i j) :=
  ⟨_, ho, fun v w H r1 r2 Q q => ⟨i, j, r_int.mp r1, r_int.mp r2, q⟩⟩
theorem cd_lt {i j : Int} : CmpD X .Lt (.int i) (.int j) (decide (i < j)) := cd_int op_lt
theorem cd_le {i j : Int} : CmpD X .LtE (.int i) (.int j) (decide (i ≤ j)) := cd_int op_le
theorem cd_gt {i j : Int} : CmpD X .Gt (.int i) (.int j) (decide (j < i)) := cd_int op_gt
theorem cd_ge {i j : Int} : CmpD X .GtE (.int i) (.int j) (decide (j ≤ i)) := cd_int op_ge
theorem cd_eqF (h1 : flat x = true) (h2 : flat y = true) (hs : scal (toV x) (toV y) = true) : CmpD X .Eq x y (decide (toV x = toV y)) :=
  ⟨_, op_eq, fun v w H r1 r2 Q q => by rw [r_flat h1 r1, r_flat h2 r2]; exact ⟨hs, q⟩⟩
theorem cd_neF (h1 : flat x = true) (h2 : flat y = true) (hs : scal (toV x) (toV y) = true) : CmpD X .NotEq x y (!decide (toV x = toV y)) :=
  ⟨_, op_ne, fun v w H r1 r2 Q q => by rw [r_flat h1 r1, r_flat h2 r2]; exact ⟨hs, q⟩⟩
theorem CmpD.to (h : CmpD X co x y t) (e : t = u) : CmpD X co x y u := e ▸ h
theorem cd_eqI {i j : Int} : CmpD X .Eq (.int i) (.int j) (decide (i = j)) := (cd_eqF rfl rfl rfl).to (by simp [toV])
theorem cd_neI {i j : Int} : CmpD X .NotEq (.int i) (.int j) (!decide (i = j)) := (cd_neF rfl rfl rfl).to (by simp [toV])
theorem cd_eqS {i j : Str} : CmpD X .Eq (.str i) (.str j) (decide (i = j)) := (cd_eqF rfl rfl rfl).to (by simp [toV])
theorem cd_neS {i j : Str} : CmpD X .NotEq (.str i) (.str j) (!decide (i = j)) := (cd_neF rfl rfl rfl).to (by simp [toV])
theorem cd_eqB {i j : Bool} : CmpD X .Eq (.bl i) (.bl j) (decide (i = j)) := (cd_eqF rfl rfl rfl).to (by simp [toV])
theorem cd_neB {i j : Bool} : CmpD X .NotEq (.bl i) (.bl j) (!decide (i = j)) := (cd_neF rfl rfl rfl).to (by simp [toV])
theorem cd_eqR (hu : X.A.units + 64 < cLine) (h1 : Sd (eqOk 64 x = true)) : CmpD X .Eq x x true :=
  ⟨_, op_eqD hu, fun v w H r1 r2 Q q => ⟨_, _, dp_of 64 x v h1.ok r1, dp_of 64 x w h1.ok r2, eqOk_shaped h1.ok, eqOk_shaped h1.ok, by rw [eqv_self h1.ok]; exact q⟩⟩
theorem cd_neR (hu : X.A.units + 64 < cLine) (h1 : Sd (eqOk 64 x = true)) : CmpD X .NotEq x x false :=
  ⟨_, op_neD hu, fun v w H r1 r2 Q q => ⟨_, _, dp_of 64 x v h1.ok r1, dp_of 64 x w h1.ok r2, eqOk_shaped h1.ok, eqOk_shaped h1.ok, by rw [eqv_self h1.ok]; exact q⟩⟩
theorem cd_eqD (hu : X.A.units + 64 < cLine) (h1 : Sd (eqOk 64 x = true)) (h2 : Sd (eqOk 64 y = true)) : CmpD X .Eq x y (PyData.eqv (toPy x) (toPy y)) :=
  ⟨_, op_eqD hu, fun v w H r1 r2 Q q => ⟨_, _, dp_of 64 x v h1.ok r1, dp_of 64 y w h2.ok r2, eqOk_shaped h1.ok, eqOk_shaped h2.ok, q⟩⟩
theorem cd_neD (hu : X.A.units + 64 < cLine) (h1 : Sd (eqOk 64 x = true)) (h2 : Sd (eqOk 64 y = true)) : CmpD X .NotEq x y (!PyData.eqv (toPy x) (toPy y)) :=
  ⟨_, op_neD hu, fun v w H r1 r2 Q q => ⟨_, _, dp_of 64 x v h1.ok r1, dp_of 64 y w h2.ok r2, eqOk_shaped h1.ok, eqOk_shaped h2.ok, q⟩⟩
theorem cd_inL (f1 : flat x = true) (f2 : Sd (ds.all flat = true)) : CmpD X .In x (.lst ds) (inD x ds) :=
  ⟨_, op_in_seq, fun v w H r1 r2 Q q => by
    obtain ⟨p, vs, rfl, g, l⟩ := r_lst.mp r2
    refine ⟨p, vs, rfl, .inl (SqL.of g), flat_V f1 r1, flats_V f2.ok l, ?_⟩
    rw [r_flat f1 r1, flats_toV f2.ok l, if_neg Bool.false_ne_true]; exact q⟩
theorem cd_ninL (f1 : flat x = true) (f2 : Sd (ds.all flat = true)) : CmpD X .NotIn x (.lst ds) (!inD x ds) :=
  ⟨_, op_notIn_seq, fun v w H r1 r2 Q q => by
    obtain ⟨p, vs, rfl, g, l⟩ := r_lst.mp r2
    refine ⟨p, vs, rfl, .inl (SqL.of g), flat_V f1 r1, flats_V f2.ok l, ?_⟩
    rw [r_flat f1 r1, flats_toV f2.ok l, if_pos rfl]; exact q⟩
theorem cd_inT (f1 : flat x = true) (f2 : Sd (ds.all flat = true)) : CmpD X .In x (.tup ds) (inD x ds) :=
  ⟨_, op_in_seq, fun v w H r1 r2 Q q => by
    obtain ⟨p, vs, rfl, g, l⟩ := r_tup.mp r2
    refine ⟨p, vs, rfl, .inr (SqT.of g), flat_V f1 r1, flats_V f2.ok l, ?_⟩
    rw [r_flat f1 r1, flats_toV f2.ok l, if_neg Bool.false_ne_true]; exact q⟩
theorem cd_inI {i : Int} {ns : List Int} : CmpD X .In (.int i) (.lst (ns.map D.int)) (decide (i ∈ ns)) := (cd_inL rfl ⟨flat_ints _⟩).to (inD_ints _ _)
theorem cd_ninI {i : Int} {ns : List Int} : CmpD X .NotIn (.int i) (.lst (ns.map D.int)) (!decide (i ∈ ns)) := (cd_ninL rfl ⟨flat_ints _⟩).to (by rw [inD_ints])
theorem inD_strs (i : Str) (ns : List Str) : inD (.str i) (ns.map D.str) = decide (i ∈ ns) := by
  unfold inD inV
  induction ns with
  | nil => rfl
  | cons k ns ih =>
    rw [List.map_cons, List.map_cons, List.any_cons, ih]
    show (eqV (.str k) (.str i) || _) = _
    by_cases h : k = i
    · subst h; simp [eqV]
    · have : ¬ i = k := fun e => h e.symm
      simp [eqV, h, this]
theorem cd_inSs {i : Str} {ns : List Str} : CmpD X .In (.str i) (.lst (ns.map D.str)) (decide (i ∈ ns)) := (cd_inL rfl ⟨flat_strs _⟩).to (inD_strs _ _)
theorem cd_ninSs {i : Str} {ns : List Str} : CmpD X .NotIn (.str i) (.lst (ns.map D.str)) (!decide (i ∈ ns)) := (cd_ninL rfl ⟨flat_strs _⟩).to (by rw [inD_strs])
theorem cd_inSg {k : Nat} {z : Str} : CmpD X .In (.str ⟨#[k]⟩) (.str z) (decide (k ∈ z.cps.toList)) := ⟨_, op_in_sign, fun v w H r1 r2 Q q => ⟨k, z, r_str.mp r1, r_str.mp r2, q⟩⟩
theorem cd_ninSg {k : Nat} {z : Str} : CmpD X .NotIn (.str ⟨#[k]⟩) (.str z) (!decide (k ∈ z.cps.toList)) := ⟨_, op_notIn_sign, fun v w H r1 r2 Q q => ⟨k, z, r_str.mp r1, r_str.mp r2, q⟩⟩
/-! items -/
abbrev gI (l : List Int) (i : Int) : Int := l.getD i.toNat 0
abbrev gR (l : List (List Int)) (i : Int) : List Int := l.getD i.toNat []
theorem ia_int {ns : List Int} {i : Int} (h0 : Sd (0 ≤ i)) (h1 : Sd (i < ns.length)) : atI (ns.map D.int) i = some (.int (gI ns i)) := at_ints h0.ok h1.ok
theorem ia_map {α : Type} {f : α → D} {xs : List α} {i : Int} (z : α) (h0 : Sd (0 ≤ i)) (h1 : Sd (i < xs.length)) : atI (xs.map f) i = some (f (xs.getD i.toNat z)) := by
  obtain ⟨k, rfl⟩ : ∃ k : Nat, i = k := ⟨i.toNat, by have := h0.ok; omega⟩
  refine atI_nat ?_
  have hk : k < xs.length := by have := h1.ok; omega
  rw [List.getElem?_map, List.getElem?_eq_getElem hk]
  simp [List.getD, List.getElem?_eq_getElem hk]
theorem ia_rows {ns : List (List Int)} {i : Int} (h0 : Sd (0 ≤ i)) (h1 : Sd (i < ns.length)) : atI (ns.map fun r => D.lst (r.map D.int)) i = some (intsD (gR ns i)) := ia_map (f := intsD) [] h0 h1
theorem ia_strs {ns : List Str} {i : Int} (h0 : Sd (0 ≤ i)) (h1 : Sd (i < ns.length)) : atI (ns.map D.str) i = some (.str (ns.getD i.toNat ⟨#[]⟩)) := ia_map (f := D.str) ⟨#[]⟩ h0 h1
inductive IntsOf : List D → List Int → Prop
  | nil : IntsOf [] []
  | cons {i : Int} {ds : List D} {ns : List Int} : IntsOf ds ns → IntsOf (.int i :: ds) (i :: ns)
theorem IntsOf.eq : ∀ {ds : List D} {ns : List Int}, IntsOf ds ns → ds = ns.map D.int
  | _, _, .nil => rfl
  | _, _, .cons h => by rw [List.map_cons, h.eq]
theorem ia_lits {ns : List Int} {i : Int} (h : IntsOf ds ns) (h0 : Sd (0 ≤ i)) (h1 : Sd (i < ns.length)) : atI ds i = some (.int (gI ns i)) := by rw [h.eq]; exact ia_int h0 h1
def IxD (X : Cx) (x y d : D) : Prop := ∀ (Δ : List Sl) (m : Bool) (a b : Expr) (pos : Pos), EV X Δ m a x → EV X Δ false b y → PlainIx b → EV X Δ m (.Subscript a b pos) d
theorem ev_sub' (ha : EV X Δ m a x) (hb : EV X Δ false b y) (hi : IxD X x y d) (hs : PlainIx b := by exact fun _ _ => rfl) : EV X Δ m (.Subscript a b pos) d := hi _ _ _ _ _ ha hb hs
theorem ev_sub'_a (ha : EV X Δ m a x) (hb : EV X Δ false b y) (hi : IxD X x y d) (hs : Rx (PlainIx b)) : EV X Δ m (.Subscript a b pos) d := ev_sub' ha hb hi hs.ok
theorem ix_l {i : Int} (h : atI ds i = some d) : IxD X (.lst ds) (.int i) d := fun _ _ _ _ _ ha hb hs => ev_ix ha hb h hs
theorem ix_t {i : Int} (h : atI ds i = some d) : IxD X (.tup ds) (.int i) d := fun _ _ _ _ _ ha hb hs => ev_ixt ha hb h hs
theorem ix_s {i : Int} {ns : List Int} (h0 : Sd (0 ≤ i)) (h1 : Sd (i < ns.length)) : IxD X (.scr ns) (.int i) (.int (gI ns i)) := fun _ _ _ _ _ ha hb hs => ev_ixs (ns := ns) (j := gI ns i) ha.low hb (by
  obtain ⟨k, rfl⟩ : ∃ k : Nat, i = k := ⟨i.toNat, by have := h0.ok; omega⟩
  refine atI_nat ?_
  have hk : k < ns.length := by have := h1.ok; omega
  simp [gI, List.getD, List.getElem?_eq_getElem hk]) hs
/-- the sign at a place -/
def sgn1 (z : Str) (i : Int) : Str := ⟨#[z.cps.toList.getD i.toNat 0]⟩
theorem ix_zs {i : Int} {z : Str} (hl : Sd (z.length ≤ sizeLine)) (h0 : Sd (0 ≤ i)) (h1 : Sd (i < z.length)) : IxD X (.str z) (.int i) (.str (sgn1 z i)) := fun _ _ _ _ _ ha hb hs => ev_ixS ha hb hl.ok (by
  obtain ⟨k, rfl⟩ : ∃ k : Nat, i = k := ⟨i.toNat, by have := h0.ok; omega⟩
  refine atI_nat ?_
  have hk : k < z.cps.toList.length := by
    have h2 : (k : Int) < (z.cps.size : Int) := h1.ok
    rw [Array.length_toList]; omega
  simp [List.getD, List.getElem?_eq_getElem hk]) hs
/-- an item of a list of one's own -/
theorem ev_subO {q : Option Addr} {z : Int} (hN : X.N = N) (h : NAt N n i) (hs : SAt Δ i (.w q (T.l ds))) (hb : EV X Δ false b (.int z)) (ha : atI ds z = some d) (hv : Vis X.env.scope n := by first | exact Or.inl rfl | exact Or.inr (Or.inl rfl) | exact Or.inr (Or.inr rfl)) (hx : PlainIx b := by exact fun _ _ => rfl) (h1 : (n == ("__debug__" : Str)) = false := by decide) (h2 : (n == ("__classdict__" : Str)) = false := by decide) : EV X Δ m (.Subscript (.Name n p) b pos) d :=
  ev_ixo (by rw [hN]; exact h.get) hs.get hb ha hv hx h1 h2
theorem ev_subO_a {q : Option Addr} {z : Int} (hN : X.N = N) (h : NAt N n i) (hs : SAt Δ i (.w q (T.l ds))) (hb : EV X Δ false b (.int z)) (ha : atI ds z = some d) (hv : Rv (Vis X.env.scope n)) (hx : Rx (PlainIx b)) (h1 : Rd ((n == ("__debug__" : Str)) = false)) (h2 : Rd ((n == ("__classdict__" : Str)) = false)) : EV X Δ m (.Subscript (.Name n p) b pos) d := ev_subO hN h hs hb ha hv.ok hx.ok h1.ok h2.ok
/-! lengths -/
theorem ld_map {α : Type} {f : α → D} {xs : List α} : LenD X (.lst (xs.map f)) xs.length := ⟨_, call_len_seq, fun v H r Q q => by
  obtain ⟨ad, ws, rfl, g, l⟩ := r_lst.mp r
  exact ⟨ad, ws, rfl, .inl (SqL.of g), by rw [l.length, List.length_map]; exact q⟩⟩
theorem ld_lst : LenD X (.lst ds) ds.length := ⟨_, call_len_seq, fun v H r Q q => by
  obtain ⟨ad, ws, rfl, g, l⟩ := r_lst.mp r
  exact ⟨ad, ws, rfl, .inl (SqL.of g), by rw [l.length]; exact q⟩⟩
theorem ld_tup : LenD X (.tup ds) ds.length := ⟨_, call_len_seq, fun v H r Q q => by
  obtain ⟨ad, ws, rfl, g, l⟩ := r_tup.mp r
  exact ⟨ad, ws, rfl, .inr (SqT.of g), by rw [l.length]; exact q⟩⟩
theorem ld_scr {ns : List Int} : LenD X (.scr ns) ns.length := ⟨_, call_len_seq, fun v H r Q q => by
  obtain ⟨ad, rfl, g⟩ := r_scr.mp r
  exact ⟨ad, _, rfl, .inl g, by rw [List.length_map]; exact q⟩⟩
theorem ld_str {z : Str} (hl : Sd (z.length ≤ sizeLine)) : LenD X (.str z) z.length := ⟨_, call_len_str, fun v H r Q q =>
  ⟨z, by rw [r_str.mp r], hl.ok, q⟩⟩
theorem ev_lenD {n : Nat} (hg : Gl X "len") (hm : X.mg "len" = none) (ha : EV X Δ false e x) (hl : LenD X x n) (hs : starEach [e] X.env = (false, eval e X.env) :: starEach [] X.env := by rfl) (hpl : (backTo pos (starEach ([] : List Expr) X.env)).any (·.1) = false := by rfl) : EV X Δ m (.Call (.Name "len" p) [e] [] pos) (.int (n : Int)) := by
  obtain ⟨r, hc, hr⟩ := hl
  exact ev_B hc hg hm bt_len (av_cons ha av_nil hs) (fun vs F H s rl Q q => by
    obtain ⟨v, rfl, r⟩ := rl1 rl
    exact hr v H r Q (q _ F H (Ext.rf s) (r_int.mpr rfl))) (by decide) (by decide) hs hpl

theorem ev_lenD_a {n : Nat} (hg : Gl X "len") (hm : X.mg "len" = none) (ha : EV X Δ false e x) (hl : LenD X x n) (hs : Rf (starEach [e] X.env = (false, eval e X.env) :: starEach [] X.env)) (hpl : Rf ((backTo pos (starEach ([] : List Expr) X.env)).any (·.1) = false)) : EV X Δ m (.Call (.Name "len" p) [e] [] pos) (.int (n : Int)) := ev_lenD hg hm ha hl hs.ok hpl.ok
/-! what a for walks, typed -/
theorem rng_eq {n i x : Nat} (h : (List.range n)[i]? = some x) : x = i ∧ i < n := by
  have hi := (List.getElem?_eq_some_iff.mp h).1
  rw [List.length_range] at hi
  rw [List.getElem?_range hi] at h
  exact ⟨(Option.some.inj h).symm, hi⟩

def ITM {α : Type} (X : Cx) (Δ : List Sl) (tg iter : Expr) (xs : List α) (g : Nat → α → D) : Prop := ∃ ds, IT X Δ tg iter ds ∧ ds.length = xs.length ∧ ∀ (i : Nat) d, ds[i]? = some d → ∃ x, xs[i]? = some x ∧ d = g i x
theorem im_map {α : Type} {f : α → D} {xs : List α} {tg : Expr} (h : EV X Δ true e (.lst (xs.map f))) : ITM X Δ tg e xs (fun _ x => f x) :=
  ⟨_, it_list h, List.length_map _, fun i d hd => by
    rw [List.getElem?_map] at hd
    cases z : xs[i]? with
    | none => rw [z] at hd; cases hd
    | some x => rw [z] at hd; cases hd; exact ⟨x, rfl, rfl⟩⟩
theorem im_lst {tg : Expr} (h : EV X Δ true e (.lst ds)) : ITM X Δ tg e ds (fun _ x => x) := ⟨_, it_list h, rfl, fun i d hd => ⟨d, hd, rfl⟩⟩
theorem im_tup {tg : Expr} (h : EV X Δ true e (.tup ds)) : ITM X Δ tg e ds (fun _ x => x) := ⟨_, it_tup h, rfl, fun i d hd => ⟨d, hd, rfl⟩⟩
theorem im_scr {tg : Expr} {ns : List Int} (h : EV X Δ true e (.scr ns)) : ITM X Δ tg e ns (fun _ x => .int x) :=
  ⟨_, it_scr h, List.length_map _, fun i d hd => by
    rw [List.getElem?_map] at hd
    cases z : ns[i]? with
    | none => rw [z] at hd; cases hd
    | some x => rw [z] at hd; cases hd; exact ⟨x, rfl, rfl⟩⟩
theorem im_str {tg : Expr} {z : Str} (h : EV X Δ false e (.str z)) : ITM X Δ tg e z.cps.toList (fun _ c => .str ⟨#[c]⟩) :=
  ⟨_, it_str h, by simp [sgnD], fun i d hd => by
    unfold sgnD at hd
    rw [List.getElem?_map] at hd
    cases y : z.cps.toList[i]? with
    | none => rw [y] at hd; cases hd
    | some x => rw [y] at hd; cases hd; exact ⟨x, rfl, rfl⟩⟩
theorem im_rng {tg : Expr} {p : Pos} {n : Nat} (hg : Gl X "range") (hm : X.mg "range" = none) (h : EV X Δ false a (.int (n : Int))) (h2 : Sd (n < 2 ^ 62)) (hs : starEach [a] X.env = [(false, eval a X.env)] := by rfl) : ITM X Δ tg (.Call (.Name "range" p) [a] [] pos) (List.range n) (fun _ x => .int ((x : Nat) : Int)) :=
  ⟨_, it_range1 hg hm h (by have := h2.ok; omega) (by have := h2.ok; omega) hs, by rw [rngD_len, List.length_range]; omega, fun i d hd => by
    obtain ⟨h1, rfl⟩ := rngD_get hd
    exact ⟨i, List.getElem?_range (by omega), by simp⟩⟩
theorem im_rng_a {tg : Expr} {p : Pos} {n : Nat} (hg : Gl X "range") (hm : X.mg "range" = none) (h : EV X Δ false a (.int (n : Int))) (h2 : Sd (n < 2 ^ 62)) (hs : Rf (starEach [a] X.env = [(false, eval a X.env)])) : ITM X Δ tg (.Call (.Name "range" p) [a] [] pos) (List.range n) (fun _ x => .int ((x : Nat) : Int)) := im_rng hg hm h h2 hs.ok
theorem im_rngI {tg : Expr} {p : Pos} {n : Int} (hg : Gl X "range") (hm : X.mg "range" = none) (h : EV X Δ false a (.int n)) (h1 : Sd (-(2 ^ 62) ≤ n)) (h2 : Sd (n < 2 ^ 62)) (hs : starEach [a] X.env = [(false, eval a X.env)] := by rfl) : ITM X Δ tg (.Call (.Name "range" p) [a] [] pos) (List.range n.toNat) (fun _ x => .int ((x : Nat) : Int)) :=
  ⟨_, it_range1 hg hm h h1.ok h2.ok hs, by rw [rngD_len, List.length_range], fun i d hd => by
    obtain ⟨h1, rfl⟩ := rngD_get hd
    exact ⟨i, List.getElem?_range h1, by simp⟩⟩
theorem im_rngI_a {tg : Expr} {p : Pos} {n : Int} (hg : Gl X "range") (hm : X.mg "range" = none) (h : EV X Δ false a (.int n)) (h1 : Sd (-(2 ^ 62) ≤ n)) (h2 : Sd (n < 2 ^ 62)) (hs : Rf (starEach [a] X.env = [(false, eval a X.env)])) : ITM X Δ tg (.Call (.Name "range" p) [a] [] pos) (List.range n.toNat) (fun _ x => .int ((x : Nat) : Int)) := im_rngI hg hm h h1 h2 hs.ok
theorem im_rng2 {tg : Expr} {p : Pos} {n k : Int} (hg : Gl X "range") (hm : X.mg "range" = none) (h : EV X Δ false a (.int n)) (h' : EV X Δ false b (.int k)) (h1 : Sd (-(2 ^ 62) ≤ n)) (h2 : Sd (n < 2 ^ 62)) (h3 : Sd (-(2 ^ 62) ≤ k)) (h4 : Sd (k < 2 ^ 62))
    (hs : starEach [a, b] X.env = [(false, eval a X.env), (false, eval b X.env)] := by rfl) (hs2 : starEach [b] X.env = [(false, eval b X.env)] := by rfl) : ITM X Δ tg (.Call (.Name "range" p) [a, b] [] pos) (List.range (k - n).toNat) (fun _ x => .int (n + ((x : Nat) : Int))) :=
  ⟨_, it_range2 hg hm h h' h1.ok h2.ok h3.ok h4.ok hs hs2, by rw [rngD_len, List.length_range], fun i d hd => by
    obtain ⟨h1, rfl⟩ := rngD_get hd
    exact ⟨i, List.getElem?_range h1, rfl⟩⟩
theorem im_rng2_a {tg : Expr} {p : Pos} {n k : Int} (hg : Gl X "range") (hm : X.mg "range" = none) (h : EV X Δ false a (.int n)) (h' : EV X Δ false b (.int k)) (h1 : Sd (-(2 ^ 62) ≤ n)) (h2 : Sd (n < 2 ^ 62)) (h3 : Sd (-(2 ^ 62) ≤ k)) (h4 : Sd (k < 2 ^ 62)) (hs : Rf (starEach [a, b] X.env = [(false, eval a X.env), (false, eval b X.env)])) (hs2 : Rf (starEach [b] X.env = [(false, eval b X.env)])) : ITM X Δ tg (.Call (.Name "range" p) [a, b] [] pos) (List.range (k - n).toNat) (fun _ x => .int (n + ((x : Nat) : Int))) := im_rng2 hg hm h h' h1 h2 h3 h4 hs.ok hs2.ok
theorem im_enum {α : Type} {f : α → D} {xs : List α} {elts : List Expr} {kk : Nat} {tpos p : Pos} (hg : Gl X "enumerate") (hm : X.mg "enumerate" = none) (h : EV X Δ true a (.lst (xs.map f))) (hs : starEach [a] X.env = [(false, eval a X.env)] := by rfl) : ITM X Δ (.Tuple elts kk tpos) (.Call (.Name "enumerate" p) [a] [] pos) xs (fun i x => .tup [.int (i : Nat), f x]) :=
  ⟨_, it_enum hg hm h hs, by rw [enumD_len, List.length_map], fun i d hd => by
    obtain ⟨d', e1, rfl⟩ := enumD_get hd
    rw [List.getElem?_map] at e1
    cases z : xs[i]? with
    | none => rw [z] at e1; cases e1
    | some x => rw [z] at e1; cases e1; exact ⟨x, rfl, rfl⟩⟩
theorem im_enum_a {α : Type} {f : α → D} {xs : List α} {elts : List Expr} {kk : Nat} {tpos p : Pos} (hg : Gl X "enumerate") (hm : X.mg "enumerate" = none) (h : EV X Δ true a (.lst (xs.map f))) (hs : Rf (starEach [a] X.env = [(false, eval a X.env)])) : ITM X Δ (.Tuple elts kk tpos) (.Call (.Name "enumerate" p) [a] [] pos) xs (fun i x => .tup [.int (i : Nat), f x]) := im_enum hg hm h hs.ok
theorem im_enumL {elts : List Expr} {kk : Nat} {tpos p : Pos} (hg : Gl X "enumerate") (hm : X.mg "enumerate" = none) (h : EV X Δ true a (.lst ds)) (hs : starEach [a] X.env = [(false, eval a X.env)] := by rfl) : ITM X Δ (.Tuple elts kk tpos) (.Call (.Name "enumerate" p) [a] [] pos) ds (fun i x => .tup [.int (i : Nat), x]) :=
  ⟨_, it_enum hg hm h hs, enumD_len _, fun i d hd => by
    obtain ⟨d', e1, rfl⟩ := enumD_get hd
    exact ⟨d', e1, rfl⟩⟩
theorem im_enumL_a {elts : List Expr} {kk : Nat} {tpos p : Pos} (hg : Gl X "enumerate") (hm : X.mg "enumerate" = none) (h : EV X Δ true a (.lst ds)) (hs : Rf (starEach [a] X.env = [(false, eval a X.env)])) : ITM X Δ (.Tuple elts kk tpos) (.Call (.Name "enumerate" p) [a] [] pos) ds (fun i x => .tup [.int (i : Nat), x]) := im_enumL hg hm h hs.ok
theorem im_zip {α β : Type} {f : α → D} {f2 : β → D} {xs : List α} {ys : List β} {elts : List Expr} {kk : Nat} {tpos p : Pos} (hg : Gl X "zip") (hm : X.mg "zip" = none) (h : EV X Δ true a (.lst (xs.map f))) (h' : EV X Δ true b (.lst (ys.map f2))) (hs : starEach [a, b] X.env = (false, eval a X.env) :: starEach [b] X.env := by rfl) (hs2 : starEach [b] X.env = [(false, eval b X.env)] := by rfl) (hpl : (backTo pos (starEach [b] X.env)).any (·.1) = false := by rfl) : ITM X Δ (.Tuple elts kk tpos) (.Call (.Name "zip" p) [a, b] [] pos) (xs.zip ys) (fun _ x => .tup [f x.1, f2 x.2]) :=
  ⟨_, it_zip hg hm h h' hs hs2 hpl, by rw [zipD_len, List.length_map, List.length_map, List.length_zip], fun i d hd => by
    obtain ⟨d1, d2, e1, e2, rfl⟩ := zipD_get hd
    rw [List.getElem?_map] at e1 e2
    cases z : xs[i]? with
    | none => rw [z] at e1; cases e1
    | some x =>
      cases y : ys[i]? with
      | none => rw [y] at e2; cases e2
      | some y' => rw [z] at e1; rw [y] at e2; cases e1; cases e2; exact ⟨(x, y'), List.getElem?_zip_eq_some.mpr ⟨z, y⟩, rfl⟩⟩
theorem im_zip_a {α β : Type} {f : α → D} {f2 : β → D} {xs : List α} {ys : List β} {elts : List Expr} {kk : Nat} {tpos p : Pos} (hg : Gl X "zip") (hm : X.mg "zip" = none) (h : EV X Δ true a (.lst (xs.map f))) (h' : EV X Δ true b (.lst (ys.map f2))) (hs : Rf (starEach [a, b] X.env = (false, eval a X.env) :: starEach [b] X.env)) (hs2 : Rf (starEach [b] X.env = [(false, eval b X.env)])) (hpl : Rf ((backTo pos (starEach [b] X.env)).any (·.1) = false)) : ITM X Δ (.Tuple elts kk tpos) (.Call (.Name "zip" p) [a, b] [] pos) (xs.zip ys) (fun _ x => .tup [f x.1, f2 x.2]) := im_zip hg hm h h' hs.ok hs2.ok hpl.ok
/-! targets -/
theorem gv_nm (hN : X.N = N) (nd : N.Nodup) (h : NAt N n i) (hp : Put Δ i (.v d) Δ') (hl : Loc X.env.scope n := by first | exact .inl rfl | exact .inr rfl) (hf : X.fn n = true ∨ X.env.scope.names.lookup n = some .local := by first | exact .inl rfl | exact .inr rfl) : GV X [i] (.Name n pos) d Δ Δ' := by
  have := gv_name (X := X) (d := d) (Δ := Δ) (pos := pos) (by rw [hN]; exact nd) (by rw [hN]; exact h.get) hl hf
  rw [hp.eq] at this; exact this
theorem gv_nm_a (hN : X.N = N) (nd : N.Nodup) (h : NAt N n i) (hp : Put Δ i (.v d) Δ') (hl : Rl (Loc X.env.scope n)) (hf : Rl (X.fn n = true ∨ X.env.scope.names.lookup n = some .local)) : GV X [i] (.Name n pos) d Δ Δ' := gv_nm hN nd h hp hl.ok hf.ok
/-! statements -/
theorem bk_set {p1 : Pos} (hN : X.N = N) (nd : N.Nodup) (h : NAt N n i) (he : EV X Δ true e d) (hp : Put Δ i (.v d) Δ') (k : Bk X rest Δ' C) (hl : Loc X.env.scope n := by first | exact .inl rfl | exact .inr rfl) (hs : swapsWith e (some (.Name n p1)) pos.line X.env = pure false := by rfl) (hf : X.fn n = true ∨ X.env.scope.names.lookup n = some .local := by first | exact .inl rfl | exact .inr rfl) : Bk X (.Assign [.Name n p1] e pos :: rest) Δ C :=
  bk_cons (sm_set (i := i) (by rw [hN]; exact nd) (by rw [hN]; exact h.get) hl he (by rw [hp.eq]; exact k) hs hf)
theorem bk_set_a {p1 : Pos} (hN : X.N = N) (nd : N.Nodup) (h : NAt N n i) (he : EV X Δ true e d) (hp : Put Δ i (.v d) Δ') (k : Bk X rest Δ' C) (hl : Rl (Loc X.env.scope n)) (hs : Rf (swapsWith e (some (.Name n p1)) pos.line X.env = pure false)) (hf : Rl (X.fn n = true ∨ X.env.scope.names.lookup n = some .local)) : Bk X (.Assign [.Name n p1] e pos :: rest) Δ C := bk_set hN nd h he hp k hl.ok hs.ok hf.ok
theorem bk_seto {p1 : Pos} (hN : X.N = N) (nd : N.Nodup) (h : NAt N n i) (he : EO X Δ e ds) (hp : Put Δ i (.w none (T.l ds)) Δ') (k : Bk X rest Δ' C) (hl : Loc X.env.scope n := by first | exact .inl rfl | exact .inr rfl) (hs : swapsWith e (some (.Name n p1)) pos.line X.env = pure false := by rfl) (hf : X.fn n = true ∨ X.env.scope.names.lookup n = some .local := by first | exact .inl rfl | exact .inr rfl) : Bk X (.Assign [.Name n p1] e pos :: rest) Δ C :=
  bk_cons (sm_seto (i := i) (by rw [hN]; exact nd) (by rw [hN]; exact h.get) hl he (by rw [hp.eq]; exact k) hs hf)
theorem bk_seto_a {p1 : Pos} (hN : X.N = N) (nd : N.Nodup) (h : NAt N n i) (he : EO X Δ e ds) (hp : Put Δ i (.w none (T.l ds)) Δ') (k : Bk X rest Δ' C) (hl : Rl (Loc X.env.scope n)) (hs : Rf (swapsWith e (some (.Name n p1)) pos.line X.env = pure false)) (hf : Rl (X.fn n = true ∨ X.env.scope.names.lookup n = some .local)) : Bk X (.Assign [.Name n p1] e pos :: rest) Δ C := bk_seto hN nd h he hp k hl.ok hs.ok hf.ok
theorem bk_sett {p1 : Pos} {t : T} (hN : X.N = N) (nd : N.Nodup) (h : NAt N n i) (he : ET X Δ e t) (hp : Put Δ i (.w none t) Δ') (k : Bk X rest Δ' C) (hl : Loc X.env.scope n := by first | exact .inl rfl | exact .inr rfl) (hs : swapsWith e (some (.Name n p1)) pos.line X.env = pure false := by rfl) (hf : X.fn n = true ∨ X.env.scope.names.lookup n = some .local := by first | exact .inl rfl | exact .inr rfl) : Bk X (.Assign [.Name n p1] e pos :: rest) Δ C :=
  bk_cons (sm_sett (i := i) (by rw [hN]; exact nd) (by rw [hN]; exact h.get) hl he (by rw [hp.eq]; exact k) hs hf)
theorem bk_sett_a {p1 : Pos} {t : T} (hN : X.N = N) (nd : N.Nodup) (h : NAt N n i) (he : ET X Δ e t) (hp : Put Δ i (.w none t) Δ') (k : Bk X rest Δ' C) (hl : Rl (Loc X.env.scope n)) (hs : Rf (swapsWith e (some (.Name n p1)) pos.line X.env = pure false)) (hf : Rl (X.fn n = true ∨ X.env.scope.names.lookup n = some .local)) : Bk X (.Assign [.Name n p1] e pos :: rest) Δ C := bk_sett hN nd h he hp k hl.ok hs.ok hf.ok
theorem bk_asg {is : List Nat} {tg : Expr} (he : EV X Δ true e d) (g : GV X is tg d Δ Δ') (k : Bk X rest Δ' C) (hs : swapsWithSole [tg] e pos.line X.env = pure false := by rfl) (hw : swappedStores [tg] e X.env = pure none := by rfl)
    (h1 : (assignEach [tg] X.env).map (·.2) = [assign tg X.env] := by rfl) : Bk X (.Assign [tg] e pos :: rest) Δ C := bk_cons (sm_asg he g k hs hw h1)
theorem bk_asg_a {is : List Nat} {tg : Expr} (he : EV X Δ true e d) (g : GV X is tg d Δ Δ') (k : Bk X rest Δ' C) (hs : Rf (swapsWithSole [tg] e pos.line X.env = pure false)) (hw : Rf (swappedStores [tg] e X.env = pure none)) (h1 : Rf ((assignEach [tg] X.env).map (·.2) = [assign tg X.env])) : Bk X (.Assign [tg] e pos :: rest) Δ C := bk_asg he g k hs.ok hw.ok h1.ok
theorem bk_aug {p1 : Pos} {u w : Int} (hN : X.N = N) (nd : N.Nodup) (h : NAt N n i) (hs : SAt Δ i (.v (.int u))) (he : EV X Δ false e (.int w)) (hp : Put Δ i (.v (.int (u + w))) Δ') (k : Bk X rest Δ' C) (hl : Loc X.env.scope n := by first | exact .inl rfl | exact .inr rfl) (hf : X.fn n = true ∨ X.env.scope.names.lookup n = some .local := by first | exact .inl rfl | exact .inr rfl) : Bk X (.AugAssign (.Name n p1) .Add e pos :: rest) Δ C :=
  bk_cons (sm_aug (i := i) (by rw [hN]; exact nd) (by rw [hN]; exact h.get) hl hs.get he (by rw [hp.eq]; exact k) hf)
theorem bk_aug_a {p1 : Pos} {u w : Int} (hN : X.N = N) (nd : N.Nodup) (h : NAt N n i) (hs : SAt Δ i (.v (.int u))) (he : EV X Δ false e (.int w)) (hp : Put Δ i (.v (.int (u + w))) Δ') (k : Bk X rest Δ' C) (hl : Rl (Loc X.env.scope n)) (hf : Rl (X.fn n = true ∨ X.env.scope.names.lookup n = some .local)) : Bk X (.AugAssign (.Name n p1) .Add e pos :: rest) Δ C := bk_aug hN nd h hs he hp k hl.ok hf.ok
theorem bk_augm {p1 : Pos} {u w : Int} (hN : X.N = N) (nd : N.Nodup) (h : NAt N n i) (hs : SAt Δ i (.v (.int u))) (he : EV X Δ false e (.int w)) (hp : Put Δ i (.v (.int (u - w))) Δ') (k : Bk X rest Δ' C) (hl : Loc X.env.scope n := by first | exact .inl rfl | exact .inr rfl) (hf : X.fn n = true ∨ X.env.scope.names.lookup n = some .local := by first | exact .inl rfl | exact .inr rfl) : Bk X (.AugAssign (.Name n p1) .Sub e pos :: rest) Δ C :=
  bk_cons (sm_augm (i := i) (by rw [hN]; exact nd) (by rw [hN]; exact h.get) hl hs.get he (by rw [hp.eq]; exact k) hf)
theorem bk_augm_a {p1 : Pos} {u w : Int} (hN : X.N = N) (nd : N.Nodup) (h : NAt N n i) (hs : SAt Δ i (.v (.int u))) (he : EV X Δ false e (.int w)) (hp : Put Δ i (.v (.int (u - w))) Δ') (k : Bk X rest Δ' C) (hl : Rl (Loc X.env.scope n)) (hf : Rl (X.fn n = true ∨ X.env.scope.names.lookup n = some .local)) : Bk X (.AugAssign (.Name n p1) .Sub e pos :: rest) Δ C := bk_augm hN nd h hs he hp k hl.ok hf.ok
theorem bk_augx {p1 : Pos} {u w : Int} (hN : X.N = N) (nd : N.Nodup) (h : NAt N n i) (hs : SAt Δ i (.v (.int u))) (he : EV X Δ false e (.int w)) (hc : Sd (IntMulOk u w)) (hp : Put Δ i (.v (.int (u * w))) Δ') (k : Bk X rest Δ' C) (hl : Loc X.env.scope n := by first | exact .inl rfl | exact .inr rfl) (hf : X.fn n = true ∨ X.env.scope.names.lookup n = some .local := by first | exact .inl rfl | exact .inr rfl) : Bk X (.AugAssign (.Name n p1) .Mult e pos :: rest) Δ C :=
  bk_cons (sm_augx (i := i) (by rw [hN]; exact nd) (by rw [hN]; exact h.get) hl hs.get he hc.ok (by rw [hp.eq]; exact k) hf)
theorem bk_augx_a {p1 : Pos} {u w : Int} (hN : X.N = N) (nd : N.Nodup) (h : NAt N n i) (hs : SAt Δ i (.v (.int u))) (he : EV X Δ false e (.int w)) (hc : Sd (IntMulOk u w)) (hp : Put Δ i (.v (.int (u * w))) Δ') (k : Bk X rest Δ' C) (hl : Rl (Loc X.env.scope n)) (hf : Rl (X.fn n = true ∨ X.env.scope.names.lookup n = some .local)) : Bk X (.AugAssign (.Name n p1) .Mult e pos :: rest) Δ C := bk_augx hN nd h hs he hc hp k hl.ok hf.ok
/-- what a list becomes with one item more -/
def SnD (ds : List D) (d : D) (es : List D) : Prop := ds ++ [d] = es
theorem sn_nil : SnD [] d [d] := rfl
theorem sn_ints {ns : List Int} {i : Int} : SnD (ns.map .int) (.int i) ((ns ++ [i]).map .int) := by simp [SnD]
theorem sn_strs {ns : List Str} {i : Str} : SnD (ns.map .str) (.str i) ((ns ++ [i]).map .str) := by simp [SnD]
theorem sn_rows {ns : List (List Int)} {i : List Int} : SnD (ns.map fun r => D.lst (r.map .int)) (.lst (i.map .int)) ((ns ++ [i]).map fun r => D.lst (r.map .int)) := by simp [SnD]
theorem sn_all : SnD ds d (ds ++ [d]) := rfl
theorem bk_append {p1 p2 p3 : Pos} {q : Option Addr} {es' : List D} (hN : X.N = N) (h : NAt N n i) (hs : SAt Δ i (.w q (T.l ds))) (he : EV X Δ true e d) (hl : Sd (ds.length < sizeLine)) (hsn : SnD ds d es') (hp : Put Δ i (.w q (T.l es')) Δ') (k : Bk X rest Δ' C) (hv : Vis X.env.scope n := by first | exact Or.inl rfl | exact Or.inr (Or.inl rfl) | exact Or.inr (Or.inr rfl))
    (hd : (n == ("__debug__" : Str)) = false := by decide) (hcd : (n == ("__classdict__" : Str)) = false := by decide)
    (hb : attributeBase (.Name n p1) "append" X.env (eval (.Name n p1) X.env) = eval (.Name n p1) X.env := by rfl) (hlin : (p2.endLine == p3.line) = true := by rfl)
    (hst : starEach [e] X.env = (false, eval e X.env) :: starEach [] X.env := by rfl) (hpl : (backTo p3 (starEach ([] : List Expr) X.env)).any (·.1) = false := by rfl) (hfew : ((((backTo p3 (starEach [e] X.env)).all fun x => !x.fst) && (backToKw p3 (keywordEach [] X.env)).all fun x => x.fst.isSome) && decide (([e].length + ([] : List Keyword).length + if ([] : List Keyword).isEmpty = true then 0 else 1) < 30)) = true := by rfl) (hsw : swapsWith (.Call (.Attribute (.Name n p1) "append" p2) [e] [] p3) none pos.line X.env = pure false := by rfl) :
    Bk X (.Expr (.Call (.Attribute (.Name n p1) "append" p2) [e] [] p3) pos :: rest) Δ C :=
  bk_cons (sm_append (i := i) (by rw [hN]; exact h.get) hs.get he hl.ok (by rw [show ds ++ [d] = es' from hsn, hp.eq]; exact k) hv hd hcd hb hlin hst hpl hfew hsw)
theorem bk_append_a {p1 p2 p3 : Pos} {q : Option Addr} {es' : List D} (hN : X.N = N) (h : NAt N n i) (hs : SAt Δ i (.w q (T.l ds))) (he : EV X Δ true e d) (hl : Sd (ds.length < sizeLine)) (hsn : SnD ds d es') (hp : Put Δ i (.w q (T.l es')) Δ') (k : Bk X rest Δ' C) (hv : Rv (Vis X.env.scope n)) (hd : Rd ((n == ("__debug__" : Str)) = false)) (hcd : Rd ((n == ("__classdict__" : Str)) = false)) (hb : Rf (attributeBase (.Name n p1) "append" X.env (eval (.Name n p1) X.env) = eval (.Name n p1) X.env)) (hlin : Rf ((p2.endLine == p3.line) = true)) (hst : Rf (starEach [e] X.env = (false, eval e X.env) :: starEach [] X.env)) (hpl : Rf ((backTo p3 (starEach ([] : List Expr) X.env)).any (·.1) = false)) (hfew : Rf (((((backTo p3 (starEach [e] X.env)).all fun x => !x.fst) && (backToKw p3 (keywordEach [] X.env)).all fun x => x.fst.isSome) && decide (([e].length + ([] : List Keyword).length + if ([] : List Keyword).isEmpty = true then 0 else 1) < 30)) = true)) (hsw : Rf (swapsWith (.Call (.Attribute (.Name n p1) "append" p2) [e] [] p3) none pos.line X.env = pure false)) : Bk X (.Expr (.Call (.Attribute (.Name n p1) "append" p2) [e] [] p3) pos :: rest) Δ C := bk_append hN h hs he hl hsn hp k hv.ok hd.ok hcd.ok hb.ok hlin.ok hst.ok hpl.ok hfew.ok hsw.ok
/-- what a list becomes with an item changed -/
def StD (ds : List D) (z : Int) (d : D) (es : List D) : Prop := ∃ j, ixN ds.length z = some j ∧ ds.set j d = es
theorem st_ints {ns : List Int} {z i : Int} (h0 : Sd (0 ≤ z)) (h1 : Sd (z < ns.length)) : StD (ns.map .int) z (.int i) ((ns.set z.toNat i).map .int) :=
  ⟨z.toNat, by have := h0.ok; have := h1.ok; unfold ixN; rw [List.length_map, if_pos (by omega), if_pos (by omega)], by rw [List.map_set]⟩
theorem st_map {α : Type} {f : α → D} {ns : List α} {z : Int} (i : α) (h0 : Sd (0 ≤ z)) (h1 : Sd (z < ns.length)) : StD (ns.map f) z (f i) ((ns.set z.toNat i).map f) :=
  ⟨z.toNat, by have := h0.ok; have := h1.ok; unfold ixN; rw [List.length_map, if_pos (by omega), if_pos (by omega)], by rw [List.map_set]⟩
theorem st_all {z : Int} (h0 : Sd (0 ≤ z)) (h1 : Sd (z < ds.length)) : StD ds z d (ds.set z.toNat d) :=
  ⟨z.toNat, by have := h0.ok; have := h1.ok; unfold ixN; rw [if_pos (by omega), if_pos (by omega)], rfl⟩
theorem bk_seti {p1 p2 : Pos} {z : Int} {q : Option Addr} {es' : List D} (hN : X.N = N) (h : NAt N n i) (hs : SAt Δ i (.w q (T.l ds))) (he : EV X Δ true e d) (hj : EV X Δ false a (.int z)) (hst : StD ds z d es') (hp : Put Δ i (.w q (T.l es')) Δ') (k : Bk X rest Δ' C) (hv : Vis X.env.scope n := by first | exact Or.inl rfl | exact Or.inr (Or.inl rfl) | exact Or.inr (Or.inr rfl))
    (hd : (n == ("__debug__" : Str)) = false := by decide) (hcd : (n == ("__classdict__" : Str)) = false := by decide)
    (hsw : swapsWithSole [.Subscript (.Name n p1) a p2] e pos.line X.env = pure false := by rfl) (hw : swappedStores [.Subscript (.Name n p1) a p2] e X.env = pure none := by rfl)
    (h1 : (assignEach [.Subscript (.Name n p1) a p2] X.env).map (·.2) = [assign (.Subscript (.Name n p1) a p2) X.env] := by rfl)
    (ha : ∀ v, assign (.Subscript (.Name n p1) a p2) X.env v = (do
      let ov ← holding [v] (eval (.Name n p1) X.env)
      let iv ← holding [v, ov] (eval a X.env)
      standAt p2
      holding [v, ov, iv] (setItem ov iv v)
      release [v, ov, iv] []) := by intro _; rfl) : Bk X (.Assign [.Subscript (.Name n p1) a p2] e pos :: rest) Δ C := by
  obtain ⟨j, h2, h3⟩ := hst
  exact bk_cons (sm_seti (i := i) (j := j) (by rw [hN]; exact h.get) hs.get he hj h2 (by rw [h3, hp.eq]; exact k) hv hd hcd hsw hw h1 ha)
theorem bk_seti_a {p1 p2 : Pos} {z : Int} {q : Option Addr} {es' : List D} (hN : X.N = N) (h : NAt N n i) (hs : SAt Δ i (.w q (T.l ds))) (he : EV X Δ true e d) (hj : EV X Δ false a (.int z)) (hst : StD ds z d es') (hp : Put Δ i (.w q (T.l es')) Δ') (k : Bk X rest Δ' C) (hv : Rv (Vis X.env.scope n)) (hd : Rd ((n == ("__debug__" : Str)) = false)) (hcd : Rd ((n == ("__classdict__" : Str)) = false)) (hsw : Rf (swapsWithSole [.Subscript (.Name n p1) a p2] e pos.line X.env = pure false)) (hw : Rf (swappedStores [.Subscript (.Name n p1) a p2] e X.env = pure none)) (h1 : Rf ((assignEach [.Subscript (.Name n p1) a p2] X.env).map (·.2) = [assign (.Subscript (.Name n p1) a p2) X.env])) (ha : Ri (∀ v, assign (.Subscript (.Name n p1) a p2) X.env v = (do
      let ov ← holding [v] (eval (.Name n p1) X.env)
      let iv ← holding [v, ov] (eval a X.env)
      standAt p2
      holding [v, ov, iv] (setItem ov iv v)
      release [v, ov, iv] []))) : Bk X (.Assign [.Subscript (.Name n p1) a p2] e pos :: rest) Δ C := bk_seti hN h hs he hj hst hp k hv.ok hd.ok hcd.ok hsw.ok hw.ok h1.ok ha.ok
theorem bk_augi {p1 p2 : Pos} {z w : Int} {q : Option Addr} {ns : List Int} (hN : X.N = N) (h : NAt N n i) (hs : SAt Δ i (.w q (T.l (ns.map .int)))) (hj : EV X Δ false a (.int z)) (h0 : Sd (0 ≤ z)) (h1 : Sd (z < ns.length)) (he : EV X Δ false e (.int w)) (hp : Put Δ i (.w q (T.l ((ns.set z.toNat (gI ns z + w)).map .int))) Δ') (k : Bk X rest Δ' C) (hv : Vis X.env.scope n := by first | exact Or.inl rfl | exact Or.inr (Or.inl rfl) | exact Or.inr (Or.inr rfl))
    (hd : (n == ("__debug__" : Str)) = false := by decide) (hcd : (n == ("__classdict__" : Str)) = false := by decide)
    (ha : ∀ ov iv new, augStore a ov iv new = (do holding [new, ov, iv] (setItem ov iv new); release [new, ov, iv] []; pure .next) := by intros; rfl) : Bk X (.AugAssign (.Subscript (.Name n p1) a p2) .Add e pos :: rest) Δ C := by
  have h0 := h0.ok
  have h1 := h1.ok
  have hk : z.toNat < ns.length := by omega
  refine bk_cons (sm_augi (i := i) (j := z.toNat) (u := gI ns z) (by rw [hN]; exact h.get) hs.get hj ?_ ?_ he (by rw [← List.map_set, hp.eq]; exact k) hv hd hcd ha)
  · unfold ixN; rw [List.length_map, if_pos (by omega), if_pos (by omega)]
  · rw [List.getElem?_map, List.getElem?_eq_getElem hk]; simp [gI, List.getD, List.getElem?_eq_getElem hk]
theorem bk_augi_a {p1 p2 : Pos} {z w : Int} {q : Option Addr} {ns : List Int} (hN : X.N = N) (h : NAt N n i) (hs : SAt Δ i (.w q (T.l (ns.map .int)))) (hj : EV X Δ false a (.int z)) (h0 : Sd (0 ≤ z)) (h1 : Sd (z < ns.length)) (he : EV X Δ false e (.int w)) (hp : Put Δ i (.w q (T.l ((ns.set z.toNat (gI ns z + w)).map .int))) Δ') (k : Bk X rest Δ' C) (hv : Rv (Vis X.env.scope n)) (hd : Rd ((n == ("__debug__" : Str)) = false)) (hcd : Rd ((n == ("__classdict__" : Str)) = false)) (ha : Ri (∀ ov iv new, augStore a ov iv new = (do holding [new, ov, iv] (setItem ov iv new); release [new, ov, iv] []; pure .next))) : Bk X (.AugAssign (.Subscript (.Name n p1) a p2) .Add e pos :: rest) Δ C := bk_augi hN h hs hj h0 h1 he hp k hv.ok hd.ok hcd.ok ha.ok
theorem bk_expr (he : EV X Δ false e d) (k : Bk X rest Δ C) (hs : swapsWith e none pos.line X.env = pure false := by rfl) : Bk X (.Expr e pos :: rest) Δ C := bk_cons (sm_expr he k hs)
theorem bk_expr_a (he : EV X Δ false e d) (k : Bk X rest Δ C) (hs : Rf (swapsWith e none pos.line X.env = pure false)) : Bk X (.Expr e pos :: rest) Δ C := bk_expr he k hs.ok
theorem bk_pass (k : Bk X rest Δ C) : Bk X (.Pass pos :: rest) Δ C := bk_cons (sm_pass k)
theorem bk_brk (k : C (.bk Δ)) : Bk X (.Break pos :: rest) Δ C := bk_cons (sm_break k)
theorem bk_cnt (k : C (.ct Δ)) : Bk X (.Continue pos :: rest) Δ C := bk_cons (sm_cont k)
theorem bk_ret (he : EV X Δ true e d) (k : C (.rt (.v d) Δ)) : Bk X (.Return (some e) pos :: rest) Δ C := bk_cons (sm_ret he k)
theorem bk_reto (he : EO X Δ e ds) (k : C (.rt (.o ds) Δ)) : Bk X (.Return (some e) pos :: rest) Δ C := bk_cons (sm_reto he k)
theorem bk_rett {t : T} (he : ET X Δ e t) (k : C (.rt (.t t) Δ)) : Bk X (.Return (some e) pos :: rest) Δ C := bk_cons (sm_rett he k)
theorem bk_retN (k : C (.rt (.v .non) Δ)) : Bk X (.Return none pos :: rest) Δ C := bk_cons (sm_retN k)
theorem bk_reton {p1 : Pos} {q : Option Addr} (hN : X.N = N) (h : NAt N n i) (hs : SAt Δ i (.w q (T.l ds))) (k : C (.rt (.o ds) (Δ.set i .u))) (hv : Vis X.env.scope n := by first | exact Or.inl rfl | exact Or.inr (Or.inl rfl) | exact Or.inr (Or.inr rfl)) (hd : (n == ("__debug__" : Str)) = false := by decide) (hcd : (n == ("__classdict__" : Str)) = false := by decide) : Bk X (.Return (some (.Name n p1)) pos :: rest) Δ C :=
  bk_cons (sm_reton (i := i) (by rw [hN]; exact h.get) hs.get k hv hd hcd)
theorem bk_reton_a {p1 : Pos} {q : Option Addr} (hN : X.N = N) (h : NAt N n i) (hs : SAt Δ i (.w q (T.l ds))) (k : C (.rt (.o ds) (Δ.set i .u))) (hv : Rv (Vis X.env.scope n)) (hd : Rd ((n == ("__debug__" : Str)) = false)) (hcd : Rd ((n == ("__classdict__" : Str)) = false)) : Bk X (.Return (some (.Name n p1)) pos :: rest) Δ C := bk_reton hN h hs k hv.ok hd.ok hcd.ok
theorem bk_if {tt uu : List Stmt} {bb : Bool} (h : TV X Δ c bb) (k1 : bb = true → Bk X tt Δ (sq X rest C)) (k2 : bb = false → Bk X uu Δ (sq X rest C)) : Bk X (.If c tt uu pos :: rest) Δ C := bk_cons (sm_if h k1 k2)
theorem bk_out (k : Bk X rest Δ C) : Bk X [] Δ (sq X rest C) := bk_nil k
/-- an if whose ways meet again -/
theorem bk_ifJ {S : Type} {tt uu : List Stmt} {bb : Bool} (h : TV X Δ c bb) (mk : S → List Sl) (I : S → Prop) (k1 : bb = true → Bk X tt Δ (fun o => match o with | .nx Δ' => ∃ s, I s ∧ Le Δ' (mk s) | o => sq X rest C o)) (k2 : bb = false → Bk X uu Δ (fun o => match o with | .nx Δ' => ∃ s, I s ∧ Le Δ' (mk s) | o => sq X rest C o)) (k : ∀ s, I s → Bk X rest (mk s) C) : Bk X (.If c tt uu pos :: rest) Δ C := by
  refine bk_cons (Sm.mono (C := fun o => match o with | .nx Δ' => ∃ s, I s ∧ Le Δ' (mk s) | o => sq X rest C o) (sm_if h k1 k2) fun o ho => ?_)
  cases o with
  | nx Δ' => obtain ⟨s, hs, l⟩ := ho; exact bk_le l (k s hs)
  | bk Δ' => exact ho
  | ct Δ' => exact ho
  | rt r Δ' => exact ho
  | xr E Δ' => exact ho
theorem tn_mk {is : List Nat} {tg : Expr} {body : List Stmt} {C : Out → Prop} (g : GV X is tg d Δ Δ') (b : Bk X body Δ' C) : ∃ is Δ', GV X is tg d Δ Δ' ∧ Bk X body Δ' C := ⟨is, Δ', g, b⟩
/-- what a turn must come to -/
def turnS {S : Type} (X : Cx) (rest : List Stmt) (C : Out → Prop) (mk : Nat → S → List Sl) (I : Nat → S → Prop) (j : Nat) : Out → Prop
  | .nx Δ => ∃ s, I j s ∧ Le Δ (mk j s) | .ct Δ => ∃ s, I j s ∧ Le Δ (mk j s) | .bk Δ => Bk X rest Δ C | .rt r Δ => C (.rt r Δ) | .xr E Δ => C (.xr E Δ)
theorem bk_for {α S : Type} {tg iter : Expr} {body : List Stmt} {xs : List α} {g : Nat → α → D} (hi : ITM X Δ tg iter xs g) (mk : Nat → S → List Sl) (I : Nat → S → Prop) (h0 : ∃ s, I 0 s ∧ Le Δ (mk 0 s))
    (hs : ∀ (i : Nat) (x : α) (s : S), xs[i]? = some x → I i s → ∃ is Δ', GV X is tg (g i x) (mk i s) Δ' ∧ Bk X body Δ' (turnS X rest C mk I (i + 1))) (hd : ∀ s, I xs.length s → Bk X rest (mk xs.length s) C)
    (hp : PassesOwn (model X.prog X.w) X.A X.env X.xe := by exact PassesOwn.never) (hc : X.calm = true := by rfl) (hf : ∀ x, foldedSetIterable iter X.env x = pure x := by intro _; rfl) : Bk X (.For tg iter body [] pos :: rest) Δ C := by
  obtain ⟨ds, hit, hl, hg⟩ := hi
  refine bk_cons fun G0 H0 F H σ S D q => ?_
  refine sU1 (ps_for hp hc pi_u pg_u pss_u hf) (hit G0 H0 F H σ S _ fun J F' H' x W => ?_)
  have S1 := S.ext x
  have hst : ∃ F2 s, I 0 s ∧ Stt X.K F' H0 F2 H' σ (mk 0 s) := by
    obtain ⟨s, hI, l⟩ := h0
    obtain ⟨F2, sF, S2⟩ := S1.self.le l
    exact ⟨F2, s, hI, S2⟩
  refine for_it (J := J) (n := ds.length) (G := Sub F') (Y := J.yld) ⟨fun i H hi s => W.go i H hi s, fun H s => W.stop H s, fun i H x H' hi s y => y⟩
    (fun i σ H => ∃ F2 s, I i s ∧ Stt X.K F' H0 F2 H σ (mk i s)) hst (fun i σ H _ ⟨F2, _, _, T⟩ => T.g.tr T.fh) (fun i v σ H H2 hil ⟨F2, s, hI, T⟩ y => ?_) (fun σ H ⟨F2, s, hI, T⟩ => ?_)
  · have hd' : ds[i]? = some ds[i] := List.getElem?_eq_getElem hil
    obtain ⟨x, hx, ed⟩ := hg i _ hd'
    obtain ⟨is, Δ', g, b⟩ := hs i x s hx hI
    obtain ⟨F3, e3, r3⟩ := W.yld i _ H v H2 F2 hd' T.g T.fh y
    rw [ed] at r3
    refine g F' H0 F3 H2 σ v (T.ext e3) r3 _ fun σ' _ T' => ?_
    refine b F' H0 F3 H2 σ' T' _ fun o ho => ?_
    have lev : ∀ Δ4, (∃ s, I (i + 1) s ∧ Le Δ4 (mk (i + 1) s)) → ∀ F5 H5 σ5, Stt X.K F' H0 F5 H5 σ5 Δ4 → ∃ F2 s, I (i + 1) s ∧ Stt X.K F' H0 F2 H5 σ5 (mk (i + 1) s) := fun Δ4 ⟨s, hI, l⟩ F5 H5 σ5 T5 => by
      obtain ⟨F6, sF, T6⟩ := T5.le l
      exact ⟨F6, s, hI, T6⟩
    cases o with
    | nx Δ4 => exact lev Δ4 ho
    | ct Δ4 => exact lev Δ4 ho
    | bk Δ4 => exact fun F5 H5 σ5 T5 => q (.nx Δ4) ho F5 H5 σ5 (S1.back T5)
    | rt r Δ4 =>
      have z := OutOk.fwd S1 (q (.rt r Δ4) ho)
      cases r with
      | v d => exact z
      | o ds => exact z
      | t t => exact z
    | xr E Δ4 => exact OutOk.fwd S1 (q (.xr E Δ4) ho)
  · rw [hl] at hI T
    exact q (.nx (mk xs.length s)) (hd s hI) F2 H σ (S1.back T)
theorem bk_for_a {α S : Type} {tg iter : Expr} {body : List Stmt} {xs : List α} {g : Nat → α → D} (hi : ITM X Δ tg iter xs g) (mk : Nat → S → List Sl) (I : Nat → S → Prop) (h0 : ∃ s, I 0 s ∧ Le Δ (mk 0 s)) (hs : ∀ (i : Nat) (x : α) (s : S), xs[i]? = some x → I i s → ∃ is Δ', GV X is tg (g i x) (mk i s) Δ' ∧ Bk X body Δ' (turnS X rest C mk I (i + 1))) (hd : ∀ s, I xs.length s → Bk X rest (mk xs.length s) C) (hp : Rp (PassesOwn (model X.prog X.w) X.A X.env X.xe)) (hc : Rf (X.calm = true)) (hf : Ri (∀ x, foldedSetIterable iter X.env x = pure x)) : Bk X (.For tg iter body [] pos :: rest) Δ C := bk_for hi mk I h0 hs hd hp.ok hc.ok hf.ok
/-- a while -/
def turnW {S : Type} (X : Cx) (rest : List Stmt) (C : Out → Prop) (mk : S → List Sl) (I : Nat → S → Prop) (m : Nat) : Out → Prop
  | .nx Δ => ∃ m' s, m' < m ∧ I m' s ∧ Le Δ (mk s) | .ct Δ => ∃ m' s, m' < m ∧ I m' s ∧ Le Δ (mk s) | .bk Δ => Bk X rest Δ C | .rt r Δ => C (.rt r Δ) | .xr E Δ => C (.xr E Δ)
theorem bk_while {S : Type} {body : List Stmt} (mk : S → List Sl) (I : Nat → S → Prop) (h0 : ∃ m s, I m s ∧ Le Δ (mk s))
    (hs : ∀ m s, I m s → ∃ b, TV X (mk s) c b ∧ (b = true → Bk X body (mk s) (turnW X rest C mk I m)) ∧ (b = false → Bk X rest (mk s) C))
    (hp : PassesOwn (model X.prog X.w) X.A X.env X.xe := by exact PassesOwn.never) : Bk X (.While c body [] pos :: rest) Δ C := by
  obtain ⟨m0, s0, i0, l0⟩ := h0
  refine bk_le l0 (bk_cons (sm_whileV (fun m Δ => ∃ s, I m s ∧ Δ = mk s) m0 ⟨s0, i0, rfl⟩ (fun m Δi ⟨s, hI, e⟩ => ?_) hp))
  subst e
  obtain ⟨b, tv, k1, k2⟩ := hs m s hI
  refine ⟨b, tv, fun hb => ?_, k2⟩
  intro G0 H0 F H σ S D q
  refine k1 hb G0 H0 F H σ S D fun o ho => ?_
  have lev : ∀ Δ4, (∃ m' s, m' < m ∧ I m' s ∧ Le Δ4 (mk s)) → ∀ F5 H5 σ5, Stt X.K G0 H0 F5 H5 σ5 Δ4 → D.nx σ5 H5 := fun Δ4 ⟨m', s', hm, hI', l⟩ F5 H5 σ5 T5 => by
    obtain ⟨F6, sF, T6⟩ := T5.le l
    exact q (.nx (mk s')) ⟨m', hm, s', hI', rfl⟩ F6 H5 σ5 T6
  have levc : ∀ Δ4, (∃ m' s, m' < m ∧ I m' s ∧ Le Δ4 (mk s)) → ∀ F5 H5 σ5, Stt X.K G0 H0 F5 H5 σ5 Δ4 → D.ct σ5 H5 := fun Δ4 ⟨m', s', hm, hI', l⟩ F5 H5 σ5 T5 => by
    obtain ⟨F6, sF, T6⟩ := T5.le l
    exact q (.ct (mk s')) ⟨m', hm, s', hI', rfl⟩ F6 H5 σ5 T6
  cases o with
  | nx Δ4 => exact lev Δ4 ho
  | ct Δ4 => exact levc Δ4 ho
  | bk Δ4 => exact q (.bk Δ4) ho
  | rt r Δ4 => exact q (.rt r Δ4) ho
  | xr E Δ4 => exact q (.xr E Δ4) ho

theorem bk_while_a {S : Type} {body : List Stmt} (mk : S → List Sl) (I : Nat → S → Prop) (h0 : ∃ m s, I m s ∧ Le Δ (mk s)) (hs : ∀ m s, I m s → ∃ b, TV X (mk s) c b ∧ (b = true → Bk X body (mk s) (turnW X rest C mk I m)) ∧ (b = false → Bk X rest (mk s) C)) (hp : Rp (PassesOwn (model X.prog X.w) X.A X.env X.xe)) : Bk X (.While c body [] pos :: rest) Δ C := bk_while mk I h0 hs hp.ok
theorem ev_tupZ {k : Nat} (h : AV X Δ m es ds) (hl : Sd (ds.length ≤ 1000)) : EV X Δ m (.Tuple es k pos) (.tup ds) := ev_tup h hl.ok
theorem ev_lstZ (h : AV X Δ m es ds) (hl : Sd (ds.length ≤ 1000)) : EV X Δ m (.List es pos) (.lst ds) := ev_lst h hl.ok
theorem eo_lstZ (h : AV X Δ true es ds) (hl : Sd (ds.length ≤ 1000)) : EO X Δ (.List es pos) ds := eo_lst h hl.ok
theorem eo_listfZ (hg : Gl X "list") (hm : X.mg "list" = none) (ha : EV X Δ false e (.lst ds)) (f : Sd (ds.all flat = true)) (hs : starEach [e] X.env = (false, eval e X.env) :: starEach [] X.env := by rfl) (hpl : (backTo pos (starEach ([] : List Expr) X.env)).any (·.1) = false := by rfl) : EO X Δ (.Call (.Name "list" p) [e] [] pos) ds := eo_listf hg hm ha f.ok hs hpl
theorem eo_listfZ_a (hg : Gl X "list") (hm : X.mg "list" = none) (ha : EV X Δ false e (.lst ds)) (f : Sd (ds.all flat = true)) (hs : Rf (starEach [e] X.env = (false, eval e X.env) :: starEach [] X.env)) (hpl : Rf ((backTo pos (starEach ([] : List Expr) X.env)).any (·.1) = false)) : EO X Δ (.Call (.Name "list" p) [e] [] pos) ds := eo_listfZ hg hm ha f hs.ok hpl.ok
def NonD (x : D) (t : Bool) : Prop := (match x with | .non => true | _ => false) = t
theorem ev_isND {k : Nat} {p2 : Pos} (ha : EV X Δ false a x) (h : NonD x t) : EV X Δ m (.Compare a [.Is] [.Constant .none k p2] pos) (.bl t) := (ev_isN ha).to (by rw [← (show _ = t from h)]; cases x <;> rfl)
theorem ev_notND {k : Nat} {p2 : Pos} (ha : EV X Δ false a x) (h : NonD x t) : EV X Δ m (.Compare a [.IsNot] [.Constant .none k p2] pos) (.bl (!t)) := (ev_notN ha).to (by rw [← (show _ = t from h)]; cases x <;> rfl)
theorem tv_isND {k : Nat} {p2 : Pos} (ha : EV X Δ false a x) (h : NonD x t) : TV X Δ (.Compare a [.Is] [.Constant .none k p2] pos) t := (tv_isN ha).is (by rw [← (show _ = t from h)]; cases x <;> rfl)
theorem tv_notND {k : Nat} {p2 : Pos} (ha : EV X Δ false a x) (h : NonD x t) : TV X Δ (.Compare a [.IsNot] [.Constant .none k p2] pos) (!t) := (tv_notN ha).is (by rw [← (show _ = t from h)]; cases x <;> rfl)
theorem ev_ifI {i j : Int} (h : TV X Δ c t) (h1 : t = true → EV X Δ false a (.int i)) (h2 : t = false → EV X Δ false b (.int j)) : EV X Δ m (.IfExp c a b pos) (.int (if t then i else j)) := by
  refine EV.up (ev_if h (fun ht => ?_) (fun ht => ?_)) rfl
  · subst ht; exact h1 rfl
  · subst ht; exact h2 rfl
theorem ev_callT {spec : List D → Res → Prop} (Fn : FnK X.prog X.w X.K X.mg X.base CX0 n k spec) (hr : Room k X.A) (hg : Gl X n) (ha : AV X Δ true (e :: es) ds) (hs : spec ds (.v d)) (hdb : (n == ("__debug__" : Str)) = false := by decide)
    (he : starEach (e :: es) X.env = (false, eval e X.env) :: starEach es X.env := by rfl) (hpl : (backTo pos (starEach es X.env)).any (·.1) = false := by rfl) : EV X Δ m (.Call (.Name n p) (e :: es) [] pos) d := EV.weak (ev_call Fn hr hg ha hs hdb he hpl)
theorem ev_callT_a {spec : List D → Res → Prop} (Fn : FnK X.prog X.w X.K X.mg X.base CX0 n k spec) (hr : Room k X.A) (hg : Gl X n) (ha : AV X Δ true (e :: es) ds) (hs : spec ds (.v d)) (hdb : Rd ((n == ("__debug__" : Str)) = false)) (he : Rf (starEach (e :: es) X.env = (false, eval e X.env) :: starEach es X.env)) (hpl : Rf ((backTo pos (starEach es X.env)).any (·.1) = false)) : EV X Δ m (.Call (.Name n p) (e :: es) [] pos) d := ev_callT Fn hr hg ha hs hdb.ok he.ok hpl.ok
theorem ev_callF {spec : List D → Res → Prop} (Fn : FnK X.prog X.w X.K X.mg X.base CX0 n k spec) (hr : Room k X.A) (hg : Gl X n) (ha : AV X Δ false (e :: es) ds) (hs : spec ds (.v d)) (hf : flat d = true) (hdb : (n == ("__debug__" : Str)) = false := by decide)
    (he : starEach (e :: es) X.env = (false, eval e X.env) :: starEach es X.env := by rfl) (hpl : (backTo pos (starEach es X.env)).any (·.1) = false := by rfl) : EV X Δ m (.Call (.Name n p) (e :: es) [] pos) d := EV.up (ev_call Fn hr hg ha hs hdb he hpl) hf
theorem ev_callF_a {spec : List D → Res → Prop} (Fn : FnK X.prog X.w X.K X.mg X.base CX0 n k spec) (hr : Room k X.A) (hg : Gl X n) (ha : AV X Δ false (e :: es) ds) (hs : spec ds (.v d)) (hf : flat d = true) (hdb : Rd ((n == ("__debug__" : Str)) = false)) (he : Rf (starEach (e :: es) X.env = (false, eval e X.env) :: starEach es X.env)) (hpl : Rf ((backTo pos (starEach es X.env)).any (·.1) = false)) : EV X Δ m (.Call (.Name n p) (e :: es) [] pos) d := ev_callF Fn hr hg ha hs hf hdb.ok he.ok hpl.ok
theorem eo_callT {rs : List D} {spec : List D → Res → Prop} (Fn : FnK X.prog X.w X.K X.mg X.base CX0 n k spec) (hr : Room k X.A) (hg : Gl X n) (ha : AV X Δ true (e :: es) ds) (hs : spec ds (.o rs)) (hdb : (n == ("__debug__" : Str)) = false := by decide)
    (he : starEach (e :: es) X.env = (false, eval e X.env) :: starEach es X.env := by rfl) (hpl : (backTo pos (starEach es X.env)).any (·.1) = false := by rfl) : EO X Δ (.Call (.Name n p) (e :: es) [] pos) rs := eo_call Fn hr hg ha hs (fun h => nomatch h) hdb he hpl
theorem eo_callT_a {rs : List D} {spec : List D → Res → Prop} (Fn : FnK X.prog X.w X.K X.mg X.base CX0 n k spec) (hr : Room k X.A) (hg : Gl X n) (ha : AV X Δ true (e :: es) ds) (hs : spec ds (.o rs)) (hdb : Rd ((n == ("__debug__" : Str)) = false)) (he : Rf (starEach (e :: es) X.env = (false, eval e X.env) :: starEach es X.env)) (hpl : Rf ((backTo pos (starEach es X.env)).any (·.1) = false)) : EO X Δ (.Call (.Name n p) (e :: es) [] pos) rs := eo_callT Fn hr hg ha hs hdb.ok he.ok hpl.ok
theorem eo_callF {rs : List D} {spec : List D → Res → Prop} (Fn : FnK X.prog X.w X.K X.mg X.base CX0 n k spec) (hr : Room k X.A) (hg : Gl X n) (ha : AV X Δ false (e :: es) ds) (hs : spec ds (.o rs)) (hf : Sd (rs.all flat = true)) (hdb : (n == ("__debug__" : Str)) = false := by decide)
    (he : starEach (e :: es) X.env = (false, eval e X.env) :: starEach es X.env := by rfl) (hpl : (backTo pos (starEach es X.env)).any (·.1) = false := by rfl) : EO X Δ (.Call (.Name n p) (e :: es) [] pos) rs := eo_call Fn hr hg ha hs (fun _ => hf.ok) hdb he hpl
theorem eo_callF_a {rs : List D} {spec : List D → Res → Prop} (Fn : FnK X.prog X.w X.K X.mg X.base CX0 n k spec) (hr : Room k X.A) (hg : Gl X n) (ha : AV X Δ false (e :: es) ds) (hs : spec ds (.o rs)) (hf : Sd (rs.all flat = true)) (hdb : Rd ((n == ("__debug__" : Str)) = false)) (he : Rf (starEach (e :: es) X.env = (false, eval e X.env) :: starEach es X.env)) (hpl : Rf ((backTo pos (starEach es X.env)).any (·.1) = false)) : EO X Δ (.Call (.Name n p) (e :: es) [] pos) rs := eo_callF Fn hr hg ha hs hf hdb.ok he.ok hpl.ok
theorem ev_isiD {T : String} (hg : Gl X "isinstance") (hm : X.mg "isinstance" = none) (ha : EV X Δ false a x) (f : plainD x = true) (hg2 : Gl X n) (hm2 : X.mg n = none) (hv2 : bootBuiltins n = some (.type T)) (hk : kitB (tyD x) T = some t) (hn2 : n ≠ "__name__" := by decide) (hd2 : (n == ("__debug__" : Str)) = false := by decide)
    (hs : starEach [a, .Name n p2] X.env = (false, eval a X.env) :: starEach [.Name n p2] X.env := by rfl) (hs2 : starEach [.Name n p2] X.env = (false, eval (.Name n p2) X.env) :: starEach [] X.env := by rfl) (hpl : (backTo pos (starEach [.Name n p2] X.env)).any (·.1) = false := by rfl) :
    EV X Δ m (.Call (.Name "isinstance" p) [a, .Name n p2] [] pos) (.bl t) := (ev_isi hg hm ha f hg2 hm2 hv2 (by rw [hk]; rfl) hn2 hd2 hs hs2 hpl).to (by unfold isD; rw [hk]; rfl)
theorem ev_isiD_a {T : String} (hg : Gl X "isinstance") (hm : X.mg "isinstance" = none) (ha : EV X Δ false a x) (f : plainD x = true) (hg2 : Gl X n) (hm2 : X.mg n = none) (hv2 : bootBuiltins n = some (.type T)) (hk : kitB (tyD x) T = some t) (hn2 : Rd (n ≠ "__name__")) (hd2 : Rd ((n == ("__debug__" : Str)) = false)) (hs : Rf (starEach [a, .Name n p2] X.env = (false, eval a X.env) :: starEach [.Name n p2] X.env)) (hs2 : Rf (starEach [.Name n p2] X.env = (false, eval (.Name n p2) X.env) :: starEach [] X.env)) (hpl : Rf ((backTo pos (starEach [.Name n p2] X.env)).any (·.1) = false)) : EV X Δ m (.Call (.Name "isinstance" p) [a, .Name n p2] [] pos) (.bl t) := ev_isiD hg hm ha f hg2 hm2 hv2 hk hn2.ok hd2.ok hs.ok hs2.ok hpl.ok
end
section
variable {P : Program} {w : World} {K : PySem.W.Frag} {mg : Str → Option Value} {base : Heap}
theorem fn_okZ {x qual : Str} {st : Stmt} {f : Addr} {fd : FuncData} {N ps : List Str} {k : Nat} {spec : List D → Res → Prop} (Fn : Fun K x qual st f fd) (S : FnScope N ps (defScope st)) (ar : ∀ ds r, spec ds r → ds.length = ps.length)
    (hb : ∀ (cdv : Value) (A : Around) (outer : List Env) (s : Shared) (H : Hp) (E : XK), Room k (A.deeper (envOfC qual (defScope st) s.heap.objs.size f cdv)) → ((cxOf CX0 P w K mg base N qual (defScope st) f cdv A outer s H E).nox).N = N → N.Nodup → ∀ ds r, spec ds r →
      Bk ((cxOf CX0 P w K mg base N qual (defScope st) f cdv A outer s H E).nox) (defBody st) (ini N ds) (fin r)) : FnOk P w K mg base CX0 (k + 1) f fd ps (Pr K spec) :=
  fn_ok Fn S ar fun cdv A outer s H E hr => hb cdv A outer s H E hr rfl S.nd
theorem fn_okEZ {x qual : Str} {st : Stmt} {f : Addr} {fd : FuncData} {N ps : List Str} {k : Nat} {spec : List D → (Res → Prop) → Prop} (Fn : Fun K x qual st f fd) (S : FnScope N ps (defScope st)) (ar : ∀ ds R, spec ds R → ds.length = ps.length)
    (hb : ∀ (cdv : Value) (A : Around) (outer : List Env) (s : Shared) (H : Hp) (E : XK), Room k (A.deeper (envOfC qual (defScope st) s.heap.objs.size f cdv)) → ((cxOf CX0 P w K mg base N qual (defScope st) f cdv A outer s H E).nox).N = N → N.Nodup → ∀ ds R, spec ds R →
      Bk ((cxOf CX0 P w K mg base N qual (defScope st) f cdv A outer s H E).nox) (defBody st) (ini N ds) (fun o => ∃ r, R r ∧ fin r o)) : FnOk P w K mg base CX0 (k + 1) f fd ps (PrE K spec) :=
  fn_okE Fn S ar fun cdv A outer s H E hr => hb cdv A outer s H E hr rfl S.nd
theorem fn_okMZ {x qual : Str} {st : Stmt} {f : Addr} {fd : FuncData} {N ps : List Str} {k : Nat} {spec : List Sl → D → List Sl → Prop} (Fn : Fun K x qual st f fd) (S : FnScope N ps (defScope st)) (ar : ∀ Δ d Δ', spec Δ d Δ' → Δ.length = ps.length ∧ ArgsOk Δ Δ')
    (hb : ∀ (cdv : Value) (A : Around) (outer : List Env) (s : Shared) (H : Hp) (E : XK), Room k (A.deeper (envOfC qual (defScope st) s.heap.objs.size f cdv)) → ((cxOf CX0 P w K mg base N qual (defScope st) f cdv A outer s H E).nox).N = N → N.Nodup → ∀ Δ d Δ', spec Δ d Δ' →
      Bk ((cxOf CX0 P w K mg base N qual (defScope st) f cdv A outer s H E).nox) (defBody st) (iniM N Δ) (finM d Δ')) : FnOk P w K mg base CX0 (k + 1) f fd ps (PrM K spec) :=
  fn_okM Fn S ar fun cdv A outer s H E hr => hb cdv A outer s H E hr rfl S.nd
/-- what a def's slots are at first -/
def IniD (N : List Str) (ds : List D) (Δ : List Sl) : Prop := ini N ds = Δ
theorem in_nil : IniD [] [] [] := rfl
theorem in_u {n : Str} {N : List Str} {Δ : List Sl} (h : IniD N [] Δ) : IniD (n :: N) [] (.u :: Δ) := by
  unfold IniD ini at *
  simp [List.replicate_succ] at *
  exact h
theorem in_v {n : Str} {N : List Str} {d : D} {ds : List D} {Δ : List Sl} (h : IniD N ds Δ) : IniD (n :: N) (d :: ds) (.v d :: Δ) := by
  unfold IniD ini at *
  simp at *
  exact h
theorem bk_ini {X : Cx} {sts : List Stmt} {N : List Str} {ds : List D} {Δ : List Sl} {C : Out → Prop} (h : IniD N ds Δ) (k : Bk X sts Δ C) : Bk X sts (ini N ds) C := by rw [show ini N ds = Δ from h]; exact k
end
end Z

namespace Z
open PySem PySem.Spec PyProof.Rows L2
variable [τ : Tb]

/-! ### a text, some times -/
def repS (z : Str) (k : Int) : Str := if k < 1 then Str.empty else ⟨(List.replicate k.toNat z.cps).foldl (· ++ ·) #[]⟩
theorem foldl_app : ∀ (l : List (Array Nat)) (a : Array Nat), (l.foldl (· ++ ·) a).toList = a.toList ++ (l.map Array.toList).flatten
  | [], a => by simp
  | b :: l, a => by rw [List.foldl_cons, foldl_app l]; simp
theorem repS_list (z : Str) (k : Int) : (repS z k).cps.toList = (List.replicate k.toNat z.cps.toList).flatten := by
  unfold repS
  split
  · rename_i h
    have : k.toNat = 0 := by omega
    rw [this]; rfl
  · show ((List.replicate k.toNat z.cps).foldl (· ++ ·) #[]).toList = _
    rw [foldl_app, List.map_replicate]; rfl
theorem repS_len (z : Str) (k : Int) : (repS z k).length = z.length * k.toNat := by
  have h : (repS z k).cps.toList.length = z.cps.toList.length * k.toNat := by
    rw [repS_list, List.length_flatten, List.map_replicate, List.sum_replicate_nat, Nat.mul_comm]
  rw [Array.length_toList, Array.length_toList] at h
  exact h
theorem op_repS {X : Cx} : OpR X (binaryOp .Mult) (fun x y H Q => ∃ (z : Str) (k : Int), x = .str z ∧ y = .int k ∧ -(2 ^ 40) ≤ k ∧ k < 2 ^ 40 ∧ z.length < 2 ^ 20 ∧ z.length * k.toNat ≤ sizeLine ∧ Q (.str (repS z k)) H) := by
  intro pins s σ H x y v u Q I rx ry h
  obtain ⟨z, k, rfl, rfl, h1, h2, h4, h3, q⟩ := h
  obtain ⟨t, rfl⟩ := rx
  obtain ⟨t', rfl⟩ := ry
  refine PySem.P.mul_str ?_ (fun _ _ => ?_) (fun _ _ => ?_) ?_
  · have a : ¬ k < -(2 ^ 63 : Int) := by omega
    have b : ¬ k ≥ 2 ^ 63 := by omega
    rw [decide_eq_false a, decide_eq_false b]; rfl
  · rename_i a b
    have : (2 ^ 23 : Int) ≤ (2 ^ 63 - 1) / k := (Int.le_ediv_iff_mul_le (by omega)).mpr (by omega)
    omega
  · unfold Builtin.Str.tooLong
    rw [decide_eq_false (by omega)]
  · by_cases c : k < 1
    · rw [if_pos c]
      refine ⟨by show (0 : Nat) ≤ sizeLine; exact Nat.zero_le _, .str (repS z k), H, I.tok _, ⟨s.toks, ?_⟩, q⟩
      unfold repS; rw [if_pos c]
    · rw [if_neg c]
      by_cases d : (k == 1 || z.length == 0) = true
      · rw [if_pos d]
        refine ⟨.str (repS z k), H, I, ⟨t, ?_⟩, q⟩
        have e : repS z k = z := by
          have el : (repS z k).cps.toList = z.cps.toList := by
            rw [repS_list]
            rcases (Bool.or_eq_true _ _).mp d with d | d
            · have : k = 1 := eq_of_beq d
              subst this; simp
            · have hz : z.cps.size = 0 := eq_of_beq d
              have hz2 : z.cps.toList = [] := List.length_eq_zero_iff.mp (by rw [Array.length_toList]; exact hz)
              rw [hz2]; simp
          have := congrArg List.toArray el
          simp at this
          cases z; cases hr : repS _ k with | mk c => rw [hr] at this; simpa using this
        rw [e]
      · rw [if_neg d]
        have e : (⟨(List.replicate k.toNat z.cps).foldl (· ++ ·) #[]⟩ : Str) = repS z k := by unfold repS; rw [if_neg c]
        rw [e]
        exact ⟨by rw [repS_len]; exact h3, .str (repS z k), H, I.tok _, ⟨s.toks, rfl⟩, q⟩
section
variable {X : Cx} {Δ Δ' : List Sl} {m : Bool} {e a b c o : Expr} {es : List Expr} {d x y : D} {ds : List D} {pos p p2 apos : Pos} {n : Str} {N : List Str} {i k : Nat} {s : Sl} {t u : Bool} {C : Out → Prop} {rest : List Stmt}
theorem od_repS {z : Str} {k : Int} (h1 : Sd (k.natAbs < 2 ^ 40)) (h2 : Sd (z.length < 2 ^ 20)) (h3 : Sd (z.length * k.toNat ≤ sizeLine)) : OpD X .Mult (.str z) (.int k) (.str (repS z k)) := fun Δ m a b pos ha hb => by
  intro G0 H0 F H σ S Q q
  have h1 := h1.ok
  refine eU (pe_op op_repS pe_u pe_u) (two ha hb S fun v w F' H' e r1 r2 => ?_)
  exact ⟨z, k, r_str.mp r1, r_int.mp r2, by omega, by omega, h2.ok, h3.ok, q _ F' H' e (r_str.mpr rfl)⟩
/-- x.count(e) -/
theorem ev_count {ns : List Int} {j : Int} (ho : EV X Δ false o (.lst (ns.map D.int))) (he : EV X Δ false e (.int j)) (hbase : attributeBase o "count" X.env (eval o X.env) = eval o X.env := by rfl)
    (hfew : ((backTo pos (starEach [e] X.env)).all (fun x => !x.1) && (backToKw pos (keywordEach [] X.env)).all (fun x => x.1.isSome)
      && decide ([e].length + ([] : List Keyword).length + (if ([] : List Keyword).isEmpty then 0 else 1) < 30)) = true := by rfl)
    (hline : (apos.endLine == pos.line) = true := by rfl) (hs : starEach [e] X.env = (false, eval e X.env) :: starEach [] X.env := by rfl) (hplain : (backTo pos (starEach ([] : List Expr) X.env)).any (·.1) = false := by rfl) :
    EV X Δ m (.Call (.Attribute o "count" apos) [e] [] pos) (.int ((ns.count j : Nat) : Int)) := by
  refine EV.up (fun G0 H0 F H σ S Q q => ?_) rfl
  refine eU (pe_bm (hbase := hbase) (hfew := hfew) (hline := hline) (hs := hs) (hplain := hplain) PySem.F.plainAttrs_list PySem.F.slot_list_count PySem.F.type_list_count mt_lcount pe_u (pa_cons pe_u pa_nil hs)) ?_
  refine ho G0 H0 F H σ S _ fun v F1 H1 x1 r1 => ?_
  obtain ⟨p, vs, rfl, g, l⟩ := r_lst.mp r1
  have g' : H1 p = some (.lst vs) := sel_h x1.fh _ _ g
  refine ⟨.inl ⟨rfl, _, SqL.of g'⟩, he G0 H0 F1 H1 σ (S.ext x1) _ fun w F2 H2 x2 r2 => ?_⟩
  refine ⟨p, ns, j, rfl, by rw [r_int.mp r2], SqL.of (by rw [← l.ints]; exact x2.h.k _ _ g' (fun _ z => nomatch z)), q _ F2 H2 (x1.tr x2) (r_int.mpr rfl)⟩
theorem ev_count_a {ns : List Int} {j : Int} (ho : EV X Δ false o (.lst (ns.map D.int))) (he : EV X Δ false e (.int j)) (hbase : Rf (attributeBase o "count" X.env (eval o X.env) = eval o X.env)) (hfew : Rf (((backTo pos (starEach [e] X.env)).all (fun x => !x.1) && (backToKw pos (keywordEach [] X.env)).all (fun x => x.1.isSome)
      && decide ([e].length + ([] : List Keyword).length + (if ([] : List Keyword).isEmpty then 0 else 1) < 30)) = true)) (hline : Rf ((apos.endLine == pos.line) = true)) (hs : Rf (starEach [e] X.env = (false, eval e X.env) :: starEach [] X.env)) (hplain : Rf ((backTo pos (starEach ([] : List Expr) X.env)).any (·.1) = false)) : EV X Δ m (.Call (.Attribute o "count" apos) [e] [] pos) (.int ((ns.count j : Nat) : Int)) := ev_count ho he hbase.ok hfew.ok hline.ok hs.ok hplain.ok
/-- reversed(x) -/
theorem it_revL {tg : Expr} (hg : Gl X "reversed") (hm : X.mg "reversed" = none) (h : EV X Δ true e (.lst ds)) (hs : starEach [e] X.env = (false, eval e X.env) :: starEach [] X.env := by rfl) : IT X Δ tg (.Call (.Name "reversed" p) [e] [] pos) ds.reverse := by
  intro G0 H0 F H σ S R' q
  refine iU (_root_.RT.pi_revA hg hm pe_u hs) (h G0 H0 F H σ S _ fun v F' H' x r => ?_)
  obtain ⟨p, vs, rfl, g, l⟩ := r_lst.mp r
  have g' : F' p = some (.lst vs) := g
  have hl := l.length
  refine ⟨p, vs, rfl, .inl ⟨SqL.of (x.fh _ _ g'), q _ F' H' x ⟨fun i H2 hi s => ?_, fun H2 s => ?_, fun i d H2 y H3 F2 hd s1 s2 yl => ?_⟩⟩⟩
  · rw [List.length_reverse] at hi
    have hi' : vs.length - 1 - i < vs.length := by omega
    exact ⟨by omega, vs, vs[vs.length - 1 - i], SqL.of (s _ _ g'), List.getElem?_eq_getElem hi'⟩
  · show vs.length ≤ ds.reverse.length
    rw [List.length_reverse]; omega
  · obtain ⟨rfl, yl⟩ := yl
    have hi : i < ds.length := by have := (List.getElem?_eq_some_iff.mp hd).1; rwa [List.length_reverse] at this
    rw [List.getElem?_reverse hi] at hd
    obtain ⟨w, e1, e2⟩ := l.get hd
    have e3 := yl vs (SqL.of (s2 _ _ (s1 _ _ g')))
    rw [hl, e1] at e3; cases e3
    exact ⟨F2, Ext.rf s2, R.mono (show Sub F' F2 from s1) _ _ e2⟩
theorem it_revL_a {tg : Expr} (hg : Gl X "reversed") (hm : X.mg "reversed" = none) (h : EV X Δ true e (.lst ds)) (hs : Rf (starEach [e] X.env = (false, eval e X.env) :: starEach [] X.env)) : IT X Δ tg (.Call (.Name "reversed" p) [e] [] pos) ds.reverse := it_revL hg hm h hs.ok
theorem im_rev {α : Type} {f : α → D} {xs : List α} {tg : Expr} (hg : Gl X "reversed") (hm : X.mg "reversed" = none) (h : EV X Δ true e (.lst (xs.map f))) (hs : starEach [e] X.env = (false, eval e X.env) :: starEach [] X.env := by rfl) : ITM X Δ tg (.Call (.Name "reversed" p) [e] [] pos) xs.reverse (fun _ x => f x) :=
  ⟨_, it_revL hg hm h hs, by simp, fun i d hd => by
    rw [← List.map_reverse, List.getElem?_map] at hd
    cases z : xs.reverse[i]? with
    | none => rw [z] at hd; cases hd
    | some x => rw [z] at hd; cases hd; exact ⟨x, rfl, rfl⟩⟩
theorem im_rev_a {α : Type} {f : α → D} {xs : List α} {tg : Expr} (hg : Gl X "reversed") (hm : X.mg "reversed" = none) (h : EV X Δ true e (.lst (xs.map f))) (hs : Rf (starEach [e] X.env = (false, eval e X.env) :: starEach [] X.env)) : ITM X Δ tg (.Call (.Name "reversed" p) [e] [] pos) xs.reverse (fun _ x => f x) := im_rev hg hm h hs.ok
theorem im_revL {tg : Expr} (hg : Gl X "reversed") (hm : X.mg "reversed" = none) (h : EV X Δ true e (.lst ds)) (hs : starEach [e] X.env = (false, eval e X.env) :: starEach [] X.env := by rfl) : ITM X Δ tg (.Call (.Name "reversed" p) [e] [] pos) ds.reverse (fun _ x => x) :=
  ⟨_, it_revL hg hm h hs, rfl, fun i d hd => ⟨d, hd, rfl⟩⟩
theorem im_revL_a {tg : Expr} (hg : Gl X "reversed") (hm : X.mg "reversed" = none) (h : EV X Δ true e (.lst ds)) (hs : Rf (starEach [e] X.env = (false, eval e X.env) :: starEach [] X.env)) : ITM X Δ tg (.Call (.Name "reversed" p) [e] [] pos) ds.reverse (fun _ x => x) := im_revL hg hm h hs.ok
end

/-! ### comprehensions over typed items -/
section
variable {X : Cx} {Δ Δ' : List Sl} {elt tg iter cnd : Expr} {ifs : List Expr} {scope : Scope} {pos pos' py : Pos} {n : Str} {N : List Str} {i : Nat} {C : Out → Prop} {rest : List Stmt}
/-- a turn of a comprehension: targets set, the test, the item -/
structure CT (X : Cx) (scope : Scope) (tg : Expr) (vs : List Nat) (N : List Str) (d : D) (Δ : List Sl) (elt : Expr) (r : D) : Prop where
  ex : ∃ is Δ1, (∀ j ∈ is, j ∈ vs) ∧ (∀ s H C cl fp, (BX X scope s H C cl fp).N = N → GV (BX X scope s H C cl fp) is tg d Δ Δ1) ∧ (∀ s H C cl fp, (BX X scope s H C cl fp).N = N → EV (BX X scope s H C cl fp) Δ1 true elt r)
structure CTf (X : Cx) (scope : Scope) (tg : Expr) (vs : List Nat) (N : List Str) (d : D) (Δ : List Sl) (cnd : Expr) (b : Bool) (elt : Expr) (r : D) : Prop where
  ex : ∃ is Δ1, (∀ j ∈ is, j ∈ vs) ∧ (∀ s H C cl fp, (BX X scope s H C cl fp).N = N → GV (BX X scope s H C cl fp) is tg d Δ Δ1) ∧ (∀ s H C cl fp, (BX X scope s H C cl fp).N = N → TV (BX X scope s H C cl fp) Δ1 cnd b) ∧ (b = true → ∀ s H C cl fp, (BX X scope s H C cl fp).N = N → EV (BX X scope s H C cl fp) Δ1 true elt r)
theorem lcm_run {α : Type} {xs : List α} {g : Nat → α → D} {c : α → Bool} {f : α → D} {tt : TT} {vs : List Nat} (hlen : xs.length ≤ sizeLine) (hi : ITM X Δ tg iter xs g)
    (hb : ∀ (i : Nat) x, xs[i]? = some x → ∃ is Δ1, (∀ j ∈ is, j ∈ vs) ∧ (∀ s H C cl fp, GV (BX X scope s H C cl fp) is tg (g i x) (wipD Δ vs) Δ1) ∧
      (∀ (G0 H0 F H : Hp) (σ : L2.St), Stt X.K G0 H0 F H σ Δ1 → ∀ Q : Bool → Hp → Prop, (∀ F' H', Ext F H F' H' → Q (c x) H') → tt σ H Q) ∧
      (c x = true → ∀ s H C cl fp, EV (BX X scope s H C cl fp) Δ1 true elt (f x)))
    {G0 H0 F H : Hp} {σ : L2.St} (S : Stt X.K G0 H0 F H σ Δ) {Q : VK} (q : ∀ p vs F' H', Ext F H F' H' → H p = none → H' p = some (.lst vs) → F' p = none → RL X.K F' ((xs.filter c).map f) vs → Q (.ref p) H') :
    tLc (uI X tg iter) (fun v σ H Q => ∀ s H' C cl fp, uG (BX X scope s H' C cl fp) tg v σ H Q) tt (fun σ H Q => ∀ s H' C cl fp, uE (BX X scope s H' C cl fp) elt σ H Q) vs σ H Q := by
  obtain ⟨ds, hit, hl, hg0⟩ := hi
  refine hit G0 H0 F H σ S _ fun J F1 H1 e1 W => fun D nD => ?_
  refine lc_it (g := fun v σ H Q => ∀ s H' C cl fp, uG (BX X scope s H' C cl fp) tg v σ H Q) (tt := tt) (te := fun σ H Q => ∀ s H' C cl fp, uE (BX X scope s H' C cl fp) elt σ H Q) (vs := vs) (σ := σ) (Qd := fun H' => Q (.ref D) H') (J := J) (n := ds.length) (G := Sub F1) (Y := J.yld) ⟨fun i H hi s => W.go i H hi s, fun H s => W.stop H s, fun i H x H' hi s y => y⟩
    (fun i H2 => ∃ F2 acc, Ext F1 H1 F2 H2 ∧ H2 D = some (.lst acc) ∧ F2 D = none ∧ RL X.K F2 (((xs.take i).filter c).map f) acc)
    ⟨F1, [], Ext.grow e1.fh (Sub.new nD), upd_same, e1.fh.none nD, by rw [List.take_zero]; exact RL.nil⟩ (fun i H2 _ ⟨F2, acc, x, _⟩ => x.f.tr x.fh)
    (fun i v H2 H3 hil ⟨F2, acc, x2, hD, fD, rl⟩ y => ?_) (fun H2 ⟨F2, acc, x2, hD, fD, rl⟩ => ?_)
  · have hd' : ds[i]? = some ds[i] := List.getElem?_eq_getElem hil
    obtain ⟨x, hx, ed⟩ := hg0 i _ hd'
    obtain ⟨F3, e3, r3⟩ := W.yld i _ H2 v H3 F2 hd' x2.f x2.fh y
    rw [ed] at r3
    obtain ⟨is, Δ1, his, hg, ht, he⟩ := hb i x hx
    have S3 := ((S.ext (e1.tr (x2.tr e3))).wip vs)
    have e13 := x2.tr e3
    have tk : ((xs.take (i + 1)).filter c).map f = ((xs.take i).filter c).map f ++ if c x then [f x] else [] := by
      rw [List.take_add_one, hx]
      show ((xs.take i ++ [x]).filter c).map f = _
      rw [List.filter_append, List.map_append]
      cases h : c x <;> simp [List.filter, h]
    have keepD : ∀ {F4 H4 : Hp}, Ext F2 H2 F4 H4 → F4 D = none := fun {F4 H4} x4 => x4.keepN fD (by rw [hD]; exact fun z => nomatch z)
    intro s HH C cl fp
    refine hg s HH C cl fp G0 H0 F3 H3 _ v S3 r3 _ fun σ2 o2 S4 => ⟨wipe_off o2 his, ?_⟩
    refine ht G0 H0 F3 H3 σ2 S4 _ fun F5 H5 e5 => ?_
    cases hcd : c x with
    | false =>
      rw [if_neg Bool.false_ne_true]
      rw [hcd, if_neg Bool.false_ne_true, List.append_nil] at tk
      refine ⟨F5, acc, e13.tr e5, (e3.tr e5).h.k _ _ hD (fun _ z => nomatch z), keepD (e3.tr e5), ?_⟩
      rw [tk]
      exact rl.mono (e3.tr e5).f
    | true =>
      rw [if_pos rfl]
      rw [hcd, if_pos rfl] at tk
      intro s HH C cl fp
      refine he hcd s HH C cl fp G0 H0 F5 H5 σ2 (S4.ext e5) _ fun yv F6 H6 e6 r6 => ?_
      have e26 := e3.tr (e5.tr e6)
      have e16 := x2.tr e26
      have r6 : R X.K F6 (f x) yv := r6
      refine ⟨acc, e26.h.k _ _ hD (fun _ z => nomatch z), ?_, F6, acc ++ [yv], e16.wr nD (keepD e26) (e26.h.k _ _ hD (fun _ z => nomatch z)), upd_same, keepD e26, ?_⟩
      · have h1 := rl.length
        rw [List.length_map] at h1
        have h2 := List.length_filter_le c (xs.take i)
        rw [List.length_take] at h2
        omega
      · rw [tk]
        exact (rl.mono e26.f).append (RL.cons r6 RL.nil)
  · rw [hl, List.take_length] at rl
    exact q D acc F2 H2 (e1.tr x2) (e1.h.none nD) hD fD rl
theorem eo_lcM {α : Type} {xs : List α} {g : Nat → α → D} (own : List (Str × Nat)) (f : α → D) (hN : X.N = N) (nd : N.Nodup) (ok : BlkOk X.N X.env.scope scope own) (hi : ITM X Δ tg iter xs g) (hlen : Sd (xs.length ≤ sizeLine))
    (hb : ∀ (i : Nat) x, xs[i]? = some x → CT X scope tg (own.map (·.2)) N (g i x) (wipD Δ (own.map (·.2))) elt (f x)) (hc : X.calm = true := by rfl) (hs : ∀ x, foldedSetIterable iter X.env x = pure x := by intro _; rfl) : EO X Δ (.ListComp elt [⟨tg, iter, [], 0⟩] scope pos) (xs.map f) := by
  intro G0 H0 F H σ S Q q
  refine eU (pe_lc hc (by rw [hN]; exact nd) pi_u ok (fun _ _ _ _ _ => pg_b) (fun _ _ _ _ _ => pts_nil) (fun _ _ _ _ _ => pe_b) hs) ?_
  refine lcm_run (c := fun _ => true) hlen.ok hi (fun i x hx => ?_) S (by rw [List.filter_eq_self.mpr (fun _ _ => rfl)]; exact q)
  obtain ⟨is, Δ1, h1, h2, h3⟩ := (hb i x hx).ex
  exact ⟨is, Δ1, h1, fun s H C cl fp => h2 s H C cl fp hN, fun G0 H0 F H σ S Q q => q F H (Ext.rf S.fh), fun _ s H C cl fp => h3 s H C cl fp hN⟩
theorem eo_lcM_a {α : Type} {xs : List α} {g : Nat → α → D} (own : List (Str × Nat)) (f : α → D) (hN : X.N = N) (nd : N.Nodup) (ok : BlkOk X.N X.env.scope scope own) (hi : ITM X Δ tg iter xs g) (hlen : Sd (xs.length ≤ sizeLine)) (hb : ∀ (i : Nat) x, xs[i]? = some x → CT X scope tg (own.map (·.2)) N (g i x) (wipD Δ (own.map (·.2))) elt (f x)) (hc : Rf (X.calm = true)) (hs : Ri (∀ x, foldedSetIterable iter X.env x = pure x)) : EO X Δ (.ListComp elt [⟨tg, iter, [], 0⟩] scope pos) (xs.map f) := eo_lcM own f hN nd ok hi hlen hb hc.ok hs.ok
theorem eo_lcfM {α : Type} {xs : List α} {g : Nat → α → D} (own : List (Str × Nat)) (c : α → Bool) (f : α → D) (hN : X.N = N) (nd : N.Nodup) (ok : BlkOk X.N X.env.scope scope own) (hi : ITM X Δ tg iter xs g) (hlen : Sd (xs.length ≤ sizeLine))
    (hb : ∀ (i : Nat) x, xs[i]? = some x → CTf X scope tg (own.map (·.2)) N (g i x) (wipD Δ (own.map (·.2))) cnd (c x) elt (f x)) (hc : X.calm = true := by rfl) (hs : ∀ x, foldedSetIterable iter X.env x = pure x := by intro _; rfl) : EO X Δ (.ListComp elt [⟨tg, iter, [cnd], 0⟩] scope pos) ((xs.filter c).map f) := by
  intro G0 H0 F H σ S Q q
  refine eU (pe_lc hc (by rw [hN]; exact nd) pi_u ok (fun _ _ _ _ _ => pg_b) (fun _ _ _ _ _ => pts_one pt_b) (fun _ _ _ _ _ => pe_b) hs) ?_
  refine lcm_run (c := c) hlen.ok hi (fun i x hx => ?_) S q
  obtain ⟨is, Δ1, h1, h2, h3, h4⟩ := (hb i x hx).ex
  exact ⟨is, Δ1, h1, fun s H C cl fp => h2 s H C cl fp hN, fun G0 H0 F H σ S Q q s H' C cl fp => h3 s H' C cl fp hN G0 H0 F H σ S Q q, fun hcx s H C cl fp => h4 hcx s H C cl fp hN⟩
theorem eo_lcfM_a {α : Type} {xs : List α} {g : Nat → α → D} (own : List (Str × Nat)) (c : α → Bool) (f : α → D) (hN : X.N = N) (nd : N.Nodup) (ok : BlkOk X.N X.env.scope scope own) (hi : ITM X Δ tg iter xs g) (hlen : Sd (xs.length ≤ sizeLine)) (hb : ∀ (i : Nat) x, xs[i]? = some x → CTf X scope tg (own.map (·.2)) N (g i x) (wipD Δ (own.map (·.2))) cnd (c x) elt (f x)) (hc : Rf (X.calm = true)) (hs : Ri (∀ x, foldedSetIterable iter X.env x = pure x)) : EO X Δ (.ListComp elt [⟨tg, iter, [cnd], 0⟩] scope pos) ((xs.filter c).map f) := eo_lcfM own c f hN nd ok hi hlen hb hc.ok hs.ok
/-- y = [..] on one row -/
theorem bk_lcM {α : Type} {y : Str} {xs : List α} {g : Nat → α → D} {rs : List D} (own : List (Str × Nat)) (f : α → D) (hN : X.N = N) (nd : N.Nodup) (hy : NAt N y i) (ok : BlkOk X.N X.env.scope scope own) (hi : ITM X Δ tg iter xs g) (hlen : Sd (xs.length ≤ sizeLine))
    (hb : ∀ (i : Nat) x, xs[i]? = some x → CT X scope tg (own.map (·.2)) N (g i x) (wipD Δ (own.map (·.2))) elt (f x)) (hr : xs.map f = rs) (hp : Put Δ i (.w none (T.l rs)) Δ') (k : Bk X rest Δ' C) (hyl : X.env.scope.names.lookup y = some .local := by rfl)
    (hsw : swapsWith (.ListComp elt [⟨tg, iter, [], 0⟩] scope pos) (some (.Name y py)) pos'.line X.env = pure true := by exact sw_true rfl rfl rfl (by decide +kernel)) (hc : X.calm = true := by rfl) (hs : ∀ x, foldedSetIterable iter X.env x = pure x := by intro _; rfl) : Bk X (.Assign [.Name y py] (.ListComp elt [⟨tg, iter, [], 0⟩] scope pos) pos' :: rest) Δ C := by
  subst hr
  refine bk_cons fun G0 H0 F H σ S D q => ?_
  refine sU1 (ps_setLc (i := i) hc (by rw [hN]; exact nd) (by rw [hN]; exact hy.get) hyl hsw pi_u ok (fun _ _ _ _ _ => pg_b) (fun _ _ _ _ _ => pts_nil) (fun _ _ _ _ _ => pe_b) hs) ?_
  refine lcm_run (c := fun _ => true) hlen.ok hi (fun i x hx => ?_) S (fun p vs F' H' e n h1 f1 r => q (.nx Δ') k F' H' _ (by rw [← hp.eq]; exact S.seto e n h1 f1 (by rw [List.filter_eq_self.mpr (fun _ _ => rfl)] at r; exact r)))
  obtain ⟨is, Δ1, h1, h2, h3⟩ := (hb i x hx).ex
  exact ⟨is, Δ1, h1, fun s H C cl fp => h2 s H C cl fp hN, fun G0 H0 F H σ S Q q => q F H (Ext.rf S.fh), fun _ s H C cl fp => h3 s H C cl fp hN⟩
theorem bk_lcM_a {α : Type} {y : Str} {xs : List α} {g : Nat → α → D} {rs : List D} (own : List (Str × Nat)) (f : α → D) (hN : X.N = N) (nd : N.Nodup) (hy : NAt N y i) (ok : BlkOk X.N X.env.scope scope own) (hi : ITM X Δ tg iter xs g) (hlen : Sd (xs.length ≤ sizeLine)) (hb : ∀ (i : Nat) x, xs[i]? = some x → CT X scope tg (own.map (·.2)) N (g i x) (wipD Δ (own.map (·.2))) elt (f x)) (hr : xs.map f = rs) (hp : Put Δ i (.w none (T.l rs)) Δ') (k : Bk X rest Δ' C) (hyl : Rf (X.env.scope.names.lookup y = some .local)) (hsw : Rw (swapsWith (.ListComp elt [⟨tg, iter, [], 0⟩] scope pos) (some (.Name y py)) pos'.line X.env = pure true)) (hc : Rf (X.calm = true)) (hs : Ri (∀ x, foldedSetIterable iter X.env x = pure x)) : Bk X (.Assign [.Name y py] (.ListComp elt [⟨tg, iter, [], 0⟩] scope pos) pos' :: rest) Δ C := bk_lcM own f hN nd hy ok hi hlen hb hr hp k hyl.ok hsw.ok hc.ok hs.ok
theorem bk_lcfM {α : Type} {y : Str} {xs : List α} {g : Nat → α → D} {rs : List D} (own : List (Str × Nat)) (c : α → Bool) (f : α → D) (hN : X.N = N) (nd : N.Nodup) (hy : NAt N y i) (ok : BlkOk X.N X.env.scope scope own) (hi : ITM X Δ tg iter xs g) (hlen : Sd (xs.length ≤ sizeLine))
    (hb : ∀ (i : Nat) x, xs[i]? = some x → CTf X scope tg (own.map (·.2)) N (g i x) (wipD Δ (own.map (·.2))) cnd (c x) elt (f x)) (hr : (xs.filter c).map f = rs) (hp : Put Δ i (.w none (T.l rs)) Δ') (k : Bk X rest Δ' C) (hyl : X.env.scope.names.lookup y = some .local := by rfl)
    (hsw : swapsWith (.ListComp elt [⟨tg, iter, [cnd], 0⟩] scope pos) (some (.Name y py)) pos'.line X.env = pure true := by exact sw_true rfl rfl rfl (by decide +kernel)) (hc : X.calm = true := by rfl) (hs : ∀ x, foldedSetIterable iter X.env x = pure x := by intro _; rfl) : Bk X (.Assign [.Name y py] (.ListComp elt [⟨tg, iter, [cnd], 0⟩] scope pos) pos' :: rest) Δ C := by
  subst hr
  refine bk_cons fun G0 H0 F H σ S D q => ?_
  refine sU1 (ps_setLc (i := i) hc (by rw [hN]; exact nd) (by rw [hN]; exact hy.get) hyl hsw pi_u ok (fun _ _ _ _ _ => pg_b) (fun _ _ _ _ _ => pts_one pt_b) (fun _ _ _ _ _ => pe_b) hs) ?_
  refine lcm_run (c := c) hlen.ok hi (fun i x hx => ?_) S (fun p vs F' H' e n h1 f1 r => q (.nx Δ') k F' H' _ (by rw [← hp.eq]; exact S.seto e n h1 f1 r))
  obtain ⟨is, Δ1, h1, h2, h3, h4⟩ := (hb i x hx).ex
  exact ⟨is, Δ1, h1, fun s H C cl fp => h2 s H C cl fp hN, fun G0 H0 F H σ S Q q s H' C cl fp => h3 s H' C cl fp hN G0 H0 F H σ S Q q, fun hcx s H C cl fp => h4 hcx s H C cl fp hN⟩
theorem bk_lcfM_a {α : Type} {y : Str} {xs : List α} {g : Nat → α → D} {rs : List D} (own : List (Str × Nat)) (c : α → Bool) (f : α → D) (hN : X.N = N) (nd : N.Nodup) (hy : NAt N y i) (ok : BlkOk X.N X.env.scope scope own) (hi : ITM X Δ tg iter xs g) (hlen : Sd (xs.length ≤ sizeLine)) (hb : ∀ (i : Nat) x, xs[i]? = some x → CTf X scope tg (own.map (·.2)) N (g i x) (wipD Δ (own.map (·.2))) cnd (c x) elt (f x)) (hr : (xs.filter c).map f = rs) (hp : Put Δ i (.w none (T.l rs)) Δ') (k : Bk X rest Δ' C) (hyl : Rf (X.env.scope.names.lookup y = some .local)) (hsw : Rw (swapsWith (.ListComp elt [⟨tg, iter, [cnd], 0⟩] scope pos) (some (.Name y py)) pos'.line X.env = pure true)) (hc : Rf (X.calm = true)) (hs : Ri (∀ x, foldedSetIterable iter X.env x = pure x)) : Bk X (.Assign [.Name y py] (.ListComp elt [⟨tg, iter, [cnd], 0⟩] scope pos) pos' :: rest) Δ C := bk_lcfM own c f hN nd hy ok hi hlen hb hr hp k hyl.ok hsw.ok hc.ok hs.ok
theorem ct_mk {vs : List Nat} {is : List Nat} {d r : D} {Δ1 : List Sl} (h1 : ∀ s H C cl fp, (BX X scope s H C cl fp).N = N → GV (BX X scope s H C cl fp) is tg d Δ Δ1) (h2 : ∀ s H C cl fp, (BX X scope s H C cl fp).N = N → EV (BX X scope s H C cl fp) Δ1 true elt r) (h3 : ∀ j ∈ is, j ∈ vs) : CT X scope tg vs N d Δ elt r := ⟨is, Δ1, h3, h1, h2⟩
theorem ctf_mk {vs : List Nat} {is : List Nat} {d r : D} {b : Bool} {Δ1 : List Sl} (h1 : ∀ s H C cl fp, (BX X scope s H C cl fp).N = N → GV (BX X scope s H C cl fp) is tg d Δ Δ1) (h2 : ∀ s H C cl fp, (BX X scope s H C cl fp).N = N → TV (BX X scope s H C cl fp) Δ1 cnd b) (h3 : b = true → ∀ s H C cl fp, (BX X scope s H C cl fp).N = N → EV (BX X scope s H C cl fp) Δ1 true elt r) (h4 : ∀ j ∈ is, j ∈ vs) : CTf X scope tg vs N d Δ cnd b elt r := ⟨is, Δ1, h4, h1, h2, h3⟩
def CTA {α : Type} (xs : List α) (P : Nat → α → Prop) : Prop := ∀ (i : Nat) x, xs[i]? = some x → P i x
inductive WipR : List Sl → List (Str × Nat) → List Sl → Prop
  | nil {Δ : List Sl} : WipR Δ [] Δ
  | cons {Δ Δ1 Δ2 : List Sl} {n : Str} {i : Nat} {own : List (Str × Nat)} : WipR Δ own Δ1 → Put Δ1 i .u Δ2 → WipR Δ ((n, i) :: own) Δ2
theorem WipR.eq : ∀ {Δ Δ' : List Sl} {own : List (Str × Nat)}, WipR Δ own Δ' → wipD Δ (own.map (·.2)) = Δ'
  | _, _, _, .nil => rfl
  | _, _, _, .cons h p => by rw [List.map_cons, wipD, h.eq, p.eq]
inductive OwnsOf : List Str → List Expr → List (Str × Nat) → Prop
  | nil {N : List Str} : OwnsOf N [] []
  | cons {N : List Str} {n : Str} {p : Pos} {i : Nat} {ts : List Expr} {own : List (Str × Nat)} : NAt N n i → OwnsOf N ts own → OwnsOf N (.Name n p :: ts) ((n, i) :: own)
inductive OwnOf : List Str → Expr → List (Str × Nat) → Prop
  | name {N : List Str} {n : Str} {p : Pos} {i : Nat} : NAt N n i → OwnOf N (.Name n p) [(n, i)]
  | tup {N : List Str} {ts : List Expr} {k : Nat} {p : Pos} {own : List (Str × Nat)} : OwnsOf N ts own → OwnOf N (.Tuple ts k p) own
theorem eo_lcI {α : Type} {xs : List α} {g : Nat → α → D} {own : List (Str × Nat)} {Δw : List Sl} {h : α → Int} (hN : X.N = N) (nd : N.Nodup) (ho : OwnOf N tg own) (ok : BlkOk X.N X.env.scope scope own) (hw : WipR Δ own Δw) (hi : ITM X Δ tg iter xs g) (hlen : Sd (xs.length ≤ sizeLine)) (hb : CTA xs fun i x => CT X scope tg (own.map (·.2)) N (g i x) Δw elt (D.int (h x))) (hc : X.calm = true := by rfl) (hs : ∀ x, foldedSetIterable iter X.env x = pure x := by intro _; rfl) : EO X Δ (.ListComp elt [⟨tg, iter, [], 0⟩] scope pos) ((xs.map h).map D.int) :=
  (eo_lcM own (fun x => D.int (h x)) hN nd ok hi hlen (by rw [hw.eq]; exact hb) hc hs).to (by rw [List.map_map]; rfl)
theorem eo_lcI_a {α : Type} {xs : List α} {g : Nat → α → D} {own : List (Str × Nat)} {Δw : List Sl} {h : α → Int} (hN : X.N = N) (nd : N.Nodup) (ho : OwnOf N tg own) (ok : BlkOk X.N X.env.scope scope own) (hw : WipR Δ own Δw) (hi : ITM X Δ tg iter xs g) (hlen : Sd (xs.length ≤ sizeLine)) (hb : CTA xs fun i x => CT X scope tg (own.map (·.2)) N (g i x) Δw elt (D.int (h x))) (hc : Rf (X.calm = true)) (hs : Ri (∀ x, foldedSetIterable iter X.env x = pure x)) : EO X Δ (.ListComp elt [⟨tg, iter, [], 0⟩] scope pos) ((xs.map h).map D.int) := eo_lcI hN nd ho ok hw hi hlen hb hc.ok hs.ok
theorem bk_lcI {α : Type} {xs : List α} {g : Nat → α → D} {y : Str} {own : List (Str × Nat)} {Δw : List Sl} {h : α → Int} (hN : X.N = N) (nd : N.Nodup) (hy : NAt N y i) (ho : OwnOf N tg own) (ok : BlkOk X.N X.env.scope scope own) (hw : WipR Δ own Δw) (hi : ITM X Δ tg iter xs g) (hlen : Sd (xs.length ≤ sizeLine)) (hb : CTA xs fun i x => CT X scope tg (own.map (·.2)) N (g i x) Δw elt (D.int (h x))) (hp : Put Δ i (.w none (T.l ((xs.map h).map D.int))) Δ') (k : Bk X rest Δ' C) (hyl : X.env.scope.names.lookup y = some .local := by rfl)
    (hsw : swapsWith (.ListComp elt [⟨tg, iter, [], 0⟩] scope pos) (some (.Name y py)) pos'.line X.env = pure true := by exact sw_true rfl rfl rfl (by decide +kernel)) (hc : X.calm = true := by rfl) (hs : ∀ x, foldedSetIterable iter X.env x = pure x := by intro _; rfl) : Bk X (.Assign [.Name y py] (.ListComp elt [⟨tg, iter, [], 0⟩] scope pos) pos' :: rest) Δ C :=
  bk_lcM own (fun x => D.int (h x)) hN nd hy ok hi hlen (by rw [hw.eq]; exact hb) (by rw [List.map_map]; rfl) hp k hyl hsw hc hs
theorem bk_lcI_a {α : Type} {xs : List α} {g : Nat → α → D} {y : Str} {own : List (Str × Nat)} {Δw : List Sl} {h : α → Int} (hN : X.N = N) (nd : N.Nodup) (hy : NAt N y i) (ho : OwnOf N tg own) (ok : BlkOk X.N X.env.scope scope own) (hw : WipR Δ own Δw) (hi : ITM X Δ tg iter xs g) (hlen : Sd (xs.length ≤ sizeLine)) (hb : CTA xs fun i x => CT X scope tg (own.map (·.2)) N (g i x) Δw elt (D.int (h x))) (hp : Put Δ i (.w none (T.l ((xs.map h).map D.int))) Δ') (k : Bk X rest Δ' C) (hyl : Rf (X.env.scope.names.lookup y = some .local)) (hsw : Rw (swapsWith (.ListComp elt [⟨tg, iter, [], 0⟩] scope pos) (some (.Name y py)) pos'.line X.env = pure true)) (hc : Rf (X.calm = true)) (hs : Ri (∀ x, foldedSetIterable iter X.env x = pure x)) : Bk X (.Assign [.Name y py] (.ListComp elt [⟨tg, iter, [], 0⟩] scope pos) pos' :: rest) Δ C := bk_lcI hN nd hy ho ok hw hi hlen hb hp k hyl.ok hsw.ok hc.ok hs.ok
theorem eo_lcfI {α : Type} {xs : List α} {g : Nat → α → D} {own : List (Str × Nat)} {Δw : List Sl} {c : α → Bool} {h : α → Int} (hN : X.N = N) (nd : N.Nodup) (ho : OwnOf N tg own) (ok : BlkOk X.N X.env.scope scope own) (hw : WipR Δ own Δw) (hi : ITM X Δ tg iter xs g) (hlen : Sd (xs.length ≤ sizeLine)) (hb : CTA xs fun i x => CTf X scope tg (own.map (·.2)) N (g i x) Δw cnd (c x) elt (D.int (h x))) (hc : X.calm = true := by rfl) (hs : ∀ x, foldedSetIterable iter X.env x = pure x := by intro _; rfl) : EO X Δ (.ListComp elt [⟨tg, iter, [cnd], 0⟩] scope pos) (((xs.filter c).map h).map D.int) :=
  (eo_lcfM own c (fun x => D.int (h x)) hN nd ok hi hlen (by rw [hw.eq]; exact hb) hc hs).to (by rw [List.map_map]; rfl)
theorem eo_lcfI_a {α : Type} {xs : List α} {g : Nat → α → D} {own : List (Str × Nat)} {Δw : List Sl} {c : α → Bool} {h : α → Int} (hN : X.N = N) (nd : N.Nodup) (ho : OwnOf N tg own) (ok : BlkOk X.N X.env.scope scope own) (hw : WipR Δ own Δw) (hi : ITM X Δ tg iter xs g) (hlen : Sd (xs.length ≤ sizeLine)) (hb : CTA xs fun i x => CTf X scope tg (own.map (·.2)) N (g i x) Δw cnd (c x) elt (D.int (h x))) (hc : Rf (X.calm = true)) (hs : Ri (∀ x, foldedSetIterable iter X.env x = pure x)) : EO X Δ (.ListComp elt [⟨tg, iter, [cnd], 0⟩] scope pos) (((xs.filter c).map h).map D.int) := eo_lcfI hN nd ho ok hw hi hlen hb hc.ok hs.ok
theorem bk_lcfI {α : Type} {xs : List α} {g : Nat → α → D} {y : Str} {own : List (Str × Nat)} {Δw : List Sl} {c : α → Bool} {h : α → Int} (hN : X.N = N) (nd : N.Nodup) (hy : NAt N y i) (ho : OwnOf N tg own) (ok : BlkOk X.N X.env.scope scope own) (hw : WipR Δ own Δw) (hi : ITM X Δ tg iter xs g) (hlen : Sd (xs.length ≤ sizeLine)) (hb : CTA xs fun i x => CTf X scope tg (own.map (·.2)) N (g i x) Δw cnd (c x) elt (D.int (h x))) (hp : Put Δ i (.w none (T.l (((xs.filter c).map h).map D.int))) Δ') (k : Bk X rest Δ' C) (hyl : X.env.scope.names.lookup y = some .local := by rfl)
    (hsw : swapsWith (.ListComp elt [⟨tg, iter, [cnd], 0⟩] scope pos) (some (.Name y py)) pos'.line X.env = pure true := by exact sw_true rfl rfl rfl (by decide +kernel)) (hc : X.calm = true := by rfl) (hs : ∀ x, foldedSetIterable iter X.env x = pure x := by intro _; rfl) : Bk X (.Assign [.Name y py] (.ListComp elt [⟨tg, iter, [cnd], 0⟩] scope pos) pos' :: rest) Δ C :=
  bk_lcfM own c (fun x => D.int (h x)) hN nd hy ok hi hlen (by rw [hw.eq]; exact hb) (by rw [List.map_map]; rfl) hp k hyl hsw hc hs
theorem bk_lcfI_a {α : Type} {xs : List α} {g : Nat → α → D} {y : Str} {own : List (Str × Nat)} {Δw : List Sl} {c : α → Bool} {h : α → Int} (hN : X.N = N) (nd : N.Nodup) (hy : NAt N y i) (ho : OwnOf N tg own) (ok : BlkOk X.N X.env.scope scope own) (hw : WipR Δ own Δw) (hi : ITM X Δ tg iter xs g) (hlen : Sd (xs.length ≤ sizeLine)) (hb : CTA xs fun i x => CTf X scope tg (own.map (·.2)) N (g i x) Δw cnd (c x) elt (D.int (h x))) (hp : Put Δ i (.w none (T.l (((xs.filter c).map h).map D.int))) Δ') (k : Bk X rest Δ' C) (hyl : Rf (X.env.scope.names.lookup y = some .local)) (hsw : Rw (swapsWith (.ListComp elt [⟨tg, iter, [cnd], 0⟩] scope pos) (some (.Name y py)) pos'.line X.env = pure true)) (hc : Rf (X.calm = true)) (hs : Ri (∀ x, foldedSetIterable iter X.env x = pure x)) : Bk X (.Assign [.Name y py] (.ListComp elt [⟨tg, iter, [cnd], 0⟩] scope pos) pos' :: rest) Δ C := bk_lcfI hN nd hy ho ok hw hi hlen hb hp k hyl.ok hsw.ok hc.ok hs.ok
theorem eo_lcS {α : Type} {xs : List α} {g : Nat → α → D} {own : List (Str × Nat)} {Δw : List Sl} {h : α → Str} (hN : X.N = N) (nd : N.Nodup) (ho : OwnOf N tg own) (ok : BlkOk X.N X.env.scope scope own) (hw : WipR Δ own Δw) (hi : ITM X Δ tg iter xs g) (hlen : Sd (xs.length ≤ sizeLine)) (hb : CTA xs fun i x => CT X scope tg (own.map (·.2)) N (g i x) Δw elt (D.str (h x))) (hc : X.calm = true := by rfl) (hs : ∀ x, foldedSetIterable iter X.env x = pure x := by intro _; rfl) : EO X Δ (.ListComp elt [⟨tg, iter, [], 0⟩] scope pos) ((xs.map h).map D.str) :=
  (eo_lcM own (fun x => D.str (h x)) hN nd ok hi hlen (by rw [hw.eq]; exact hb) hc hs).to (by rw [List.map_map]; rfl)
theorem eo_lcS_a {α : Type} {xs : List α} {g : Nat → α → D} {own : List (Str × Nat)} {Δw : List Sl} {h : α → Str} (hN : X.N = N) (nd : N.Nodup) (ho : OwnOf N tg own) (ok : BlkOk X.N X.env.scope scope own) (hw : WipR Δ own Δw) (hi : ITM X Δ tg iter xs g) (hlen : Sd (xs.length ≤ sizeLine)) (hb : CTA xs fun i x => CT X scope tg (own.map (·.2)) N (g i x) Δw elt (D.str (h x))) (hc : Rf (X.calm = true)) (hs : Ri (∀ x, foldedSetIterable iter X.env x = pure x)) : EO X Δ (.ListComp elt [⟨tg, iter, [], 0⟩] scope pos) ((xs.map h).map D.str) := eo_lcS hN nd ho ok hw hi hlen hb hc.ok hs.ok
theorem bk_lcS {α : Type} {xs : List α} {g : Nat → α → D} {y : Str} {own : List (Str × Nat)} {Δw : List Sl} {h : α → Str} (hN : X.N = N) (nd : N.Nodup) (hy : NAt N y i) (ho : OwnOf N tg own) (ok : BlkOk X.N X.env.scope scope own) (hw : WipR Δ own Δw) (hi : ITM X Δ tg iter xs g) (hlen : Sd (xs.length ≤ sizeLine)) (hb : CTA xs fun i x => CT X scope tg (own.map (·.2)) N (g i x) Δw elt (D.str (h x))) (hp : Put Δ i (.w none (T.l ((xs.map h).map D.str))) Δ') (k : Bk X rest Δ' C) (hyl : X.env.scope.names.lookup y = some .local := by rfl)
    (hsw : swapsWith (.ListComp elt [⟨tg, iter, [], 0⟩] scope pos) (some (.Name y py)) pos'.line X.env = pure true := by exact sw_true rfl rfl rfl (by decide +kernel)) (hc : X.calm = true := by rfl) (hs : ∀ x, foldedSetIterable iter X.env x = pure x := by intro _; rfl) : Bk X (.Assign [.Name y py] (.ListComp elt [⟨tg, iter, [], 0⟩] scope pos) pos' :: rest) Δ C :=
  bk_lcM own (fun x => D.str (h x)) hN nd hy ok hi hlen (by rw [hw.eq]; exact hb) (by rw [List.map_map]; rfl) hp k hyl hsw hc hs
theorem bk_lcS_a {α : Type} {xs : List α} {g : Nat → α → D} {y : Str} {own : List (Str × Nat)} {Δw : List Sl} {h : α → Str} (hN : X.N = N) (nd : N.Nodup) (hy : NAt N y i) (ho : OwnOf N tg own) (ok : BlkOk X.N X.env.scope scope own) (hw : WipR Δ own Δw) (hi : ITM X Δ tg iter xs g) (hlen : Sd (xs.length ≤ sizeLine)) (hb : CTA xs fun i x => CT X scope tg (own.map (·.2)) N (g i x) Δw elt (D.str (h x))) (hp : Put Δ i (.w none (T.l ((xs.map h).map D.str))) Δ') (k : Bk X rest Δ' C) (hyl : Rf (X.env.scope.names.lookup y = some .local)) (hsw : Rw (swapsWith (.ListComp elt [⟨tg, iter, [], 0⟩] scope pos) (some (.Name y py)) pos'.line X.env = pure true)) (hc : Rf (X.calm = true)) (hs : Ri (∀ x, foldedSetIterable iter X.env x = pure x)) : Bk X (.Assign [.Name y py] (.ListComp elt [⟨tg, iter, [], 0⟩] scope pos) pos' :: rest) Δ C := bk_lcS hN nd hy ho ok hw hi hlen hb hp k hyl.ok hsw.ok hc.ok hs.ok
theorem eo_lcfS {α : Type} {xs : List α} {g : Nat → α → D} {own : List (Str × Nat)} {Δw : List Sl} {c : α → Bool} {h : α → Str} (hN : X.N = N) (nd : N.Nodup) (ho : OwnOf N tg own) (ok : BlkOk X.N X.env.scope scope own) (hw : WipR Δ own Δw) (hi : ITM X Δ tg iter xs g) (hlen : Sd (xs.length ≤ sizeLine)) (hb : CTA xs fun i x => CTf X scope tg (own.map (·.2)) N (g i x) Δw cnd (c x) elt (D.str (h x))) (hc : X.calm = true := by rfl) (hs : ∀ x, foldedSetIterable iter X.env x = pure x := by intro _; rfl) : EO X Δ (.ListComp elt [⟨tg, iter, [cnd], 0⟩] scope pos) (((xs.filter c).map h).map D.str) :=
  (eo_lcfM own c (fun x => D.str (h x)) hN nd ok hi hlen (by rw [hw.eq]; exact hb) hc hs).to (by rw [List.map_map]; rfl)
theorem eo_lcfS_a {α : Type} {xs : List α} {g : Nat → α → D} {own : List (Str × Nat)} {Δw : List Sl} {c : α → Bool} {h : α → Str} (hN : X.N = N) (nd : N.Nodup) (ho : OwnOf N tg own) (ok : BlkOk X.N X.env.scope scope own) (hw : WipR Δ own Δw) (hi : ITM X Δ tg iter xs g) (hlen : Sd (xs.length ≤ sizeLine)) (hb : CTA xs fun i x => CTf X scope tg (own.map (·.2)) N (g i x) Δw cnd (c x) elt (D.str (h x))) (hc : Rf (X.calm = true)) (hs : Ri (∀ x, foldedSetIterable iter X.env x = pure x)) : EO X Δ (.ListComp elt [⟨tg, iter, [cnd], 0⟩] scope pos) (((xs.filter c).map h).map D.str) := eo_lcfS hN nd ho ok hw hi hlen hb hc.ok hs.ok
theorem bk_lcfS {α : Type} {xs : List α} {g : Nat → α → D} {y : Str} {own : List (Str × Nat)} {Δw : List Sl} {c : α → Bool} {h : α → Str} (hN : X.N = N) (nd : N.Nodup) (hy : NAt N y i) (ho : OwnOf N tg own) (ok : BlkOk X.N X.env.scope scope own) (hw : WipR Δ own Δw) (hi : ITM X Δ tg iter xs g) (hlen : Sd (xs.length ≤ sizeLine)) (hb : CTA xs fun i x => CTf X scope tg (own.map (·.2)) N (g i x) Δw cnd (c x) elt (D.str (h x))) (hp : Put Δ i (.w none (T.l (((xs.filter c).map h).map D.str))) Δ') (k : Bk X rest Δ' C) (hyl : X.env.scope.names.lookup y = some .local := by rfl)
    (hsw : swapsWith (.ListComp elt [⟨tg, iter, [cnd], 0⟩] scope pos) (some (.Name y py)) pos'.line X.env = pure true := by exact sw_true rfl rfl rfl (by decide +kernel)) (hc : X.calm = true := by rfl) (hs : ∀ x, foldedSetIterable iter X.env x = pure x := by intro _; rfl) : Bk X (.Assign [.Name y py] (.ListComp elt [⟨tg, iter, [cnd], 0⟩] scope pos) pos' :: rest) Δ C :=
  bk_lcfM own c (fun x => D.str (h x)) hN nd hy ok hi hlen (by rw [hw.eq]; exact hb) (by rw [List.map_map]; rfl) hp k hyl hsw hc hs
theorem bk_lcfS_a {α : Type} {xs : List α} {g : Nat → α → D} {y : Str} {own : List (Str × Nat)} {Δw : List Sl} {c : α → Bool} {h : α → Str} (hN : X.N = N) (nd : N.Nodup) (hy : NAt N y i) (ho : OwnOf N tg own) (ok : BlkOk X.N X.env.scope scope own) (hw : WipR Δ own Δw) (hi : ITM X Δ tg iter xs g) (hlen : Sd (xs.length ≤ sizeLine)) (hb : CTA xs fun i x => CTf X scope tg (own.map (·.2)) N (g i x) Δw cnd (c x) elt (D.str (h x))) (hp : Put Δ i (.w none (T.l (((xs.filter c).map h).map D.str))) Δ') (k : Bk X rest Δ' C) (hyl : Rf (X.env.scope.names.lookup y = some .local)) (hsw : Rw (swapsWith (.ListComp elt [⟨tg, iter, [cnd], 0⟩] scope pos) (some (.Name y py)) pos'.line X.env = pure true)) (hc : Rf (X.calm = true)) (hs : Ri (∀ x, foldedSetIterable iter X.env x = pure x)) : Bk X (.Assign [.Name y py] (.ListComp elt [⟨tg, iter, [cnd], 0⟩] scope pos) pos' :: rest) Δ C := bk_lcfS hN nd hy ho ok hw hi hlen hb hp k hyl.ok hsw.ok hc.ok hs.ok
theorem eo_lcR {α : Type} {xs : List α} {g : Nat → α → D} {own : List (Str × Nat)} {Δw : List Sl} {h : α → List Int} (hN : X.N = N) (nd : N.Nodup) (ho : OwnOf N tg own) (ok : BlkOk X.N X.env.scope scope own) (hw : WipR Δ own Δw) (hi : ITM X Δ tg iter xs g) (hlen : Sd (xs.length ≤ sizeLine)) (hb : CTA xs fun i x => CT X scope tg (own.map (·.2)) N (g i x) Δw elt (D.lst ((h x).map D.int))) (hc : X.calm = true := by rfl) (hs : ∀ x, foldedSetIterable iter X.env x = pure x := by intro _; rfl) : EO X Δ (.ListComp elt [⟨tg, iter, [], 0⟩] scope pos) ((xs.map h).map fun r => D.lst (r.map D.int)) :=
  (eo_lcM own (fun x => D.lst ((h x).map D.int)) hN nd ok hi hlen (by rw [hw.eq]; exact hb) hc hs).to (by rw [List.map_map]; rfl)
theorem eo_lcR_a {α : Type} {xs : List α} {g : Nat → α → D} {own : List (Str × Nat)} {Δw : List Sl} {h : α → List Int} (hN : X.N = N) (nd : N.Nodup) (ho : OwnOf N tg own) (ok : BlkOk X.N X.env.scope scope own) (hw : WipR Δ own Δw) (hi : ITM X Δ tg iter xs g) (hlen : Sd (xs.length ≤ sizeLine)) (hb : CTA xs fun i x => CT X scope tg (own.map (·.2)) N (g i x) Δw elt (D.lst ((h x).map D.int))) (hc : Rf (X.calm = true)) (hs : Ri (∀ x, foldedSetIterable iter X.env x = pure x)) : EO X Δ (.ListComp elt [⟨tg, iter, [], 0⟩] scope pos) ((xs.map h).map fun r => D.lst (r.map D.int)) := eo_lcR hN nd ho ok hw hi hlen hb hc.ok hs.ok
theorem bk_lcR {α : Type} {xs : List α} {g : Nat → α → D} {y : Str} {own : List (Str × Nat)} {Δw : List Sl} {h : α → List Int} (hN : X.N = N) (nd : N.Nodup) (hy : NAt N y i) (ho : OwnOf N tg own) (ok : BlkOk X.N X.env.scope scope own) (hw : WipR Δ own Δw) (hi : ITM X Δ tg iter xs g) (hlen : Sd (xs.length ≤ sizeLine)) (hb : CTA xs fun i x => CT X scope tg (own.map (·.2)) N (g i x) Δw elt (D.lst ((h x).map D.int))) (hp : Put Δ i (.w none (T.l ((xs.map h).map fun r => D.lst (r.map D.int)))) Δ') (k : Bk X rest Δ' C) (hyl : X.env.scope.names.lookup y = some .local := by rfl)
    (hsw : swapsWith (.ListComp elt [⟨tg, iter, [], 0⟩] scope pos) (some (.Name y py)) pos'.line X.env = pure true := by exact sw_true rfl rfl rfl (by decide +kernel)) (hc : X.calm = true := by rfl) (hs : ∀ x, foldedSetIterable iter X.env x = pure x := by intro _; rfl) : Bk X (.Assign [.Name y py] (.ListComp elt [⟨tg, iter, [], 0⟩] scope pos) pos' :: rest) Δ C :=
  bk_lcM own (fun x => D.lst ((h x).map D.int)) hN nd hy ok hi hlen (by rw [hw.eq]; exact hb) (by rw [List.map_map]; rfl) hp k hyl hsw hc hs
theorem bk_lcR_a {α : Type} {xs : List α} {g : Nat → α → D} {y : Str} {own : List (Str × Nat)} {Δw : List Sl} {h : α → List Int} (hN : X.N = N) (nd : N.Nodup) (hy : NAt N y i) (ho : OwnOf N tg own) (ok : BlkOk X.N X.env.scope scope own) (hw : WipR Δ own Δw) (hi : ITM X Δ tg iter xs g) (hlen : Sd (xs.length ≤ sizeLine)) (hb : CTA xs fun i x => CT X scope tg (own.map (·.2)) N (g i x) Δw elt (D.lst ((h x).map D.int))) (hp : Put Δ i (.w none (T.l ((xs.map h).map fun r => D.lst (r.map D.int)))) Δ') (k : Bk X rest Δ' C) (hyl : Rf (X.env.scope.names.lookup y = some .local)) (hsw : Rw (swapsWith (.ListComp elt [⟨tg, iter, [], 0⟩] scope pos) (some (.Name y py)) pos'.line X.env = pure true)) (hc : Rf (X.calm = true)) (hs : Ri (∀ x, foldedSetIterable iter X.env x = pure x)) : Bk X (.Assign [.Name y py] (.ListComp elt [⟨tg, iter, [], 0⟩] scope pos) pos' :: rest) Δ C := bk_lcR hN nd hy ho ok hw hi hlen hb hp k hyl.ok hsw.ok hc.ok hs.ok
theorem eo_lcfR {α : Type} {xs : List α} {g : Nat → α → D} {own : List (Str × Nat)} {Δw : List Sl} {c : α → Bool} {h : α → List Int} (hN : X.N = N) (nd : N.Nodup) (ho : OwnOf N tg own) (ok : BlkOk X.N X.env.scope scope own) (hw : WipR Δ own Δw) (hi : ITM X Δ tg iter xs g) (hlen : Sd (xs.length ≤ sizeLine)) (hb : CTA xs fun i x => CTf X scope tg (own.map (·.2)) N (g i x) Δw cnd (c x) elt (D.lst ((h x).map D.int))) (hc : X.calm = true := by rfl) (hs : ∀ x, foldedSetIterable iter X.env x = pure x := by intro _; rfl) : EO X Δ (.ListComp elt [⟨tg, iter, [cnd], 0⟩] scope pos) (((xs.filter c).map h).map fun r => D.lst (r.map D.int)) :=
  (eo_lcfM own c (fun x => D.lst ((h x).map D.int)) hN nd ok hi hlen (by rw [hw.eq]; exact hb) hc hs).to (by rw [List.map_map]; rfl)
theorem eo_lcfR_a {α : Type} {xs : List α} {g : Nat → α → D} {own : List (Str × Nat)} {Δw : List Sl} {c : α → Bool} {h : α → List Int} (hN : X.N = N) (nd : N.Nodup) (ho : OwnOf N tg own) (ok : BlkOk X.N X.env.scope scope own) (hw : WipR Δ own Δw) (hi : ITM X Δ tg iter xs g) (hlen : Sd (xs.length ≤ sizeLine)) (hb : CTA xs fun i x => CTf X scope tg (own.map (·.2)) N (g i x) Δw cnd (c x) elt (D.lst ((h x).map D.int))) (hc : Rf (X.calm = true)) (hs : Ri (∀ x, foldedSetIterable iter X.env x = pure x)) : EO X Δ (.ListComp elt [⟨tg, iter, [cnd], 0⟩] scope pos) (((xs.filter c).map h).map fun r => D.lst (r.map D.int)) := eo_lcfR hN nd ho ok hw hi hlen hb hc.ok hs.ok
theorem bk_lcfR {α : Type} {xs : List α} {g : Nat → α → D} {y : Str} {own : List (Str × Nat)} {Δw : List Sl} {c : α → Bool} {h : α → List Int} (hN : X.N = N) (nd : N.Nodup) (hy : NAt N y i) (ho : OwnOf N tg own) (ok : BlkOk X.N X.env.scope scope own) (hw : WipR Δ own Δw) (hi : ITM X Δ tg iter xs g) (hlen : Sd (xs.length ≤ sizeLine)) (hb : CTA xs fun i x => CTf X scope tg (own.map (·.2)) N (g i x) Δw cnd (c x) elt (D.lst ((h x).map D.int))) (hp : Put Δ i (.w none (T.l (((xs.filter c).map h).map fun r => D.lst (r.map D.int)))) Δ') (k : Bk X rest Δ' C) (hyl : X.env.scope.names.lookup y = some .local := by rfl)
    (hsw : swapsWith (.ListComp elt [⟨tg, iter, [cnd], 0⟩] scope pos) (some (.Name y py)) pos'.line X.env = pure true := by exact sw_true rfl rfl rfl (by decide +kernel)) (hc : X.calm = true := by rfl) (hs : ∀ x, foldedSetIterable iter X.env x = pure x := by intro _; rfl) : Bk X (.Assign [.Name y py] (.ListComp elt [⟨tg, iter, [cnd], 0⟩] scope pos) pos' :: rest) Δ C :=
  bk_lcfM own c (fun x => D.lst ((h x).map D.int)) hN nd hy ok hi hlen (by rw [hw.eq]; exact hb) (by rw [List.map_map]; rfl) hp k hyl hsw hc hs
theorem bk_lcfR_a {α : Type} {xs : List α} {g : Nat → α → D} {y : Str} {own : List (Str × Nat)} {Δw : List Sl} {c : α → Bool} {h : α → List Int} (hN : X.N = N) (nd : N.Nodup) (hy : NAt N y i) (ho : OwnOf N tg own) (ok : BlkOk X.N X.env.scope scope own) (hw : WipR Δ own Δw) (hi : ITM X Δ tg iter xs g) (hlen : Sd (xs.length ≤ sizeLine)) (hb : CTA xs fun i x => CTf X scope tg (own.map (·.2)) N (g i x) Δw cnd (c x) elt (D.lst ((h x).map D.int))) (hp : Put Δ i (.w none (T.l (((xs.filter c).map h).map fun r => D.lst (r.map D.int)))) Δ') (k : Bk X rest Δ' C) (hyl : Rf (X.env.scope.names.lookup y = some .local)) (hsw : Rw (swapsWith (.ListComp elt [⟨tg, iter, [cnd], 0⟩] scope pos) (some (.Name y py)) pos'.line X.env = pure true)) (hc : Rf (X.calm = true)) (hs : Ri (∀ x, foldedSetIterable iter X.env x = pure x)) : Bk X (.Assign [.Name y py] (.ListComp elt [⟨tg, iter, [cnd], 0⟩] scope pos) pos' :: rest) Δ C := bk_lcfR hN nd hy ho ok hw hi hlen hb hp k hyl.ok hsw.ok hc.ok hs.ok
theorem eo_lcG {α : Type} {xs : List α} {g : Nat → α → D} {own : List (Str × Nat)} {Δw : List Sl} {h : α → D} (hN : X.N = N) (nd : N.Nodup) (ho : OwnOf N tg own) (ok : BlkOk X.N X.env.scope scope own) (hw : WipR Δ own Δw) (hi : ITM X Δ tg iter xs g) (hlen : Sd (xs.length ≤ sizeLine)) (hb : CTA xs fun i x => CT X scope tg (own.map (·.2)) N (g i x) Δw elt (h x)) (hc : X.calm = true := by rfl) (hs : ∀ x, foldedSetIterable iter X.env x = pure x := by intro _; rfl) : EO X Δ (.ListComp elt [⟨tg, iter, [], 0⟩] scope pos) (xs.map h) :=
  (eo_lcM own (fun x => h x) hN nd ok hi hlen (by rw [hw.eq]; exact hb) hc hs).to (rfl)
theorem eo_lcG_a {α : Type} {xs : List α} {g : Nat → α → D} {own : List (Str × Nat)} {Δw : List Sl} {h : α → D} (hN : X.N = N) (nd : N.Nodup) (ho : OwnOf N tg own) (ok : BlkOk X.N X.env.scope scope own) (hw : WipR Δ own Δw) (hi : ITM X Δ tg iter xs g) (hlen : Sd (xs.length ≤ sizeLine)) (hb : CTA xs fun i x => CT X scope tg (own.map (·.2)) N (g i x) Δw elt (h x)) (hc : Rf (X.calm = true)) (hs : Ri (∀ x, foldedSetIterable iter X.env x = pure x)) : EO X Δ (.ListComp elt [⟨tg, iter, [], 0⟩] scope pos) (xs.map h) := eo_lcG hN nd ho ok hw hi hlen hb hc.ok hs.ok
theorem bk_lcG {α : Type} {xs : List α} {g : Nat → α → D} {y : Str} {own : List (Str × Nat)} {Δw : List Sl} {h : α → D} (hN : X.N = N) (nd : N.Nodup) (hy : NAt N y i) (ho : OwnOf N tg own) (ok : BlkOk X.N X.env.scope scope own) (hw : WipR Δ own Δw) (hi : ITM X Δ tg iter xs g) (hlen : Sd (xs.length ≤ sizeLine)) (hb : CTA xs fun i x => CT X scope tg (own.map (·.2)) N (g i x) Δw elt (h x)) (hp : Put Δ i (.w none (T.l (xs.map h))) Δ') (k : Bk X rest Δ' C) (hyl : X.env.scope.names.lookup y = some .local := by rfl)
    (hsw : swapsWith (.ListComp elt [⟨tg, iter, [], 0⟩] scope pos) (some (.Name y py)) pos'.line X.env = pure true := by exact sw_true rfl rfl rfl (by decide +kernel)) (hc : X.calm = true := by rfl) (hs : ∀ x, foldedSetIterable iter X.env x = pure x := by intro _; rfl) : Bk X (.Assign [.Name y py] (.ListComp elt [⟨tg, iter, [], 0⟩] scope pos) pos' :: rest) Δ C :=
  bk_lcM own (fun x => h x) hN nd hy ok hi hlen (by rw [hw.eq]; exact hb) (rfl) hp k hyl hsw hc hs
theorem bk_lcG_a {α : Type} {xs : List α} {g : Nat → α → D} {y : Str} {own : List (Str × Nat)} {Δw : List Sl} {h : α → D} (hN : X.N = N) (nd : N.Nodup) (hy : NAt N y i) (ho : OwnOf N tg own) (ok : BlkOk X.N X.env.scope scope own) (hw : WipR Δ own Δw) (hi : ITM X Δ tg iter xs g) (hlen : Sd (xs.length ≤ sizeLine)) (hb : CTA xs fun i x => CT X scope tg (own.map (·.2)) N (g i x) Δw elt (h x)) (hp : Put Δ i (.w none (T.l (xs.map h))) Δ') (k : Bk X rest Δ' C) (hyl : Rf (X.env.scope.names.lookup y = some .local)) (hsw : Rw (swapsWith (.ListComp elt [⟨tg, iter, [], 0⟩] scope pos) (some (.Name y py)) pos'.line X.env = pure true)) (hc : Rf (X.calm = true)) (hs : Ri (∀ x, foldedSetIterable iter X.env x = pure x)) : Bk X (.Assign [.Name y py] (.ListComp elt [⟨tg, iter, [], 0⟩] scope pos) pos' :: rest) Δ C := bk_lcG hN nd hy ho ok hw hi hlen hb hp k hyl.ok hsw.ok hc.ok hs.ok
theorem eo_lcfG {α : Type} {xs : List α} {g : Nat → α → D} {own : List (Str × Nat)} {Δw : List Sl} {c : α → Bool} {h : α → D} (hN : X.N = N) (nd : N.Nodup) (ho : OwnOf N tg own) (ok : BlkOk X.N X.env.scope scope own) (hw : WipR Δ own Δw) (hi : ITM X Δ tg iter xs g) (hlen : Sd (xs.length ≤ sizeLine)) (hb : CTA xs fun i x => CTf X scope tg (own.map (·.2)) N (g i x) Δw cnd (c x) elt (h x)) (hc : X.calm = true := by rfl) (hs : ∀ x, foldedSetIterable iter X.env x = pure x := by intro _; rfl) : EO X Δ (.ListComp elt [⟨tg, iter, [cnd], 0⟩] scope pos) ((xs.filter c).map h) :=
  (eo_lcfM own c (fun x => h x) hN nd ok hi hlen (by rw [hw.eq]; exact hb) hc hs).to (rfl)
theorem eo_lcfG_a {α : Type} {xs : List α} {g : Nat → α → D} {own : List (Str × Nat)} {Δw : List Sl} {c : α → Bool} {h : α → D} (hN : X.N = N) (nd : N.Nodup) (ho : OwnOf N tg own) (ok : BlkOk X.N X.env.scope scope own) (hw : WipR Δ own Δw) (hi : ITM X Δ tg iter xs g) (hlen : Sd (xs.length ≤ sizeLine)) (hb : CTA xs fun i x => CTf X scope tg (own.map (·.2)) N (g i x) Δw cnd (c x) elt (h x)) (hc : Rf (X.calm = true)) (hs : Ri (∀ x, foldedSetIterable iter X.env x = pure x)) : EO X Δ (.ListComp elt [⟨tg, iter, [cnd], 0⟩] scope pos) ((xs.filter c).map h) := eo_lcfG hN nd ho ok hw hi hlen hb hc.ok hs.ok
theorem bk_lcfG {α : Type} {xs : List α} {g : Nat → α → D} {y : Str} {own : List (Str × Nat)} {Δw : List Sl} {c : α → Bool} {h : α → D} (hN : X.N = N) (nd : N.Nodup) (hy : NAt N y i) (ho : OwnOf N tg own) (ok : BlkOk X.N X.env.scope scope own) (hw : WipR Δ own Δw) (hi : ITM X Δ tg iter xs g) (hlen : Sd (xs.length ≤ sizeLine)) (hb : CTA xs fun i x => CTf X scope tg (own.map (·.2)) N (g i x) Δw cnd (c x) elt (h x)) (hp : Put Δ i (.w none (T.l ((xs.filter c).map h))) Δ') (k : Bk X rest Δ' C) (hyl : X.env.scope.names.lookup y = some .local := by rfl)
    (hsw : swapsWith (.ListComp elt [⟨tg, iter, [cnd], 0⟩] scope pos) (some (.Name y py)) pos'.line X.env = pure true := by exact sw_true rfl rfl rfl (by decide +kernel)) (hc : X.calm = true := by rfl) (hs : ∀ x, foldedSetIterable iter X.env x = pure x := by intro _; rfl) : Bk X (.Assign [.Name y py] (.ListComp elt [⟨tg, iter, [cnd], 0⟩] scope pos) pos' :: rest) Δ C :=
  bk_lcfM own c (fun x => h x) hN nd hy ok hi hlen (by rw [hw.eq]; exact hb) (rfl) hp k hyl hsw hc hs
theorem bk_lcfG_a {α : Type} {xs : List α} {g : Nat → α → D} {y : Str} {own : List (Str × Nat)} {Δw : List Sl} {c : α → Bool} {h : α → D} (hN : X.N = N) (nd : N.Nodup) (hy : NAt N y i) (ho : OwnOf N tg own) (ok : BlkOk X.N X.env.scope scope own) (hw : WipR Δ own Δw) (hi : ITM X Δ tg iter xs g) (hlen : Sd (xs.length ≤ sizeLine)) (hb : CTA xs fun i x => CTf X scope tg (own.map (·.2)) N (g i x) Δw cnd (c x) elt (h x)) (hp : Put Δ i (.w none (T.l ((xs.filter c).map h))) Δ') (k : Bk X rest Δ' C) (hyl : Rf (X.env.scope.names.lookup y = some .local)) (hsw : Rw (swapsWith (.ListComp elt [⟨tg, iter, [cnd], 0⟩] scope pos) (some (.Name y py)) pos'.line X.env = pure true)) (hc : Rf (X.calm = true)) (hs : Ri (∀ x, foldedSetIterable iter X.env x = pure x)) : Bk X (.Assign [.Name y py] (.ListComp elt [⟨tg, iter, [cnd], 0⟩] scope pos) pos' :: rest) Δ C := bk_lcfG hN nd hy ho ok hw hi hlen hb hp k hyl.ok hsw.ok hc.ok hs.ok
end
end Z

namespace Z
open PySem PySem.Spec PyProof.Rows L2
variable [τ : Tb]
section
variable {X : Cx} {Δ Δ' : List Sl} {m : Bool} {e a b c o : Expr} {es : List Expr} {d x y : D} {ds : List D} {pos p p2 apos : Pos} {n : Str} {N : List Str} {i k : Nat} {s : Sl} {t u : Bool} {C : Out → Prop} {rest : List Stmt} {R' : D → Prop} {RL' : List D → Prop}
theorem bk_put (h : Put Δ i s Δ') (k : Bk X rest Δ' C) : Bk X rest (Δ.set i s) C := by rw [h.eq]; exact k
theorem bk_setE {p1 : Pos} (hN : X.N = N) (nd : N.Nodup) (h : NAt N n i) (he : EVE X Δ true e R') (k : ∀ d, R' d → Bk X rest (Δ.set i (.v d)) C) (hl : Loc X.env.scope n := by first | exact .inl rfl | exact .inr rfl) (hs : swapsWith e (some (.Name n p1)) pos.line X.env = pure false := by rfl) (hf : X.fn n = true ∨ X.env.scope.names.lookup n = some .local := by first | exact .inl rfl | exact .inr rfl) : Bk X (.Assign [.Name n p1] e pos :: rest) Δ C :=
  bk_cons (sm_setE (i := i) (by rw [hN]; exact nd) (by rw [hN]; exact h.get) hl he (fun d hd => k d hd) hs hf)
theorem bk_setE_a {p1 : Pos} (hN : X.N = N) (nd : N.Nodup) (h : NAt N n i) (he : EVE X Δ true e R') (k : ∀ d, R' d → Bk X rest (Δ.set i (.v d)) C) (hl : Rl (Loc X.env.scope n)) (hs : Rf (swapsWith e (some (.Name n p1)) pos.line X.env = pure false)) (hf : Rl (X.fn n = true ∨ X.env.scope.names.lookup n = some .local)) : Bk X (.Assign [.Name n p1] e pos :: rest) Δ C := bk_setE hN nd h he k hl.ok hs.ok hf.ok
theorem bk_setoE {p1 : Pos} (hN : X.N = N) (nd : N.Nodup) (h : NAt N n i) (he : EOE X Δ e RL') (k : ∀ ds, RL' ds → Bk X rest (Δ.set i (.w none (T.l ds))) C) (hl : Loc X.env.scope n := by first | exact .inl rfl | exact .inr rfl) (hs : swapsWith e (some (.Name n p1)) pos.line X.env = pure false := by rfl) (hf : X.fn n = true ∨ X.env.scope.names.lookup n = some .local := by first | exact .inl rfl | exact .inr rfl) : Bk X (.Assign [.Name n p1] e pos :: rest) Δ C :=
  bk_cons (sm_setoE (i := i) (by rw [hN]; exact nd) (by rw [hN]; exact h.get) hl he (fun d hd => k d hd) hs hf)
theorem bk_setoE_a {p1 : Pos} (hN : X.N = N) (nd : N.Nodup) (h : NAt N n i) (he : EOE X Δ e RL') (k : ∀ ds, RL' ds → Bk X rest (Δ.set i (.w none (T.l ds))) C) (hl : Rl (Loc X.env.scope n)) (hs : Rf (swapsWith e (some (.Name n p1)) pos.line X.env = pure false)) (hf : Rl (X.fn n = true ∨ X.env.scope.names.lookup n = some .local)) : Bk X (.Assign [.Name n p1] e pos :: rest) Δ C := bk_setoE hN nd h he k hl.ok hs.ok hf.ok
theorem bk_asgE {tg : Expr} (he : EVE X Δ true e R') (k : ∀ d, R' d → ∃ is Δ', GV X is tg d Δ Δ' ∧ Bk X rest Δ' C) (hs : swapsWithSole [tg] e pos.line X.env = pure false := by rfl) (hw : swappedStores [tg] e X.env = pure none := by rfl)
    (h1 : (assignEach [tg] X.env).map (·.2) = [assign tg X.env] := by rfl) : Bk X (.Assign [tg] e pos :: rest) Δ C := by
  refine bk_cons fun G0 H0 F H σ S D q => ?_
  refine sU1 (ps_asg pe_u pg_u hs hw h1) (he G0 H0 F H σ S _ fun d v F' H' hd e r => ?_)
  obtain ⟨is, Δ', g, b⟩ := k d hd
  exact g G0 H0 F' H' σ v (S.ext e) r _ fun σ' _ S' => q (.nx Δ') b F' H' σ' S'
theorem bk_asgE_a {tg : Expr} (he : EVE X Δ true e R') (k : ∀ d, R' d → ∃ is Δ', GV X is tg d Δ Δ' ∧ Bk X rest Δ' C) (hs : Rf (swapsWithSole [tg] e pos.line X.env = pure false)) (hw : Rf (swappedStores [tg] e X.env = pure none)) (h1 : Rf ((assignEach [tg] X.env).map (·.2) = [assign tg X.env])) : Bk X (.Assign [tg] e pos :: rest) Δ C := bk_asgE he k hs.ok hw.ok h1.ok
theorem bk_retE (he : EVE X Δ true e R') (k : ∀ d, R' d → C (.rt (.v d) Δ)) : Bk X (.Return (some e) pos :: rest) Δ C := bk_cons (sm_retE he k)
theorem bk_retoE (he : EOE X Δ e RL') (k : ∀ ds, RL' ds → C (.rt (.o ds) Δ)) : Bk X (.Return (some e) pos :: rest) Δ C := bk_cons fun G0 H0 F H σ S D q =>
  sU1 (ps_ret pe_u) (he G0 H0 F H σ S _ fun ds p vs F' H' hd e n h1 f1 r => q (.rt (.o ds) Δ) (k ds hd) F' H' σ p vs (S.ext e) h1 f1 (S.h0.none n) r)
theorem wh_mk {tt : Bool} {A B : Prop} (h : TV X Δ c tt) (h1 : tt = true → A) (h2 : tt = false → B) : ∃ b, TV X Δ c b ∧ (b = true → A) ∧ (b = false → B) := ⟨tt, h, h1, h2⟩
/-- a test that is only told in part -/
def TVE (X : Cx) (Δ : List Sl) (e : Expr) (R' : Bool → Prop) : Prop :=
  ∀ (G0 H0 F H : Hp) (σ : L2.St), Stt X.K G0 H0 F H σ Δ → ∀ Q : Bool → Hp → Prop, (∀ b F' H', R' b → Ext F H F' H' → Q b H') → uT X e σ H Q
end
end Z

namespace Z
open PySem PySem.Spec PyProof.Rows L2
variable [τ : Tb]

/-! ### a lambda with one parameter -/
structure LamP (sc scope : Scope) (y : Str) : Prop where
  kind : scope.kind = .function
  co : scope.isCoroutine = false
  gen : scope.isGenerator = false
  par : scope.names.lookup y = some .local
  nc : ∀ z ∈ scope.names, z.2 ≠ .cell
  one : ∀ z ∈ scope.names, z.2 = .local → z.1 = y
  free : ∀ z ∈ scope.names, z.2 = .free → sc.names.lookup z.1 = some .cell ∨ sc.names.lookup z.1 = some .free
def lamPB (sc scope : Scope) (y : Str) : Bool :=
  decide (scope.kind = .function) && !scope.isCoroutine && !scope.isGenerator && decide (scope.names.lookup y = some .local) && scope.names.all fun z => !decide (z.2 = .cell) && (!decide (z.2 = .local) || decide (z.1 = y)) && (!decide (z.2 = .free) || decide (sc.names.lookup z.1 = some .cell) || decide (sc.names.lookup z.1 = some .free))
theorem lamP_by {sc scope : Scope} {y : Str} (h : lamPB sc scope y = true) : LamP sc scope y := by
  unfold lamPB at h
  simp only [Bool.and_eq_true, Bool.or_eq_true, Bool.not_eq_true', decide_eq_true_eq, decide_eq_false_iff_not, List.all_eq_true] at h
  obtain ⟨⟨⟨⟨h1, h2⟩, h3⟩, h4⟩, h5⟩ := h
  refine ⟨h1, h2, h3, h4, fun z hz => (h5 z hz).1.1, fun z hz e => ?_, fun z hz e => ?_⟩
  · rcases (h5 z hz).1.2 with q | q
    · exact absurd e q
    · exact q
  · rcases (h5 z hz).2 with (q | q) | q
    · exact absurd e q
    · exact .inl q
    · exact .inr q
theorem LamP.has {X : Cx} {scope : Scope} {y : Str} (L : LamP X.env.scope scope y) (ok : X.Ok) : ∀ z ∈ scope.names, z.2 = .free → ∃ c, X.env.cells.lookup z.1 = some c := fun z hz e => by
  rcases L.free z hz e with k | k
  · exact ok.has _ (.inl k)
  · exact ok.has _ (.inr k)
/-- the lambda's own context: the maker's names, then the parameter -/
def lamCxP (X : Cx) (A : Around) (outer : List Env) (s : Shared) (H : Hp) (scope : Scope) (f c' : Addr) (y : Str) : Cx :=
  { LamX.lamCx X A outer s H E0 scope f c' with N := X.N ++ [y], xe := fun _ _ => False }
abbrev lamO (X : Cx) (params : Arguments) (body : Expr) (scope : Scope) (pm : Value) (c' : Addr) (ctv : Value) : Obj :=
  PySem.W.kla_obj "<lambda>" (X.env.qual ++ "<lambda>") params body scope (cloFrom X.env.cells scope.names []) pm c' ctv
section
variable {X : Cx} {pins : List (Addr × Obj)} {σ : L2.St} {H : Hp} {s : Shared} {scope : Scope} {y : Str} {f c' : Addr}
theorem lam_startP {h₁ : Heap} {tk : Nat} {v : V} {u : Value} (I : Inv X pins σ H s) (L : LamP X.env.scope scope y) (hd : X.A.handled = none) (rv : RelV v u) (ny : y ∉ X.N)
    (hns : h₁.Ns s.heap.objs.size fun z => ([(y, u)] : List (Str × Value)).reverse.lookup z) (kp : ∀ b o, s.heap.get? b = some o → h₁.get? b = some o) :
    Inv (lamCxP X X.A.in1 X.stack s H scope f c' y) [] (σ ++ [some v]) H { s with heap := h₁, toks := tk } := by
  have e0 := I.env0
  have hfree := L.has I.ok
  have cm : ∀ {z c}, (cloFrom X.env.cells scope.names []).lookup z = some c → X.env.cells.lookup z = some c := fun {z c} e => by
    rcases cloFrom_mem (PySem.mem_of_lookup e) with hm | ⟨h1, h2⟩
    · cases hm
    · obtain ⟨c1, hc⟩ := hfree _ h1 rfl
      have hc : X.env.cells.lookup z = some c1 := hc
      rw [hc] at h2 ⊢
      rw [h2] <;> rfl
  have look : ∀ {z}, scope.names.lookup z = some .free → ∃ c, (cloFrom X.env.cells scope.names []).lookup z = some c := fun {z} hl =>
    mem_lookup (cloFrom_has (cells := X.env.cells) (acc := []) (show (z, NameKind.free) ∈ scope.names from PySem.mem_of_lookup hl))
  have cellK : ∀ {c : Addr} {v : Option Value}, s.heap.IsCell c v → h₁.IsCell c v := fun {c v} ⟨o, ho, hd⟩ => ⟨o, kp _ _ ho, hd⟩
  refine ⟨⟨e0.mod, L.kind, rfl, rfl, Nat.le_refl _, fun a b c e1 e2 => I.ok.inj a b c (cm e1) (cm e2), fun z hz => ?_, fun z c q _ => ?_, fun _ => hd, Around.frames_deeper e0.frames, .inr ⟨rfl, rfl⟩, fun b z => (nomatch z), e0.bs, e0.bsz, fun b _ _ z => (nomatch z),
      fun b z => (nomatch z), e0.funs, e0.frf⟩,
    rfl, e0.bare, Un.kept kp, ⟨_, hns, fun i z w e1 e2 e3 => ?_⟩, fun z c e => ?_, e0.hok.fresh (Nat.le_refl _), fun z c e => I.freeC z c (cm e), fun q hq => (nomatch hq), e0.hok.kept kp, ?_⟩
  · have hz : scope.names.lookup z = some .cell ∨ scope.names.lookup z = some .free := hz
    rcases hz with hz | hz
    · exact absurd rfl (L.nc _ (PySem.mem_of_lookup hz))
    · exact look hz
  · have q : false = true := q
    cases q
  · have e1 : (X.N ++ [y])[i]? = some z := e1
    have e3 : Vis scope z := e3
    by_cases hi : i < X.N.length
    · rw [List.getElem?_append_left hi] at e1
      rw [List.getElem?_append_left (by rw [I.len]; exact hi)] at e2
      have zy : z ≠ y := fun q => ny (q ▸ List.mem_of_getElem? e1)
      rcases e3 with k | k | k
      · exact absurd (L.one _ (PySem.mem_of_lookup k) rfl) zy
      · exact absurd rfl (L.nc _ (PySem.mem_of_lookup k))
      · obtain ⟨m, hn, hl⟩ := I.loc
        obtain ⟨w', r, q⟩ := hl i z w e1 e2 ((L.free _ (PySem.mem_of_lookup k) rfl).elim (fun k => .inr (.inl k)) fun k => .inr (.inr k))
        obtain ⟨c2, h2⟩ := look k
        refine ⟨w', r, .inr ⟨.inr k, c2, h2, ?_⟩⟩
        have c1 := cm h2
        rcases q with ⟨k', _⟩ | ⟨_, c3, e', q⟩
        · have k' : X.env.scope.names.lookup z = some .local := k'
          rcases L.free _ (PySem.mem_of_lookup k) rfl with k2 | k2 <;> rw [show X.env.scope.names.lookup z = _ from k2] at k' <;> cases k'
        · rw [c1] at e'
          cases e'
          exact cellK q
    · have hl : i = X.N.length := by
        have := (List.getElem?_eq_some_iff.mp e1).1
        rw [List.length_append, List.length_singleton] at this
        omega
      subst hl
      rw [List.getElem?_append_right (Nat.le_refl _), Nat.sub_self] at e1
      rw [List.getElem?_append_right (by rw [I.len]; exact Nat.le_refl _), I.len, Nat.sub_self] at e2
      cases e1; cases e2
      refine ⟨u, rv, .inl ⟨L.par, ?_⟩⟩
      show List.lookup y [(y, u)] = some u
      rw [List.lookup_cons, beq_self_eq_true]
  · obtain ⟨w', q⟩ := I.cell z c (cm e)
    exact ⟨w', cellK q⟩
  · show (σ ++ [some v]).length = (X.N ++ [y]).length
    rw [List.length_append, List.length_append, I.len]
    rfl
/-- the lambda is called with one value -/
theorem lam_callP {k : Nat} {params : Arguments} {body : Expr} {pm ctv : Value} {v : V} {u : Value} {Q : VK} {E : Value → Shared → Prop} (I : Inv X pins σ H s) (L : LamP X.env.scope scope y) (hr : Room (k + 2) X.A) (ny : y ∉ X.N)
    (hf : s.heap.get? f = some (lamO X params body scope pm c' ctv)) (hc : H c' = some (LamX.CodeO c' (X.env.qual ++ "<lambda>"))) (rv : RelV v u)
    (hbind : bindArgs (PySem.W.kla_fn "<lambda>" (X.env.qual ++ "<lambda>") params body scope (cloFrom X.env.cells scope.names []) pm (.ref c') ctv) ⟨[u], []⟩ = pure [(y, u)])
    (h : Room k (lamCxP X X.A.in1 X.stack s H scope f c' y).A → uE (lamCxP X X.A.in1 X.stack s H scope f c' y) body (σ ++ [some v]) H Q) :
    wpAny (model X.prog X.w) X.A.in1 (call (.ref f) [u]) (fun u' s' => CE X.stack X.prog X.w H s Q u' s') E s := by
  obtain ⟨⟨oc, vs, t, hoc, hdc, hvc⟩, _, _⟩ := I.hok c' _ hc
  have rc : codeAny (model X.prog X.w) X.A.in1 (.call (.ref f) ⟨[u], []⟩) (fun r s' => match r with | .ok (.ret u') => CE X.stack X.prog X.w H s Q u' s' | _ => False) s := by
    refine PySem.W.kla_callFunE hr.in1.depth hf rfl L.co L.gen rfl ⟨c', oc, vs, t, rfl, hoc, hdc, hvc⟩ ?_
    rw [hbind]
    refine wpAny_pure (wpAny_newFunctionEnv L.nc (fun z hz => by rw [List.mem_singleton.mp hz]; exact L.par) (fun h₁ hns hsb => ⟨I.nolimit.fresh _ hsb, ?_⟩) L.kind)
    have kp : ∀ b o, s.heap.get? b = some o → h₁.get? b = some o := fun b o e => hsb.extBut b o (Nat.ne_of_lt (Heap.lt_size e)) (Heap.get?_push_of_some _ e)
    have J := lam_startP (f := f) (c' := c') (tk := s.toks + ([(y, u)] : List (Str × Value)).length) I L hr.hd rv ny hns kp
    refine PySem.W.kla_codeExpr (wpAny_mono ((h (hr.in1.deeper _)).run [] _ J) (fun v s' hq => ?_) fun e s' hq => (hq : False).elim)
    obtain ⟨w', H', J', rv, q⟩ := hq
    exact ⟨w', H', J'.os, J'.bare, J'.base, J'.hok, rv, q⟩
  refine wpAny_call (codeAny_mono rc fun r s' hq => ?_)
  cases r with
  | error e => exact hq.elim
  | ok fl =>
    cases fl with
    | ret u => exact hq
    | next => exact hq.elim
    | brk => exact hq.elim
    | cont => exact hq.elim
/-- the lambda is made: its code object is found in the maker's table, or it is new and comes to it -/
theorem lam_mk {c P : Addr} {params : Arguments} {body : Expr} {pos : Pos} {E Q : Value → Shared → Prop} (I : Inv X pins σ H s) (TB : LamX.TabB X.base X.mg c P) (hcode : X.env.code = .ref c)
    (hm : (P, X.env.qual ++ "<lambda>") ∈ τ.T) (hu : ∀ p ∈ τ.T, p.1 = P → p.2 = X.env.qual ++ "<lambda>") (hT : LamX.Tabs τ.T H) (hdef : defaultsOf params X.env = ([], [])) (hfree : ∀ y ∈ scope.names, y.2 = .free → ∃ c, X.env.cells.lookup y.1 = some c)
    (h : ∀ (f c' : Addr) (pm ctv : Value) (H1 : Hp) (s' : Shared), Inv X pins σ H1 s' → Grow H H1 → s'.heap.get? f = some (lamO X params body scope pm c' ctv) → H1 f = none → f ∉ frs X.stack → H1 c' = some (LamX.CodeO c' (X.env.qual ++ "<lambda>")) → (∀ b o, s.heap.get? b = some o → H b = none → s'.heap.get? b = some o) → Q (.ref f) s') :
    wpAny (model X.prog X.w) X.A (eval (.Lambda params body scope pos) X.env) Q E s := by
  obtain ⟨ps, hP, ht, ha⟩ := hT _ hm
  have hP' : s.heap.get? P = some { cls := .none, data := .fields ps } := I.hok P _ hP
  have off : ∀ g, s.heap.objs.size ≤ g → g ∉ frs X.stack := fun g hg z => by
    rcases List.mem_cons.mp (I.stkSub _ z) with e | e
    · exact absurd I.lt (by rw [← e]; exact Nat.not_lt.mpr hg)
    · exact I.nofs hg e
  refine PySem.W.kla_eval hdef ?_
  cases hc : codeAmong pos ps.toList with
  | some cv =>
    obtain ⟨c', rfl, hco⟩ := ha pos cv hc
    refine PySem.W.kla_makeFunctionHit (mg := X.mg) (c := c) (P := P) (ps := ps) (closure_ok hfree) I.ok.glob (I.mod.glob.keeps I.bk) hcode (TB.code.keeps I.bk) hP' ht hc (TB.bm.keeps I.bk) fun ctv h' tk hx hsz => ?_
    exact h h'.objs.size c' _ ctv H _ (I.kept (t' := tk) fun b o e => Heap.get?_push_of_some _ (hx b o e)) (Grow.rf H) (Heap.get?_push_size _ rfl) (I.hok.fresh hsz) (off _ hsz) hco fun b o e _ => Heap.get?_push_of_some _ (hx b o e)
  | none =>
    refine PySem.W.kla_makeFunction (mg := X.mg) (c := c) (P := P) (ps := ps) (closure_ok hfree) I.ok.glob (I.mod.glob.keeps I.bk) hcode (TB.code.keeps I.bk) hP' ht hc TB.gP (TB.bm.keeps I.bk) fun c' ctv h' tk hx hge hlt hrec htb => ?_
    obtain ⟨c2, oc, vs, t, e2, hoc, hd, hv⟩ := hrec
    cases e2
    have hsz : s.heap.objs.size ≤ h'.objs.size := Nat.le_trans hge (Nat.le_of_lt hlt)
    have nC : H c' = none := I.hok.fresh hge
    have hPc : P ≠ c' := ne_of_none hP nC
    have at_ : ∀ b, b ≠ P → b ≠ c' → upd (upd H P (.tbl (ps ++ #[rawInt pos.line, rawInt pos.col, .ref c']))) c' (LamX.CodeO c' (X.env.qual ++ "<lambda>")) b = H b := fun b h1 h2 => by rw [upd_ne h2, upd_ne h1]
    have kk : ∀ b o, H b = some o → ntb o → upd (upd H P (.tbl (ps ++ #[rawInt pos.line, rawInt pos.col, .ref c']))) c' (LamX.CodeO c' (X.env.qual ++ "<lambda>")) b = some o := fun b o e n => by
      rw [at_ b (fun z => n ps (Option.some.inj (e.symm.trans (by rw [z]; exact hP)))) (ne_of_none e nC)]; exact e
    refine h h'.objs.size c' _ ctv _ _ (LamX.inv_table (t' := tk) (more := #[rawInt pos.line, rawInt pos.col, .ref c']) (h' := h'.push (lamO X params body scope ((X.mg "__name__").getD .none) c' ctv)) I hP
      (fun b o hb e => Heap.get?_push_of_some _ (hx b o hb e)) (Heap.get?_push_of_some _ htb) hge ⟨oc, vs, t, Heap.get?_push_of_some _ hoc, hd, hv⟩) ⟨kk, fun b e => ?_, fun _ p hp => ?_⟩ (Heap.get?_push_size _ rfl) ?_ (off _ hsz) upd_same fun b o e n => Heap.get?_push_of_some _ (hx b o (fun z => by rw [z, hP] at n; cases n) e)
    · by_cases h1 : b = c'
      · rw [h1]; exact nC
      · by_cases h2 : b = P
        · rw [h2, upd_ne hPc, upd_same] at e; cases e
        · rwa [at_ b h2 h1] at e
    · have eL : (ps ++ #[rawInt pos.line, rawInt pos.col, .ref c']).toList = ps.toList ++ [rawInt pos.line, rawInt pos.col, .ref c'] := by simp
      by_cases hb : p.1 = P
      · rw [hu p hp hb, hb]
        refine ⟨_, by rw [upd_ne hPc, upd_same], by rw [eL]; exact PySem.TriplesOk_snoc _ _ _ _ ht, fun p' cv hcv => ?_⟩
        rw [eL] at hcv
        rcases LamX.among_app _ ht hcv with z | z
        · obtain ⟨c0, e1, e2⟩ := ha p' cv z
          exact ⟨c0, e1, kk _ _ e2 LamX.codeO_ne⟩
        · exact ⟨c', z, upd_same⟩
      · obtain ⟨ps', a1, a2, a3⟩ := hT p hp
        refine ⟨ps', by rw [at_ _ hb (ne_of_none a1 nC)]; exact a1, a2, fun p' cv hcv => ?_⟩
        obtain ⟨c0, e1, e2⟩ := a3 p' cv hcv
        exact ⟨c0, e1, kk _ _ e2 LamX.codeO_ne⟩
    · rw [at_ _ (Nat.ne_of_gt (Nat.lt_of_lt_of_le (Heap.lt_size hP') hsz)) (Nat.ne_of_gt hlt)]
      exact I.hok.fresh hsz
end
/-- the table of the def's code object -/
structure TabK (base : Heap) (mg : Str → Option Value) (code : Value) (q : Str) : Prop where
  ex : ∃ c P, code = .ref c ∧ LamX.TabB base mg c P ∧ (P, q) ∈ τ.T ∧ ∀ p ∈ τ.T, p.1 = P → p.2 = q
/-- a list of ints, walked -/
theorem walk_ints {prog : Program} {w : World} {A : Around} (hh : A.handled = none) (I l : Addr) (hne : l ≠ I) (ns : List Int) :
    WalksS prog w A I [I, l] [I] (fun a b => b = a) ns.length (fun i v => ∃ t, v = .int (ns.getD i 0) t) (fun i s => s.heap.IsListIter I l i ∧ ∃ its : List Value, Vals (ns.map V.int) its ∧ s.heap.IsList l its.toArray) where
  sub := fun b hb => by simp at hb; simp [hb]
  grefl := fun _ => rfl
  gtrans := fun _ _ _ h1 h2 => h2.trans h1
  frame := fun i s h' tk ⟨a, its, r, b⟩ _ hk => ⟨a.at fun o e => hk I (by simp) o e, its, r, b.at fun o e => hk l (by simp) o e⟩
  item := fun i s Q E hi ⟨a, its, r, b⟩ hQ => by
    have hl := r.length
    rw [List.length_map] at hl
    refine (Walks.list hh I l hne its.toArray).toS.item i s Q E (by rw [List.size_toArray]; omega) ⟨a, b⟩ fun v s' hP st mv => hQ v s' ?_ ⟨st.1, its, r, st.2⟩ mv
    have hx : (ns.map V.int)[i]? = some (V.int ns[i]) := by rw [List.getElem?_map, List.getElem?_eq_getElem hi]; rfl
    obtain ⟨u, e1, e2⟩ := r.get hx
    have hP : its.toArray[i]? = some v := hP
    rw [List.getElem?_toArray, e1] at hP
    cases hP
    obtain ⟨t, e⟩ := e2
    exact ⟨t, by rw [e, List.getD_eq_getElem?_getD, List.getElem?_eq_getElem hi]; rfl⟩
  done := fun s Q E ⟨a, its, r, b⟩ hQ => by
    have hl := r.length
    rw [List.length_map] at hl
    exact (Walks.list hh I l hne its.toArray).toS.done s Q E (by rw [List.size_toArray, ← hl]; exact ⟨a, b⟩) hQ
  self := fun i s Q E ⟨a, its, r, b⟩ hQ => (Walks.list hh I l hne its.toArray).toS.self i s Q E ⟨a, b⟩ hQ
/-- two untracked records of ours have turned -/
theorem inv_moved {X : Cx} {pins : List (Addr × Obj)} {σ : L2.St} {H : Hp} {s s' : Shared} {ch : List Addr} (I : Inv X pins σ H s) (mv : Moved ch (fun a b => b = a) s s') (hn : ∀ a ∈ ch, H a = none)
    (hch : ∀ b ∈ ch, (b ∈ X.ex ∨ X.s_0.heap.objs.size ≤ b) ∧ b ≠ X.env.locals ∧ (∀ x c, X.env.cells.lookup x = some c → c ≠ b) ∧ ∀ p ∈ X.pn ++ pins, p.1 ≠ b) : Inv X pins σ H s' := by
  rw [mv.eq_with]
  have nit : ∀ b u, H b = some u → b ∉ ch := fun b u e z => by rw [hn b z] at e; cases e
  refine I.step (g' := s.gens) (d' := s.drawn) (ch := ch) hch (fun b o _ _ hc e _ => mv.heap b o hc e) (fun b o _ _ hc e _ => ⟨o.slots, mv.heap b o hc e⟩) (fun _ _ _ _ n => n)
    (fun b o hc e => ⟨o, mv.heap b o hc e⟩) (fun _ _ e => e) (fun _ _ _ e => e) (fun b ps e => ⟨#[], by rw [e]; simp⟩) (fun m hm => ?_) (fun b u e => ?_) I.bare
  · obtain ⟨o, es, ep, ho, r⟩ := hm
    exact ⟨o, es, ep, mv.heap _ o (fun z => (hch _ z).2.1 rfl) ho, r⟩
  · refine (I.hok b u e).stay (fun c v hc q => mv.heap c v ?_ q) (fun _ q => q) fun _ _ q => q
    rcases hc with z | z
    · rw [z]; exact nit b u e
    · exact nit c _ z
theorem Stt.snoc {K : PySem.W.Frag} {G0 H0 F H : Hp} {σ : L2.St} {Δ : List Sl} {d : D} {v : V} (S : Stt K G0 H0 F H σ Δ) (r : R K F d v) : Stt K G0 H0 F H (σ ++ [some v]) (Δ ++ [.v d]) := by
  obtain ⟨fp, Q⟩ := S.sl
  refine ⟨S.g, S.fh, S.h0, S.fr, S.nt, S.tb, by rw [List.length_append, List.length_append, S.len]; rfl, fun i => if i < Δ.length then fp i else [], fun i s x e1 e2 => ?_, fun i a ha => ?_, fun i j a ne h1 h2 => ?_⟩
  · by_cases hi : i < Δ.length
    · rw [List.getElem?_append_left hi] at e1
      rw [List.getElem?_append_left (by rw [S.len]; exact hi)] at e2
      show SlOk K F H s x (if i < Δ.length then fp i else [])
      rw [if_pos hi]
      exact Q.ok i s x e1 e2
    · have hl : i = Δ.length := by
        have := (List.getElem?_eq_some_iff.mp e1).1
        rw [List.length_append, List.length_singleton] at this
        omega
      subst hl
      rw [List.getElem?_append_right (Nat.le_refl _), Nat.sub_self] at e1
      rw [List.getElem?_append_right (by rw [S.len]; exact Nat.le_refl _), S.len, Nat.sub_self] at e2
      cases e1; cases e2
      exact ⟨if_neg (Nat.lt_irrefl _), v, rfl, r⟩
  · have ha : a ∈ (if i < Δ.length then fp i else []) := ha
    split at ha
    · exact Q.nw i a ha
    · cases ha
  · have h1 : a ∈ (if i < Δ.length then fp i else []) := h1
    have h2 : a ∈ (if j < Δ.length then fp j else []) := h2
    split at h1
    · split at h2
      · exact Q.dj i j a ne h1 h2
      · cases h2
    · cases h1
/-- the first of those with the greatest key -/
def maxKey (g : Int → Int) (ns : List Int) : Int := ns.getD (argBest (fun i j => decide (g (ns.getD i 0) > g (ns.getD j 0))) (ns.length - 1)) 0
theorem maxKey_mem {g : Int → Int} {ns : List Int} (h : 0 < ns.length) : maxKey g ns ∈ ns := by
  obtain ⟨h1, _⟩ := argBest_gt (fun i => g (ns.getD i 0)) (ns.length - 1)
  exact PySem.getD_mem (show argBest (fun i j => decide (g (ns.getD i 0) > g (ns.getD j 0))) (ns.length - 1) < ns.length from Nat.lt_of_le_of_lt h1 (by omega))
theorem maxKey_ge {g : Int → Int} {ns : List Int} : ∀ x ∈ ns, g x ≤ g (maxKey g ns) := fun x hx => by
  obtain ⟨_, h2⟩ := argBest_gt (fun i => g (ns.getD i 0)) (ns.length - 1)
  obtain ⟨i, hi, e⟩ := List.mem_iff_getElem.mp hx
  have := h2 i (by omega)
  simp only [List.getD_eq_getElem?_getD, List.getElem?_eq_getElem hi, e, Option.getD_some] at this
  exact this
section
variable {X : Cx} {Δ : List Sl} {m : Bool} {e : Expr} {pos p kp lpos : Pos} {k : Nat} {ns : List Int} {g : Int → Int} {params : Arguments} {body : Expr} {scope : Scope} {y : Str}
/-- max(e, key=lambda y: body), e's items ints, the keys too -/
theorem ev_maxK (hg : Gl X "max") (hm : X.mg "max" = none) (tk : TabK X.base X.mg X.env.code (X.env.qual ++ "<lambda>")) (hr : Room (k + 2) X.A) (he : EV X Δ false e (.lst (ns.map D.int))) (hn : Sd (0 < ns.length)) (L : LamP X.env.scope scope y) (ny : y ∉ X.N)
    (hbody : ∀ x ∈ ns, ∀ s H f c', Room k (lamCxP X X.A.in1 X.stack s H scope f c' y).A → EV (lamCxP X X.A.in1 X.stack s H scope f c' y) (Δ ++ [.v (.int x)]) false body (.int (g x)))
    (hs : starEach [e] X.env = (false, eval e X.env) :: starEach [] X.env := by rfl) (hdef : defaultsOf params X.env = ([], []) := by rfl) (hbind : ∀ (q : Str) (cl : List (Str × Addr)) (pm cv ctv u : Value), bindArgs (PySem.W.kla_fn "<lambda>" q params body scope cl pm cv ctv) ⟨[u], []⟩ = pure [(y, u)] := by intros; rfl) :
    EV X Δ m (.Call (.Name "max" p) [e] [⟨some "key", .Lambda params body scope lpos, kp⟩] pos) (.int (maxKey g ns)) := by
  refine EV.up (fun G0 H0 F H σ S Q q => ?_) rfl
  obtain ⟨c, P, hcode, TB, hmT, hu⟩ := tk.ex
  refine ⟨fun pins s I => wpAny_Call_Name_kw (ld_blt I hg hm boot_max (callWith_kw ?_ (by rw [hs]; rfl) (by rw [hs]; rfl)))⟩
  rw [hs]
  refine Calls.spliced_cons (thn ((he G0 H0 F H σ S (fun v H1 => ∃ F1, Ext F H F1 H1 ∧ R X.K H1 (.lst (ns.map D.int)) v) fun v F1 H1 x r => ⟨F1, x, r⟩).run pins s I)
    fun u s1 ⟨v, H1, I1, r1, F1, x1, r⟩ => Calls.spliced_nil (kws_cons (lam_mk I1 TB hcode hmT hu (S.ext x1).tb hdef (L.has I1.ok) fun f c' pm ctv H2 s2 I2 gr hf hfn hff hco _ => kws_nil ?_)))
  obtain ⟨l, vs, rfl, hl, rl⟩ := r_lst.mp r
  obtain rfl : u = .ref l := r1
  have S1 := S.ext x1
  have x2 : Ext F1 H1 F1 H2 := Ext.growG x1.fh S1.nt gr
  have S2 := S1.ext x2
  have ev := rl.ints
  subst ev
  have hl2 : H2 l = some (.lst (ns.map V.int)) := gr.k _ _ hl fun _ z => nomatch z
  obtain ⟨its, rv, p', hz⟩ := I2.list (SqL.of hl2)
  have hlt : l < s2.heap.objs.size := by
    obtain ⟨o, n, e, _⟩ := p'
    exact Heap.lt_size e
  have hflt : f < s2.heap.objs.size := Heap.lt_size hf
  refine call_max_walkK (wpAny_pyIter_list p'.isList ?_)
  have off : ∀ a, s2.heap.objs.size ≤ a → a ∉ frs X.stack := fun a ha z => by
    rcases List.mem_cons.mp (I2.stkSub _ z) with e | e
    · exact absurd I2.lt (by rw [← e]; exact Nat.not_lt.mpr ha)
    · exact I2.nofs ha e
  have rec_ : ∀ a, s2.heap.objs.size ≤ a → (a ∈ X.ex ∨ X.s_0.heap.objs.size ≤ a) ∧ a ≠ X.env.locals ∧ (∀ x c, X.env.cells.lookup x = some c → c ≠ a) ∧ ∀ p ∈ X.pn ++ pins, p.1 ≠ a := fun a ha => by
    refine ⟨.inr (Nat.le_trans I2.sz ha), fun z => absurd I2.lt (by rw [← z]; exact Nat.not_lt.mpr ha), fun x c e z => ?_, fun p hp z => ?_⟩
    · obtain ⟨v, o, ho, _⟩ := I2.cell x c e
      exact absurd (Heap.lt_size ho) (by rw [z]; exact Nat.not_lt.mpr ha)
    · exact absurd (Heap.lt_size (I2.pin p hp).1) (by rw [z]; exact Nat.not_lt.mpr ha)
  have hsz3 : (s2.heap.push { cls := .type "list_iterator", data := .fields #[.ref l, .int 0 0] }).objs.size = s2.heap.objs.size + 1 := Heap.size_push ..
  have hIn : H2 s2.heap.objs.size = none := I2.hok.fresh (Nat.le_refl _)
  have hSn : H2 (s2.heap.objs.size + 1) = none := I2.hok.fresh (Nat.le_succ _)
  have push3 : ∀ b o, s2.heap.get? b = some o → (s2.heap.push { cls := .type "list_iterator", data := .fields #[.ref l, .int 0 0] }).get? b = some o := fun b o e => Heap.get?_push_of_some _ e
  refine ⟨s2.heap.objs.size, [s2.heap.objs.size, l], [s2.heap.objs.size], fun a b => b = a, ns.length, _, _,
    fun s' => ∃ F' H', Inv X pins σ H' s' ∧ Ext F1 H2 F' H' ∧ s'.heap.get? f = some (lamO X params body scope pm c' ctv) ∧ H' f = none ∧ H' s2.heap.objs.size = none ∧ H' (s2.heap.objs.size + 1) = none,
    fun i v _ => ∃ t, v = .int (g (ns.getD i 0)) t, fun i j => decide (g (ns.getD i 0) > g (ns.getD j 0)), rfl, walk_ints (show X.A.in1.handled = none from hr.hd) _ l (Nat.ne_of_lt hlt) ns,
    ⟨⟨_, Heap.get?_push_size _ rfl, rfl, rfl⟩, its, rv, p'.isList.push _⟩, fun b hb => ?_, hn.ok, ⟨fun s s' ⟨F', H', i', x', f', n', a', b'⟩ mv => ?_, fun i v s s' h _ => h, fun i v s3 o Q' E' hi hP hJ hst hS hQ => ?_, fun i j ki kj s' Q' E' _ hi hj hq => ?_⟩,
    ⟨F1, H2, I2.kept (t' := s2.toks) push3, Ext.rf S2.fh, push3 _ _ hf, hfn, hIn, hSn⟩, fun v s' hv hJ => ?_⟩
  · show b < (s2.heap.push _).objs.size
    rw [hsz3]
    rcases List.mem_cons.mp hb with z | z
    · rw [z]; exact Nat.lt_succ_self _
    · rw [List.mem_singleton.mp z]; exact Nat.lt_succ_of_lt hlt
  · rw [show (s2.heap.push _).objs.size = _ from hsz3] at mv
    have cs : ∀ a ∈ [s2.heap.objs.size + 1, s2.heap.objs.size], s2.heap.objs.size ≤ a := fun a ha => by
      rcases List.mem_cons.mp ha with z | z
      · omega
      · rw [List.mem_singleton.mp z]; exact Nat.le_refl _
    refine ⟨F', H', inv_moved i' mv (fun a ha => ?_) fun a ha => rec_ a (cs a ha), x', mv.heap _ _ (fun z => absurd (cs _ z) (Nat.not_le.mpr hflt)) f', n', a', b'⟩
    rcases List.mem_cons.mp ha with z | z
    · rw [z]; exact b'
    · rw [List.mem_singleton.mp z]; exact a'
  · obtain ⟨t, rfl⟩ := hP
    obtain ⟨F', H', i', x', f', n', a', b'⟩ := hJ
    rw [show (s2.heap.push _).objs.size = _ from hsz3] at hS
    have T := (S2.ext x').snoc (r_int.mpr rfl : R X.K F' (.int (ns.getD i 0)) (V.int (ns.getD i 0)))
    refine wpAny_mono (lam_callP (v := V.int (ns.getD i 0)) (Q := fun v H3 => ∃ F3, Ext F' H' F3 H3 ∧ v = V.int (g (ns.getD i 0))) i' L hr ny f' (x'.h.k _ _ hco LamX.codeO_ne) (⟨t, rfl⟩ : RelV (V.int (ns.getD i 0)) (Value.int (ns.getD i 0) t)) (hbind _ _ _ _ _ _)
      fun hr' => hbody _ (PySem.getD_mem hi) _ _ _ _ hr' G0 H0 F' H' _ T _ fun v F3 H3 x r => ⟨F3, x, r_int.mp r⟩) (fun u' s4 hce => ?_) fun _ _ z => z
    obtain ⟨v', H3, os, bare, un, hok', rv', F3, x3, rfl⟩ := hce
    obtain ⟨t', rfl⟩ := rv'
    have keep : ∀ b ob, s3.heap.get? b = some ob → H' b = none → s2.heap.objs.size ≤ b → s4.heap.get? b = some ob ∧ H3 b = none := fun b ob e n hb => ⟨un.keep b ob e n (off b hb) (fun z => nomatch z), un.free b ob e n (fun z => nomatch z)⟩
    obtain ⟨hit, _⟩ := hst
    obtain ⟨oI, hoI, _⟩ := id hit
    obtain ⟨hh, gg, dd, tt, os'⟩ := s4
    obtain rfl : os' = s3.os := os
    have i3 : Inv X pins σ H3 { s3 with heap := hh, gens := gg, drawn := dd, toks := tt } := i'.call (ch := []) un hok' bare (fun b z => nomatch z)
    obtain ⟨its3, rv3, p3, _⟩ := i3.list (SqL.of (x3.h.k _ _ (x'.h.k _ _ hl2 (fun _ z => nomatch z)) (fun _ z => nomatch z)))
    exact hQ _ _ ⟨F3, H3, i3, x'.tr x3, un.keep f _ f' n' hff (fun z => nomatch z), un.free f _ f' n' (fun z => nomatch z), (keep _ _ hoI a' (Nat.le_refl _)).2, (keep _ _ hS b' (Nat.le_succ _)).2⟩
      ⟨hit.at fun ob e => (keep _ ob e a' (Nat.le_refl _)).1, its3, rv3, p3.isList⟩ (by rw [show (s2.heap.push _).objs.size = _ from hsz3]; exact (keep _ _ hS b' (Nat.le_succ _)).1) ⟨t', rfl⟩ fun _ _ h => h
  · exact CmpOf.ints_gt (P := fun i v => ∃ t, v = .int (g (ns.getD i 0)) t) (fun i => g (ns.getD i 0)) (fun i v h => h) i j ki kj s' Q' E' hi hj hq
  · obtain ⟨t, rfl⟩ := hv
    obtain ⟨F', H', i', x', _⟩ := hJ
    exact ⟨.int _, H', i', ⟨t, rfl⟩, q _ F' H' (x1.tr (x2.tr x')) (r_int.mpr rfl)⟩
theorem ev_maxK_a (hg : Gl X "max") (hm : X.mg "max" = none) (tk : TabK X.base X.mg X.env.code (X.env.qual ++ "<lambda>")) (hr : Room (k + 2) X.A) (he : EV X Δ false e (.lst (ns.map D.int))) (hn : Sd (0 < ns.length)) (L : LamP X.env.scope scope y) (ny : y ∉ X.N) (hbody : ∀ x ∈ ns, ∀ s H f c', Room k (lamCxP X X.A.in1 X.stack s H scope f c' y).A → EV (lamCxP X X.A.in1 X.stack s H scope f c' y) (Δ ++ [.v (.int x)]) false body (.int (g x))) (hs : Rf (starEach [e] X.env = (false, eval e X.env) :: starEach [] X.env)) (hdef : Rf (defaultsOf params X.env = ([], []))) (hbind : Ri (∀ (q : Str) (cl : List (Str × Addr)) (pm cv ctv u : Value), bindArgs (PySem.W.kla_fn "<lambda>" q params body scope cl pm cv ctv) ⟨[u], []⟩ = pure [(y, u)])) : EV X Δ m (.Call (.Name "max" p) [e] [⟨some "key", .Lambda params body scope lpos, kp⟩] pos) (.int (maxKey g ns)) := ev_maxK hg hm tk hr he hn L ny hbody hs.ok hdef.ok hbind.ok
end
/-! ### defs that make lambdas -/
section
variable {P : Program} {w : World} {K : PySem.W.Frag} {mg : Str → Option Value} {base : Heap}
theorem okC {x qual : Str} {st : Stmt} {f : Addr} {fd : FuncData} {N ps : List Str} {k : Nat} {sp : Sp} (F : Fun K x qual st f fd) (S : FnScope N ps (defScope st)) (len : ∀ vs H Q E, sp vs H Q E → vs.length = ps.length)
    (hbody : ∀ (A : Around) (outer : List Env) (s : Shared) (H : Hp) (vs : List V) (Q : VK) (E : XK), Room k (A.deeper (envOfC qual (defScope st) s.heap.objs.size f fd.code)) → sp vs H Q E →
      uS ((cxOf CX0 P w K mg base N qual (defScope st) f fd.code A outer s H E).nox) (defBody st) { nx := fun _ H' => Q .non H', rt := Q } (L2.start N vs) H) : FnOk P w K mg base CX0 (k + 1) f fd ps sp := by
  obtain ⟨oc, od, kV, doc, pm, an, cdv, ct, osl, rfl, lk, hcd⟩ := F.ex
  exact fn_of lk hcd S len fun A outer s H vs Q E hr hsp => ⟨_, (pss_u (X := (cxOf CX0 P w K mg base N qual (defScope st) f cdv A outer s H E).nox) (sts := defBody st)).nox, hbody A outer s H vs Q E hr hsp⟩
theorem fn_okZC {x qual : Str} {st : Stmt} {f : Addr} {fd : FuncData} {N ps : List Str} {k : Nat} {spec : List D → Res → Prop} (Fn : Fun K x qual st f fd) (S : FnScope N ps (defScope st)) (ar : ∀ ds r, spec ds r → ds.length = ps.length)
    (hb : ∀ (A : Around) (outer : List Env) (s : Shared) (H : Hp) (E : XK), Room k (A.deeper (envOfC qual (defScope st) s.heap.objs.size f fd.code)) → ((cxOf CX0 P w K mg base N qual (defScope st) f fd.code A outer s H E).nox).N = N → N.Nodup → ∀ ds r, spec ds r →
      Bk ((cxOf CX0 P w K mg base N qual (defScope st) f fd.code A outer s H E).nox) (defBody st) (ini N ds) (fin r)) : FnOk P w K mg base CX0 (k + 1) f fd ps (Pr K spec) := by
  refine okC Fn S (fun vs H Q E h => ?_) (fun A outer s H vs Q E hr h => ?_)
  · obtain ⟨G, ds, r, _, _, _, rl, sp, _⟩ := h
    rw [rl.length]; exact ar ds r sp
  · obtain ⟨G, ds, r, sub, nt, tb, rl, sp, ro⟩ := h
    exact hb A outer s H E hr rfl S.nd ds r sp G H G H _ (stt_ini sub nt tb rl (by rw [ar ds r sp, ← S.pre]; exact List.length_take_le' _ _)) _ (ends_of ro)
theorem fn_okEZC {x qual : Str} {st : Stmt} {f : Addr} {fd : FuncData} {N ps : List Str} {k : Nat} {spec : List D → (Res → Prop) → Prop} (Fn : Fun K x qual st f fd) (S : FnScope N ps (defScope st)) (ar : ∀ ds R, spec ds R → ds.length = ps.length)
    (hb : ∀ (A : Around) (outer : List Env) (s : Shared) (H : Hp) (E : XK), Room k (A.deeper (envOfC qual (defScope st) s.heap.objs.size f fd.code)) → ((cxOf CX0 P w K mg base N qual (defScope st) f fd.code A outer s H E).nox).N = N → N.Nodup → ∀ ds R, spec ds R →
      Bk ((cxOf CX0 P w K mg base N qual (defScope st) f fd.code A outer s H E).nox) (defBody st) (ini N ds) (fun o => ∃ r, R r ∧ fin r o)) : FnOk P w K mg base CX0 (k + 1) f fd ps (PrE K spec) := by
  refine okC Fn S (fun vs H Q E h => ?_) (fun A outer s H vs Q E hr h => ?_)
  · obtain ⟨G, ds, R, _, _, _, rl, sp, _⟩ := h
    rw [rl.length]; exact ar ds R sp
  · obtain ⟨G, ds, R, sub, nt, tb, rl, sp, ro⟩ := h
    exact hb A outer s H E hr rfl S.nd ds R sp G H G H _ (stt_ini sub nt tb rl (by rw [ar ds R sp, ← S.pre]; exact List.length_take_le' _ _)) _ (ends_ofE ro)
structure AtL (K : PySem.W.Frag) (mg : Str → Option Value) (base : Heap) (n : Str) (st : Stmt) (ps : List Str) : Prop where
  ex : ∃ f fd, Fun K n n st f fd ∧ mg n = some (.ref f) ∧ Binds K fd ps [] ∧ TabK base mg fd.code (n ++ ".<locals>." ++ "<lambda>")
theorem atl_mk {h : Heap} {n : Str} {st : Stmt} {ps : List Str} {f c PP : Addr} {oc : Value} {od an : Option Addr} {osl : Array (Option Value)} {kV doc pm ct : Value} (X : K.In h) (G : h.Ns mainGlobals mg)
    (a : PySem.W.nsIn K mainGlobals n = some (some (.ref f))) (l : K.lookup f = some ⟨oc, od, .func (PySem.W.fnOf n n (defArgs st) (defBody st) (defScope st) .none kV doc pm an (.ref c) ct), osl⟩) (cc : PySem.W.codeIn K (.ref c) n = true) (k : PySem.W.keepIn K (.ref f) = true)
    (TB : LamX.TabB base mg c PP) (hm : (PP, n ++ ".<locals>." ++ "<lambda>") ∈ τ.T) (hu : ∀ p ∈ τ.T, p.1 = PP → p.2 = n ++ ".<locals>." ++ "<lambda>")
    (hb : ∀ (kV doc pm : Value) (an : Option Addr) (cdv ct : Value) (us : List Value), us.length = ps.length → bindArgs (PySem.W.fnOf n n (defArgs st) (defBody st) (defScope st) .none kV doc pm an cdv ct) ⟨us, []⟩ = pure (ps.zip us)) : AtL K mg base n st ps := by
  have F := fun_mk l cc k
  exact ⟨f, _, F, PySem.W.mg_of X G a, F.binds hb, ⟨c, PP, rfl, TB, hm, hu⟩⟩
end
end Z

namespace Z
open PySem PySem.Spec PyProof.Rows L2
variable [τ : Tb]
/-! ### defs that change what they are handed, in steps -/
theorem bk_iniM {X : Cx} {sts : List Stmt} {N : List Str} {Δ Δ2 : List Sl} {C : Out → Prop} (h : iniM N Δ = Δ2) (k : Bk X sts Δ2 C) : Bk X sts (iniM N Δ) C := by rw [h]; exact k
theorem upTo_app {Δ ex : List Sl} : upTo Δ (Δ ++ ex) := fun i q t h => by
  rw [List.getElem?_append_left (List.getElem?_eq_some_iff.mp h).1]; exact h
/-- slot for slot -/
def ArgsZ (Δ0 : List Sl) (n : Nat) : List Sl → Prop
  | [] => True
  | s :: r => ArgOk Δ0 n s ∧ ArgsZ Δ0 (n + 1) r
theorem ArgsZ.at {Δ0 : List Sl} : ∀ {r : List Sl} {n : Nat}, ArgsZ Δ0 n r → ∀ (i : Nat) (s : Sl), r[i]? = some s → ArgOk Δ0 (n + i) s
  | [], _, _, i, s, e => by simp at e
  | x :: r, n, h, 0, s, e => by simp at e; subst e; exact h.1
  | x :: r, n, h, i + 1, s, e => by
    have := h.2.at i s (by simpa using e)
    rwa [show n + 1 + i = n + (i + 1) by omega] at this
theorem argsOkZ {Δ Δ' : List Sl} (hl : Δ'.length = Δ.length) (h : ArgsZ Δ 0 Δ') : ArgsOk Δ Δ' := ⟨hl, fun i s e => by
  have := h.at i s e
  rwa [Nat.zero_add] at this⟩
section
variable {X : Cx} {Δ Δ' : List Sl} {c : Expr} {rest : List Stmt} {pos : Pos} {C : Out → Prop}
/-- a test that changes slots -/
theorem ts_em {b : Bool} {K' : Bool → List Sl → Prop} (h : EM X Δ c (.bl b) Δ') (k : K' b Δ') (he : ∀ whole, isTrue c X.env whole = (do let v ← whole; standAt c.pos; holding [v] (truthy v)) := by intro _; rfl) : TS X Δ c K' := by
  intro G0 H0 F H σ S Q q
  exact tU (pt_val pe_u he) (h G0 H0 F H σ S _ fun v F' H' S' r => ⟨b, r_bl.mp r, q b Δ' F' H' k S'⟩)
theorem ts_em_a {b : Bool} {K' : Bool → List Sl → Prop} (h : EM X Δ c (.bl b) Δ') (k : K' b Δ') (he : Ri (∀ whole, isTrue c X.env whole = (do let v ← whole; standAt c.pos; holding [v] (truthy v)))) : TS X Δ c K' := ts_em h k he.ok
/-- while with a test that changes slots -/
theorem bk_whileM {S : Type} {body : List Stmt} (mk : S → List Sl) (I : Nat → S → Prop) (h0 : ∃ m s, I m s ∧ Le Δ (mk s))
    (hs : ∀ m s, I m s → ∃ b Δ', EM X (mk s) c (.bl b) Δ' ∧ (b = true → Bk X body Δ' (turnW X rest C mk I m)) ∧ (b = false → Bk X rest Δ' C))
    (he : ∀ whole, isTrue c X.env whole = (do let v ← whole; standAt c.pos; holding [v] (truthy v)) := by intro _; rfl)
    (hp : PassesOwn (model X.prog X.w) X.A X.env X.xe := by exact PassesOwn.never) : Bk X (.While c body [] pos :: rest) Δ C := by
  obtain ⟨m0, s0, i0, l0⟩ := h0
  refine bk_le l0 (bk_cons (sm_while (fun m Δ => ∃ s, I m s ∧ Δ = mk s) m0 ⟨s0, i0, rfl⟩ (fun m Δi ⟨s, hI, e⟩ => ?_) hp))
  subst e
  obtain ⟨b, Δ', em, k1, k2⟩ := hs m s hI
  refine ts_em em ⟨fun hb => ?_, k2⟩ he
  intro G0 H0 F H σ S D q
  refine k1 hb G0 H0 F H σ S D fun o ho => ?_
  have lev : ∀ Δ4, (∃ m' s, m' < m ∧ I m' s ∧ Le Δ4 (mk s)) → ∀ F5 H5 σ5, Stt X.K G0 H0 F5 H5 σ5 Δ4 → D.nx σ5 H5 := fun Δ4 ⟨m', s', hm, hI', l⟩ F5 H5 σ5 T5 => by
    obtain ⟨F6, sF, T6⟩ := T5.le l
    exact q (.nx (mk s')) ⟨m', hm, s', hI', rfl⟩ F6 H5 σ5 T6
  have levc : ∀ Δ4, (∃ m' s, m' < m ∧ I m' s ∧ Le Δ4 (mk s)) → ∀ F5 H5 σ5, Stt X.K G0 H0 F5 H5 σ5 Δ4 → D.ct σ5 H5 := fun Δ4 ⟨m', s', hm, hI', l⟩ F5 H5 σ5 T5 => by
    obtain ⟨F6, sF, T6⟩ := T5.le l
    exact q (.ct (mk s')) ⟨m', hm, s', hI', rfl⟩ F6 H5 σ5 T6
  cases o with
  | nx Δ4 => exact lev Δ4 ho
  | ct Δ4 => exact levc Δ4 ho
  | bk Δ4 => exact q (.bk Δ4) ho
  | rt r Δ4 => exact q (.rt r Δ4) ho
  | xr E Δ4 => exact q (.xr E Δ4) ho
theorem bk_whileM_a {S : Type} {body : List Stmt} (mk : S → List Sl) (I : Nat → S → Prop) (h0 : ∃ m s, I m s ∧ Le Δ (mk s)) (hs : ∀ m s, I m s → ∃ b Δ', EM X (mk s) c (.bl b) Δ' ∧ (b = true → Bk X body Δ' (turnW X rest C mk I m)) ∧ (b = false → Bk X rest Δ' C)) (he : Ri (∀ whole, isTrue c X.env whole = (do let v ← whole; standAt c.pos; holding [v] (truthy v)))) (hp : Rp (PassesOwn (model X.prog X.w) X.A X.env X.xe)) : Bk X (.While c body [] pos :: rest) Δ C := bk_whileM mk I h0 hs he.ok hp.ok
end
/-! ### laws over defs that make lambdas -/
def TabLaw (l : PySem.W.OpenLaw) (w : World) (K : PySem.W.Frag) (CX : CXT) (k n : Nat) (x : Str) (mg : Str → Option Value) (fa : Addr) (xs : List Str) : Prop :=
  ∃ (cs : List (Str × Addr × Addr)) (sp : Sp) (fd : FuncData), (∀ p ∈ cs, p.1 ∈ xs ∧ PySem.W.tabIn K p.1 = some p.2 ∧ K.lookup p.2.2 = none) ∧
    (∀ (H : Hp) (a : Addr) (ns : List Int), ns.length ≤ n → Small ns → (∀ p ∈ cs, H p.2.2 = some (.tbl #[])) → SqL K H a (ns.map V.int) → sp [.ref a] H (fun v _ => v = .bl true) fun _ _ _ => False) ∧
    (∀ (s : Shared) (u : Value), BindsTo s fd ⟨[u], []⟩ [(x, u)]) ∧ ∀ base : Heap, K.In base → base.Ns mainGlobals mg → (∀ p ∈ cs, LamX.TabB base mg p.2.1 p.2.2) → FnOk l.prog w K mg base CX k fa fd [x] sp
theorem walk_ofTab {l : PySem.W.OpenLaw} {n k : Nat} {q : Program} {loose : List Str} {XP : (Str → Option Value) → Heap → Prop} {YP : World → Heap → Prop} {d : DefRec} {K : Params → PySem.W.Frag} {CX : CXT} {x : Str} {xs : List Str}
    (hn : l.most = some n) (hn2 : n ≤ sizeLine) (hdf : d.params.defaults = []) (hr : Room k callerA) (hrec : (xs.all fun y => ((recsOf q).find? fun e => e.name == y).isSome) = true)
    (hY : ∀ (w : World) (h : Heap), YP w h → (K w.params).In h)
    (F : ∀ (w : World) (mg : Str → Option Value) (fa : Addr) (h : Heap), (K w.params).In h → h.Ns mainGlobals mg → mg d.name = some (.ref fa) → TabLaw l w (K w.params) CX k n x mg fa xs)
    (hCX : ∀ (H : Hp) (s : Shared) (e : Value) (s' : Shared), CX [] H s (fun _ _ _ => False) e s' → False) :
    PySem.W.WalkO q loose XP YP l.row.toRowW d [] (fun f vs => PySem.call f vs) := by
  refine Att.attach_callB hn hdf fun w s₀ s₁ mg mb fa o pm cd doc a vs ns G Y ho hd hcd hmg hobj hints hlen hbits hg => ?_
  have KX := hY w _ Y
  obtain ⟨cs, sp, fd, hcs, hsp, hb, hF⟩ := F w mg fa _ KX G.T.g hmg
  have at_ : ∀ p ∈ cs, PySem.W.CodeHd s₁.heap p.2.1 p.2.2 ∧ s₁.heap.get? p.2.2 = some { cls := .none, data := .fields #[] } := fun p hp => by
    obtain ⟨h1, h2, _⟩ := hcs p hp
    obtain ⟨d', hd'⟩ := Option.isSome_iff_exists.mp (List.all_eq_true.mp hrec p.1 h1)
    exact PySem.W.tab_of G.T KX hd' h2
  have mm : ∀ {p : Addr × Addr}, p ∈ cs.map (·.2) → ∃ y ∈ cs, y.2 = p := fun hp => List.mem_map.mp hp
  exact LamX.law_callTs (cs := cs.map (·.2)) KX G.T.g G.T.b G.T.builtins G.T.nolimit hg (fun p hp => by obtain ⟨y, hy, rfl⟩ := mm hp; exact (at_ y hy).2) (fun p hp => by obtain ⟨y, hy, rfl⟩ := mm hp; exact (hcs y hy).2.2)
    (fun p hp => by obtain ⟨y, hy, rfl⟩ := mm hp; exact (at_ y hy).1) G.T.bmain hobj hints (Nat.le_trans hlen hn2) hr (fun base h1 h2 h3 => hF base h1 h2 fun p hp => h3 _ (List.mem_map_of_mem hp)) hb
    (fun H hH hS => hsp H a ns hlen hbits (fun p hp => hH _ (List.mem_map_of_mem hp)) hS) fun H e s' => hCX H s₁ e s'
theorem tab_mk {K : PySem.W.Frag} {n q : Str} {f c P : Addr} {oc : Value} {od an dd : Option Addr} {osl : Array (Option Value)} {kV doc pm ct e : Value} {st : Stmt} {vs : Array Value} {sl : Array (Option Value)}
    (a : PySem.W.nsIn K mainGlobals n = some (some (.ref f))) (l : K.lookup f = some ⟨oc, od, .func (PySem.W.fnOf n q (defArgs st) (defBody st) (defScope st) .none kV doc pm an (.ref c) ct), osl⟩)
    (m : K.lookup c = some ⟨e, dd, .fields vs, sl⟩) (v : vs[11]? = some (.ref P)) : PySem.W.tabIn K n = some (c, P) := by
  unfold PySem.W.tabIn
  rw [a]
  simp only [l, m, v]
end Z

namespace Z
open PySem PySem.Spec PyProof.Rows L2
variable [τ : Tb]
/-! ### arguments only told in part -/
def AVE (X : Cx) (Δ : List Sl) (m : Bool) (es : List Expr) (R' : List D → Prop) : Prop :=
  ∀ (G0 H0 F H : Hp) (σ : L2.St), Stt X.K G0 H0 F H σ Δ → ∀ Q : List V → Hp → Prop, (∀ ds vs F' H', R' ds → Ext F H F' H' → RL X.K (sel m F' H') ds vs → Q vs H') → uA X es σ H Q
section
variable {X : Cx} {Δ : List Sl} {m : Bool} {e : Expr} {es : List Expr} {d : D} {ds : List D} {p pos : Pos} {n : Str} {k : Nat} {spec : List D → Res → Prop} {R' R1 : D → Prop} {R2 : List D → Prop}
theorem ave_of (h : AV X Δ m es ds) : AVE X Δ m es (fun l => l = ds) := fun G0 H0 F H σ S Q q => h G0 H0 F H σ S Q fun vs F' H' e r => q ds vs F' H' rfl e r
theorem ave_cons (h : EVE X Δ m e R1) (k : AVE X Δ m es R2) (hs : starEach (e :: es) X.env = (false, eval e X.env) :: starEach es X.env := by rfl) : AVE X Δ m (e :: es) (fun l => ∃ d ds, R1 d ∧ R2 ds ∧ l = d :: ds) := by
  intro G0 H0 F H σ S Q q
  refine aU (pa_cons pe_u pa_u hs) (h G0 H0 F H σ S _ fun d v F1 H1 hd e1 r1 => ?_)
  exact k G0 H0 F1 H1 σ (S.ext e1) _ fun ds vs F2 H2 hds e2 r2 => q _ _ F2 H2 ⟨d, ds, hd, hds, rfl⟩ (e1.tr e2) (RL.cons (r1.up e2) r2)
theorem ave_cons_a (h : EVE X Δ m e R1) (k : AVE X Δ m es R2) (hs : Rf (starEach (e :: es) X.env = (false, eval e X.env) :: starEach es X.env)) : AVE X Δ m (e :: es) (fun l => ∃ d ds, R1 d ∧ R2 ds ∧ l = d :: ds) := ave_cons h k hs.ok
theorem eve_of (h : EV X Δ m e d) : EVE X Δ m e (fun x => x = d) := fun G0 H0 F H σ S Q q => h G0 H0 F H σ S Q fun v F' H' e r => q d v F' H' rfl e r
/-- a call whose arguments are only told in part, the answer not handed on as one's own -/
theorem eve_callA (Fn : FnK X.prog X.w X.K X.mg X.base CX0 n k spec) (hr : Room k X.A) (hg : Gl X n) (ha : AVE X Δ m (e :: es) R2) (hs : ∀ ds, R2 ds → ∃ d, R' d ∧ spec ds (.v d)) (hdb : (n == ("__debug__" : Str)) = false := by decide)
    (he : starEach (e :: es) X.env = (false, eval e X.env) :: starEach es X.env := by rfl) (hpl : (backTo pos (starEach es X.env)).any (·.1) = false := by rfl) : EVE X Δ m (.Call (.Name n p) (e :: es) [] pos) R' := by
  intro G0 H0 F H σ S Q q
  obtain ⟨f, fd, ps, F1, hm, hk, hb⟩ := Fn.ex
  refine eU (pe_call F1 hr hg hm hk hb .nil pass0 pa_u hdb he hpl) (ha G0 H0 F H σ S _ fun ds vs F' H' hd x r => ?_)
  show Pr X.K spec (vs ++ []) H' Q E0
  rw [List.append_nil]
  obtain ⟨d, h1, h2⟩ := hs ds hd
  exact Pr.at x.fh (S.ext x).nt (S.ext x).tb r h2 fun v F2 H2 x2 r2 => q d v F2 H2 h1 (x.tr x2) r2
theorem eve_callA_a (Fn : FnK X.prog X.w X.K X.mg X.base CX0 n k spec) (hr : Room k X.A) (hg : Gl X n) (ha : AVE X Δ m (e :: es) R2) (hs : ∀ ds, R2 ds → ∃ d, R' d ∧ spec ds (.v d)) (hdb : Rd ((n == ("__debug__" : Str)) = false)) (he : Rf (starEach (e :: es) X.env = (false, eval e X.env) :: starEach es X.env)) (hpl : Rf ((backTo pos (starEach es X.env)).any (·.1) = false)) : EVE X Δ m (.Call (.Name n p) (e :: es) [] pos) R' := eve_callA Fn hr hg ha hs hdb.ok he.ok hpl.ok
end
end Z

namespace Z
open PySem PySem.Spec PyProof.Rows L2
variable [τ : Tb]

/-! ### list(reversed(x)) -/
section
variable {prog : Program} {w : World} {A : Around} {E : Value → Shared → Prop} {s : Shared}
theorem call_list_rev {it l : Addr} {items : Array Value} {Q : Value → Shared → Prop} (hh : A.handled = none) (hit : s.heap.IsRevIter it l ((items.size : Int) - 1)) (hl : s.heap.IsList l items) (hne : l ≠ it) (hn : items.size ≤ sizeLine)
    (hQ : ∀ (h' : Heap) (tk : Nat) (acc : Array Value) (c : Nat), (∀ b o, b ≠ it → s.heap.get? b = some o → h'.get? b = some o) → h'.get? s.heap.objs.size = some { cls := .type "list", dict := none, data := .seq acc c, slots := #[] } →
      ItemsOf (fun i v => items[items.size - 1 - i]? = some v) acc items.size → Q (.ref s.heap.objs.size) { s with heap := h', toks := tk }) :
    wpAny (model prog w) A (call (.type "list") [.ref it]) Q E s := by
  refine callType_codes (Q₁ := fun obj s₁ => obj = .ref s.heap.objs.size ∧ s₁ = { s with heap := s.heap.push { cls := .type "list", data := .seq #[] } }) F.called_list (F.typeCall_list_1 _) F.entry_list_init
    (code_list_new _ ⟨rfl, rfl⟩) fun obj s₁ h₁ => ?_
  obtain ⟨rfl, rfl⟩ := h₁
  have hS : (s.heap.push { cls := .type "list", data := .seq #[] }).get? s.heap.objs.size = some { cls := .type "list", data := .seq #[] } := Heap.get?_push_size _ rfl
  refine ⟨⟨_, hS, rfl⟩, F.args_list_init_2 _ _, ?_⟩
  have W := (Walks.listRev (prog := prog) (w := w) (A := A.in1.in1) hh it l hne items).toS
  obtain ⟨oi, hoi, _⟩ := id hit
  obtain ⟨ol, hol, _⟩ := id hl
  have hSi : s.heap.objs.size ≠ it := Nat.ne_of_gt (Heap.lt_size hoi)
  have hSl : s.heap.objs.size ≠ l := Nat.ne_of_gt (Heap.lt_size hol)
  have hSf : s.heap.objs.size ∉ [it, l] := by simp only [List.mem_cons, List.not_mem_nil, or_false, not_or]; exact ⟨hSi, hSl⟩
  have hit1 : (s.heap.push { cls := .type "list", data := .seq #[] }).IsRevIter it l ((items.size : Int) - 1) := hit.at fun o e => Heap.get?_push_of_some _ e
  have hl1 : (s.heap.push { cls := .type "list", data := .seq #[] }).IsList l items := hl.push _
  show wpAny _ A.in1.in1 (do let old ← Builtin.List.listItems (.ref s.heap.objs.size); Builtin.List.listUpdate (.ref s.heap.objs.size) (fun _ => #[]); letGo old.toList.reverse; Builtin.List.listExtendWith (.ref s.heap.objs.size) (.ref it) .none) _ _ _
  refine wpAny_bind ?_
  unfold Builtin.List.listItems
  refine wpAny_bind (wpAny_seqItems hS rfl (wpAny_pure ?_))
  show wpAny _ A.in1.in1 (updateSeq s.heap.objs.size (fun _ => #[]) >>= fun _ => letGo (#[] : Array Value).toList.reverse >>= fun _ => Builtin.List.listExtendWith (.ref s.heap.objs.size) (.ref it) .none) _ _ _
  refine wpAny_bind (wpAny_updateSeq hS rfl ?_)
  have hS₂ := Heap.get?_update_self (Obj.mapSeq (fun _ => (#[] : Array Value))) hS rfl
  have oth : ∀ b o, b ≠ s.heap.objs.size → (s.heap.push { cls := .type "list", data := .seq #[] }).get? b = some o → ((s.heap.push { cls := .type "list", data := .seq #[] }).update s.heap.objs.size (Obj.mapSeq (fun _ => (#[] : Array Value)))).get? b = some o :=
    fun b o hb e => (Heap.get?_update_other _ _ (Ne.symm hb)).trans e
  refine wpAny_bind (wpAny_letGo ?_)
  have hit2 : ((s.heap.push { cls := .type "list", data := .seq #[] }).update s.heap.objs.size (Obj.mapSeq (fun _ => (#[] : Array Value)))).IsRevIter it l ((items.size : Int) - 1) := hit1.at fun o e => oth _ _ (Ne.symm hSi) e
  have hl2 : ((s.heap.push { cls := .type "list", data := .seq #[] }).update s.heap.objs.size (Obj.mapSeq (fun _ => (#[] : Array Value)))).IsList l items := hl1.at fun o e => oth _ _ (Ne.symm hSl) e
  generalize hh2 : (s.heap.push { cls := .type "list", data := .seq #[] }).update s.heap.objs.size (Obj.mapSeq (fun _ => (#[] : Array Value))) = h2 at hit2 hl2 hS₂ oth
  have hT : ({ s with heap := h2 } : Shared).TypeIs (.ref it) "list_reverseiterator" := Heap.IsRevIter.typeIs (s := { s with heap := h2 }) hit2
  have h1 : Builtin.List.listSameRef (.ref s.heap.objs.size) (.ref it) = false := by simp [Builtin.List.listSameRef, hSi]
  unfold Builtin.List.listExtendWith
  refine wpAny_bind (wpAny_typeOf hT ?_)
  rw [if_neg (by rw [h1]; decide)]
  refine wpAny_bind (wpAny_pyIter_revIter (s := { s with heap := h2 }) hit2 ?_)
  refine wpAny_bind (wpAny_holding ?_)
  unfold Builtin.List.listLengthHint
  refine wpAny_bind (wpAny_specialOf hT RT.nolen_lri ?_)
  show wpAny _ A.in1.in1 (specialOf (Value.ref it) (Str.ofString "__length_hint__") >>= _) _ _ _
  refine wpAny_bind (wpAny_specialOf hT RT.hint_lri ?_)
  generalize hid : ("list_reverseiterator.__length_hint__" : String) = id0
  wp_delta
  rw [show splitId id0 = some ("list_reverseiterator", "__length_hint__") from by subst hid; decide +kernel]
  subst hid
  refine wpAny_bind (wpAny_isInstance (b := true) hT (by rw [isSubtype_type]; kernel_rfl) ?_)
  refine wpAny_pure ?_
  rw [if_neg (by decide)]
  have e0 : ((items.size : Nat) : Int) - 1 - ((0 : Nat) : Int) = (items.size : Int) - 1 := by omega
  refine wpAny_pure ⟨plainId_quiet F.plain_extend_loop _, codeAny_extend_loopS W hn _ hSf _ items.size 0 _ _ _ rfl (Nat.zero_le _) ⟨Nat.zero_le _, by rw [e0]; exact hit2, hl2⟩ hS₂ (ItemsOf.nil _) fun s' acc' c' hm hS' hacc => ?_⟩
  refine ⟨rfl, ?_⟩
  rw [Moved.eq_with hm]
  refine hQ s'.heap s'.toks acc' c' (fun b o hb e => hm.heap b o (fun hmem => ?_) (oth b o (fun z => absurd (Heap.lt_size e) (by rw [z]; exact Nat.lt_irrefl _)) (Heap.get?_push_of_some _ e))) hS' hacc
  rcases List.mem_cons.mp hmem with e' | hmem
  · exact absurd (Heap.lt_size e) (by rw [e']; exact Nat.lt_irrefl _)
  · exact hb (List.mem_singleton.mp hmem)
end
/-- list(reversed(x)), x a list: a new list -/
def tLstRev (K : PySem.W.Frag) (te : TE) : TE := fun σ H Q => te σ H fun v H1 => ∃ (a : Addr) (xs : List V), v = .ref a ∧ SqL K H1 a xs ∧ ∀ q, H1 q = none → Q (.ref q) (upd H1 q (.lst xs.reverse))
section
variable {X : Cx}
theorem pe_lstRev {e : Expr} {te : TE} {p p2 pos pos2 : Pos} (hc : X.calm = true) (hg : Gl X "list") (hm : X.mg "list" = none) (hg2 : Gl X "reversed") (hm2 : X.mg "reversed" = none) (he : PE X e te)
    (hs : starEach [e] X.env = (false, eval e X.env) :: starEach [] X.env := by rfl)
    (hs2 : starEach [.Call (.Name "reversed" p2) [e] [] pos2] X.env = (false, eval (.Call (.Name "reversed" p2) [e] [] pos2) X.env) :: starEach [] X.env := by rfl) :
    PE X (.Call (.Name "list" p) [.Call (.Name "reversed" p2) [e] [] pos2] [] pos) (tLstRev X.K te) := by
  refine ⟨fun pins s σ H Q I h => ?_⟩
  refine Call_ (ld_blt I hg hm bt_list (PyProof.Rows.callWith_type1 (args_cons (Call_ (ld_blt I hg2 hm2 PyProof.Rows.boot_reversed (PyProof.Rows.callWith_type1 (args_cons (thn (he.run pins s σ H _ I h) fun u s1 ⟨v, H1, I1, r1, q1⟩ => args_nil ?_) hs) hs rfl))) hs2) hs2 rfl))
  obtain ⟨a, xs, ev, hq, q⟩ := q1
  subst ev
  obtain rfl : u = Value.ref a := r1
  obtain ⟨its, rv, p', hz⟩ := I1.list hq
  refine call_reversed_list p'.isList (args_nil ?_)
  have k0 : ∀ b o, s1.heap.get? b = some o → (s1.heap.push (revObj a ((its.toArray.size : Int) - 1))).get? b = some o := fun b o e => Heap.get?_push_of_some _ e
  have I2 : Inv X pins σ H1 { s1 with heap := s1.heap.push (revObj a ((its.toArray.size : Int) - 1)) } := I1.kept (t' := s1.toks) k0
  have fp := I1.fpOk (H' := H1) (b := s1.heap.objs.size) (Nat.le_refl _) (I1.hok.fresh (Nat.le_refl _))
  have hl := p'.isList
  obtain ⟨ol, hol, _⟩ := id hl
  have hne : a ≠ s1.heap.objs.size := Nat.ne_of_lt (Heap.lt_size hol)
  have hn : its.toArray.size ≤ sizeLine := by rw [List.size_toArray, ← rv.length]; exact hz
  refine call_list_rev (s := { s1 with heap := s1.heap.push (revObj a ((its.toArray.size : Int) - 1)) }) (I1.ok.hd hc) ⟨_, Heap.get?_push_size _ rfl, rfl, rfl⟩ (hl.push _) hne hn fun h' tk acc c hk hS hi => ?_
  refine ⟨.ref _, upd H1 (s1.heap.push (revObj a ((its.toArray.size : Int) - 1))).objs.size (.lst xs.reverse), I2.turnedNew (t' := tk) (ch := [s1.heap.objs.size]) (fun b o hb e => hk b o (fun z => hb (by rw [z]; exact List.mem_singleton_self _)) e) (fun b hb => by rw [List.mem_singleton.mp hb]; exact fp) (Nat.le_refl _)
    (show ObjOk X.prog X.w _ _ _ (.lst xs.reverse) from ⟨by rw [List.length_reverse]; exact hz, acc.toList, c, RT.vals_rev rv hi, ?_⟩), rfl, q _ (I2.hok.fresh (Nat.le_refl _))⟩
  rw [Array.toArray_toList]
  exact hS
theorem pe_lstRev_a {e : Expr} {te : TE} {p p2 pos pos2 : Pos} (hc : X.calm = true) (hg : Gl X "list") (hm : X.mg "list" = none) (hg2 : Gl X "reversed") (hm2 : X.mg "reversed" = none) (he : PE X e te) (hs : Rf (starEach [e] X.env = (false, eval e X.env) :: starEach [] X.env)) (hs2 : Rf (starEach [.Call (.Name "reversed" p2) [e] [] pos2] X.env = (false, eval (.Call (.Name "reversed" p2) [e] [] pos2) X.env) :: starEach [] X.env)) : PE X (.Call (.Name "list" p) [.Call (.Name "reversed" p2) [e] [] pos2] [] pos) (tLstRev X.K te) := pe_lstRev hc hg hm hg2 hm2 he hs.ok hs2.ok
end
theorem RL.reverse {K : PySem.W.Frag} {G : Hp} : ∀ {ds : List D} {vs : List V}, RL K G ds vs → RL K G ds.reverse vs.reverse
  | [], _, h => by rw [rl_nil.mp h]; exact RL.nil
  | d :: ds, _, h => by
    obtain ⟨v, vs', rfl, a, b⟩ := rl_cons.mp h
    rw [List.reverse_cons, List.reverse_cons]
    exact RL.append (RL.reverse b) (RL.cons a RL.nil)
section
variable {X : Cx} {Δ : List Sl} {ds : List D} {e : Expr} {p p2 pos pos2 : Pos}
theorem eo_listRev (hg : Gl X "list") (hm : X.mg "list" = none) (hg2 : Gl X "reversed") (hm2 : X.mg "reversed" = none) (ha : EV X Δ true e (.lst ds)) (hc : X.calm = true := by rfl)
    (hs : starEach [e] X.env = (false, eval e X.env) :: starEach [] X.env := by rfl)
    (hs2 : starEach [.Call (.Name "reversed" p2) [e] [] pos2] X.env = (false, eval (.Call (.Name "reversed" p2) [e] [] pos2) X.env) :: starEach [] X.env := by rfl) :
    EO X Δ (.Call (.Name "list" p) [.Call (.Name "reversed" p2) [e] [] pos2] [] pos) ds.reverse := by
  intro G0 H0 F H σ S Q q
  refine eU (pe_lstRev hc hg hm hg2 hm2 pe_u hs hs2) (ha G0 H0 F H σ S _ fun v F' H' x r => ?_)
  obtain ⟨a, vs, rfl, g, l⟩ := r_lst.mp r
  have g' : F' a = some (.lst vs) := g
  refine ⟨a, vs, rfl, SqL.of (x.fh _ _ g'), fun p2 n2 => q p2 vs.reverse F' _ (x.tr (Ext.grow x.fh (Sub.new n2))) (x.h.none n2) upd_same (x.fh.none n2) ?_⟩
  have l' : RL X.K F' ds vs := l
  exact l'.reverse
theorem eo_listRev_a (hg : Gl X "list") (hm : X.mg "list" = none) (hg2 : Gl X "reversed") (hm2 : X.mg "reversed" = none) (ha : EV X Δ true e (.lst ds)) (hc : Rf (X.calm = true)) (hs : Rf (starEach [e] X.env = (false, eval e X.env) :: starEach [] X.env)) (hs2 : Rf (starEach [.Call (.Name "reversed" p2) [e] [] pos2] X.env = (false, eval (.Call (.Name "reversed" p2) [e] [] pos2) X.env) :: starEach [] X.env)) : EO X Δ (.Call (.Name "list" p) [.Call (.Name "reversed" p2) [e] [] pos2] [] pos) ds.reverse := eo_listRev hg hm hg2 hm2 ha hc.ok hs.ok hs2.ok
end
end Z

namespace Z
open PySem PySem.Spec PyProof.Rows L2
variable [τ : Tb]

/-! ### set(x) of a list of ints, sorted(set(x)) -/
section
variable {P : Program} {w : World} {A : Around} {E : Value → Shared → Prop} {s : Shared}
/-- the set that is made first -/
abbrev set0 (w : World) : Obj := { cls := .type "set", dict := none, data := .set #[] 0 (.fresh 0 0 (!w.params.followText "set-order")) }
theorem call_setR_list {l : Addr} {xs : Array Value} (ns : List Int) {Q : Value → Shared → Prop} (hh : A.handled = none) (hl : s.heap.IsList l xs) (hx : IntsAre xs.toList ns) (hb : ns.length + 1 < scanBound)
    (h : ∀ (h' : Heap) (tk c : Nat), SetR w h' s.heap.objs.size (fun j => decide (j ∈ ns)) c → c ≤ ns.length → (∀ b o, s.heap.get? b = some o → h'.get? b = some o) → Q (.ref s.heap.objs.size) { s with heap := h', toks := tk }) :
    wpAny (model P w) A (call (.type "set") [.ref l]) Q E s := by
  have ez : xs.size = ns.length := by
    have q := IntsAre.length hx
    rwa [Array.length_toList] at q
  obtain ⟨mc, mt, hmro⟩ := F.called_set.mro
  have hmade := F.called_set.made
  have hsub := F.called_set.sub
  refine wpAny_call (codeAny_of_tree ?_)
  show wpAny _ _ (callAny (.type "set") _) _ _ _
  refine wpAny_pure ⟨Code.quiet_builtin _ (by decide +kernel), codeAny_builtin F.entry_type_call ?_⟩
  rw [Around.under_plain (weight_type_call_type "set" [.ref l] []) rfl]
  have h1 := F.called_set.notType
  have h2 := F.called_set.canCreate
  have hct := F.typeCall_set_1 (.ref l)
  repeat (any_goals (first | assumption | wp_step))
  refine codeAny_mono (code_set_led1 (.ref l) (E := E) (Q₁ := fun obj s₁ => obj = .ref s.heap.objs.size ∧ s₁ = { s with heap := s.heap.push (set0 w) }) ⟨rfl, rfl⟩) fun r s₁ hr => ?_
  cases r with
  | error e => exact hr
  | ok fl =>
    cases fl with
    | ret obj =>
      obtain ⟨rfl, rfl⟩ := hr
      have hS : (s.heap.push (set0 w)).get? s.heap.objs.size = some (set0 w) := Heap.get?_push_size _ rfl
      have hT : Shared.TypeIs { s with heap := s.heap.push (set0 w) } (.ref s.heap.objs.size) "set" := ⟨_, hS, rfl⟩
      have hli := F.called_set.init.lookup
      have hbi := F.called_set.init.bind (.ref s.heap.objs.size)
      repeat (any_goals (first | assumption | wp_step))
      refine codeAny_mono (codeAny_call_builtin (R := wants (fun r s₂ => r = .none ∧ ∃ h' tk c, s₂ = { s with heap := h', toks := tk } ∧ SetR w h' s.heap.objs.size (fun j => decide (j ∈ ns)) c ∧ c ≤ ns.length ∧ (∀ b o, s.heap.get? b = some o → h'.get? b = some o)) E) F.called_set.init.plain F.entry_set_init (check_set_init_1 hT ?_)) fun r₂ s₂ hr₂ => ?_
      · obtain ⟨ol, hol, hcl, nl, hdl⟩ := hl
        obtain ⟨ocls, odict, odata, oslots⟩ := ol
        simp only at hcl hdl
        subst hcl; subst hdl
        have hol' : (s.heap.push (set0 w)).get? l = some { cls := .type "list", dict := odict, data := .seq xs nl, slots := oslots } := Heap.get?_push_of_some _ hol
        have hsls := F.sub_list_set
        have hslf := F.sub_list_frozenset
        have hne : (Value.type "list" == Value.type "dict") = false := by decide
        have hl1 : (s.heap.push (set0 w)).IsList l xs := ⟨_, hol', rfl, nl, rfl⟩
        unfold Builtin.«set.__init__» noKeywords Builtin.Frozenset.updateFrom
        generalize hPI : pyIter = PI
        wp_walk
        subst hPI
        refine wpAny_pyIter_list hl1 ?_
        refine wpAny_bind (wpAny_runValue ?_)
        have hlS : l < s.heap.objs.size := Heap.lt_size hol
        have hh3 : A.in1.in1.in1.handled = none := by simp [hh]
        have ho2 : l ≠ (s.heap.push (set0 w)).objs.size := by rw [Heap.size_push]; exact Nat.ne_of_lt (Nat.lt_succ_of_lt hlS)
        have ho3 : s.heap.objs.size ∉ [(s.heap.push (set0 w)).objs.size, l] := by
          rw [Heap.size_push]; simp only [List.mem_cons, List.mem_singleton, List.not_mem_nil, or_false, not_or]
          exact ⟨Nat.ne_of_lt (Nat.lt_succ_self _), Nat.ne_of_gt hlS⟩
        have hval : ∀ (i : Nat) (v : Value), xs[i]? = some v → ∃ k t, ns[i]? = some k ∧ v = .int k t := fun i v hv => by
          have hi : i < ns.length := by rw [← ez]; exact (Array.getElem?_eq_some_iff.mp hv).1
          obtain ⟨t, e⟩ := PyProof.Rows.IntsAre.int_at hx i v (by rw [Array.getElem?_toList]; exact hv)
          refine ⟨ns[i], t, List.getElem?_eq_getElem hi, ?_⟩
          rw [e, List.getD_eq_getElem?_getD, List.getElem?_eq_getElem hi] <;> rfl
        refine set_update_ints ((Walks.list hh3 _ l ho2 xs).toS) s.heap.objs.size ho3 ns ez hb hval (xs.size - 0) 0 _ (by omega) (Nat.zero_le _) ⟨⟨_, Heap.get?_push_size _ rfl, rfl, rfl⟩, (hl1.push _)⟩ ?hS0 ?hR
        case hS0 =>
          have hget : ((s.heap.push (set0 w)).push { cls := .type "list_iterator", data := .fields #[.ref l, .int 0 0] }).get? s.heap.objs.size = some (set0 w) := Heap.get?_push_of_some _ hS
          exact ⟨0, Nat.le_refl 0, setR_new_at hget⟩
        case hR =>
          intro s' c' hm hc' hS'
          obtain ⟨h', g2, d', tk', os'⟩ := s'
          have eg : g2 = s.gens := hm.gens
          have ed : d' = s.drawn := hm.drawn
          have eo : os' = s.os := hm.os
          subst eg; subst ed; subst eo
          show wpAny _ _ _ _ _ _
          refine wpAny_pure ?_
          show wpAny _ _ (ret Value.none) _ _ _
          rw [ez] at hc'
          refine wpAny_pure ⟨rfl, h', tk', c', rfl, hS', hc', fun b o e => ?_⟩
          have b0 : b < s.heap.objs.size := Heap.lt_size e
          have b2 : b ≠ (s.heap.push (set0 w)).objs.size := by rw [Heap.size_push]; exact Nat.ne_of_lt (Nat.lt_succ_of_lt b0)
          exact hm.heap b o (by simp only [List.mem_cons, List.mem_singleton, List.not_mem_nil, or_false, not_or]; exact ⟨Nat.ne_of_lt b0, b2⟩) (Heap.get?_push_of_some _ (Heap.get?_push_of_some _ e))
      · cases r₂ with
        | error e => exact hr₂
        | ok fl₂ =>
          cases fl₂ with
          | ret r =>
            obtain ⟨rfl, h', tk, c', rfl, hS', hc', hk'⟩ := hr₂
            repeat (any_goals (first | assumption | wp_step))
            exact h _ _ _ hS' hc' hk'
          | _ => exact hr₂.elim
    | _ => exact hr.elim
end
section
variable {X : Cx}
theorem cr_setL (hcalm : X.calm = true) : CallR X (.type "set") (fun vs H Q => ∃ (a : Addr) (ns : List Int), vs = [V.ref a] ∧ SqL X.K H a (ns.map V.int) ∧ ns.length + 1 < scanBound ∧ ∀ p c, H p = none → c ≤ ns.length → Q (.ref p) (upd H p (SetO X.w p (fun j => decide (j ∈ ns)) c))) := by
  intro pins s σ H xs us Q I r h
  obtain ⟨a, ns, rfl, hq, hb, q⟩ := h
  obtain ⟨u, rfl, rx⟩ := vals1 r
  cases rx
  obtain ⟨its, rv, pl, hz⟩ := I.list hq
  refine call_setR_list ns (I.ok.hd hcalm) pl.isList (by simpa using ints_of_vals rv) hb fun h' tk c hS hc hk => ?_
  exact ⟨.ref _, _, I.laid (t' := tk) hk (Nat.le_refl _) (setO_new hS), rfl, q _ c (I.hok.fresh (Nat.le_refl _)) hc⟩
end
/-! the rising list of the members -/
def insU (x : Int) : List Int → List Int
  | [] => [x]
  | y :: l => if x < y then x :: y :: l else if x = y then y :: l else y :: insU x l
def srtU (ns : List Int) : List Int := ns.foldr insU []
theorem mem_insU {x k : Int} : ∀ {l : List Int}, k ∈ insU x l ↔ k = x ∨ k ∈ l
  | [] => by simp [insU]
  | y :: l => by
    unfold insU
    split
    · simp
    · split
      · subst_vars; simp
      · rw [List.mem_cons, mem_insU (l := l), List.mem_cons]
        constructor
        · rintro (h | h | h) <;> simp [h]
        · rintro (h | h | h) <;> simp [h]
theorem insU_up {x : Int} : ∀ {l : List Int}, l.Pairwise (· < ·) → (insU x l).Pairwise (· < ·)
  | [], _ => by simp [insU]
  | y :: l, h => by
    obtain ⟨h1, h2⟩ := List.pairwise_cons.mp h
    unfold insU
    split
    · rename_i c
      exact List.pairwise_cons.mpr ⟨fun z hz => by
        rcases List.mem_cons.mp hz with rfl | hz
        · exact c
        · exact Int.lt_trans c (h1 z hz), h⟩
    · rename_i c
      split
      · exact h
      · rename_i c2
        refine List.pairwise_cons.mpr ⟨fun z hz => ?_, insU_up h2⟩
        rcases mem_insU.mp hz with rfl | hz
        · omega
        · exact h1 z hz
theorem srtU_up : ∀ (ns : List Int), (srtU ns).Pairwise (· < ·)
  | [] => List.Pairwise.nil
  | x :: ns => insU_up (srtU_up ns)
theorem mem_srtU {k : Int} : ∀ {ns : List Int}, k ∈ srtU ns ↔ k ∈ ns
  | [] => by simp [srtU]
  | x :: ns => by
    show k ∈ insU x (srtU ns) ↔ _
    rw [mem_insU, mem_srtU (ns := ns), List.mem_cons]
theorem up_uniq : ∀ {a b : List Int}, a.Pairwise (· < ·) → b.Pairwise (· < ·) → (∀ k, k ∈ a ↔ k ∈ b) → a = b
  | [], [], _, _, _ => rfl
  | [], y :: b, _, _, h => by have := (h y).mpr List.mem_cons_self; cases this
  | x :: a, [], _, _, h => by have := (h x).mp List.mem_cons_self; cases this
  | x :: a, y :: b, h1, h2, h => by
    obtain ⟨p1, p2⟩ := List.pairwise_cons.mp h1
    obtain ⟨q1, q2⟩ := List.pairwise_cons.mp h2
    have e : x = y := by
      rcases List.mem_cons.mp ((h x).mp List.mem_cons_self) with e | m1
      · exact e
      · rcases List.mem_cons.mp ((h y).mpr List.mem_cons_self) with e | m2
        · exact e.symm
        · have := q1 x m1
          have := p1 y m2
          omega
    subst e
    rw [up_uniq p2 q2 fun k => ?_]
    constructor
    · intro m
      rcases List.mem_cons.mp ((h k).mp (List.mem_cons_of_mem _ m)) with e | m'
      · have := p1 k m; omega
      · exact m'
    · intro m
      rcases List.mem_cons.mp ((h k).mpr (List.mem_cons_of_mem _ m)) with e | m'
      · have := q1 k m; omega
      · exact m'
theorem insU_len {x : Int} : ∀ {l : List Int}, (insU x l).length ≤ l.length + 1
  | [] => by simp [insU]
  | y :: l => by
    have := insU_len (x := x) (l := l)
    unfold insU
    split
    · simp
    · split <;> simp <;> omega
theorem srtU_len : ∀ (ns : List Int), (srtU ns).length ≤ ns.length
  | [] => Nat.le_refl _
  | x :: ns => by
    have h1 := srtU_len ns
    have h2 := insU_len (x := x) (l := srtU ns)
    show (insU x (srtU ns)).length ≤ _
    rw [List.length_cons]; omega
theorem lt_of_le_nd : ∀ {l : List Int}, l.Pairwise (· ≤ ·) → l.Nodup → l.Pairwise (· < ·)
  | [], _, _ => List.Pairwise.nil
  | x :: l, h, n => by
    obtain ⟨h1, h2⟩ := List.pairwise_cons.mp h
    obtain ⟨n1, n2⟩ := List.nodup_cons.mp n
    refine List.pairwise_cons.mpr ⟨fun y hy => ?_, lt_of_le_nd h2 n2⟩
    have := h1 y hy
    have : x ≠ y := fun e => n1 (e ▸ hy)
    omega
/-- sorted without repeats is the same -/
theorem srt_of {ns ns' : List Int} (p : ns'.Perm ns) (h : ns'.Pairwise (· ≤ ·)) (n : ns.Nodup) : ns' = srtU ns :=
  up_uniq (lt_of_le_nd h (p.nodup_iff.mpr n)) (srtU_up ns) fun k => by rw [p.mem_iff, mem_srtU]
section
variable {X : Cx} {Δ : List Sl} {e : Expr} {p p2 pos pos2 : Pos} {ns : List Int}
/-- sorted(set(x)) -/
theorem eo_srtSet (hg : Gl X "sorted") (hm : X.mg "sorted" = none) (hg2 : Gl X "set") (hm2 : X.mg "set" = none) (ha : EV X Δ false e (.lst (ns.map D.int))) (hl : ns.length < 64) (hc : X.calm = true := by rfl)
    (hs : starEach [e] X.env = (false, eval e X.env) :: starEach [] X.env := by rfl) (hpl : (backTo pos2 (starEach ([] : List Expr) X.env)).any (·.1) = false := by rfl)
    (hs2 : starEach [.Call (.Name "set" p2) [e] [] pos2] X.env = (false, eval (.Call (.Name "set" p2) [e] [] pos2) X.env) :: starEach [] X.env := by rfl) (hpl2 : (backTo pos (starEach ([] : List Expr) X.env)).any (·.1) = false := by rfl) :
    EO X Δ (.Call (.Name "sorted" p) [.Call (.Name "set" p2) [e] [] pos2] [] pos) ((srtU ns).map .int) := by
  intro G0 H0 F H σ S Q q
  refine eU (pe_callB (cr_sortedSet hc) hg hm bt_sorted (pa_cons (pe_callTy (cr_setL hc) hg2 hm2 (by decide +kernel) (pa_cons pe_u pa_nil hs) (by decide) (by decide) hs hpl) pa_nil hs2) (by decide) (by decide) hs2 hpl2) ?_
  refine ha G0 H0 F H σ S _ fun v F' H' x r => ?_
  obtain ⟨a, vs, rfl, g, l⟩ := r_lst.mp r
  rw [l.ints] at g
  refine ⟨a, ns, rfl, SqL.of g, by unfold scanBound; omega, fun p1 c n1 hc => ?_⟩
  refine ⟨p1, _, _, rfl, upd_same, by omega, fun zs p3 hup hmem hlen n3 => ?_⟩
  have e1 : zs = srtU ns := up_uniq hup (srtU_up ns) fun k => by rw [hmem k, mem_srtU]; simp
  subst e1
  have s1 : Sub H' (upd H' p1 (SetO X.w p1 (fun j => decide (j ∈ ns)) c)) := Sub.new n1
  have s2 := Sub.new (o := HO.lst ((srtU ns).map V.int)) n3
  refine q p3 _ F' _ (x.tr (Ext.grow x.fh (s1.tr s2))) (x.h.none (s1.none n3)) upd_same (x.fh.none (s1.none n3)) RL.of_ints
theorem eo_srtSet_a (hg : Gl X "sorted") (hm : X.mg "sorted" = none) (hg2 : Gl X "set") (hm2 : X.mg "set" = none) (ha : EV X Δ false e (.lst (ns.map D.int))) (hl : ns.length < 64) (hc : Rf (X.calm = true)) (hs : Rf (starEach [e] X.env = (false, eval e X.env) :: starEach [] X.env)) (hpl : Rf ((backTo pos2 (starEach ([] : List Expr) X.env)).any (·.1) = false)) (hs2 : Rf (starEach [.Call (.Name "set" p2) [e] [] pos2] X.env = (false, eval (.Call (.Name "set" p2) [e] [] pos2) X.env) :: starEach [] X.env)) (hpl2 : Rf ((backTo pos (starEach ([] : List Expr) X.env)).any (·.1) = false)) : EO X Δ (.Call (.Name "sorted" p) [.Call (.Name "set" p2) [e] [] pos2] [] pos) ((srtU ns).map .int) := eo_srtSet hg hm hg2 hm2 ha hl hc.ok hs.ok hpl.ok hs2.ok hpl2.ok
/-- sorted(x), no number twice -/
theorem eo_srt (hg : Gl X "sorted") (hm : X.mg "sorted" = none) (ha : EV X Δ false e (.lst (ns.map D.int))) (hn : ns.Nodup)
    (hs : starEach [e] X.env = (false, eval e X.env) :: starEach [] X.env := by rfl) (hpl : (backTo pos (starEach ([] : List Expr) X.env)).any (·.1) = false := by rfl) :
    EO X Δ (.Call (.Name "sorted" p) [e] [] pos) ((srtU ns).map .int) := by
  intro G0 H0 F H σ S Q q
  refine eU (pe_callB cr_sortedI hg hm bt_sorted (pa_cons pe_u pa_nil hs) (by decide) (by decide) hs hpl) ?_
  refine ha G0 H0 F H σ S _ fun v F' H' x r => ?_
  obtain ⟨a, vs, rfl, g, l⟩ := r_lst.mp r
  rw [l.ints] at g
  refine ⟨a, ns, rfl, SqL.of g, fun zs p3 hp hup n3 => ?_⟩
  have e1 : zs = srtU ns := srt_of hp hup hn
  subst e1
  have s2 := Sub.new (o := HO.lst ((srtU ns).map V.int)) n3
  exact q p3 _ F' _ (x.tr (Ext.grow x.fh s2)) (x.h.none n3) upd_same (x.fh.none n3) RL.of_ints
theorem eo_srt_a (hg : Gl X "sorted") (hm : X.mg "sorted" = none) (ha : EV X Δ false e (.lst (ns.map D.int))) (hn : ns.Nodup) (hs : Rf (starEach [e] X.env = (false, eval e X.env) :: starEach [] X.env)) (hpl : Rf ((backTo pos (starEach ([] : List Expr) X.env)).any (·.1) = false)) : EO X Δ (.Call (.Name "sorted" p) [e] [] pos) ((srtU ns).map .int) := eo_srt hg hm ha hn hs.ok hpl.ok
end
end Z

namespace Z
open PySem PySem.Spec PyProof.Rows L2
variable [τ : Tb]

/-! ### trees told in part, trees moved out of slots -/
section
variable {K : PySem.W.Frag} {G0 H0 F H F' H' : Hp} {σ : L2.St} {Δ : List Sl} {fp : Nat → List Addr}
theorem Fps.ext (P : Fps K H0 F H σ Δ fp) (e : Ext F H F' H') : Fps K H0 F' H' σ Δ fp := by
  refine ⟨fun i s x e1 e2 => ?_, fun i a ha => ?_, P.dj⟩
  · have o := P.ok i s x e1 e2
    cases s with
    | u => trivial
    | v d => obtain ⟨h1, y, h2, h3⟩ := o; exact ⟨h1, y, h2, h3.mono e.f⟩
    | w q t => obtain ⟨y, h2, h3, h4⟩ := o; exact ⟨y, h2, h3.mono e.f _ _ _ (fun a ha => sub_eq e.h (P.nw i a ha).2.2), h4⟩
    | k kvs => obtain ⟨a, h1, h2, h3⟩ := o; exact ⟨a, h1, h2, by rw [sub_eq e.h (P.nw i a (by rw [h2]; exact List.mem_singleton_self _)).2.2]; exact h3⟩
  · obtain ⟨h1, h2, h3⟩ := P.nw i a ha
    exact ⟨e.keepN h1 h3.ne, h2, e.h.ow h3⟩
/-- a slot given up -/
theorem Fps.drop (P : Fps K H0 F H σ Δ fp) (i : Nat) : Fps K H0 F H σ (Δ.set i .u) (fset fp i []) := by
  refine ⟨fun j s x e1 e2 => ?_, fun j a ha => ?_, fun j k a ne h1 h2 => ?_⟩
  · by_cases z : j = i
    · subst z
      rw [List.getElem?_set] at e1
      simp only [if_true] at e1
      split at e1
      · cases e1; trivial
      · cases e1
    · rw [List.getElem?_set_ne (Ne.symm z)] at e1
      rw [fset_ne z]
      exact P.ok j s x e1 e2
  · by_cases z : j = i
    · subst z; rw [fset_same] at ha; cases ha
    · rw [fset_ne z] at ha; exact P.nw j a ha
  · by_cases z : j = i
    · subst z; rw [fset_same] at h1; cases h1
    · rw [fset_ne z] at h1
      by_cases y : k = i
      · subst y; rw [fset_same] at h2; cases h2
      · rw [fset_ne y] at h2; exact P.dj j k a ne h1 h2
/-- what is so of a tree that was made or moved -/
structure Got (K : PySem.W.Frag) (G0 H0 F H : Hp) (σ : L2.St) (fp : Nat → List Addr) (H1 F1 : Hp) (H1' : Hp) (Δ' : List Sl) (t : T) (v : V) (f : List Addr) : Prop where
  x : Ext F H F1 H1'
  s : Stt K G0 H0 F1 H1' σ Δ'
  p : ∃ fp', Fps K H0 F1 H1' σ Δ' fp' ∧ (∀ i, ∀ a ∈ f, a ∉ fp' i) ∧ ∀ i, ∀ a ∈ fp' i, a ∈ fp i
  r : RT K F1 H1' t v f
  n : ∀ a ∈ f, F1 a = none ∧ H0 a = none
  o : ∀ a ∈ f, H a = none ∨ ∃ i, a ∈ fp i
end
/-- e evaluates to some tree and leaves slots, both of R -/
def ETX (X : Cx) (Δ : List Sl) (e : Expr) (R' : T → List Sl → Prop) : Prop :=
  ∀ (G0 H0 F H : Hp) (σ : L2.St) (fp : Nat → List Addr), Stt X.K G0 H0 F H σ Δ → Fps X.K H0 F H σ Δ fp → ∀ Q : VK,
    (∀ t Δ' v f F' H', R' t Δ' → Got X.K G0 H0 F H σ fp H F' H' Δ' t v f → Q v H') → uE X e σ H Q
/-- lists of such -/
structure GotL (K : PySem.W.Frag) (G0 H0 F H : Hp) (σ : L2.St) (fp : Nat → List Addr) (F1 : Hp) (H1' : Hp) (Δ' : List Sl) (ts : List T) (vs : List V) (f : List Addr) : Prop where
  x : Ext F H F1 H1'
  s : Stt K G0 H0 F1 H1' σ Δ'
  p : ∃ fp', Fps K H0 F1 H1' σ Δ' fp' ∧ (∀ i, ∀ a ∈ f, a ∉ fp' i) ∧ ∀ i, ∀ a ∈ fp' i, a ∈ fp i
  r : RTL K F1 H1' ts vs f
  n : ∀ a ∈ f, F1 a = none ∧ H0 a = none
  o : ∀ a ∈ f, H a = none ∨ ∃ i, a ∈ fp i
def ATX (X : Cx) (Δ : List Sl) (es : List Expr) (R' : List T → List Sl → Prop) : Prop :=
  ∀ (G0 H0 F H : Hp) (σ : L2.St) (fp : Nat → List Addr), Stt X.K G0 H0 F H σ Δ → Fps X.K H0 F H σ Δ fp → ∀ Q : List V → Hp → Prop,
    (∀ ts Δ' vs f F' H', R' ts Δ' → GotL X.K G0 H0 F H σ fp F' H' Δ' ts vs f → Q vs H') → uA X es σ H Q
section
variable {X : Cx} {Δ Δ' : List Sl} {m : Bool} {e a b c o : Expr} {es : List Expr} {d x y : D} {ds xs ys rs : List D} {pos p apos : Pos} {n : Str} {k i : Nat} {q : Option Addr} {t s : T} {ts : List T} {C : Out → Prop} {R' : T → List Sl → Prop} {RL' : List T → List Sl → Prop}
theorem etx_of (h : ET X Δ e t) : ETX X Δ e (fun t' Δ' => t' = t ∧ Δ' = Δ) := fun G0 H0 F H σ fp S P Q q =>
  h G0 H0 F H σ S Q fun v f F' H' x r n => q t Δ v f F' H' ⟨rfl, rfl⟩
    ⟨x, S.ext x, ⟨fp, P.ext x, fun i a ha hb => (P.nw i a hb).2.2.ne (n a ha).1, fun i a ha => ha⟩, r, fun a ha => ⟨(n a ha).2, S.h0.none (n a ha).1⟩, fun a ha => .inl (n a ha).1⟩
theorem ETX.mono {R2 : T → List Sl → Prop} (h : ETX X Δ e R') (k : ∀ t Δ', R' t Δ' → R2 t Δ') : ETX X Δ e R2 := fun G0 H0 F H σ fp S P Q q => h G0 H0 F H σ fp S P Q fun t Δ' v f F' H' r g => q t Δ' v f F' H' (k _ _ r) g
/-- a name's tree, moved -/
theorem etx_name (hN : X.N[i]? = some n) (hΔ : Δ[i]? = some (Sl.w q t)) (hv : Vis X.env.scope n := by first | exact Or.inl rfl | exact Or.inr (Or.inl rfl) | exact Or.inr (Or.inr rfl)) (hd : (n == ("__debug__" : Str)) = false := by decide) (hcd : (n == ("__classdict__" : Str)) = false := by decide) :
    ETX X Δ (.Name n pos) (fun t' Δ' => t' = t ∧ Δ' = Δ.set i .u) := by
  intro G0 H0 F H σ fp S P Q k
  obtain ⟨x, e⟩ := len_of S.len hΔ
  obtain ⟨y, rfl, r, _⟩ := P.ok i _ x hΔ e
  refine eU (pe_var hN hv hd hcd) ⟨y, e, k t _ y (fp i) F H ⟨rfl, rfl⟩ ⟨Ext.rf S.fh, S.drop, ⟨fset fp i [], P.drop i, fun j a ha hb => ?_, fun j a ha => ?_⟩, r, fun a ha => ⟨(P.nw i a ha).1, (P.nw i a ha).2.1⟩, fun a ha => .inr ⟨i, ha⟩⟩⟩
  · by_cases z : j = i
    · subst z; rw [fset_same] at hb; cases hb
    · rw [fset_ne z] at hb; exact P.dj j i a z hb ha
  · by_cases z : j = i
    · subst z; rw [fset_same] at ha; cases ha
    · rw [fset_ne z] at ha; exact ha
theorem etx_name_a (hN : X.N[i]? = some n) (hΔ : Δ[i]? = some (Sl.w q t)) (hv : Rv (Vis X.env.scope n)) (hd : Rd ((n == ("__debug__" : Str)) = false)) (hcd : Rd ((n == ("__classdict__" : Str)) = false)) : ETX X Δ (.Name n pos) (fun t' Δ' => t' = t ∧ Δ' = Δ.set i .u) := etx_name hN hΔ hv.ok hd.ok hcd.ok
theorem atx_nil : ATX X Δ [] (fun ts Δ' => ts = [] ∧ Δ' = Δ) := fun G0 H0 F H σ fp S P Q q =>
  aU pa_nil (q [] Δ [] [] F H ⟨rfl, rfl⟩ ⟨Ext.rf S.fh, S, ⟨fp, P, fun i a ha => (nomatch ha), fun i a ha => ha⟩, rtl_nil.mpr ⟨rfl, rfl⟩, fun a ha => (nomatch ha), fun a ha => (nomatch ha)⟩)
theorem atx_cons {R2 : T → List Sl → List T → List Sl → Prop} (h : ETX X Δ e R') (kk : ∀ t Δ1, R' t Δ1 → ATX X Δ1 es (R2 t Δ1)) (hs : starEach (e :: es) X.env = (false, eval e X.env) :: starEach es X.env := by rfl) :
    ATX X Δ (e :: es) (fun l Δ' => ∃ t ts Δ1, R' t Δ1 ∧ R2 t Δ1 ts Δ' ∧ l = t :: ts) := by
  intro G0 H0 F H σ fp S P Q k
  refine aU (pa_cons pe_u pa_u hs) (h G0 H0 F H σ fp S P _ fun t Δ1 v f1 F1 H1 hR g1 => ?_)
  obtain ⟨fp1, P1, d1, s1⟩ := g1.p
  refine kk t Δ1 hR G0 H0 F1 H1 σ fp1 g1.s P1 _ fun ts Δ2 vs f2 F2 H2 hR2 g2 => ?_
  obtain ⟨fp2, P2, d2, s2⟩ := g2.p
  have no2 : ∀ a ∈ f1, a ∉ f2 := fun a ha hb => by
    rcases g2.o a hb with z | ⟨i, z⟩
    · exact (g1.r.own _ _ _ a ha).ne z
    · exact d1 i a ha z
  refine k (t :: ts) Δ2 (v :: vs) (f1 ++ f2) F2 H2 ⟨t, ts, Δ1, hR, hR2, rfl⟩ ⟨g1.x.tr g2.x, g2.s, ⟨fp2, P2, fun i a ha hb => ?_, fun i a ha => s1 i a (s2 i a ha)⟩, rtl_cons.mpr ⟨v, vs, f1, f2, rfl, rfl, no2, g1.r.ext g2.x, g2.r⟩, fun a ha => ?_, fun a ha => ?_⟩
  · rcases List.mem_append.mp ha with ha | ha
    · exact d1 i a ha (s2 i a hb)
    · exact d2 i a ha hb
  · rcases List.mem_append.mp ha with ha | ha
    · exact ⟨g2.x.keepN (g1.n a ha).1 (g1.r.own _ _ _ a ha).ne, (g1.n a ha).2⟩
    · exact g2.n a ha
  · rcases List.mem_append.mp ha with ha | ha
    · exact g1.o a ha
    · rcases g2.o a ha with z | ⟨i, z⟩
      · exact .inl (g1.x.h.none z)
      · exact .inr ⟨i, s1 i a z⟩
theorem atx_cons_a {R2 : T → List Sl → List T → List Sl → Prop} (h : ETX X Δ e R') (kk : ∀ t Δ1, R' t Δ1 → ATX X Δ1 es (R2 t Δ1)) (hs : Rf (starEach (e :: es) X.env = (false, eval e X.env) :: starEach es X.env)) : ATX X Δ (e :: es) (fun l Δ' => ∃ t ts Δ1, R' t Δ1 ∧ R2 t Δ1 ts Δ' ∧ l = t :: ts) := atx_cons h kk hs.ok
theorem etx_tup {kk : Nat} (h : ATX X Δ es RL') (hl : ∀ ts Δ', RL' ts Δ' → ts.length ≤ 1000) : ETX X Δ (.Tuple es kk pos) (fun t Δ' => ∃ ts, RL' ts Δ' ∧ t = .tp ts) := by
  intro G0 H0 F H σ fp S P Q k
  refine eU (pe_tup pa_u) (h G0 H0 F H σ fp S P _ fun ts Δ1 vs f F1 H1 hR g => ⟨Nat.le_of_lt (small1000 (by rw [g.r.length]; exact hl _ _ hR)), fun p np => ?_⟩)
  have x2 : Ext F1 H1 F1 (upd H1 p (.tup vs)) := Ext.grow g.x.fh (Sub.new np)
  have nf : p ∉ f := fun h => (g.r.own _ _ _ p h).ne np
  obtain ⟨fp1, P1, d1, s1⟩ := g.p
  refine k (.tp ts) Δ1 (.ref p) (p :: f) F1 _ ⟨ts, hR, rfl⟩ ⟨g.x.tr x2, g.s.ext x2, ⟨fp1, P1.ext x2, fun i a ha hb => ?_, s1⟩, rt_tp.mpr ⟨p, vs, f, rfl, rfl, nf, upd_same, g.r.ext x2⟩, fun a ha => ?_, fun a ha => ?_⟩
  · rcases List.mem_cons.mp ha with rfl | ha
    · exact (P1.nw i a hb).2.2.ne np
    · exact d1 i a ha hb
  · rcases List.mem_cons.mp ha with rfl | ha
    · exact ⟨g.x.fh.none np, S.h0.none (g.x.h.none np)⟩
    · exact g.n a ha
  · rcases List.mem_cons.mp ha with rfl | ha
    · exact .inl (g.x.h.none np)
    · exact g.o a ha
/-- calls -/
theorem et_call {spec : List D → Res → Prop} (Fn : FnK X.prog X.w X.K X.mg X.base CX0 n k spec) (hr : Room k X.A) (hg : Gl X n) (ha : AV X Δ true (e :: es) ds) (hs : spec ds (.t t)) (hdb : (n == ("__debug__" : Str)) = false := by decide)
    (he : starEach (e :: es) X.env = (false, eval e X.env) :: starEach es X.env := by rfl) (hpl : (backTo pos (starEach es X.env)).any (·.1) = false := by rfl) : ET X Δ (.Call (.Name n p) (e :: es) [] pos) t := by
  intro G0 H0 F H σ S Q q
  obtain ⟨f, fd, ps, F1, hm, hk, hb⟩ := Fn.ex
  refine eU (pe_call F1 hr hg hm hk hb .nil pass0 pa_u hdb he hpl) (ha G0 H0 F H σ S _ fun vs F' H' x r => ?_)
  show Pr X.K spec (vs ++ []) H' Q E0
  rw [List.append_nil]
  exact ⟨F', ds, _, x.fh, (S.ext x).nt, (S.ext x).tb, r, hs, fun v f G' H2 e2 r2 n2 => q v f G' H2 (x.tr e2) r2 fun a ha => ⟨x.h.none (n2 a ha).1, (n2 a ha).2⟩⟩
theorem et_call_a {spec : List D → Res → Prop} (Fn : FnK X.prog X.w X.K X.mg X.base CX0 n k spec) (hr : Room k X.A) (hg : Gl X n) (ha : AV X Δ true (e :: es) ds) (hs : spec ds (.t t)) (hdb : Rd ((n == ("__debug__" : Str)) = false)) (he : Rf (starEach (e :: es) X.env = (false, eval e X.env) :: starEach es X.env)) (hpl : Rf ((backTo pos (starEach es X.env)).any (·.1) = false)) : ET X Δ (.Call (.Name n p) (e :: es) [] pos) t := et_call Fn hr hg ha hs hdb.ok he.ok hpl.ok
/-- e evaluates to some new tree of R -/
def ETE (X : Cx) (Δ : List Sl) (e : Expr) (R2 : T → Prop) : Prop :=
  ∀ (G0 H0 F H : Hp) (σ : L2.St), Stt X.K G0 H0 F H σ Δ → ∀ Q : VK, (∀ t v f F' H', R2 t → Ext F H F' H' → RT X.K F' H' t v f → (∀ a ∈ f, H a = none ∧ F' a = none) → Q v H') → uE X e σ H Q
theorem ete_call {spec : List D → (Res → Prop) → Prop} {R2 : T → Prop} (Fn : FnE X.prog X.w X.K X.mg X.base CX0 n k spec) (hr : Room k X.A) (hg : Gl X n) (ha : AV X Δ true (e :: es) ds) (hs : spec ds (fun r => ∃ t, R2 t ∧ r = .t t)) (hdb : (n == ("__debug__" : Str)) = false := by decide)
    (he : starEach (e :: es) X.env = (false, eval e X.env) :: starEach es X.env := by rfl) (hpl : (backTo pos (starEach es X.env)).any (·.1) = false := by rfl) : ETE X Δ (.Call (.Name n p) (e :: es) [] pos) R2 := by
  intro G0 H0 F H σ S Q q
  obtain ⟨f, fd, ps, F1, hm, hk, hb⟩ := Fn.ex
  refine eU (pe_call F1 hr hg hm hk hb .nil pass0 pa_u hdb he hpl) (ha G0 H0 F H σ S _ fun vs F' H' x r => ?_)
  show PrE X.K spec (vs ++ []) H' Q E0
  rw [List.append_nil]
  refine ⟨F', ds, _, x.fh, (S.ext x).nt, (S.ext x).tb, r, hs, fun rr ⟨t, ht, e⟩ => ?_⟩
  subst e
  exact fun v f G' H2 e2 r2 n2 => q t v f G' H2 ht (x.tr e2) r2 fun a ha => ⟨x.h.none (n2 a ha).1, (n2 a ha).2⟩
theorem ete_call_a {spec : List D → (Res → Prop) → Prop} {R2 : T → Prop} (Fn : FnE X.prog X.w X.K X.mg X.base CX0 n k spec) (hr : Room k X.A) (hg : Gl X n) (ha : AV X Δ true (e :: es) ds) (hs : spec ds (fun r => ∃ t, R2 t ∧ r = .t t)) (hdb : Rd ((n == ("__debug__" : Str)) = false)) (he : Rf (starEach (e :: es) X.env = (false, eval e X.env) :: starEach es X.env)) (hpl : Rf ((backTo pos (starEach es X.env)).any (·.1) = false)) : ETE X Δ (.Call (.Name n p) (e :: es) [] pos) R2 := ete_call Fn hr hg ha hs hdb.ok he.ok hpl.ok
theorem ETE.etx {R2 : T → Prop} (h : ETE X Δ e R2) : ETX X Δ e (fun t Δ' => R2 t ∧ Δ' = Δ) := fun G0 H0 F H σ fp S P Q q =>
  h G0 H0 F H σ S Q fun t v f F' H' ht x r n => q t Δ v f F' H' ⟨ht, rfl⟩
    ⟨x, S.ext x, ⟨fp, P.ext x, fun i a ha hb => (P.nw i a hb).2.2.ne (n a ha).1, fun i a ha => ha⟩, r, fun a ha => ⟨(n a ha).2, S.h0.none (n a ha).1⟩, fun a ha => .inl (n a ha).1⟩
/-- .. frozen at once -/
theorem ETE.eve {R2 : T → Prop} (h : ETE X Δ e R2) : EVE X Δ m e (fun d => ∃ t, R2 t ∧ d = t.d) := fun G0 H0 F H σ S Q q =>
  h G0 H0 F H σ S Q fun t v f F' H' ht x r n => by
    obtain ⟨x2, sF⟩ := frz_ext x n fun a ha => r.own _ _ _ a ha
    have rr : R X.K (frzF f F' H') t.d v := r.r sF _ _ _ fun a ha => if_pos ha
    refine q t.d v _ H' ⟨t, ht, rfl⟩ x2 ?_
    cases m with
    | true => exact rr
    | false => exact R.mono (show Sub (frzF f F' H') H' from x2.fh) _ _ rr
theorem EVE.toEv {R2 : D → Prop} (h : EVE X Δ m e R2) (k : ∀ d', R2 d' → d' = d) : EV X Δ m e d := fun G0 H0 F H σ S Q q => h G0 H0 F H σ S Q fun d' v F' H' hd x r => q v F' H' x (k d' hd ▸ r)
/-! statements -/
theorem Got.set {G0 H0 F H F' H' : Hp} {σ : L2.St} {fp : Nat → List Addr} {v : V} {f : List Addr} (g : Got X.K G0 H0 F H σ fp H F' H' Δ' t v f) (i : Nat) : Stt X.K G0 H0 F' H' (σ.set i (some v)) (Δ'.set i (.w none t)) := by
  obtain ⟨fp', P', d', s'⟩ := g.p
  have S := g.s
  refine ⟨S.g, S.fh, S.h0, S.fr, S.nt, S.tb, by rw [List.length_set, List.length_set]; exact S.len, fset fp' i f, ?_⟩
  exact P'.chg (Sub.rf _) (fun j _ a ha => ⟨(P'.nw j a ha).1, rfl⟩) ⟨v, rfl, g.r, fun a h => (nomatch h)⟩ (fun a ha => ⟨(g.n a ha).1, (g.n a ha).2, g.r.own _ _ _ a ha⟩) fun j _ a ha hf => d' j a hf ha
theorem sm_settX {i : Nat} {p1 : Pos} (hN : X.N.Nodup) (hi : X.N[i]? = some n) (hl : Loc X.env.scope n) (h : ETX X Δ e R') (k : ∀ t Δ', R' t Δ' → C (.nx (Δ'.set i (.w none t)))) (hs : swapsWith e (some (.Name n p1)) pos.line X.env = pure false := by rfl) (hf : X.fn n = true ∨ X.env.scope.names.lookup n = some .local := by first | exact .inl rfl | exact .inr rfl) :
    Sm X (.Assign [.Name n p1] e pos) Δ C := fun G0 H0 F H σ S D q => by
  obtain ⟨fp, P⟩ := S.sl
  exact sU1 (ps_set hN hi hl pe_u hs hf) (h G0 H0 F H σ fp S P _ fun t Δ' v f F' H' hR g => q _ (k t Δ' hR) F' H' _ (g.set i))
theorem sm_settX_a {i : Nat} {p1 : Pos} (hN : X.N.Nodup) (hi : X.N[i]? = some n) (hl : Loc X.env.scope n) (h : ETX X Δ e R') (k : ∀ t Δ', R' t Δ' → C (.nx (Δ'.set i (.w none t)))) (hs : Rf (swapsWith e (some (.Name n p1)) pos.line X.env = pure false)) (hf : Rl (X.fn n = true ∨ X.env.scope.names.lookup n = some .local)) : Sm X (.Assign [.Name n p1] e pos) Δ C := sm_settX hN hi hl h k hs.ok hf.ok
theorem sm_retX (h : ETX X Δ e R') (k : ∀ t Δ', R' t Δ' → C (.rt (.t t) Δ')) : Sm X (.Return (some e) pos) Δ C := fun G0 H0 F H σ S D q => by
  obtain ⟨fp, P⟩ := S.sl
  exact sU1 (ps_ret pe_u) (h G0 H0 F H σ fp S P _ fun t Δ' v f F' H' hR g => q _ (k t Δ' hR) F' H' σ v f g.s g.r fun a ha => g.n a ha)
/-! a tree's parts, each to a name -/
/-- what a slot holds of a tree -/
def slT : T → Sl
  | .fz d => .v d | .ls ts => .w none (.ls ts) | .tp ts => .w none (.tp ts) | .ob C fs => .w none (.ob C fs)
theorem slT_ok {K : PySem.W.Frag} {F H : Hp} {v : V} {f : List Addr} (r : RT K F H t v f) : SlOk K F H (slT t) (some v) f := by
  cases t with
  | fz d => obtain ⟨e, r⟩ := rt_fz.mp r; exact ⟨e, v, rfl, r⟩
  | ls ts => exact ⟨v, rfl, r, fun a h => (nomatch h)⟩
  | tp ts => exact ⟨v, rfl, r, fun a h => (nomatch h)⟩
  | ob C fs => exact ⟨v, rfl, r, fun a h => (nomatch h)⟩
def GTs (X : Cx) (es : List Expr) (ts : List T) (Δ Δ' : List Sl) : Prop :=
  ∀ (G0 H0 F H : Hp) (σ : L2.St) (fp : Nat → List Addr) (vs : List V) (f : List Addr), Stt X.K G0 H0 F H σ Δ → Fps X.K H0 F H σ Δ fp → RTL X.K F H ts vs f → (∀ a ∈ f, F a = none ∧ H0 a = none) → (∀ i, ∀ a ∈ f, a ∉ fp i) →
    ∃ t : TGs, PGs X es t ∧ ∀ Q : L2.St → Hp → Prop, (∀ σ', Stt X.K G0 H0 F H σ' Δ' → Q σ' H) → t vs σ H Q
theorem gts_nil : GTs X [] [] Δ Δ := fun G0 H0 F H σ fp vs f S P r n d => ⟨_, pgs_nil, fun Q q => ⟨(rtl_nil.mp r).1, q σ S⟩⟩
theorem gts_cons {p1 : Pos} {i : Nat} (hN : X.N.Nodup) (hi : X.N[i]? = some n) (hl : Loc X.env.scope n) (h : GTs X es ts (Δ.set i (slT t)) Δ') (hf : X.fn n = true ∨ X.env.scope.names.lookup n = some .local := by first | exact .inl rfl | exact .inr rfl)
    (hs : (assignEach (.Name n p1 :: es) X.env).map (·.2) = assign (.Name n p1) X.env :: (assignEach es X.env).map (·.2) := by rfl) : GTs X (.Name n p1 :: es) (t :: ts) Δ Δ' := by
  intro G0 H0 F H σ fp vs f S P r nn dj
  obtain ⟨v, vs', f1, f2, rfl, rfl, d12, r1, r2⟩ := rtl_cons.mp r
  refine ⟨_, pgs_cons pg_u (t := uG X (.Name n p1)) (u := fun vs σ H Q => ∃ t, PGs X es t ∧ t vs σ H Q) ⟨fun pins s σ H vs us Q I rr h => ?_⟩ hs, fun Q q => ⟨v, vs', rfl, gU (pg_name hN hi hl hf) ?_⟩⟩
  · obtain ⟨t, p, h⟩ := h
    exact p.run pins s σ H vs us Q I rr h
  · have P1 : Fps X.K H0 F H (σ.set i (some v)) (Δ.set i (slT t)) (fset fp i f1) :=
      P.chg (Sub.rf _) (fun j _ a ha => ⟨(P.nw j a ha).1, rfl⟩) (slT_ok r1) (fun a ha => ⟨(nn a (List.mem_append_left _ ha)).1, (nn a (List.mem_append_left _ ha)).2, r1.own _ _ _ a ha⟩) fun j _ a ha hb => dj j a (List.mem_append_left _ hb) ha
    have S1 : Stt X.K G0 H0 F H (σ.set i (some v)) (Δ.set i (slT t)) := ⟨S.g, S.fh, S.h0, S.fr, S.nt, S.tb, by rw [List.length_set, List.length_set]; exact S.len, _, P1⟩
    obtain ⟨tt, pg, kk⟩ := h G0 H0 F H _ _ vs' f2 S1 P1 r2 (fun a ha => nn a (List.mem_append_right _ ha)) fun j a ha hb => by
      by_cases z : j = i
      · subst z; rw [fset_same] at hb; exact d12 a hb ha
      · rw [fset_ne z] at hb; exact dj j a (List.mem_append_right _ ha) hb
    exact ⟨tt, pg, kk Q q⟩
theorem gts_cons_a {p1 : Pos} {i : Nat} (hN : X.N.Nodup) (hi : X.N[i]? = some n) (hl : Loc X.env.scope n) (h : GTs X es ts (Δ.set i (slT t)) Δ') (hf : Rl (X.fn n = true ∨ X.env.scope.names.lookup n = some .local)) (hs : Rf ((assignEach (.Name n p1 :: es) X.env).map (·.2) = assign (.Name n p1) X.env :: (assignEach es X.env).map (·.2))) : GTs X (.Name n p1 :: es) (t :: ts) Δ Δ' := gts_cons hN hi hl h hf.ok hs.ok
/-- a, b = e, e a tree of one's own -/
theorem sm_unp {kk : Nat} {p1 : Pos} (h : ETX X Δ e R') (g : ∀ t Δ1, R' t Δ1 → ∃ ts Δ', t = .tp ts ∧ GTs X es ts Δ1 Δ' ∧ C (.nx Δ') ∧ (assignEach es X.env).length = ts.length) (hc : X.calm = true := by rfl) (hst : (assignEach es X.env).findIdx? (·.1) = none := by rfl) (hs : swapsWithSole [.Tuple es kk p1] e pos.line X.env = pure false := by rfl) (hw : swappedStores [.Tuple es kk p1] e X.env = pure none := by rfl)
    (h1 : (assignEach [.Tuple es kk p1] X.env).map (·.2) = [assign (.Tuple es kk p1) X.env] := by rfl) : Sm X (.Assign [.Tuple es kk p1] e pos) Δ C := fun G0 H0 F H σ S D q => by
  obtain ⟨fp, P⟩ := S.sl
  refine sU1 (ps_asg pe_u pg_u hs hw h1) (h G0 H0 F H σ fp S P _ fun t Δ1 v f F' H' hR gt => ?_)
  obtain ⟨ts, Δ', rfl, gg, kc, hl⟩ := g t Δ1 hR
  obtain ⟨p, vs, f1, rfl, rfl, np, hp, rl⟩ := rt_tp.mp gt.r
  obtain ⟨fp', P', d', s'⟩ := gt.p
  obtain ⟨tt, pg, kq⟩ := gg G0 H0 F' H' σ fp' vs f1 gt.s P' rl (fun a ha => gt.n a (List.mem_cons_of_mem _ ha)) fun i a ha => d' i a (List.mem_cons_of_mem _ ha)
  exact gU (pg_tup hc pg hl hst) ⟨p, vs, rfl, SqT.of hp, rl.length, kq _ fun σ' S' => q _ kc F' H' σ' S'⟩
theorem sm_unp_a {kk : Nat} {p1 : Pos} (h : ETX X Δ e R') (g : ∀ t Δ1, R' t Δ1 → ∃ ts Δ', t = .tp ts ∧ GTs X es ts Δ1 Δ' ∧ C (.nx Δ') ∧ (assignEach es X.env).length = ts.length) (hc : Rf (X.calm = true)) (hst : Rf ((assignEach es X.env).findIdx? (·.1) = none)) (hs : Rf (swapsWithSole [.Tuple es kk p1] e pos.line X.env = pure false)) (hw : Rf (swappedStores [.Tuple es kk p1] e X.env = pure none)) (h1 : Rf ((assignEach [.Tuple es kk p1] X.env).map (·.2) = [assign (.Tuple es kk p1) X.env])) : Sm X (.Assign [.Tuple es kk p1] e pos) Δ C := sm_unp h g hc.ok hst.ok hs.ok hw.ok h1.ok
/-! the same, told outright -/
theorem ATX.mono {R2 : List T → List Sl → Prop} (h : ATX X Δ es RL') (k : ∀ t Δ', RL' t Δ' → R2 t Δ') : ATX X Δ es R2 := fun G0 H0 F H σ fp S P Q q => h G0 H0 F H σ fp S P Q fun t Δ' v f F' H' r g => q t Δ' v f F' H' (k _ _ r) g
theorem atx_x {Δ1 Δ2 : List Sl} (h : ETX X Δ e (fun t' Δ' => t' = t ∧ Δ' = Δ1)) (kk : ATX X Δ1 es (fun l Δ' => l = ts ∧ Δ' = Δ2)) (hs : starEach (e :: es) X.env = (false, eval e X.env) :: starEach es X.env := by rfl) : ATX X Δ (e :: es) (fun l Δ' => l = t :: ts ∧ Δ' = Δ2) :=
  (atx_cons h (R2 := fun _ _ l Δ' => l = ts ∧ Δ' = Δ2) (fun t' Δ' q => by obtain ⟨rfl, rfl⟩ := q; exact kk) hs).mono fun l Δ' q => by
    obtain ⟨t', ts', Δ1', ⟨rfl, _⟩, ⟨rfl, rfl⟩, rfl⟩ := q
    exact ⟨rfl, rfl⟩
theorem atx_x_a {Δ1 Δ2 : List Sl} (h : ETX X Δ e (fun t' Δ' => t' = t ∧ Δ' = Δ1)) (kk : ATX X Δ1 es (fun l Δ' => l = ts ∧ Δ' = Δ2)) (hs : Rf (starEach (e :: es) X.env = (false, eval e X.env) :: starEach es X.env)) : ATX X Δ (e :: es) (fun l Δ' => l = t :: ts ∧ Δ' = Δ2) := atx_x h kk hs.ok
theorem etx_tupE {kk : Nat} {Δ2 : List Sl} (h : ATX X Δ es (fun l Δ' => l = ts ∧ Δ' = Δ2)) (hl : ts.length ≤ 1000) : ETX X Δ (.Tuple es kk pos) (fun t Δ' => t = .tp ts ∧ Δ' = Δ2) :=
  (etx_tup h fun ts' Δ' q => by rw [q.1]; exact hl).mono fun t' Δ' q => by
    obtain ⟨ts', ⟨rfl, rfl⟩, rfl⟩ := q
    exact ⟨rfl, rfl⟩
theorem sm_retXE {Δ2 : List Sl} (h : ETX X Δ e (fun t' Δ' => t' = t ∧ Δ' = Δ2)) (k : C (.rt (.t t) Δ2)) : Sm X (.Return (some e) pos) Δ C := sm_retX h fun t' Δ' q => by obtain ⟨rfl, rfl⟩ := q; exact k
theorem sm_settXE {i : Nat} {p1 : Pos} {Δ2 : List Sl} (hN : X.N.Nodup) (hi : X.N[i]? = some n) (hl : Loc X.env.scope n) (h : ETX X Δ e (fun t' Δ' => t' = t ∧ Δ' = Δ2)) (k : C (.nx (Δ2.set i (.w none t)))) (hs : swapsWith e (some (.Name n p1)) pos.line X.env = pure false := by rfl) (hf : X.fn n = true ∨ X.env.scope.names.lookup n = some .local := by first | exact .inl rfl | exact .inr rfl) :
    Sm X (.Assign [.Name n p1] e pos) Δ C := sm_settX hN hi hl h (fun t' Δ' q => by obtain ⟨rfl, rfl⟩ := q; exact k) hs hf
theorem sm_settXE_a {i : Nat} {p1 : Pos} {Δ2 : List Sl} (hN : X.N.Nodup) (hi : X.N[i]? = some n) (hl : Loc X.env.scope n) (h : ETX X Δ e (fun t' Δ' => t' = t ∧ Δ' = Δ2)) (k : C (.nx (Δ2.set i (.w none t)))) (hs : Rf (swapsWith e (some (.Name n p1)) pos.line X.env = pure false)) (hf : Rl (X.fn n = true ∨ X.env.scope.names.lookup n = some .local)) : Sm X (.Assign [.Name n p1] e pos) Δ C := sm_settXE hN hi hl h k hs.ok hf.ok
theorem sm_unpE {kk : Nat} {p1 : Pos} {Δ1 : List Sl} (h : ETX X Δ e (fun t' Δ' => t' = .tp ts ∧ Δ' = Δ1)) (g : GTs X es ts Δ1 Δ') (k : C (.nx Δ')) (hl : (assignEach es X.env).length = ts.length := by rfl) (hc : X.calm = true := by rfl) (hst : (assignEach es X.env).findIdx? (·.1) = none := by rfl) (hs : swapsWithSole [.Tuple es kk p1] e pos.line X.env = pure false := by rfl) (hw : swappedStores [.Tuple es kk p1] e X.env = pure none := by rfl)
    (h1 : (assignEach [.Tuple es kk p1] X.env).map (·.2) = [assign (.Tuple es kk p1) X.env] := by rfl) : Sm X (.Assign [.Tuple es kk p1] e pos) Δ C :=
  sm_unp h (fun t' Δ1' q => by obtain ⟨rfl, rfl⟩ := q; exact ⟨ts, Δ', rfl, g, k, hl⟩) hc hst hs hw h1
theorem sm_unpE_a {kk : Nat} {p1 : Pos} {Δ1 : List Sl} (h : ETX X Δ e (fun t' Δ' => t' = .tp ts ∧ Δ' = Δ1)) (g : GTs X es ts Δ1 Δ') (k : C (.nx Δ')) (hl : Rf ((assignEach es X.env).length = ts.length)) (hc : Rf (X.calm = true)) (hst : Rf ((assignEach es X.env).findIdx? (·.1) = none)) (hs : Rf (swapsWithSole [.Tuple es kk p1] e pos.line X.env = pure false)) (hw : Rf (swappedStores [.Tuple es kk p1] e X.env = pure none)) (h1 : Rf ((assignEach [.Tuple es kk p1] X.env).map (·.2) = [assign (.Tuple es kk p1) X.env])) : Sm X (.Assign [.Tuple es kk p1] e pos) Δ C := sm_unpE h g k hl.ok hc.ok hst.ok hs.ok hw.ok h1.ok
/-! ### lists whose items stay as they are -/
/-- e evaluates to a list, frozen or one's own, of frozen things -/
def EFL (X : Cx) (Δ : List Sl) (e : Expr) (xs : List D) : Prop :=
  ∀ (G0 H0 F H : Hp) (σ : L2.St), Stt X.K G0 H0 F H σ Δ → ∀ Q : VK, (∀ a vs F' H', Ext F H F' H' → H' a = some (.lst vs) → RL X.K F' xs vs → Q (.ref a) H') → uE X e σ H Q
theorem efl_v (h : EV X Δ true e (.lst xs)) : EFL X Δ e xs := fun G0 H0 F H σ S Q q => h G0 H0 F H σ S Q fun v F' H' x r => by
  obtain ⟨a, vs, rfl, g, l⟩ := r_lst.mp r
  exact q a vs F' H' x (x.fh _ _ g) l
theorem efl_o (h : EO X Δ e xs) : EFL X Δ e xs := fun G0 H0 F H σ S Q q => h G0 H0 F H σ S Q fun p vs F' H' x n h1 f1 r => q p vs F' H' x h1 r
theorem efl_P (h : EP X Δ e i π) (hΔ : Δ[i]? = some (Sl.w q t)) (hg : T.get π t = some (T.l xs)) : EFL X Δ e xs := fun G0 H0 F H σ S Q k => h G0 H0 F H σ S Q fun y w F' H' x hy hp => by
  obtain ⟨f, r⟩ := at_path (S.ext x) hΔ hg hy hp
  obtain ⟨a, vs, rfl, _, g, l⟩ := rt_l.mp r
  exact k a vs F' H' x g l
theorem efl_w (hN : X.N[i]? = some n) (hΔ : Δ[i]? = some (Sl.w q (T.l xs))) (hv : Vis X.env.scope n := by first | exact Or.inl rfl | exact Or.inr (Or.inl rfl) | exact Or.inr (Or.inr rfl)) (hd : (n == ("__debug__" : Str)) = false := by decide) (hcd : (n == ("__classdict__" : Str)) = false := by decide) : EFL X Δ (.Name n pos) xs :=
  efl_P (ep_name hN hΔ hv hd hcd) hΔ (by rw [T.get])
theorem efl_w_a (hN : X.N[i]? = some n) (hΔ : Δ[i]? = some (Sl.w q (T.l xs))) (hv : Rv (Vis X.env.scope n)) (hd : Rd ((n == ("__debug__" : Str)) = false)) (hcd : Rd ((n == ("__classdict__" : Str)) = false)) : EFL X Δ (.Name n pos) xs := efl_w hN hΔ hv.ok hd.ok hcd.ok
/-- a + b -/
theorem eo_catL (ha : EFL X Δ a xs) (hb : EFL X Δ b ys) (hc : xs.length + ys.length ≤ sizeLine) : EO X Δ (.BinOp a .Add b pos) (xs ++ ys) := by
  intro G0 H0 F H σ S Q q
  refine eU (pe_op op_cat pe_u pe_u) (ha G0 H0 F H σ S _ fun p1 v1 F1 H1 x1 g1 l1 => hb G0 H0 F1 H1 σ (S.ext x1) _ fun p2 v2 F2 H2 x2 g2 l2 => ?_)
  have x := x1.tr x2
  refine ⟨p1, p2, v1, v2, rfl, rfl, x2.h.k _ _ g1 (fun _ z => nomatch z), g2, by rw [l1.length, l2.length]; exact hc, fun p n => ?_⟩
  exact q p (v1 ++ v2) F2 _ (x.tr (Ext.grow x.fh (Sub.new n))) (x.h.none n) upd_same (x.fh.none n) ((l1.mono x2.f).append l2)
/-- list(e) -/
theorem eo_listL (hg : Gl X "list") (hm : X.mg "list" = none) (ha : EFL X Δ e xs) (hs : starEach [e] X.env = (false, eval e X.env) :: starEach [] X.env := by rfl) (hpl : (backTo pos (starEach ([] : List Expr) X.env)).any (·.1) = false := by rfl) : EO X Δ (.Call (.Name "list" p) [e] [] pos) xs := by
  intro G0 H0 F H σ S Q q
  refine eU (pe_callTy call_list_of hg hm bt_list (pa_cons pe_u pa_nil hs) (by decide) (by decide) hs hpl) (ha G0 H0 F H σ S _ fun a vs F' H' x g l => ?_)
  exact ⟨a, vs, rfl, .inl (SqL.of g), fun l2 n2 => q l2 vs F' _ (x.tr (Ext.grow x.fh (Sub.new n2))) (x.h.none n2) upd_same (x.fh.none n2) l⟩
theorem eo_listL_a (hg : Gl X "list") (hm : X.mg "list" = none) (ha : EFL X Δ e xs) (hs : Rf (starEach [e] X.env = (false, eval e X.env) :: starEach [] X.env)) (hpl : Rf ((backTo pos (starEach ([] : List Expr) X.env)).any (·.1) = false)) : EO X Δ (.Call (.Name "list" p) [e] [] pos) xs := eo_listL hg hm ha hs.ok hpl.ok
/-- e[j] -/
theorem ev_ixL {j : Int} (ha : EFL X Δ a xs) (hb : EV X Δ false b (.int j)) (h : atI xs j = some d) (hs : PlainIx b := by exact fun _ _ => rfl) : EV X Δ m (.Subscript a b pos) d := by
  refine EV.weak fun G0 H0 F H σ S Q q => ?_
  refine eU (pe_ix ix_list pe_u pe_u hs) (ha G0 H0 F H σ S _ fun p vs F1 H1 x1 g1 l1 => hb G0 H0 F1 H1 σ (S.ext x1) _ fun w F2 H2 x2 r2 => ?_)
  obtain ⟨u, f1, f2⟩ := l1.at h
  exact ⟨p, vs, j, u, rfl, r_int.mp r2, SqL.of (x2.h.k _ _ g1 (fun _ z => nomatch z)), f1, q _ F2 H2 (x1.tr x2) (f2.mono x2.f)⟩
theorem ev_ixL_a {j : Int} (ha : EFL X Δ a xs) (hb : EV X Δ false b (.int j)) (h : atI xs j = some d) (hs : Rx (PlainIx b)) : EV X Δ m (.Subscript a b pos) d := ev_ixL ha hb h hs.ok
end
end Z

namespace Z
open PySem PySem.Spec PyProof.Rows L2
variable [τ : Tb]

/-! ### a dict of ints of one's own -/
def getI (kvs : List (Int × Int)) (k : Int) : Option Int := (kvs.find? fun p => decide (p.1 = k)).map (·.2)
def putI (kvs : List (Int × Int)) (k v : Int) : List (Int × Int) :=
  if (kvs.any fun p => decide (p.1 = k)) = true then kvs.map (fun p => if p.1 = k then (p.1, v) else p) else kvs ++ [(k, v)]
theorem valV_kvD (k : Int) : ∀ kvs : List (Int × Int), valV (kvs.map kvD) (Sum.inl k : L2.Key) = (getI kvs k).map V.int
  | [] => rfl
  | p :: kvs => by
    by_cases e : p.1 = k
    · rw [List.map_cons, valV_pos (by show (Sum.inl p.1 : L2.Key) = _; rw [e])]
      simp [getI, e, kvD]
    · rw [List.map_cons, valV_neg (fun z => e (Sum.inl.inj z)), valV_kvD k kvs]
      simp [getI, e]
theorem putK_kvD (k v : Int) (kvs : List (Int × Int)) : putK (kvs.map kvD) (Sum.inl k : L2.Key) (V.int v) = (putI kvs k v).map kvD := by
  have ea : ((kvs.map kvD).any fun kv => decide (kv.1 = (Sum.inl k : L2.Key))) = kvs.any fun p => decide (p.1 = k) := by
    rw [List.any_map]
    congr 1
    funext p
    by_cases e : p.1 = k
    · simp [kvD, e]
    · have : ¬ ((kvD p).1 = (Sum.inl k : L2.Key)) := fun z => e (Sum.inl.inj z)
      simp [e, this]
  unfold putK putI
  rw [ea]
  split
  · rw [List.map_map, List.map_map]
    apply List.map_congr_left
    intro p _
    show (if (kvD p).1 = (Sum.inl k : L2.Key) then _ else _) = kvD (if p.1 = k then _ else _)
    by_cases e : p.1 = k
    · rw [if_pos (by show (Sum.inl p.1 : L2.Key) = _; rw [e]), if_pos e]; rfl
    · rw [if_neg (show ¬ (kvD p).1 = (Sum.inl k : L2.Key) from fun z => e (Sum.inl.inj z)), if_neg e]
  · rw [List.map_append]; rfl
theorem getI_put (k v j : Int) (kvs : List (Int × Int)) : getI (putI kvs k v) j = if j = k then some v else getI kvs j := by
  have key : ∀ l : List (Int × Int), getI (l.map (fun p => if p.1 = k then (p.1, v) else p)) j = (getI l j).map fun x => if j = k then v else x := fun l => by
    induction l with
    | nil => rfl
    | cons p l ih =>
      unfold getI at ih ⊢
      rw [List.map_cons]
      by_cases h : p.1 = k
      · rw [if_pos h]
        by_cases e : p.1 = j
        · simp [List.find?_cons, e, ← h]
        · simp only [List.find?_cons, decide_eq_false e]; exact ih
      · rw [if_neg h]
        by_cases e : p.1 = j
        · have : ¬ j = k := fun z => h (e.trans z)
          simp [List.find?_cons, e, this]
        · simp only [List.find?_cons, decide_eq_false e]; exact ih
  unfold putI
  split
  · rename_i ha
    rw [key]
    by_cases e : j = k
    · subst e
      obtain ⟨p, hp, hk⟩ := List.any_eq_true.mp ha
      cases g : getI kvs j with
      | some x => simp
      | none =>
        unfold getI at g
        rw [Option.map_eq_none_iff, List.find?_eq_none] at g
        exact absurd hk (g p hp)
    · rw [if_neg e]
      cases getI kvs j <;> simp [e]
  · rename_i ha
    unfold getI
    rw [List.find?_append]
    by_cases e : j = k
    · subst e
      have : (kvs.find? fun p => decide (p.1 = j)) = none := by
        rw [List.find?_eq_none]
        intro p hp hk
        exact ha (List.any_eq_true.mpr ⟨p, hp, hk⟩)
      rw [this]; simp
    · rw [if_neg e]
      cases kvs.find? fun p => decide (p.1 = j) with
      | some x => simp
      | none =>
        have : ¬ k = j := fun z => e z.symm
        simp [this]
section
variable {X : Cx} {Δ : List Sl} {m : Bool} {e a b o f : Expr} {pos p p1 p2 apos cpos mpos : Pos} {n : Str} {i : Nat} {kvs : List (Int × Int)} {C : Out → Prop}
theorem Stt.dict {K : PySem.W.Frag} {G0 H0 F H : Hp} {σ : L2.St} {Δ : List Sl} (S : Stt K G0 H0 F H σ Δ) (h : Δ[i]? = some (Sl.k kvs)) : ∃ a fp, σ[i]? = some (some (V.ref a)) ∧ H a = some (.dK (kvs.map kvD)) ∧ Fps K H0 F H σ Δ fp ∧ fp i = [a] := by
  obtain ⟨fp, P⟩ := S.sl
  obtain ⟨x, e⟩ := len_of S.len h
  obtain ⟨a, rfl, h2, h3⟩ := P.ok i _ x h e
  exact ⟨a, fp, e, h3, P, h2⟩
/-- x = {} -/
theorem sm_newd (hN : X.N.Nodup) (hi : X.N[i]? = some n) (hl : Loc X.env.scope n) (k : C (.nx (Δ.set i (.k [])))) (hs : swapsWith (.Dict [] [] pos) (some (.Name n p1)) p.line X.env = pure false := by rfl) (hf : X.fn n = true ∨ X.env.scope.names.lookup n = some .local := by first | exact .inl rfl | exact .inr rfl) :
    Sm X (.Assign [.Name n p1] (.Dict [] [] pos) p) Δ C := fun G0 H0 F H σ S D q => by
  refine sU1 (ps_set hN hi hl pe_dnewK hs hf) fun a na => ?_
  have x : Ext F H F (upd H a (.dK [])) := Ext.grow S.fh (Sub.new na)
  refine q _ k F _ _ ?_
  have Se := S.ext x
  obtain ⟨fp, P⟩ := S.sl
  have P2 := P.ext x
  refine ⟨Se.g, Se.fh, Se.h0, Se.fr, Se.nt, Se.tb, by rw [List.length_set, List.length_set]; exact S.len, fset fp i [a], ?_⟩
  have old : ∀ j, ∀ b ∈ fp j, b ≠ a := fun j b hb z => by subst z; exact (P.nw j b hb).2.2.ne na
  refine P2.chg (Sub.rf _) (fun j _ b hb => ⟨(P2.nw j b hb).1, rfl⟩) ⟨a, rfl, rfl, upd_same⟩ (fun b hb => ?_) fun j _ b hb hc => old j b hb (List.mem_singleton.mp hc)
  rw [List.mem_singleton.mp hb]
  exact ⟨S.fh.none na, S.h0.none na, ⟨_, upd_same, fun _ z => nomatch z⟩⟩
theorem sm_newd_a (hN : X.N.Nodup) (hi : X.N[i]? = some n) (hl : Loc X.env.scope n) (k : C (.nx (Δ.set i (.k [])))) (hs : Rf (swapsWith (.Dict [] [] pos) (some (.Name n p1)) p.line X.env = pure false)) (hf : Rl (X.fn n = true ∨ X.env.scope.names.lookup n = some .local)) : Sm X (.Assign [.Name n p1] (.Dict [] [] pos) p) Δ C := sm_newd hN hi hl k hs.ok hf.ok
/-- x[e] = v -/
theorem sm_putd {k v : Int} (hu : X.A.units + 1 < cLine) (hN : X.N[i]? = some n) (hΔ : Δ[i]? = some (Sl.k kvs)) (h : EV X Δ false e (.int v)) (hj : EV X Δ false a (.int k)) (hl : kvs.length < sizeLine) (kk : C (.nx (Δ.set i (.k (putI kvs k v))))) (hv : Vis X.env.scope n := by first | exact Or.inl rfl | exact Or.inr (Or.inl rfl) | exact Or.inr (Or.inr rfl))
    (hd : (n == ("__debug__" : Str)) = false := by decide) (hcd : (n == ("__classdict__" : Str)) = false := by decide)
    (hs : swapsWith e (some (.Subscript (.Name n p1) a p2)) pos.line X.env = pure false := by rfl) : Sm X (.Assign [.Subscript (.Name n p1) a p2] e pos) Δ C := fun G0 H0 F H σ S D q => by
  refine sU1 (ps_dput hu (pe_var hN hv hd hcd) pe_u pe_u hs) (h G0 H0 F H σ S _ fun w F1 H1 x1 r1 => ?_)
  have S1 := S.ext x1
  obtain ⟨ad, fp1, e1, g1, P1, f1⟩ := S1.dict hΔ
  refine ⟨.ref ad, e1, hj G0 H0 F1 H1 σ S1 _ fun y F2 H2 x2 r2 => ?_⟩
  have S2 := S1.ext x2
  have P2 := P1.ext x2
  have g2 : H2 ad = some (.dK (kvs.map kvD)) := x2.h.k _ _ g1 (fun _ z => nomatch z)
  refine ⟨ad, _, rfl, by rw [r_int.mp r2, r_int.mp r1]; exact DPut.k (k := Sum.inl k) g2 (by rw [List.length_map]; exact hl), ?_⟩
  rw [putK_kvD]
  refine q _ kk F2 _ σ ?_
  have own := P2.nw i ad (by rw [f1]; exact List.mem_singleton_self _)
  have sb : Sub F2 (upd H2 ad (.dK ((putI kvs k v).map kvD))) := fun b u eb => by
    by_cases z : b = ad
    · subst z; rw [own.1] at eb; cases eb
    · rw [upd_ne z]; exact S2.fh b u eb
  have gw : Grow H0 (upd H2 ad (.dK ((putI kvs k v).map kvD))) := S2.h0.wr own.2.1 g2 (fun _ z => nomatch z) (fun _ z => nomatch z)
  refine ⟨S2.g, sb, gw, S2.fr, S2.nt, ?_, by rw [List.length_set]; exact S2.len, fset fp1 i [ad], ?_⟩
  · exact (GwX.put1 (u := .dK ((putI kvs k v).map kvD)) (Grow.rf H2) g2 (fun _ z => nomatch z) (fun _ z => nomatch z)).t S2.tb
  · have e3 : σ.set i (some (V.ref ad)) = σ := set_self e1
    have := P2.chg (i := i) (s := .k (putI kvs k v)) (x := some (V.ref ad)) (f := [ad]) (F' := F2) (H' := upd H2 ad (.dK ((putI kvs k v).map kvD))) (Sub.rf _) (fun j hj b hb => ⟨(P2.nw j b hb).1, upd_ne fun z => P2.dj j i b hj hb (by rw [f1, z]; exact List.mem_singleton_self _)⟩) ⟨ad, rfl, rfl, upd_same⟩ (fun b hb => by
      rw [List.mem_singleton.mp hb]
      exact ⟨own.1, own.2.1, ⟨_, upd_same, fun _ z => nomatch z⟩⟩) fun j hj b hb hc => P2.dj j i b hj hb (by rw [f1]; exact hc)
    rw [e3] at this
    exact this
theorem sm_putd_a {k v : Int} (hu : X.A.units + 1 < cLine) (hN : X.N[i]? = some n) (hΔ : Δ[i]? = some (Sl.k kvs)) (h : EV X Δ false e (.int v)) (hj : EV X Δ false a (.int k)) (hl : kvs.length < sizeLine) (kk : C (.nx (Δ.set i (.k (putI kvs k v))))) (hv : Rv (Vis X.env.scope n)) (hd : Rd ((n == ("__debug__" : Str)) = false)) (hcd : Rd ((n == ("__classdict__" : Str)) = false)) (hs : Rf (swapsWith e (some (.Subscript (.Name n p1) a p2)) pos.line X.env = pure false)) : Sm X (.Assign [.Subscript (.Name n p1) a p2] e pos) Δ C := sm_putd hu hN hΔ h hj hl kk hv.ok hd.ok hcd.ok hs.ok
/-- x.get(e, f) -/
theorem ev_getd {k v : Int} (hu : X.A.units + 1 < cLine) (hN : X.N[i]? = some n) (hΔ : Δ[i]? = some (Sl.k kvs)) (he : EV X Δ false e (.int k)) (hf : EV X Δ false f (.int v)) (mm : M2 X (.Name n p1) "get" apos e f cpos) (hv : Vis X.env.scope n := by first | exact Or.inl rfl | exact Or.inr (Or.inl rfl) | exact Or.inr (Or.inr rfl))
    (hd : (n == ("__debug__" : Str)) = false := by decide) (hcd : (n == ("__classdict__" : Str)) = false := by decide) : EV X Δ m (.Call (.Attribute (.Name n p1) "get" apos) [e, f] [] cpos) (.int ((getI kvs k).getD v)) := EV.up (fun G0 H0 F H σ S Q q => by
  obtain ⟨ad, fp, e1, g, P, f1⟩ := S.dict hΔ
  refine eU (pe_dget2 hu (pe_var hN hv hd hcd) pe_u pe_u mm) ⟨.ref ad, e1, ad, rfl, .inl ⟨_, .inl g⟩, he G0 H0 F H σ S _ fun y F1 H1 x1 r1 => hf G0 H0 F1 H1 σ (S.ext x1) _ fun z F2 H2 x2 r2 => ?_⟩
  have g2 : H2 ad = some (.dK (kvs.map kvD)) := x2.h.k _ _ (x1.h.k _ _ g (fun _ z => nomatch z)) (fun _ z => nomatch z)
  refine ⟨valV (kvs.map kvD) (Sum.inl k : L2.Key), by rw [r_int.mp r1]; exact DGet.k (k := Sum.inl k) g2, ?_⟩
  rw [valV_kvD, r_int.mp r2]
  have : ((getI kvs k).map V.int).getD (V.int v) = V.int ((getI kvs k).getD v) := by cases getI kvs k <;> rfl
  rw [this]
  exact q _ F2 H2 (x1.tr x2) (r_int.mpr rfl)) rfl
theorem ev_getd_a {k v : Int} (hu : X.A.units + 1 < cLine) (hN : X.N[i]? = some n) (hΔ : Δ[i]? = some (Sl.k kvs)) (he : EV X Δ false e (.int k)) (hf : EV X Δ false f (.int v)) (mm : M2 X (.Name n p1) "get" apos e f cpos) (hv : Rv (Vis X.env.scope n)) (hd : Rd ((n == ("__debug__" : Str)) = false)) (hcd : Rd ((n == ("__classdict__" : Str)) = false)) : EV X Δ m (.Call (.Attribute (.Name n p1) "get" apos) [e, f] [] cpos) (.int ((getI kvs k).getD v)) := ev_getd hu hN hΔ he hf mm hv.ok hd.ok hcd.ok
/-- min(x.values()) -/
theorem ev_mind (hg : Gl X "min") (hm : X.mg "min" = none) (hN : X.N[i]? = some n) (hΔ : Δ[i]? = some (Sl.k kvs)) (hne : kvs ≠ []) (hv : Vis X.env.scope n := by first | exact Or.inl rfl | exact Or.inr (Or.inl rfl) | exact Or.inr (Or.inr rfl))
    (hd : (n == ("__debug__" : Str)) = false := by decide) (hcd : (n == ("__classdict__" : Str)) = false := by decide) (hc : X.calm = true := by rfl) (hbase : attributeBase (.Name n p1) "values" X.env (eval (.Name n p1) X.env) = eval (.Name n p1) X.env := by rfl) (hline : (apos.endLine == mpos.line) = true := by rfl)
    (hse : starEach [Expr.Call (.Attribute (.Name n p1) "values" apos) [] [] mpos] X.env = [(false, eval (Expr.Call (.Attribute (.Name n p1) "values" apos) [] [] mpos) X.env)] := by rfl) : EV X Δ m (.Call (.Name "min" p) [.Call (.Attribute (.Name n p1) "values" apos) [] [] mpos] [] pos) (.int (lmin (kvs.map (·.2)))) := EV.up (fun G0 H0 F H σ S Q q => by
  obtain ⟨ad, fp, e1, g, P, f1⟩ := S.dict hΔ
  refine eU (pe_minVals hc hg hm (pe_var hN hv hd hcd) hbase hline hse) ⟨.ref ad, e1, ad, _, kvs.map (·.2), rfl, g, by rw [List.map_map, List.map_map]; rfl, by simpa using hne, fun mn h1 h2 => ?_⟩
  have a1 := h2 _ (lmin_mem (kvs.map (·.2)) (by simpa using hne))
  have a2 := lmin_le (kvs.map (·.2)) mn h1
  have : mn = lmin (kvs.map (·.2)) := by omega
  rw [this]
  exact q _ F H (Ext.rf S.fh) (r_int.mpr rfl)) rfl
theorem ev_mind_a (hg : Gl X "min") (hm : X.mg "min" = none) (hN : X.N[i]? = some n) (hΔ : Δ[i]? = some (Sl.k kvs)) (hne : kvs ≠ []) (hv : Rv (Vis X.env.scope n)) (hd : Rd ((n == ("__debug__" : Str)) = false)) (hcd : Rd ((n == ("__classdict__" : Str)) = false)) (hc : Rf (X.calm = true)) (hbase : Rf (attributeBase (.Name n p1) "values" X.env (eval (.Name n p1) X.env) = eval (.Name n p1) X.env)) (hline : Rf ((apos.endLine == mpos.line) = true)) (hse : Rf (starEach [Expr.Call (.Attribute (.Name n p1) "values" apos) [] [] mpos] X.env = [(false, eval (Expr.Call (.Attribute (.Name n p1) "values" apos) [] [] mpos) X.env)])) : EV X Δ m (.Call (.Name "min" p) [.Call (.Attribute (.Name n p1) "values" apos) [] [] mpos] [] pos) (.int (lmin (kvs.map (·.2)))) := ev_mind hg hm hN hΔ hne hv.ok hd.ok hcd.ok hc.ok hbase.ok hline.ok hse.ok
end
end Z

namespace Z
open PySem PySem.Spec PyProof.Rows L2
variable [τ : Tb]
section
variable {X : Cx} {Δ : List Sl} {m : Bool} {e a b : Expr} {p p2 pos pos2 : Pos}
/-- list(range(n)) -/
theorem eo_listRng {n : Nat} (hg : Gl X "list") (hm : X.mg "list" = none) (hg2 : Gl X "range") (hm2 : X.mg "range" = none) (ha : EV X Δ false a (.int (n : Int))) (hn : n ≤ 1000000) (hc : X.calm = true := by rfl)
    (hs : starEach [a] X.env = (false, eval a X.env) :: starEach [] X.env := by rfl)
    (hs2 : starEach [.Call (.Name "range" p2) [a] [] pos2] X.env = (false, eval (.Call (.Name "range" p2) [a] [] pos2) X.env) :: starEach [] X.env := by rfl) :
    EO X Δ (.Call (.Name "list" p) [.Call (.Name "range" p2) [a] [] pos2] [] pos) (((List.range n).map fun i : Nat => (i : Int)).map D.int) := by
  intro G0 H0 F H σ S Q q
  refine eU (pe_listRg hc hg hm (prg_1 hg2 hm2 pe_u hs) hs2) (ha G0 H0 F H σ S _ fun v F' H' x r => ?_)
  refine ⟨_, r_int.mp r, RgOk.of_le (by omega) (by omega) (by omega) (by omega), fun l hl => ?_⟩
  refine q l (rgV 0 (n : Int)) F' _ (x.tr (Ext.grow x.fh (Sub.new hl))) (x.h.none hl) upd_same (x.fh.none hl) ?_
  have e : rgV 0 (n : Int) = ((List.range n).map fun i : Nat => (i : Int)).map V.int := by
    unfold rgV
    rw [List.map_map, show ((n : Int) - 0).toNat = n by omega]
    apply List.map_congr_left
    intro i _
    show V.int (0 + (i : Int)) = V.int (i : Int)
    rw [Int.zero_add]
  rw [e]
  exact RL.of_ints
theorem eo_listRng_a {n : Nat} (hg : Gl X "list") (hm : X.mg "list" = none) (hg2 : Gl X "range") (hm2 : X.mg "range" = none) (ha : EV X Δ false a (.int (n : Int))) (hn : n ≤ 1000000) (hc : Rf (X.calm = true)) (hs : Rf (starEach [a] X.env = (false, eval a X.env) :: starEach [] X.env)) (hs2 : Rf (starEach [.Call (.Name "range" p2) [a] [] pos2] X.env = (false, eval (.Call (.Name "range" p2) [a] [] pos2) X.env) :: starEach [] X.env)) : EO X Δ (.Call (.Name "list" p) [.Call (.Name "range" p2) [a] [] pos2] [] pos) (((List.range n).map fun i : Nat => (i : Int)).map D.int) := eo_listRng hg hm hg2 hm2 ha hn hc.ok hs.ok hs2.ok
end
end Z

namespace Z
open PySem PySem.Spec PyProof.Rows L2
variable [τ : Tb]
/-! ### exceptions: classes of one's own over ValueError, made with a text -/
/-- what is known of such a class -/
structure TyE (K : PySem.W.Frag) (mg : Str → Option Value) (n : Str) (C : Addr) : Prop where
  gl : mg n = some (.ref C)
  ex : PySem.W.excIn K C [.type "ValueError", .type "Exception", .type "BaseException", .type "object"] "ValueError.__new__" = true
  kp : PySem.W.keepIn K (.ref C) = true
  sb : PySem.W.subIn K (.ref C) (.type "BaseException") = some true
  ty : PySem.W.typeIn K (.ref C) = some (.type "type")
  hd : PySem.W.hasDictIn K C = true
  me : PySem.W.subIn K (.ref C) (.ref C) = some true
theorem TyE.same {K : PySem.W.Frag} {mg : Str → Option Value} {n : Str} {C : Addr} (T : TyE K mg n C) : PySem.W.exmOne K (.ref C) (.ref C) = some true := PySem.W.exm_ref T.sb T.hd T.ty T.me
/-- a call's end -/
inductive XR where
  | ok (r : Res) | ex (C : Addr)
/-- the class C, from the slots σ and the heap H on -/
def atX (C : Addr) (σ : L2.St) (H : Hp) : WX := fun cls d σ' H' => cls = .ref C ∧ d = none ∧ σ' = σ ∧ H' = H
def XROk (K : PySem.W.Frag) (G H : Hp) (Q : VK) (E : XK) : XR → Prop
  | .ok r => ResOk K G H Q r
  | .ex C => ∀ G' H', Ext G H G' H' → E (.ref C) none H'
def PrX (K : PySem.W.Frag) (spec : List D → (XR → Prop) → Prop) : Sp := fun vs H Q E => ∃ G ds P, Sub G H ∧ (∀ a ps, G a ≠ some (.tbl ps)) ∧ LamX.Tabs τ.T H ∧ RL K G ds vs ∧ spec ds P ∧ ∀ r, P r → XROk K G H Q E r
/-- what the body of such a def must come to -/
def finX (P : XR → Prop) : Out → Prop
  | .rt r _ => P (.ok r)
  | .nx _ => P (.ok (.v .non))
  | .xr C _ => P (.ex C)
  | _ => False
section
variable {P : Program} {w : World} {K : PySem.W.Frag} {mg : Str → Option Value} {base : Heap}
theorem fn_okX {x qual : Str} {st : Stmt} {f : Addr} {fd : FuncData} {N ps : List Str} {k : Nat} {spec : List D → (XR → Prop) → Prop} (Fn : Fun K x qual st f fd) (S : FnScope N ps (defScope st)) (ar : ∀ ds R, spec ds R → ds.length = ps.length)
    (hb : ∀ (cdv : Value) (A : Around) (outer : List Env) (s : Shared) (H : Hp) (E : XK), Room k (A.deeper (envOfC qual (defScope st) s.heap.objs.size f cdv)) → (cxOf (L2.CX P w) P w K mg base N qual (defScope st) f cdv A outer s H E).N = N → N.Nodup → ∀ ds R, spec ds R →
      Bk (cxOf (L2.CX P w) P w K mg base N qual (defScope st) f cdv A outer s H E) (defBody st) (ini N ds) (finX R)) : FnOk P w K mg base (L2.CX P w) (k + 1) f fd ps (PrX K spec) := by
  refine Fn.okX S (fun vs H Q E h => ?_) (fun cdv A outer s H vs Q E hr h => ?_)
  · obtain ⟨G, ds, r, _, _, _, rl, sp, _⟩ := h
    rw [rl.length]; exact ar ds r sp
  · obtain ⟨G, ds, R', sub, nt, tb, rl, sp, ro⟩ := h
    refine ⟨uS _ (defBody st), pss_u, ?_⟩
    have hlen : ds.length ≤ N.length := by
      rw [ar ds R' sp, ← S.pre]
      exact List.length_take_le' _ _
    refine hb cdv A outer s H E hr rfl S.nd ds R' sp G H G H _ (stt_ini sub nt tb rl hlen) _ fun o ho => ?_
    cases o with
    | nx Δ => exact fun F1 H1 σ1 T => ro (.ok (.v .non)) ho .non F1 H1 T.out (r_non.mpr rfl)
    | bk Δ => exact False.elim ho
    | ct Δ => exact False.elim ho
    | xr C Δ =>
      intro F1 H1 σ1 T
      refine (takes_of (X := cxOf (L2.CX P w) P w K mg base N qual (defScope st) f cdv A outer s H E) rfl rfl rfl rfl).imp fun cls d σ' H' h => ?_
      obtain ⟨rfl, rfl, _, rfl⟩ := h
      exact ro (.ex C) ho F1 H' T.out
    | rt r' Δ =>
      have h := ro (.ok r') ho
      cases r' with
      | v d => exact fun F1 H1 σ1 v T rr => h v F1 H1 T.out rr
      | o ds => exact fun F1 H1 σ1 p vs T h1 f1 h0 rr => h p vs F1 H1 T.out h0 h1 f1 rr
      | t t => exact fun F1 H1 σ1 v f T rr n => h v f F1 H1 T.out rr fun a ha => ⟨(n a ha).2, (n a ha).1⟩
/-- a def that may raise, by its name -/
structure FnX (P : Program) (w : World) (K : PySem.W.Frag) (mg : Str → Option Value) (base : Heap) (CX : CXT) (n : Str) (k : Nat) (spec : List D → (XR → Prop) → Prop) : Prop where
  ex : ∃ f fd ps, FnOk P w K mg base (L2.CX P w) k f fd ps (PrX K spec) ∧ mg n = some (.ref f) ∧ PySem.W.keepIn K (.ref f) = true ∧ Binds K fd ps []
end
/-- e evaluates to what P tells, or raises what P tells -/
def EX (X : Cx) (Δ : List Sl) (e : Expr) (P : XR → Prop) : Prop :=
  ∀ (G0 H0 F H : Hp) (σ : L2.St), Stt X.K G0 H0 F H σ Δ → ∀ Q : VK, (∀ r, P (.ok r) → ResOk X.K F H Q r) → (∀ C F' H', P (.ex C) → Ext F H F' H' → Takes X (atX C σ H')) → uE X e σ H Q
/-- what a slot then holds -/
def slR : Res → Sl
  | .v d => .v d | .o ds => .o ds | .t t => .w none t
section
variable {X : Cx} {Δ Δ' : List Sl} {m : Bool} {e a b c o : Expr} {es : List Expr} {d x y : D} {ds rs : List D} {pos p apos : Pos} {n : Str} {k : Nat} {spec : List D → (XR → Prop) → Prop} {C : Out → Prop} {R : XR → Prop}
theorem takes_un {F H : Hp} {σ : L2.St} (h : ∀ C F' H', R (.ex C) → Ext F H F' H' → Takes X (atX C σ H')) : Takes X (fun cls d σ' H' => ∃ C F', R (.ex C) ∧ Ext F H F' H' ∧ cls = .ref C ∧ d = none ∧ σ' = σ) := by
  intro u s' ⟨a, B, sI, pins, σ2, H2, cls, d, e, I, nb, up, sky, na, os, ag, C, F', hC, x, h1, h2, h3⟩
  exact h C F' H2 hC x u s' ⟨a, B, sI, pins, σ2, H2, cls, d, e, I, nb, up, sky, na, os, ag, h1, h2, h3, rfl⟩
theorem EX.mono {R' : XR → Prop} (h : EX X Δ e R) (k : ∀ r, R r → R' r) : EX X Δ e R' := fun G0 H0 F H σ S Q q q2 => h G0 H0 F H σ S Q (fun r hr => q r (k _ hr)) fun C F' H' hC x => q2 C F' H' (k _ hC) x
theorem ResOk.ext {K : PySem.W.Frag} {F H F' H' : Hp} {Q : VK} {r : Res} (h : ResOk K F H Q r) (x : Ext F H F' H') : ResOk K F' H' Q r := by
  cases r with
  | v d => exact fun v G2 H2 x2 rr => h v G2 H2 (x.tr x2) rr
  | o ds => exact fun p vs G2 H2 x2 n h1 f1 rr => h p vs G2 H2 (x.tr x2) (x.h.none n) h1 f1 rr
  | t t => exact fun v f G2 H2 x2 rr n => h v f G2 H2 (x.tr x2) rr fun a ha => ⟨x.h.none (n a ha).1, (n a ha).2⟩
theorem ex_call (Fn : FnX X.prog X.w X.K X.mg X.base CX0 n k spec) (hr : Room k X.A) (hg : Gl X n) (ha : AV X Δ true (e :: es) ds) (hs : spec ds R) (hdb : (n == ("__debug__" : Str)) = false := by decide)
    (he : starEach (e :: es) X.env = (false, eval e X.env) :: starEach es X.env := by rfl) (hpl : (backTo pos (starEach es X.env)).any (·.1) = false := by rfl) : EX X Δ (.Call (.Name n p) (e :: es) [] pos) R := by
  intro G0 H0 F H σ S Q q q2
  obtain ⟨f, fd, ps, F1, hm, hk, hb⟩ := Fn.ex
  refine eU (pe_callS F1 hr hg hm hk hb (fun σ' => passAt (takes_un q2) σ') pa_u hdb he hpl) (ha G0 H0 F H σ S _ fun vs F' H' x r => ?_)
  refine ⟨F', ds, R, x.fh, (S.ext x).nt, (S.ext x).tb, r, hs, fun r' hr' => ?_⟩
  cases r' with
  | ok r' => exact (q r' hr').ext x
  | ex C => exact fun G2 H2 x2 => ⟨C, G2, hr', x.tr x2, rfl, rfl, rfl⟩
theorem ex_call_a (Fn : FnX X.prog X.w X.K X.mg X.base CX0 n k spec) (hr : Room k X.A) (hg : Gl X n) (ha : AV X Δ true (e :: es) ds) (hs : spec ds R) (hdb : Rd ((n == ("__debug__" : Str)) = false)) (he : Rf (starEach (e :: es) X.env = (false, eval e X.env) :: starEach es X.env)) (hpl : Rf ((backTo pos (starEach es X.env)).any (·.1) = false)) : EX X Δ (.Call (.Name n p) (e :: es) [] pos) R := ex_call Fn hr hg ha hs hdb.ok he.ok hpl.ok
theorem sm_setX {i : Nat} {p1 : Pos} (hN : X.N.Nodup) (hi : X.N[i]? = some n) (hl : Loc X.env.scope n) (h : EX X Δ e R) (k : ∀ r, R (.ok r) → C (.nx (Δ.set i (slR r)))) (k2 : ∀ E, R (.ex E) → C (.xr E Δ)) (hs : swapsWith e (some (.Name n p1)) pos.line X.env = pure false := by rfl) (hf : X.fn n = true ∨ X.env.scope.names.lookup n = some .local := by first | exact .inl rfl | exact .inr rfl) :
    Sm X (.Assign [.Name n p1] e pos) Δ C := fun G0 H0 F H σ S D q =>
  sU1 (ps_set hN hi hl pe_u hs hf) (h G0 H0 F H σ S _ (fun r hr => by
    cases r with
    | v d => exact fun v F' H' e r => q _ (k _ hr) F' H' _ ((S.ext e).setv r)
    | o ds => exact fun p vs F' H' e n1 h1 f1 r => q _ (k _ hr) F' H' _ (S.seto e n1 h1 f1 r)
    | t t => exact fun v f F' H' x r n => q _ (k _ hr) F' H' _ (S.sett x r n)) fun E F' H' hE x => q (.xr E Δ) (k2 E hE) F' H' σ (S.ext x))
theorem sm_setX_a {i : Nat} {p1 : Pos} (hN : X.N.Nodup) (hi : X.N[i]? = some n) (hl : Loc X.env.scope n) (h : EX X Δ e R) (k : ∀ r, R (.ok r) → C (.nx (Δ.set i (slR r)))) (k2 : ∀ E, R (.ex E) → C (.xr E Δ)) (hs : Rf (swapsWith e (some (.Name n p1)) pos.line X.env = pure false)) (hf : Rl (X.fn n = true ∨ X.env.scope.names.lookup n = some .local)) : Sm X (.Assign [.Name n p1] e pos) Δ C := sm_setX hN hi hl h k k2 hs.ok hf.ok
theorem sm_retEX (h : EX X Δ e R) (k : ∀ r, R (.ok r) → C (.rt r Δ)) (k2 : ∀ E, R (.ex E) → C (.xr E Δ)) : Sm X (.Return (some e) pos) Δ C := fun G0 H0 F H σ S D q =>
  sU1 (ps_ret pe_u) (h G0 H0 F H σ S _ (fun r hr => by
    have h := q (.rt r Δ) (k r hr)
    cases r with
    | v d => exact fun v F' H' e r => h F' H' σ v (S.ext e) r
    | o ds => exact fun p vs F' H' e n h1 f1 r => h F' H' σ p vs (S.ext e) h1 f1 (S.h0.none n) r
    | t t => exact fun v f F' H' x r n => h F' H' σ v f (S.ext x) r fun a ha => ⟨(n a ha).2, S.h0.none (n a ha).1⟩) fun E F' H' hE x => q (.xr E Δ) (k2 E hE) F' H' σ (S.ext x))
/-- raise X('..') -/
theorem sm_raise {CC : Addr} {j : Nat} {z : Str} {p2 p3 : Pos} (T : TyE X.K X.mg n CC) (hg : Gl X n) (k : C (.xr CC Δ)) (hc : X.calm = true := by rfl) (hdb : (n == ("__debug__" : Str)) = false := by decide) : Sm X (.Raise (some (.Call (.Name n p) [.Constant (.str z) j p2] [] p3)) none pos) Δ C := fun G0 H0 F H σ S D q =>
  sU1 (ps_raise hc (q _ k F H σ S) (pmk_own PySem.F.excBase_ValueError T.ex T.gl T.kp (raises_own T.sb T.ty) hg hdb)) ⟨rfl, rfl, rfl, rfl⟩
theorem sm_raise_a {CC : Addr} {j : Nat} {z : Str} {p2 p3 : Pos} (T : TyE X.K X.mg n CC) (hg : Gl X n) (k : C (.xr CC Δ)) (hc : Rf (X.calm = true)) (hdb : Rd ((n == ("__debug__" : Str)) = false)) : Sm X (.Raise (some (.Call (.Name n p) [.Constant (.str z) j p2] [] p3)) none pos) Δ C := sm_raise T hg k hc.ok hdb.ok
end
/-- without a way out by an exception -/
def noX (C : Out → Prop) : Out → Prop
  | .xr _ _ => False | o => C o
/-- what the body of a try must come to -/
def tryC (X : Cx) (c : Value) (suite : List Stmt) (C : Out → Prop) : Out → Prop
  | .xr E Δ' => ∃ b, PySem.W.exmOne X.K (.ref E) c = some b ∧ (b = true → ∀ (a : Addr) (oe : Obj) (pn : List (Addr × Obj)), Zc (.ref E) none oe → (∃ vs, oe.data = .fields vs) → Bk (X.suite a ((a, oe) :: pn)) suite Δ' (noX C)) ∧ (b = false → C (.xr E Δ'))
  | o => C o
section
variable {X : Cx} {Δ : List Sl} {C : Out → Prop} {body suite orelse : List Stmt} {b₀ : Stmt} {x : Str} {c : Value} {np pos pos' : Pos}
theorem out_same {X X' : Cx} {G0 H0 : Hp} {D : Ends} {C : Out → Prop} (hK : X'.K = X.K) (q : ∀ o, C o → OutOk X G0 H0 D o) : ∀ o, noX C o → OutOk X' G0 H0 D o := by
  intro o ho
  cases o with
  | nx Δ => have := q _ ho; unfold OutOk at this ⊢; rw [hK]; exact this
  | bk Δ => have := q _ ho; unfold OutOk at this ⊢; rw [hK]; exact this
  | ct Δ => have := q _ ho; unfold OutOk at this ⊢; rw [hK]; exact this
  | xr E Δ => exact False.elim ho
  | rt r Δ => cases r <;> (have := q _ ho; unfold OutOk at this ⊢; rw [hK]; exact this)
theorem tries {G0 H0 F H : Hp} {σ : L2.St} {D : Ends} {u : Ends → Ends} (hu : ∀ o, (∀ Δ, o ≠ .nx Δ) → OutOk X G0 H0 D o → OutOk X G0 H0 (u D) o) {C' : Out → Prop} (hn : ∀ Δ, C' (.nx Δ) → OutOk X G0 H0 (u D) (.nx Δ)) (hC : ∀ o, (∀ Δ, o ≠ .nx Δ) → C' o → C o) (q : ∀ o, C o → OutOk X G0 H0 D o)
    (hb : ∀ (pn : List (Addr × Obj)) (xe : Value → Shared → Prop), PassesOwn (model X.prog X.w) X.A X.env xe → Bk (X.tr pn xe) body Δ (fun o => match o with | .xr E Δ' => tryC X c (b₀ :: suite) C (.xr E Δ') | o => C' o)) (S : Stt X.K G0 H0 F H σ Δ)
    (pn : List (Addr × Obj)) (xe : Value → Shared → Prop) (tk : Takes (X.tr pn xe) (wOnly X.K c (fun a cls d D σ H => ∀ oe pn, Zc cls d oe → (∃ vs, oe.data = .fields vs) → uS (X.suite a ((a, oe) :: pn)) (b₀ :: suite) D σ H) (fun cls d σ H => ∃ E Δ' F', cls = .ref E ∧ d = none ∧ C (.xr E Δ') ∧ Stt X.K G0 H0 F' H σ Δ') D)) (hp : PassesOwn (model X.prog X.w) X.A X.env xe) : uS (X.tr pn xe) body (u D) σ H := by
  refine hb pn xe hp G0 H0 F H σ S _ fun o ho => ?_
  have same : ∀ o, (∀ Δ, o ≠ .nx Δ) → (∀ E Δ, o ≠ .xr E Δ) → C' o → OutOk (X.tr pn xe) G0 H0 (u D) o := fun o h1 h2 ho => by
    have := hu o h1 (q o (hC o h1 ho))
    cases o with
    | nx Δ => exact absurd rfl (h1 Δ)
    | bk Δ => exact this
    | ct Δ => exact this
    | xr E Δ => exact absurd rfl (h2 E Δ)
    | rt r Δ => cases r <;> exact this
  cases o with
  | nx Δ' => exact hn Δ' ho
  | bk Δ' => exact same _ (fun _ h => nomatch h) (fun _ _ h => nomatch h) ho
  | ct Δ' => exact same _ (fun _ h => nomatch h) (fun _ _ h => nomatch h) ho
  | rt r Δ' => exact same _ (fun _ h => nomatch h) (fun _ _ h => nomatch h) ho
  | xr E Δ' =>
    obtain ⟨b, e1, e2, e3⟩ := ho
    intro F1 H1 σ1 T
    refine tk.imp fun cls d σ' H' h => ?_
    obtain ⟨rfl, rfl, rfl, rfl⟩ := h
    exact ⟨b, e1, fun hbt a na oe pn' hz hf => e2 hbt a oe pn' hz hf G0 H0 F1 H' σ' T D (out_same (X := X) rfl q), fun hbf => ⟨E, Δ', F1, rfl, rfl, e3 hbf, T⟩⟩
theorem takes_out {G0 H0 : Hp} {D : Ends} (q : ∀ o, C o → OutOk X G0 H0 D o) : Takes X (fun cls d σ H => ∃ E Δ' F', cls = .ref E ∧ d = none ∧ C (.xr E Δ') ∧ Stt X.K G0 H0 F' H σ Δ') := by
  intro u s' ⟨a, B, sI, pins, σ2, H2, cls, d, e, I, nb, up, sky, na, os, ag, E, Δ', F', h1, h2, h3, T⟩
  exact q _ h3 F' H2 σ2 T u s' ⟨a, B, sI, pins, σ2, H2, cls, d, e, I, nb, up, sky, na, os, ag, h1, h2, rfl, rfl⟩
/-- try .. except x: .. -/
theorem sm_try (hs : X.stack = X.env :: X.outer) (hf : X.env.frame = some X.env.locals) (hc : Names X x c)
    (hb : ∀ (pn : List (Addr × Obj)) (xe : Value → Shared → Prop), PassesOwn (model X.prog X.w) X.A X.env xe → Bk (X.tr pn xe) body Δ (tryC X c (b₀ :: suite) C)) :
    Sm X (.Try body [.ExceptHandler (some (.Name x np)) none (b₀ :: suite) pos'] [] [] pos) Δ C := fun G0 H0 F H σ S D q =>
  sU1 (ps_try_only (tb := fun W D σ H => ∀ pn xe, Takes (X.tr pn xe) W → PassesOwn (model X.prog X.w) X.A X.env xe → uS (X.tr pn xe) body D σ H) (ts := fun a cls d D σ H => ∀ oe pn, Zc cls d oe → (∃ vs, oe.data = .fields vs) → uS (X.suite a ((a, oe) :: pn)) (b₀ :: suite) D σ H) hs hf hc (takes_out q)
    (fun W pn xe tk hp => ⟨fun pins s σ H D I h => (h pn xe tk hp).run pins s I⟩) (fun a oe cls d pn hz hf => ⟨fun pins s σ H D I h => (h oe pn hz hf).run pins s I⟩))
    (tries (u := id) (C' := C) (fun o _ h => h) (fun Δ h => q _ h) (fun o _ h => h) q (fun pn xe hp => (hb pn xe hp).mono fun o ho => by cases o <;> exact ho) S)
/-- try .. except x: .. else: .. -/
theorem sm_tryE (hs : X.stack = X.env :: X.outer) (hf : X.env.frame = some X.env.locals) (hc : Names X x c)
    (hb : ∀ (pn : List (Addr × Obj)) (xe : Value → Shared → Prop), PassesOwn (model X.prog X.w) X.A X.env xe → Bk (X.tr pn xe) body Δ (fun o => match o with | .nx Δ' => Bk X orelse Δ' C | o => tryC X c (b₀ :: suite) C o)) :
    Sm X (.Try body [.ExceptHandler (some (.Name x np)) none (b₀ :: suite) pos'] orelse [] pos) Δ C := fun G0 H0 F H σ S D q =>
  sU1 (ps_try_onlyE (u := uS X orelse) (tb := fun W D σ H => ∀ pn xe, Takes (X.tr pn xe) W → PassesOwn (model X.prog X.w) X.A X.env xe → uS (X.tr pn xe) body D σ H) (ts := fun a cls d D σ H => ∀ oe pn, Zc cls d oe → (∃ vs, oe.data = .fields vs) → uS (X.suite a ((a, oe) :: pn)) (b₀ :: suite) D σ H) pss_u hs hf hc (takes_out q)
    (fun W pn xe tk hp => ⟨fun pins s σ H D I h => (h pn xe tk hp).run pins s I⟩) (fun a oe cls d pn hz hf => ⟨fun pins s σ H D I h => (h oe pn hz hf).run pins s I⟩))
    (tries (u := fun D => { D with nx := uS X orelse D }) (C' := fun o => match o with | .nx Δ' => Bk X orelse Δ' C | o => C o) (fun o h hh => by
      cases o with
      | nx Δ => exact absurd rfl (h Δ)
      | bk Δ => exact hh
      | ct Δ => exact hh
      | xr E Δ => exact hh
      | rt r Δ => cases r <;> exact hh) (fun Δ' h F1 H1 σ1 T => h G0 H0 F1 H1 σ1 T D q) (fun o h hh => by
      cases o with
      | nx Δ => exact absurd rfl (h Δ)
      | bk Δ => exact hh
      | ct Δ => exact hh
      | xr E Δ => exact hh
      | rt r Δ => exact hh) q (fun pn xe hp => (hb pn xe hp).mono fun o ho => by cases o <;> exact ho) S)
end
end Z

namespace Z
open PySem PySem.Spec PyProof.Rows L2
variable [τ : Tb]
/-! ### x += a list -/
theorem iseq_list : seqSlot? (.type "list") (dunderI "add") = pure (some (.builtin "list.__iadd__")) := PySem.seqSlot_of PySem.F.slot_list_iadd.lookup (by decide +kernel)
theorem inplace_seq {M : Model} {A : Around} {E : Value → Shared → Prop} {s : Shared} {a b : Value} {Q : Value → Shared → Prop} (ha : s.TypeIs a "list") (hb : s.TypeIs b "list")
    (hc : wpAny M A (call (.builtin "list.__iadd__") [a, b]) Q E s) : wpAny M A (inplaceOp .Add a b) Q E s := by
  unfold inplaceOp
  refine wpAny_holding ?_
  have hs : isSeqSlot (some (.builtin "list.__iadd__")) = true := by decide +kernel
  have hfi : fillsInplaceSlot (.type "list") "add" (Operator.Add == .Add) = pure false := by
    unfold fillsInplaceSlot
    show (typeLookup (.type "list") (dunderI "add") >>= fun fi => pure (fi.isSome && !isSeqSlot fi)) = pure false
    rw [PySem.F.slot_list_iadd.lookup, pure_bind, hs]; rfl
  refine wpAny_bind (PySem.wpAny_typeOf ha (wpAny_bind (wpAny_of_eq hfi ?_)))
  show wpAny M A (if false = true then _ else _) Q E s
  rw [if_neg Bool.false_ne_true]
  refine wpAny_bind (PySem.wpAny_binaryOp1_none (nm := "add") ha hb PySem.noFill_list_add ?_)
  refine wpAny_bind (wpAny_of_eq iseq_list ?_)
  exact wpAny_bind (wpAny_rule hc)
def rICat : R2 := fun x y H Q => ∃ l b xs zs, x = .ref l ∧ y = .ref b ∧ H l = some (.lst xs) ∧ H b = some (.lst zs) ∧ xs.length + zs.length ≤ sizeLine ∧ Q (.ref l) (upd H l (.lst (xs ++ zs)))
theorem op_icat {X : Cx} : OpR X (inplaceOp .Add) rICat := by
  intro pins s σ H x y v u Q I rx ry h
  obtain ⟨l, b, xs, zs, rfl, rfl, hH, hB, hz, q⟩ := h
  cases rx
  cases ry
  obtain ⟨z, its, n, r, hl, e⟩ := I.lstM hH
  obtain ⟨z2, its2, n2, r2, hl2, e2⟩ := I.lstM hB
  have hsz : its.toArray.size + its2.toArray.size ≤ sizeLine := by rw [List.size_toArray, List.size_toArray]; omega
  have hlong : ¬ (!its.toArray.isEmpty && Builtin.List.listTooLong (its.toArray.size + its2.toArray.size)) = true := by
    rw [notLongL hsz, Bool.and_false]
    exact Bool.false_ne_true
  refine inplace_seq ⟨_, e, rfl⟩ ⟨_, e2, rfl⟩ (PySem.call_meets PySem.F.slot_list_iadd ⟨_, e, rfl⟩ PySem.F.entry_list_iadd (PySem.F.args_list_iadd_2 _ _)
    (PySem.AutoSeq1.list___iadd___list_list_0 l its.toArray n b its2.toArray n2 hlong (by rw [List.size_toArray]; omega) (by omega)) ⟨e, e2, ?_⟩)
  refine ⟨.ref l, _, I.lset (its' := its ++ its2) hH e (by simp) (r.append r2) ?_, rfl, q⟩
  rw [List.length_append]
  omega
section
variable {X : Cx} {Δ : List Sl} {e : Expr} {pos : Pos} {ds es : List D} {n : Str} {C : Out → Prop} {rest : List Stmt}
/-- x += e, both lists -/
theorem sm_augl {i : Nat} {p1 : Pos} {qq : Option Addr} (hN : X.N.Nodup) (hi : X.N[i]? = some n) (hl : Loc X.env.scope n) (hΔ : Δ[i]? = some (Sl.w qq (T.l ds))) (h : EV X Δ true e (.lst es)) (hs : ds.length + es.length ≤ sizeLine) (k : C (.nx (Δ.set i (.w qq (T.l (ds ++ es)))))) (hf : X.fn n = true ∨ X.env.scope.names.lookup n = some .local := by first | exact .inl rfl | exact .inr rfl) :
    Sm X (.AugAssign (.Name n p1) .Add e pos) Δ C := by
  intro G0 H0 F H σ S D q
  obtain ⟨p, vs, e1, e2, e3, e4, e5⟩ := S.own i ds hΔ
  refine sU1 (ps_aug hN hi hl pe_u (PIp.of op_icat) hf) ⟨.ref p, e1, h G0 H0 F H σ S _ fun v F' H' x r2 => ?_⟩
  obtain ⟨b, ws, rfl, g, l⟩ := r_lst.mp r2
  have g' : F' b = some (.lst ws) := g
  have l' : RL X.K F' es ws := l
  have S2 := S.ext x
  have h2 : H' p = some (.lst vs) := x.h.k _ _ e2 (fun _ z => nomatch z)
  refine ⟨p, b, vs, ws, rfl, rfl, h2, x.fh _ _ g', by rw [e5.length, l'.length]; exact hs, ?_⟩
  show D.nx (List.set σ i (some (.ref p))) _
  rw [set_id _ e1]
  exact q _ k F' _ σ (S2.chg hΔ e1 ((e5.mono x.f).append l'))
theorem sm_augl_a {i : Nat} {p1 : Pos} {qq : Option Addr} (hN : X.N.Nodup) (hi : X.N[i]? = some n) (hl : Loc X.env.scope n) (hΔ : Δ[i]? = some (Sl.w qq (T.l ds))) (h : EV X Δ true e (.lst es)) (hs : ds.length + es.length ≤ sizeLine) (k : C (.nx (Δ.set i (.w qq (T.l (ds ++ es)))))) (hf : Rl (X.fn n = true ∨ X.env.scope.names.lookup n = some .local)) : Sm X (.AugAssign (.Name n p1) .Add e pos) Δ C := sm_augl hN hi hl hΔ h hs k hf.ok
end
/-! ### a module's constants -/
section
variable {X : Cx} {Δ : List Sl} {m : Bool} {pos : Pos} {n : Str}
theorem ev_gint {i : Int} (hm : ∃ t, X.mg n = some (.int i t)) (hg : Gl X n) (hd : (n == ("__debug__" : Str)) = false := by decide) : EV X Δ m (.Name n pos) (.int i) := by
  obtain ⟨t, ht⟩ := hm
  exact ev_glob hg ht (v := .int i) ⟨t, rfl⟩ hd fun G => r_int.mpr rfl
theorem ev_gint_a {i : Int} (hm : ∃ t, X.mg n = some (.int i t)) (hg : Gl X n) (hd : Rd ((n == ("__debug__" : Str)) = false)) : EV X Δ m (.Name n pos) (.int i) := ev_gint hm hg hd.ok
theorem ev_gstr {z : Str} (hm : ∃ t, X.mg n = some (.str z t)) (hg : Gl X n) (hd : (n == ("__debug__" : Str)) = false := by decide) : EV X Δ m (.Name n pos) (.str z) := by
  obtain ⟨t, ht⟩ := hm
  exact ev_glob hg ht (v := .str z) ⟨t, rfl⟩ hd fun G => r_str.mpr rfl
theorem ev_gstr_a {z : Str} (hm : ∃ t, X.mg n = some (.str z t)) (hg : Gl X n) (hd : Rd ((n == ("__debug__" : Str)) = false)) : EV X Δ m (.Name n pos) (.str z) := ev_gstr hm hg hd.ok
end
/-! ### a call that may raise, its answer as it is from then on -/
def dR : Res → D
  | .v d => d | .o ds => .lst ds | .t t => t.d
def EVX (X : Cx) (Δ : List Sl) (e : Expr) (R' : D → Prop) (Ex : Addr → Prop) : Prop :=
  ∀ (G0 H0 F H : Hp) (σ : L2.St), Stt X.K G0 H0 F H σ Δ → ∀ Q : VK, (∀ d v F' H', R' d → Ext F H F' H' → R X.K F' d v → Q v H') → (∀ C F' H', Ex C → Ext F H F' H' → Takes X (atX C σ H')) → uE X e σ H Q
section
variable {X : Cx} {Δ : List Sl} {m : Bool} {e : Expr} {pos p : Pos} {n : Str} {C : Out → Prop} {R : XR → Prop} {R' : D → Prop} {Ex : Addr → Prop}
theorem EX.evx (h : EX X Δ e R) : EVX X Δ e (fun d => ∃ r, R (.ok r) ∧ d = dR r) (fun C => R (.ex C)) := fun G0 H0 F H σ S Q q q2 => h G0 H0 F H σ S Q (fun r hr => by
  cases r with
  | v d => exact fun v F' H' x rr => q d v F' H' ⟨_, hr, rfl⟩ x rr
  | o ds =>
    intro p vs F' H' e n h1 f1 r
    refine q (.lst ds) (.ref p) (upd F' p (.lst vs)) H' ⟨_, hr, rfl⟩ ⟨e.f.tr (Sub.new f1), e.h, fun a o z => ?_, fun a o z => ?_, fun a ps z => ?_⟩ (r_lst.mpr ⟨p, vs, rfl, upd_same, r.mono (Sub.new f1)⟩)
    · by_cases w : a = p
      · subst w; rw [upd_same] at z; cases z; exact h1
      · rw [upd_ne w] at z; exact e.fh a o z
    · by_cases w : a = p
      · subst w; exact .inr n
      · rw [upd_ne w] at z; exact e.fr a o z
    · by_cases w : a = p
      · subst w; rw [upd_same] at z; cases z
      · rw [upd_ne w] at z; exact e.nt a ps z
  | t t =>
    intro v f F' H' x r n
    obtain ⟨x2, sF⟩ := frz_ext x n fun a ha => r.own _ _ _ a ha
    exact q t.d v _ H' ⟨_, hr, rfl⟩ x2 (r.r sF _ _ _ fun a ha => if_pos ha)) q2
theorem sm_forX {tg iter : Expr} {body : List Stmt} (hi : EVX X Δ iter R' Ex) (hl : ∀ d, R' d → ∃ ds, d = .lst ds) (I : List D → Nat → List Sl → Prop) (h0 : ∀ ds, R' (.lst ds) → I ds 0 Δ)
    (hs : ∀ ds, R' (.lst ds) → ∀ (i : Nat) d Δi, ds[i]? = some d → I ds i Δi → ∃ is Δ', GV X is tg d Δi Δ' ∧ Bk X body Δ' (turn C (I ds (i + 1)))) (hd : ∀ ds, R' (.lst ds) → ∀ Δn, I ds ds.length Δn → C (.nx Δn)) (hx : ∀ E, Ex E → C (.xr E Δ))
    (hp : PassesOwn (model X.prog X.w) X.A X.env X.xe := by exact PassesOwn.never) (hc : X.calm = true := by rfl) (hf : ∀ x, foldedSetIterable iter X.env x = pure x := by intro _; rfl) : Sm X (.For tg iter body [] pos) Δ C := by
  intro G0 H0 F H σ S D q
  refine sU1 (ps_for hp hc pi_u pg_u pss_u hf) (iU (pi_list pe_u) (hi G0 H0 F H σ S _ (fun d v F' H' hR x r => ?_) fun E F' H' hE x => q (.xr E Δ) (hx E hE) F' H' σ (S.ext x)))
  obtain ⟨ds, rfl⟩ := hl d hR
  obtain ⟨p, vs, rfl, g, l⟩ := r_lst.mp r
  have g' : F' p = some (.lst vs) := g
  have W : Wk X.K F' (Itl X.K p) ds := by
    refine ⟨fun i H2 hi s => ?_, fun H2 s => ?_, fun i d H2 y H3 F2 hd s1 s2 yl => ?_⟩
    · have hi' : i < vs.length := by rw [l.length]; exact hi
      exact ⟨vs, vs[i], SqL.of (s _ _ g'), by simp [hi']⟩
    · exact ⟨vs, SqL.of (s _ _ g'), by rw [l.length]; exact Nat.le_refl _⟩
    · obtain ⟨rfl, yl⟩ := yl
      obtain ⟨w, e1, e2⟩ := l.get hd
      have e3 := yl vs (SqL.of (s2 _ _ (s1 _ _ g')))
      rw [e1] at e3; cases e3
      exact ⟨F2, Ext.rf s2, R.mono (show Sub F' F2 from s1) _ _ e2⟩
  refine ⟨p, rfl, ⟨vs, SqL.of (x.fh _ _ g')⟩, ?_⟩
  have S1 := S.ext x
  refine for_it (J := Itl X.K p) (n := ds.length) (G := Sub F') (Y := (Itl X.K p).yld) ⟨fun i H hi s => W.go i H hi s, fun H s => W.stop H s, fun i H x H' hi s y => y⟩
    (fun i σ H => ∃ F2 Δ2, I ds i Δ2 ∧ Stt X.K F' H0 F2 H σ Δ2) ⟨F', Δ, h0 ds hR, S1.self⟩ (fun i σ H _ ⟨F2, Δ2, _, T⟩ => T.g.tr T.fh) (fun i v σ H H2 hil ⟨F2, Δ2, hI, T⟩ y => ?_) (fun σ H ⟨F2, Δ2, hI, T⟩ => q _ (hd ds hR Δ2 hI) F2 H σ (S1.back T))
  have hd' : ds[i]? = some ds[i] := List.getElem?_eq_getElem hil
  obtain ⟨is, Δ', g, b⟩ := hs ds hR i _ Δ2 hd' hI
  obtain ⟨F3, e3, r3⟩ := W.yld i _ H v H2 F2 hd' T.g T.fh y
  refine g F' H0 F3 H2 σ v (T.ext e3) r3 _ fun σ' _ T' => ?_
  refine b F' H0 F3 H2 σ' T' _ fun o ho => ?_
  cases o with
  | nx Δ4 => exact fun F5 H5 σ5 T5 => ⟨F5, Δ4, ho, T5⟩
  | ct Δ4 => exact fun F5 H5 σ5 T5 => ⟨F5, Δ4, ho, T5⟩
  | bk Δ4 => exact fun F5 H5 σ5 T5 => q _ ho F5 H5 σ5 (S1.back T5)
  | rt r Δ4 =>
    have z := OutOk.fwd S1 (q _ ho)
    cases r with
    | v d => exact z
    | o ds => exact z
    | t t => exact z
  | xr E Δ4 => exact OutOk.fwd S1 (q _ ho)
theorem sm_forX_a {tg iter : Expr} {body : List Stmt} (hi : EVX X Δ iter R' Ex) (hl : ∀ d, R' d → ∃ ds, d = .lst ds) (I : List D → Nat → List Sl → Prop) (h0 : ∀ ds, R' (.lst ds) → I ds 0 Δ) (hs : ∀ ds, R' (.lst ds) → ∀ (i : Nat) d Δi, ds[i]? = some d → I ds i Δi → ∃ is Δ', GV X is tg d Δi Δ' ∧ Bk X body Δ' (turn C (I ds (i + 1)))) (hd : ∀ ds, R' (.lst ds) → ∀ Δn, I ds ds.length Δn → C (.nx Δn)) (hx : ∀ E, Ex E → C (.xr E Δ)) (hp : Rp (PassesOwn (model X.prog X.w) X.A X.env X.xe)) (hc : Rf (X.calm = true)) (hf : Ri (∀ x, foldedSetIterable iter X.env x = pure x)) : Sm X (.For tg iter body [] pos) Δ C := sm_forX hi hl I h0 hs hd hx hp.ok hc.ok hf.ok
end
section
variable {X : Cx} {Δ : List Sl} {m : Bool} {e o : Expr} {pos apos : Pos}
/-- x.index(e), numbers: the first place -/
theorem ev_indexI {ns : List Int} {j : Int} {i : Nat} (ho : EV X Δ false o (.lst (ns.map D.int))) (he : EV X Δ false e (.int j)) (hi : ns[i]? = some j) (hf : ∀ k, k < i → ns[k]? ≠ some j) (hbase : attributeBase o "index" X.env (eval o X.env) = eval o X.env := by rfl)
    (hfew : ((backTo pos (starEach [e] X.env)).all (fun x => !x.1) && (backToKw pos (keywordEach [] X.env)).all (fun x => x.1.isSome)
      && decide ([e].length + ([] : List Keyword).length + (if ([] : List Keyword).isEmpty then 0 else 1) < 30)) = true := by rfl)
    (hline : (apos.endLine == pos.line) = true := by rfl) (hs : starEach [e] X.env = (false, eval e X.env) :: starEach [] X.env := by rfl) (hplain : (backTo pos (starEach ([] : List Expr) X.env)).any (·.1) = false := by rfl) :
    EV X Δ m (.Call (.Attribute o "index" apos) [e] [] pos) (.int (i : Int)) := by
  refine EV.up (fun G0 H0 F H σ S Q q => ?_) rfl
  refine eU (pe_bm (hbase := hbase) (hfew := hfew) (hline := hline) (hs := hs) (hplain := hplain) PySem.F.plainAttrs_list PySem.F.slot_list_index PySem.F.type_list_index mt_index pe_u (pa_cons pe_u pa_nil hs)) ?_
  refine ho G0 H0 F H σ S _ fun v F1 H1 x1 r1 => ?_
  obtain ⟨p, vs, rfl, g, l⟩ := r_lst.mp r1
  have g' : H1 p = some (.lst vs) := sel_h x1.fh _ _ g
  refine ⟨.inl ⟨rfl, _, SqL.of g'⟩, he G0 H0 F1 H1 σ (S.ext x1) _ fun w F2 H2 x2 r2 => ?_⟩
  rw [r_int.mp r2]
  have ev : vs = ns.map V.int := l.ints
  subst ev
  refine ⟨p, _, .int j, i, .int j, rfl, rfl, SqL.of (x2.h.k _ _ g' (fun _ z => nomatch z)), rfl, by simp [flatV], by rw [List.getElem?_map, hi]; rfl, by simp [eqV], fun k z' hk hz => ?_, q _ F2 H2 (x1.tr x2) (r_int.mpr rfl)⟩
  rw [List.getElem?_map] at hz
  cases h : ns[k]? with
  | none => rw [h] at hz; cases hz
  | some u =>
    rw [h] at hz
    cases hz
    have : u ≠ j := fun e => hf k hk (e ▸ h)
    simp [eqV, this]
theorem ev_indexI_a {ns : List Int} {j : Int} {i : Nat} (ho : EV X Δ false o (.lst (ns.map D.int))) (he : EV X Δ false e (.int j)) (hi : ns[i]? = some j) (hf : ∀ k, k < i → ns[k]? ≠ some j) (hbase : Rf (attributeBase o "index" X.env (eval o X.env) = eval o X.env)) (hfew : Rf (((backTo pos (starEach [e] X.env)).all (fun x => !x.1) && (backToKw pos (keywordEach [] X.env)).all (fun x => x.1.isSome)
      && decide ([e].length + ([] : List Keyword).length + (if ([] : List Keyword).isEmpty then 0 else 1) < 30)) = true)) (hline : Rf ((apos.endLine == pos.line) = true)) (hs : Rf (starEach [e] X.env = (false, eval e X.env) :: starEach [] X.env)) (hplain : Rf ((backTo pos (starEach ([] : List Expr) X.env)).any (·.1) = false)) : EV X Δ m (.Call (.Attribute o "index" apos) [e] [] pos) (.int (i : Int)) := ev_indexI ho he hi hf hbase.ok hfew.ok hline.ok hs.ok hplain.ok
end
/-! ### in, for lists of lists -/
theorem u65 {k : Nat} {A : Around} (r : Room k A) : A.units + 65 < cLine := by have := r.un; omega
theorem toPys_mem {x : D} : ∀ {ds : List D}, x ∈ ds → toPy x ∈ toPys ds
  | d :: ds, h => by
    rw [toPys]
    rcases List.mem_cons.mp h with rfl | h
    · exact List.mem_cons_self
    · exact List.mem_cons_of_mem _ (toPys_mem h)
theorem any_mem {x : D} {ds : List D} (h : x ∈ ds) (h1 : eqOk 64 x = true) : ((toPys ds).any fun z => PyData.eqv z (toPy x)) = true := List.any_eq_true.mpr ⟨_, toPys_mem h, eqv_self h1⟩
section
variable {X : Cx} {Δ : List Sl} {m : Bool} {a b : Expr} {x : D} {ds : List D} {pos : Pos}
theorem ev_inR (ha : EV X Δ false a x) (hb : EV X Δ false b (.lst ds)) (hu : X.A.units + 65 < cLine) (h1 : eqOk 64 x = true) (h2 : eqOk 64 (.lst ds) = true) (hx : x ∈ ds) (hm : behindInMarks .In b = false := by first | rfl | (with_unfolding_all rfl)) : EV X Δ m (.Compare a [.In] [b] pos) (.bl true) := by
  intro G0 H0 F H σ S Q q
  refine eU (pe_cmpR (op_inD hu) pe_u pe_u hm) (two ha hb S fun v w F' H' e r1 r2 => ?_)
  have h3 := dp_of 64 (.lst ds) w h2 r2
  have h4 := eqOk_shaped h2
  rw [toPy] at h3 h4
  exact ⟨_, _, dp_of 64 x v h1 r1, h3, eqOk_shaped h1, h4, q _ F' H' e (r_bl.mpr (by rw [any_mem hx h1]))⟩
theorem ev_inR_a (ha : EV X Δ false a x) (hb : EV X Δ false b (.lst ds)) (hu : X.A.units + 65 < cLine) (h1 : eqOk 64 x = true) (h2 : eqOk 64 (.lst ds) = true) (hx : x ∈ ds) (hm : Ru (behindInMarks .In b = false)) : EV X Δ m (.Compare a [.In] [b] pos) (.bl true) := ev_inR ha hb hu h1 h2 hx hm.ok
theorem tv_inR (ha : EV X Δ false a x) (hb : EV X Δ false b (.lst ds)) (hu : X.A.units + 65 < cLine) (h1 : eqOk 64 x = true) (h2 : eqOk 64 (.lst ds) = true) (hx : x ∈ ds) (hm : behindInMarks .In b = false := by first | rfl | (with_unfolding_all rfl)) : TV X Δ (.Compare a [.In] [b] pos) true :=
  tv_of_ev (op_inD hu) hm ha hb fun v w H r1 r2 Q q => by
    have h3 := dp_of 64 (.lst ds) w h2 r2
    have h4 := eqOk_shaped h2
    rw [toPy] at h3 h4
    exact ⟨_, _, dp_of 64 x v h1 r1, h3, eqOk_shaped h1, h4, by rw [any_mem hx h1]; exact q⟩
theorem tv_inR_a (ha : EV X Δ false a x) (hb : EV X Δ false b (.lst ds)) (hu : X.A.units + 65 < cLine) (h1 : eqOk 64 x = true) (h2 : eqOk 64 (.lst ds) = true) (hx : x ∈ ds) (hm : Ru (behindInMarks .In b = false)) : TV X Δ (.Compare a [.In] [b] pos) true := tv_inR ha hb hu h1 h2 hx hm.ok
theorem tv_ninR (ha : EV X Δ false a x) (hb : EV X Δ false b (.lst ds)) (hu : X.A.units + 65 < cLine) (h1 : eqOk 64 x = true) (h2 : eqOk 64 (.lst ds) = true) (hx : x ∈ ds) (hm : behindInMarks .NotIn b = false := by first | rfl | (with_unfolding_all rfl)) : TV X Δ (.Compare a [.NotIn] [b] pos) false :=
  tv_of_ev (op_notInD hu) hm ha hb fun v w H r1 r2 Q q => by
    have h3 := dp_of 64 (.lst ds) w h2 r2
    have h4 := eqOk_shaped h2
    rw [toPy] at h3 h4
    exact ⟨_, _, dp_of 64 x v h1 r1, h3, eqOk_shaped h1, h4, by rw [any_mem hx h1]; exact q⟩
theorem tv_ninR_a (ha : EV X Δ false a x) (hb : EV X Δ false b (.lst ds)) (hu : X.A.units + 65 < cLine) (h1 : eqOk 64 x = true) (h2 : eqOk 64 (.lst ds) = true) (hx : x ∈ ds) (hm : Ru (behindInMarks .NotIn b = false)) : TV X Δ (.Compare a [.NotIn] [b] pos) false := tv_ninR ha hb hu h1 h2 hx hm.ok
end
section
variable {X : Cx} {Δ : List Sl} {e : Expr} {es : List Expr} {ds : List D} {pos p : Pos} {n : Str} {k : Nat} {spec : List D → (Res → Prop) → Prop} {RL' : List D → Prop}
/-- a call handed lists of one's own too, its answer a new list of flat things -/
theorem eoe_callF (Fn : FnE X.prog X.w X.K X.mg X.base CX0 n k spec) (hr : Room k X.A) (hg : Gl X n) (ha : AV X Δ false (e :: es) ds) (hs : spec ds (fun r => ∃ ds, RL' ds ∧ r = .o ds)) (hf : ∀ ds, RL' ds → ds.all flat = true) (hdb : (n == ("__debug__" : Str)) = false := by decide)
    (he : starEach (e :: es) X.env = (false, eval e X.env) :: starEach es X.env := by rfl) (hpl : (backTo pos (starEach es X.env)).any (·.1) = false := by rfl) : EOE X Δ (.Call (.Name n p) (e :: es) [] pos) RL' := by
  intro G0 H0 F H σ S Q q
  obtain ⟨f, fd, ps, F1, hm, hk, hb⟩ := Fn.ex
  refine eU (pe_call F1 hr hg hm hk hb .nil pass0 pa_u hdb he hpl) (ha G0 H0 F H σ S _ fun vs F' H' x r => ?_)
  show PrE X.K spec (vs ++ []) H' Q E0
  rw [List.append_nil]
  refine ⟨unt H', ds, _, unt_sub H', unt_nt H', (S.ext x).tb, RL.monoN (unt_nb H') _ _ r, hs, fun r' hr' => ?_⟩
  obtain ⟨rs, hR, rfl⟩ := hr'
  exact fun p vs G2 H2 x2 n2 h2 f2 r2 => q rs p vs F' H2 hR (x.tr (Ext.growG x.fh (S.ext x).nt x2.h)) (x.h.none n2) h2 (x.fh.none n2) (flats_any (hf _ hR) r2)
theorem eoe_callF_a (Fn : FnE X.prog X.w X.K X.mg X.base CX0 n k spec) (hr : Room k X.A) (hg : Gl X n) (ha : AV X Δ false (e :: es) ds) (hs : spec ds (fun r => ∃ ds, RL' ds ∧ r = .o ds)) (hf : ∀ ds, RL' ds → ds.all flat = true) (hdb : Rd ((n == ("__debug__" : Str)) = false)) (he : Rf (starEach (e :: es) X.env = (false, eval e X.env) :: starEach es X.env)) (hpl : Rf ((backTo pos (starEach es X.env)).any (·.1) = false)) : EOE X Δ (.Call (.Name n p) (e :: es) [] pos) RL' := eoe_callF Fn hr hg ha hs hf hdb.ok he.ok hpl.ok
end
end Z

namespace Z
open PySem PySem.Spec PyProof.Rows L2
variable [τ : Tb]
section
variable {X : Cx} {Δ : List Sl} {ds : List D} {e : Expr} {p p2 pos pos2 : Pos} {RL' : List D → Prop}
/-- list(reversed(e)), e told in part -/
theorem eoe_listRev (hg : Gl X "list") (hm : X.mg "list" = none) (hg2 : Gl X "reversed") (hm2 : X.mg "reversed" = none) (ha : EVE X Δ true e (fun d => ∃ ds, RL' ds ∧ d = .lst ds)) (hc : X.calm = true := by rfl)
    (hs : starEach [e] X.env = (false, eval e X.env) :: starEach [] X.env := by rfl)
    (hs2 : starEach [.Call (.Name "reversed" p2) [e] [] pos2] X.env = (false, eval (.Call (.Name "reversed" p2) [e] [] pos2) X.env) :: starEach [] X.env := by rfl) :
    EOE X Δ (.Call (.Name "list" p) [.Call (.Name "reversed" p2) [e] [] pos2] [] pos) (fun rs => ∃ ds, RL' ds ∧ rs = ds.reverse) := by
  intro G0 H0 F H σ S Q q
  refine eU (pe_lstRev hc hg hm hg2 hm2 pe_u hs hs2) (ha G0 H0 F H σ S _ fun d v F' H' hd x r => ?_)
  obtain ⟨ds, hR, rfl⟩ := hd
  obtain ⟨a, vs, rfl, g, l⟩ := r_lst.mp r
  have g' : F' a = some (.lst vs) := g
  refine ⟨a, vs, rfl, SqL.of (x.fh _ _ g'), fun p2 n2 => q ds.reverse p2 vs.reverse F' _ ⟨ds, hR, rfl⟩ (x.tr (Ext.grow x.fh (Sub.new n2))) (x.h.none n2) upd_same (x.fh.none n2) ?_⟩
  have l' : RL X.K F' ds vs := l
  exact l'.reverse
theorem eoe_listRev_a (hg : Gl X "list") (hm : X.mg "list" = none) (hg2 : Gl X "reversed") (hm2 : X.mg "reversed" = none) (ha : EVE X Δ true e (fun d => ∃ ds, RL' ds ∧ d = .lst ds)) (hc : Rf (X.calm = true)) (hs : Rf (starEach [e] X.env = (false, eval e X.env) :: starEach [] X.env)) (hs2 : Rf (starEach [.Call (.Name "reversed" p2) [e] [] pos2] X.env = (false, eval (.Call (.Name "reversed" p2) [e] [] pos2) X.env) :: starEach [] X.env)) : EOE X Δ (.Call (.Name "list" p) [.Call (.Name "reversed" p2) [e] [] pos2] [] pos) (fun rs => ∃ ds, RL' ds ∧ rs = ds.reverse) := eoe_listRev hg hm hg2 hm2 ha hc.ok hs.ok hs2.ok
end
end Z

namespace Z
open PySem PySem.Spec PyProof.Rows L2
variable [τ : Tb]
section
variable {X : Cx} {Δ : List Sl} {pos : Pos} {ds : List D} {C : Out → Prop}
/-- x.clear() -/
theorem sm_clear {i : Nat} {n : Str} {p1 p2 p3 : Pos} {qq : Option Addr} (hN : X.N[i]? = some n) (hΔ : Δ[i]? = some (Sl.w qq (T.l ds))) (k : C (.nx (Δ.set i (.w qq (T.l []))))) (hv : Vis X.env.scope n := by first | exact Or.inl rfl | exact Or.inr (Or.inl rfl) | exact Or.inr (Or.inr rfl))
    (hd : (n == ("__debug__" : Str)) = false := by decide) (hcd : (n == ("__classdict__" : Str)) = false := by decide)
    (hb : attributeBase (.Name n p1) "clear" X.env (eval (.Name n p1) X.env) = eval (.Name n p1) X.env := by rfl) (hlin : (p2.endLine == p3.line) = true := by rfl)
    (hs : swapsWith (.Call (.Attribute (.Name n p1) "clear" p2) [] [] p3) none pos.line X.env = pure false := by rfl) :
    Sm X (.Expr (.Call (.Attribute (.Name n p1) "clear" p2) [] [] p3) pos) Δ C := by
  intro G0 H0 F H σ S D q
  obtain ⟨p, vs, e1, e2, e3, e4, e5⟩ := S.own i ds hΔ
  refine sU1 (ps_expr (pe_bm0 (hbase := hb) (hline := hlin) PySem.F.plainAttrs_list PySem.F.slot_list_clear PySem.F.type_list_clear mt_clear (pe_var hN hv hd hcd)) hs) ?_
  refine ⟨.ref p, e1, .inl ⟨rfl, _, SqL.of e2⟩, p, vs, rfl, rfl, e2, ?_⟩
  exact q _ k F _ σ (S.chg hΔ e1 RL.nil)
theorem sm_clear_a {i : Nat} {n : Str} {p1 p2 p3 : Pos} {qq : Option Addr} (hN : X.N[i]? = some n) (hΔ : Δ[i]? = some (Sl.w qq (T.l ds))) (k : C (.nx (Δ.set i (.w qq (T.l []))))) (hv : Rv (Vis X.env.scope n)) (hd : Rd ((n == ("__debug__" : Str)) = false)) (hcd : Rd ((n == ("__classdict__" : Str)) = false)) (hb : Rf (attributeBase (.Name n p1) "clear" X.env (eval (.Name n p1) X.env) = eval (.Name n p1) X.env)) (hlin : Rf ((p2.endLine == p3.line) = true)) (hs : Rf (swapsWith (.Call (.Attribute (.Name n p1) "clear" p2) [] [] p3) none pos.line X.env = pure false)) : Sm X (.Expr (.Call (.Attribute (.Name n p1) "clear" p2) [] [] p3) pos) Δ C := sm_clear hN hΔ k hv.ok hd.ok hcd.ok hb.ok hlin.ok hs.ok
/-- x.pop() -/
theorem sm_pop {i : Nat} {n : Str} {p1 p2 p3 : Pos} {qq : Option Addr} {d : D} (hN : X.N[i]? = some n) (hΔ : Δ[i]? = some (Sl.w qq (T.l (ds ++ [d])))) (k : C (.nx (Δ.set i (.w qq (T.l ds))))) (hv : Vis X.env.scope n := by first | exact Or.inl rfl | exact Or.inr (Or.inl rfl) | exact Or.inr (Or.inr rfl))
    (hd : (n == ("__debug__" : Str)) = false := by decide) (hcd : (n == ("__classdict__" : Str)) = false := by decide)
    (hb : attributeBase (.Name n p1) "pop" X.env (eval (.Name n p1) X.env) = eval (.Name n p1) X.env := by rfl) (hlin : (p2.endLine == p3.line) = true := by rfl)
    (hs : swapsWith (.Call (.Attribute (.Name n p1) "pop" p2) [] [] p3) none pos.line X.env = pure false := by rfl) :
    Sm X (.Expr (.Call (.Attribute (.Name n p1) "pop" p2) [] [] p3) pos) Δ C := by
  intro G0 H0 F H σ S D q
  obtain ⟨p, vs, e1, e2, e3, e4, e5⟩ := S.own i _ hΔ
  have hl := e5.length
  rw [List.length_append, List.length_singleton] at hl
  have hd' : vs.dropLast = vs.take ds.length := by rw [List.dropLast_eq_take, hl, Nat.add_sub_cancel]
  have e6 := e5.take ds.length
  rw [List.take_left] at e6
  refine sU1 (ps_expr (pe_bm0 (hbase := hb) (hline := hlin) PySem.F.plainAttrs_list PySem.F.slot_list_pop PySem.F.type_list_pop mt_pop (pe_var hN hv hd hcd)) hs) ?_
  refine ⟨.ref p, e1, .inl ⟨rfl, _, SqL.of e2⟩, p, vs, vs[vs.length - 1], rfl, rfl, e2, List.getElem?_eq_getElem (by omega), ?_⟩
  rw [hd']
  exact q _ k F _ σ (S.chg hΔ e1 e6)
theorem sm_pop_a {i : Nat} {n : Str} {p1 p2 p3 : Pos} {qq : Option Addr} {d : D} (hN : X.N[i]? = some n) (hΔ : Δ[i]? = some (Sl.w qq (T.l (ds ++ [d])))) (k : C (.nx (Δ.set i (.w qq (T.l ds))))) (hv : Rv (Vis X.env.scope n)) (hd : Rd ((n == ("__debug__" : Str)) = false)) (hcd : Rd ((n == ("__classdict__" : Str)) = false)) (hb : Rf (attributeBase (.Name n p1) "pop" X.env (eval (.Name n p1) X.env) = eval (.Name n p1) X.env)) (hlin : Rf ((p2.endLine == p3.line) = true)) (hs : Rf (swapsWith (.Call (.Attribute (.Name n p1) "pop" p2) [] [] p3) none pos.line X.env = pure false)) : Sm X (.Expr (.Call (.Attribute (.Name n p1) "pop" p2) [] [] p3) pos) Δ C := sm_pop hN hΔ k hv.ok hd.ok hcd.ok hb.ok hlin.ok hs.ok
end
end Z

namespace Z
open PySem PySem.Spec PyProof.Rows L2
variable [τ : Tb]
/-! ### except x as n -/
def asC (i : Nat) (C : Out → Prop) : Out → Prop
  | .nx Δ => C (.nx (Δ.set i .u)) | .bk Δ => C (.bk (Δ.set i .u)) | .ct Δ => C (.ct (Δ.set i .u)) | .xr _ _ => False | .rt r Δ => C (.rt r Δ)
def tryA (X : Cx) (c : Value) (i : Nat) (suite : List Stmt) (C : Out → Prop) : Out → Prop
  | .xr E Δ' => ∃ b, PySem.W.exmOne X.K (.ref E) c = some b ∧ (b = true → ∀ (a : Addr) (oe : Obj) (pn : List (Addr × Obj)), Zc (.ref E) none oe → (∃ vs, oe.data = .fields vs) → Bk (X.suite a ((a, oe) :: pn)) suite (Δ'.set i (.v (.opq a))) (asC i C)) ∧ (b = false → C (.xr E Δ'))
  | o => C o
section
variable {X : Cx} {Δ : List Sl} {C : Out → Prop} {body suite : List Stmt} {b₀ : Stmt} {x n : Str} {c : Value} {i : Nat} {np pos pos' : Pos}
theorem out_as {X' : Cx} {G0 H0 : Hp} {D : Ends} (hK : X'.K = X.K) (q : ∀ o, C o → OutOk X G0 H0 D o) : ∀ o, asC i C o → OutOk X' G0 H0 { nx := fun σ' H' => D.nx (σ'.set i none) H', rt := D.rt, bk := fun σ' H' => D.bk (σ'.set i none) H', ct := fun σ' H' => D.ct (σ'.set i none) H' } o := by
  intro o ho
  cases o with
  | nx Δ => have := q _ ho; unfold OutOk at this ⊢; rw [hK]; exact fun F1 H1 σ1 T => this F1 H1 _ T.setu
  | bk Δ => have := q _ ho; unfold OutOk at this ⊢; rw [hK]; exact fun F1 H1 σ1 T => this F1 H1 _ T.setu
  | ct Δ => have := q _ ho; unfold OutOk at this ⊢; rw [hK]; exact fun F1 H1 σ1 T => this F1 H1 _ T.setu
  | xr E Δ => exact False.elim ho
  | rt r Δ => cases r <;> (have := q _ ho; unfold OutOk at this ⊢; rw [hK]; exact this)
theorem sm_tryAs (hs : X.stack = X.env :: X.outer) (hf : X.env.frame = some X.env.locals) (hN : X.N.Nodup) (hi : X.N[i]? = some n) (hln : X.env.kindOf n = some .local) (hc : Names X x c)
    (hb : ∀ (pn : List (Addr × Obj)) (xe : Value → Shared → Prop), PassesOwn (model X.prog X.w) X.A X.env xe → Bk (X.tr pn xe) body Δ (tryA X c i (b₀ :: suite) C)) :
    Sm X (.Try body [.ExceptHandler (some (.Name x np)) (some n) (b₀ :: suite) pos'] [] [] pos) Δ C := fun G0 H0 F H σ S D q =>
  sU1 (ps_try_as (tb := fun W D σ H => ∀ pn xe, Takes (X.tr pn xe) W → PassesOwn (model X.prog X.w) X.A X.env xe → uS (X.tr pn xe) body D σ H) (ts := fun a cls d D σ H => ∀ oe pn, Zc cls d oe → (∃ vs, oe.data = .fields vs) → uS (X.suite a ((a, oe) :: pn)) (b₀ :: suite) D σ H) hs hf hN hi hln hc (takes_out q)
    (fun W pn xe tk hp => ⟨fun pins s σ H D I h => (h pn xe tk hp).run pins s I⟩) (fun a oe cls d pn hz hf => ⟨fun pins s σ H D I h => (h oe pn hz hf).run pins s I⟩))
    (fun pn xe tk hp => by
      refine hb pn xe hp G0 H0 F H σ S _ fun o ho => ?_
      cases o with
      | nx Δ' => exact q (.nx Δ') ho
      | bk Δ' => exact q (.bk Δ') ho
      | ct Δ' => exact q (.ct Δ') ho
      | rt r Δ' => have := q (.rt r Δ') ho; cases r <;> exact this
      | xr E Δ' =>
        obtain ⟨b, e1, e2, e3⟩ := ho
        intro F1 H1 σ1 T
        refine tk.imp fun cls d σ' H' h => ?_
        obtain ⟨rfl, rfl, rfl, rfl⟩ := h
        exact ⟨b, e1, fun hbt a na oe pn' hz hf => e2 hbt a oe pn' hz hf G0 H0 F1 H' _ (T.setv (r_opq.mpr rfl)) _ (out_as (X := X) rfl q), fun hbf => ⟨E, Δ', F1, rfl, rfl, e3 hbf, T⟩⟩)
end
/-! ### isinstance of the exception that is held -/
def rIsET (K : PySem.W.Frag) (D a : Addr) : List V → Hp → VK → Prop := fun xs H Q => ∃ (tp : Addr) (cs : List V) (us : List Value) (b : Bool), xs = [.ref a, .ref tp] ∧ H tp = some (.tup cs) ∧ Paired ClsV cs us ∧ PySem.W.kitAny K (.ref D) us = some b ∧ Q (.bl b) H
theorem call_isET {X : Cx} {a D : Addr} {oe : Obj} {pn : List (Addr × Obj)} (C : ExcC X.K D) (hz : Zc (.ref D) none oe) (hf : ∃ vs, oe.data = .fields vs) : CallR (X.suite a ((a, oe) :: pn)) (.builtin "isinstance") (rIsET X.K D a) := by
  intro pins s σ H xs us Q I r h
  obtain ⟨tp, cs, ws, b, rfl, hT, k, e, q⟩ := h
  cases r with
  | cons rx rr =>
    cases rr with
    | cons rt rr =>
      cases rr
      cases rx
      rename_i u2
      cases (show u2 = Value.ref tp from rt)
      obtain ⟨hget, _⟩ := I.pin (a, oe) (List.mem_append.mpr (.inl List.mem_cons_self))
      obtain ⟨vs, hv⟩ := hf
      have J : PySem.W.InstAt s.heap a oe D none := by
        obtain ⟨oc, od, oda, osl⟩ := oe
        obtain ⟨h1, h2⟩ := hz
        dsimp only at h1 h2 hv
        subst h1 h2 hv
        exact ⟨hget, rfl, rfl, trivial⟩
      obtain ⟨_, its, rv, o, h1, h2, n, h3⟩ := (show ObjOk X.prog X.w H s.heap tp (.tup cs) from I.hok tp _ hT)
      have e3 := ClsV.all k rv
      subst e3
      obtain ⟨oc, od, dt, sl⟩ := o
      simp only at h2 h3
      subst h2 h3
      exact PySem.W.kia_tup (PySem.W.handS_kitx_exc C.hg C.hk C.hs C.hd C.ha C.hn C.ht C.hm) I.kIn J h1 e (fun z => nomatch z) fun tk => ⟨.bl b, H, I.kept (t' := tk) fun _ _ z => z, rfl, q⟩
theorem rl_opq {K : PySem.W.Frag} {G : Hp} : ∀ {Cs : List Addr} {vs : List V}, RL K G (Cs.map D.opq) vs → Paired ClsV vs (Cs.map Value.ref)
  | [], _, h => by rw [rl_nil.mp h]; exact .nil
  | C :: Cs, _, h => by
    obtain ⟨v, vs', rfl, a, b⟩ := rl_cons.mp h
    rw [r_opq.mp a]
    exact .cons (.own C) (rl_opq b)
section
variable {X : Cx} {Δ : List Sl} {m : Bool} {a D Cc : Addr} {oe : Obj} {pn : List (Addr × Obj)} {e c : Expr} {n : Str} {p p2 pos : Pos} {b : Bool}
/-- a class of one's own, by its name -/
theorem ev_cls (hg : Gl X n) (hm : X.mg n = some (.ref Cc)) (hd : (n == ("__debug__" : Str)) = false := by decide) : EV X Δ m (.Name n pos) (.opq Cc) := ev_glob (v := .ref Cc) hg hm rfl hd fun G => r_opq.mpr rfl
theorem ev_cls_a (hg : Gl X n) (hm : X.mg n = some (.ref Cc)) (hd : Rd ((n == ("__debug__" : Str)) = false)) : EV X Δ m (.Name n pos) (.opq Cc) := ev_cls hg hm hd.ok
theorem ev_isE (E : ExcC X.K D) (hz : Zc (.ref D) none oe) (hf : ∃ vs, oe.data = .fields vs) (hg : Gl (X.suite a ((a, oe) :: pn)) "isinstance") (hm : X.mg "isinstance" = none) (he : EV (X.suite a ((a, oe) :: pn)) Δ false e (.opq a)) (hc : EV (X.suite a ((a, oe) :: pn)) Δ false c (.opq Cc)) (hk : PySem.W.kitOne X.K (.ref D) (.ref Cc) = some b)
    (hs : starEach [e, c] X.env = (false, eval e X.env) :: starEach [c] X.env := by rfl) (hs2 : starEach [c] X.env = (false, eval c X.env) :: starEach [] X.env := by rfl) (hpl : (backTo pos (starEach [c] X.env)).any (·.1) = false := by rfl) :
    EV (X.suite a ((a, oe) :: pn)) Δ m (.Call (.Name "isinstance" p) [e, c] [] pos) (.bl b) := by
  intro G0 H0 F H σ S Q q
  refine eU (pe_callB (call_isE E hz hf) hg hm bt_isinstance (pa_cons pe_u (pa_cons pe_u pa_nil hs2) hs) (by decide) (by decide) hs hpl) (two he hc S fun v w F' H' x r r2 => ?_)
  rw [r_opq.mp r, r_opq.mp r2]
  exact ⟨.ref Cc, .ref Cc, b, rfl, fun u hu => hu, hk, q _ F' H' x (r_bl.mpr rfl)⟩
theorem ev_isE_a (E : ExcC X.K D) (hz : Zc (.ref D) none oe) (hf : ∃ vs, oe.data = .fields vs) (hg : Gl (X.suite a ((a, oe) :: pn)) "isinstance") (hm : X.mg "isinstance" = none) (he : EV (X.suite a ((a, oe) :: pn)) Δ false e (.opq a)) (hc : EV (X.suite a ((a, oe) :: pn)) Δ false c (.opq Cc)) (hk : PySem.W.kitOne X.K (.ref D) (.ref Cc) = some b) (hs : Rf (starEach [e, c] X.env = (false, eval e X.env) :: starEach [c] X.env)) (hs2 : Rf (starEach [c] X.env = (false, eval c X.env) :: starEach [] X.env)) (hpl : Rf ((backTo pos (starEach [c] X.env)).any (·.1) = false)) : EV (X.suite a ((a, oe) :: pn)) Δ m (.Call (.Name "isinstance" p) [e, c] [] pos) (.bl b) := ev_isE E hz hf hg hm he hc hk hs.ok hs2.ok hpl.ok
theorem ev_isEb {T : String} (E : ExcC X.K D) (hz : Zc (.ref D) none oe) (hf : ∃ vs, oe.data = .fields vs) (hg : Gl (X.suite a ((a, oe) :: pn)) "isinstance") (hm : X.mg "isinstance" = none) (he : EV (X.suite a ((a, oe) :: pn)) Δ false e (.opq a)) (hg2 : Gl (X.suite a ((a, oe) :: pn)) n) (hm2 : X.mg n = none) (hv2 : bootBuiltins n = some (.type T)) (hk : PySem.W.kitOne X.K (.ref D) (.type T) = some b) (hn2 : n ≠ "__name__" := by decide) (hd2 : (n == ("__debug__" : Str)) = false := by decide)
    (hs : starEach [e, .Name n p2] X.env = (false, eval e X.env) :: starEach [.Name n p2] X.env := by rfl) (hs2 : starEach [.Name n p2] X.env = (false, eval (.Name n p2) X.env) :: starEach [] X.env := by rfl) (hpl : (backTo pos (starEach [.Name n p2] X.env)).any (·.1) = false := by rfl) :
    EV (X.suite a ((a, oe) :: pn)) Δ m (.Call (.Name "isinstance" p) [e, .Name n p2] [] pos) (.bl b) := by
  intro G0 H0 F H σ S Q q
  refine eU (pe_callB (call_isE E hz hf) hg hm bt_isinstance (pa_cons pe_u (pa_cons (pe_bltn (v := .ty T) hg2 hm2 hv2 rfl hn2 hd2) pa_nil hs2) hs) (by decide) (by decide) hs hpl) (he G0 H0 F H σ S _ fun v F' H' x r => ?_)
  rw [r_opq.mp r]
  exact ⟨.ty T, .type T, b, rfl, fun u hu => hu, hk, q _ F' H' x (r_bl.mpr rfl)⟩
theorem ev_isEb_a {T : String} (E : ExcC X.K D) (hz : Zc (.ref D) none oe) (hf : ∃ vs, oe.data = .fields vs) (hg : Gl (X.suite a ((a, oe) :: pn)) "isinstance") (hm : X.mg "isinstance" = none) (he : EV (X.suite a ((a, oe) :: pn)) Δ false e (.opq a)) (hg2 : Gl (X.suite a ((a, oe) :: pn)) n) (hm2 : X.mg n = none) (hv2 : bootBuiltins n = some (.type T)) (hk : PySem.W.kitOne X.K (.ref D) (.type T) = some b) (hn2 : Rd (n ≠ "__name__")) (hd2 : Rd ((n == ("__debug__" : Str)) = false)) (hs : Rf (starEach [e, .Name n p2] X.env = (false, eval e X.env) :: starEach [.Name n p2] X.env)) (hs2 : Rf (starEach [.Name n p2] X.env = (false, eval (.Name n p2) X.env) :: starEach [] X.env)) (hpl : Rf ((backTo pos (starEach [.Name n p2] X.env)).any (·.1) = false)) : EV (X.suite a ((a, oe) :: pn)) Δ m (.Call (.Name "isinstance" p) [e, .Name n p2] [] pos) (.bl b) := ev_isEb E hz hf hg hm he hg2 hm2 hv2 hk hn2.ok hd2.ok hs.ok hs2.ok hpl.ok
theorem ev_isET {Cs : List Addr} (E : ExcC X.K D) (hz : Zc (.ref D) none oe) (hf : ∃ vs, oe.data = .fields vs) (hg : Gl (X.suite a ((a, oe) :: pn)) "isinstance") (hm : X.mg "isinstance" = none) (he : EV (X.suite a ((a, oe) :: pn)) Δ false e (.opq a)) (hc : EV (X.suite a ((a, oe) :: pn)) Δ false c (.tup (Cs.map .opq))) (hk : PySem.W.kitAny X.K (.ref D) (Cs.map .ref) = some b)
    (hs : starEach [e, c] X.env = (false, eval e X.env) :: starEach [c] X.env := by rfl) (hs2 : starEach [c] X.env = (false, eval c X.env) :: starEach [] X.env := by rfl) (hpl : (backTo pos (starEach [c] X.env)).any (·.1) = false := by rfl) :
    EV (X.suite a ((a, oe) :: pn)) Δ m (.Call (.Name "isinstance" p) [e, c] [] pos) (.bl b) := by
  intro G0 H0 F H σ S Q q
  refine eU (pe_callB (call_isET E hz hf) hg hm bt_isinstance (pa_cons pe_u (pa_cons pe_u pa_nil hs2) hs) (by decide) (by decide) hs hpl) (two he hc S fun v w F' H' x r r2 => ?_)
  rw [r_opq.mp r]
  obtain ⟨tp, vs, rfl, g, l⟩ := r_tup.mp r2
  exact ⟨tp, vs, Cs.map .ref, b, rfl, g, rl_opq l, hk, q _ F' H' x (r_bl.mpr rfl)⟩
theorem ev_isET_a {Cs : List Addr} (E : ExcC X.K D) (hz : Zc (.ref D) none oe) (hf : ∃ vs, oe.data = .fields vs) (hg : Gl (X.suite a ((a, oe) :: pn)) "isinstance") (hm : X.mg "isinstance" = none) (he : EV (X.suite a ((a, oe) :: pn)) Δ false e (.opq a)) (hc : EV (X.suite a ((a, oe) :: pn)) Δ false c (.tup (Cs.map .opq))) (hk : PySem.W.kitAny X.K (.ref D) (Cs.map .ref) = some b) (hs : Rf (starEach [e, c] X.env = (false, eval e X.env) :: starEach [c] X.env)) (hs2 : Rf (starEach [c] X.env = (false, eval c X.env) :: starEach [] X.env)) (hpl : Rf ((backTo pos (starEach [c] X.env)).any (·.1) = false)) : EV (X.suite a ((a, oe) :: pn)) Δ m (.Call (.Name "isinstance" p) [e, c] [] pos) (.bl b) := ev_isET E hz hf hg hm he hc hk hs.ok hs2.ok hpl.ok
end
end Z

namespace Z
open PySem PySem.Spec PyProof.Rows L2
variable [τ : Tb]
section
variable {X : Cx} {Δ : List Sl} {m : Bool} {o e a : Expr} {pos apos : Pos} {ds : List D} {d : D} {C : Out → Prop}
/-- s.join(e), e a list of texts -/
theorem ev_join {ys : List Str} {s : Str} (ho : EV X Δ false o (.str s)) (he : EV X Δ false e (.lst (ys.map D.str))) (hz : (ys.map (·.length)).sum + ys.length * s.length ≤ 16777216) (hs : starEach [e] X.env = [(false, eval e X.env)] := by rfl) (hb : attributeBase o "join" X.env (eval o X.env) = eval o X.env := by rfl) (hl : (apos.endLine == pos.line) = true := by rfl) :
    EV X Δ m (.Call (.Attribute o "join" apos) [e] [] pos) (.str (Txt.join s ys)) := by
  refine EV.up (fun G0 H0 F H σ S Q q => ?_) rfl
  refine eU (pe_join pe_u pe_u hs hb hl) (ho G0 H0 F H σ S _ fun v F' H' x r1 => ?_)
  refine ⟨⟨s, r_str.mp r1⟩, he G0 H0 F' H' σ (S.ext x) _ fun w F2 H2 x2 r2 => ?_⟩
  obtain ⟨p, vs, rfl, g, l⟩ := r_lst.mp r2
  have l' := l.strs
  subst l'
  exact ⟨s, p, ys, r_str.mp r1, rfl, .inl (SqL.of g), hz, q _ F2 H2 (x.tr x2) (r_str.mpr rfl)⟩
theorem ev_join_a {ys : List Str} {s : Str} (ho : EV X Δ false o (.str s)) (he : EV X Δ false e (.lst (ys.map D.str))) (hz : (ys.map (·.length)).sum + ys.length * s.length ≤ 16777216) (hs : Rf (starEach [e] X.env = [(false, eval e X.env)])) (hb : Rf (attributeBase o "join" X.env (eval o X.env) = eval o X.env)) (hl : Rf ((apos.endLine == pos.line) = true)) : EV X Δ m (.Call (.Attribute o "join" apos) [e] [] pos) (.str (Txt.join s ys)) := ev_join ho he hz hs.ok hb.ok hl.ok
/-- x.insert(i, e) -/
theorem sm_insert {i : Nat} {n : Str} {z : Int} {p1 p2 p3 : Pos} {qq : Option Addr} (hN : X.N[i]? = some n) (hΔ : Δ[i]? = some (Sl.w qq (T.l ds))) (ha : EV X Δ false a (.int z)) (he : EV X Δ true e d) (hl : ds.length < sizeLine) (h0 : 0 ≤ z) (h1 : z < 2 ^ 63) (k : C (.nx (Δ.set i (.w qq (T.l (ds.take z.toNat ++ [d] ++ ds.drop z.toNat))))))
    (hv : Vis X.env.scope n := by first | exact Or.inl rfl | exact Or.inr (Or.inl rfl) | exact Or.inr (Or.inr rfl))
    (hd : (n == ("__debug__" : Str)) = false := by decide) (hcd : (n == ("__classdict__" : Str)) = false := by decide)
    (hb : attributeBase (.Name n p1) "insert" X.env (eval (.Name n p1) X.env) = eval (.Name n p1) X.env := by rfl) (hlin : (p2.endLine == p3.line) = true := by rfl)
    (hst : starEach [a, e] X.env = (false, eval a X.env) :: starEach [e] X.env := by rfl) (hst2 : starEach [e] X.env = (false, eval e X.env) :: starEach [] X.env := by rfl) (hpl : (backTo p3 (starEach [e] X.env)).any (·.1) = false := by rfl)
    (hfew : ((((backTo p3 (starEach [a, e] X.env)).all fun x => !x.fst) && (backToKw p3 (keywordEach [] X.env)).all fun x => x.fst.isSome) && decide (([a, e].length + ([] : List Keyword).length + if ([] : List Keyword).isEmpty = true then 0 else 1) < 30)) = true := by rfl) (hs : swapsWith (.Call (.Attribute (.Name n p1) "insert" p2) [a, e] [] p3) none pos.line X.env = pure false := by rfl) :
    Sm X (.Expr (.Call (.Attribute (.Name n p1) "insert" p2) [a, e] [] p3) pos) Δ C := by
  intro G0 H0 F H σ S D q
  obtain ⟨p, vs, e1, e2, e3, e4, e5⟩ := S.own i ds hΔ
  refine sU1 (ps_expr (pe_bm (hbase := hb) (hfew := hfew) (hline := hlin) (hs := hst) (hplain := hpl) PySem.F.plainAttrs_list PySem.F.slot_list_insert PySem.F.type_list_insert mt_insert (pe_var hN hv hd hcd) (pa_cons pe_u (pa_cons pe_u pa_nil hst2) hst)) hs) ?_
  refine ⟨.ref p, e1, .inl ⟨rfl, _, SqL.of e2⟩, ha G0 H0 F H σ S _ fun u F1 H1 x1 r1 => he G0 H0 F1 H1 σ (S.ext x1) _ fun v F2 H2 x2 r2 => ?_⟩
  have x := x1.tr x2
  have S' := S.ext x
  have e5' := RL.mono x.f _ _ e5
  refine ⟨p, vs, z, v, rfl, by rw [r_int.mp r1], x.h.k _ _ e2 (fun _ z => nomatch z), by rw [e5.length]; exact hl, h0, h1, ?_⟩
  exact q _ k F2 _ σ (S'.chg hΔ e1 (((e5'.take _).append (RL.cons r2 RL.nil)).append (e5'.drop _)))
theorem sm_insert_a {i : Nat} {n : Str} {z : Int} {p1 p2 p3 : Pos} {qq : Option Addr} (hN : X.N[i]? = some n) (hΔ : Δ[i]? = some (Sl.w qq (T.l ds))) (ha : EV X Δ false a (.int z)) (he : EV X Δ true e d) (hl : ds.length < sizeLine) (h0 : 0 ≤ z) (h1 : z < 2 ^ 63) (k : C (.nx (Δ.set i (.w qq (T.l (ds.take z.toNat ++ [d] ++ ds.drop z.toNat)))))) (hv : Rv (Vis X.env.scope n)) (hd : Rd ((n == ("__debug__" : Str)) = false)) (hcd : Rd ((n == ("__classdict__" : Str)) = false)) (hb : Rf (attributeBase (.Name n p1) "insert" X.env (eval (.Name n p1) X.env) = eval (.Name n p1) X.env)) (hlin : Rf ((p2.endLine == p3.line) = true)) (hst : Rf (starEach [a, e] X.env = (false, eval a X.env) :: starEach [e] X.env)) (hst2 : Rf (starEach [e] X.env = (false, eval e X.env) :: starEach [] X.env)) (hpl : Rf ((backTo p3 (starEach [e] X.env)).any (·.1) = false)) (hfew : Rf (((((backTo p3 (starEach [a, e] X.env)).all fun x => !x.fst) && (backToKw p3 (keywordEach [] X.env)).all fun x => x.fst.isSome) && decide (([a, e].length + ([] : List Keyword).length + if ([] : List Keyword).isEmpty = true then 0 else 1) < 30)) = true)) (hs : Rf (swapsWith (.Call (.Attribute (.Name n p1) "insert" p2) [a, e] [] p3) none pos.line X.env = pure false)) : Sm X (.Expr (.Call (.Attribute (.Name n p1) "insert" p2) [a, e] [] p3) pos) Δ C := sm_insert hN hΔ ha he hl h0 h1 k hv.ok hd.ok hcd.ok hb.ok hlin.ok hst.ok hst2.ok hpl.ok hfew.ok hs.ok
end
end Z

namespace Z
open PySem PySem.Spec PyProof.Rows L2
/-! ### enumerate(x), x a tuple -/
section
open PySem PySem.Sem PySem.Calls
theorem meets_enum1 {v : Value} {o : Obj} {H : Heap → Prop} (B : Begins v o H) :
    Meets (Builtin.«enumerate.__new__» ⟨[.type "enumerate", v], []⟩) (fun _ R s => H s.heap ∧
      R (.ok (.ret (.ref (s.heap.push o).objs.size))) { s with heap := (s.heap.push o).push { cls := .type "enumerate", data := .fields #[.none, .bool false, .ref s.heap.objs.size, rawInt 0, .none, .none] } }) :=
  .of_wp fun prog w A R s h => by
    obtain ⟨hp, g, d, tk, os⟩ := s; obtain ⟨h1, h⟩ := h
    have hsub := sub_enumerate
    have q1 : ∀ {A' : Around} {E : Value → Shared → Prop} {Q : Value → Shared → Prop}, Q (.ref hp.objs.size) ⟨hp.push o, g, d, tk, os⟩ → wpAny (model prog w) A' (pyIter v) Q E ⟨hp, g, d, tk, os⟩ :=
      fun q => B.iter prog w _ _ ⟨hp, g, d, tk, os⟩ _ h1 q
    wp_walk using q1
    refine wpAny_stack_any fun st => wpAny_pure ?_
    split
    · rename_i c _ _ _ _ _
      cases (c == Value.type "enumerate")
      · wp_walk using q1
        exact ⟨_, rfl, h⟩
      · wp_walk using q1
        exact ⟨_, rfl, h⟩
    · wp_walk using q1
      exact ⟨_, rfl, h⟩
section
variable {prog : Program} {w : World} {A : Around} {E : Value → Shared → Prop} {s : Shared}
theorem enum1_begins {v : Value} {o : Obj} {H : Heap → Prop} {Q : Value → Shared → Prop} (B : Begins v o H) (h1 : H s.heap)
    (h : ∀ h', IsEnum h' (s.heap.objs.size + 1) s.heap.objs.size 0 .none → h'.get? s.heap.objs.size = some o → h'.objs.size = s.heap.objs.size + 2 →
      (∀ b o, s.heap.get? b = some o → h'.get? b = some o) → Q (.ref (s.heap.objs.size + 1)) { s with heap := h' }) :
    wpAny (model prog w) A (call (.type "enumerate") [v]) Q E s := by
  refine callType_new F.called_enumerate (by decide) (F.typeCall_enumerate_1 _) (F.newCall_enumerate_1 _) (fun obj => F.args_object_init_2 obj _) F.entry_enumerate_new
    (meets_enum1 B) ⟨h1, ?_⟩
  have hz : (s.heap.push o).objs.size = s.heap.objs.size + 1 := Heap.size_push ..
  show _ ∧ _
  rw [hz]
  have he : IsEnum ((s.heap.push o).push { cls := .type "enumerate", data := .fields #[.none, .bool false, .ref s.heap.objs.size, rawInt 0, .none, .none] }) (s.heap.objs.size + 1) s.heap.objs.size 0 .none := by
    have := Heap.get?_push_size (s.heap.push o) (o := { cls := .type "enumerate", data := .fields #[.none, .bool false, .ref s.heap.objs.size, rawInt 0, .none, .none] }) rfl
    rw [hz] at this; exact this
  exact ⟨⟨_, he, rfl⟩, h _ he (Heap.get?_push_of_some _ (Heap.get?_push_size _ B.free)) (by rw [Heap.size_push, hz]) fun b o x => Heap.get?_push_of_some _ (Heap.get?_push_of_some _ x)⟩
end
end
/-- the tuple at a, each item in a new pair -/
def IteT (K : PySem.W.Frag) (a : Addr) : It :=
  ⟨fun i H => ∃ (xs : List V) (x : V), SqT K H a xs ∧ xs[i]? = some x, fun i H v H' => ∃ T x, v = .ref T ∧ H T = none ∧ H' = upd H T (.tup [.int (i : Nat), x]) ∧ ∀ xs, SqT K H a xs → xs[i]? = some x, fun i H => ∃ xs : List V, SqT K H a xs ∧ xs.length ≤ i⟩
theorem apartT {h : Heap} {a it : Addr} {i : Nat} {items : Array Value} (p : h.IsTuple a items) (q : h.IsTupleIter it a i) : a ≠ it := fun e => by
  obtain ⟨o, h1, h2, _⟩ := p
  obtain ⟨o', h3, h4, _⟩ := q
  subst e
  rw [h1] at h3; cases h3
  have h4' := h4
  rw [show o.cls = .type "tuple" from h2] at h4'
  revert h4'; decide
theorem apartE {h : Heap} {a e it : Addr} {i : Int} {old : Value} {items : Array Value} (p : h.IsTuple a items) (q : IsEnum h e it i old) : e ≠ a := fun z => by
  obtain ⟨o, h1, h2, _⟩ := p
  subst z
  have q' : h.get? e = some _ := q
  rw [h1] at q'
  cases q'
  have h2 : Value.type "enumerate" = Value.type "tuple" := h2
  revert h2; decide
theorem turn_enumT {P : Program} {w : World} {K : PySem.W.Frag} {elts : List Expr} {kk : Nat} {tpos : Pos} (a e it : Addr) :
    Turn P w K (.Tuple elts kk tpos) (IteT K a) [e, it] e (fun i h => (∃ old, IsEnum h e it ((i : Nat) : Int) old) ∧ h.IsTupleIter it a i ∧ e ≠ it) where
  mem := by simp
  obj := fun i h st b hb => by
    obtain ⟨⟨old, he⟩, ⟨o, ho, hc, hd⟩, _⟩ := st
    have e' : b = e ∨ b = it := by simpa using hb
    rcases e' with z | z
    · rw [z]; exact ⟨_, he, fun v q => nomatch q⟩
    · rw [z]; exact ⟨o, ho, fun v q => by rw [hd] at q; cases q⟩
  keep := fun i h h' st k => let ⟨⟨old, he⟩, hi, hne⟩ := st; ⟨⟨old, k e (by simp) _ he⟩, hi.at fun o q => k it (by simp) o q, hne⟩
  item := by
    intro X hP hw hK hc i pins s σ H E I hf st hg
    subst hP hw hK
    obtain ⟨⟨old, he⟩, hit, hne⟩ := st
    obtain ⟨xs, x, hq, hx⟩ := hg
    obtain ⟨its, rv, p, hz⟩ := I.tuple hq
    obtain ⟨u, hu, ru⟩ := rv.get hx
    have pt : s.heap.IsTuple a its.toArray := p
    have hel : e < s.heap.objs.size := Heap.lt_size he
    have hil : it < s.heap.objs.size := by obtain ⟨_, q, _⟩ := hit; exact Heap.lt_size q
    have hai := apartT pt hit
    have hea := apartE pt he
    have D := Draws.tuple (prog := X.prog) (w := X.w) (A := X.A.in1) (I.ok.hd hc) it a hai its.toArray
    have hlt : i < its.toArray.size := by
      rw [List.size_toArray]
      exact (List.getElem?_eq_some_iff.mp hu).1
    refine wpAny_pyNext_enum_itemD D he ⟨hit, pt⟩ hlt hne (by simp [hne, hea]) fun x' h' tk hP ho hst hT hsz hk => ?_
    have ex : x' = u := by
      have : its.toArray[i]? = some u := by simpa using hu
      rw [this] at hP; exact (Option.some.inj hP).symm
    subst ex
    refine ⟨_, rfl, wpAny_letOwnedTupleGo_enum (s := { s with heap := h', toks := tk + 1 }) ho fun h'' he' sb => ?_⟩
    have hT2 : h''.get? s.heap.objs.size = some { cls := .type "tuple", data := .seq #[.int i tk, x'] } := (sb.2 _ (Nat.ne_of_gt hel)).trans hT
    have new : ObjOk X.prog X.w (upd H s.heap.objs.size (.tup [.int (i : Nat), x])) h'' s.heap.objs.size (.tup [.int (i : Nat), x]) :=
      ⟨by show 2 ≤ sizeLine; decide, [.int i tk, x'], .cons ⟨_, rfl⟩ (.cons ru .nil), ⟨_, hT2, rfl, _, rfl⟩⟩
    have I1 : Inv X pins σ (upd H s.heap.objs.size (.tup [.int (i : Nat), x])) { s with heap := h'', toks := tk + 1 } :=
      I.turnedNew (ch := [e, it]) (fun b ob hb q => (sb.2 b (fun z => hb (by simp [z]))).trans (hk b ob (fun z => hb (by simp [z])) (fun z => hb (by simp [z])) q)) hf (Nat.le_refl _) new
    refine ⟨.ref s.heap.objs.size, _, I1, rfl, ⟨_, x, rfl, I.hok.fresh (Nat.le_refl _), rfl, fun ys hy => by rw [I.tuple_inj hy hq]; exact hx⟩, ⟨⟨x', ?_⟩, hst.1.at fun o q => (sb.2 it (Ne.symm hne)).trans q, hne⟩, fun b hb => ?_⟩
    · have e1 : ((i + 1 : Nat) : Int) = (i : Int) + 1 := by omega
      rw [e1]; exact he'
    · have hb' : b < s.heap.objs.size := by
        have e' : b = e ∨ b = it := by simpa using hb
        rcases e' with z | z
        · rw [z]; exact hel
        · rw [z]; exact hil
      rw [upd_ne (Nat.ne_of_lt hb')]
      exact (hf b hb).1
  done := by
    intro X hP hw hK hc i pins s σ H E I hf st hg
    subst hP hw hK
    obtain ⟨⟨old, he⟩, hit, hne⟩ := st
    obtain ⟨xs, hq, hx⟩ := hg
    obtain ⟨its, rv, p, hz⟩ := I.tuple hq
    have pt : s.heap.IsTuple a its.toArray := p
    obtain ⟨f0, f1, f2, f3, f4, f5⟩ := hf it (by simp)
    have hl := rv.length
    have hai := apartT pt hit
    have hT : s.TypeIs (.ref e) "enumerate" := ⟨_, he, rfl⟩
    unfold pyNext
    refine wpAny_bind (wpAny_attempt (wpAny_callSpecial?_slot (name := Str.ofString "__next__") hT PySem.F.slot_enumerate_next
      (wpAny_call_entry PySem.F.slot_enumerate_next hT PySem.F.entry_enumerate_next ?_ (PySem.F.args_enumerate_next_1 _))))
    show wpAny _ _ (field (.ref e) 2 >>= _) _ _ _
    refine wpAny_bind (wpAny_field he rfl (x := .ref it) rfl ?_)
    refine wpAny_bind (wpAny_nextOf_tuple_end (I.ok.hd hc) hit pt (by simp; omega) fun h' x he' hx' => ?_)
    obtain ⟨o, ho, hc'⟩ := hx'
    refine wpAny_bind (wpAny_isInstance (T := "StopIteration") (b := true) ⟨o, ho, hc'⟩ isSubtype_stop ?_)
    exact wpAny_pure ⟨rfl, I.turned (t' := s.toks) (fun b o hb q => he' b o hb q) f0 f1 f3 f4 f5⟩
  self := fun A i s Q E st h => let ⟨⟨_, he⟩, _⟩ := st; wpAny_pyIter_enum he h
def iEnumT (K : PySem.W.Frag) (ta : TA) : TI := fun σ H R => ta σ H fun vs H1 => ∃ a xs, vs = [.ref a] ∧ SqT K H1 a xs ∧ R (IteT K a) H1
theorem pi_enumT {X : Cx} {e : Expr} {ta : TA} {p pos tpos : Pos} {elts : List Expr} {kk : Nat} (hg : Gl X "enumerate") (hm : X.mg "enumerate" = none) (ha : PA X [e] ta) (hs : starEach [e] X.env = [(false, eval e X.env)] := by rfl) :
    PI X (.Tuple elts kk tpos) (.Call (.Name "enumerate" p) [e] [] pos) (iEnumT X.K ta) := by
  refine ⟨fun pins s σ H R I h => ?_⟩
  refine Call_ (ld_blt I hg hm boot_enumerate (PyProof.Rows.callWith_type1 (thn (ha.run pos pins s σ H _ I h) fun us s1 ⟨vs, H1, I1, r1, q1⟩ => ?_) hs rfl))
  obtain ⟨a, xs, ex, hq, q⟩ := q1
  subst ex
  cases r1 with
  | cons r rr =>
    cases rr
    cases r
    obtain ⟨its, rv, p', hz⟩ := I1.tuple hq
    have pt : s1.heap.IsTuple a its.toArray := p'
    refine enum1_begins (begins_tuple a its.toArray) pt fun h' he hit hsz hk => wpAny_pyIter_enum he ?_
    have I2 : Inv X pins σ H1 { s1 with heap := h' } := I1.kept (t' := s1.toks) hk
    refine ⟨s1.heap.objs.size + 1, [s1.heap.objs.size + 1, s1.heap.objs.size], _, _, H1, rfl, I2, turn_enumT a (s1.heap.objs.size + 1) s1.heap.objs.size, ⟨⟨.none, he⟩, ⟨_, hit, rfl, rfl⟩, Nat.succ_ne_self _⟩, fun b hb => ?_, q⟩
    have e' : b = s1.heap.objs.size + 1 ∨ b = s1.heap.objs.size := by simpa using hb
    have hle : s1.heap.objs.size ≤ b := by
      rcases e' with z | z
      · rw [z]; exact Nat.le_add_right _ _
      · rw [z]; exact Nat.le_refl _
    exact I1.fpOk hle (I1.hok.fresh hle)
theorem pi_enumT_a {X : Cx} {e : Expr} {ta : TA} {p pos tpos : Pos} {elts : List Expr} {kk : Nat} (hg : Gl X "enumerate") (hm : X.mg "enumerate" = none) (ha : PA X [e] ta) (hs : Rf (starEach [e] X.env = [(false, eval e X.env)])) : PI X (.Tuple elts kk tpos) (.Call (.Name "enumerate" p) [e] [] pos) (iEnumT X.K ta) := pi_enumT hg hm ha hs.ok
theorem walk_enumT {K : PySem.W.Frag} {a : Addr} {xs : List V} : Walk (IteT K a) xs.length (fun H => SqT K H a xs) (YPair (fun i => some (.int (i : Nat))) (fun i => xs[i]?)) := by
  refine ⟨fun i _ hi q => ⟨xs, xs[i], q, by simp [hi]⟩, fun _ q => ⟨xs, q, Nat.le_refl _⟩, fun i H v H' _ q y => ?_⟩
  obtain ⟨T, x, h1, h2, h3, h4⟩ := y
  exact ⟨T, .int (i : Nat), x, h1, h2, h3, rfl, h4 xs q⟩
variable [τ : Tb]
section
variable {X : Cx} {Δ : List Sl} {a b : Expr} {ds : List D} {pos : Pos}
theorem it_enumT {elts : List Expr} {kk : Nat} {tpos p : Pos} (hg : Gl X "enumerate") (hm : X.mg "enumerate" = none) (h : EV X Δ true a (.tup ds)) (hs : starEach [a] X.env = [(false, eval a X.env)] := by rfl) : IT X Δ (.Tuple elts kk tpos) (.Call (.Name "enumerate" p) [a] [] pos) (enumD ds) := by
  intro G0 H0 F H σ S R' q
  refine iU (pi_enumT hg hm (pa_cons pe_u pa_nil hs) hs) (h G0 H0 F H σ S _ fun v F' H' x r => ?_)
  obtain ⟨ad, vs, rfl, g, l⟩ := r_tup.mp r
  have g' : F' ad = some (.tup vs) := g
  have W := walk_enumT (K := X.K) (a := ad) (xs := vs)
  refine ⟨ad, vs, rfl, SqT.of (x.fh _ _ g'), q _ F' H' x ⟨fun i H2 hi s => ?_, fun H2 s => ?_, fun i d H2 y H3 F2 hd s1 s2 yl => ?_⟩⟩
  · exact W.goes i H2 (by rw [enumD_len] at hi; rw [l.length]; exact hi) (SqT.of (s _ _ g'))
  · have := W.stops H2 (SqT.of (s _ _ g'))
    rw [enumD_len, ← l.length]; exact this
  · obtain ⟨d', e1, rfl⟩ := enumD_get hd
    have hi : i < vs.length := by rw [l.length]; exact (List.getElem?_eq_some_iff.mp e1).1
    obtain ⟨T, x1, y1, ev, hT, eH, f1, f2⟩ := W.yields i H2 y H3 hi (SqT.of (s2 _ _ (s1 _ _ g'))) yl
    cases f1
    obtain ⟨w, g1, g2⟩ := l.get e1
    have f2 : vs[i]? = some y1 := f2
    rw [g1] at f2; cases f2
    exact wk_pair (F := F') s2 hT eH ev (r_int.mpr rfl) (R.mono (show Sub F' F2 from s1) _ _ g2)
theorem it_enumT_a {elts : List Expr} {kk : Nat} {tpos p : Pos} (hg : Gl X "enumerate") (hm : X.mg "enumerate" = none) (h : EV X Δ true a (.tup ds)) (hs : Rf (starEach [a] X.env = [(false, eval a X.env)])) : IT X Δ (.Tuple elts kk tpos) (.Call (.Name "enumerate" p) [a] [] pos) (enumD ds) := it_enumT hg hm h hs.ok
end
end Z

namespace Z
open PySem PySem.Spec PyProof.Rows L2 RZ
theorem walk_zipTt {K : PySem.W.Frag} {a b : Addr} {xs ys : List V} {n : Nat} (hn : n = min xs.length ys.length) : Walk (ItzT K a b) n (fun H => SqT K H a xs ∧ SqT K H b ys) (YPair (fun i => xs[i]?) (fun i => ys[i]?)) := by
  subst hn
  refine ⟨fun i _ hi q => ?_, fun _ q => ⟨xs, ys, q.1, q.2, by omega⟩, fun i H v H' _ q y => ?_⟩
  · have h1 : i < xs.length := by omega
    have h2 : i < ys.length := by omega
    exact ⟨xs, ys, xs[i], ys[i], q.1, q.2, by simp [h1], by simp [h2]⟩
  · obtain ⟨T, x, z, h1, h2, h3, h4, h5⟩ := y
    exact ⟨T, x, z, h1, h2, h3, h4 xs q.1, h5 ys q.2⟩
variable [τ : Tb]
section
variable {X : Cx} {Δ : List Sl} {a b : Expr} {ds es : List D} {pos : Pos}
theorem it_zipT {elts : List Expr} {kk : Nat} {tpos p : Pos} (hg : Gl X "zip") (hm : X.mg "zip" = none) (h : EV X Δ true a (.tup ds)) (h' : EV X Δ true b (.tup es)) (hs : starEach [a, b] X.env = (false, eval a X.env) :: starEach [b] X.env := by rfl) (hs2 : starEach [b] X.env = [(false, eval b X.env)] := by rfl) (hpl : (backTo pos (starEach [b] X.env)).any (·.1) = false := by rfl) :
    IT X Δ (.Tuple elts kk tpos) (.Call (.Name "zip" p) [a, b] [] pos) (zipD ds es) := by
  intro G0 H0 F H σ S R' q
  refine iU (pi_zipA hg hm (pa_cons pe_u (pa_cons pe_u pa_nil hs2) hs) hs hpl) (two h h' S fun v w F' H' x r1 r2 => ?_)
  obtain ⟨a1, vs, rfl, g, l⟩ := r_tup.mp r1
  obtain ⟨a2, ws, rfl, g2, l2⟩ := r_tup.mp r2
  have g' : F' a1 = some (.tup vs) := g
  have g2' : F' a2 = some (.tup ws) := g2
  have W := walk_zipTt (K := X.K) (a := a1) (b := a2) (xs := vs) (ys := ws) rfl
  have en : min vs.length ws.length = (zipD ds es).length := by rw [zipD_len, l.length, l2.length]
  refine ⟨a1, a2, vs, ws, rfl, .inr ⟨SqT.of (x.fh _ _ g'), SqT.of (x.fh _ _ g2'), q _ F' H' x ⟨fun i H2 hi s => ?_, fun H2 s => ?_, fun i d H2 y H3 F2 hd s1 s2 yl => ?_⟩⟩⟩
  · exact W.goes i H2 (by rw [en]; exact hi) ⟨SqT.of (s _ _ g'), SqT.of (s _ _ g2')⟩
  · have := W.stops H2 ⟨SqT.of (s _ _ g'), SqT.of (s _ _ g2')⟩
    rw [← en]; exact this
  · have hi : i < min vs.length ws.length := by rw [en]; exact (List.getElem?_eq_some_iff.mp hd).1
    obtain ⟨d1, d2, e1, e2, rfl⟩ := zipD_get hd
    obtain ⟨T, x1, y1, ev, hT, eH, f1, f2⟩ := W.yields i H2 y H3 hi ⟨SqT.of (s2 _ _ (s1 _ _ g')), SqT.of (s2 _ _ (s1 _ _ g2'))⟩ yl
    obtain ⟨w1, k1, k2⟩ := l.get e1
    obtain ⟨w2, k3, k4⟩ := l2.get e2
    have f1 : vs[i]? = some x1 := f1
    have f2 : ws[i]? = some y1 := f2
    rw [k1] at f1; cases f1
    rw [k3] at f2; cases f2
    exact wk_pair (F := F') s2 hT eH ev (R.mono (show Sub F' F2 from s1) _ _ k2) (R.mono (show Sub F' F2 from s1) _ _ k4)
theorem it_zipT_a {elts : List Expr} {kk : Nat} {tpos p : Pos} (hg : Gl X "zip") (hm : X.mg "zip" = none) (h : EV X Δ true a (.tup ds)) (h' : EV X Δ true b (.tup es)) (hs : Rf (starEach [a, b] X.env = (false, eval a X.env) :: starEach [b] X.env)) (hs2 : Rf (starEach [b] X.env = [(false, eval b X.env)])) (hpl : Rf ((backTo pos (starEach [b] X.env)).any (·.1) = false)) : IT X Δ (.Tuple elts kk tpos) (.Call (.Name "zip" p) [a, b] [] pos) (zipD ds es) := it_zipT hg hm h h' hs.ok hs2.ok hpl.ok
theorem im_enumT {elts : List Expr} {kk : Nat} {tpos p : Pos} (hg : Gl X "enumerate") (hm : X.mg "enumerate" = none) (h : EV X Δ true a (.tup ds)) (hs : starEach [a] X.env = [(false, eval a X.env)] := by rfl) : ITM X Δ (.Tuple elts kk tpos) (.Call (.Name "enumerate" p) [a] [] pos) ds (fun i x => .tup [.int (i : Nat), x]) :=
  ⟨_, it_enumT hg hm h hs, enumD_len _, fun i d hd => by
    obtain ⟨d', e1, rfl⟩ := enumD_get hd
    exact ⟨d', e1, rfl⟩⟩
theorem im_enumT_a {elts : List Expr} {kk : Nat} {tpos p : Pos} (hg : Gl X "enumerate") (hm : X.mg "enumerate" = none) (h : EV X Δ true a (.tup ds)) (hs : Rf (starEach [a] X.env = [(false, eval a X.env)])) : ITM X Δ (.Tuple elts kk tpos) (.Call (.Name "enumerate" p) [a] [] pos) ds (fun i x => .tup [.int (i : Nat), x]) := im_enumT hg hm h hs.ok
/-- a tuple beside itself -/
theorem im_zipTT {elts : List Expr} {kk : Nat} {tpos p : Pos} (hg : Gl X "zip") (hm : X.mg "zip" = none) (h : EV X Δ true a (.tup ds)) (h' : EV X Δ true b (.tup ds)) (hs : starEach [a, b] X.env = (false, eval a X.env) :: starEach [b] X.env := by rfl) (hs2 : starEach [b] X.env = [(false, eval b X.env)] := by rfl) (hpl : (backTo pos (starEach [b] X.env)).any (·.1) = false := by rfl) :
    ITM X Δ (.Tuple elts kk tpos) (.Call (.Name "zip" p) [a, b] [] pos) ds (fun _ x => .tup [x, x]) :=
  ⟨_, it_zipT hg hm h h' hs hs2 hpl, by rw [zipD_len, Nat.min_self], fun i d hd => by
    obtain ⟨d1, d2, e1, e2, rfl⟩ := zipD_get hd
    rw [e1] at e2; cases e2
    exact ⟨d1, e1, rfl⟩⟩
theorem im_zipTT_a {elts : List Expr} {kk : Nat} {tpos p : Pos} (hg : Gl X "zip") (hm : X.mg "zip" = none) (h : EV X Δ true a (.tup ds)) (h' : EV X Δ true b (.tup ds)) (hs : Rf (starEach [a, b] X.env = (false, eval a X.env) :: starEach [b] X.env)) (hs2 : Rf (starEach [b] X.env = [(false, eval b X.env)])) (hpl : Rf ((backTo pos (starEach [b] X.env)).any (·.1) = false)) : ITM X Δ (.Tuple elts kk tpos) (.Call (.Name "zip" p) [a, b] [] pos) ds (fun _ x => .tup [x, x]) := im_zipTT hg hm h h' hs.ok hs2.ok hpl.ok
end
end Z

namespace Z
open PySem PySem.Spec PyProof.Rows L2
variable [τ : Tb]
section
variable {X : Cx} {Δ : List Sl} {e : Expr} {pos : Pos} {ds : List D} {R' : D → Prop} {C : Out → Prop}
/-- x.append(e), e told in part -/
theorem sm_appendE {i : Nat} {n : Str} {p1 p2 p3 : Pos} {qq : Option Addr} (hN : X.N[i]? = some n) (hΔ : Δ[i]? = some (Sl.w qq (T.l ds))) (h : EVE X Δ true e R') (hl : ds.length < sizeLine) (k : ∀ d, R' d → C (.nx (Δ.set i (.w qq (T.l (ds ++ [d])))))) (hv : Vis X.env.scope n := by first | exact Or.inl rfl | exact Or.inr (Or.inl rfl) | exact Or.inr (Or.inr rfl))
    (hd : (n == ("__debug__" : Str)) = false := by decide) (hcd : (n == ("__classdict__" : Str)) = false := by decide)
    (hb : attributeBase (.Name n p1) "append" X.env (eval (.Name n p1) X.env) = eval (.Name n p1) X.env := by rfl) (hlin : (p2.endLine == p3.line) = true := by rfl)
    (hst : starEach [e] X.env = (false, eval e X.env) :: starEach [] X.env := by rfl) (hpl : (backTo p3 (starEach ([] : List Expr) X.env)).any (·.1) = false := by rfl) (hfew : ((((backTo p3 (starEach [e] X.env)).all fun x => !x.fst) && (backToKw p3 (keywordEach [] X.env)).all fun x => x.fst.isSome) && decide (([e].length + ([] : List Keyword).length + if ([] : List Keyword).isEmpty = true then 0 else 1) < 30)) = true := by rfl) (hs : swapsWith (.Call (.Attribute (.Name n p1) "append" p2) [e] [] p3) none pos.line X.env = pure false := by rfl) :
    Sm X (.Expr (.Call (.Attribute (.Name n p1) "append" p2) [e] [] p3) pos) Δ C := by
  intro G0 H0 F H σ S D q
  obtain ⟨p, vs, e1, e2, e3, e4, e5⟩ := S.own i ds hΔ
  refine sU1 (ps_expr (pe_bm (hbase := hb) (hfew := hfew) (hline := hlin) (hs := hst) (hplain := hpl) PySem.F.plainAttrs_list PySem.F.slot_list_append PySem.F.type_list_append mt_append (pe_var hN hv hd hcd) (pa_cons pe_u pa_nil hst)) hs) ?_
  refine ⟨.ref p, e1, .inl ⟨rfl, _, SqL.of e2⟩, h G0 H0 F H σ S _ fun d v F' H' hd x r => ?_⟩
  have S' := S.ext x
  refine ⟨p, vs, v, rfl, rfl, x.h.k _ _ e2 (fun _ z => nomatch z), by rw [e5.length]; exact hl, ?_⟩
  exact q _ (k d hd) F' _ σ (S'.chg hΔ e1 ((RL.mono x.f _ _ e5).append (RL.cons r RL.nil)))
theorem sm_appendE_a {i : Nat} {n : Str} {p1 p2 p3 : Pos} {qq : Option Addr} (hN : X.N[i]? = some n) (hΔ : Δ[i]? = some (Sl.w qq (T.l ds))) (h : EVE X Δ true e R') (hl : ds.length < sizeLine) (k : ∀ d, R' d → C (.nx (Δ.set i (.w qq (T.l (ds ++ [d])))))) (hv : Rv (Vis X.env.scope n)) (hd : Rd ((n == ("__debug__" : Str)) = false)) (hcd : Rd ((n == ("__classdict__" : Str)) = false)) (hb : Rf (attributeBase (.Name n p1) "append" X.env (eval (.Name n p1) X.env) = eval (.Name n p1) X.env)) (hlin : Rf ((p2.endLine == p3.line) = true)) (hst : Rf (starEach [e] X.env = (false, eval e X.env) :: starEach [] X.env)) (hpl : Rf ((backTo p3 (starEach ([] : List Expr) X.env)).any (·.1) = false)) (hfew : Rf (((((backTo p3 (starEach [e] X.env)).all fun x => !x.fst) && (backToKw p3 (keywordEach [] X.env)).all fun x => x.fst.isSome) && decide (([e].length + ([] : List Keyword).length + if ([] : List Keyword).isEmpty = true then 0 else 1) < 30)) = true)) (hs : Rf (swapsWith (.Call (.Attribute (.Name n p1) "append" p2) [e] [] p3) none pos.line X.env = pure false)) : Sm X (.Expr (.Call (.Attribute (.Name n p1) "append" p2) [e] [] p3) pos) Δ C := sm_appendE hN hΔ h hl k hv.ok hd.ok hcd.ok hb.ok hlin.ok hst.ok hpl.ok hfew.ok hs.ok
end
end Z

namespace Z
open PySem PySem.Spec PyProof.Rows L2
variable [τ : Tb]
theorem argsR_set {K : PySem.W.Frag} {F : Hp} {σ : L2.St} {i : Nat} {v0 : V} : ∀ {as : List Arg} {vs : List V}, (∀ t1 t2, Arg.sl i t1 t2 ∉ as) → ArgsR K F σ as vs → ArgsR K F (σ.set i (some v0)) as vs
  | [], _, _, h => h
  | a :: as, _, hn, h => by
    obtain ⟨v, vs', rfl, h1, h2⟩ := h
    refine ⟨v, vs', rfl, ?_, argsR_set (fun t1 t2 hm => hn t1 t2 (List.mem_cons_of_mem _ hm)) h2⟩
    cases a with
    | «by» d => exact h1
    | sl j t0 t1 =>
      have hj : j ≠ i := fun e => hn t0 t1 (by rw [← e]; exact List.mem_cons_self)
      show (σ.set i (some v0))[j]? = some (some v)
      rw [List.getElem?_set_ne (Ne.symm hj)]
      exact h1
section
variable {X : Cx} {Δ : List Sl} {e : Expr} {es : List Expr} {pos p : Pos} {n : Str} {k : Nat} {as : List Arg} {spec : List Sl → D → List Sl → Prop} {t : T} {C : Out → Prop}
/-- x = CC(e, ..), lists of one's own among what is handed -/
theorem sm_makeM {CC : Addr} {i : Nat} {x : Str} {p1 pos2 : Pos} (hN : X.N.Nodup) (hi : X.N[i]? = some x) (hl : Loc X.env.scope x) (hil : i < Δ.length) (Fn : FnI X.prog X.w X.K X.mg X.base CX0 CC k spec) (hr : Room (k + 1) X.A) (hg : Gl X n) (hm : X.mg n = some (.ref CC))
    (ha : AM X Δ (e :: es) as) (hni : ∀ t1 t2, Arg.sl i t1 t2 ∉ as) (ok : SlsOk (Δ.set i (.w none (.ob CC []))) as) (nf : ∀ a ∈ as, noFz a) (hs : ∀ ad : Nat → Addr, spec (.w (some (ad i)) (.ob CC []) :: as.map (inA ad)) .non (.w (some (ad i)) t :: as.map (outA ad))) (kk : C (.nx (upds as (Δ.set i (.w none t)))))
    (hdb : (n == ("__debug__" : Str)) = false := by decide) (he : starEach (e :: es) X.env = (false, eval e X.env) :: starEach es X.env := by rfl) (hpl : (backTo pos (starEach es X.env)).any (·.1) = false := by rfl)
    (hsw : swapsWith (.Call (.Name n p) (e :: es) [] pos) (some (.Name x p1)) pos2.line X.env = pure false := by rfl) (hf : X.fn x = true ∨ X.env.scope.names.lookup x = some .local := by first | exact .inl rfl | exact .inr rfl) :
    Sm X (.Assign [.Name x p1] (.Call (.Name n p) (e :: es) [] pos) pos2) Δ C := by
  intro G0 H0 F H σ S D q
  obtain ⟨f, fd, ps, F1, M, hb⟩ := Fn.ex
  refine sU1 (ps_set hN hi hl pe_u hsw hf) (eU (pe_make M F1 hr hg hm hb .nil pass0 pa_u hdb he hpl) (ha G0 H0 F H σ S _ fun vs F' H' x r => fun ax dx nx ndx nex => ?_))
  have S1 := S.ext x
  have s1 : Sub H' (upd H' dx (.own ax)) := Sub.new ndx
  have nax : upd H' dx (.own ax) ax = none := by rw [upd_ne (Ne.symm nex)]; exact nx
  have s2 : Sub (upd H' dx (.own ax)) (upd (upd H' dx (.own ax)) ax (.ins CC dx [])) := Sub.new nax
  have fx : F' ax = none := x.fh.none nx
  have S2 : Stt X.K G0 H0 F' (upd (upd H' dx (.own ax)) ax (.ins CC dx [])) (σ.set i (some (.ref ax))) (Δ.set i (.w none (.ob CC []))) :=
    S1.sett (Ext.grow x.fh (s1.tr s2)) (f := [ax]) (rt_ob.mpr ⟨ax, dx, [], [], rfl, rfl, fun h => (nomatch h), upd_same, rtf_nil.mpr ⟨rfl, rfl⟩⟩) fun a ha => by
      rw [List.mem_singleton] at ha; subst ha; exact ⟨nx, fx⟩
  have hil2 : i < σ.length := by rw [S.len]; exact hil
  have r2 := argsR_set (v0 := .ref ax) hni r
  have ra : ArgsR X.K F' (σ.set i (some (.ref ax))) (.sl i (.ob CC []) t :: as) (.ref ax :: vs) := ⟨.ref ax, vs, rfl, by
    show (σ.set i (some (.ref ax)))[i]? = some (some (.ref ax))
    rw [List.getElem?_set, if_pos rfl, if_pos hil2], r2⟩
  have ok2 : SlsOk (Δ.set i (.w none (.ob CC []))) (.sl i (.ob CC []) t :: as) := ⟨⟨none, by rw [List.getElem?_set, if_pos rfl, if_pos hil]⟩, hni, ok⟩
  have nf2 : ∀ a ∈ (Arg.sl i (.ob CC []) t :: as), noFz a := fun a ha => by
    rcases List.mem_cons.mp ha with rfl | ha
    · exact fun d => nofun
    · exact nf a ha
  obtain ⟨ad, Hc, S3, S4⟩ := stt_call S2 ok2 nf2 ra
  show PrM X.K spec (.ref ax :: (vs ++ [])) _ _ E0
  rw [List.append_nil]
  refine ⟨F', Hc, _, _, _, S3, hs ad, fun v F2 H2 S5 r3 => ⟨r_non.mp r3, ?_⟩⟩
  have S6 := S4 F2 H2 S5
  have eu : upds (.sl i (.ob CC []) t :: as) (Δ.set i (.w none (.ob CC []))) = upds as (Δ.set i (.w none t)) := by
    show upds as (match (Δ.set i (.w none (.ob CC [])))[i]? with | some (.w q _) => (Δ.set i (.w none (.ob CC []))).set i (.w q t) | _ => Δ.set i (.w none (.ob CC []))) = _
    rw [List.getElem?_set, if_pos rfl, if_pos hil]
    show upds as ((Δ.set i (.w none (.ob CC []))).set i (.w none t)) = _
    rw [List.set_set]
  rw [eu] at S6
  exact q _ kk F2 H2 _ S6
theorem sm_makeM_a {CC : Addr} {i : Nat} {x : Str} {p1 pos2 : Pos} (hN : X.N.Nodup) (hi : X.N[i]? = some x) (hl : Loc X.env.scope x) (hil : i < Δ.length) (Fn : FnI X.prog X.w X.K X.mg X.base CX0 CC k spec) (hr : Room (k + 1) X.A) (hg : Gl X n) (hm : X.mg n = some (.ref CC)) (ha : AM X Δ (e :: es) as) (hni : ∀ t1 t2, Arg.sl i t1 t2 ∉ as) (ok : SlsOk (Δ.set i (.w none (.ob CC []))) as) (nf : ∀ a ∈ as, noFz a) (hs : ∀ ad : Nat → Addr, spec (.w (some (ad i)) (.ob CC []) :: as.map (inA ad)) .non (.w (some (ad i)) t :: as.map (outA ad))) (kk : C (.nx (upds as (Δ.set i (.w none t))))) (hdb : Rd ((n == ("__debug__" : Str)) = false)) (he : Rf (starEach (e :: es) X.env = (false, eval e X.env) :: starEach es X.env)) (hpl : Rf ((backTo pos (starEach es X.env)).any (·.1) = false)) (hsw : Rf (swapsWith (.Call (.Name n p) (e :: es) [] pos) (some (.Name x p1)) pos2.line X.env = pure false)) (hf : Rl (X.fn x = true ∨ X.env.scope.names.lookup x = some .local)) : Sm X (.Assign [.Name x p1] (.Call (.Name n p) (e :: es) [] pos) pos2) Δ C := sm_makeM hN hi hl hil Fn hr hg hm ha hni ok nf hs kk hdb.ok he.ok hpl.ok hsw.ok hf.ok
end
end Z

namespace Z
open PySem PySem.Spec PyProof.Rows L2
variable [τ : Tb]
/-- what isinstance asks of a class of one's own -/
structure InsC (K : PySem.W.Frag) (C : Addr) : Prop where
  ha : PySem.W.findIn K (.ref C) "__class__" = some (some (.builtin "object.__class__"))
  hn : PySem.W.specialIn K (.builtin "object.__class__") "__get__" = some (some (.builtin "getset_descriptor.__get__"))
  ht : PySem.W.takesIn K (.builtin "object.__class__") = some true
  hm : PySem.W.mroIn K C (.type "object") = some true
section
variable {X : Cx} {Δ : List Sl} {m : Bool} {C Cc : Addr} {e c : Expr} {p pos : Pos} {b : Bool} {fs : List (Str × D)}
/-- isinstance(x, CC), x an object of a class of one's own -/
theorem ev_isO (I : InsC X.K C) (cl : Cls X.K C) (hg : Gl X "isinstance") (hm : X.mg "isinstance" = none) (he : EV X Δ false e (.obj C fs)) (hc : EV X Δ false c (.opq Cc)) (hk : PySem.W.kitOne X.K (.ref C) (.ref Cc) = some b)
    (hs : starEach [e, c] X.env = (false, eval e X.env) :: starEach [c] X.env := by rfl) (hs2 : starEach [c] X.env = (false, eval c X.env) :: starEach [] X.env := by rfl) (hpl : (backTo pos (starEach [c] X.env)).any (·.1) = false := by rfl) :
    EV X Δ m (.Call (.Name "isinstance" p) [e, c] [] pos) (.bl b) := by
  intro G0 H0 F H σ S Q q
  refine eU (pe_callB call_isi hg hm bt_isinstance (pa_cons pe_u (pa_cons pe_u pa_nil hs2) hs) (by decide) (by decide) hs hpl) (two he hc S fun v w F' H' x r r2 => ?_)
  obtain ⟨a, dx, vfs, rfl, g, _⟩ := r_obj.mp r
  have g' : H' a = some (.ins C dx vfs) := g
  rw [r_opq.mp r2]
  exact ⟨.ref a, .ref Cc, .ref C, .ref Cc, b, rfl, .own Cc, .base (.ins g' cl I.ha I.hn I.ht I.hm), hk, q _ F' H' x (r_bl.mpr rfl)⟩
theorem ev_isO_a (I : InsC X.K C) (cl : Cls X.K C) (hg : Gl X "isinstance") (hm : X.mg "isinstance" = none) (he : EV X Δ false e (.obj C fs)) (hc : EV X Δ false c (.opq Cc)) (hk : PySem.W.kitOne X.K (.ref C) (.ref Cc) = some b) (hs : Rf (starEach [e, c] X.env = (false, eval e X.env) :: starEach [c] X.env)) (hs2 : Rf (starEach [c] X.env = (false, eval c X.env) :: starEach [] X.env)) (hpl : Rf ((backTo pos (starEach [c] X.env)).any (·.1) = false)) : EV X Δ m (.Call (.Name "isinstance" p) [e, c] [] pos) (.bl b) := ev_isO I cl hg hm he hc hk hs.ok hs2.ok hpl.ok
end
end Z

namespace Z
open PySem PySem.Spec PyProof.Rows L2
variable [τ : Tb]
/-! ### defs that are handed trees of one's own for good (kind T) -/
/-- a res as a tree -/
def rT : Res → T
  | .v d => .fz d | .o ds => T.l ds | .t t => t
/-- a way from F0, H0 to F, H with the tables told anew -/
structure ExtT (F H F' H' : Hp) : Prop where
  f : Sub F F'
  fh : Sub F' H'
  k : ∀ a o, H a = some o → ntb o → H' a = some o
  n : ∀ a, H' a = none → H a = none
  fr : ∀ a o, F' a = some o → F a = some o ∨ H a = none
  nt : ∀ a ps, F' a ≠ some (.tbl ps)
  tb : LamX.Tabs τ.T H'
theorem Stt.outT {K : PySem.W.Frag} {G0 H0 F H : Hp} {σ : L2.St} {Δ : List Sl} (S : Stt K G0 H0 F H σ Δ) : ExtT G0 H0 F H := ⟨S.g, S.fh, S.h0.k, S.h0.n, S.fr, S.nt, S.tb⟩
def ResT (K : PySem.W.Frag) (G H : Hp) (Q : VK) : Res → Prop
  | .v d => ∀ v G' H', ExtT G H G' H' → R K G' d v → Q v H'
  | .o ds => ∀ p vs G' H', ExtT G H G' H' → H p = none → H' p = some (.lst vs) → G' p = none → RL K G' ds vs → Q (.ref p) H'
  | .t t => ∀ v f G' H', ExtT G H G' H' → RT K G' H' t v f → (∀ a ∈ f, H a = none ∧ G' a = none) → Q v H'
def PrT (K : PySem.W.Frag) (spec : List T → (Res → Prop) → Prop) : Sp := fun vs H Q _ => ∃ G ts f P, Sub G H ∧ (∀ a ps, G a ≠ some (.tbl ps)) ∧ LamX.Tabs τ.T H ∧ RTL K G H ts vs f ∧ (∀ a ∈ f, G a = none) ∧ spec ts P ∧ ∀ r, P r → ResT K G (less H (· ∈ f)) Q r
def iniT (N : List Str) (ts : List T) : List Sl := ts.map slT ++ List.replicate (N.length - ts.length) Sl.u
theorem rtl_split {K : PySem.W.Frag} {F H : Hp} : ∀ {ts : List T} {vs : List V} {f : List Addr}, RTL K F H ts vs f → ∃ g : Nat → List Addr, (∀ i t v, ts[i]? = some t → vs[i]? = some v → RT K F H t v (g i)) ∧ (∀ i, ∀ a ∈ g i, a ∈ f) ∧ (∀ i j a, i ≠ j → a ∈ g i → a ∈ g j → False)
  | [], vs, f, h => ⟨fun _ => [], fun i t v e => by simp at e, fun i a ha => (nomatch ha), fun i j a _ ha => (nomatch ha)⟩
  | t :: ts, vs, f, h => by
    obtain ⟨v, vs', f1, f2, rfl, rfl, dj, r1, r2⟩ := rtl_cons.mp h
    obtain ⟨g, h1, h2, h3⟩ := rtl_split r2
    refine ⟨fun i => match i with | 0 => f1 | i + 1 => g i, fun i t' v' e1 e2 => ?_, fun i a ha => ?_, fun i j a ne ha hb => ?_⟩
    · cases i with
      | zero => simp at e1 e2; subst e1; subst e2; exact r1
      | succ i => simp at e1 e2; exact h1 i t' v' e1 e2
    · cases i with
      | zero => exact List.mem_append.mpr (.inl ha)
      | succ i => exact List.mem_append.mpr (.inr (h2 i a ha))
    · cases i with
      | zero =>
        cases j with
        | zero => exact ne rfl
        | succ j => exact dj a ha (h2 j a hb)
      | succ i =>
        cases j with
        | zero => exact dj a hb (h2 i a ha)
        | succ j => exact h3 i j a (fun e => ne (by rw [e])) ha hb
section
variable {P : Program} {w : World} {K : PySem.W.Frag} {mg : Str → Option Value} {base : Heap}
theorem stt_iniT {G H : Hp} {ts : List T} {vs : List V} {f : List Addr} {N : List Str} (s : Sub G H) (nt : ∀ a ps, G a ≠ some (.tbl ps)) (tb : LamX.Tabs τ.T H) (h : RTL K G H ts vs f) (hf : ∀ a ∈ f, G a = none) (hl : ts.length ≤ N.length) : Stt K G (less H (· ∈ f)) G H (L2.start N vs) (iniT N ts) := by
  obtain ⟨g, h1, h2, h3⟩ := rtl_split h
  refine ⟨Sub.rf _, s, ⟨fun a o ho _ => ?_, fun a e => Classical.byCases (p := a ∈ f) (fun hp => less_in hp) (fun hp => by rw [less_out hp]; exact e), fun _ => tb⟩, fun a o e => .inl e, nt, tb, ?_, fun i => if i < ts.length then g i else [], fun i s x q1 q2 => ?_, fun i a ha => ?_, fun i j a ne ha hb => ?_⟩
  · by_cases hp : a ∈ f
    · rw [less_in hp] at ho; cases ho
    · rw [less_out hp] at ho; exact ho
  · unfold L2.start iniT
    simp [h.length]
  · unfold iniT at q1
    unfold L2.start at q2
    by_cases hi : i < ts.length
    · rw [List.getElem?_append_left (by simpa using hi), List.getElem?_map] at q1
      rw [List.getElem?_append_left (by simpa [h.length] using hi), List.getElem?_map] at q2
      cases z : ts[i]? with
      | none => rw [z] at q1; cases q1
      | some t =>
        rw [z] at q1; cases q1
        cases z2 : vs[i]? with
        | none => rw [z2] at q2; cases q2
        | some v =>
          rw [z2] at q2; cases q2
          simp only [if_pos hi]
          exact slT_ok (h1 i t v z z2)
    · rw [List.getElem?_append_right (by simpa using hi), List.getElem?_replicate] at q1
      split at q1
      · cases q1; trivial
      · cases q1
  · have ha : a ∈ (if i < ts.length then g i else []) := ha
    split at ha
    · have := h2 i a ha
      exact ⟨hf a this, less_in this, h.own _ _ _ a this⟩
    · cases ha
  · have ha : a ∈ (if i < ts.length then g i else []) := ha
    have hb : a ∈ (if j < ts.length then g j else []) := hb
    split at ha
    · split at hb
      · exact h3 i j a ne ha hb
      · cases hb
    · cases ha
theorem ends_ofT {X : Cx} {G H : Hp} {Q : VK} {P : Res → Prop} (ro : ∀ r, P r → ResT X.K G H Q r) : ∀ o, (∃ r, P r ∧ fin r o) → OutOk X G H { nx := fun _ H' => Q .non H', rt := Q } o := by
  rintro o ⟨r, pr, ho⟩
  have ro := ro r pr
  cases o with
  | nx Δ =>
    obtain rfl : r = .v .non := ho
    exact fun F1 H1 σ1 T => ro .non F1 H1 T.outT (r_non.mpr rfl)
  | bk Δ => exact False.elim ho
  | ct Δ => exact False.elim ho
  | xr C Δ => exact False.elim ho
  | rt r' Δ =>
    obtain rfl : r' = r := ho
    cases r' with
    | v d => exact fun F1 H1 σ1 v T rr => ro v F1 H1 T.outT rr
    | o ds => exact fun F1 H1 σ1 p vs T h1 h2 h3 rr => ro p vs F1 H1 T.outT h3 h1 h2 rr
    | t t => exact fun F1 H1 σ1 v f T rr n => ro v f F1 H1 T.outT rr fun a ha => ⟨(n a ha).2, (n a ha).1⟩
theorem fn_okT {x qual : Str} {st : Stmt} {f : Addr} {fd : FuncData} {N ps : List Str} {k : Nat} {spec : List T → (Res → Prop) → Prop} (Fn : Fun K x qual st f fd) (S : FnScope N ps (defScope st)) (ar : ∀ ts R, spec ts R → ts.length = ps.length)
    (hb : ∀ (cdv : Value) (A : Around) (outer : List Env) (s : Shared) (H : Hp) (E : XK), Room k (A.deeper (envOfC qual (defScope st) s.heap.objs.size f cdv)) → ((cxOf CX0 P w K mg base N qual (defScope st) f cdv A outer s H E).nox).N = N → N.Nodup → ∀ ts R, spec ts R →
      Bk ((cxOf CX0 P w K mg base N qual (defScope st) f cdv A outer s H E).nox) (defBody st) (iniT N ts) (fun o => ∃ r, R r ∧ fin r o)) : FnOk P w K mg base CX0 (k + 1) f fd ps (PrT K spec) := by
  refine Fn.ok S (fun vs H Q E h => ?_) (fun cdv A outer s H vs Q E hr h => ?_)
  · obtain ⟨G, ts, f2, R, _, _, _, rl, _, sp, _⟩ := h
    rw [rl.length]; exact ar ts R sp
  · obtain ⟨G, ts, f2, R, sub, nt, tb, rl, hf, sp, ro⟩ := h
    refine ⟨uS _ (defBody st), pss_u, ?_⟩
    have hlen : ts.length ≤ N.length := by
      rw [ar ts R sp, ← S.pre]
      exact List.length_take_le' _ _
    exact hb cdv A outer s H E hr rfl S.nd ts R sp G _ G H _ (stt_iniT sub nt tb rl hf hlen) _ (ends_ofT ro)
structure FnT (P : Program) (w : World) (K : PySem.W.Frag) (mg : Str → Option Value) (base : Heap) (CX : CXT) (n : Str) (k : Nat) (spec : List T → (Res → Prop) → Prop) : Prop where
  ex : ∃ f fd ps, FnOk P w K mg base CX k f fd ps (PrT K spec) ∧ mg n = some (.ref f) ∧ PySem.W.keepIn K (.ref f) = true ∧ Binds K fd ps []
end
theorem bk_iniT {X : Cx} {sts : List Stmt} {N : List Str} {ts : List T} {Δ2 : List Sl} {C : Out → Prop} (h : iniT N ts = Δ2) (k : Bk X sts Δ2 C) : Bk X sts (iniT N ts) C := h ▸ k
/-! calls -/
structure GotM (K : PySem.W.Frag) (G0 H0 F H : Hp) (σ : L2.St) (Δ : List Sl) (t : T) (v : V) (f : List Addr) : Prop where
  s : Stt K G0 H0 F H σ Δ
  p : ∃ fp, Fps K H0 F H σ Δ fp ∧ ∀ i, ∀ a ∈ f, a ∉ fp i
  r : RT K F H t v f
  n : ∀ a ∈ f, F a = none ∧ H0 a = none
/-- e evaluates to a tree and leaves slots, both of R; slots may have been changed -/
def EMT (X : Cx) (Δ : List Sl) (e : Expr) (R' : T → List Sl → Prop) : Prop :=
  ∀ (G0 H0 F H : Hp) (σ : L2.St), Stt X.K G0 H0 F H σ Δ → ∀ Q : VK, (∀ t Δ' v f F' H', R' t Δ' → GotM X.K G0 H0 F' H' σ Δ' t v f → Q v H') → uE X e σ H Q
theorem Stt.extT {K : PySem.W.Frag} {G0 H0 F H F' H' : Hp} {σ : L2.St} {Δ : List Sl} {fp : Nat → List Addr} {f : List Addr} (S : Stt K G0 H0 F H σ Δ) (P : Fps K H0 F H σ Δ fp) (hf : ∀ a ∈ f, F a = none ∧ H0 a = none) (d : ∀ i, ∀ a ∈ f, a ∉ fp i) (e : ExtT F (less H (· ∈ f)) F' H') : Stt K G0 H0 F' H' σ Δ ∧ Fps K H0 F' H' σ Δ fp := by
  have keep : ∀ i, ∀ a ∈ fp i, F' a = none ∧ H' a = H a ∧ Ow H' a := fun i a ha => by
    obtain ⟨n1, n2, o, ho, no⟩ := P.nw i a ha
    have na : a ∉ f := fun h => d i a h ha
    have hk := e.k a o (by rw [less_out na]; exact ho) no
    refine ⟨?_, by rw [hk, ho], o, hk, no⟩
    cases z : F' a with
    | none => rfl
    | some o2 =>
      rcases e.fr a o2 z with z2 | z2
      · rw [n1] at z2; cases z2
      · rw [less_out na, ho] at z2; cases z2
  have PP : Fps K H0 F' H' σ Δ fp := by
    refine ⟨fun i s x q1 q2 => ?_, fun i a ha => ⟨(keep i a ha).1, (P.nw i a ha).2.1, (keep i a ha).2.2⟩, P.dj⟩
    have h := P.ok i s x q1 q2
    cases s with
    | u => trivial
    | v dd => exact ⟨h.1, h.2.imp fun y hy => ⟨hy.1, hy.2.mono e.f⟩⟩
    | w q t =>
      obtain ⟨y, e1, r, k⟩ := h
      exact ⟨y, e1, RT.mono e.f _ _ _ (fun a ha => (keep i a ha).2.1) r, k⟩
    | k kvs =>
      obtain ⟨a, e1, e2, e3⟩ := h
      refine ⟨a, e1, e2, ?_⟩
      rw [(keep i a (by rw [e2]; exact List.mem_singleton.mpr rfl)).2.1]; exact e3
  refine ⟨⟨S.g.tr e.f, e.fh, ⟨fun a o ho no => ?_, fun a ha => ?_, fun _ => e.tb⟩, fun a o ho => ?_, e.nt, e.tb, S.len, fp, PP⟩, PP⟩
  · have na : a ∉ f := fun h => by rw [(hf a h).2] at ho; cases ho
    exact e.k a o (by rw [less_out na]; exact S.h0.k a o ho no) no
  · have := e.n a ha
    by_cases na : a ∈ f
    · exact (hf a na).2
    · rw [less_out na] at this; exact S.h0.n a this
  · rcases e.fr a o ho with z | z
    · exact S.fr a o z
    · by_cases na : a ∈ f
      · exact .inr (hf a na).2
      · rw [less_out na] at z; exact .inr (S.h0.n a z)
section
variable {X : Cx} {Δ Δ' : List Sl} {m : Bool} {e a b c o : Expr} {es : List Expr} {d x y : D} {ds xs ys rs : List D} {pos p apos : Pos} {n : Str} {k i : Nat} {q : Option Addr} {t s : T} {ts : List T} {C : Out → Prop} {R' : T → List Sl → Prop} {RL' : List T → List Sl → Prop} {spec : List T → (Res → Prop) → Prop}
theorem ETX.emt (h : ETX X Δ e R') : EMT X Δ e R' := fun G0 H0 F H σ S Q q => by
  obtain ⟨fp, P⟩ := S.sl
  exact h G0 H0 F H σ fp S P Q fun t Δ' v f F' H' hR g => q t Δ' v f F' H' hR ⟨g.s, g.p.imp fun fp' z => ⟨z.1, z.2.1⟩, g.r, g.n⟩
theorem EMT.mono {R2 : T → List Sl → Prop} (h : EMT X Δ e R') (k : ∀ t Δ', R' t Δ' → R2 t Δ') : EMT X Δ e R2 := fun G0 H0 F H σ S Q q => h G0 H0 F H σ S Q fun t Δ' v f F' H' hR g => q t Δ' v f F' H' (k t Δ' hR) g
theorem emt_call (Fn : FnT X.prog X.w X.K X.mg X.base CX0 n k spec) (hr : Room k X.A) (hg : Gl X n) (ha : ATX X Δ (e :: es) RL') (hs : ∀ ts Δ', RL' ts Δ' → ∃ P, spec ts P ∧ ∀ r, P r → R' (rT r) Δ') (hdb : (n == ("__debug__" : Str)) = false := by decide)
    (he : starEach (e :: es) X.env = (false, eval e X.env) :: starEach es X.env := by rfl) (hpl : (backTo pos (starEach es X.env)).any (·.1) = false := by rfl) : EMT X Δ (.Call (.Name n p) (e :: es) [] pos) R' := by
  intro G0 H0 F H σ S Q q
  obtain ⟨fp, P⟩ := S.sl
  obtain ⟨f, fd, ps, F1, hm, hk, hb⟩ := Fn.ex
  refine eU (pe_call F1 hr hg hm hk hb .nil pass0 pa_u hdb he hpl) (ha G0 H0 F H σ fp S P _ fun ts Δ' vs fa F' H' hR g => ?_)
  show PrT X.K spec (vs ++ []) H' Q E0
  rw [List.append_nil]
  obtain ⟨fp', P', d', s'⟩ := g.p
  have d2 : ∀ i, ∀ a ∈ fa, a ∉ fp' i := d'
  have back : ∀ a, less H' (· ∈ fa) a = none → H0 a = none := fun a h => by
    by_cases na : a ∈ fa
    · exact (g.n a na).2
    · rw [less_out na] at h; exact g.s.h0.n a h
  have off : ∀ i a, a ∈ fp' i → less H' (· ∈ fa) a ≠ none := fun i a h => by
    rw [less_out (fun z => d2 i a z h)]; exact (P'.nw i a h).2.2.ne
  obtain ⟨Pr2, hs1, hs2⟩ := hs ts Δ' hR
  refine ⟨F', ts, fa, Pr2, g.s.fh, g.s.nt, g.s.tb, g.r, fun a h => (g.n a h).1, hs1, fun r hr1 => ?_⟩
  have hr2 := hs2 r hr1
  cases r with
  | v d =>
    intro v G' H2 x2 rr
    obtain ⟨S2, P2⟩ := g.s.extT P' g.n d2 x2
    exact q _ Δ' v [] G' H2 hr2 ⟨S2, ⟨fp', P2, fun i a h => (nomatch h)⟩, rt_fz.mpr ⟨rfl, rr⟩, fun a h => (nomatch h)⟩
  | o ds =>
    intro p2 vs2 G' H2 x2 n1 h1 f1 rr
    obtain ⟨S2, P2⟩ := g.s.extT P' g.n d2 x2
    refine q _ Δ' _ [p2] G' H2 hr2 ⟨S2, ⟨fp', P2, fun i a h hb => ?_⟩, rt_l.mpr ⟨p2, vs2, rfl, rfl, h1, rr⟩, fun a h => ?_⟩
    · rw [List.mem_singleton.mp h] at hb; exact off i p2 hb n1
    · rw [List.mem_singleton.mp h]; exact ⟨f1, back p2 n1⟩
  | t t =>
    intro v f2 G' H2 x2 rr nn
    obtain ⟨S2, P2⟩ := g.s.extT P' g.n d2 x2
    exact q _ Δ' v f2 G' H2 hr2 ⟨S2, ⟨fp', P2, fun i a h hb => off i a hb (nn a h).1⟩, rr, fun a h => ⟨(nn a h).2, back a (nn a h).1⟩⟩
theorem emt_call_a (Fn : FnT X.prog X.w X.K X.mg X.base CX0 n k spec) (hr : Room k X.A) (hg : Gl X n) (ha : ATX X Δ (e :: es) RL') (hs : ∀ ts Δ', RL' ts Δ' → ∃ P, spec ts P ∧ ∀ r, P r → R' (rT r) Δ') (hdb : Rd ((n == ("__debug__" : Str)) = false)) (he : Rf (starEach (e :: es) X.env = (false, eval e X.env) :: starEach es X.env)) (hpl : Rf ((backTo pos (starEach es X.env)).any (·.1) = false)) : EMT X Δ (.Call (.Name n p) (e :: es) [] pos) R' := emt_call Fn hr hg ha hs hdb.ok he.ok hpl.ok
theorem GotM.set {G0 H0 F H : Hp} {σ : L2.St} {v : V} {f : List Addr} (g : GotM X.K G0 H0 F H σ Δ t v f) (i : Nat) : Stt X.K G0 H0 F H (σ.set i (some v)) (Δ.set i (slT t)) := by
  obtain ⟨fp, P, dj⟩ := g.p
  refine ⟨g.s.g, g.s.fh, g.s.h0, g.s.fr, g.s.nt, g.s.tb, by simp [g.s.len], fset fp i f, ?_⟩
  exact P.chg (Sub.rf _) (fun j _ a ha => ⟨(P.nw j a ha).1, rfl⟩) (slT_ok g.r) (fun a ha => ⟨(g.n a ha).1, (g.n a ha).2, g.r.own _ _ _ a ha⟩) fun j _ a ha hf => dj j a hf ha
theorem sm_setMT {i : Nat} {p1 : Pos} (hN : X.N.Nodup) (hi : X.N[i]? = some n) (hl : Loc X.env.scope n) (h : EMT X Δ e R') (k : ∀ t Δ', R' t Δ' → C (.nx (Δ'.set i (slT t)))) (hs : swapsWith e (some (.Name n p1)) pos.line X.env = pure false := by rfl) (hf : X.fn n = true ∨ X.env.scope.names.lookup n = some .local := by first | exact .inl rfl | exact .inr rfl) :
    Sm X (.Assign [.Name n p1] e pos) Δ C := fun G0 H0 F H σ S D q =>
  sU1 (ps_set hN hi hl pe_u hs hf) (h G0 H0 F H σ S _ fun t Δ' v f F' H' hR g => q _ (k t Δ' hR) F' H' _ (g.set i))
theorem sm_setMT_a {i : Nat} {p1 : Pos} (hN : X.N.Nodup) (hi : X.N[i]? = some n) (hl : Loc X.env.scope n) (h : EMT X Δ e R') (k : ∀ t Δ', R' t Δ' → C (.nx (Δ'.set i (slT t)))) (hs : Rf (swapsWith e (some (.Name n p1)) pos.line X.env = pure false)) (hf : Rl (X.fn n = true ∨ X.env.scope.names.lookup n = some .local)) : Sm X (.Assign [.Name n p1] e pos) Δ C := sm_setMT hN hi hl h k hs.ok hf.ok
theorem sm_retMT (h : EMT X Δ e R') (k : ∀ t Δ', R' t Δ' → C (.rt (.t t) Δ')) : Sm X (.Return (some e) pos) Δ C := fun G0 H0 F H σ S D q =>
  sU1 (ps_ret pe_u) (h G0 H0 F H σ S _ fun t Δ' v f F' H' hR g => q _ (k t Δ' hR) F' H' σ v f g.s g.r fun a ha => g.n a ha)
theorem sm_retMTv (h : EMT X Δ e R') (k : ∀ t Δ', R' t Δ' → ∃ d, t = .fz d ∧ C (.rt (.v d) Δ')) : Sm X (.Return (some e) pos) Δ C := fun G0 H0 F H σ S D q =>
  sU1 (ps_ret pe_u) (h G0 H0 F H σ S _ fun t Δ' v f F' H' hR g => by
    obtain ⟨d, rfl, kk⟩ := k t Δ' hR
    exact q _ kk F' H' σ v g.s (rt_fz.mp g.r).2)
theorem sm_exprMT (h : EMT X Δ e R') (k : ∀ t Δ', R' t Δ' → C (.nx Δ')) (hs : swapsWith e none pos.line X.env = pure false := by rfl) : Sm X (.Expr e pos) Δ C := fun G0 H0 F H σ S D q =>
  sU1 (ps_expr pe_u hs) (h G0 H0 F H σ S _ fun t Δ' v f F' H' hR g => q _ (k t Δ' hR) F' H' σ g.s)
theorem sm_exprMT_a (h : EMT X Δ e R') (k : ∀ t Δ', R' t Δ' → C (.nx Δ')) (hs : Rf (swapsWith e none pos.line X.env = pure false)) : Sm X (.Expr e pos) Δ C := sm_exprMT h k hs.ok
theorem EMT.tsx {C2 : Bool → List Sl → Prop} (h : EMT X Δ e R') (k : ∀ t Δ', R' t Δ' → ∃ bb, t = .fz (.bl bb) ∧ C2 bb Δ') (he : ∀ whole, isTrue e X.env whole = (do let v ← whole; standAt e.pos; holding [v] (truthy v)) := by intro _; rfl) : TS X Δ e C2 := by
  intro G0 H0 F H σ S Q q
  exact tU (pt_val pe_u he) (h G0 H0 F H σ S _ fun t Δ' v f F' H' hR g => by
    obtain ⟨bb, rfl, kk⟩ := k t Δ' hR
    exact ⟨bb, r_bl.mp (rt_fz.mp g.r).2, q bb Δ' F' H' kk g.s⟩)
theorem EMT.tsx_a {C2 : Bool → List Sl → Prop} (h : EMT X Δ e R') (k : ∀ t Δ', R' t Δ' → ∃ bb, t = .fz (.bl bb) ∧ C2 bb Δ') (he : Ri (∀ whole, isTrue e X.env whole = (do let v ← whole; standAt e.pos; holding [v] (truthy v)))) : TS X Δ e C2 := EMT.tsx h k he.ok
theorem sm_unpMT {kk : Nat} {p1 : Pos} (h : EMT X Δ e R') (g : ∀ t Δ1, R' t Δ1 → ∃ ts Δ', t = .tp ts ∧ GTs X es ts Δ1 Δ' ∧ C (.nx Δ') ∧ (assignEach es X.env).length = ts.length) (hc : X.calm = true := by rfl) (hst : (assignEach es X.env).findIdx? (·.1) = none := by rfl) (hs : swapsWithSole [.Tuple es kk p1] e pos.line X.env = pure false := by rfl) (hw : swappedStores [.Tuple es kk p1] e X.env = pure none := by rfl)
    (h1 : (assignEach [.Tuple es kk p1] X.env).map (·.2) = [assign (.Tuple es kk p1) X.env] := by rfl) : Sm X (.Assign [.Tuple es kk p1] e pos) Δ C := fun G0 H0 F H σ S D q => by
  refine sU1 (ps_asg pe_u pg_u hs hw h1) (h G0 H0 F H σ S _ fun t Δ1 v f F' H' hR gt => ?_)
  obtain ⟨ts, Δ', rfl, gg, kc, hl⟩ := g t Δ1 hR
  obtain ⟨p, vs, f1, rfl, rfl, np, hp, rl⟩ := rt_tp.mp gt.r
  obtain ⟨fp', P', d'⟩ := gt.p
  obtain ⟨tt, pg, kq⟩ := gg G0 H0 F' H' σ fp' vs f1 gt.s P' rl (fun a ha => gt.n a (List.mem_cons_of_mem _ ha)) fun i a ha => d' i a (List.mem_cons_of_mem _ ha)
  exact gU (pg_tup hc pg hl hst) ⟨p, vs, rfl, SqT.of hp, rl.length, kq _ fun σ' S' => q _ kc F' H' σ' S'⟩
theorem sm_unpMT_a {kk : Nat} {p1 : Pos} (h : EMT X Δ e R') (g : ∀ t Δ1, R' t Δ1 → ∃ ts Δ', t = .tp ts ∧ GTs X es ts Δ1 Δ' ∧ C (.nx Δ') ∧ (assignEach es X.env).length = ts.length) (hc : Rf (X.calm = true)) (hst : Rf ((assignEach es X.env).findIdx? (·.1) = none)) (hs : Rf (swapsWithSole [.Tuple es kk p1] e pos.line X.env = pure false)) (hw : Rf (swappedStores [.Tuple es kk p1] e X.env = pure none)) (h1 : Rf ((assignEach [.Tuple es kk p1] X.env).map (·.2) = [assign (.Tuple es kk p1) X.env])) : Sm X (.Assign [.Tuple es kk p1] e pos) Δ C := sm_unpMT h g hc.ok hst.ok hs.ok hw.ok h1.ok
/-- a.append(e), e's tree moved out of where it was -/
theorem sm_appendX {π : List Ste} {p2 p3 : Pos} (hp : EP X Δ a i π) (hΔ : Δ[i]? = some (Sl.w q t)) (hg : T.get π t = some (.ls ts)) (h : ETX X Δ e R') (hl : ts.length < sizeLine) (hR : ∀ s Δ1, R' s Δ1 → Δ1[i]? = some (Sl.w q t) ∧ C (.nx (Δ1.set i (.w q (T.put (.ls (ts ++ [s])) π t)))))
    (hb : attributeBase a "append" X.env (eval a X.env) = eval a X.env := by rfl) (hlin : (p2.endLine == p3.line) = true := by rfl)
    (hst : starEach [e] X.env = (false, eval e X.env) :: starEach [] X.env := by rfl) (hpl : (backTo p3 (starEach ([] : List Expr) X.env)).any (·.1) = false := by rfl) (hfew : ((((backTo p3 (starEach [e] X.env)).all fun x => !x.fst) && (backToKw p3 (keywordEach [] X.env)).all fun x => x.fst.isSome) && decide (([e].length + ([] : List Keyword).length + if ([] : List Keyword).isEmpty = true then 0 else 1) < 30)) = true := by rfl) (hs : swapsWith (.Call (.Attribute a "append" p2) [e] [] p3) none pos.line X.env = pure false := by rfl) :
    Sm X (.Expr (.Call (.Attribute a "append" p2) [e] [] p3) pos) Δ C := by
  intro G0 H0 F H σ S D qq
  refine sU1 (ps_expr (pe_bm (hbase := hb) (hfew := hfew) (hline := hlin) (hs := hst) (hplain := hpl) PySem.F.plainAttrs_list PySem.F.slot_list_append PySem.F.type_list_append mt_append pe_u (pa_cons pe_u pa_nil hst)) hs) ?_
  refine hp G0 H0 F H σ S _ fun y x F1 H1 x1 hy hpth => ?_
  have S1 := S.ext x1
  obtain ⟨y0, x0, f, ey, pp, r, nf, K⟩ := S.chgP hΔ hg
  rw [hy] at ey; cases ey
  have ex : x0 = x := (pp.mono x1.h.k).det hpth
  subst ex
  obtain ⟨ad, vs0, g0, rfl, rfl, na0, hh0, l0⟩ := rt_ls.mp r
  refine .inl ⟨rfl, _, SqL.of (x1.h.k _ _ hh0 (fun _ z => nomatch z))⟩ |> fun z => ⟨z, ?_⟩
  obtain ⟨fp1, P1⟩ := S1.sl
  refine h G0 H0 F1 H1 σ fp1 S1 P1 _ fun s Δ1 v f2 F3 H3 hR0 g => ?_
  obtain ⟨hΔ1, kk⟩ := hR s Δ1 hR0
  obtain ⟨fp', P', d', s'⟩ := g.p
  obtain ⟨y2, e2, r2, k2⟩ := P'.ok i _ _ hΔ1 hy
  cases e2
  obtain ⟨x2, f3, pth2, r3, sub3, foc⟩ := RT.foc π r2 hg
  have ex2 : x2 = .ref ad := pth2.det ((pp.mono x1.h.k).mono g.x.h.k)
  subst ex2
  obtain ⟨ad2, vs, g3, e3, rfl, na, hh, l⟩ := rt_ls.mp r3
  cases e3
  have dj : ∀ a ∈ f2, a ∉ fp' i := fun a ha => d' i a ha
  refine ⟨ad, vs, v, rfl, rfl, hh, by rw [l.length]; exact hl, ?_⟩
  have f2ad : ad ∉ f2 := fun hf => dj ad hf (sub3 ad List.mem_cons_self)
  have up : ∀ a, a ≠ ad → upd H3 ad (.lst (vs ++ [v])) a = H3 a := fun a ha => upd_ne ha
  have q2 : RTL X.K F3 (upd H3 ad (.lst (vs ++ [v]))) (ts ++ [s]) (vs ++ [v]) (g3 ++ f2) := by
    refine RTL.snoc (l.mono (Sub.rf _) _ _ _ fun a ha => ?_) (g.r.mono (Sub.rf _) _ _ _ fun a ha => up a fun z => f2ad (z ▸ ha)) fun a ha hga => dj a ha (sub3 a (List.mem_cons_of_mem _ hga))
    rw [up a (fun z => na (z ▸ ha))]
  have q3 : RT X.K F3 (upd H3 ad (.lst (vs ++ [v]))) (.ls (ts ++ [s])) (.ref ad) (ad :: (g3 ++ f2)) := rt_ls.mpr ⟨ad, _, _, rfl, rfl, fun hm => (List.mem_append.mp hm).elim na f2ad, upd_same, q2⟩
  obtain ⟨fpN, rN, subN⟩ := foc F3 _ _ _ (Sub.rf _) (fun a _ hn => up a fun z => hn (z ▸ List.mem_cons_self)) q3 (fun a ha hi => by
    rcases List.mem_cons.mp ha with rfl | ha
    · exact List.mem_cons_self
    · rcases List.mem_append.mp ha with ha | ha
      · exact List.mem_cons_of_mem _ ha
      · exact absurd hi (dj a ha))
  have inN : ∀ a ∈ fpN, a ∈ fp' i ∨ a ∈ f2 := fun a ha => by
    rcases subN a ha with h | h
    · rcases List.mem_cons.mp h with rfl | h
      · exact .inl (sub3 _ List.mem_cons_self)
      · rcases List.mem_append.mp h with h | h
        · exact .inl (sub3 _ (List.mem_cons_of_mem _ h))
        · exact .inr h
    · exact .inl h.1
  have adn := P'.nw i ad (sub3 _ List.mem_cons_self)
  refine qq _ kk F3 _ σ ⟨g.s.g, fun c o ho => ?_, g.s.h0.wr adn.2.1 hh (fun _ z => nomatch z) (fun _ z => nomatch z), g.s.fr, g.s.nt, ?_, by simp [g.s.len], fset fp' i fpN, ?_⟩
  · rw [upd_ne (ne_of_none ho adn.1)]; exact g.s.fh c o ho
  · exact (GwX.put1 (Grow.rf H3) hh (fun _ z => nomatch z) (fun _ z => nomatch z)).t g.s.tb
  · have := P'.chg (i := i) (s := .w q (T.put (.ls (ts ++ [s])) π t)) (x := some y) (f := fpN) (F' := F3) (H' := upd H3 ad (.lst (vs ++ [v]))) (Sub.rf _) (fun j hj a ha => ⟨(P'.nw j a ha).1, up a fun z => P'.dj j i ad hj (z ▸ ha) (sub3 _ List.mem_cons_self)⟩) ⟨y, rfl, rN, k2⟩ (fun a ha => ?_) (fun j hj a ha hf => ?_)
    · rwa [set_id _ hy] at this
    · rcases inN a ha with h | h
      · exact ⟨(P'.nw i a h).1, (P'.nw i a h).2.1, rN.own _ _ _ a ha⟩
      · exact ⟨(g.n a h).1, (g.n a h).2, rN.own _ _ _ a ha⟩
    · rcases inN a hf with h | h
      · exact P'.dj j i a hj ha h
      · exact d' j a h ha
theorem sm_appendX_a {π : List Ste} {p2 p3 : Pos} (hp : EP X Δ a i π) (hΔ : Δ[i]? = some (Sl.w q t)) (hg : T.get π t = some (.ls ts)) (h : ETX X Δ e R') (hl : ts.length < sizeLine) (hR : ∀ s Δ1, R' s Δ1 → Δ1[i]? = some (Sl.w q t) ∧ C (.nx (Δ1.set i (.w q (T.put (.ls (ts ++ [s])) π t))))) (hb : Rf (attributeBase a "append" X.env (eval a X.env) = eval a X.env)) (hlin : Rf ((p2.endLine == p3.line) = true)) (hst : Rf (starEach [e] X.env = (false, eval e X.env) :: starEach [] X.env)) (hpl : Rf ((backTo p3 (starEach ([] : List Expr) X.env)).any (·.1) = false)) (hfew : Rf (((((backTo p3 (starEach [e] X.env)).all fun x => !x.fst) && (backToKw p3 (keywordEach [] X.env)).all fun x => x.fst.isSome) && decide (([e].length + ([] : List Keyword).length + if ([] : List Keyword).isEmpty = true then 0 else 1) < 30)) = true)) (hs : Rf (swapsWith (.Call (.Attribute a "append" p2) [e] [] p3) none pos.line X.env = pure false)) : Sm X (.Expr (.Call (.Attribute a "append" p2) [e] [] p3) pos) Δ C := sm_appendX hp hΔ hg h hl hR hb.ok hlin.ok hst.ok hpl.ok hfew.ok hs.ok
/-- the same, told outright -/
theorem sm_appendXE {π : List Ste} {p2 p3 : Pos} {Δ1 : List Sl} (hp : EP X Δ a i π) (hΔ : Δ[i]? = some (Sl.w q t)) (hg : T.get π t = some (.ls ts)) (h : ETX X Δ e (fun t' Δ' => t' = s ∧ Δ' = Δ1)) (hl : ts.length < sizeLine) (hΔ1 : Δ1[i]? = some (Sl.w q t)) (kk : C (.nx (Δ1.set i (.w q (T.put (.ls (ts ++ [s])) π t)))))
    (hb : attributeBase a "append" X.env (eval a X.env) = eval a X.env := by rfl) (hlin : (p2.endLine == p3.line) = true := by rfl)
    (hst : starEach [e] X.env = (false, eval e X.env) :: starEach [] X.env := by rfl) (hpl : (backTo p3 (starEach ([] : List Expr) X.env)).any (·.1) = false := by rfl) (hfew : ((((backTo p3 (starEach [e] X.env)).all fun x => !x.fst) && (backToKw p3 (keywordEach [] X.env)).all fun x => x.fst.isSome) && decide (([e].length + ([] : List Keyword).length + if ([] : List Keyword).isEmpty = true then 0 else 1) < 30)) = true := by rfl) (hs : swapsWith (.Call (.Attribute a "append" p2) [e] [] p3) none pos.line X.env = pure false := by rfl) :
    Sm X (.Expr (.Call (.Attribute a "append" p2) [e] [] p3) pos) Δ C :=
  sm_appendX hp hΔ hg h hl (fun s' Δ1' z => by obtain ⟨rfl, rfl⟩ := z; exact ⟨hΔ1, kk⟩) hb hlin hst hpl hfew hs
theorem sm_appendXE_a {π : List Ste} {p2 p3 : Pos} {Δ1 : List Sl} (hp : EP X Δ a i π) (hΔ : Δ[i]? = some (Sl.w q t)) (hg : T.get π t = some (.ls ts)) (h : ETX X Δ e (fun t' Δ' => t' = s ∧ Δ' = Δ1)) (hl : ts.length < sizeLine) (hΔ1 : Δ1[i]? = some (Sl.w q t)) (kk : C (.nx (Δ1.set i (.w q (T.put (.ls (ts ++ [s])) π t))))) (hb : Rf (attributeBase a "append" X.env (eval a X.env) = eval a X.env)) (hlin : Rf ((p2.endLine == p3.line) = true)) (hst : Rf (starEach [e] X.env = (false, eval e X.env) :: starEach [] X.env)) (hpl : Rf ((backTo p3 (starEach ([] : List Expr) X.env)).any (·.1) = false)) (hfew : Rf (((((backTo p3 (starEach [e] X.env)).all fun x => !x.fst) && (backToKw p3 (keywordEach [] X.env)).all fun x => x.fst.isSome) && decide (([e].length + ([] : List Keyword).length + if ([] : List Keyword).isEmpty = true then 0 else 1) < 30)) = true)) (hs : Rf (swapsWith (.Call (.Attribute a "append" p2) [e] [] p3) none pos.line X.env = pure false)) : Sm X (.Expr (.Call (.Attribute a "append" p2) [e] [] p3) pos) Δ C := sm_appendXE hp hΔ hg h hl hΔ1 kk hb.ok hlin.ok hst.ok hpl.ok hfew.ok hs.ok
/-- a test that hands over trees of one's own -/
theorem ts_callT {Δ2 : List Sl} {bb : Bool} (Fn : FnT X.prog X.w X.K X.mg X.base CX0 n k spec) (hr : Room k X.A) (hg : Gl X n) (ha : ATX X Δ (e :: es) (fun l Δ' => l = ts ∧ Δ' = Δ2)) (hs : spec ts (fun r => r = .v (.bl bb))) (hdb : (n == ("__debug__" : Str)) = false := by decide)
    (he : starEach (e :: es) X.env = (false, eval e X.env) :: starEach es X.env := by rfl) (hpl : (backTo pos (starEach es X.env)).any (·.1) = false := by rfl) (hw : ∀ whole, isTrue (.Call (.Name n p) (e :: es) [] pos) X.env whole = (do let v ← whole; standAt (Expr.Call (.Name n p) (e :: es) [] pos).pos; holding [v] (truthy v)) := by intro _; rfl) : TS X Δ (.Call (.Name n p) (e :: es) [] pos) (fun b' Δ' => b' = bb ∧ Δ' = Δ2) :=
  EMT.tsx (emt_call (R' := fun t Δ' => t = .fz (.bl bb) ∧ Δ' = Δ2) Fn hr hg ha (fun ts' Δ' q => by
    obtain ⟨rfl, rfl⟩ := q
    exact ⟨_, hs, fun r h => by subst h; exact ⟨rfl, rfl⟩⟩) hdb he hpl) (fun t Δ' q => by obtain ⟨rfl, rfl⟩ := q; exact ⟨bb, rfl, rfl, rfl⟩) hw
theorem ts_callT_a {Δ2 : List Sl} {bb : Bool} (Fn : FnT X.prog X.w X.K X.mg X.base CX0 n k spec) (hr : Room k X.A) (hg : Gl X n) (ha : ATX X Δ (e :: es) (fun l Δ' => l = ts ∧ Δ' = Δ2)) (hs : spec ts (fun r => r = .v (.bl bb))) (hdb : Rd ((n == ("__debug__" : Str)) = false)) (he : Rf (starEach (e :: es) X.env = (false, eval e X.env) :: starEach es X.env)) (hpl : Rf ((backTo pos (starEach es X.env)).any (·.1) = false)) (hw : Ri (∀ whole, isTrue (.Call (.Name n p) (e :: es) [] pos) X.env whole = (do let v ← whole; standAt (Expr.Call (.Name n p) (e :: es) [] pos).pos; holding [v] (truthy v)))) : TS X Δ (.Call (.Name n p) (e :: es) [] pos) (fun b' Δ' => b' = bb ∧ Δ' = Δ2) := ts_callT Fn hr hg ha hs hdb.ok he.ok hpl.ok hw.ok
/-- if not f(..): .., what is handed over being trees of one's own, f answering True -/
theorem sm_ifnT {Δ2 : List Sl} {t2 u2 : List Stmt} {pos2 pos3 : Pos} (Fn : FnT X.prog X.w X.K X.mg X.base CX0 n k spec) (hr : Room k X.A) (hg : Gl X n) (ha : ATX X Δ (e :: es) (fun l Δ' => l = ts ∧ Δ' = Δ2)) (hs : spec ts (fun r => r = .v (.bl true))) (kk : Bk X u2 Δ2 C) (hdb : (n == ("__debug__" : Str)) = false := by decide)
    (he : starEach (e :: es) X.env = (false, eval e X.env) :: starEach es X.env := by rfl) (hpl : (backTo pos (starEach es X.env)).any (·.1) = false := by rfl) (hw : ∀ whole, isTrue (.Call (.Name n p) (e :: es) [] pos) X.env whole = (do let v ← whole; standAt (Expr.Call (.Name n p) (e :: es) [] pos).pos; holding [v] (truthy v)) := by intro _; rfl) :
    Sm X (.If (.UnaryOp .Not (.Call (.Name n p) (e :: es) [] pos) pos2) t2 u2 pos3) Δ C := by
  refine sm_ifs (C2 := fun b Δ' => b = false ∧ Δ' = Δ2) (ts_not (a := .Call (.Name n p) (e :: es) [] pos) ?_) (fun Δ' q => (nomatch q.1)) (fun Δ' q => q.2 ▸ kk)
  intro G0 H0 F H σ S Q q
  exact ts_callT Fn hr hg ha hs hdb he hpl hw G0 H0 F H σ S Q fun b Δ' F' H' z S' => q b Δ' F' H' ⟨by rw [z.1]; rfl, z.2⟩ S'
theorem sm_ifnT_a {Δ2 : List Sl} {t2 u2 : List Stmt} {pos2 pos3 : Pos} (Fn : FnT X.prog X.w X.K X.mg X.base CX0 n k spec) (hr : Room k X.A) (hg : Gl X n) (ha : ATX X Δ (e :: es) (fun l Δ' => l = ts ∧ Δ' = Δ2)) (hs : spec ts (fun r => r = .v (.bl true))) (kk : Bk X u2 Δ2 C) (hdb : Rd ((n == ("__debug__" : Str)) = false)) (he : Rf (starEach (e :: es) X.env = (false, eval e X.env) :: starEach es X.env)) (hpl : Rf ((backTo pos (starEach es X.env)).any (·.1) = false)) (hw : Ri (∀ whole, isTrue (.Call (.Name n p) (e :: es) [] pos) X.env whole = (do let v ← whole; standAt (Expr.Call (.Name n p) (e :: es) [] pos).pos; holding [v] (truthy v)))) : Sm X (.If (.UnaryOp .Not (.Call (.Name n p) (e :: es) [] pos) pos2) t2 u2 pos3) Δ C := sm_ifnT Fn hr hg ha hs kk hdb.ok he.ok hpl.ok hw.ok
end
end Z

namespace Z
open PySem PySem.Spec PyProof.Rows L2
variable [τ : Tb]
/-! ### tuples: slices, +, tuple(list) -/
theorem slD_all {α : Type} {xs : List α} {lo hi : Option Int} (h : HT.sIx xs.length 0 lo = 0 ∧ HT.sIx xs.length xs.length hi = xs.length) : slD xs lo hi = xs := by
  unfold slD
  rw [h.1, h.2]; simp
section
variable {X : Cx} {Δ : List Sl} {m : Bool} {e a b : Expr} {d x y : D} {ds xs ys : List D} {pos p : Pos}
theorem put_tup {F H H' : Hp} {F' : Hp} {ds : List D} {vs : List V} {p : Addr} (x : Ext F H F' H') (n : H' p = none) (r : RL X.K (sel m F' H') ds vs) {Q : VK} (q : ∀ v F2 H2, Ext F H F2 H2 → R X.K (sel m F2 H2) (.tup ds) v → Q v H2) : Q (.ref p) (upd H' p (.tup vs)) := by
  cases m with
  | true => exact q (.ref p) (upd F' p (.tup vs)) _ (x.tr (Ext.put x.fh n)) (r_tup.mpr ⟨p, vs, rfl, upd_same, RL.mono (show Sub F' (upd F' p (.tup vs)) from Sub.new (x.fh.none n)) ds vs r⟩)
  | false => exact q (.ref p) F' _ (x.tr (Ext.grow x.fh (Sub.new n))) (r_tup.mpr ⟨p, vs, rfl, upd_same, RL.mono (show Sub H' (upd H' p (.tup vs)) from Sub.new n) ds vs r⟩)
theorem sub_sel {F H : Hp} (s : Sub F H) : Sub (sel m F H) H := by
  cases m with
  | true => exact s
  | false => exact Sub.rf _
/-- t[lo:hi] -/
theorem ev_slt {lo hi : Option Expr} {l u : Option Int} {p2 : Pos} (ha : EV X Δ true a (.tup ds)) (hl : OV X Δ lo l) (hu : OV X Δ hi u) : EV X Δ m (.Subscript a (.Slice lo hi none p2) pos) (.tup (slD ds l u)) := by
  intro G0 H0 F H σ S Q q
  refine eU (pe_slice sl_tupA pe_u po_u po_u) (ha G0 H0 F H σ S _ fun v F1 H1 e1 r1 => ?_)
  refine hl G0 H0 F1 H1 σ (S.ext e1) _ fun F2 H2 e2 => hu G0 H0 F2 H2 σ (S.ext (e1.tr e2)) _ fun F3 H3 e3 => ?_
  obtain ⟨p, vs, rfl, g, r⟩ := r_tup.mp r1
  have e := e1.tr (e2.tr e3)
  have e23 := e2.tr e3
  have g3 : F3 p = some (.tup vs) := e23.f _ _ g
  have r3 := RL.mono e23.f _ _ r
  refine ⟨p, vs, rfl, SqT.of (e.fh _ _ g3), fun hw => ?_, fun _ n nn => ?_⟩
  · rw [r.length] at hw
    rw [slD_all hw] at q
    refine q _ F3 H3 e ?_
    cases m with
    | true => exact r_tup.mpr ⟨p, vs, rfl, g3, r3⟩
    | false => exact r_tup.mpr ⟨p, vs, rfl, e.fh _ _ g3, RL.mono e.fh _ _ r3⟩
  · refine put_tup (m := m) e nn ?_ q
    have := RL.cut r3 l u
    cases m with
    | true => exact this
    | false => exact RL.mono e.fh _ _ this
/-- t + u -/
theorem ev_catt (ha : EV X Δ true a (.tup xs)) (hb : EV X Δ true b (.tup ys)) (hc : xs.length + ys.length ≤ sizeLine) : EV X Δ m (.BinOp a .Add b pos) (.tup (xs ++ ys)) := by
  intro G0 H0 F H σ S Q q
  refine eU (pe_op op_catA pe_u pe_u) (two ha hb S fun v w F' H' e r1 r2 => ?_)
  obtain ⟨p1, v1, rfl, g1, l1⟩ := r_tup.mp r1
  obtain ⟨p2, v2, rfl, g2, l2⟩ := r_tup.mp r2
  have up : ∀ (zs : List D) (p : Addr) (vs : List V), F' p = some (.tup vs) → RL X.K F' zs vs → R X.K (sel m F' H') (.tup zs) (.ref p) := fun zs p vs g l => by
    cases m with
    | true => exact r_tup.mpr ⟨p, vs, rfl, g, l⟩
    | false => exact r_tup.mpr ⟨p, vs, rfl, e.fh _ _ g, RL.mono e.fh _ _ l⟩
  refine ⟨p1, p2, v1, v2, rfl, rfl, SqT.of (e.fh _ _ g1), SqT.of (e.fh _ _ g2), by rw [l1.length, l2.length]; exact hc, fun z => ?_, fun _ z => ?_, fun _ _ n nn => ?_⟩
  · have : xs = [] := by have := l1.length; rw [z] at this; exact List.eq_nil_of_length_eq_zero this.symm
    subst this
    exact q _ F' H' e (up ys p2 v2 g2 l2)
  · have : ys = [] := by have := l2.length; rw [z] at this; exact List.eq_nil_of_length_eq_zero this.symm
    subst this
    rw [List.append_nil] at q
    exact q _ F' H' e (up xs p1 v1 g1 l1)
  · refine put_tup (m := m) e nn ?_ q
    have := RL.append (show RL X.K F' xs v1 from l1) l2
    cases m with
    | true => exact this
    | false => exact RL.mono e.fh _ _ this
/-- tuple(a list) -/
theorem ev_tupleL (hg : Gl X "tuple") (hm : X.mg "tuple" = none) (ha : EV X Δ true e (.lst ds)) (hs : starEach [e] X.env = (false, eval e X.env) :: starEach [] X.env := by rfl) (hpl : (backTo pos (starEach ([] : List Expr) X.env)).any (·.1) = false := by rfl) : EV X Δ m (.Call (.Name "tuple" p) [e] [] pos) (.tup ds) := by
  intro G0 H0 F H σ S Q q
  refine eU (pe_callTy call_tuple_of hg hm bt_tuple pa_u (by decide) (by decide) hs hpl) ((av_cons ha av_nil hs) G0 H0 F H σ S _ fun vs F' H' x rl => ?_)
  obtain ⟨v, rfl, r⟩ := rl1 rl
  obtain ⟨ad, ws, rfl, g, l⟩ := r_lst.mp r
  refine ⟨ad, ws, rfl, .inl ⟨SqL.of (x.fh _ _ g), fun n nn => put_tup (m := m) x nn ?_ q⟩⟩
  cases m with
  | true => exact l
  | false => exact RL.mono x.fh _ _ l
theorem ev_tupleL_a (hg : Gl X "tuple") (hm : X.mg "tuple" = none) (ha : EV X Δ true e (.lst ds)) (hs : Rf (starEach [e] X.env = (false, eval e X.env) :: starEach [] X.env)) (hpl : Rf ((backTo pos (starEach ([] : List Expr) X.env)).any (·.1) = false)) : EV X Δ m (.Call (.Name "tuple" p) [e] [] pos) (.tup ds) := ev_tupleL hg hm ha hs.ok hpl.ok
end
end Z

namespace Z
open PySem PySem.Spec PyProof.Rows L2
variable [τ : Tb]
/-! ### comprehensions over lists of one's own -/
/-- an iterator over the list xs at a -/
structure WkO (J : It) (a : Addr) (xs : List V) : Prop where
  go : ∀ (i : Nat) H, i < xs.length → H a = some (.lst xs) → J.go i H
  stop : ∀ H, H a = some (.lst xs) → J.stop xs.length H
  yld : ∀ (i : Nat) H x H', H a = some (.lst xs) → J.yld i H x H' → H' = H ∧ xs[i]? = some x
section
variable {X : Cx} {Δ : List Sl} {m : Bool} {e elt iter cnd a b : Expr} {es : List Expr} {scope : Scope} {d x y : D} {ds : List D} {pos pos' py p : Pos} {n : Str} {q : Option Addr} {t s : T} {ts ss : List T} {i k : Nat} {π : List Ste} {C : Out → Prop} {f : T → T} {c : T → Bool}
theorem ui_own {tg : Expr} {σ : L2.St} {H : Hp} {R' : It → Hp → Prop} {PP : Addr → List V → Hp → Prop} (h : ∀ Q : VK, (∀ a xs H1, PP a xs H1 → Q (.ref a) H1) → uE X iter σ H Q) (kk : ∀ a xs H1, PP a xs H1 → H1 a = some (.lst xs) ∧ ∀ J, WkO J a xs → R' J H1) : uI X tg iter σ H R' := by
  refine iU (pi_list pe_u) (h _ fun a xs H1 hp => ?_)
  obtain ⟨ha, k⟩ := kk a xs H1 hp
  refine ⟨a, rfl, ⟨xs, SqL.of ha⟩, k _ ⟨fun i H2 hi s => ?_, fun H2 s => ?_, fun i H2 y H3 s yl => ?_⟩⟩
  · exact ⟨xs, xs[i], SqL.of s, by simp [hi]⟩
  · exact ⟨xs, SqL.of s, Nat.le_refl _⟩
  · obtain ⟨rfl, yl⟩ := yl
    exact ⟨rfl, yl xs (SqL.of s)⟩
/-- what a turn makes of the item t at v with the part g -/
def TurnO (X : Cx) (Δ1 : List Sl) (mv : Bool) (elt : Expr) (i : Nat) (t : T) (t' : T) : Prop :=
  ∀ (G0 H0 F H : Hp) (σ : L2.St) (v : V) (g : List Addr), Stt X.K G0 H0 F H σ Δ1 → σ[i]? = some (some v) → RT X.K F H t v g → (∀ b ∈ g, F b = none) → ∀ Q : VK, (∀ y fy F' H', Ext F H F' H' → RT X.K F' H' t' y fy → (∀ b ∈ fy, F' b = none ∧ ((mv = true ∧ b ∈ g) ∨ H b = none)) → Q y H') → uE X elt σ H Q
theorem turn_new {Δ1 : List Sl} (h : ET X Δ1 elt s) : TurnO X Δ1 false elt i t s := fun G0 H0 F H σ v g S _ _ _ Q q =>
  h G0 H0 F H σ S Q fun y fy F' H' e r n => q y fy F' H' e r fun b hb => ⟨(n b hb).2, .inr (n b hb).1⟩
theorem turn_same {Δ1 : List Sl} {qq : Option Addr} {t0 : T} (hN : X.N[i]? = some n) (hΔ : Δ1[i]? = some (Sl.w qq t0)) (hv : Vis X.env.scope n := by first | exact Or.inl rfl | exact Or.inr (Or.inl rfl) | exact Or.inr (Or.inr rfl)) (hd : (n == ("__debug__" : Str)) = false := by decide) (hcd : (n == ("__classdict__" : Str)) = false := by decide) : TurnO X Δ1 true (.Name n p) i t t := fun G0 H0 F H σ v g S hy r nf Q q =>
  (ep_name (pos := p) hN hΔ hv hd hcd) G0 H0 F H σ S Q fun y x F' H' e hy2 pth => by
    rw [hy] at hy2; cases hy2
    have : x = v := pth
    subst this
    exact q x g F' H' e (r.ext e) fun b hb => ⟨e.keepN (nf b hb) (r.own _ _ _ b hb).ne, .inl ⟨rfl, hb⟩⟩
theorem turn_same_a {Δ1 : List Sl} {qq : Option Addr} {t0 : T} (hN : X.N[i]? = some n) (hΔ : Δ1[i]? = some (Sl.w qq t0)) (hv : Rv (Vis X.env.scope n)) (hd : Rd ((n == ("__debug__" : Str)) = false)) (hcd : Rd ((n == ("__classdict__" : Str)) = false)) : TurnO X Δ1 true (.Name n p) i t t := turn_same hN hΔ hv.ok hd.ok hcd.ok
/-- the test of a turn -/
def TestO (X : Cx) (Δ1 : List Sl) (tt : TT) (cc : Bool) : Prop := ∀ (G0 H0 F H : Hp) (σ : L2.St), Stt X.K G0 H0 F H σ Δ1 → ∀ Q : Bool → Hp → Prop, (∀ F' H', Ext F H F' H' → Q cc H') → tt σ H Q
theorem Fps.wip {K : PySem.W.Frag} {H0 F H : Hp} {σ : L2.St} {Δ : List Sl} {fp : Nat → List Addr} (P : Fps K H0 F H σ Δ fp) : ∀ vs : List Nat, ∃ fpw, Fps K H0 F H (wipe σ vs) (wipD Δ vs) fpw ∧ ∀ l, ∀ b ∈ fpw l, b ∈ fp l
  | [] => ⟨fp, P, fun l b h => h⟩
  | u :: vs => by
    obtain ⟨fpw, Pw, hw⟩ := P.wip vs
    refine ⟨fset fpw u [], Pw.chg (i := u) (s := .u) (x := none) (f := []) (Sub.rf _) (fun j _ a ha => ⟨(Pw.nw j a ha).1, rfl⟩) trivial (fun a h => (nomatch h)) (fun j _ a _ h => (nomatch h)), fun l b h => ?_⟩
    by_cases z : l = u
    · subst z; rw [fset_same] at h; cases h
    · rw [fset_ne z] at h; exact hw l b h
theorem lco_run {mv : Bool} {tt : TT} {vs : List Nat} {py : Pos} {J : It} {a : Addr} {xs : List V} {fl : List Addr} {fp : Nat → List Addr} {G0 H0 F1 H1 : Hp} {σ : L2.St} (hlen : ts.length ≤ sizeLine) (hiv : i ∈ vs) (hil : i < Δ.length) (hN : X.N.Nodup)
    (hnm : ∀ s H C cl fp, PG (BX X scope s H C cl fp) (.Name n py) (fun v σ H Q => Q (σ.set i (some v)) H))
    (S : Stt X.K G0 H0 F1 H1 σ Δ) (P : Fps X.K H0 F1 H1 σ Δ fp) (W : WkO J a xs) (hA : H1 a = some (.lst xs)) (rl0 : RTL X.K F1 H1 ts xs fl) (hn : ∀ b ∈ fl, F1 b = none ∧ H0 b = none) (dj : ∀ j, ∀ b ∈ fl, b ∉ fp j)
    (ht : ∀ t ∈ ts, TestO X ((wipD Δ vs).set i (slT t)) tt (c t)) (he : ∀ t ∈ ts, c t = true → ∀ s H C cl fp, TurnO (BX X scope s H C cl fp) ((wipD Δ vs).set i (slT t)) mv elt i t (f t))
    {D : Addr} (nD : H1 D = none) {Q : VK} (q : ∀ v f' F' H', Ext F1 H1 F' H' → RT X.K F' H' (.ls ((ts.filter c).map f)) v f' → (∀ b ∈ f', F' b = none ∧ ((mv = true ∧ b ∈ fl) ∨ H1 b = none)) → Q v H') :
    ∃ W : Nat → Nat → Hp → Prop, (∃ m, W 0 m (upd H1 D (.lst []))) ∧ ∀ i m H, W i m H →
      (J.stop i H ∧ Q (.ref D) H) ∨ (J.go i H ∧ ∃ Nx : Hp → Prop, (∀ H', Nx H' → ∃ m', m' < m ∧ W (i + 1) m' H') ∧ ∀ x H', J.yld i H x H' → (fun v σ H Q => ∀ s H' C cl fp, uG (BX X scope s H' C cl fp) (.Name n py) v σ H Q) x (wipe σ vs) H' fun σ2 H2 => wipe σ2 vs = wipe σ vs ∧ tt σ2 H2 fun b H3 =>
        if b = true then (fun σ H Q => ∀ s H' C cl fp, uE (BX X scope s H' C cl fp) elt σ H Q) σ2 H3 fun y H4 => ∃ acc, H4 D = some (.lst acc) ∧ acc.length < sizeLine ∧ Nx (upd H4 D (.lst (acc ++ [y]))) else Nx H3) := by
  have hxl : xs.length = ts.length := rl0.length
  obtain ⟨g, g1, g2, g3⟩ := rtl_split rl0
  have aD : a ≠ D := fun z => by rw [z, nD] at hA; cases hA
  refine lc_it (g := fun v σ H Q => ∀ s H' C cl fp, uG (BX X scope s H' C cl fp) (.Name n py) v σ H Q) (tt := tt) (te := fun σ H Q => ∀ s H' C cl fp, uE (BX X scope s H' C cl fp) elt σ H Q) (vs := vs) (σ := σ) (Qd := fun H' => Q (.ref D) H') (J := J) (n := ts.length) (G := fun H => H a = some (.lst xs)) (Y := fun i H x H' => H' = H ∧ xs[i]? = some x) ⟨fun i H hi s => W.go i H (by omega) s, fun H s => by rw [← hxl]; exact W.stop H s, fun i H x H' hi s y => W.yld i H x H' s y⟩
    (fun i H2 => ∃ F2 acc fa, Ext F1 H1 F2 H2 ∧ H2 D = some (.lst acc) ∧ F2 D = none ∧ RTL X.K F2 H2 (((ts.take i).filter c).map f) acc fa ∧ (∀ b ∈ fa, F2 b = none ∧ ((mv = true ∧ ∃ j, j < i ∧ b ∈ g j) ∨ H1 b = none)) ∧ D ∉ fa)
    ⟨F1, [], [], Ext.grow S.fh (Sub.new nD), upd_same, S.fh.none nD, by rw [List.take_zero]; exact rtl_nil.mpr ⟨rfl, rfl⟩, fun _ h => (nomatch h), fun h => (nomatch h)⟩ (fun i H2 _ ⟨F2, acc, fa, x, _⟩ => x.h.k _ _ hA (fun _ z => nomatch z))
    (fun j v H2 H3 hjl ⟨F2, acc, fa, x2, hD, fD, rl, nf, nDf⟩ y => ?_) (fun H2 ⟨F2, acc, fa, x2, hD, fD, rl, nf, nDf⟩ => ?_)
  · obtain ⟨rfl, hv⟩ := y
    have hd' : ts[j]? = some ts[j] := List.getElem?_eq_getElem hjl
    generalize ts[j] = t at hd'
    have rt1 := g1 j t v hd' hv
    have rt2 : RT X.K F2 H3 t v (g j) := rt1.ext x2
    have gN : ∀ b ∈ g j, F2 b = none ∧ H0 b = none := fun b hb => ⟨x2.keepN (hn b (g2 j b hb)).1 (rt1.own _ _ _ b hb).ne, (hn b (g2 j b hb)).2⟩
    have hmem := List.mem_of_getElem? hd'
    have S2 := (S.ext x2)
    have P2 := (P.ext x2)
    have tk : ((ts.take (j + 1)).filter c).map f = ((ts.take j).filter c).map f ++ if c t then [f t] else [] := by
      rw [List.take_add_one, hd', List.filter_append, List.map_append]
      congr 1
      by_cases z : c t = true
      · simp [z]
      · simp [z]
    have hDn : H3 D ≠ none := by rw [hD]; exact fun z => nomatch z
    have keepD : ∀ {F4 H4 : Hp}, Ext F2 H3 F4 H4 → F4 D = none := fun {F4 H4} x4 => x4.keepN fD hDn
    -- the slots of the turn
    have S4 : Stt X.K G0 H0 F2 H3 ((wipe σ vs).set i (some v)) ((wipD Δ vs).set i (slT t)) := by
      have Sw := S2.wip vs
      obtain ⟨fpw, Pw, hw⟩ := P2.wip vs
      refine ⟨Sw.g, Sw.fh, Sw.h0, Sw.fr, Sw.nt, Sw.tb, by rw [List.length_set, List.length_set]; exact Sw.len, fset fpw i (g j), ?_⟩
      exact Pw.chg (Sub.rf _) (fun l _ b hb => ⟨(Pw.nw l b hb).1, rfl⟩) (slT_ok rt2) (fun b hb => ⟨(gN b hb).1, (gN b hb).2, rt2.own _ _ _ b hb⟩) fun l _ b hb hg => dj l b (g2 j b hg) (hw l b hb)
    have hlt : i < (wipe σ vs).length := by
      rw [wipe_length, S.len]; exact hil
    have hyv : ((wipe σ vs).set i (some v))[i]? = some (some v) := by rw [List.getElem?_set_self hlt]
    intro s HH C cl fp2
    refine gU (hnm s HH C cl fp2) ⟨wipe_off (is := [i]) (Off.set i _ _) (fun l hl => by rw [List.mem_singleton.mp hl]; exact hiv), ?_⟩
    refine ht t hmem G0 H0 F2 H3 _ S4 _ fun F5 H5 e5 => ?_
    cases hct : c t with
    | false =>
      rw [if_neg Bool.false_ne_true]
      rw [hct, if_neg Bool.false_ne_true, List.append_nil] at tk
      refine ⟨F5, acc, fa, x2.tr e5, e5.h.k _ _ hD (fun _ z => nomatch z), keepD e5, by rw [tk]; exact rl.ext e5, fun b hb => ⟨e5.keepN (nf b hb).1 (rl.own _ _ _ b hb).ne, ?_⟩, nDf⟩
      rcases (nf b hb).2 with ⟨h1, l, hl, h2⟩ | h
      · exact .inl ⟨h1, l, by omega, h2⟩
      · exact .inr h
    | true =>
      rw [if_pos rfl]
      rw [hct, if_pos rfl] at tk
      intro s HH C cl fp3
      refine he t hmem hct s HH C cl fp3 G0 H0 F5 H5 _ v (g j) (S4.ext e5) hyv (rt2.ext e5) (fun b hb => e5.keepN (gN b hb).1 (rt2.own _ _ _ b hb).ne) _ fun yv fy F6 H6 e6 r6 n6 => ?_
      have e26 := e5.tr e6
      have e16 := x2.tr e26
      have r6 : RT X.K F6 H6 (f t) yv fy := r6
      have rl6 := rl.ext e26
      have gD : ∀ l, D ∉ g l := fun l h => (rl0.own _ _ _ D (g2 l D h)).ne nD
      have Dfy : D ∉ fy := fun h => by
        rcases (n6 D h).2 with ⟨_, h2⟩ | h2
        · exact gD j h2
        · exact hDn (e5.h.none h2)
      have up : ∀ a, a ≠ D → upd H6 D (.lst (acc ++ [yv])) a = H6 a := fun a ha => upd_ne ha
      refine ⟨acc, e26.h.k _ _ hD (fun _ z => nomatch z), ?_, F6, acc ++ [yv], fa ++ fy, e16.wr nD (keepD e26) (e26.h.k _ _ hD (fun _ z => nomatch z)), upd_same, keepD e26, ?_, fun b hb => ?_, fun h => ?_⟩
      · have h1 := rl.length
        have h2 : ((ts.take j).filter c).length ≤ (ts.take j).length := List.length_filter_le _ _
        rw [List.length_map] at h1
        rw [List.length_take] at h2
        omega
      · rw [tk]
        refine RTL.snoc (rl6.mono (Sub.rf _) _ _ _ fun b hb => up b fun z => nDf (z ▸ hb)) (r6.mono (Sub.rf _) _ _ _ fun b hb => up b fun z => Dfy (z ▸ hb)) fun b hb hb2 => ?_
        rcases (n6 b hb).2 with ⟨_, h2⟩ | h2
        · rcases (nf b hb2).2 with ⟨_, l, hl, h3⟩ | h3
          · exact g3 l j b (by omega) h3 h2
          · exact (rt1.own _ _ _ b h2).ne h3
        · exact (rl.own _ _ _ b hb2).ne (e5.h.none h2)
      · rcases List.mem_append.mp hb with hb | hb
        · refine ⟨e26.keepN (nf b hb).1 (rl.own _ _ _ b hb).ne, ?_⟩
          rcases (nf b hb).2 with ⟨h1, l, hl, h2⟩ | h
          · exact .inl ⟨h1, l, by omega, h2⟩
          · exact .inr h
        · refine ⟨(n6 b hb).1, ?_⟩
          rcases (n6 b hb).2 with ⟨h1, h2⟩ | h
          · exact .inl ⟨h1, j, by omega, h2⟩
          · exact .inr (x2.h.none (e5.h.none h))
      · rcases List.mem_append.mp h with h | h
        · exact nDf h
        · exact Dfy h
  · rw [List.take_length] at rl
    refine q (.ref D) (D :: fa) F2 H2 x2 (rt_ls.mpr ⟨D, acc, fa, rfl, rfl, nDf, hD, rl⟩) fun b hb => ?_
    rcases List.mem_cons.mp hb with rfl | hb
    · exact ⟨fD, .inr nD⟩
    · refine ⟨(nf b hb).1, ?_⟩
      rcases (nf b hb).2 with ⟨h1, l, _, h2⟩ | h
      · exact .inl ⟨h1, g2 l b h2⟩
      · exact .inr h
/-- [x for x in a new list of one's own if ..], the items moved -/
theorem et_lcm (own : List (Str × Nat)) (hlen : ts.length ≤ sizeLine) (hi : X.N[i]? = some n) (hiv : i ∈ own.map (·.2)) (hil : i < Δ.length) (hit : ET X Δ iter (.ls ts)) (hnm : ∀ s H C cl fp, PG (BX X scope s H C cl fp) (.Name n py) (fun v σ H Q => Q (σ.set i (some v)) H))
    (ht : ∀ t ∈ ts, ∀ s H C cl fp, TV (BX X scope s H C cl fp) ((wipD Δ (own.map (·.2))).set i (slT t)) cnd (c t)) (he : ∀ t ∈ ts, ∀ s H C cl fp, TurnO (BX X scope s H C cl fp) ((wipD Δ (own.map (·.2))).set i (slT t)) true elt i t t)
    (hN : X.N.Nodup) (ok : BlkOk X.N X.env.scope scope own) (hc : X.calm = true := by rfl) (hs : ∀ x, foldedSetIterable iter X.env x = pure x := by intro _; rfl) : ET X Δ (.ListComp elt [⟨.Name n py, iter, [cnd], 0⟩] scope pos) (.ls (ts.filter c)) := by
  intro G0 H0 F H σ S Q q
  refine eU (pe_lc hc hN pi_u ok (fun _ _ _ _ _ => pg_b) (fun _ _ _ _ _ => pts_one pt_b) (fun _ _ _ _ _ => pe_b) hs) ?_
  refine ui_own (PP := fun a xs H1 => ∃ F1 f', Ext F H F1 H1 ∧ H1 a = some (.lst xs) ∧ RTL X.K F1 H1 ts xs f' ∧ ∀ b ∈ f', H b = none ∧ F1 b = none) (fun Q2 q2 => hit G0 H0 F H σ S Q2 fun v f F' H' e r nn => ?_) (fun a xs H1 ⟨F1, f', e, hA, rl, nn⟩ => ⟨hA, fun J W D nD => ?_⟩)
  · obtain ⟨a, xs, g, rfl, rfl, na, hA, rl⟩ := rt_ls.mp r
    exact q2 a xs H' ⟨F', g, e, hA, rl, fun b hb => nn b (List.mem_cons_of_mem _ hb)⟩
  · obtain ⟨fp, P⟩ := S.sl
    refine lco_run (mv := true) (fl := f') (fp := fp) (f := id) (c := c) hlen hiv hil hN hnm (S.ext e) (P.ext e) W hA rl (fun b hb => ⟨(nn b hb).2, S.h0.none (nn b hb).1⟩) (fun j b hb hf => (P.nw j b hf).2.2.ne (nn b hb).1) (fun t hm => fun G0 H0 F H σ S Q q s H' C cl fp => ht t hm s H' C cl fp G0 H0 F H σ S Q q) (fun t hm _ => he t hm) nD fun v f2 F' H' e2 r2 n2 => ?_
    rw [List.map_id] at r2
    refine q v f2 F' H' (e.tr e2) r2 fun b hb => ⟨?_, (n2 b hb).1⟩
    rcases (n2 b hb).2 with ⟨_, h⟩ | h
    · exact (nn b h).1
    · exact e.h.none h
theorem et_lcm_a (own : List (Str × Nat)) (hlen : ts.length ≤ sizeLine) (hi : X.N[i]? = some n) (hiv : i ∈ own.map (·.2)) (hil : i < Δ.length) (hit : ET X Δ iter (.ls ts)) (hnm : ∀ s H C cl fp, PG (BX X scope s H C cl fp) (.Name n py) (fun v σ H Q => Q (σ.set i (some v)) H)) (ht : ∀ t ∈ ts, ∀ s H C cl fp, TV (BX X scope s H C cl fp) ((wipD Δ (own.map (·.2))).set i (slT t)) cnd (c t)) (he : ∀ t ∈ ts, ∀ s H C cl fp, TurnO (BX X scope s H C cl fp) ((wipD Δ (own.map (·.2))).set i (slT t)) true elt i t t) (hN : X.N.Nodup) (ok : BlkOk X.N X.env.scope scope own) (hc : Rf (X.calm = true)) (hs : Ri (∀ x, foldedSetIterable iter X.env x = pure x)) : ET X Δ (.ListComp elt [⟨.Name n py, iter, [cnd], 0⟩] scope pos) (.ls (ts.filter c)) := et_lcm own hlen hi hiv hil hit hnm ht he hN ok hc.ok hs.ok
theorem lco_tlc (own : List (Str × Nat)) (f : T → T) (hlen : ts.length ≤ sizeLine) (hi : X.N[i]? = some n) (hiv : i ∈ own.map (·.2)) (hil : i < Δ.length) (hit : EP X Δ iter k π) (hΔ : Δ[k]? = some (Sl.w q t)) (hg : T.get π t = some (.ls ts)) (hnm : ∀ s H C cl fp, PG (BX X scope s H C cl fp) (.Name n py) (fun v σ H Q => Q (σ.set i (some v)) H))
    (he : ∀ t ∈ ts, ∀ s H C cl fp, ET (BX X scope s H C cl fp) ((wipD (Δ.set k .u) (own.map (·.2))).set i (slT t)) elt (f t)) (hN : X.N.Nodup) {G0 H0 F H : Hp} {σ : L2.St} (S : Stt X.K G0 H0 F H σ Δ) {Q : VK} (q : ∀ v fl F' H', Ext F H F' H' → RT X.K F' H' (.ls (ts.map f)) v fl → (∀ a ∈ fl, H a = none ∧ F' a = none) → Q v H') :
    tLc (uI X (.Name n py) iter) (fun v σ H Q => ∀ s H' C cl fp, uG (BX X scope s H' C cl fp) (.Name n py) v σ H Q) tYes (fun σ H Q => ∀ s H' C cl fp, uE (BX X scope s H' C cl fp) elt σ H Q) (own.map (·.2)) σ H Q := by
  obtain ⟨fp, P⟩ := S.sl
  refine ui_own (PP := fun a xs H1 => ∃ F1 f', Ext F H F1 H1 ∧ H1 a = some (.lst xs) ∧ RTL X.K F1 H1 ts xs f' ∧ ∀ b ∈ f', b ∈ fp k) (fun Q2 q2 => hit G0 H0 F H σ S Q2 fun y x F' H' e hy pth => ?_) (fun a xs H1 ⟨F1, f', e, hA, rl, nn⟩ => ⟨hA, fun J W D nD => ?_⟩)
  · obtain ⟨y2, e2, r2, _⟩ := (P.ext e).ok k _ _ hΔ hy
    cases e2
    obtain ⟨x2, f3, pth2, r3, sub3, _⟩ := RT.foc π r2 hg
    have ex : x2 = x := pth2.det pth
    subst ex
    obtain ⟨a, xs, g, rfl, rfl, na, hA, rl⟩ := rt_ls.mp r3
    exact q2 a xs H' ⟨F', g, e, hA, rl, fun b hb => sub3 b (List.mem_cons_of_mem _ hb)⟩
  · have P1 := (P.ext e).drop k
    have S1 := (S.ext e).drop (i := k)
    refine lco_run (mv := false) (fl := f') (fp := fset fp k []) (f := f) (c := fun _ => true) hlen hiv (by rw [List.length_set]; exact hil) hN hnm S1 P1 W hA rl (fun b hb => ⟨((P.ext e).nw k b (nn b hb)).1, (P.nw k b (nn b hb)).2.1⟩) (fun j b hb hf => ?_) (fun t hm => fun G0 H0 F H σ S Q q => q F H (Ext.rf S.fh)) (fun t hm _ => fun s H C cl fp => turn_new (he t hm s H C cl fp)) nD fun v f2 F' H' e2 r2 n2 => ?_
    · by_cases z : j = k
      · subst z; rw [fset_same] at hf; cases hf
      · rw [fset_ne z] at hf; exact P.dj j k b z hf (nn b hb)
    · rw [List.filter_eq_self.mpr (fun _ _ => rfl)] at r2
      refine q v f2 F' H' (e.tr e2) r2 fun b hb => ⟨?_, (n2 b hb).1⟩
      rcases (n2 b hb).2 with ⟨h, _⟩ | h
      · cases h
      · exact e.h.none h
/-- [.. for x in a list of one's own], each item a new tree -/
theorem et_lco (own : List (Str × Nat)) (f : T → T) (hlen : ts.length ≤ sizeLine) (hi : X.N[i]? = some n) (hiv : i ∈ own.map (·.2)) (hil : i < Δ.length) (hit : EP X Δ iter k π) (hΔ : Δ[k]? = some (Sl.w q t)) (hg : T.get π t = some (.ls ts)) (hnm : ∀ s H C cl fp, PG (BX X scope s H C cl fp) (.Name n py) (fun v σ H Q => Q (σ.set i (some v)) H))
    (he : ∀ t ∈ ts, ∀ s H C cl fp, ET (BX X scope s H C cl fp) ((wipD (Δ.set k .u) (own.map (·.2))).set i (slT t)) elt (f t)) (hN : X.N.Nodup) (ok : BlkOk X.N X.env.scope scope own) (hc : X.calm = true := by rfl) (hs : ∀ x, foldedSetIterable iter X.env x = pure x := by intro _; rfl) : ET X Δ (.ListComp elt [⟨.Name n py, iter, [], 0⟩] scope pos) (.ls (ts.map f)) := by
  intro G0 H0 F H σ S Q q
  exact eU (pe_lc hc hN pi_u ok (fun _ _ _ _ _ => pg_b) (fun _ _ _ _ _ => pts_nil) (fun _ _ _ _ _ => pe_b) hs) (lco_tlc own f hlen hi hiv hil hit hΔ hg hnm he hN S q)
theorem et_lco_a (own : List (Str × Nat)) (f : T → T) (hlen : ts.length ≤ sizeLine) (hi : X.N[i]? = some n) (hiv : i ∈ own.map (·.2)) (hil : i < Δ.length) (hit : EP X Δ iter k π) (hΔ : Δ[k]? = some (Sl.w q t)) (hg : T.get π t = some (.ls ts)) (hnm : ∀ s H C cl fp, PG (BX X scope s H C cl fp) (.Name n py) (fun v σ H Q => Q (σ.set i (some v)) H)) (he : ∀ t ∈ ts, ∀ s H C cl fp, ET (BX X scope s H C cl fp) ((wipD (Δ.set k .u) (own.map (·.2))).set i (slT t)) elt (f t)) (hN : X.N.Nodup) (ok : BlkOk X.N X.env.scope scope own) (hc : Rf (X.calm = true)) (hs : Ri (∀ x, foldedSetIterable iter X.env x = pure x)) : ET X Δ (.ListComp elt [⟨.Name n py, iter, [], 0⟩] scope pos) (.ls (ts.map f)) := et_lco own f hlen hi hiv hil hit hΔ hg hnm he hN ok hc.ok hs.ok
/-- y = [.. for x in a list of one's own], on one row -/
theorem sm_lco {j : Nat} {y : Str} {py2 : Pos} (hy : X.N[j]? = some y) (hyl : X.env.scope.names.lookup y = some .local) (own : List (Str × Nat)) (f : T → T) (hlen : ts.length ≤ sizeLine) (hi : X.N[i]? = some n) (hiv : i ∈ own.map (·.2)) (hil : i < Δ.length) (hit : EP X Δ iter k π) (hΔ : Δ[k]? = some (Sl.w q t)) (hg : T.get π t = some (.ls ts)) (hnm : ∀ s H C cl fp, PG (BX X scope s H C cl fp) (.Name n py) (fun v σ H Q => Q (σ.set i (some v)) H))
    (he : ∀ t ∈ ts, ∀ s H C cl fp, ET (BX X scope s H C cl fp) ((wipD (Δ.set k .u) (own.map (·.2))).set i (slT t)) elt (f t)) (hN : X.N.Nodup) (kk : C (.nx (Δ.set j (.w none (.ls (ts.map f)))))) (ok : BlkOk X.N X.env.scope scope own) (hsw : swapsWith (.ListComp elt [⟨.Name n py, iter, [], 0⟩] scope pos) (some (.Name y py2)) pos'.line X.env = pure true := by exact sw_true rfl rfl rfl (by decide +kernel)) (hc : X.calm = true := by rfl) (hs : ∀ x, foldedSetIterable iter X.env x = pure x := by intro _; rfl) : Sm X (.Assign [.Name y py2] (.ListComp elt [⟨.Name n py, iter, [], 0⟩] scope pos) pos') Δ C := by
  intro G0 H0 F H σ S D q
  exact sU1 (ps_setLc (i := j) hc hN hy hyl hsw pi_u ok (fun _ _ _ _ _ => pg_b) (fun _ _ _ _ _ => pts_nil) (fun _ _ _ _ _ => pe_b) hs) (lco_tlc own f hlen hi hiv hil hit hΔ hg hnm he hN S (fun v fl F' H' e r n => q _ kk F' H' _ (S.sett e r n)))
theorem sm_lco_a {j : Nat} {y : Str} {py2 : Pos} (hy : X.N[j]? = some y) (hyl : X.env.scope.names.lookup y = some .local) (own : List (Str × Nat)) (f : T → T) (hlen : ts.length ≤ sizeLine) (hi : X.N[i]? = some n) (hiv : i ∈ own.map (·.2)) (hil : i < Δ.length) (hit : EP X Δ iter k π) (hΔ : Δ[k]? = some (Sl.w q t)) (hg : T.get π t = some (.ls ts)) (hnm : ∀ s H C cl fp, PG (BX X scope s H C cl fp) (.Name n py) (fun v σ H Q => Q (σ.set i (some v)) H)) (he : ∀ t ∈ ts, ∀ s H C cl fp, ET (BX X scope s H C cl fp) ((wipD (Δ.set k .u) (own.map (·.2))).set i (slT t)) elt (f t)) (hN : X.N.Nodup) (kk : C (.nx (Δ.set j (.w none (.ls (ts.map f)))))) (ok : BlkOk X.N X.env.scope scope own) (hsw : Rw (swapsWith (.ListComp elt [⟨.Name n py, iter, [], 0⟩] scope pos) (some (.Name y py2)) pos'.line X.env = pure true)) (hc : Rf (X.calm = true)) (hs : Ri (∀ x, foldedSetIterable iter X.env x = pure x)) : Sm X (.Assign [.Name y py2] (.ListComp elt [⟨.Name n py, iter, [], 0⟩] scope pos) pos') Δ C := sm_lco hy hyl own f hlen hi hiv hil hit hΔ hg hnm he hN kk ok hsw.ok hc.ok hs.ok
/-! ### x += a new list of trees; a list's items frozen; a slice only looked at -/
theorem sm_auglT {p1 : Pos} (hN : X.N.Nodup) (hi : X.N[i]? = some n) (hl : Loc X.env.scope n) (hΔ : Δ[i]? = some (Sl.w q (.ls ts))) (h : ET X Δ e (.ls ss)) (hs : ts.length + ss.length ≤ sizeLine) (k : C (.nx (Δ.set i (.w q (.ls (ts ++ ss)))))) (hf : X.fn n = true ∨ X.env.scope.names.lookup n = some .local := by first | exact .inl rfl | exact .inr rfl) :
    Sm X (.AugAssign (.Name n p1) .Add e pos) Δ C := by
  intro G0 H0 F H σ S D qq
  obtain ⟨y, x, f, e1, pth, r, nf, KK⟩ := S.chgP (π := []) hΔ rfl
  have : x = y := pth
  subst this
  obtain ⟨p, vs, g, rfl, rfl, na, hh, l⟩ := rt_ls.mp r
  refine sU1 (ps_aug hN hi hl pe_u (PIp.of op_icat) hf) ⟨.ref p, e1, h G0 H0 F H σ S _ fun v fv F' H' x r2 n2 => ?_⟩
  obtain ⟨b, ws, g2, rfl, rfl, nb, hb, l2⟩ := rt_ls.mp r2
  have h2 : H' p = some (.lst vs) := x.h.k _ _ hh (fun _ z => nomatch z)
  refine ⟨p, b, vs, ws, rfl, rfl, h2, hb, by rw [l.length, l2.length]; exact hs, ?_⟩
  show D.nx (List.set σ i (some (.ref p))) _
  rw [set_id _ e1]
  have nfp := nf p List.mem_cons_self
  have pg2 : p ∉ g2 := fun hm => nfp.2.2.ne (n2 p (List.mem_cons_of_mem _ hm)).1
  have up : ∀ a, a ≠ p → upd H' p (.lst (vs ++ ws)) a = H' a := fun a ha => upd_ne ha
  have ra : ∀ {ts ss : List T} {vs ws : List V} {f g : List Addr} {F H : Hp}, RTL X.K F H ts vs f → RTL X.K F H ss ws g → (∀ a ∈ f, a ∉ g) → RTL X.K F H (ts ++ ss) (vs ++ ws) (f ++ g) := by
    intro ts
    induction ts with
    | nil => intro ss vs ws f g F H a b d; obtain ⟨rfl, rfl⟩ := rtl_nil.mp a; exact b
    | cons t ts ih =>
      intro ss vs ws f g F H a b d
      obtain ⟨v, vs', f1, f2, rfl, rfl, d2, r1, r2⟩ := rtl_cons.mp a
      refine rtl_cons.mpr ⟨v, vs' ++ ws, f1, f2 ++ g, rfl, by rw [List.append_assoc], fun a ha hb => ?_, r1, ih r2 b fun a ha => d a (List.mem_append_right _ ha)⟩
      rcases List.mem_append.mp hb with hb | hb
      · exact d2 a ha hb
      · exact d a (List.mem_append_left _ ha) hb
  have q2 : RTL X.K F' (upd H' p (.lst (vs ++ ws))) (ts ++ ss) (vs ++ ws) (g ++ g2) := by
    refine ra (l.mono x.f _ _ _ fun a ha => ?_) (l2.mono (Sub.rf _) _ _ _ fun a ha => up a fun z => pg2 (z ▸ ha)) fun a ha hb2 => (l.own _ _ _ a ha).ne (n2 a (List.mem_cons_of_mem _ hb2)).1
    rw [up a (fun z => na (z ▸ ha)), sub_eq x.h (l.own _ _ _ a ha)]
  refine qq _ k F' _ σ (KK F' _ (.ls (ts ++ ss)) (p :: (g ++ g2)) x.f (fun c o ho => ?_) x.fr ((GwX.put1 x.h h2 (fun _ z => nomatch z) (fun _ z => nomatch z)).more (fun c hc => by rw [List.mem_singleton] at hc; subst hc; exact List.mem_cons_self)) x.nt (rt_ls.mpr ⟨p, _, _, rfl, rfl, fun hm => (List.mem_append.mp hm).elim na pg2, upd_same, q2⟩) (fun c hc => ?_) (fun c hc => ?_))
  · rw [upd_ne (ne_of_none ho (x.keepN nfp.1 nfp.2.2.ne))]; exact x.fh c o ho
  · rcases List.mem_cons.mp hc with rfl | hc
    · exact .inl List.mem_cons_self
    · rcases List.mem_append.mp hc with hc | hc
      · exact .inl (List.mem_cons_of_mem _ hc)
      · exact .inr (n2 c (List.mem_cons_of_mem _ hc)).1
  · rcases List.mem_cons.mp hc with rfl | hc
    · exact x.keepN nfp.1 nfp.2.2.ne
    · rcases List.mem_append.mp hc with hc | hc
      · exact x.keepN (nf c (List.mem_cons_of_mem _ hc)).1 (nf c (List.mem_cons_of_mem _ hc)).2.2.ne
      · exact (n2 c (List.mem_cons_of_mem _ hc)).2
theorem sm_auglT_a {p1 : Pos} (hN : X.N.Nodup) (hi : X.N[i]? = some n) (hl : Loc X.env.scope n) (hΔ : Δ[i]? = some (Sl.w q (.ls ts))) (h : ET X Δ e (.ls ss)) (hs : ts.length + ss.length ≤ sizeLine) (k : C (.nx (Δ.set i (.w q (.ls (ts ++ ss)))))) (hf : Rl (X.fn n = true ∨ X.env.scope.names.lookup n = some .local)) : Sm X (.AugAssign (.Name n p1) .Add e pos) Δ C := sm_auglT hN hi hl hΔ h hs k hf.ok
theorem Stt.frzI {K : PySem.W.Frag} {G0 H0 F H : Hp} {σ : L2.St} {Δ : List Sl} (S : Stt K G0 H0 F H σ Δ) {i : Nat} {q : Option Addr} {ts : List T} (h : Δ[i]? = some (Sl.w q (.ls ts))) : ∃ F', Sub F F' ∧ Stt K G0 H0 F' H σ (Δ.set i (.w q (T.l (T.dl ts)))) := by
  obtain ⟨fp, P⟩ := S.sl
  obtain ⟨z, e⟩ := len_of S.len h
  obtain ⟨y, rfl, r, k⟩ := P.ok i _ z h e
  obtain ⟨a, vs, f, rfl, hf, na, hh, l⟩ := rt_ls.mp r
  have inf : ∀ b ∈ f, b ∈ fp i := fun b hb => by rw [hf]; exact List.mem_cons_of_mem _ hb
  have sF : Sub F (fun a => if a ∈ f then H a else F a) := fun b o ho => by
    show (if b ∈ f then H b else F b) = some o
    rw [if_neg fun ha => by rw [(P.nw i b (inf b ha)).1] at ho; cases ho]; exact ho
  refine ⟨_, sF, S.g.tr sF, fun b o ho => ?_, S.h0, fun b o ho => ?_, fun b ps ho => ?_, S.tb, by rw [List.length_set]; exact S.len, fset fp i [a], ?_⟩
  · have ho : (if b ∈ f then H b else F b) = some o := ho
    split at ho
    · exact ho
    · exact S.fh b o ho
  · have ho : (if b ∈ f then H b else F b) = some o := ho
    split at ho
    · rename_i ha; exact .inr (P.nw i b (inf b ha)).2.1
    · exact S.fr b o ho
  · have ho : (if b ∈ f then H b else F b) = some (.tbl ps) := ho
    split at ho
    · rename_i ha
      obtain ⟨o, e, n⟩ := (P.nw i b (inf b ha)).2.2
      rw [ho] at e; cases e; exact n ps rfl
    · exact S.nt b ps ho
  · have nn : ∀ j, j ≠ i → ∀ b ∈ fp j, (fun a => if a ∈ f then H a else F a) b = none ∧ H b = H b := fun j hj b hb => by
      refine ⟨?_, rfl⟩
      show (if b ∈ f then H b else F b) = none
      rw [if_neg fun ha => P.dj j i b hj hb (inf b ha)]
      exact (P.nw j b hb).1
    have := P.chg (i := i) (s := .w q (T.l (T.dl ts))) (x := some (.ref a)) (f := [a]) (H' := H) sF nn ⟨.ref a, rfl, rt_l.mpr ⟨a, vs, rfl, rfl, hh, l.r sF _ _ _ fun b hb => if_pos hb⟩, k⟩ (fun b hb => ?_) (fun j hj b hb hf2 => ?_)
    · rwa [set_id _ e] at this
    · rw [List.mem_singleton.mp hb]
      have ai : a ∈ fp i := by rw [hf]; exact List.mem_cons_self
      refine ⟨?_, (P.nw i a ai).2.1, (P.nw i a ai).2.2⟩
      show (if a ∈ f then H a else F a) = none
      rw [if_neg na]; exact (P.nw i a ai).1
    · rw [List.mem_singleton.mp hf2] at hb
      exact P.dj j i a hj hb (by rw [hf]; exact List.mem_cons_self)
theorem bk_frzI {sts : List Stmt} (hΔ : Δ[i]? = some (Sl.w q (.ls ts))) (h : Bk X sts (Δ.set i (.w q (T.l (T.dl ts)))) C) : Bk X sts Δ C := by
  intro G0 H0 F H σ S D qq
  obtain ⟨F', sF, S'⟩ := S.frzI hΔ
  exact h G0 H0 F' H σ S' D qq
/-- a[lo:hi], looked at only -/
theorem ev_sl0 {lo hi : Option Expr} {l u : Option Int} {p2 : Pos} (ha : EV X Δ false a (.lst ds)) (hl : OV X Δ lo l) (hu : OV X Δ hi u) : EV X Δ false (.Subscript a (.Slice lo hi none p2) pos) (.lst (slD ds l u)) := by
  intro G0 H0 F H σ S Q q
  refine eU (pe_slice sl_list pe_u po_u po_u) (ha G0 H0 F H σ S _ fun v F1 H1 e1 r1 => ?_)
  refine hl G0 H0 F1 H1 σ (S.ext e1) _ fun F2 H2 e2 => hu G0 H0 F2 H2 σ (S.ext (e1.tr e2)) _ fun F3 H3 e3 => ?_
  obtain ⟨p, vs, rfl, g, r⟩ := r_lst.mp r1
  have e := e1.tr (e2.tr e3)
  have e23 := e2.tr e3
  have g' : H1 p = some (.lst vs) := g
  have r' : RL X.K H1 ds vs := r
  refine ⟨p, vs, rfl, SqL.of (e23.h.k _ _ g' (fun _ z => nomatch z)), fun n nn => ?_⟩
  refine q (.ref n) F3 _ (e.tr (Ext.grow e.fh (Sub.new nn))) (r_lst.mpr ⟨n, _, rfl, upd_same, RL.cut (RL.mono (Sub.new nn) _ _ (RL.monoN e23.h.k _ _ r')) l u⟩)
/-- a call that might raise, but does not -/
theorem EX.eve {R : XR → Prop} (h : EX X Δ e R) (hx : ∀ C, ¬ R (.ex C)) : EVE X Δ true e (fun d => ∃ r, R (.ok r) ∧ d = dR r) := fun G0 H0 F H σ S Q q =>
  h.evx G0 H0 F H σ S Q (fun d v F' H' r x rr => q d v F' H' r x rr) (fun C F' H' hC _ => absurd hC (hx C))
end
end Z

namespace Z
open PySem PySem.Spec PyProof.Rows L2
variable [τ : Tb]
/-! ### an expression for a slot: what is made may be told of lists of one's own -/
def EMK (X : Cx) (Δ : List Sl) (e : Expr) (i : Nat) (Δ' : List Sl) : Prop :=
  ∀ (G0 H0 F H : Hp) (σ : L2.St), Stt X.K G0 H0 F H σ Δ → ∀ Q : VK, (∀ v F' H', Stt X.K G0 H0 F' H' (σ.set i (some v)) Δ' → Q v H') → uE X e σ H Q
section
variable {X : Cx} {Δ Δ' : List Sl} {e a b c : Expr} {es : List Expr} {pos p : Pos} {n : Str} {k i : Nat} {as : List Arg} {spec : List Sl → D → List Sl → Prop} {t : T} {C : Out → Prop}
theorem sm_setK {p1 : Pos} (hN : X.N.Nodup) (hi : X.N[i]? = some n) (hl : Loc X.env.scope n) (h : EMK X Δ e i Δ') (kk : C (.nx Δ')) (hs : swapsWith e (some (.Name n p1)) pos.line X.env = pure false := by rfl) (hf : X.fn n = true ∨ X.env.scope.names.lookup n = some .local := by first | exact .inl rfl | exact .inr rfl) :
    Sm X (.Assign [.Name n p1] e pos) Δ C := fun G0 H0 F H σ S D q =>
  sU1 (ps_set hN hi hl pe_u hs hf) (h G0 H0 F H σ S _ fun v F' H' S' => q _ kk F' H' _ S')
theorem sm_setK_a {p1 : Pos} (hN : X.N.Nodup) (hi : X.N[i]? = some n) (hl : Loc X.env.scope n) (h : EMK X Δ e i Δ') (kk : C (.nx Δ')) (hs : Rf (swapsWith e (some (.Name n p1)) pos.line X.env = pure false)) (hf : Rl (X.fn n = true ∨ X.env.scope.names.lookup n = some .local)) : Sm X (.Assign [.Name n p1] e pos) Δ C := sm_setK hN hi hl h kk hs.ok hf.ok
theorem emk_if {t : Bool} (h : TV X Δ c t) (h1 : t = true → EMK X Δ a i Δ') (h2 : t = false → EMK X Δ b i Δ') : EMK X Δ (.IfExp c a b pos) i Δ' := by
  intro G0 H0 F H σ S Q q
  refine eU (pe_ifExp pt_u pe_u pe_u) (h G0 H0 F H σ S _ fun F' H' e => ?_)
  cases t with
  | true => rw [if_pos rfl]; exact h1 rfl G0 H0 F' H' σ (S.ext e) Q q
  | false => rw [if_neg Bool.false_ne_true]; exact h2 rfl G0 H0 F' H' σ (S.ext e) Q q
theorem emk_make {CC : Addr} (hil : i < Δ.length) (Fn : FnI X.prog X.w X.K X.mg X.base CX0 CC k spec) (hr : Room (k + 1) X.A) (hg : Gl X n) (hm : X.mg n = some (.ref CC))
    (ha : AM X Δ (e :: es) as) (hni : ∀ t1 t2, Arg.sl i t1 t2 ∉ as) (ok : SlsOk (Δ.set i (.w none (.ob CC []))) as) (nf : ∀ a ∈ as, noFz a) (hs : ∀ ad : Nat → Addr, spec (.w (some (ad i)) (.ob CC []) :: as.map (inA ad)) .non (.w (some (ad i)) t :: as.map (outA ad)))
    (hdb : (n == ("__debug__" : Str)) = false := by decide) (he : starEach (e :: es) X.env = (false, eval e X.env) :: starEach es X.env := by rfl) (hpl : (backTo pos (starEach es X.env)).any (·.1) = false := by rfl) : EMK X Δ (.Call (.Name n p) (e :: es) [] pos) i (upds as (Δ.set i (.w none t))) := by
  intro G0 H0 F H σ S Q q
  obtain ⟨f, fd, ps, F1, M, hb⟩ := Fn.ex
  refine eU (pe_make M F1 hr hg hm hb .nil pass0 pa_u hdb he hpl) (ha G0 H0 F H σ S _ fun vs F' H' x r => fun ax dx nx ndx nex => ?_)
  have S1 := S.ext x
  have s1 : Sub H' (upd H' dx (.own ax)) := Sub.new ndx
  have nax : upd H' dx (.own ax) ax = none := by rw [upd_ne (Ne.symm nex)]; exact nx
  have s2 : Sub (upd H' dx (.own ax)) (upd (upd H' dx (.own ax)) ax (.ins CC dx [])) := Sub.new nax
  have fx : F' ax = none := x.fh.none nx
  have S2 : Stt X.K G0 H0 F' (upd (upd H' dx (.own ax)) ax (.ins CC dx [])) (σ.set i (some (.ref ax))) (Δ.set i (.w none (.ob CC []))) :=
    S1.sett (Ext.grow x.fh (s1.tr s2)) (f := [ax]) (rt_ob.mpr ⟨ax, dx, [], [], rfl, rfl, fun h => (nomatch h), upd_same, rtf_nil.mpr ⟨rfl, rfl⟩⟩) fun a ha => by
      rw [List.mem_singleton] at ha; subst ha; exact ⟨nx, fx⟩
  have hil2 : i < σ.length := by rw [S.len]; exact hil
  have r2 := argsR_set (v0 := .ref ax) hni r
  have ra : ArgsR X.K F' (σ.set i (some (.ref ax))) (.sl i (.ob CC []) t :: as) (.ref ax :: vs) := ⟨.ref ax, vs, rfl, by
    show (σ.set i (some (.ref ax)))[i]? = some (some (.ref ax))
    rw [List.getElem?_set, if_pos rfl, if_pos hil2], r2⟩
  have ok2 : SlsOk (Δ.set i (.w none (.ob CC []))) (.sl i (.ob CC []) t :: as) := ⟨⟨none, by rw [List.getElem?_set, if_pos rfl, if_pos hil]⟩, hni, ok⟩
  have nf2 : ∀ a ∈ (Arg.sl i (.ob CC []) t :: as), noFz a := fun a ha => by
    rcases List.mem_cons.mp ha with rfl | ha
    · exact fun d => nofun
    · exact nf a ha
  obtain ⟨ad, Hc, S3, S4⟩ := stt_call S2 ok2 nf2 ra
  show PrM X.K spec (.ref ax :: (vs ++ [])) _ _ E0
  rw [List.append_nil]
  refine ⟨F', Hc, _, _, _, S3, hs ad, fun v F2 H2 S5 r3 => ⟨r_non.mp r3, ?_⟩⟩
  have S6 := S4 F2 H2 S5
  have eu : upds (.sl i (.ob CC []) t :: as) (Δ.set i (.w none (.ob CC []))) = upds as (Δ.set i (.w none t)) := by
    show upds as (match (Δ.set i (.w none (.ob CC [])))[i]? with | some (.w q _) => (Δ.set i (.w none (.ob CC []))).set i (.w q t) | _ => Δ.set i (.w none (.ob CC []))) = _
    rw [List.getElem?_set, if_pos rfl, if_pos hil]
    show upds as ((Δ.set i (.w none (.ob CC []))).set i (.w none t)) = _
    rw [List.set_set]
  rw [eu] at S6
  exact q _ F2 H2 S6
theorem emk_make_a {CC : Addr} (hil : i < Δ.length) (Fn : FnI X.prog X.w X.K X.mg X.base CX0 CC k spec) (hr : Room (k + 1) X.A) (hg : Gl X n) (hm : X.mg n = some (.ref CC)) (ha : AM X Δ (e :: es) as) (hni : ∀ t1 t2, Arg.sl i t1 t2 ∉ as) (ok : SlsOk (Δ.set i (.w none (.ob CC []))) as) (nf : ∀ a ∈ as, noFz a) (hs : ∀ ad : Nat → Addr, spec (.w (some (ad i)) (.ob CC []) :: as.map (inA ad)) .non (.w (some (ad i)) t :: as.map (outA ad))) (hdb : Rd ((n == ("__debug__" : Str)) = false)) (he : Rf (starEach (e :: es) X.env = (false, eval e X.env) :: starEach es X.env)) (hpl : Rf ((backTo pos (starEach es X.env)).any (·.1) = false)) : EMK X Δ (.Call (.Name n p) (e :: es) [] pos) i (upds as (Δ.set i (.w none t))) := emk_make hil Fn hr hg hm ha hni ok nf hs hdb.ok he.ok hpl.ok
theorem EMK.to {Δ2 : List Sl} (h : EMK X Δ e i Δ') (q : Δ' = Δ2) : EMK X Δ e i Δ2 := q ▸ h
end
end Z

namespace Z
open PySem PySem.Spec PyProof.Rows L2
variable [τ : Tb]
section
variable {X : Cx} {Δ Δ' : List Sl} {m : Bool} {e a b : Expr} {p pos : Pos} {ds xs ys : List D}
/-- list(a tuple) -/
theorem eo_listTu (hg : Gl X "list") (hm : X.mg "list" = none) (ha : EV X Δ true e (.tup ds)) (hs : starEach [e] X.env = (false, eval e X.env) :: starEach [] X.env := by rfl) (hpl : (backTo pos (starEach ([] : List Expr) X.env)).any (·.1) = false := by rfl) : EO X Δ (.Call (.Name "list" p) [e] [] pos) ds :=
  eo_T (m := true) call_list_of hg hm bt_list (av_cons ha av_nil hs) (fun vs F H s rl Q q => by
    obtain ⟨v, rfl, r⟩ := rl1 rl
    obtain ⟨ad, ws, rfl, g, l⟩ := r_tup.mp r
    exact ⟨ad, ws, rfl, .inr (SqT.of (s _ _ g)), fun l2 n2 => q l2 ws F _ (Ext.grow s (Sub.new n2)) n2 upd_same (s.none n2) l⟩) (by decide) (by decide) hs hpl
theorem eo_listTu_a (hg : Gl X "list") (hm : X.mg "list" = none) (ha : EV X Δ true e (.tup ds)) (hs : Rf (starEach [e] X.env = (false, eval e X.env) :: starEach [] X.env)) (hpl : Rf ((backTo pos (starEach ([] : List Expr) X.env)).any (·.1) = false)) : EO X Δ (.Call (.Name "list" p) [e] [] pos) ds := eo_listTu hg hm ha hs.ok hpl.ok
end
end Z

namespace Z
open PySem PySem.Spec PyProof.Rows L2
variable [τ : Tb]
/-! ### sorted(.., key=lambda) over ints -/
/-- what lies anywhere but at p and q is kept -/
def Bt2 (p q : Addr) (g g' : Heap) : Prop := ∀ c, c ≠ p → c ≠ q → ∀ u, g.get? c = some u → g'.get? c = some u
section
variable {M : Program} {w : World} {A : Around} {E : Value → Shared → Prop} {z : Shared} {p q : Addr} {its : List Value} {ka : Array Value} {c0 c1 : Nat} {P : PySem.Fin → Shared → Prop}
theorem srt_tl {t : SortSt} {res : List Value} (hq : z.heap.get? q = some (seqObj "list" ka c0)) (hp : z.heap.get? p = some (seqObj "list" #[] c1)) (ne : q ≠ p) (l1 : ka.size ≤ sizeLine) (l2 : res.length ≤ sizeLine)
    (nf : failedOf t = none) (er : (arrOf t).map (·.2) = res.toArray)
    (k : ∀ g n m, Bt2 p q z.heap g → g.get? p = some (seqObj "list" res.toArray m) → P (.done (.ret .none)) { z with heap := g, toks := n }) :
    wpAny (model M w) A (ksk_tail p false c1 (.ref q) t) P E z := by
  have b1 := Heap.SameBut.update z.heap q (Obj.mapSeq fun _ => (#[] : Array Value))
  have b2 := Heap.SameBut.update (z.heap.update q (Obj.mapSeq fun _ => (#[] : Array Value))) p (Obj.mapSeq fun _ => res.toArray)
  have hp1 := (b1.2 p ne.symm).trans hp
  have hp2 := get?_update_seq hp1 fun _ => res.toArray
  unfold ksk_tail
  (try dsimp only)
  simp only [Bool.false_eq_true, if_false]
  rw [er]
  refine wpAny_bind (listUpdate_at hq rfl ?_ l1 (Nat.zero_le _))
  refine wpAny_bind (wpAny_letGo (wpAny_bind (seqEpoch_at hp1 rfl ?_)))
  refine wpAny_bind (listUpdate_at hp1 rfl ?_ (Nat.zero_le _) (by rw [List.size_toArray]; exact Nat.le_succ_of_le l2))
  rw [nf, bne_self_eq_false]
  exact wpAny_pure (k _ _ _ (fun c n1 n2 u e => (b2.2 c n1).trans ((b1.2 c n2).trans e)) hp2)
open PySem.W (SortsAt sortVals sortVals_length keysOf_zip sort_out KeyedOut dataKind EachIs each_snoc dataLe keyedOut_each AllAlike sorted_of_sort copyHeap copyHeap_at copyHeap_old Sortable) in
/-- the pairs are sorted and laid down again -/
theorem srt_end {κ : PyProof.Rows.KeyKind} (hq : z.heap.get? q = some (seqObj "list" ka c0)) (hp : z.heap.get? p = some (seqObj "list" #[] c1)) (ne : q ≠ p) (sa : SortsAt M w A z κ ka.toList) (l1 : ka.size = its.length) (l2 : its.length ≤ sizeLine)
    (k : ∀ g n m, Bt2 p q z.heap g → g.get? p = some (seqObj "list" (sortVals κ false ka.toList its).toArray m) → P (.done (.ret .none)) { z with heap := g, toks := n }) :
    wpAny (model M w) A (ksk_end p false its.toArray c1 (.ref q) ka) P E z := by
  have kl : ka.toList.length = its.length := (Array.length_toList).trans l1
  obtain ⟨kd, kd1, kd2⟩ := sa.kind
  have ok : PyProof.Rows.KeysOf κ (ka.zip its.toArray) := keysOf_zip sa.keys
  have zl : (ka.zip its.toArray).size = its.length := by rw [Array.size_zip, l1, List.size_toArray]; omega
  have sl : (sortVals κ false ka.toList its).length ≤ sizeLine := by rw [sortVals_length false kl]; exact l2
  have res : ∀ t : SortSt, (arrOf t).Perm (ka.zip its.toArray) → SortedToK κ (arrOf t) (ka.zip its.toArray).size → Stable κ (arrOf t) (ka.zip its.toArray) → (arrOf t).map (·.2) = (sortVals κ false ka.toList its).toArray := fun t x1 x2 x3 => by
    have := sort_out (κ := κ) (rev := false) (xs := arrOf t) (keys := ka) (items := its.toArray) ok x1 x2 x3
    rw [if_neg (by decide)] at this
    rw [← this, Array.toArray_toList]
  unfold ksk_end
  (try dsimp only)
  simp only [Bool.false_eq_true, if_false]
  by_cases few : its.length < 2
  · rw [if_pos (by rw [List.size_toArray]; exact few), if_pos (by rw [List.size_toArray]; exact few)]
    refine wpAny_bind (wpAny_pure ?_)
    rw [StateT.run_pure]
    refine wpAny_bind (wpAny_pure ?_)
    refine srt_tl hq hp ne (by rw [l1]; exact l2) sl rfl (res (SortSt.mk' general' (ka.zip its.toArray) #[] 7 none) (Array.Perm.refl _) (fun i j h1 h2 => ?_) (Stable.refl _)) k
    rw [zl] at h2
    obtain rfl : i = j := by omega
    exact KeyOrd.kle_refl _
  · rw [if_neg (by rw [List.size_toArray]; exact few), if_neg (by rw [List.size_toArray]; exact few)]
    refine wpAny_bind (kd2 (by omega) _ (wpAny_bind (wpAny_mono (H.wpS_sortRunsSt (κ := κ) (kd := kd) (a₀ := ka.zip its.toArray) (st := SortSt.mk' kd (ka.zip its.toArray) #[] 7 none)
      (Q := fun _ t => failedOf t = none ∧ (arrOf t).map (·.2) = (sortVals κ false ka.toList its).toArray) kd1 ok ⟨Array.Perm.refl _, rfl, rfl⟩ rfl (Stable.refl _) (by rw [zl]; omega) fun t x1 x2 x3 x4 => ⟨x2, res t x1 x3 x4⟩) ?_ fun _ _ h => h)))
    rintro ⟨⟨⟩, t⟩ z2 ⟨rfl, nf, er⟩
    exact srt_tl hq hp ne (by rw [l1]; exact l2) sl nf er k
end
section
variable {X : Cx} {pins : List (Addr × Obj)} {σ : L2.St} {H : Hp} {s : Shared} {scope : Scope} {y : Str} {f c' : Addr}
/-- the lambda is called from within a sort -/
theorem lam_startP2 {h₁ : Heap} {tk : Nat} {v : V} {u : Value} (I : Inv X pins σ H s) (L : LamP X.env.scope scope y) (hd : X.A.handled = none) (rv : RelV v u) (ny : ∀ (i : Nat) (w : V), X.N[i]? = some y → σ[i]? = some (some w) → False)
    (hns : h₁.Ns s.heap.objs.size fun z => ([(y, u)] : List (Str × Value)).reverse.lookup z) (kp : ∀ b o, s.heap.get? b = some o → h₁.get? b = some o) :
    Inv (lamCxP X X.A.in1.in1 X.stack s H scope f c' y) [] (σ ++ [some v]) H { s with heap := h₁, toks := tk } := by
  have e0 := I.env0
  have hfree := L.has I.ok
  have cm : ∀ {z c}, (cloFrom X.env.cells scope.names []).lookup z = some c → X.env.cells.lookup z = some c := fun {z c} e => by
    rcases cloFrom_mem (PySem.mem_of_lookup e) with hm | ⟨h1, h2⟩
    · cases hm
    · obtain ⟨c1, hc⟩ := hfree _ h1 rfl
      have hc : X.env.cells.lookup z = some c1 := hc
      rw [hc] at h2 ⊢
      rw [h2] <;> rfl
  have look : ∀ {z}, scope.names.lookup z = some .free → ∃ c, (cloFrom X.env.cells scope.names []).lookup z = some c := fun {z} hl =>
    mem_lookup (cloFrom_has (cells := X.env.cells) (acc := []) (show (z, NameKind.free) ∈ scope.names from PySem.mem_of_lookup hl))
  have cellK : ∀ {c : Addr} {v : Option Value}, s.heap.IsCell c v → h₁.IsCell c v := fun {c v} ⟨o, ho, hd⟩ => ⟨o, kp _ _ ho, hd⟩
  refine ⟨⟨e0.mod, L.kind, rfl, rfl, Nat.le_refl _, fun a b c e1 e2 => I.ok.inj a b c (cm e1) (cm e2), fun z hz => ?_, fun z c q _ => ?_, fun _ => hd, Around.frames_deeper e0.frames, .inr ⟨rfl, rfl⟩, fun b z => (nomatch z), e0.bs, e0.bsz, fun b _ _ z => (nomatch z),
      fun b z => (nomatch z), e0.funs, e0.frf⟩,
    rfl, e0.bare, Un.kept kp, ⟨_, hns, fun i z w e1 e2 e3 => ?_⟩, fun z c e => ?_, e0.hok.fresh (Nat.le_refl _), fun z c e => I.freeC z c (cm e), fun q hq => (nomatch hq), e0.hok.kept kp, ?_⟩
  · have hz : scope.names.lookup z = some .cell ∨ scope.names.lookup z = some .free := hz
    rcases hz with hz | hz
    · exact absurd rfl (L.nc _ (PySem.mem_of_lookup hz))
    · exact look hz
  · have q : false = true := q
    cases q
  · have e1 : (X.N ++ [y])[i]? = some z := e1
    have e3 : Vis scope z := e3
    by_cases hi : i < X.N.length
    · rw [List.getElem?_append_left hi] at e1
      rw [List.getElem?_append_left (by rw [I.len]; exact hi)] at e2
      have zy : z ≠ y := fun q => ny i w (q ▸ e1) e2
      rcases e3 with k | k | k
      · exact absurd (L.one _ (PySem.mem_of_lookup k) rfl) zy
      · exact absurd rfl (L.nc _ (PySem.mem_of_lookup k))
      · obtain ⟨m, hn, hl⟩ := I.loc
        obtain ⟨w', r, q⟩ := hl i z w e1 e2 ((L.free _ (PySem.mem_of_lookup k) rfl).elim (fun k => .inr (.inl k)) fun k => .inr (.inr k))
        obtain ⟨c2, h2⟩ := look k
        refine ⟨w', r, .inr ⟨.inr k, c2, h2, ?_⟩⟩
        have c1 := cm h2
        rcases q with ⟨k', _⟩ | ⟨_, c3, e', q⟩
        · have k' : X.env.scope.names.lookup z = some .local := k'
          rcases L.free _ (PySem.mem_of_lookup k) rfl with k2 | k2 <;> rw [show X.env.scope.names.lookup z = _ from k2] at k' <;> cases k'
        · rw [c1] at e'
          cases e'
          exact cellK q
    · have hl : i = X.N.length := by
        have := (List.getElem?_eq_some_iff.mp e1).1
        rw [List.length_append, List.length_singleton] at this
        omega
      subst hl
      rw [List.getElem?_append_right (Nat.le_refl _), Nat.sub_self] at e1
      rw [List.getElem?_append_right (by rw [I.len]; exact Nat.le_refl _), I.len, Nat.sub_self] at e2
      cases e1; cases e2
      refine ⟨u, rv, .inl ⟨L.par, ?_⟩⟩
      show List.lookup y [(y, u)] = some u
      rw [List.lookup_cons, beq_self_eq_true]
  · obtain ⟨w', q⟩ := I.cell z c (cm e)
    exact ⟨w', cellK q⟩
  · show (σ ++ [some v]).length = (X.N ++ [y]).length
    rw [List.length_append, List.length_append, I.len]
    rfl
/-- the lambda is called with one value -/
theorem lam_callP2 {k : Nat} {params : Arguments} {body : Expr} {pm ctv : Value} {v : V} {u : Value} {Q : VK} {E : Value → Shared → Prop} (I : Inv X pins σ H s) (L : LamP X.env.scope scope y) (hr : Room (k + 3) X.A) (ny : ∀ (i : Nat) (w : V), X.N[i]? = some y → σ[i]? = some (some w) → False)
    (hf : s.heap.get? f = some (lamO X params body scope pm c' ctv)) (hc : H c' = some (LamX.CodeO c' (X.env.qual ++ "<lambda>"))) (rv : RelV v u)
    (hbind : bindArgs (PySem.W.kla_fn "<lambda>" (X.env.qual ++ "<lambda>") params body scope (cloFrom X.env.cells scope.names []) pm (.ref c') ctv) ⟨[u], []⟩ = pure [(y, u)])
    (h : Room k (lamCxP X X.A.in1.in1 X.stack s H scope f c' y).A → uE (lamCxP X X.A.in1.in1 X.stack s H scope f c' y) body (σ ++ [some v]) H Q) :
    wpAny (model X.prog X.w) X.A.in1.in1 (call (.ref f) [u]) (fun u' s' => CE X.stack X.prog X.w H s Q u' s') E s := by
  obtain ⟨⟨oc, vs, t, hoc, hdc, hvc⟩, _, _⟩ := I.hok c' _ hc
  have rc : codeAny (model X.prog X.w) X.A.in1.in1 (.call (.ref f) ⟨[u], []⟩) (fun r s' => match r with | .ok (.ret u') => CE X.stack X.prog X.w H s Q u' s' | _ => False) s := by
    refine PySem.W.kla_callFunE hr.in1.in1.depth hf rfl L.co L.gen rfl ⟨c', oc, vs, t, rfl, hoc, hdc, hvc⟩ ?_
    rw [hbind]
    refine wpAny_pure (wpAny_newFunctionEnv L.nc (fun z hz => by rw [List.mem_singleton.mp hz]; exact L.par) (fun h₁ hns hsb => ⟨I.nolimit.fresh _ hsb, ?_⟩) L.kind)
    have kp : ∀ b o, s.heap.get? b = some o → h₁.get? b = some o := fun b o e => hsb.extBut b o (Nat.ne_of_lt (Heap.lt_size e)) (Heap.get?_push_of_some _ e)
    have J := lam_startP2 (f := f) (c' := c') (tk := s.toks + ([(y, u)] : List (Str × Value)).length) I L hr.hd rv ny hns kp
    refine PySem.W.kla_codeExpr (wpAny_mono ((h (hr.in1.in1.deeper _)).run [] _ J) (fun v s' hq => ?_) fun e s' hq => (hq : False).elim)
    obtain ⟨w', H', J', rv, q⟩ := hq
    exact ⟨w', H', J'.os, J'.bare, J'.base, J'.hok, rv, q⟩
  refine wpAny_call (codeAny_mono rc fun r s' hq => ?_)
  cases r with
  | error e => exact hq.elim
  | ok fl =>
    cases fl with
    | ret u => exact hq
    | next => exact hq.elim
    | brk => exact hq.elim
    | cont => exact hq.elim
end
section
variable {X : Cx} {pins : List (Addr × Obj)} {σ : L2.St} {H : Hp} {s : Shared}
/-- untracked records of ours have turned, counters too -/
theorem inv_ch {ch : List Addr} {g : Heap} {n : Nat} (I : Inv X pins σ H s) (k : ∀ b, b ∉ ch → ∀ o, s.heap.get? b = some o → g.get? b = some o) (hf : ∀ a ∈ ch, FpOk X pins H a) : Inv X pins σ H { s with heap := g, toks := n } := by
  have nit : ∀ b u, H b = some u → b ∉ ch := fun b u e z => by rw [(hf b z).1] at e; cases e
  refine I.step (g' := s.gens) (d' := s.drawn) (ch := ch) (fun b hb => ⟨(hf b hb).2.2.2.1, (hf b hb).2.1, (hf b hb).2.2.2.2.1, (hf b hb).2.2.2.2.2⟩) (fun b o _ _ hc e _ => k b hc o e) (fun b o _ _ hc e _ => ⟨o.slots, k b hc o e⟩) (fun _ _ _ _ n => n)
    (fun b o hc e => ⟨o, k b hc o e⟩) (fun _ _ e => e) (fun _ _ _ e => e) (fun b ps e => ⟨#[], by rw [e]; simp⟩) (fun m hm => ?_) (fun b u e => ?_) I.bare
  · obtain ⟨o, es, ep, ho, r⟩ := hm
    exact ⟨o, es, ep, k _ (fun z => (hf _ z).2.1 rfl) o ho, r⟩
  · refine (I.hok b u e).stay (fun c v hc q => k c ?_ v q) (fun _ q => q) fun _ _ q => q
    rcases hc with z | z
    · rw [z]; exact nit b u e
    · exact nit c _ z
end
def srtK (g : Int → Int) (ns : List Int) : List Int := ns.mergeSort fun a b => decide (g a ≤ g b)
theorem srtK_perm (g : Int → Int) (ns : List Int) : (srtK g ns).Perm ns := List.mergeSort_perm ..
theorem srtK_up (g : Int → Int) (ns : List Int) : (srtK g ns).Pairwise fun a b => g a ≤ g b :=
  (List.pairwise_mergeSort (fun a b c h1 h2 => by simp only [decide_eq_true_eq] at *; omega) (fun a b => by simp only [Bool.or_eq_true, decide_eq_true_eq]; omega) ns).imp fun h => of_decide_eq_true h
theorem vals_each : ∀ {us : List Value} {ns : List Int}, PySem.W.EachIs (fun v n => ∃ t, v = .int n t) us ns → Vals (ns.map V.int) us
  | _, _, .nil => .nil
  | _, _, .cons ⟨t, e⟩ r => .cons ⟨t, e⟩ (vals_each r)
theorem each_vals : ∀ {us : List Value} {ns : List Int}, Vals (ns.map V.int) us → PySem.W.EachIs (fun v n => ∃ t, v = .int n t) us ns
  | [], [], _ => .nil
  | [], _ :: _, h => nomatch h
  | _ :: _, [], h => nomatch h
  | _ :: _, _ :: _, .cons h r => .cons h (each_vals r)
/-- a lambda's own context within a sort -/
abbrev lamCxS (X : Cx) (s : Shared) (H : Hp) (scope : Scope) (f c' : Addr) (y : Str) : Cx := lamCxP X X.A.in1.in1 X.stack s H scope f c' y
section
variable {X : Cx} {Δ : List Sl} {m : Bool} {e : Expr} {pos p kp lpos : Pos} {k : Nat} {ns : List Int} {g : Int → Int} {params : Arguments} {body : Expr} {scope : Scope} {y : Str}
variable {pins : List (Addr × Obj)} {s2 : Shared} {σ : L2.St} {G0 H0 F1 H2 : Hp} {f c' : Addr} {pm ctv : Value} {its : List Value} {wv : List Nat} {Q : VK}
open PySem.W (EachIs SortsAt dataKind AllAlike) in
/-- the list made, sorted in place by the lambda's keys -/
theorem srt_body (I2 : Inv X pins σ H2 s2) (S2 : Stt X.K G0 H0 F1 H2 σ Δ) (hr : Room (k + 3) X.A) (L : LamP X.env.scope scope y) (ny : ∀ i, X.N[i]? = some y → i ∈ wv)
    (hbody : ∀ x ∈ ns, ∀ s H f c', Room k (lamCxS X s H scope f c' y).A → EV (lamCxS X s H scope f c' y) (wipD Δ wv ++ [.v (.int x)]) false body (.int (g x)))
    (hf : s2.heap.get? f = some (lamO X params body scope pm c' ctv)) (hfn : H2 f = none) (hff : f ∉ frs X.stack) (hco : H2 c' = some (LamX.CodeO c' (X.env.qual ++ "<lambda>"))) (hbind : (∀ (q : Str) (cl : List (Str × Addr)) (pm cv ctv u : Value), bindArgs (PySem.W.kla_fn "<lambda>" q params body scope cl pm cv ctv) ⟨[u], []⟩ = pure [(y, u)]))
    (rv : Vals (ns.map V.int) its) (hlen : ns.length ≤ sizeLine) {E' : Value → Shared → Prop} (q : ∀ a F' H', Ext F1 H2 F' H' → H' a = none → Q (.ref a) (upd H' a (.lst ((srtK g ns).map V.int)))) :
    wpAny (model X.prog X.w) X.A.in1.in1 (ksk_tree s2.heap.objs.size (.ref f) false) (fun fl s' => fl = .done (.ret .none) ∧ L2.EP X pins σ Q (.ref s2.heap.objs.size) s') E' { s2 with heap := s2.heap.push (seqObj "list" its.toArray 0) } := by
  have il : its.length = ns.length := by have := rv.length; rw [List.length_map] at this; exact this.symm
  have hiz : its.length ≤ sizeLine := by rw [il]; exact hlen
  have off : ∀ a, s2.heap.objs.size ≤ a → a ∉ frs X.stack := fun a ha z => by
    rcases List.mem_cons.mp (I2.stkSub _ z) with e | e
    · exact absurd I2.lt (by rw [← e]; exact Nat.not_lt.mpr ha)
    · exact I2.nofs ha e
  obtain ⟨a, ea⟩ : ∃ a, a = s2.heap.objs.size := ⟨_, rfl⟩
  obtain ⟨hc, ehc⟩ : ∃ hc, hc = s2.heap.push (seqObj "list" its.toArray 0) := ⟨_, rfl⟩
  rw [← ea, ← ehc]
  have ha : s2.heap.objs.size ≤ a := by rw [ea]; exact Nat.le_refl _
  have h0 : hc.get? a = some (seqObj "list" its.toArray 0) := by rw [ehc, ea]; exact Heap.get?_push_size _ rfl
  have old : ∀ b o, s2.heap.get? b = some o → hc.get? b = some o := fun b o e => by rw [ehc]; exact Heap.get?_push_of_some _ e
  clear ehc
  have hca := get?_update_seq h0 fun _ => (#[] : Array Value)
  have hcb := Heap.SameBut.update hc a (Obj.mapSeq fun _ => (#[] : Array Value))
  have alt : a < hc.objs.size := Heap.lt_size h0
  have hcz : (hc.update a (Obj.mapSeq fun _ => (#[] : Array Value))).objs.size = hc.objs.size := Heap.size_update ..
  obtain ⟨ne1, e1⟩ : ∃ n, (hc.update a (Obj.mapSeq fun _ => (#[] : Array Value))).get? a = some (seqObj "list" #[] n) := ⟨_, hca⟩
  obtain ⟨hd, ehd⟩ : ∃ hd, hc.update a (Obj.mapSeq fun _ => (#[] : Array Value)) = hd := ⟨_, rfl⟩
  rw [ehd] at e1 hcb hcz
  unfold ksk_tree
  refine wpAny_bind (listItems_at h0 rfl ?_)
  refine wpAny_bind (listUpdate_at h0 rfl ?_ (by rw [List.size_toArray]; exact hiz) (Nat.zero_le _))
  try dsimp only
  rw [ehd]
  refine wpAny_bind (seqEpoch_at e1 rfl ?_)
  refine wpAny_bind (wpAny_newTuple ?_ (by show its.length ≤ _; exact hiz))
  refine wpAny_bind (wpAny_newList ?_ (Nat.zero_le _))
  refine wpAny_holding ?_
  obtain ⟨b, eb⟩ : ∃ b, b = (hd.push { cls := .type "tuple", data := .seq its.toArray }).objs.size := ⟨_, rfl⟩
  obtain ⟨h5, eh⟩ : ∃ h5, h5 = (hd.push { cls := .type "tuple", data := .seq its.toArray }).push { cls := .type "list", data := .seq #[] } := ⟨_, rfl⟩
  show wpAny _ _ (ksk_rest a (.ref f) false its.toArray ne1 (.ref (hd.push { cls := .type "tuple", data := .seq its.toArray }).objs.size)) _ _ { s2 with heap := (hd.push { cls := .type "tuple", data := .seq its.toArray }).push { cls := .type "list", data := .seq #[] } }
  rw [← eb, ← eh]
  have hbz : b = hc.objs.size + 1 := by rw [eb, Heap.size_push, hcz]
  have ne : b ≠ a := by omega
  have hb : s2.heap.objs.size ≤ b := by omega
  have old5 : ∀ c o, s2.heap.get? c = some o → h5.get? c = some o := fun c o e => by
    rw [eh]
    exact Heap.get?_push_of_some _ (Heap.get?_push_of_some _ ((hcb.2 c (Nat.ne_of_lt (Nat.lt_of_lt_of_le (Heap.lt_size e) ha))).trans (old c o e)))
  have a5 : h5.get? a = some (seqObj "list" #[] ne1) := by
    rw [eh]
    exact Heap.get?_push_of_some _ (Heap.get?_push_of_some _ e1)
  have b5 : h5.get? b = some (seqObj "list" #[] 0) := by
    rw [eh, eb]
    exact Heap.get?_push_size _ rfl
  clear eh eb hcb hca hcz e1 ehd h0 old alt
  have I5 : Inv X pins σ H2 { s2 with heap := h5 } := I2.kept (t' := s2.toks) old5
  have f5 := old5 _ _ hf
  have an2 : H2 a = none := I2.hok.fresh ha
  have bn2 : H2 b = none := I2.hok.fresh hb
  have fpa : ∀ H', H' a = none → FpOk X pins H' a := fun H' n => I2.fpOk ha n
  have fpb : ∀ H', H' b = none → FpOk X pins H' b := fun H' n => I2.fpOk hb n
  unfold ksk_rest
  refine wpAny_bind (wpAny_rule ?_)
  rw [List.forIn_toArray]
  refine wpAny_bind (ksk_fold (fun i s' => ∃ F' H' kA n, Inv X pins σ H' s' ∧ Ext F1 H2 F' H' ∧ s'.heap.get? f = some (lamO X params body scope pm c' ctv) ∧ H' f = none ∧ s'.heap.get? b = some (seqObj "list" kA n) ∧ H' b = none ∧ s'.heap.get? a = some (seqObj "list" #[] ne1) ∧ H' a = none ∧ EachIs (fun v n => ∃ t, v = .int n t) kA.toList ((ns.map g).take i)) its 0 { s2 with heap := h5 }
    ⟨F1, H2, #[], 0, I5, Ext.rf S2.fh, f5, hfn, b5, bn2, a5, an2, .nil⟩ (fun j x s3 hx hI => ?_) (fun s3 hI => ?_))
  · simp only [Nat.zero_add] at hI ⊢
    obtain ⟨F', H', kA, n, i', x', f', fn', b', bn', a', an', ek⟩ := hI
    have hj : j < its.length := (List.getElem?_eq_some_iff.mp hx).1
    have hjn : j < ns.length := by omega
    have hxs : (ns.map V.int)[j]? = some (V.int (ns[j])) := by rw [List.getElem?_map, List.getElem?_eq_getElem hjn]; rfl
    obtain ⟨u', q1, t, q2⟩ := rv.get hxs
    rw [hx] at q1
    cases q1
    subst q2
    have kl : kA.size = j := by
      have hl := ek.length
      rw [Array.length_toList] at hl
      rw [hl, List.length_take, List.length_map]
      omega
    have T := ((S2.ext x').wip wv).snoc (r_int.mpr rfl : R X.K F' (.int ns[j]) (V.int ns[j]))
    refine wpAny_bind (wpAny_attempt (wpAny_mono (lam_callP2 (E := fun _ _ => False) (v := V.int ns[j]) (Q := fun v H3 => ∃ F3, Ext F' H' F3 H3 ∧ v = V.int (g ns[j])) (i'.weak (wipe_length _ _) fun i v e => (wipe_some e).1) L hr (fun i w e1 e2 => (wipe_some e2).2 (ny i e1)) f' (x'.h.k _ _ hco LamX.codeO_ne) (⟨t, rfl⟩ : RelV (V.int ns[j]) (Value.int ns[j] t)) (hbind _ _ _ _ _ _)
      fun hr' => hbody _ (List.getElem_mem hjn) _ _ _ _ hr' G0 H0 F' H' _ T _ fun v F3 H3 x r => ⟨F3, x, r_int.mp r⟩) (fun u' s4 hce => ?_) fun _ _ z => z.elim))
    obtain ⟨v', H3, os, bare, un, hok', rv', F3, x3, rfl⟩ := hce
    obtain ⟨t', rfl⟩ := rv'
    have keep : ∀ c ob, s3.heap.get? c = some ob → H' c = none → s2.heap.objs.size ≤ c → s4.heap.get? c = some ob ∧ H3 c = none := fun c ob e n hc => ⟨un.keep c ob e n (off c hc) (fun z => nomatch z), un.free c ob e n (fun z => nomatch z)⟩
    obtain ⟨hh, gg, dd, tt, os'⟩ := s4
    obtain rfl : os' = s3.os := os
    have i3 : Inv X pins σ H3 { s3 with heap := hh, gens := gg, drawn := dd, toks := tt } := i'.call (ch := []) un hok' bare (fun b z => nomatch z)
    obtain ⟨a6, an6⟩ := keep _ _ a' an' ha
    obtain ⟨b6, bn6⟩ := keep _ _ b' bn' hb
    have f6 := un.keep f _ f' fn' hff (fun z => nomatch z)
    have fn6 := un.free f _ f' fn' (fun z => nomatch z)
    (try dsimp only at a6 b6 f6)
    have nfb : f ≠ b := Nat.ne_of_lt (Nat.lt_of_lt_of_le (Heap.lt_size hf) hb)
    (try dsimp only)
    refine wpAny_bind (listUpdate_at b6 rfl ?_ (by omega) (by rw [Array.size_push]; omega))
    have sb := Heap.SameBut.update hh b (Obj.mapSeq (·.push (Value.int (g ns[j]) t')))
    refine wpAny_pure ⟨rfl, F3, H3, kA.push (Value.int (g ns[j]) t'), _, inv_ch (ch := [b]) i3 (fun c hc o e => (sb.2 c (fun z => hc (by rw [z]; exact List.mem_singleton_self _))).trans e) (fun c hc => by rw [List.mem_singleton.mp hc]; exact fpb _ bn6), x'.tr x3, (sb.2 f nfb).trans f6, fn6, get?_update_seq b6 (·.push (Value.int (g ns[j]) t')), bn6, (sb.2 a ne.symm).trans a6, an6, ?_⟩
    have et : (ns.map g).take (j + 1) = (ns.map g).take j ++ [g ns[j]] := by rw [List.take_add_one, List.getElem?_map, List.getElem?_eq_getElem hjn]; rfl
    rw [et, Array.toList_push]
    exact PySem.W.each_snoc (R := fun v n => ∃ t, v = Value.int n t) ⟨t', rfl⟩ ek
  · simp only [Nat.zero_add] at hI
    obtain ⟨F', H', kA, n, i', x', f', fn', b', bn', a', an', ek⟩ := hI
    rw [List.take_of_length_le (by rw [List.length_map, il]; exact Nat.le_refl _)] at ek
    have kl : kA.size = its.length := by
      have hl := ek.length
      rw [Array.length_toList] at hl
      rw [hl, List.length_map, il]
    have hk : EachIs (fun v d => ∃ as, Reads s3.heap v d as) kA.toList ((ns.map g).map PyData.int) := PySem.W.each_map (R := fun v d => ∃ as, Reads s3.heap v d as) PyData.int (ek.mono fun v n h => by
      obtain ⟨t, rfl⟩ := h
      exact ⟨[], .int n t⟩)
    have hal : AllAlike ((ns.map g).map PyData.int) := PySem.W.AllAlike.of fun _ _ => rfl
    have hso := PySem.W.Sortable.others (enc := PyData.int) (bs := ns.map g) fun b => ⟨fun z => (nomatch z), fun _ z => (nomatch z)⟩
    (try dsimp only)
    refine wpAny_bind (listItems_at b' rfl ?_)
    refine srt_end (κ := dataKind s3.heap ((ns.map g).map PyData.int)) b' a' ne (SortsAt.data hk hal hso fun d hd => ?_) kl hiz fun hF n2 m2 bt eF => ⟨rfl, ?_⟩
    · obtain ⟨x, _, rfl⟩ := List.mem_map.mp hd
      exact hr.in1.in1.units0
    · obtain ⟨out, eo⟩ : ∃ out, out = PySem.W.sortVals (dataKind s3.heap ((ns.map g).map PyData.int)) false kA.toList its := ⟨_, rfl⟩
      rw [← eo] at eF
      have ko : PySem.W.KeyedOut false (ns.map fun x => PyData.int (g x)) its out := by
        have := (⟨s3.heap, kA.toList, hal, eo, hk⟩ : PySem.W.KeyedOut false ((ns.map g).map PyData.int) its out)
        rw [List.map_map] at this; exact this
      have eo2 := PySem.W.keyedOut_each _ ko (each_vals rv)
      rw [PySem.W.dataLe_int g] at eo2
      have rvo : Vals ((srtK g ns).map V.int) out := vals_each eo2
      have i3 := inv_ch (ch := [a, b]) (g := hF) (n := n2) i' (fun c hc o e => bt c (fun z => hc (by rw [z]; exact List.mem_cons_self)) (fun z => hc (by rw [z]; exact List.mem_cons_of_mem _ (List.mem_singleton_self _))) o e) (fun c hc => by
        rcases List.mem_cons.mp hc with rfl | hc
        · exact fpa _ an'
        · rw [List.mem_singleton.mp hc]; exact fpb _ bn')
      have ok : ObjOk X.prog X.w (upd H' a (.lst ((srtK g ns).map V.int))) hF a (.lst ((srtK g ns).map V.int)) := ⟨by rw [List.length_map, (srtK_perm g ns).length_eq]; exact hlen, out, m2, rvo, eF⟩
      have i4 := i3.take (h' := hF) (t' := n2) (it := a) (fun _ _ _ e => e) (fpa _ an') ok
      exact ⟨.ref a, _, i4, rfl, q a F' H' x' an'⟩
/-- sorted(u, key=lambda) where u's items come as ints -/
theorem srt_call {u : Value} (I2 : Inv X pins σ H2 s2) (S2 : Stt X.K G0 H0 F1 H2 σ Δ) (hr : Room (k + 3) X.A) (L : LamP X.env.scope scope y) (ny : ∀ i, X.N[i]? = some y → i ∈ wv)
    (hbody : ∀ x ∈ ns, ∀ s H f c', Room k (lamCxS X s H scope f c' y).A → EV (lamCxS X s H scope f c' y) (wipD Δ wv ++ [.v (.int x)]) false body (.int (g x)))
    (hf : s2.heap.get? f = some (lamO X params body scope pm c' ctv)) (hfn : H2 f = none) (hff : f ∉ frs X.stack) (hco : H2 c' = some (LamX.CodeO c' (X.env.qual ++ "<lambda>"))) (hbind : (∀ (q : Str) (cl : List (Str × Addr)) (pm cv ctv u : Value), bindArgs (PySem.W.kla_fn "<lambda>" q params body scope cl pm cv ctv) ⟨[u], []⟩ = pure [(y, u)]))
    (hlen : ns.length ≤ sizeLine) (q : ∀ a F' H', Ext F1 H2 F' H' → H' a = none → Q (.ref a) (upd H' a (.lst ((srtK g ns).map V.int))))
    (hcol : ∀ (Q' : List Value → Shared → Prop), (∀ hp n vs, (∀ b o, s2.heap.get? b = some o → hp.get? b = some o) → Vals (ns.map V.int) vs → Q' vs { s2 with heap := hp, toks := n }) → wpAny (model X.prog X.w) X.A.in1 (collect u) Q' X.xe s2) :
    wpAny (model X.prog X.w) X.A (call (.builtin "sorted") [u] [(Str.ofString "key", Value.ref f)]) (L2.EP X pins σ Q) X.xe s2 := by
  refine call_function_entry_kw kind_sorted plain_sorted entry_sorted (ksk_s1 _ _) ?_
  unfold Builtin.«sorted»
  refine wpAny_bind (m := checkCount "sorted" 1 1 _) (wpAny_pure (wpAny_bind (hcol _ fun hp n vs kp rv => ?_)))
  have lv : vs.length ≤ sizeLine := by have := rv.length; rw [List.length_map] at this; omega
  refine wpAny_bind (wpAny_newList (wpAny_bind (wpAny_holding (wpAny_call_entry_kw PySem.F.slot_list_sort ⟨_, Heap.get?_push_size _ rfl, rfl⟩ PySem.F.entry_list_sort ?_ (ksk_l1 _ _)))) lv)
  rw [ksk_t1]
  refine wpAny_mono (srt_body (s2 := { s2 with heap := hp, toks := n }) (I2.kept (t' := n) kp) S2 hr L ny hbody (kp _ _ hf) hfn hff hco hbind rv hlen q) (fun fl s' h => ?_) fun _ _ h => h
  obtain ⟨rfl, h⟩ := h
  exact ⟨_, rfl, wpAny_pure ⟨_, rfl, h⟩⟩
/-- sorted(e, key=lambda y: body), e's items ints, the keys too -/
theorem eo_srtK (hg : Gl X "sorted") (hm : X.mg "sorted" = none) (tk : TabK X.base X.mg X.env.code (X.env.qual ++ "<lambda>")) (hr : Room (k + 3) X.A) (he : EV X Δ false e (.lst (ns.map D.int))) (hlen : Sd (ns.length ≤ sizeLine)) (L : LamP X.env.scope scope y) (wv : List Nat) (ny : ∀ i, X.N[i]? = some y → i ∈ wv)
    (hbody : ∀ x ∈ ns, ∀ s H f c', Room k (lamCxS X s H scope f c' y).A → EV (lamCxS X s H scope f c' y) (wipD Δ wv ++ [.v (.int x)]) false body (.int (g x)))
    (hs : starEach [e] X.env = (false, eval e X.env) :: starEach [] X.env := by rfl) (hdef : defaultsOf params X.env = ([], []) := by rfl) (hbind : (∀ (q : Str) (cl : List (Str × Addr)) (pm cv ctv u : Value), bindArgs (PySem.W.kla_fn "<lambda>" q params body scope cl pm cv ctv) ⟨[u], []⟩ = pure [(y, u)]) := by intros; rfl) :
    EO X Δ (.Call (.Name "sorted" p) [e] [⟨some "key", .Lambda params body scope lpos, kp⟩] pos) ((srtK g ns).map D.int) := by
  intro G0 H0 F H σ S Q q
  obtain ⟨c, P, hcode, TB, hmT, hu⟩ := tk.ex
  refine ⟨fun pins s I => wpAny_Call_Name_kw (ld_blt I hg hm boot_sorted (callWith_kw ?_ (by rw [hs]; rfl) (by rw [hs]; rfl)))⟩
  rw [hs]
  refine Calls.spliced_cons (thn ((he G0 H0 F H σ S (fun v H1 => ∃ F1, Ext F H F1 H1 ∧ R X.K H1 (.lst (ns.map D.int)) v) fun v F1 H1 x r => ⟨F1, x, r⟩).run pins s I)
    fun u s1 ⟨v, H1, I1, r1, F1, x1, r⟩ => Calls.spliced_nil (kws_cons (lam_mk I1 TB hcode hmT hu (S.ext x1).tb hdef (L.has I1.ok) fun f c' pm ctv H2 s2 I2 gr hf hfn hff hco _ => kws_nil ?_)))
  obtain ⟨l, vs, rfl, hl, rl⟩ := r_lst.mp r
  obtain rfl : u = .ref l := r1
  have S1 := S.ext x1
  have x2 : Ext F1 H1 F1 H2 := Ext.growG x1.fh S1.nt gr
  have S2 := S1.ext x2
  have ev := rl.ints
  subst ev
  have hl2 : H2 l = some (.lst (ns.map V.int)) := gr.k _ _ hl fun _ z => nomatch z
  obtain ⟨its, rv, p', hz⟩ := I2.list (SqL.of hl2)
  have hz2 : its.length ≤ sizeLine := by have := rv.length; rw [List.length_map] at this; have := hlen.ok; omega
  show wpAny _ _ (call (.builtin "sorted") [.ref l] [(Str.ofString "key", Value.ref f)]) _ _ _
  refine srt_call (Q := Q) I2 S2 hr L ny hbody hf hfn hff hco hbind hlen.ok (fun a F' H' x' an' => ?_) fun Q' k' => ?_
  · have x4 : Ext F' H' F' (upd H' a (.lst ((srtK g ns).map V.int))) := Ext.grow x'.fh (Sub.new an')
    exact q a _ F' _ (x1.tr (x2.tr (x'.tr x4))) (x1.h.none (x2.h.none (x'.h.none an'))) upd_same (x'.fh.none an') RL.of_ints
  · refine collect_list p'.isList ?_ hz2
    refine k' _ _ _ (fun b o e => ?_) rv
    have sb := Heap.SameBut.update (s2.heap.push (seqObj "list" #[] 0)) s2.heap.objs.size (Obj.mapSeq (· ++ its.toArray))
    exact (sb.2 b (Nat.ne_of_lt (Heap.lt_size e))).trans (Heap.get?_push_of_some _ e)
theorem eo_srtK_a (hg : Gl X "sorted") (hm : X.mg "sorted" = none) (tk : TabK X.base X.mg X.env.code (X.env.qual ++ "<lambda>")) (hr : Room (k + 3) X.A) (he : EV X Δ false e (.lst (ns.map D.int))) (hlen : Sd (ns.length ≤ sizeLine)) (L : LamP X.env.scope scope y) (wv : List Nat) (ny : ∀ i, X.N[i]? = some y → i ∈ wv) (hbody : ∀ x ∈ ns, ∀ s H f c', Room k (lamCxS X s H scope f c' y).A → EV (lamCxS X s H scope f c' y) (wipD Δ wv ++ [.v (.int x)]) false body (.int (g x))) (hs : Rf (starEach [e] X.env = (false, eval e X.env) :: starEach [] X.env)) (hdef : Rf (defaultsOf params X.env = ([], []))) (hbind : Ri ((∀ (q : Str) (cl : List (Str × Addr)) (pm cv ctv u : Value), bindArgs (PySem.W.kla_fn "<lambda>" q params body scope cl pm cv ctv) ⟨[u], []⟩ = pure [(y, u)]))) : EO X Δ (.Call (.Name "sorted" p) [e] [⟨some "key", .Lambda params body scope lpos, kp⟩] pos) ((srtK g ns).map D.int) := eo_srtK hg hm tk hr he hlen L wv ny hbody hs.ok hdef.ok hbind.ok
/-- range(a): a record of its own -/
theorem rng_mk {a : Expr} {p2 pos2 : Pos} {n : Int} {Q1 : Hp → Prop} {s : Shared} {H : Hp} (I : Inv X pins σ H s) (hg : Gl X "range") (hm : X.mg "range" = none) (h : uE X a σ H fun x H1 => x = V.int n ∧ Q1 H1) (na : starEach [a] X.env = (false, eval a X.env) :: starEach [] X.env) :
    wpAny (model X.prog X.w) X.A (eval (.Call (.Name "range" p2) [a] [] pos2) X.env) (fun x s' => ∃ r t u v H', x = .ref r ∧ IsRange s'.heap r 0 n 1 t u v ∧ H' r = none ∧ Inv X pins σ H' s' ∧ Q1 H') X.xe s := by
  refine Call_ (ld_blt I hg hm boot_range (PyProof.Rows.callWith_type1 (one_arg (pe_u (X := X) (e := a)) I h (fun v s2 x H2 I2 r q => ?_) na) na))
  obtain ⟨rfl, q⟩ := q
  obtain ⟨t, rfl⟩ := r
  exact call_range_1 ⟨_, _, _, _, H2, rfl, IsRange.new _ _ _ _ _ _ _, I2.hok.fresh (Nat.le_refl _), I2.kept fun b u e => Heap.get?_push_of_some _ e, q⟩
/-- sorted(range(a), key=lambda y: body), the keys ints -/
theorem eo_srtKr {a : Expr} {p2 pos2 : Pos} {n : Nat} (hg : Gl X "sorted") (hm : X.mg "sorted" = none) (hg2 : Gl X "range") (hm2 : X.mg "range" = none) (tk : TabK X.base X.mg X.env.code (X.env.qual ++ "<lambda>")) (hr : Room (k + 3) X.A) (he : EV X Δ false a (.int (n : Int))) (hlen : n ≤ 1000000) (L : LamP X.env.scope scope y) (wv : List Nat) (ny : ∀ i, X.N[i]? = some y → i ∈ wv)
    (hbody : ∀ x ∈ (List.range n).map (fun i : Nat => (i : Int)), ∀ s H f c', Room k (lamCxS X s H scope f c' y).A → EV (lamCxS X s H scope f c' y) (wipD Δ wv ++ [.v (.int x)]) false body (.int (g x)))
    (hs : starEach [a] X.env = (false, eval a X.env) :: starEach [] X.env := by rfl) (hs2 : starEach [.Call (.Name "range" p2) [a] [] pos2] X.env = (false, eval (.Call (.Name "range" p2) [a] [] pos2) X.env) :: starEach [] X.env := by rfl) (hdef : defaultsOf params X.env = ([], []) := by rfl)
    (hbind : ∀ (q : Str) (cl : List (Str × Addr)) (pm cv ctv u : Value), bindArgs (PySem.W.kla_fn "<lambda>" q params body scope cl pm cv ctv) ⟨[u], []⟩ = pure [(y, u)] := by intros; rfl) :
    EO X Δ (.Call (.Name "sorted" p) [.Call (.Name "range" p2) [a] [] pos2] [⟨some "key", .Lambda params body scope lpos, kp⟩] pos) ((srtK g ((List.range n).map fun i : Nat => (i : Int))).map D.int) := by
  intro G0 H0 F H σ S Q q
  obtain ⟨c, P, hcode, TB, hmT, hu⟩ := tk.ex
  refine ⟨fun pins s I => wpAny_Call_Name_kw (ld_blt I hg hm boot_sorted (callWith_kw ?_ (by rw [hs2]; rfl) (by rw [hs2]; rfl)))⟩
  rw [hs2]
  refine Calls.spliced_cons (thn (rng_mk I hg2 hm2 (Q1 := fun H1 => ∃ F1, Ext F H F1 H1) (he G0 H0 F H σ S _ fun v F1 H1 x r => ⟨r_int.mp r, F1, x⟩) hs)
    fun u s1 ⟨r, t, uu, v, H1, eu, ir, rn, I1, F1, x1⟩ => Calls.spliced_nil (kws_cons (lam_mk I1 TB hcode hmT hu (S.ext x1).tb hdef (L.has I1.ok) fun f c' pm ctv H2 s2 I2 gr hf hfn hff hco keep => kws_nil ?_)))
  subst eu
  have S1 := S.ext x1
  have x2 : Ext F1 H1 F1 H2 := Ext.growG x1.fh S1.nt gr
  have S2 := S1.ext x2
  have ir2 : IsRange s2.heap r 0 (n : Int) 1 t uu v := keep _ _ ir rn
  show wpAny _ _ (call (.builtin "sorted") [.ref r] [(Str.ofString "key", Value.ref f)]) _ _ _
  refine srt_call (Q := Q) I2 S2 hr L ny hbody hf hfn hff hco hbind (by rw [List.length_map, List.length_range, sizeLine_eq]; omega) (fun a F' H' x' an' => ?_) fun Q' k' => ?_
  · have x4 : Ext F' H' F' (upd H' a (.lst ((srtK g ((List.range n).map fun i : Nat => (i : Int))).map V.int))) := Ext.grow x'.fh (Sub.new an')
    exact q a _ F' _ (x1.tr (x2.tr (x'.tr x4))) (x1.h.none (x2.h.none (x'.h.none an'))) upd_same (x'.fh.none an') RL.of_ints
  · refine collect_range (n := n) (show X.A.in1.handled = none from hr.hd) ir2 (small_one (by omega) (by omega) (by omega) (by omega)) (by rw [rangeSize_nat]; omega) (by omega) fun hp tk2 acc hk hi => ?_
    refine k' _ _ _ hk ?_
    have e : rgV 0 (n : Int) = ((List.range n).map fun i : Nat => (i : Int)).map V.int := by
      unfold rgV
      rw [List.map_map, show ((n : Int) - 0).toNat = n by omega]
      apply List.map_congr_left
      intro i _
      show V.int (0 + (i : Int)) = V.int (i : Int)
      rw [Int.zero_add]
    rw [← e]
    exact vals_rg (by rw [show ((n : Int) - 0).toNat = n by omega]; exact hi)
theorem eo_srtKr_a {a : Expr} {p2 pos2 : Pos} {n : Nat} (hg : Gl X "sorted") (hm : X.mg "sorted" = none) (hg2 : Gl X "range") (hm2 : X.mg "range" = none) (tk : TabK X.base X.mg X.env.code (X.env.qual ++ "<lambda>")) (hr : Room (k + 3) X.A) (he : EV X Δ false a (.int (n : Int))) (hlen : n ≤ 1000000) (L : LamP X.env.scope scope y) (wv : List Nat) (ny : ∀ i, X.N[i]? = some y → i ∈ wv) (hbody : ∀ x ∈ (List.range n).map (fun i : Nat => (i : Int)), ∀ s H f c', Room k (lamCxS X s H scope f c' y).A → EV (lamCxS X s H scope f c' y) (wipD Δ wv ++ [.v (.int x)]) false body (.int (g x))) (hs : Rf (starEach [a] X.env = (false, eval a X.env) :: starEach [] X.env)) (hs2 : Rf (starEach [.Call (.Name "range" p2) [a] [] pos2] X.env = (false, eval (.Call (.Name "range" p2) [a] [] pos2) X.env) :: starEach [] X.env)) (hdef : Rf (defaultsOf params X.env = ([], []))) (hbind : Ri (∀ (q : Str) (cl : List (Str × Addr)) (pm cv ctv u : Value), bindArgs (PySem.W.kla_fn "<lambda>" q params body scope cl pm cv ctv) ⟨[u], []⟩ = pure [(y, u)])) : EO X Δ (.Call (.Name "sorted" p) [.Call (.Name "range" p2) [a] [] pos2] [⟨some "key", .Lambda params body scope lpos, kp⟩] pos) ((srtK g ((List.range n).map fun i : Nat => (i : Int))).map D.int) := eo_srtKr hg hm hg2 hm2 tk hr he hlen L wv ny hbody hs.ok hs2.ok hdef.ok hbind.ok
end
end Z

namespace Z
open PySem PySem.Spec PyProof.Rows L2
variable [τ : Tb]
section
variable {X : Cx} {Δ Δ' : List Sl} {m : Bool} {e a b : Expr} {p pos : Pos} {ds xs ys : List D}
/-- % by any number but nought -/
theorem ev_modN {i j : Int} (ha : EV X Δ false a (.int i)) (hb : EV X Δ false b (.int j)) (hc : j ≠ 0) : EV X Δ m (.BinOp a .Mod b pos) (.int (i.fmod j)) := ev_opI op_modN ha hb hc
/-- an item of a tuple told in part -/
theorem ev_ixtE {R1 : D → Prop} {d : D} {i : Int} (ha : EVE X Δ m a R1) (hb : EV X Δ false b (.int i)) (h : ∀ d0, R1 d0 → ∃ ds, d0 = .tup ds ∧ atI ds i = some d) (hs : PlainIx b := by exact fun _ _ => rfl) : EV X Δ m (.Subscript a b pos) d := by
  intro G0 H0 F H σ S Q q
  refine eU (pe_ix ix_tup pe_u pe_u hs) ?_
  refine ha G0 H0 F H σ S _ fun d0 v F1 H1 h0 x1 r1 => ?_
  refine hb G0 H0 F1 H1 σ (S.ext x1) _ fun w F2 H2 x2 r2 => ?_
  obtain ⟨ds, rfl, at_⟩ := h d0 h0
  obtain ⟨p, vs, rfl, g, l⟩ := r_tup.mp (r1.up x2)
  obtain ⟨u, e1, e2⟩ := l.at at_
  exact ⟨p, vs, i, u, rfl, r_int.mp r2, SqT.of (sel_h x2.fh _ _ g), e1, q _ F2 H2 (x1.tr x2) e2⟩
theorem ev_ixtE_a {R1 : D → Prop} {d : D} {i : Int} (ha : EVE X Δ m a R1) (hb : EV X Δ false b (.int i)) (h : ∀ d0, R1 d0 → ∃ ds, d0 = .tup ds ∧ atI ds i = some d) (hs : Rx (PlainIx b)) : EV X Δ m (.Subscript a b pos) d := ev_ixtE ha hb h hs.ok
/-- x, y = a, b with two local names -/
theorem sm_par {C : Out → Prop} {i j : Nat} {x y : Str} {d1 d2 : D} {px py pt pt2 : Pos} {kt k2 : Nat} (hN : X.N.Nodup) (hi : X.N[i]? = some x) (hj : X.N[j]? = some y) (hij : i ≠ j) (ha : AV X Δ true [a, b] [d1, d2]) (k : C (.nx ((Δ.set i (.v d1)).set j (.v d2)))) (hc : X.calm = true := by rfl)
    (hx : X.env.scope.names.lookup x = some .local := by rfl) (hy : X.env.scope.names.lookup y = some .local := by rfl) (hw : swappedStores [.Tuple [.Name x px, .Name y py] kt pt] (.Tuple [a, b] k2 pt2) X.env = pure (some [x, y]) := by rfl)
    (hs : swapsWithSole [.Tuple [.Name x px, .Name y py] kt pt] (.Tuple [a, b] k2 pt2) pos.line X.env = pure false := by rfl) : Sm X (.Assign [.Tuple [.Name x px, .Name y py] kt pt] (.Tuple [a, b] k2 pt2) pos) Δ C := fun G0 H0 F H σ S D q =>
  sU1 (ps_par hc hN hi hj hij hx hy pa_u hw hs) (ha G0 H0 F H σ S _ fun vs F' H' e rl => by
    obtain ⟨v, vs1, rfl, r1, rl1⟩ := rl_cons.mp rl
    obtain ⟨w, vs2, rfl, r2, rl2⟩ := rl_cons.mp rl1
    obtain rfl := rl_nil.mp rl2
    exact ⟨v, w, rfl, q _ k F' H' _ (((S.ext e).setv r1).setv r2)⟩)
theorem sm_par_a {C : Out → Prop} {i j : Nat} {x y : Str} {d1 d2 : D} {px py pt pt2 : Pos} {kt k2 : Nat} (hN : X.N.Nodup) (hi : X.N[i]? = some x) (hj : X.N[j]? = some y) (hij : i ≠ j) (ha : AV X Δ true [a, b] [d1, d2]) (k : C (.nx ((Δ.set i (.v d1)).set j (.v d2)))) (hc : Rf (X.calm = true)) (hx : Rf (X.env.scope.names.lookup x = some .local)) (hy : Rf (X.env.scope.names.lookup y = some .local)) (hw : Rf (swappedStores [.Tuple [.Name x px, .Name y py] kt pt] (.Tuple [a, b] k2 pt2) X.env = pure (some [x, y]))) (hs : Rf (swapsWithSole [.Tuple [.Name x px, .Name y py] kt pt] (.Tuple [a, b] k2 pt2) pos.line X.env = pure false)) : Sm X (.Assign [.Tuple [.Name x px, .Name y py] kt pt] (.Tuple [a, b] k2 pt2) pos) Δ C := sm_par hN hi hj hij ha k hc.ok hx.ok hy.ok hw.ok hs.ok
end
theorem fmod_small {a b : Int} (hb : b ≠ 0) : (a.fmod b).natAbs < b.natAbs := by
  rw [Int.fmod_eq_emod]
  have h1 := Int.emod_nonneg a hb
  have h2 := Int.emod_lt a hb
  split
  · omega
  · rename_i h
    have : a % b ≠ 0 := fun e => h (.inr (Int.dvd_of_emod_eq_zero e))
    omega
end Z

namespace Z
open PySem PySem.Spec PyProof.Rows L2
variable [τ : Tb]
/-! ### defs that are handed the exception that is caught -/
section
variable {CX : CXT} {P : Program} {w : World} {K : PySem.W.Frag} {mg : Str → Option Value} {base : Heap}
/-- what such a def promises; p is the exception, pinned -/
structure FnOkP (P : Program) (w : World) (K : PySem.W.Frag) (mg : Str → Option Value) (base : Heap) (CX : CXT) (k : Nat) (f : Addr) (fd : FuncData) (ps : List Str) (sp : Addr × Obj → Sp) : Prop where
  len : ∀ p vs H Q E, sp p vs H Q E → vs.length = ps.length
  run : ∀ (A : Around) (outer : List Env) (s : Shared) (H : Hp) (args : Args) (us : List Value) (vs : List V) (Q : VK) (E : XK) (p : Addr × Obj), L2H.RoomH k A → L2H.PinOk outer H s p → Env0 P w K mg base A outer s H → BindsTo s fd args (ps.zip us) → Vals vs us → sp p vs H Q E →
    codeAny (model P w) A (.call (.ref f) args) (CR CX outer P w H s Q E) s
theorem fn_ofP {k : Nat} {f : Addr} {name qual : Str} {params : Arguments} {body : List Stmt} {scope : Scope} {dV kV doc pm cdv ct oc : Value} {an od : Option Addr}
    {osl : Array (Option Value)} {N ps : List Str} {sp : Addr × Obj → Sp} (lk : K.lookup f = some ⟨oc, od, .func (PySem.W.fnOf name qual params body scope dV kV doc pm an cdv ct), osl⟩) (hcd : PySem.W.codeIn K cdv qual = true) (S : FnScope N ps scope)
    (len : ∀ p vs H Q E, sp p vs H Q E → vs.length = ps.length)
    (hbody : ∀ (A : Around) (outer : List Env) (s : Shared) (H : Hp) (vs : List V) (Q : VK) (E : XK) (p : Addr × Obj), L2H.RoomH k (A.deeper (envOfC qual scope s.heap.objs.size f cdv)) → sp p vs H Q E →
      ∃ t, PSs (L2H.cxH CX P w K mg base N qual scope f cdv A outer s H E p) body t ∧ t { nx := fun _ H' => Q .non H', rt := Q } (L2.start N vs) H) :
    FnOkP P w K mg base CX (k + 1) f (PySem.W.fnOf name qual params body scope dV kV doc pm an cdv ct) ps sp := by
  refine ⟨len, fun A outer s H args us vs Q E p hr hpin e0 hb r hsp => ?_⟩
  have hl := len _ _ _ _ _ hsp
  have KX : K.In s.heap := e0.mod.kin.keeps fun b o e => (e0.bs b o e).1
  have lim : s.heap.NoLimit := e0.mod.nolimit.keeps fun b o e => (e0.bs b o e).1
  have hkind : ∀ y ∈ ps.zip us, scope.names.lookup y.1 = some .local ∨ (scope.names.lookup y.1 = some .cell ∧ ((cellsFrom (s.heap.objs.size + 1) scope.names []).lookup y.1).isSome = true) := fun ⟨n, v⟩ hy => by
    rcases S.par n (List.of_mem_zip hy).1 with q | q
    · exact .inl q
    · exact .inr ⟨q, PySem.W.cellsFrom_some _ _ _ (.inl q)⟩
  refine codeAny_call_function hr.depth (KX _ _ lk) rfl S.co S.gen rfl (PySem.W.codeRec_of KX hcd) (hb _ _ _ _ ?_)
  refine wpAny_newFunctionEnv_cells S.kind hkind fun env he s1 x => ?_
  subst he
  refine ⟨lim.keeps x.toInCall.keep, codeAny_func ?_⟩
  obtain ⟨t, ht, hq⟩ := hbody A outer s H vs Q E p (hr.deeper _) hsp
  have I : Inv (L2H.cxH CX P w K mg base N qual scope f cdv A outer s H E p) [] (L2.start N vs) H s1 := L2H.inv_startH S hpin e0 hl r x
  refine wpAny_mono (ht.run [] s1 (L2.start N vs) H _ I hq) (fun fl s' hs => ?_) fun e s' hs => hs
  have fin : ∀ {σ' : L2.St} {H' : Hp} {v : V} {u : Value}, Inv (L2H.cxH CX P w K mg base N qual scope f cdv A outer s H E p) [] σ' H' s' → RelV v u → Q v H' → CE outer P w H s Q u s' :=
    fun {σ' H' v u} J rv q => ⟨v, H', J.os, J.bare, J.base, J.hok, rv, q⟩
  cases fl with
  | ret u =>
    obtain ⟨v, σ', H', J, rv, q⟩ := hs
    exact fin J rv q
  | next =>
    obtain ⟨σ', H', J, q⟩ := hs
    exact fin (v := V.non) (u := Value.none) J rfl q
  | brk =>
    obtain ⟨_, _, _, q⟩ := hs
    exact False.elim q
  | cont =>
    obtain ⟨_, _, _, q⟩ := hs
    exact False.elim q
theorem fn_okP {x qual : Str} {st : Stmt} {f : Addr} {fd : FuncData} {N ps : List Str} {k : Nat} {spec : Addr × Obj → List D → Res → Prop} (Fn : Fun K x qual st f fd) (S : FnScope N ps (defScope st)) (ar : ∀ p ds r, spec p ds r → ds.length = ps.length)
    (hb : ∀ (cdv : Value) (A : Around) (outer : List Env) (s : Shared) (H : Hp) (E : XK) (p : Addr × Obj), L2H.RoomH k (A.deeper (envOfC qual (defScope st) s.heap.objs.size f cdv)) → (L2H.cxH CX0 P w K mg base N qual (defScope st) f cdv A outer s H E p).N = N → N.Nodup → ∀ ds r, spec p ds r →
      Bk (L2H.cxH CX0 P w K mg base N qual (defScope st) f cdv A outer s H E p) (defBody st) (ini N ds) (fin r)) : FnOkP P w K mg base CX0 (k + 1) f fd ps (fun p => Pr K (spec p)) := by
  obtain ⟨oc, od, kV, doc, pm, an, cdv, ct, osl, rfl, lk, hcd⟩ := Fn.ex
  refine fn_ofP lk hcd S (fun p vs H Q E h => ?_) (fun A outer s H vs Q E p hr h => ?_)
  · obtain ⟨G, ds, r, _, _, _, rl, sp, _⟩ := h
    rw [rl.length]; exact ar p ds r sp
  · obtain ⟨G, ds, r, sub, nt, tb, rl, sp, ro⟩ := h
    refine ⟨uS _ (defBody st), pss_u, ?_⟩
    have hlen : ds.length ≤ N.length := by
      rw [ar p ds r sp, ← S.pre]
      exact List.length_take_le' _ _
    exact hb cdv A outer s H E p hr rfl S.nd ds r sp G H G H _ (stt_ini sub nt tb rl hlen) _ (ends_of ro)
/-- such a def, by its name -/
structure FnP (P : Program) (w : World) (K : PySem.W.Frag) (mg : Str → Option Value) (base : Heap) (CX : CXT) (n : Str) (k : Nat) (spec : Addr × Obj → List D → Res → Prop) : Prop where
  ex : ∃ f fd ps, FnOkP P w K mg base CX k f fd ps (fun p => Pr K (spec p)) ∧ mg n = some (.ref f) ∧ PySem.W.keepIn K (.ref f) = true ∧ Binds K fd ps []
end
section
variable {X : Cx} {CX : CXT} {k : Nat} {f C : Addr} {fd : FuncData} {ps : List Str} {sp : Addr × Obj → Sp} {E : XK} {x : Str} {q pos apos : Pos} {e : Expr} {es : List Expr} {t : TA} {p : Addr × Obj}
theorem run_fnP {pins : List (Addr × Obj)} {σ : L2.St} {H : Hp} {s : Shared} {Q : VK} {us : List Value} {vs : List V} (F : FnOkP X.prog X.w X.K X.mg X.base CX k f fd ps sp) (hr : L2H.RoomH k X.A) (hp : p ∈ X.pn) (hb : Binds X.K fd ps []) (hx : PassesAt CX X σ E)
    (I : Inv X pins σ H s) (r : Vals vs us) (h : sp p vs H Q E) : wpAny (model X.prog X.w) X.A (call (.ref f) us) (L2.EP X pins σ Q) X.xe s := by
  have hl : us.length = ps.length := by rw [← r.length]; exact F.len _ _ _ _ _ h
  have b := hb s us I.kIn (by rw [List.append_nil]; exact hl)
  rw [List.append_nil] at b
  have P1 := I.pin p (List.mem_append_left _ hp)
  have hpin : L2H.PinOk X.stack H s p := ⟨P1.1, P1.2.1, fun hm => (List.mem_cons.mp (I.stkSub p.1 hm)).elim P1.2.2.1 P1.2.2.2.1, P1.2.2.2.2⟩
  refine wpAny_call (codeAny_mono (F.run X.A X.stack s H ⟨us, []⟩ us vs Q E p hr hpin I.env0 b r h) fun r s' hq => ?_)
  cases r with
  | error e => exact hx pins H s e s' I hq
  | ok fl =>
    cases fl with
    | ret u => exact I.after hq
    | next => exact False.elim hq
    | brk => exact False.elim hq
    | cont => exact False.elim hq
theorem pe_callP (F : FnOkP X.prog X.w X.K X.mg X.base CX k f fd ps sp) (hr : L2H.RoomH k X.A) (hp : p ∈ X.pn) (hg : Gl X x) (hm : X.mg x = some (.ref f)) (hk : PySem.W.keepIn X.K (.ref f) = true) (hb : Binds X.K fd ps []) (hx : ∀ σ, PassesAt CX X σ E)
    (ha : PA X (e :: es) t) (hdb : (x == ("__debug__" : Str)) = false := by decide) (he : starEach (e :: es) X.env = (false, eval e X.env) :: starEach es X.env := by rfl) (hpl : (backTo pos (starEach es X.env)).any (·.1) = false := by rfl) :
    PE X (.Call (.Name x q) (e :: es) [] pos) (fun σ H Q => t σ H fun vs H1 => sp p vs H1 Q E) := by
  refine ⟨fun pins s σ H Q I h => ?_⟩
  refine wpAny_Call_Name_kw (ld_glob I hg hm ?_ hdb)
  refine PySem.W.callWith_K (h₀ := X.base) I.ok.mod.kin hk (thn (ha.run pos pins s σ H _ I h) fun us s1 ⟨vs, H1, I1, r, q⟩ => ⟨I1.kIn, ?_⟩) he hpl
  exact run_fnP F hr hp hb (hx σ) I1 r q
theorem pe_callP_a (F : FnOkP X.prog X.w X.K X.mg X.base CX k f fd ps sp) (hr : L2H.RoomH k X.A) (hp : p ∈ X.pn) (hg : Gl X x) (hm : X.mg x = some (.ref f)) (hk : PySem.W.keepIn X.K (.ref f) = true) (hb : Binds X.K fd ps []) (hx : ∀ σ, PassesAt CX X σ E) (ha : PA X (e :: es) t) (hdb : Rd ((x == ("__debug__" : Str)) = false)) (he : Rf (starEach (e :: es) X.env = (false, eval e X.env) :: starEach es X.env)) (hpl : Rf ((backTo pos (starEach es X.env)).any (·.1) = false)) : PE X (.Call (.Name x q) (e :: es) [] pos) (fun σ H Q => t σ H fun vs H1 => sp p vs H1 Q E) := pe_callP F hr hp hg hm hk hb hx ha hdb.ok he.ok hpl.ok
end
section
variable {X : Cx} {Δ : List Sl} {m : Bool} {e : Expr} {es : List Expr} {d : D} {ds : List D} {pos p : Pos} {n : Str} {k : Nat} {spec : Addr × Obj → List D → Res → Prop} {pp : Addr × Obj}
theorem ev_callP (Fn : FnP X.prog X.w X.K X.mg X.base CX0 n k spec) (hp : pp ∈ X.pn) (hr : L2H.RoomH k X.A) (hg : Gl X n) (ha : AV X Δ m (e :: es) ds) (hs : spec pp ds (.v d)) (hdb : (n == ("__debug__" : Str)) = false := by decide)
    (he : starEach (e :: es) X.env = (false, eval e X.env) :: starEach es X.env := by rfl) (hpl : (backTo pos (starEach es X.env)).any (·.1) = false := by rfl) : EV X Δ m (.Call (.Name n p) (e :: es) [] pos) d := by
  intro G0 H0 F H σ S Q q
  obtain ⟨f, fd, ps, F1, hm, hk, hb⟩ := Fn.ex
  refine eU (pe_callP (E := E0) F1 hr hp hg hm hk hb (fun σ _ _ _ _ _ _ h => h.elim) pa_u hdb he hpl) (ha G0 H0 F H σ S _ fun vs F' H' x r => ?_)
  exact Pr.at x.fh (S.ext x).nt (S.ext x).tb r hs fun v F2 H2 x2 r2 => q v F2 H2 (x.tr x2) r2
theorem ev_callP_a (Fn : FnP X.prog X.w X.K X.mg X.base CX0 n k spec) (hp : pp ∈ X.pn) (hr : L2H.RoomH k X.A) (hg : Gl X n) (ha : AV X Δ m (e :: es) ds) (hs : spec pp ds (.v d)) (hdb : Rd ((n == ("__debug__" : Str)) = false)) (he : Rf (starEach (e :: es) X.env = (false, eval e X.env) :: starEach es X.env)) (hpl : Rf ((backTo pos (starEach es X.env)).any (·.1) = false)) : EV X Δ m (.Call (.Name n p) (e :: es) [] pos) d := ev_callP Fn hp hr hg ha hs hdb.ok he.ok hpl.ok
end
/-! isinstance where the exception is pinned -/
theorem call_isEP {X : Cx} {a D : Addr} {oe : Obj} (hp : (a, oe) ∈ X.pn) (C : ExcC X.K D) (hz : Zc (.ref D) none oe) (hf : ∃ vs, oe.data = .fields vs) : CallR X (.builtin "isinstance") (rIsE X.K D a) := by
  intro pins s σ H xs us Q I r h
  obtain ⟨c, cv, b, rfl, hcv, e, q⟩ := h
  obtain ⟨u1, u2, rfl, r1, r2⟩ := vals2 r
  cases (show u1 = Value.ref a from r1)
  have ec := hcv _ r2
  subst ec
  obtain ⟨hget, _⟩ := I.pin (a, oe) (List.mem_append.mpr (.inl hp))
  obtain ⟨vs, hv⟩ := hf
  have J : PySem.W.InstAt s.heap a oe D none := by
    obtain ⟨oc, od, oda, osl⟩ := oe
    obtain ⟨h1, h2⟩ := hz
    dsimp only at h1 h2 hv
    subst h1 h2 hv
    exact ⟨hget, rfl, rfl, trivial⟩
  exact PySem.W.kia_one (PySem.W.handS_kitx_exc C.hg C.hk C.hs C.hd C.ha C.hn C.ht C.hm) I.kIn J e (fun z => nomatch z) fun tk => ⟨.bl b, H, I.kept (t' := tk) fun _ _ z => z, rfl, q⟩
theorem call_isETP {X : Cx} {a D : Addr} {oe : Obj} (hp : (a, oe) ∈ X.pn) (C : ExcC X.K D) (hz : Zc (.ref D) none oe) (hf : ∃ vs, oe.data = .fields vs) : CallR X (.builtin "isinstance") (rIsET X.K D a) := by
  intro pins s σ H xs us Q I r h
  obtain ⟨tp, cs, ws, b, rfl, hT, k, e, q⟩ := h
  cases r with
  | cons rx rr =>
    cases rr with
    | cons rt rr =>
      cases rr
      cases rx
      rename_i u2
      cases (show u2 = Value.ref tp from rt)
      obtain ⟨hget, _⟩ := I.pin (a, oe) (List.mem_append.mpr (.inl hp))
      obtain ⟨vs, hv⟩ := hf
      have J : PySem.W.InstAt s.heap a oe D none := by
        obtain ⟨oc, od, oda, osl⟩ := oe
        obtain ⟨h1, h2⟩ := hz
        dsimp only at h1 h2 hv
        subst h1 h2 hv
        exact ⟨hget, rfl, rfl, trivial⟩
      obtain ⟨_, its, rv, o, h1, h2, n, h3⟩ := (show ObjOk X.prog X.w H s.heap tp (.tup cs) from I.hok tp _ hT)
      have e3 := ClsV.all k rv
      subst e3
      obtain ⟨oc, od, dt, sl⟩ := o
      simp only at h2 h3
      subst h2 h3
      exact PySem.W.kia_tup (PySem.W.handS_kitx_exc C.hg C.hk C.hs C.hd C.ha C.hn C.ht C.hm) I.kIn J h1 e (fun z => nomatch z) fun tk => ⟨.bl b, H, I.kept (t' := tk) fun _ _ z => z, rfl, q⟩
section
variable {X : Cx} {Δ : List Sl} {m : Bool} {a D Cc : Addr} {oe : Obj} {e c : Expr} {n : Str} {p p2 pos : Pos} {b : Bool}
theorem ev_isEP (hp : (a, oe) ∈ X.pn) (E : ExcC X.K D) (hz : Zc (.ref D) none oe) (hf : ∃ vs, oe.data = .fields vs) (hg : Gl X "isinstance") (hm : X.mg "isinstance" = none) (he : EV X Δ false e (.opq a)) (hc : EV X Δ false c (.opq Cc)) (hk : PySem.W.kitOne X.K (.ref D) (.ref Cc) = some b)
    (hs : starEach [e, c] X.env = (false, eval e X.env) :: starEach [c] X.env := by rfl) (hs2 : starEach [c] X.env = (false, eval c X.env) :: starEach [] X.env := by rfl) (hpl : (backTo pos (starEach [c] X.env)).any (·.1) = false := by rfl) :
    EV X Δ m (.Call (.Name "isinstance" p) [e, c] [] pos) (.bl b) := by
  intro G0 H0 F H σ S Q q
  refine eU (pe_callB (call_isEP hp E hz hf) hg hm bt_isinstance (pa_cons pe_u (pa_cons pe_u pa_nil hs2) hs) (by decide) (by decide) hs hpl) (two he hc S fun v w F' H' x r r2 => ?_)
  rw [r_opq.mp r, r_opq.mp r2]
  exact ⟨.ref Cc, .ref Cc, b, rfl, fun u hu => hu, hk, q _ F' H' x (r_bl.mpr rfl)⟩
theorem ev_isEP_a (hp : (a, oe) ∈ X.pn) (E : ExcC X.K D) (hz : Zc (.ref D) none oe) (hf : ∃ vs, oe.data = .fields vs) (hg : Gl X "isinstance") (hm : X.mg "isinstance" = none) (he : EV X Δ false e (.opq a)) (hc : EV X Δ false c (.opq Cc)) (hk : PySem.W.kitOne X.K (.ref D) (.ref Cc) = some b) (hs : Rf (starEach [e, c] X.env = (false, eval e X.env) :: starEach [c] X.env)) (hs2 : Rf (starEach [c] X.env = (false, eval c X.env) :: starEach [] X.env)) (hpl : Rf ((backTo pos (starEach [c] X.env)).any (·.1) = false)) : EV X Δ m (.Call (.Name "isinstance" p) [e, c] [] pos) (.bl b) := ev_isEP hp E hz hf hg hm he hc hk hs.ok hs2.ok hpl.ok
theorem ev_isEbP {T : String} (hp : (a, oe) ∈ X.pn) (E : ExcC X.K D) (hz : Zc (.ref D) none oe) (hf : ∃ vs, oe.data = .fields vs) (hg : Gl X "isinstance") (hm : X.mg "isinstance" = none) (he : EV X Δ false e (.opq a)) (hg2 : Gl X n) (hm2 : X.mg n = none) (hv2 : bootBuiltins n = some (.type T)) (hk : PySem.W.kitOne X.K (.ref D) (.type T) = some b) (hn2 : n ≠ "__name__" := by decide) (hd2 : (n == ("__debug__" : Str)) = false := by decide)
    (hs : starEach [e, .Name n p2] X.env = (false, eval e X.env) :: starEach [.Name n p2] X.env := by rfl) (hs2 : starEach [.Name n p2] X.env = (false, eval (.Name n p2) X.env) :: starEach [] X.env := by rfl) (hpl : (backTo pos (starEach [.Name n p2] X.env)).any (·.1) = false := by rfl) :
    EV X Δ m (.Call (.Name "isinstance" p) [e, .Name n p2] [] pos) (.bl b) := by
  intro G0 H0 F H σ S Q q
  refine eU (pe_callB (call_isEP hp E hz hf) hg hm bt_isinstance (pa_cons pe_u (pa_cons (pe_bltn (v := .ty T) hg2 hm2 hv2 rfl hn2 hd2) pa_nil hs2) hs) (by decide) (by decide) hs hpl) (he G0 H0 F H σ S _ fun v F' H' x r => ?_)
  rw [r_opq.mp r]
  exact ⟨.ty T, .type T, b, rfl, fun u hu => hu, hk, q _ F' H' x (r_bl.mpr rfl)⟩
theorem ev_isEbP_a {T : String} (hp : (a, oe) ∈ X.pn) (E : ExcC X.K D) (hz : Zc (.ref D) none oe) (hf : ∃ vs, oe.data = .fields vs) (hg : Gl X "isinstance") (hm : X.mg "isinstance" = none) (he : EV X Δ false e (.opq a)) (hg2 : Gl X n) (hm2 : X.mg n = none) (hv2 : bootBuiltins n = some (.type T)) (hk : PySem.W.kitOne X.K (.ref D) (.type T) = some b) (hn2 : Rd (n ≠ "__name__")) (hd2 : Rd ((n == ("__debug__" : Str)) = false)) (hs : Rf (starEach [e, .Name n p2] X.env = (false, eval e X.env) :: starEach [.Name n p2] X.env)) (hs2 : Rf (starEach [.Name n p2] X.env = (false, eval (.Name n p2) X.env) :: starEach [] X.env)) (hpl : Rf ((backTo pos (starEach [.Name n p2] X.env)).any (·.1) = false)) : EV X Δ m (.Call (.Name "isinstance" p) [e, .Name n p2] [] pos) (.bl b) := ev_isEbP hp E hz hf hg hm he hg2 hm2 hv2 hk hn2.ok hd2.ok hs.ok hs2.ok hpl.ok
theorem ev_isETP {Cs : List Addr} (hp : (a, oe) ∈ X.pn) (E : ExcC X.K D) (hz : Zc (.ref D) none oe) (hf : ∃ vs, oe.data = .fields vs) (hg : Gl X "isinstance") (hm : X.mg "isinstance" = none) (he : EV X Δ false e (.opq a)) (hc : EV X Δ false c (.tup (Cs.map .opq))) (hk : PySem.W.kitAny X.K (.ref D) (Cs.map .ref) = some b)
    (hs : starEach [e, c] X.env = (false, eval e X.env) :: starEach [c] X.env := by rfl) (hs2 : starEach [c] X.env = (false, eval c X.env) :: starEach [] X.env := by rfl) (hpl : (backTo pos (starEach [c] X.env)).any (·.1) = false := by rfl) :
    EV X Δ m (.Call (.Name "isinstance" p) [e, c] [] pos) (.bl b) := by
  intro G0 H0 F H σ S Q q
  refine eU (pe_callB (call_isETP hp E hz hf) hg hm bt_isinstance (pa_cons pe_u (pa_cons pe_u pa_nil hs2) hs) (by decide) (by decide) hs hpl) (two he hc S fun v w F' H' x r r2 => ?_)
  rw [r_opq.mp r]
  obtain ⟨tp, vs, rfl, g, l⟩ := r_tup.mp r2
  exact ⟨tp, vs, Cs.map .ref, b, rfl, g, rl_opq l, hk, q _ F' H' x (r_bl.mpr rfl)⟩
theorem ev_isETP_a {Cs : List Addr} (hp : (a, oe) ∈ X.pn) (E : ExcC X.K D) (hz : Zc (.ref D) none oe) (hf : ∃ vs, oe.data = .fields vs) (hg : Gl X "isinstance") (hm : X.mg "isinstance" = none) (he : EV X Δ false e (.opq a)) (hc : EV X Δ false c (.tup (Cs.map .opq))) (hk : PySem.W.kitAny X.K (.ref D) (Cs.map .ref) = some b) (hs : Rf (starEach [e, c] X.env = (false, eval e X.env) :: starEach [c] X.env)) (hs2 : Rf (starEach [c] X.env = (false, eval c X.env) :: starEach [] X.env)) (hpl : Rf ((backTo pos (starEach [c] X.env)).any (·.1) = false)) : EV X Δ m (.Call (.Name "isinstance" p) [e, c] [] pos) (.bl b) := ev_isETP hp E hz hf hg hm he hc hk hs.ok hs2.ok hpl.ok
end
/-- room within a suite -/
theorem room_suite {k : Nat} {A : Around} {v : Option Value} (h : Room k A) : L2H.RoomH k (A.mark v) := ⟨h.dp, h.un⟩
end Z

namespace Z
open PySem PySem.Spec PyProof.Rows L2
variable [τ : Tb]
/-! ### trees whose leaves are flat lean on nothing -/
mutual
def T.flt : T → Bool
  | .fz d => flat d | .ls ts => T.flts ts | .tp ts => T.flts ts | .ob _ fs => T.fltf fs
def T.flts : List T → Bool
  | [] => true | t :: ts => T.flt t && T.flts ts
def T.fltf : List (Str × T) → Bool
  | [] => true | (_, t) :: ts => T.flt t && T.fltf ts
end
mutual
theorem RT.flt {K : PySem.W.Frag} {F F' H : Hp} : ∀ (t : T) (v : V) (fp : List Addr), T.flt t = true → RT K F H t v fp → RT K F' H t v fp
  | .fz d, v, fp, h, r => by
    rw [T.flt] at h
    obtain ⟨e, r⟩ := rt_fz.mp r
    exact rt_fz.mpr ⟨e, flat_any h r⟩
  | .ls ts, v, fp, h, r => by
    rw [T.flt] at h
    obtain ⟨a, vs, f, e, e2, n, g, l⟩ := rt_ls.mp r
    exact rt_ls.mpr ⟨a, vs, f, e, e2, n, g, RTL.flt ts vs f h l⟩
  | .tp ts, v, fp, h, r => by
    rw [T.flt] at h
    obtain ⟨a, vs, f, e, e2, n, g, l⟩ := rt_tp.mp r
    exact rt_tp.mpr ⟨a, vs, f, e, e2, n, g, RTL.flt ts vs f h l⟩
  | .ob C fs, v, fp, h, r => by
    rw [T.flt] at h
    obtain ⟨a, dx, vs, f, e, e2, n, g, l⟩ := rt_ob.mp r
    exact rt_ob.mpr ⟨a, dx, vs, f, e, e2, n, g, RTF.flt fs vs f h l⟩
theorem RTL.flt {K : PySem.W.Frag} {F F' H : Hp} : ∀ (ts : List T) (vs : List V) (fp : List Addr), T.flts ts = true → RTL K F H ts vs fp → RTL K F' H ts vs fp
  | [], vs, fp, h, r => by
    obtain ⟨e1, e2⟩ := rtl_nil.mp r
    exact rtl_nil.mpr ⟨e1, e2⟩
  | t :: ts, vs, fp, h, r => by
    rw [T.flts, Bool.and_eq_true] at h
    obtain ⟨v, vs', f, g, e1, e2, n, r1, r2⟩ := rtl_cons.mp r
    exact rtl_cons.mpr ⟨v, vs', f, g, e1, e2, n, RT.flt t v f h.1 r1, RTL.flt ts vs' g h.2 r2⟩
theorem RTF.flt {K : PySem.W.Frag} {F F' H : Hp} : ∀ (ts : List (Str × T)) (vs : List (Str × V)) (fp : List Addr), T.fltf ts = true → RTF K F H ts vs fp → RTF K F' H ts vs fp
  | [], vs, fp, h, r => by
    obtain ⟨e1, e2⟩ := rtf_nil.mp r
    exact rtf_nil.mpr ⟨e1, e2⟩
  | (n, t) :: ts, vs, fp, h, r => by
    rw [T.fltf, Bool.and_eq_true] at h
    obtain ⟨v, vs', f, g, e1, e2, n, r1, r2⟩ := rtf_cons.mp r
    exact rtf_cons.mpr ⟨v, vs', f, g, e1, e2, n, RT.flt t v f h.1 r1, RTF.flt ts vs' g h.2 r2⟩
end
theorem flts_fz : ∀ ds : List D, T.flts (ds.map T.fz) = ds.all flat
  | [] => by rw [List.map_nil, T.flts]; rfl
  | d :: ds => by rw [List.map_cons, T.flts, T.flt, flts_fz ds, List.all_cons]
theorem flts_all : ∀ {ts : List T}, (∀ t ∈ ts, T.flt t = true) → T.flts ts = true
  | [], _ => by rw [T.flts]
  | t :: ts, h => by rw [T.flts, h t List.mem_cons_self, flts_all fun s hs => h s (List.mem_cons_of_mem _ hs)]; rfl
section
variable {X : Cx} {Δ : List Sl} {m : Bool} {e : Expr} {es : List Expr} {d : D} {t : T} {ds : List D} {pos p : Pos} {n : Str} {k : Nat} {pp : Addr × Obj}
/-- a call handed lists of one's own too, its answer a new tree with flat leaves -/
theorem et_callF {spec : List D → Res → Prop} (Fn : FnK X.prog X.w X.K X.mg X.base CX0 n k spec) (hr : Room k X.A) (hg : Gl X n) (ha : AV X Δ false (e :: es) ds) (hs : spec ds (.t t)) (hf : T.flt t = true) (hdb : (n == ("__debug__" : Str)) = false := by decide)
    (he : starEach (e :: es) X.env = (false, eval e X.env) :: starEach es X.env := by rfl) (hpl : (backTo pos (starEach es X.env)).any (·.1) = false := by rfl) : ET X Δ (.Call (.Name n p) (e :: es) [] pos) t := by
  intro G0 H0 F H σ S Q q
  obtain ⟨f, fd, ps, F1, hm, hk, hb⟩ := Fn.ex
  refine eU (pe_call F1 hr hg hm hk hb .nil pass0 pa_u hdb he hpl) (ha G0 H0 F H σ S _ fun vs F' H' x r => ?_)
  show Pr X.K spec (vs ++ []) H' Q E0
  rw [List.append_nil]
  exact ⟨unt H', ds, _, unt_sub H', unt_nt H', (S.ext x).tb, RL.monoN (unt_nb H') _ _ r, hs, fun v f G' H2 e2 r2 n2 => q v f F' H2 (x.tr (Ext.growG x.fh (S.ext x).nt e2.h)) (RT.flt _ _ _ hf r2) fun a ha => ⟨x.h.none (n2 a ha).1, x.fh.none (n2 a ha).1⟩⟩
theorem et_callF_a {spec : List D → Res → Prop} (Fn : FnK X.prog X.w X.K X.mg X.base CX0 n k spec) (hr : Room k X.A) (hg : Gl X n) (ha : AV X Δ false (e :: es) ds) (hs : spec ds (.t t)) (hf : T.flt t = true) (hdb : Rd ((n == ("__debug__" : Str)) = false)) (he : Rf (starEach (e :: es) X.env = (false, eval e X.env) :: starEach es X.env)) (hpl : Rf ((backTo pos (starEach es X.env)).any (·.1) = false)) : ET X Δ (.Call (.Name n p) (e :: es) [] pos) t := et_callF Fn hr hg ha hs hf hdb.ok he.ok hpl.ok
/-- a def that is handed the exception, its answer a new tree -/
theorem et_callP {spec : Addr × Obj → List D → Res → Prop} (Fn : FnP X.prog X.w X.K X.mg X.base CX0 n k spec) (hp : pp ∈ X.pn) (hr : L2H.RoomH k X.A) (hg : Gl X n) (ha : AV X Δ true (e :: es) ds) (hs : spec pp ds (.t t)) (hdb : (n == ("__debug__" : Str)) = false := by decide)
    (he : starEach (e :: es) X.env = (false, eval e X.env) :: starEach es X.env := by rfl) (hpl : (backTo pos (starEach es X.env)).any (·.1) = false := by rfl) : ET X Δ (.Call (.Name n p) (e :: es) [] pos) t := by
  intro G0 H0 F H σ S Q q
  obtain ⟨f, fd, ps, F1, hm, hk, hb⟩ := Fn.ex
  refine eU (pe_callP (E := E0) F1 hr hp hg hm hk hb (fun σ _ _ _ _ _ _ h => h.elim) pa_u hdb he hpl) (ha G0 H0 F H σ S _ fun vs F' H' x r => ?_)
  exact ⟨F', ds, _, x.fh, (S.ext x).nt, (S.ext x).tb, r, hs, fun v f G' H2 e2 r2 n2 => q v f G' H2 (x.tr e2) r2 fun a ha => ⟨x.h.none (n2 a ha).1, (n2 a ha).2⟩⟩
theorem et_callP_a {spec : Addr × Obj → List D → Res → Prop} (Fn : FnP X.prog X.w X.K X.mg X.base CX0 n k spec) (hp : pp ∈ X.pn) (hr : L2H.RoomH k X.A) (hg : Gl X n) (ha : AV X Δ true (e :: es) ds) (hs : spec pp ds (.t t)) (hdb : Rd ((n == ("__debug__" : Str)) = false)) (he : Rf (starEach (e :: es) X.env = (false, eval e X.env) :: starEach es X.env)) (hpl : Rf ((backTo pos (starEach es X.env)).any (·.1) = false)) : ET X Δ (.Call (.Name n p) (e :: es) [] pos) t := et_callP Fn hp hr hg ha hs hdb.ok he.ok hpl.ok
end
/-! ### making an object whose __init__ raises -/
section
variable {P : Program} {w : World} {K : PySem.W.Frag} {mg : Str → Option Value} {base : Heap}
/-- an __init__ that may raise -/
structure FnIX (P : Program) (w : World) (K : PySem.W.Frag) (mg : Str → Option Value) (base : Heap) (CX : CXT) (C : Addr) (k : Nat) (spec : List D → (XR → Prop) → Prop) : Prop where
  ex : ∃ f fd ps, FnOk P w K mg base (L2.CX P w) k f fd ps (PrX K spec) ∧ Mk K C f ∧ Binds K fd ps []
end
section
variable {X : Cx} {CX : CXT} {k : Nat} {f C : Addr} {fd : FuncData} {ps : List Str} {sp : Sp} {E : L2.St → XK} {x : Str} {q pos p : Pos} {e : Expr} {es : List Expr} {t : TA}
theorem run_makeS {pins : List (Addr × Obj)} {σ : L2.St} {H : Hp} {s : Shared} {Q : VK} {us : List Value} {vs : List V} (M : Mk X.K C f) (F : FnOk X.prog X.w X.K X.mg X.base CX k f fd ps sp) (hr : Room (k + 1) X.A) (hb : Binds X.K fd ps [])
    (hx : PassesAt CX X σ (E σ)) (I : Inv X pins σ H s) (r : Vals vs us)
    (h : ∀ x dx, H x = none → H dx = none → dx ≠ x → sp (.ref x :: vs) (upd (upd H dx (.own x)) x (.ins C dx [])) (fun v H2 => v = .non ∧ Q (.ref x) H2) (E σ)) :
    wpAny (model X.prog X.w) X.A (call (.ref C) us) (L2.EP X pins σ Q) X.xe s := by
  have hq := h (s.heap.objs.size + 1) s.heap.objs.size (I.hok.fresh (Nat.le_succ _)) (I.hok.fresh (Nat.le_refl _)) (Nat.ne_of_lt (Nat.lt_succ_self _))
  have I2 := Inv.made (C := C) I
  have r2 : Vals (V.ref (s.heap.objs.size + 1) :: vs) (Value.ref (s.heap.objs.size + 1) :: us) := .cons rfl r
  have hl : (Value.ref (s.heap.objs.size + 1) :: us).length = ps.length := by
    have e := r2.length
    rw [F.len _ _ _ _ hq] at e
    exact e.symm
  have b := hb _ (Value.ref (s.heap.objs.size + 1) :: us) I2.kIn (by rw [List.append_nil]; exact hl)
  rw [List.append_nil] at b
  refine wpAny_call (make_map (f := f) I.kIn M.makes M.init (beq_iff_eq.mp M.fn) (codeAny_mono (F.run _ X.stack _ _ ⟨Value.ref (s.heap.objs.size + 1) :: us, []⟩ _ _ _ (E σ) (hr.make C us [])
    (I2.env0.make C us []) b r2 hq) fun r s' hq' => ?_))
  cases r with
  | error e => exact hx pins _ _ e s' I2 hq'
  | ok fl =>
    cases fl with
    | ret u =>
      obtain ⟨v, H', I3, rv, ev, q3⟩ := I2.after hq'
      subst ev
      exact ⟨rv, ⟨V.ref (s.heap.objs.size + 1), H', I3, rfl, q3⟩⟩
    | next => exact False.elim hq'
    | brk => exact False.elim hq'
    | cont => exact False.elim hq'
def tMakeS (C : Addr) (sp : Sp) (E : L2.St → XK) (t : TA) : TE := fun σ H Q => t σ H fun vs H1 => ∀ x dx, H1 x = none → H1 dx = none → dx ≠ x →
  sp (.ref x :: vs) (upd (upd H1 dx (.own x)) x (.ins C dx [])) (fun v H2 => v = .non ∧ Q (.ref x) H2) (E σ)
theorem pe_makeS (M : Mk X.K C f) (F : FnOk X.prog X.w X.K X.mg X.base CX k f fd ps sp) (hr : Room (k + 1) X.A) (hg : Gl X x) (hm : X.mg x = some (.ref C)) (hb : Binds X.K fd ps []) (hx : ∀ σ, PassesAt CX X σ (E σ))
    (ha : PA X (e :: es) t) (hdb : (x == ("__debug__" : Str)) = false := by decide) (he : starEach (e :: es) X.env = (false, eval e X.env) :: starEach es X.env := by rfl) (hpl : (backTo pos (starEach es X.env)).any (·.1) = false := by rfl) :
    PE X (.Call (.Name x p) (e :: es) [] pos) (tMakeS C sp E t) := by
  refine ⟨fun pins s σ H Q I h => ?_⟩
  refine wpAny_Call_Name_kw (ld_glob I hg hm ?_ hdb)
  refine PySem.W.callWith_K (h₀ := X.base) I.ok.mod.kin M.kp (thn (ha.run pos pins s σ H _ I h) fun us s1 ⟨vs, H1, I1, r, q⟩ => ⟨I1.kIn, ?_⟩) he hpl
  exact run_makeS M F hr hb (hx σ) I1 r q
theorem pe_makeS_a (M : Mk X.K C f) (F : FnOk X.prog X.w X.K X.mg X.base CX k f fd ps sp) (hr : Room (k + 1) X.A) (hg : Gl X x) (hm : X.mg x = some (.ref C)) (hb : Binds X.K fd ps []) (hx : ∀ σ, PassesAt CX X σ (E σ)) (ha : PA X (e :: es) t) (hdb : Rd ((x == ("__debug__" : Str)) = false)) (he : Rf (starEach (e :: es) X.env = (false, eval e X.env) :: starEach es X.env)) (hpl : Rf ((backTo pos (starEach es X.env)).any (·.1) = false)) : PE X (.Call (.Name x p) (e :: es) [] pos) (tMakeS C sp E t) := pe_makeS M F hr hg hm hb hx ha hdb.ok he.ok hpl.ok
end
section
variable {X : Cx} {Δ : List Sl} {e : Expr} {es : List Expr} {ds : List D} {pos p : Pos} {n : Str} {k : Nat} {spec : List D → (XR → Prop) → Prop} {CC EE : Addr}
/-- CC(e, ..) raises EE -/
theorem ex_make (Fn : FnIX X.prog X.w X.K X.mg X.base CX0 CC k spec) (hr : Room (k + 1) X.A) (hg : Gl X n) (hm : X.mg n = some (.ref CC)) (ha : AV X Δ true (e :: es) ds) (hs : spec (.obj CC [] :: ds) (fun r => r = .ex EE)) (hdb : (n == ("__debug__" : Str)) = false := by decide)
    (he : starEach (e :: es) X.env = (false, eval e X.env) :: starEach es X.env := by rfl) (hpl : (backTo pos (starEach es X.env)).any (·.1) = false := by rfl) : EX X Δ (.Call (.Name n p) (e :: es) [] pos) (fun r => r = .ex EE) := by
  intro G0 H0 F H σ S Q q q2
  obtain ⟨f, fd, ps, F1, M, hb⟩ := Fn.ex
  refine eU (pe_makeS M F1 hr hg hm hb (fun σ' => passAt (takes_un (R := fun r => r = .ex EE) q2) σ') pa_u hdb he hpl) (ha G0 H0 F H σ S _ fun vs F' H' x r => fun ax dx nx ndx nex => ?_)
  have r : RL X.K F' ds vs := r
  have s1 : Sub H' (upd H' dx (.own ax)) := Sub.new ndx
  have nax : upd H' dx (.own ax) ax = none := by rw [upd_ne (Ne.symm nex)]; exact nx
  have s2 : Sub (upd H' dx (.own ax)) (upd (upd H' dx (.own ax)) ax (.ins CC dx [])) := Sub.new nax
  have fx : F' ax = none := x.fh.none nx
  refine ⟨upd F' ax (.ins CC dx []), .obj CC [] :: ds, _, fun b o hb2 => ?_, fun b ps hb2 => ?_, ((S.ext x).tb.ext s1).ext s2, ?_, hs, fun r' hr' => ?_⟩
  · by_cases hbx : b = ax
    · subst hbx; rw [upd_same] at hb2 ⊢; exact hb2
    · rw [upd_ne hbx] at hb2
      exact s2 _ _ (s1 _ _ (x.fh _ _ hb2))
  · by_cases hbx : b = ax
    · subst hbx; rw [upd_same] at hb2; cases hb2
    · rw [upd_ne hbx] at hb2
      exact (S.ext x).nt b ps hb2
  · exact RL.cons (r_obj.mpr ⟨ax, dx, [], rfl, upd_same, rf_nil.mpr rfl⟩) (r.mono (Sub.new fx))
  · subst hr'
    exact fun G2 H2 x2 => ⟨EE, F', rfl, x.tr (Ext.growG x.fh (S.ext x).nt ((s1.tr s2).gw.tr x2.h)), rfl, rfl, rfl⟩
theorem ex_make_a (Fn : FnIX X.prog X.w X.K X.mg X.base CX0 CC k spec) (hr : Room (k + 1) X.A) (hg : Gl X n) (hm : X.mg n = some (.ref CC)) (ha : AV X Δ true (e :: es) ds) (hs : spec (.obj CC [] :: ds) (fun r => r = .ex EE)) (hdb : Rd ((n == ("__debug__" : Str)) = false)) (he : Rf (starEach (e :: es) X.env = (false, eval e X.env) :: starEach es X.env)) (hpl : Rf ((backTo pos (starEach es X.env)).any (·.1) = false)) : EX X Δ (.Call (.Name n p) (e :: es) [] pos) (fun r => r = .ex EE) := ex_make Fn hr hg hm ha hs hdb.ok he.ok hpl.ok
end
end Z

namespace Y
open PySem PySem.Spec PyProof.Rows L2 TL Z
set_option hygiene false
local macro_rules | `(tactic| walk_at "sc") => `(tactic| first
  | with_reducible assumption | with_reducible rfl
  | (with_reducible refine Z.mulokR ?_ ?_ <;> omega) | (with_reducible refine Z.mulokL ?_ ?_ <;> omega) | (with_reducible refine Z.divok ?_ ?_ <;> omega) | (with_reducible refine Z.powok ?_ ?_ ?_ ?_ <;> omega)
  | omega
  | (with_reducible refine Z.at_get (by assumption) ?_ <;> assumption) | decide)
local macro_rules | `(tactic| walk_at "nat") => `(tactic| with_reducible first | exact NAt.here | (apply NAt.there; walk_at "nat"))
local macro_rules | `(tactic| walk_at "sat") => `(tactic| with_reducible first | exact SAt.here | (apply SAt.there; walk_at "sat"))
local macro_rules | `(tactic| walk_at "put") => `(tactic| with_reducible first | exact Put.here | (apply Put.there; walk_at "put"))
local macro_rules | `(tactic| walk_at "ini") => `(tactic| with_reducible first | exact in_nil | (apply in_v; walk_at "ini") | (apply in_u; walk_at "ini"))
local macro_rules | `(tactic| walk_at "lee") => `(tactic| ((try dsimp only); walk_at "le"))
local macro_rules | `(tactic| walk_at "le") => `(tactic| first
  | exact Le.nil | ((with_reducible apply Le.same); walk_at "le") | ((with_reducible apply Le.drop); walk_at "le") | ((with_reducible apply Le.frz); walk_at "le") | (refine Le.eqv (Sd.mk rfl) ?_; walk_at "le") | (refine Le.eqv (Sd.mk (by simp only [List.map_append, List.map_cons, List.map_nil])) ?_; walk_at "le") | (apply Le.frz; walk_at "le")
  | (apply Le.eqv <;> first | ((with_reducible show Sd _); refine Sd.mk ?_) | walk_at "le"))
local macro_rules | `(tactic| walk_at "sd1") => `(tactic| first | (rw [List.length_map]; omega) | (simp only [List.length_map, List.length_range, List.length_reverse, List.length_zip, List.length_append, List.length_set, List.length_cons, List.length_nil, List.length_replicate]; omega) | (simp; done) | exact flat_ints _ | exact flat_strs _)
local macro_rules | `(tactic| walk_at "side") => `(tactic| (refine Sd.mk ?_; first | walk_at "sc" | walk_at "sd1" | skip))
local macro_rules | `(tactic| walk_at "call") => `(tactic| fail)
local macro_rules | `(tactic| walk_at "calo") => `(tactic| fail)
local macro_rules | `(tactic| walk_at "fld") => `(tactic| fail)
local macro_rules | `(tactic| walk_at "glob") => `(tactic| fail)
local macro_rules | `(tactic| walk_at "ev") => `(tactic| first
  | exact ev_int | exact ev_str | exact ev_non | exact ev_bl
  | (apply ev_name_a <;> walk_at "z") | walk_at "glob"
  | (apply ev_bin <;> walk_at "z")
  | (apply ev_isND <;> walk_at "z") | (apply ev_notND <;> walk_at "z")
  | (apply ev_cmpD_a <;> walk_at "z")
  | (apply ev_lelt_a <;> walk_at "z") | (apply ev_lele_a <;> walk_at "z")
  | (apply ev_neg; walk_at "ev") | (apply ev_not; walk_at "ev")
  | (apply ev_subO_a <;> walk_at "z") | (apply ev_sub'_a <;> walk_at "z")
  | (apply ev_lenD_a <;> first | ((with_reducible show _ = none); exact B.len) | walk_at "z")
  | (apply ev_count_a <;> walk_at "z")
  | walk_at "fld" | walk_at "call"
  | (apply ev_tupZ <;> walk_at "z") | (apply ev_lstZ <;> walk_at "z")
  | (apply ev_sum_a <;> first | ((with_reducible show _ = none); exact B.sum) | walk_at "z") | (apply ev_abs_a <;> first | ((with_reducible show _ = none); exact B.abs) | walk_at "z")
  | (apply ev_min2_a <;> first | ((with_reducible show _ = none); exact B.min) | walk_at "z") | (apply ev_max2_a <;> first | ((with_reducible show _ = none); exact B.max) | walk_at "z")
  | (apply ev_min_a <;> first | ((with_reducible show _ = none); exact B.min) | (with_reducible show _ ≠ _) | walk_at "z") | (apply ev_max_a <;> first | ((with_reducible show _ = none); exact B.max) | (with_reducible show _ ≠ _) | walk_at "z")
  | (apply ev_intb_a <;> first | ((with_reducible show _ = none); exact B.int) | walk_at "z")
  | (apply ev_str1_a <;> first | ((with_reducible show _ = none); exact B.str) | ((with_reducible show _ < _); first | assumption | omega | skip) | walk_at "z")
  | (apply ev_isiD_a (n := "int") <;> first | ((with_reducible show _ = none); first | exact B.isinstance | exact B.int) | exact bt_int | walk_at "z")
  | (apply ev_isiD_a (n := "bool") <;> first | ((with_reducible show _ = none); first | exact B.isinstance | exact B.bool) | exact bt_bool | walk_at "z")
  | (apply ev_isiD_a (n := "list") <;> first | ((with_reducible show _ = none); first | exact B.isinstance | exact B.list) | exact bt_list | walk_at "z")
  | (apply ev_isiD_a (n := "tuple") <;> first | ((with_reducible show _ = none); first | exact B.isinstance | exact B.tuple) | exact bt_tuple | walk_at "z")
  | (apply ev_isiD_a (n := "str") <;> first | ((with_reducible show _ = none); first | exact B.isinstance | exact B.str) | exact bt_str | walk_at "z")
  | (apply ev_and <;> walk_at "z") | (apply ev_or <;> walk_at "z") | (apply ev_one; walk_at "ev")
  | (apply ev_ifI <;> walk_at "z")
  | (apply EO.ev; walk_at "eo"))
local macro_rules | `(tactic| walk_at "eo") => `(tactic| first
  | (apply eo_lstZ <;> walk_at "z")
  | (apply eo_list_a <;> first | ((with_reducible show _ = none); exact B.list) | walk_at "z") | (apply eo_listfZ_a <;> first | ((with_reducible show _ = none); exact B.list) | walk_at "z")
  | walk_at "calo"
  | (apply eo_lcI_a <;> walk_at "zl") | (apply eo_lcfI_a <;> walk_at "zl"))
local macro_rules | `(tactic| walk_at "eoR") => `(tactic| first | (apply eo_lcR_a <;> walk_at "zl") | (apply eo_lcfR_a <;> walk_at "zl"))
local macro_rules | `(tactic| walk_at "eoS") => `(tactic| first | (apply eo_lcS_a <;> walk_at "zl") | (apply eo_lcfS_a <;> walk_at "zl"))
local macro_rules | `(tactic| walk_at "eoG") => `(tactic| first | (apply eo_lcG_a <;> walk_at "zl") | (apply eo_lcfG_a <;> walk_at "zl"))
local macro_rules | `(tactic| walk_at "tv") => `(tactic| first
  | (apply tv_not; walk_at "tv") | (apply TW.tv; walk_at "tw")
  | (apply tv_isND <;> walk_at "z") | (apply tv_notND <;> walk_at "z")
  | (apply tv_cmpD_a <;> walk_at "z")
  | (apply tv_lelt_a <;> walk_at "z") | (apply tv_lele_a <;> walk_at "z")
  | (apply tv_bl_a <;> walk_at "z"))
local macro_rules | `(tactic| walk_at "tw") => `(tactic| first
  | (apply tw_and1; walk_at "tv") | (apply tw_or1; walk_at "tv")
  | (apply tw_and <;> walk_at "z") | (apply tw_or <;> walk_at "z"))
local macro_rules | `(tactic| walk_at "od") => `(tactic| first | exact od_add | exact od_sub | (apply od_mul; walk_at "side") | (apply od_mod; walk_at "side") | (apply od_div; walk_at "side") | (apply od_pow; walk_at "side") | (apply od_adds; walk_at "side") | (apply od_repS <;> walk_at "side"))
local macro_rules | `(tactic| walk_at "cd") => `(tactic| first
  | exact cd_lt | exact cd_le | exact cd_gt | exact cd_ge | exact cd_eqI | exact cd_neI | exact cd_eqS | exact cd_neS | exact cd_eqB | exact cd_neB
  | exact cd_inI | exact cd_ninI | exact cd_inSs | exact cd_ninSs | exact cd_inSg | exact cd_ninSg
  | (apply cd_inT <;> first | ((with_reducible show Sd _); walk_at "side") | rfl) | (apply cd_inL <;> first | ((with_reducible show Sd _); walk_at "side") | rfl) | (apply cd_ninL <;> first | ((with_reducible show Sd _); walk_at "side") | rfl)
  | (with_reducible apply cd_eqR) <;> first | ((with_reducible show Sd _); walk_at "side") | exact hr.units
  | (with_reducible apply cd_neR) <;> first | ((with_reducible show Sd _); walk_at "side") | exact hr.units
  | (apply cd_eqD <;> first | ((with_reducible show Sd _); walk_at "side") | exact hr.units) | (apply cd_neD <;> first | ((with_reducible show Sd _); walk_at "side") | exact hr.units))
local macro_rules | `(tactic| walk_at "ia") => `(tactic| first | (apply ia_int <;> walk_at "side") | (apply ia_rows <;> walk_at "side") | (apply ia_strs <;> walk_at "side") | (apply ia_lits <;> walk_at "z") | assumption | rfl)
local macro_rules | `(tactic| walk_at "io") => `(tactic| first | exact IntsOf.nil | (apply IntsOf.cons; walk_at "io"))
local macro_rules | `(tactic| walk_at "ix") => `(tactic| first | (apply ix_l; walk_at "ia") | (apply ix_t; first | rfl | walk_at "ia") | (apply ix_s <;> walk_at "side") | (apply ix_zs <;> walk_at "side"))
local macro_rules | `(tactic| walk_at "ld") => `(tactic| first | exact ld_map | exact ld_lst | exact ld_tup | exact ld_scr | (apply ld_str; walk_at "side"))
local macro_rules | `(tactic| walk_at "gv") => `(tactic| first | (apply gv_nm_a <;> walk_at "z") | (apply gv_tup_a <;> walk_at "z") | (apply gv_lst_a <;> walk_at "z"))
local macro_rules | `(tactic| walk_at "gvs") => `(tactic| first | exact gvs_nil | (apply gvs_cons_a <;> walk_at "z"))
local macro_rules | `(tactic| walk_at "im") => `(tactic| first
  | (apply im_rng_a <;> first | ((with_reducible show _ = none); exact B.range) | walk_at "z") | (apply im_rngI_a <;> first | ((with_reducible show _ = none); exact B.range) | walk_at "z") | (apply im_rng2_a <;> first | ((with_reducible show _ = none); exact B.range) | walk_at "z")
  | (apply im_enum_a <;> first | ((with_reducible show _ = none); exact B.enumerate) | walk_at "z") | (apply im_enumL_a <;> first | ((with_reducible show _ = none); exact B.enumerate) | walk_at "z") | (apply im_rev_a <;> first | ((with_reducible show _ = none); exact B.reversed) | walk_at "z") | (apply im_revL_a <;> first | ((with_reducible show _ = none); exact B.reversed) | walk_at "z") | (apply im_zip_a <;> first | ((with_reducible show _ = none); exact B.zip) | walk_at "z")
  | (apply im_map; walk_at "ev") | (apply im_scr; walk_at "ev") | (apply im_tup; walk_at "ev") | (apply im_str; walk_at "ev") | (apply im_lst; walk_at "ev"))
local macro_rules | `(tactic| walk_at "sn") => `(tactic| first | exact sn_nil | exact sn_ints | exact sn_strs | exact sn_rows | exact sn_all)
local macro_rules | `(tactic| walk_at "std") => `(tactic| first | (apply st_ints <;> walk_at "side") | (apply st_all <;> walk_at "side"))
local macro_rules | `(tactic| walk_at "z") => `(tactic| first
  | ((with_reducible show EV _ _ _ _ _); walk_at "ev")
  | ((with_reducible show Rf _); exact ⟨rfl⟩) | ((with_reducible show Rd _); exact ⟨by decide⟩)
  | ((with_reducible show NAt _ _ _); walk_at "nat")
  | ((with_reducible show SAt _ _ _); walk_at "sat")
  | ((with_reducible show NmD _ _ _); first | exact NmD.v | exact NmD.o | exact NmD.t)
  | ((with_reducible show (_ : List Str) = _); assumption)
  | ((with_reducible show Sd _); walk_at "side")
  | ((with_reducible show List.Nodup _); assumption)
  | ((with_reducible show Put _ _ _ _); walk_at "put")
  | (with_reducible show Bk _ _ _ _)
  | ((with_reducible show Rv _); first | exact ⟨Or.inl rfl⟩ | exact ⟨Or.inr (Or.inl rfl)⟩ | exact ⟨Or.inr (Or.inr rfl)⟩)
  | ((with_reducible show Rl _); first | exact ⟨Or.inl rfl⟩ | exact ⟨Or.inr rfl⟩)
  | ((with_reducible show Rx _); exact ⟨fun _ _ => rfl⟩) | ((with_reducible show Rm _); first | exact ⟨nomark _⟩ | exact ⟨rfl⟩ | exact ⟨by with_unfolding_all rfl⟩) | ((with_reducible show Ru _); first | exact ⟨rfl⟩ | exact ⟨by with_unfolding_all rfl⟩)
  | ((with_reducible show Ri _); exact ⟨by intros; rfl⟩) | ((with_reducible show Rp _); exact ⟨PassesOwn.never⟩) | ((with_reducible show Rw _); exact ⟨sw_true rfl rfl rfl (by decide +kernel)⟩)
  | ((with_reducible show OpD _ _ _ _ _); walk_at "od")
  | ((with_reducible show CmpD _ _ _ _ _); walk_at "cd")
  | ((with_reducible show IxD _ _ _ _); walk_at "ix")
  | ((with_reducible show LenD _ _ _); walk_at "ld")
  | ((with_reducible show TV _ _ _ _); walk_at "tv")
  | ((with_reducible show TW _ _ _ _); walk_at "tw")
  | ((with_reducible show AV _ _ _ _ _); first | exact av_nil | (apply av_cons_a <;> walk_at "z"))
  | ((with_reducible show EO _ _ _ _); walk_at "eo")
  | ((with_reducible show GV _ _ _ _ _ _); walk_at "gv")
  | ((with_reducible show GVs _ _ _ _ _ _); walk_at "gvs")
  | ((with_reducible show ITM _ _ _ _ _ _); walk_at "im")
  | ((with_reducible show SnD _ _ _); walk_at "sn")
  | ((with_reducible show StD _ _ _ _); walk_at "std")
  | ((with_reducible show NonD _ _); exact (rfl : NonD _ _))
  | ((with_reducible show atI _ _ = _); walk_at "ia")
  | ((with_reducible show Le _ _); walk_at "le")
  | ((with_reducible show IniD _ _ _); walk_at "ini")
  | ((with_reducible show IntsOf _ _); walk_at "io")
  | ((with_reducible show OwnOf _ _ _); first | (apply OwnOf.name; walk_at "nat") | (apply OwnOf.tup; walk_at "owns"))
  | ((with_reducible show WipR _ _ _); first | exact WipR.nil | (apply WipR.cons <;> walk_at "z"))
  | ((with_reducible show BlkOk _ _ _ _); first | exact blk_of hS (by decide +kernel) rfl rfl | exact blk_in (by decide +kernel) hN)
  | (with_reducible show CTA _ _)
  | ((with_reducible show Gl _ _); exact rfl)
  | ((with_reducible show _ = _); rfl)
  | (with_reducible show _ → Int) | (with_reducible show _ → D) | (with_reducible show _ → Bool) | (with_reducible show _ → Str) | (with_reducible show _ → List Int)
  | ((with_reducible show _ = _ → _); intro hz; walk_at "z"))
local macro_rules | `(tactic| walk_at "cale") => `(tactic| fail)
local macro_rules | `(tactic| walk_at "caloe") => `(tactic| fail)
local macro_rules | `(tactic| walk_at "norm") => `(tactic| (apply bk_put <;> walk_at "z"))
local macro_rules | `(tactic| walk_at "stE") => `(tactic| (show Bk _ (_ :: _) _ _; first
  | (apply bk_setoE_a <;> first | walk_at "caloe" | ((with_reducible show ∀ _, _ → Bk _ _ _ _); skip) | walk_at "z")
  | (apply bk_setE_a <;> first | walk_at "cale" | ((with_reducible show ∀ _, _ → Bk _ _ _ _); skip) | walk_at "z")
  | (apply bk_asgE_a <;> first | walk_at "cale" | ((with_reducible show ∀ _, _ → ∃ _ _, _); skip) | walk_at "z")
  | (apply bk_retoE <;> first | walk_at "caloe" | skip) | (apply bk_retE <;> first | walk_at "cale" | skip)))
local macro_rules | `(tactic| walk_at "st") => `(tactic| (show Bk _ (_ :: _) _ _; first
  | (apply bk_seto_a <;> walk_at "z")
  | (apply bk_set_a <;> walk_at "z")
  | (apply bk_asg_a <;> walk_at "z")
  | (apply bk_append_a <;> walk_at "z")
  | (apply bk_aug_a <;> walk_at "z") | (apply bk_augm_a <;> walk_at "z") | (apply bk_augx_a <;> walk_at "z")
  | (apply bk_seti_a <;> walk_at "z") | (apply bk_augi_a <;> walk_at "z")
  | (apply bk_expr_a <;> walk_at "z")
  | apply bk_pass))
local macro_rules | `(tactic| walk_at "st*") => `(tactic| repeat walk_at "st")
local macro_rules | `(tactic| walk_at "if") => `(tactic| (show Bk _ (_ :: _) _ _; apply bk_if <;> first | ((with_reducible show TV _ _ _ _); walk_at "tv") | ((with_reducible show _ = _ → _); intro hc) | skip))
local macro_rules | `(tactic| walk_at "reto") => `(tactic| (show Bk _ (_ :: _) _ _; first | (apply bk_reton_a <;> first | walk_at "z" | skip) | (apply bk_reto <;> first | ((with_reducible show EO _ _ _ _); walk_at "eo") | skip)))
local macro_rules | `(tactic| walk_at "ret") => `(tactic| (show Bk _ (_ :: _) _ _; apply bk_ret <;> first | ((with_reducible show EV _ _ _ _ _); walk_at "ev") | skip))
local macro_rules | `(tactic| walk_at "turn") => `(tactic| (apply tn_mk <;> walk_at "z"))
local macro_rules | `(tactic| walk_at "owns") => `(tactic| first | exact OwnsOf.nil | (apply OwnsOf.cons <;> first | walk_at "nat" | walk_at "owns"))
local macro_rules | `(tactic| walk_at "zl") => `(tactic| try walk_at "z")
local macro_rules | `(tactic| walk_at "ct1") => `(tactic| first
  | (intro _ _ _ _ _ hN; first | ((with_reducible show GV _ _ _ _ _ _); walk_at "gv") | ((with_reducible show EV _ _ _ _ _); walk_at "ev") | ((with_reducible show TV _ _ _ _); walk_at "tv"))
  | (intro hz _ _ _ _ _ hN; (with_reducible show EV _ _ _ _ _); walk_at "ev") | decide | skip)
local macro_rules | `(tactic| walk_at "ct") => `(tactic| first | (apply ct_mk <;> walk_at "ct1") | (apply ctf_mk <;> walk_at "ct1"))
local macro_rules | `(tactic| walk_at "lcI") => `(tactic| (show Bk _ (_ :: _) _ _; first | (apply bk_lcI_a <;> walk_at "z") | (apply bk_lcfI_a <;> walk_at "z") | (apply bk_seto_a <;> first | ((with_reducible show EO _ _ _ _); first | (apply eo_lcI_a <;> walk_at "zl") | (apply eo_lcfI_a <;> walk_at "zl")) | walk_at "z")))
local macro_rules | `(tactic| walk_at "lcS") => `(tactic| (show Bk _ (_ :: _) _ _; first | (apply bk_lcS_a <;> walk_at "z") | (apply bk_lcfS_a <;> walk_at "z") | (apply bk_seto_a <;> first | ((with_reducible show EO _ _ _ _); first | (apply eo_lcS_a <;> walk_at "zl") | (apply eo_lcfS_a <;> walk_at "zl")) | walk_at "z")))
local macro_rules | `(tactic| walk_at "lcR") => `(tactic| (show Bk _ (_ :: _) _ _; first | (apply bk_lcR_a <;> walk_at "z") | (apply bk_lcfR_a <;> walk_at "z") | (apply bk_seto_a <;> first | ((with_reducible show EO _ _ _ _); first | (apply eo_lcR_a <;> walk_at "zl") | (apply eo_lcfR_a <;> walk_at "zl")) | walk_at "z")))
local macro_rules | `(tactic| walk_at "lcG") => `(tactic| (show Bk _ (_ :: _) _ _; first | (apply bk_lcG_a <;> walk_at "z") | (apply bk_lcfG_a <;> walk_at "z") | (apply bk_seto_a <;> first | ((with_reducible show EO _ _ _ _); first | (apply eo_lcG_a <;> walk_at "zl") | (apply eo_lcfG_a <;> walk_at "zl")) | walk_at "z")))
local macro_rules | `(tactic| walk_at "dbg set") => `(tactic| (show Bk _ (_ :: _) _ _; apply bk_set_a; all_goals (try walk_at "z")))
local macro_rules | `(tactic| walk_at "dbg app") => `(tactic| (show Bk _ (_ :: _) _ _; apply bk_append_a; all_goals (try walk_at "z")))
local macro_rules | `(tactic| walk_at "dbg bin") => `(tactic| (apply ev_bin; all_goals (try walk_at "z")))
local macro_rules | `(tactic| walk_at "while") => `(tactic| (apply wh_mk <;> first | ((with_reducible show TV _ _ _ _); walk_at "tv") | (intro hc) | skip))
set_option hygiene false in
local macro_rules | `(tactic| walk_at "argsok") => `(tactic| (refine argsOkZ (by exact rfl) ?_; repeat first | exact True.intro | (refine And.intro (by first | exact True.intro | exact rfl | exact Exists.intro _ (Exists.intro _ (And.intro rfl rfl))) ?_)))

def topS (i : Nat) : Stmt := PySem.Challenge.pw_rentshare_k11_houses_made.main.body.getD i (.Pass ⟨0, 0, 0, 0⟩)
abbrev s_House_init : Stmt := inClass (topS 7) 0
abbrev s_House_initX : Stmt := inClass (topS 7) 0
abbrev s_House_people : Stmt := inClass (topS 7) 1
abbrev s_House_rooms : Stmt := inClass (topS 7) 2
abbrev s_at : Stmt := topS 9
abbrev s_draw : Stmt := topS 10
abbrev s_mixed : Stmt := topS 11
abbrev s_lbeds : Stmt := topS 12
abbrev s_whole : Stmt := topS 15
abbrev s_wholes : Stmt := topS 16
abbrev s_lworths : Stmt := topS 13
abbrev s_lhouse : Stmt := topS 14
abbrev s_lrefusal : Stmt := topS 17
abbrev s_lmade : Stmt := topS 18
abbrev s_lright : Stmt := topS 19
abbrev s_law : Stmt := topS 20
section
variable [τ : Tb] {P : Program} {w : World} {K : PySem.W.Frag} {mg : Str → Option Value} {base : Heap}
/-! ### houses -/
def houseD (C : Addr) (beds : List Int) (ws : List (List Int)) (rent : Int) : D := .obj C [("beds", intsD beds), ("worths", rowsD ws), ("rent", .int rent)]
def houseT (C : Addr) (beds : List Int) (ws : List (List Int)) (rent : Int) : T := .ob C [("beds", T.l (beds.map .int)), ("worths", .ls (ws.map fun r => T.l (r.map .int))), ("rent", .fz (.int rent))]
theorem dl_rows : ∀ ws : List (List Int), T.dl (ws.map fun r => T.l (r.map .int)) = ws.map intsD
  | [] => by rw [List.map_nil, T.dl]; rfl
  | r :: ws => by rw [List.map_cons, T.dl, dl_rows ws, T.d_l]; rfl
theorem houseT_d (C : Addr) (beds : List Int) (ws : List (List Int)) (rent : Int) : (houseT C beds ws rent).d = houseD C beds ws rent := by
  unfold houseT houseD
  rw [T.d, T.df, T.df, T.df, T.df, T.d_l, T.d, T.d, dl_rows]
/-- a house as laws make it -/
structure HouseOk (beds : List Int) (ws : List (List Int)) : Prop where
  bl : beds.length ≤ 1000
  wl : ws.length ≤ 1000
  rl : ∀ r ∈ ws, r.length = beds.length
  fit : (ws.length : Int) ≤ beds.sum
/-- rooms of a house with so many rooms -/
def InRooms (n : Nat) (way : List Int) : Prop := ∀ r ∈ way, 0 ≤ r ∧ r < (n : Int)
theorem get_ints {ns : List Int} {i : Nat} {d : D} (h : (ns.map D.int)[i]? = some d) : ∃ k, ns[i]? = some k ∧ d = .int k := by
  rw [List.getElem?_map] at h
  cases e : ns[i]? with
  | none => rw [e] at h; cases h
  | some k => rw [e] at h; cases h; exact ⟨k, rfl, rfl⟩
theorem get_rows {ws : List (List Int)} {i : Nat} {d : D} (h : (ws.map intsD)[i]? = some d) : ∃ k, ws[i]? = some k ∧ d = intsD k := by
  rw [List.getElem?_map] at h
  cases e : ws[i]? with
  | none => rw [e] at h; cases h
  | some k => rw [e] at h; cases h; exact ⟨k, rfl, rfl⟩
theorem take_snoc {α : Type} {l : List α} {i : Nat} {x : α} (h : l[i]? = some x) : l.take (i + 1) = l.take i ++ [x] := by
  rw [List.take_add_one, h]; rfl
theorem ixN_nat {n : Nat} {i : Int} {k : Nat} (e : i = (k : Int)) (h : k < n) : ixN n i = some k := by
  subst e
  unfold ixN
  rw [if_pos (by omega), if_pos (by omega)]; simp
local macro_rules | `(tactic| walk_at "fld") => `(tactic| (apply ev_fld_a <;> first | ((with_reducible show EV _ _ _ _ _); walk_at "ev") | exact T_House.cl | exact T_House.na _ (by decide) | exact rfl | walk_at "z"))

def sp_House_init (C : Addr) : List Sl → D → List Sl → Prop := fun Δ d Δ' => ∃ a beds ws rent, Δ = [.w (some a) (.ob C []), .v (intsD beds), .v (rowsD ws), .v (.int rent)] ∧ (ws.length : Int) ≤ beds.sum ∧ ws.length ≤ 1000 ∧ d = .non ∧ Δ' = [.w (some a) (houseT C beds ws rent), .v (intsD beds), .v (rowsD ws), .v (.int rent)]
theorem sc_House_init : FnScope ["self", "beds", "worths", "rent", "row"] ["self", "beds", "worths", "rent"] (defScope s_House_init) := ⟨rfl, rfl, rfl, by decide +kernel, rfl, by decide +kernel, by decide +kernel⟩
theorem kn_House_init (B : Bl mg) {C_House : Addr} (T_House : TyC K mg "House" C_House ["beds", "worths", "rent"]) (TT : AtI K C_House "House.__init__" s_House_init ["self", "beds", "worths", "rent"]) : FnI P w K mg base CX0 C_House 1 (sp_House_init C_House) := by
  obtain ⟨f, fd, Fn, mk, hb⟩ := TT.ex
  refine ⟨f, fd, _, fn_okM Fn sc_House_init (fun Δ d Δ' h => ?_) (fun cdv A outer s H E hr Δ d Δ' h => ?_), mk, hb⟩
  · obtain ⟨a, beds, ws, rent, rfl, _, _, rfl, rfl⟩ := h
    exact ⟨rfl, argsOk_w (argsOk_v (argsOk_v (argsOk_v argsOk_nil)))⟩
  · obtain ⟨a, beds, ws, rent, rfl, h1, h2, rfl, rfl⟩ := h
    have hsz := sizeLine_eq
    refine bk_cons (sm_if (tv_gt (ev_len rfl B.len (ev_v (i := 2) rfl rfl)) (ev_sum (ns := beds) rfl rfl B.sum (ev_v (i := 1) rfl rfl))) (fun hc => ?_) (fun hc => ?_))
    · have hc := of_decide_eq_true hc
      rw [List.length_map] at hc
      omega
    refine bk_nil ?_
    refine bk_cons (sm_setf (EO.et (eo_list rfl B.list (ev_v (i := 1) rfl rfl))) (ep_name (i := 0) rfl rfl) rfl rfl T_House.cl (T_House.na _ (by decide)) (show 0 < 1000 by decide) ?_)
    refine bk_cons (sm_setf (et_lc (own := [("row", 4)]) (f := fun d => T.l d.toL) (by rw [List.length_map]; omega) (it_list (ev_v (i := 2) rfl rfl)) (fun d hd => ⟨_, _, by decide, fun _ _ _ _ _ => gv_name (i := 4) sc_House_init.nd rfl (.inl rfl), fun _ _ _ _ _ => ?_⟩) sc_House_init.nd (blk_of sc_House_init (by decide +kernel) rfl rfl)) (ep_name (i := 0) rfl rfl) rfl rfl T_House.cl (T_House.na _ (by decide)) (show 1 < 1000 by decide) ?_)
    · obtain ⟨r, _, rfl⟩ := List.mem_map.mp hd
      exact EO.et (eo_list rfl B.list (ev_v (i := 4) rfl rfl))
    refine bk_cons (sm_setf (EV.et (ev_v (i := 3) rfl rfl)) (ep_name (i := 0) rfl rfl) rfl rfl T_House.cl (T_House.na _ (by decide)) (show 2 < 1000 by decide) ?_)
    refine bk_nil ⟨rfl, ?_⟩
    rw [List.map_map]
    exact upTo_w (upTo_v (upTo_v (upTo_v upTo_nil)))


def sp_House_initX (C CF : Addr) : List D → (XR → Prop) → Prop := fun ds R => ∃ beds ws rent, ds = [.obj C [], intsD beds, rowsD ws, .int rent] ∧ ¬ (ws.length : Int) ≤ beds.sum ∧ R = fun r => r = .ex CF
theorem sc_House_initX : FnScope ["self", "beds", "worths", "rent", "row"] ["self", "beds", "worths", "rent"] (defScope s_House_initX) := ⟨rfl, rfl, rfl, by decide +kernel, rfl, by decide +kernel, by decide +kernel⟩
theorem kn_House_initX (B : Bl mg) {C_House : Addr} (T_House : TyC K mg "House" C_House ["beds", "worths", "rent"]) {C_TooFew : Addr} (X_TooFew : TyE K mg "TooFew" C_TooFew) (TT : AtI K C_House "House.__init__" s_House_initX ["self", "beds", "worths", "rent"]) : FnIX P w K mg base CX0 C_House 1 (sp_House_initX C_House C_TooFew) := by
  obtain ⟨f, fd, Fn, mk, hb⟩ := TT.ex
  refine ⟨f, fd, _, fn_okX Fn sc_House_initX (fun ds R h => ?_) (fun cdv A outer s H E hr hN hnd ds R h => ?_), mk, hb⟩
  · obtain ⟨beds, ws, rent, rfl, _⟩ := h; rfl
  · obtain ⟨beds, ws, rent, rfl, h1, rfl⟩ := h
    refine bk_cons (sm_if (bb := true) (TV.is (tv_gt (ev_len rfl B.len (ev_v (i := 2) rfl rfl)) (ev_sum (ns := beds) rfl rfl B.sum (ev_v (i := 1) rfl rfl))) (decide_eq_true (by rw [List.length_map]; omega))) (fun hc => ?_) (fun hc => nomatch hc))
    exact bk_cons (sm_raise X_TooFew rfl rfl)


def sp_House_people (C : Addr) : List D → Res → Prop := fun ds r => ∃ beds ws rent, ds = [houseD C beds ws rent] ∧ r = .v (.int (ws.length : Int))
theorem sc_House_people : FnScope ["self"] ["self"] (defScope s_House_people) := ⟨rfl, rfl, rfl, by decide +kernel, rfl, by decide +kernel, by decide +kernel⟩
theorem kn_House_people (B : Bl mg) {C_House : Addr} (T_House : TyC K mg "House" C_House ["beds", "worths", "rent"]) (T : AtM K C_House "people" "House.people" s_House_people ["self"]) : FnM P w K mg base CX0 C_House "people" 1 (sp_House_people C_House) := by
  obtain ⟨f, fd, Fn, hm, hb⟩ := T.ex
  refine ⟨f, fd, _, fn_ok Fn sc_House_people (fun ds r h => ?_) (fun cdv A outer s H E hr ds r h => ?_), hm, hb⟩
  · obtain ⟨_, _, _, rfl, _⟩ := h; rfl
  · obtain ⟨beds, ws, rent, rfl, rfl⟩ := h
    refine bk_cons (sm_ret (ev_len rfl B.len (ev_fld (d := rowsD ws) (ev_v (i := 0) rfl rfl) T_House.cl (T_House.na _ (by decide)) rfl)) ?_)
    show Res.v _ = Res.v _
    rw [List.length_map]

local macro_rules | `(tactic| walk_at "call") => `(tactic| ((with_reducible show EV _ _ _ (.Call (.Attribute _ "people" _) _ _ _) _); apply ev_meth0_a <;> first | exact T_House.cl | exact k_House_people | ((with_reducible show Room _ _); exact hr.mono (by decide)) | ((with_reducible show Sd _); walk_at "side") | ((with_reducible show AV _ _ _ _ _); walk_at "z") | ((with_reducible show EV _ _ _ _ _); walk_at "z") | ((fail_if_success (with_reducible show AV _ _ _ _ _)); (fail_if_success (with_reducible show EV _ _ _ _ _)); first | walk_at "z" | (refine ⟨_, _, _, rfl, rfl⟩ <;> first | walk_at "sc" | walk_at "sd1" | skip) | skip)))

def sp_House_rooms (C : Addr) : List D → Res → Prop := fun ds r => ∃ beds ws rent, ds = [houseD C beds ws rent] ∧ r = .v (.int (beds.length : Int))
theorem sc_House_rooms : FnScope ["self"] ["self"] (defScope s_House_rooms) := ⟨rfl, rfl, rfl, by decide +kernel, rfl, by decide +kernel, by decide +kernel⟩
theorem kn_House_rooms (B : Bl mg) {C_House : Addr} (T_House : TyC K mg "House" C_House ["beds", "worths", "rent"]) (T : AtM K C_House "rooms" "House.rooms" s_House_rooms ["self"]) : FnM P w K mg base CX0 C_House "rooms" 1 (sp_House_rooms C_House) := by
  obtain ⟨f, fd, Fn, hm, hb⟩ := T.ex
  refine ⟨f, fd, _, fn_ok Fn sc_House_rooms (fun ds r h => ?_) (fun cdv A outer s H E hr ds r h => ?_), hm, hb⟩
  · obtain ⟨_, _, _, rfl, _⟩ := h; rfl
  · obtain ⟨beds, ws, rent, rfl, rfl⟩ := h
    refine bk_cons (sm_ret (ev_len rfl B.len (ev_fld (d := intsD beds) (ev_v (i := 0) rfl rfl) T_House.cl (T_House.na _ (by decide)) rfl)) ?_)
    show Res.v _ = Res.v _
    rw [List.length_map]

local macro_rules | `(tactic| walk_at "call") => `(tactic| ((with_reducible show EV _ _ _ (.Call (.Attribute _ "rooms" _) _ _ _) _); apply ev_meth0_a <;> first | exact T_House.cl | exact k_House_rooms | ((with_reducible show Room _ _); exact hr.mono (by decide)) | ((with_reducible show Sd _); walk_at "side") | ((with_reducible show AV _ _ _ _ _); walk_at "z") | ((with_reducible show EV _ _ _ _ _); walk_at "z") | ((fail_if_success (with_reducible show AV _ _ _ _ _)); (fail_if_success (with_reducible show EV _ _ _ _ _)); first | walk_at "z" | (refine ⟨_, _, _, rfl, rfl⟩ <;> first | walk_at "sc" | walk_at "sd1" | skip) | skip)))

def atS (ns : List Int) (k : Int) : Int := if 0 ≤ k ∧ k < (ns.length : Int) then ns.getD k.toNat 0 else 0
def sp_at : List D → Res → Prop := fun ds r => ∃ ns k, ds = [.scr ns, .int k] ∧ r = .v (.int (atS ns k))
theorem sc_at : FnScope ["_law_script", "_law_k"] ["_law_script", "_law_k"] (defScope s_at) := ⟨rfl, rfl, rfl, by decide +kernel, rfl, by decide +kernel, by decide +kernel⟩
theorem kn_at (B : Bl mg) (T : At K mg "_law_at" "_law_at" s_at ["_law_script", "_law_k"]) : FnK P w K mg base CX0 "_law_at" 1 sp_at := by
  obtain ⟨f, fd, Fn, hm, hb⟩ := T.ex
  refine ⟨f, fd, _, fn_ok Fn sc_at (fun ds r h => ?_) (fun cdv A outer s H E hr ds r h => ?_), hm, Fn.kp, hb⟩
  · obtain ⟨x0, x1, rfl, _⟩ := h; rfl
  · obtain ⟨ns, k, rfl, rfl⟩ := h
    refine bk_cons (sm_if (tv_lelt ev_int (ev_v (i := 1) rfl rfl) (ev_lens rfl B.len (ev_v (i := 0) rfl rfl))) (fun hc => ?_) (fun hc => ?_))
    · rw [Bool.and_eq_true] at hc
      have h1 := of_decide_eq_true hc.1
      have h2 := of_decide_eq_true hc.2
      obtain ⟨j, rfl⟩ : ∃ j : Nat, k = j := ⟨k.toNat, by omega⟩
      have hj : j < ns.length := by omega
      refine bk_cons (sm_ret (ev_ixs (j := ns[j]) (ev_v (i := 0) rfl rfl) (ev_v (i := 1) rfl rfl) (atI_nat (List.getElem?_eq_getElem hj))) ?_)
      show Res.v _ = Res.v _
      unfold atS
      rw [if_pos ⟨h1, h2⟩]
      simp [List.getD, List.getElem?_eq_getElem hj]
    · refine bk_nil (bk_cons (sm_ret ev_int ?_))
      show Res.v _ = Res.v _
      unfold atS
      rw [if_neg]
      rintro ⟨h1, h2⟩
      rw [decide_eq_true h1, decide_eq_true h2] at hc; cases hc

local macro_rules | `(tactic| walk_at "call") => `(tactic| ((with_reducible show EV _ _ _ (.Call (.Name "_law_at" _) _ _ _) _); apply ev_callF_a <;> first | exact k_at | ((with_reducible show Room _ _); exact hr.mono (by decide)) | ((with_reducible show Sd _); walk_at "side") | ((with_reducible show AV _ _ _ _ _); walk_at "z") | ((with_reducible show EV _ _ _ _ _); walk_at "z") | ((fail_if_success (with_reducible show AV _ _ _ _ _)); (fail_if_success (with_reducible show EV _ _ _ _ _)); first | walk_at "z" | (refine ⟨_, _, rfl, rfl⟩ <;> first | walk_at "sc" | walk_at "sd1" | skip) | skip)))
local macro_rules | `(tactic| walk_at "call") => `(tactic| ((with_reducible show EV _ _ _ (.Call (.Name "_law_at" _) _ _ _) _); apply ev_callT_a <;> first | exact k_at | ((with_reducible show Room _ _); exact hr.mono (by decide)) | ((with_reducible show Sd _); walk_at "side") | ((with_reducible show AV _ _ _ _ _); walk_at "z") | ((with_reducible show EV _ _ _ _ _); walk_at "z") | ((fail_if_success (with_reducible show AV _ _ _ _ _)); (fail_if_success (with_reducible show EV _ _ _ _ _)); first | walk_at "z" | (refine ⟨_, _, rfl, rfl⟩ <;> first | walk_at "sc" | walk_at "sd1" | skip) | skip)))

def drawI (c f m : Int) : Int := (c % 2147483647 + 5) * f % 2147483629 / 89 % m
theorem drawI_nn {c f m : Int} (h : 0 < m) : 0 ≤ drawI c f m := Int.emod_nonneg _ (by omega)
theorem drawI_lt {c f m : Int} (h : 0 < m) : drawI c f m < m := Int.emod_lt_of_pos _ h
def sp_draw : List D → Res → Prop := fun ds r => ∃ c f m : Int, ds = [.int c, .int f, .int m] ∧ 0 < m ∧ r = .v (.int (drawI c f m))
theorem sc_draw : FnScope ["_law_cell", "_law_factor", "_law_many"] ["_law_cell", "_law_factor", "_law_many"] (defScope s_draw) := ⟨rfl, rfl, rfl, by decide +kernel, rfl, by decide +kernel, by decide +kernel⟩
theorem kn_draw (T : At K mg "_law_draw" "_law_draw" s_draw ["_law_cell", "_law_factor", "_law_many"]) : FnK P w K mg base CX0 "_law_draw" 1 sp_draw := by
  obtain ⟨f, fd, Fn, hm, hb⟩ := T.ex
  refine ⟨f, fd, _, fn_ok Fn sc_draw (fun ds r h => ?_) (fun cdv A outer s H E hr ds r h => ?_), hm, Fn.kp, hb⟩
  · obtain ⟨x0, x1, x2, rfl, _⟩ := h; rfl
  · obtain ⟨c, f, m, rfl, h1, rfl⟩ := h
    have c1 := Int.emod_nonneg c (show (2147483647 : Int) ≠ 0 by decide)
    have c2 := Int.emod_lt_of_pos c (show (0 : Int) < 2147483647 by decide)
    exact bk_cons (sm_ret (ev_mod (ev_div (ev_mod (ev_mul (ev_add (ev_mod (ev_v (i := 0) rfl rfl) ev_int (by decide)) ev_int) (ev_v (i := 1) rfl rfl) (mulokL (by omega) (by omega))) ev_int (by decide)) ev_int (divok (by decide) (by decide))) (ev_v (i := 2) rfl rfl) h1) rfl)

local macro_rules | `(tactic| walk_at "call") => `(tactic| ((with_reducible show EV _ _ _ (.Call (.Name "_law_draw" _) _ _ _) _); apply ev_callF_a <;> first | exact k_draw | ((with_reducible show Room _ _); exact hr.mono (by decide)) | ((with_reducible show Sd _); walk_at "side") | ((with_reducible show AV _ _ _ _ _); walk_at "z") | ((with_reducible show EV _ _ _ _ _); walk_at "z") | ((fail_if_success (with_reducible show AV _ _ _ _ _)); (fail_if_success (with_reducible show EV _ _ _ _ _)); first | walk_at "z" | (refine ⟨_, _, _, rfl, ?_, rfl⟩ <;> first | walk_at "sc" | walk_at "sd1" | skip) | skip)))
local macro_rules | `(tactic| walk_at "call") => `(tactic| ((with_reducible show EV _ _ _ (.Call (.Name "_law_draw" _) _ _ _) _); apply ev_callT_a <;> first | exact k_draw | ((with_reducible show Room _ _); exact hr.mono (by decide)) | ((with_reducible show Sd _); walk_at "side") | ((with_reducible show AV _ _ _ _ _); walk_at "z") | ((with_reducible show EV _ _ _ _ _); walk_at "z") | ((fail_if_success (with_reducible show AV _ _ _ _ _)); (fail_if_success (with_reducible show EV _ _ _ _ _)); first | walk_at "z" | (refine ⟨_, _, _, rfl, ?_, rfl⟩ <;> first | walk_at "sc" | walk_at "sd1" | skip) | skip)))

def mixed (c k : Int) : Int := ((c % 2147483647 + 1) * (48271 + 2 * k * k) % 2147483647) * ((c % 2147483647 + 1) * (48271 + 2 * k * k) % 2147483647) % 2147483629
theorem mixed_nn (c k : Int) : 0 ≤ mixed c k := Int.emod_nonneg _ (by decide)
theorem mixed_lt (c k : Int) : mixed c k < 2147483629 := Int.emod_lt_of_pos _ (by decide)
def sp_mixed : List D → Res → Prop := fun ds r => ∃ c k, ds = [.int c, .int k] ∧ -1000000 ≤ k ∧ k ≤ 1000000 ∧ r = .v (.int (mixed c k))
theorem sc_mixed : FnScope ["_law_cell", "_law_k", "_law_m"] ["_law_cell", "_law_k"] (defScope s_mixed) := ⟨rfl, rfl, rfl, by decide +kernel, rfl, by decide +kernel, by decide +kernel⟩
theorem kn_mixed (T : At K mg "_law_mixed" "_law_mixed" s_mixed ["_law_cell", "_law_k"]) : FnK P w K mg base CX0 "_law_mixed" 1 sp_mixed := by
  obtain ⟨f, fd, Fn, hm, hb⟩ := T.ex
  refine ⟨f, fd, _, fn_ok Fn sc_mixed (fun ds r h => ?_) (fun cdv A outer s H E hr ds r h => ?_), hm, Fn.kp, hb⟩
  · obtain ⟨x0, x1, rfl, _⟩ := h; rfl
  · obtain ⟨c, k, rfl, h1, h2, rfl⟩ := h
    have c1 := Int.emod_nonneg c (show (2147483647 : Int) ≠ 0 by decide)
    have c2 := Int.emod_lt_of_pos c (show (0 : Int) < 2147483647 by decide)
    have m1 := Int.emod_nonneg ((c % 2147483647 + 1) * (48271 + 2 * k * k)) (show (2147483647 : Int) ≠ 0 by decide)
    have m2 := Int.emod_lt_of_pos ((c % 2147483647 + 1) * (48271 + 2 * k * k)) (show (0 : Int) < 2147483647 by decide)
    refine bk_cons (sm_set (i := 2) sc_mixed.nd rfl (.inl rfl) (ev_mod (ev_mul (ev_add (ev_mod (ev_v (i := 0) rfl rfl) ev_int (by walk_at "sc")) ev_int) (ev_add ev_int (ev_mul (ev_mul ev_int (ev_v (i := 1) rfl rfl) (by walk_at "sc")) (ev_v (i := 1) rfl rfl) (by walk_at "sc"))) (by walk_at "sc")) ev_int (by walk_at "sc")) ?_)
    exact bk_cons (sm_ret (ev_mod (ev_mul (ev_v (i := 2) rfl rfl) (ev_v (i := 2) rfl rfl) (by walk_at "sc")) ev_int (by walk_at "sc")) rfl)

local macro_rules | `(tactic| walk_at "call") => `(tactic| ((with_reducible show EV _ _ _ (.Call (.Name "_law_mixed" _) _ _ _) _); apply ev_callF_a <;> first | exact k_mixed | ((with_reducible show Room _ _); exact hr.mono (by decide)) | ((with_reducible show Sd _); walk_at "side") | ((with_reducible show AV _ _ _ _ _); walk_at "z") | ((with_reducible show EV _ _ _ _ _); walk_at "z") | ((fail_if_success (with_reducible show AV _ _ _ _ _)); (fail_if_success (with_reducible show EV _ _ _ _ _)); first | walk_at "z" | (refine ⟨_, _, rfl, ?_, ?_, rfl⟩ <;> first | walk_at "sc" | walk_at "sd1" | skip) | skip)))
local macro_rules | `(tactic| walk_at "call") => `(tactic| ((with_reducible show EV _ _ _ (.Call (.Name "_law_mixed" _) _ _ _) _); apply ev_callT_a <;> first | exact k_mixed | ((with_reducible show Room _ _); exact hr.mono (by decide)) | ((with_reducible show Sd _); walk_at "side") | ((with_reducible show AV _ _ _ _ _); walk_at "z") | ((with_reducible show EV _ _ _ _ _); walk_at "z") | ((fail_if_success (with_reducible show AV _ _ _ _ _)); (fail_if_success (with_reducible show EV _ _ _ _ _)); first | walk_at "z" | (refine ⟨_, _, rfl, ?_, ?_, rfl⟩ <;> first | walk_at "sc" | walk_at "sd1" | skip) | skip)))

def bedK (first : Int) (k : Nat) : Int := [1, 1, 2, 1, 3, 1, 2, 4].getD (mixed first (30 + (k : Int)) % 8).toNat 0
def bedsL (first : Int) (n : Nat) : List Int := (List.range n).map fun k : Nat => bedK first k
theorem bedsL_len (first : Int) (n : Nat) : (bedsL first n).length = n := by simp [bedsL]
theorem bedK_pos (first : Int) (k : Nat) : 1 ≤ bedK first k ∧ bedK first k ≤ 4 := by
  unfold bedK
  have h0 := Int.emod_nonneg (mixed first (30 + (k : Int))) (show (8 : Int) ≠ 0 by decide)
  have h1 := Int.emod_lt_of_pos (mixed first (30 + (k : Int))) (show (0 : Int) < 8 by decide)
  obtain ⟨j, hj⟩ : ∃ j : Nat, mixed first (30 + (k : Int)) % 8 = (j : Int) := ⟨_, (Int.toNat_of_nonneg h0).symm⟩
  rw [hj] at h1 ⊢
  have h2 : j < 8 := by omega
  have h3 : j ∈ [0, 1, 2, 3, 4, 5, 6, 7] := by
    simp; omega
  simp at h3
  rcases h3 with rfl | rfl | rfl | rfl | rfl | rfl | rfl | rfl <;> decide
theorem bedsL_pos {first : Int} {n : Nat} : ∀ b ∈ bedsL first n, 1 ≤ b ∧ b ≤ 4 := fun b hb => by
  obtain ⟨k, _, rfl⟩ := List.mem_map.mp hb
  exact bedK_pos first k
def sp_lbeds : List D → Res → Prop := fun ds r => ∃ (first : Int) (n : Nat), ds = [.int first, .int (n : Int)] ∧ n ≤ 1000 ∧ r = .o ((bedsL first n).map .int)
theorem sc_lbeds : FnScope ["_law_first", "_law_many", "_law_beds_here", "_law_k"] ["_law_first", "_law_many"] (defScope s_lbeds) := ⟨rfl, rfl, rfl, by decide +kernel, rfl, by decide +kernel, by decide +kernel⟩
theorem kn_lbeds (B : Bl mg) (k_mixed : FnK P w K mg base CX0 "_law_mixed" 1 sp_mixed) (T : At K mg "_law_beds" "_law_beds" s_lbeds ["_law_first", "_law_many"]) : FnK P w K mg base CX0 "_law_beds" 2 sp_lbeds := by
  obtain ⟨f, fd, Fn, hm, hb⟩ := T.ex
  refine ⟨f, fd, _, fn_ok Fn sc_lbeds (fun ds r h => ?_) (fun cdv A outer s H E hr ds r h => ?_), hm, Fn.kp, hb⟩
  · obtain ⟨x0, x1, rfl, _⟩ := h; rfl
  · obtain ⟨first, n, rfl, h1, rfl⟩ := h
    have hsz := sizeLine_eq
    refine bk_cons (sm_seto (i := 2) sc_lbeds.nd rfl (.inl rfl) (eo_lst av_nil (by simp)) ?_)
    refine bk_cons (sm_for (it_range1 rfl B.range (ev_v (i := 1) rfl rfl) (by omega) (by omega)) (fun i Δ => ∃ a, Δ = [.v (.int first), .v (.int (n : Int)), .o ((bedsL first i).map .int), a]) ⟨_, rfl⟩ (fun i d Δi hd hI => ?_) (fun Δn hI => ?_))
    · obtain ⟨a, rfl⟩ := hI
      obtain ⟨hi, rfl⟩ := rngD_get hd
      have e0 : (0 : Int) + (i : Int) = (i : Int) := by omega
      rw [e0]
      refine ⟨_, _, (gv_name (i := 3) sc_lbeds.nd rfl (.inl rfl)), ?_⟩
      have m0 := Int.emod_nonneg (mixed first (30 + (i : Int))) (show (8 : Int) ≠ 0 by decide)
      have m1 := Int.emod_lt_of_pos (mixed first (30 + (i : Int))) (show (0 : Int) < 8 by decide)
      refine bk_cons (sm_append (i := 2) rfl rfl (ev_ix (d := .int (bedK first i)) (ev_lst (av_cons ev_int (av_cons ev_int (av_cons ev_int (av_cons ev_int (av_cons ev_int (av_cons ev_int (av_cons ev_int (av_cons ev_int av_nil)))))))) (by simp)) (ev_mod (i := mixed first (30 + (i : Int))) (ev_call k_mixed (hr.mono (by decide)) rfl (av_cons (ev_v (i := 0) rfl rfl) (av_cons (ev_add ev_int (ev_v (i := 3) rfl rfl)) av_nil)) ⟨_, _, rfl, by omega, by omega, rfl⟩) ev_int (by decide)) (at_ints (ns := [1, 1, 2, 1, 3, 1, 2, 4]) m0 (by show _ < ((8 : Nat) : Int); omega))) (by rw [List.length_map, bedsL_len]; omega) ?_)
      refine bk_nil ?_
      show ∃ a, _ = [_, _, Sl.o ((bedsL first (i + 1)).map .int), a]
      rw [show bedsL first (i + 1) = bedsL first i ++ [bedK first i] by unfold bedsL; rw [List.range_succ, List.map_append]; rfl, List.map_append]
      exact ⟨_, rfl⟩
    · obtain ⟨a, rfl⟩ := hI
      rw [rngD_len]
      exact bk_cons (sm_reton (i := 2) rfl rfl rfl)

local macro_rules | `(tactic| walk_at "calo") => `(tactic| ((with_reducible show EO _ _ (.Call (.Name "_law_beds" _) _ _ _) _); apply eo_callF_a <;> first | exact k_lbeds | ((with_reducible show Room _ _); exact hr.mono (by decide)) | ((with_reducible show Sd _); walk_at "side") | ((with_reducible show AV _ _ _ _ _); walk_at "z") | ((with_reducible show EV _ _ _ _ _); walk_at "z") | ((fail_if_success (with_reducible show AV _ _ _ _ _)); (fail_if_success (with_reducible show EV _ _ _ _ _)); first | walk_at "z" | (refine ⟨_, _, rfl, ?_, rfl⟩ <;> first | walk_at "sc" | walk_at "sd1" | skip) | skip)))
local macro_rules | `(tactic| walk_at "calo") => `(tactic| ((with_reducible show EO _ _ (.Call (.Name "_law_beds" _) _ _ _) _); apply eo_callT_a <;> first | exact k_lbeds | ((with_reducible show Room _ _); exact hr.mono (by decide)) | ((with_reducible show Sd _); walk_at "side") | ((with_reducible show AV _ _ _ _ _); walk_at "z") | ((with_reducible show EV _ _ _ _ _); walk_at "z") | ((fail_if_success (with_reducible show AV _ _ _ _ _)); (fail_if_success (with_reducible show EV _ _ _ _ _)); first | walk_at "z" | (refine ⟨_, _, rfl, ?_, rfl⟩ <;> first | walk_at "sc" | walk_at "sd1" | skip) | skip)))

def sp_whole : List D → Res → Prop := fun ds r => ∃ i : Int, ds = [.int i] ∧ r = .v (.bl true)
theorem sc_whole : FnScope ["_law_found"] ["_law_found"] (defScope s_whole) := ⟨rfl, rfl, rfl, by decide +kernel, rfl, by decide +kernel, by decide +kernel⟩
theorem isD_int (i : Int) : isD (.int i) "int" = true := by show isD (.int _) "int" = true; rfl
theorem isD_intb (i : Int) : isD (.int i) "bool" = false := by show isD (.int _) "bool" = false; rfl
theorem kn_whole (B : Bl mg) (T : At K mg "_law_whole" "_law_whole" s_whole ["_law_found"]) : FnK P w K mg base CX0 "_law_whole" 1 sp_whole := by
  obtain ⟨f, fd, Fn, hm, hb⟩ := T.ex
  refine ⟨f, fd, _, fn_ok Fn sc_whole (fun ds r h => ?_) (fun cdv A outer s H E hr ds r h => ?_), hm, Fn.kp, hb⟩
  · obtain ⟨x0, rfl, _⟩ := h; rfl
  · obtain ⟨i, rfl, rfl⟩ := h
    refine bk_cons (sm_ret (ev_and (ev_isi rfl B.isinstance (ev_v (i := 0) rfl rfl) rfl rfl B.int bt_int rfl) fun _ => (ev_one (ev_not (ev_isi rfl B.isinstance (ev_v (i := 0) rfl rfl) rfl rfl B.bool bt_bool rfl)))) ?_)
    show Res.v _ = Res.v _
    rw [isD_int, isD_intb]; rfl

local macro_rules | `(tactic| walk_at "call") => `(tactic| ((with_reducible show EV _ _ _ (.Call (.Name "_law_whole" _) _ _ _) _); apply ev_callF_a <;> first | exact k_whole | ((with_reducible show Room _ _); exact hr.mono (by decide)) | ((with_reducible show Sd _); walk_at "side") | ((with_reducible show AV _ _ _ _ _); walk_at "z") | ((with_reducible show EV _ _ _ _ _); walk_at "z") | ((fail_if_success (with_reducible show AV _ _ _ _ _)); (fail_if_success (with_reducible show EV _ _ _ _ _)); first | walk_at "z" | (refine ⟨_, rfl, rfl⟩ <;> first | walk_at "sc" | walk_at "sd1" | skip) | skip)))
local macro_rules | `(tactic| walk_at "call") => `(tactic| ((with_reducible show EV _ _ _ (.Call (.Name "_law_whole" _) _ _ _) _); apply ev_callT_a <;> first | exact k_whole | ((with_reducible show Room _ _); exact hr.mono (by decide)) | ((with_reducible show Sd _); walk_at "side") | ((with_reducible show AV _ _ _ _ _); walk_at "z") | ((with_reducible show EV _ _ _ _ _); walk_at "z") | ((fail_if_success (with_reducible show AV _ _ _ _ _)); (fail_if_success (with_reducible show EV _ _ _ _ _)); first | walk_at "z" | (refine ⟨_, rfl, rfl⟩ <;> first | walk_at "sc" | walk_at "sd1" | skip) | skip)))

def sp_wholes : List D → Res → Prop := fun ds r => ∃ xs : List Int, ds = [intsD xs, intsD xs] ∧ r = .v (.bl true)
theorem sc_wholes : FnScope ["_law_found", "_law_due", "_law_one", "_law_other"] ["_law_found", "_law_due"] (defScope s_wholes) := ⟨rfl, rfl, rfl, by decide +kernel, rfl, by decide +kernel, by decide +kernel⟩
theorem kn_wholes (B : Bl mg) (k_whole : FnK P w K mg base CX0 "_law_whole" 1 sp_whole) (T : At K mg "_law_wholes" "_law_wholes" s_wholes ["_law_found", "_law_due"]) : FnK P w K mg base CX0 "_law_wholes" 2 sp_wholes := by
  obtain ⟨f, fd, Fn, hm, hb⟩ := T.ex
  refine ⟨f, fd, _, fn_ok Fn sc_wholes (fun ds r h => ?_) (fun cdv A outer s H E hr ds r h => ?_), hm, Fn.kp, hb⟩
  · obtain ⟨x0, rfl, _⟩ := h; rfl
  · obtain ⟨xs, rfl, rfl⟩ := h
    refine bk_cons (sm_if (bb := false) (TV.is (TW.tv (tw_or (tv_not (tv_bl (ev_isi rfl B.isinstance (ev_v (i := 0) rfl rfl) rfl rfl B.list bt_list rfl))) fun _ => (tw_or1 (tv_neI (ev_len rfl B.len (ev_v (i := 0) rfl rfl)) (ev_len rfl B.len (ev_v (i := 1) rfl rfl)))))) ?_) (fun hc => ?_) (fun hc => ?_))
    · rw [show isD (intsD xs) "list" = true from rfl]; simp
    · cases hc
    refine bk_nil ?_
    refine bk_cons (sm_for (it_zip rfl B.zip (ev_v (i := 0) rfl rfl) (ev_v (i := 1) rfl rfl)) (fun i Δ => ∃ a b, Δ = [.v (intsD xs), .v (intsD xs), a, b]) ⟨_, _, rfl⟩ (fun i d Δi hd hI => ?_) (fun Δn hI => ?_))
    · obtain ⟨a, b, rfl⟩ := hI
      obtain ⟨d1, d2, f1, f2, rfl⟩ := zipD_get hd
      rw [f1] at f2
      have f2 := Option.some.inj f2
      subst f2
      obtain ⟨x, e1, rfl⟩ := get_ints f1
      refine ⟨_, _, (gv_tup (gvs_cons (gv_name (i := 2) sc_wholes.nd rfl (.inl rfl)) (gvs_cons (gv_name (i := 3) sc_wholes.nd rfl (.inl rfl)) gvs_nil))), ?_⟩
      refine bk_cons (sm_if (bb := false) (TV.is (TW.tv (tw_or (tv_not (tv_bl (ev_call (d := .bl true) k_whole (hr.mono (by decide)) rfl (av_cons (ev_v (i := 2) rfl rfl) av_nil) ⟨_, rfl, rfl⟩))) fun _ => (tw_or1 (tv_neI (ev_v (i := 2) rfl rfl) (ev_v (i := 3) rfl rfl))))) (by simp)) (fun hc => ?_) (fun hc => ?_))
      · cases hc
      exact bk_nil (bk_nil ⟨_, _, rfl⟩)
    · obtain ⟨a, b, rfl⟩ := hI
      exact bk_cons (sm_ret ev_bl rfl)

local macro_rules | `(tactic| walk_at "call") => `(tactic| ((with_reducible show EV _ _ _ (.Call (.Name "_law_wholes" _) _ _ _) _); apply ev_callF_a <;> first | exact k_wholes | ((with_reducible show Room _ _); exact hr.mono (by decide)) | ((with_reducible show Sd _); walk_at "side") | ((with_reducible show AV _ _ _ _ _); walk_at "z") | ((with_reducible show EV _ _ _ _ _); walk_at "z") | ((fail_if_success (with_reducible show AV _ _ _ _ _)); (fail_if_success (with_reducible show EV _ _ _ _ _)); first | walk_at "z" | (refine ⟨_, rfl, rfl⟩ <;> first | walk_at "sc" | walk_at "sd1" | skip) | skip)))
local macro_rules | `(tactic| walk_at "call") => `(tactic| ((with_reducible show EV _ _ _ (.Call (.Name "_law_wholes" _) _ _ _) _); apply ev_callT_a <;> first | exact k_wholes | ((with_reducible show Room _ _); exact hr.mono (by decide)) | ((with_reducible show Sd _); walk_at "side") | ((with_reducible show AV _ _ _ _ _); walk_at "z") | ((with_reducible show EV _ _ _ _ _); walk_at "z") | ((fail_if_success (with_reducible show AV _ _ _ _ _)); (fail_if_success (with_reducible show EV _ _ _ _ _)); first | walk_at "z" | (refine ⟨_, rfl, rfl⟩ <;> first | walk_at "sc" | walk_at "sd1" | skip) | skip)))

def stepS (s : List Int) (k : Nat) (c : Int) : List Int := s.set (k % s.length) (s.getD (k % s.length) 0 * 31 % 10 ^ 41 + c % 10 ^ 41)
theorem stepS_len (s : List Int) (k : Nat) (c : Int) : (stepS s k c).length = s.length := by simp [stepS]
def sumsF (s : List Int) (cs : List Int) : List Int := cs.zipIdx.foldl (fun s p => stepS s p.2 p.1) s
theorem sumsF_snoc (s cs : List Int) (c : Int) : sumsF s (cs ++ [c]) = stepS (sumsF s cs) cs.length c := by
  unfold sumsF
  rw [List.zipIdx_append, List.foldl_append]
  simp
theorem foldl_len {β : Type} (f : List Int → β → List Int) (h : ∀ s b, (f s b).length = s.length) : ∀ (l : List β) (s : List Int), (l.foldl f s).length = s.length
  | [], s => rfl
  | b :: l, s => by rw [List.foldl_cons, foldl_len f h l, h]
theorem sumsF_len (s cs : List Int) : (sumsF s cs).length = s.length := foldl_len (fun s (p : Int × Nat) => stepS s p.2 p.1) (fun s p => stepS_len s p.2 p.1) _ _
def sum0 (first : Int) (n : Nat) : List Int := (List.range n).map fun k : Nat => mixed first (50 + (k : Int))
theorem sum0_len (first : Int) (n : Nat) : (sum0 first n).length = n := by simp [sum0]
def rowW (first x : Int) : Int :=
  if first % 4 = 0 then x % 3 else if first % 4 = 1 then x % 2001 - 500 else if first % 4 = 2 then x % (2 * 10 ^ 40 - 1) - 10 ^ 40 + 1 else x % 9 * 100
theorem rowW_bd (first x : Int) : (rowW first x).natAbs < 10 ^ 40 := by
  unfold rowW
  have a0 := Int.emod_nonneg x (show (3 : Int) ≠ 0 by decide)
  have a1 := Int.emod_lt_of_pos x (show (0 : Int) < 3 by decide)
  have b0 := Int.emod_nonneg x (show (2001 : Int) ≠ 0 by decide)
  have b1 := Int.emod_lt_of_pos x (show (0 : Int) < 2001 by decide)
  have c0 := Int.emod_nonneg x (show (2 * 10 ^ 40 - 1 : Int) ≠ 0 by decide)
  have c1 := Int.emod_lt_of_pos x (show (0 : Int) < 2 * 10 ^ 40 - 1 by decide)
  have d0 := Int.emod_nonneg x (show (9 : Int) ≠ 0 by decide)
  have d1 := Int.emod_lt_of_pos x (show (0 : Int) < 9 by decide)
  split
  · omega
  · split
    · omega
    · split <;> omega
def worthsL (ns : List Int) (first : Int) (p r : Nat) : List (List Int) :=
  (List.range p).map fun i : Nat => (slD (sumsF (sum0 first (p * r)) (slD ns (some 1) none)) (some ((i : Int) * (r : Int))) (some ((i : Int) * (r : Int) + (r : Int)))).map (rowW first)
theorem worthsL_len (ns : List Int) (first : Int) (p r : Nat) : (worthsL ns first p r).length = p := by simp [worthsL]
theorem slD_row {xs : List Int} {p r i : Nat} (hx : xs.length = p * r) (hi : i < p) : (slD xs (some ((i : Int) * (r : Int))) (some ((i : Int) * (r : Int) + (r : Int)))).length = r := by
  have e1 : (i : Int) * (r : Int) = ((i * r : Nat) : Int) := by simp
  have e2 : (i : Int) * (r : Int) + (r : Int) = (((i + 1) * r : Nat) : Int) := by simp [Int.add_mul]
  have h3 : (i + 1) * r ≤ p * r := Nat.mul_le_mul_right r hi
  have h4 : (i + 1) * r = i * r + r := Nat.succ_mul i r
  unfold slD
  rw [e2, e1, HT.sIx_nat, HT.sIx_nat, List.length_take, List.length_drop, hx]
  omega
theorem worthsL_row {ns : List Int} {first : Int} {p r : Nat} : ∀ row ∈ worthsL ns first p r, row.length = r := fun row h => by
  obtain ⟨i, hi, rfl⟩ := List.mem_map.mp h
  rw [List.length_map]
  exact slD_row (by rw [sumsF_len, sum0_len]) (List.mem_range.mp hi)
theorem worthsL_bd {ns : List Int} {first : Int} {p r : Nat} : ∀ row ∈ worthsL ns first p r, ∀ x ∈ row, x.natAbs < 10 ^ 40 := fun row h x hx => by
  obtain ⟨i, hi, rfl⟩ := List.mem_map.mp h
  obtain ⟨y, _, rfl⟩ := List.mem_map.mp hx
  exact rowW_bd _ _
theorem slD_map {α β : Type} (f : α → β) (xs : List α) (lo hi : Option Int) : slD (xs.map f) lo hi = (slD xs lo hi).map f := by
  unfold slD
  rw [List.length_map, ← List.map_drop, ← List.map_take]
def sp_lworths : List D → Res → Prop := fun ds r => ∃ (ns : List Int) (first : Int) (p n : Nat), ds = [.scr ns, .int first, .int (p : Int), .int (n : Int)] ∧ 0 < p ∧ p ≤ 1000 ∧ 0 < n ∧ n ≤ 100 ∧ r = .o ((worthsL ns first p n).map intsD)
theorem sc_lworths : FnScope ["_law_script", "_law_first", "_law_people", "_law_rooms", "_law_sums", "_law_k", "_law_cell", "_law_at_here", "_law_worths_here", "_law_i", "_law_row", "_law_number"] ["_law_script", "_law_first", "_law_people", "_law_rooms"] (defScope s_lworths) := ⟨rfl, rfl, rfl, by decide +kernel, rfl, by decide +kernel, by decide +kernel⟩
theorem flat_of_ints (ns : List Int) : (ns.map D.int).all flat = true := flat_ints ns
theorem kn_lworths (B : Bl mg) (k_mixed : FnK P w K mg base CX0 "_law_mixed" 1 sp_mixed) (T : At K mg "_law_worths" "_law_worths" s_lworths ["_law_script", "_law_first", "_law_people", "_law_rooms"]) : FnK P w K mg base CX0 "_law_worths" 2 sp_lworths := by
  obtain ⟨f, fd, Fn, hm, hb⟩ := T.ex
  refine ⟨f, fd, _, fn_ok Fn sc_lworths (fun ds r h => ?_) (fun cdv A outer s H E hr ds r h => ?_), hm, Fn.kp, hb⟩
  · obtain ⟨x0, x1, x2, x3, rfl, _⟩ := h; rfl
  · obtain ⟨ns, first, p, n, rfl, hp0, hp1, hn0, hn1, rfl⟩ := h
    have hsz := sizeLine_eq
    have epn : (p : Int) * (n : Int) = ((p * n : Nat) : Int) := by simp
    have hpn : p * n ≤ 100000 := Nat.le_trans (Nat.mul_le_mul hp1 hn1) (by decide)
    have hpn0 : 0 < p * n := Nat.mul_pos hp0 hn0
    refine bk_cons (sm_seto (i := 4) sc_lworths.nd rfl (.inl rfl) (eo_lst av_nil (by simp)) ?_)
    refine bk_cons (sm_for (it_range1 (n := ((p * n : Nat) : Int)) rfl B.range (EV.to (ev_mul (ev_v (i := 2) rfl rfl) (ev_v (i := 3) rfl rfl) (mulokL (by omega) (by omega))) (by rw [epn])) (by omega) (by omega)) (fun i Δ => ∃ a, Δ = [.v (.scr ns), .v (.int first), .v (.int (p : Int)), .v (.int (n : Int)), .o ((sum0 first i).map .int), a, .u, .u, .u, .u, .u, .u]) ⟨_, rfl⟩ (fun i d Δi hd hI => ?_) (fun Δn hI => ?_))
    · obtain ⟨a, rfl⟩ := hI
      obtain ⟨hi, rfl⟩ := rngD_get hd
      have e0 : (0 : Int) + (i : Int) = (i : Int) := by omega
      rw [e0]
      refine ⟨_, _, (gv_name (i := 5) sc_lworths.nd rfl (.inl rfl)), ?_⟩
      refine bk_cons (sm_append (i := 4) (d := .int (mixed first (50 + (i : Int)))) rfl rfl (ev_call k_mixed (hr.mono (by decide)) rfl (av_cons (ev_v (i := 1) rfl rfl) (av_cons (ev_add ev_int (ev_v (i := 5) rfl rfl)) av_nil)) ⟨_, _, rfl, by omega, by omega, rfl⟩) (by rw [List.length_map, sum0_len]; omega) ?_)
      refine bk_nil ?_
      show ∃ a, _ = [_, _, _, _, Sl.o ((sum0 first (i + 1)).map .int), a, _, _, _, _, _, _]
      rw [show sum0 first (i + 1) = sum0 first i ++ [mixed first (50 + (i : Int))] by unfold sum0; rw [List.range_succ, List.map_append]; rfl, List.map_append]
      exact ⟨_, rfl⟩
    obtain ⟨a, rfl⟩ := hI
    rw [rngD_len, show ((p * n : Nat) : Int).toNat = p * n from rfl]
    generalize hcs : slD ns (some 1) none = cs
    refine bk_cons (sm_for (it_enum rfl B.enumerate (EO.ev (EO.to (eo_sls (ev_v (i := 0) rfl rfl) (ov_some ev_int) ov_none) (show _ = cs.map D.int by rw [hcs])))) (fun i Δ => ∃ a b c, Δ = [.v (.scr ns), .v (.int first), .v (.int (p : Int)), .v (.int (n : Int)), .o ((sumsF (sum0 first (p * n)) (cs.take i)).map .int), a, b, c, .u, .u, .u, .u]) ⟨_, _, _, rfl⟩ (fun i d Δi hd hI => ?_) (fun Δn hI => ?_))
    · obtain ⟨a, b, c, rfl⟩ := hI
      obtain ⟨dd, h1, rfl⟩ := enumD_get hd
      obtain ⟨cc, h2, rfl⟩ := get_ints h1
      have hi : i < cs.length := (List.getElem?_eq_some_iff.mp h2).1
      have hl : (sumsF (sum0 first (p * n)) (cs.take i)).length = p * n := by rw [sumsF_len, sum0_len]
      refine ⟨_, _, (gv_tup (gvs_cons (gv_name (i := 5) sc_lworths.nd rfl (.inl rfl)) (gvs_cons (gv_name (i := 6) sc_lworths.nd rfl (.inl rfl)) gvs_nil))), ?_⟩
      generalize hS : sumsF (sum0 first (p * n)) (cs.take i) = S at hl
      have hk : i % S.length < S.length := Nat.mod_lt _ (by omega)
      refine bk_cons (sm_set (i := 7) (d := .int ((i % S.length : Nat) : Int)) sc_lworths.nd rfl (.inl rfl) (EV.to (ev_mod (ev_v (i := 5) rfl rfl) (ev_len rfl B.len (ev_o (i := 4) rfl rfl)) (by rw [List.length_map]; omega)) (by rw [List.length_map]; simp)) ?_)
      obtain ⟨j, hj⟩ : ∃ j, j = i % S.length := ⟨_, rfl⟩
      rw [← hj] at hk ⊢
      refine bk_cons (sm_seti (i := 4) (j := j) (d := .int (S.getD j 0 * 31 % 10 ^ 41 + cc % 10 ^ 41)) rfl rfl (ev_add (ev_mod (i := S.getD j 0 * 31) (ev_mul (ev_ixo (k := 4) rfl rfl (ev_v (i := 7) rfl rfl) (at_ints (by omega) (by omega))) ev_int (mulokR (by decide) (by decide))) (ev_pow ev_int ev_int (powok (by decide) (by decide) (by decide) (by decide))) (by decide)) (ev_mod (ev_v (i := 6) rfl rfl) (ev_pow ev_int ev_int (powok (by decide) (by decide) (by decide) (by decide))) (by decide))) (ev_v (i := 7) rfl rfl) (ixN_nat rfl (by rw [List.length_map]; exact hk)) ?_)
      refine bk_nil ?_
      show ∃ a b c, _ = [_, _, _, _, Sl.o ((sumsF (sum0 first (p * n)) (cs.take (i + 1))).map .int), a, b, c, _, _, _, _]
      rw [take_snoc h2, sumsF_snoc, hS, List.length_take, Nat.min_eq_left (by omega), show stepS S i cc = S.set j (S.getD j 0 * 31 % 10 ^ 41 + cc % 10 ^ 41) by unfold stepS; rw [← hj], List.map_set]
      exact ⟨_, _, _, rfl⟩
    obtain ⟨a, b, c, rfl⟩ := hI
    rw [enumD_len, List.length_map, List.take_length]
    have hl : (sumsF (sum0 first (p * n)) cs).length = p * n := by rw [sumsF_len, sum0_len]
    have hW : ∀ i, i ≤ p → (List.range i).map (fun i : Nat => (slD (sumsF (sum0 first (p * n)) cs) (some ((i : Int) * (n : Int))) (some ((i : Int) * (n : Int) + (n : Int)))).map (rowW first)) = (worthsL ns first p n).take i := fun i hi => by
      unfold worthsL
      rw [hcs, ← List.map_take, List.take_range, Nat.min_eq_left hi]
    generalize hW2 : worthsL ns first p n = W at hW
    generalize sumsF (sum0 first (p * n)) cs = S at hl hW
    refine bk_cons (sm_seto (i := 8) sc_lworths.nd rfl (.inl rfl) (eo_lst av_nil (by simp)) ?_)
    refine bk_cons (sm_for (it_range1 rfl B.range (ev_v (i := 2) rfl rfl) (by omega) (by omega)) (fun i Δ => ∃ a b c x y, Δ = [.v (.scr ns), .v (.int first), .v (.int (p : Int)), .v (.int (n : Int)), .o (S.map .int), a, b, c, .o (((List.range i).map (fun i : Nat => (slD S (some ((i : Int) * (n : Int))) (some ((i : Int) * (n : Int) + (n : Int)))).map (rowW first))).map intsD), x, y, .u]) ⟨_, _, _, _, _, rfl⟩ (fun i d Δi hd hI => ?_) (fun Δn hI => ?_))
    · obtain ⟨a, b, c, x, y, rfl⟩ := hI
      obtain ⟨hi, rfl⟩ := rngD_get hd
      have e0 : (0 : Int) + (i : Int) = (i : Int) := by omega
      rw [e0]
      refine ⟨_, _, (gv_name (i := 9) sc_lworths.nd rfl (.inl rfl)), ?_⟩
      have hrow := slD_row (r := n) hl (by omega : i < p)
      obtain ⟨row, hr0⟩ : ∃ row, row = slD S (some ((i : Int) * (n : Int))) (some ((i : Int) * (n : Int) + (n : Int))) := ⟨_, rfl⟩
      rw [← hr0] at hrow
      have hm : (row.map D.int).map (fun d => D.int (rowW first d.toI)) = (row.map (rowW first)).map D.int := by rw [List.map_map, List.map_map]; rfl
      refine bk_cons (sm_seto (i := 10) sc_lworths.nd rfl (.inl rfl) (EO.to (eo_slf (ev_o (i := 4) rfl rfl) (ov_some (ev_mul (ev_v (i := 9) rfl rfl) (ev_v (i := 3) rfl rfl) (mulokL (by omega) (by omega)))) (ov_some (ev_add (ev_mul (ev_v (i := 9) rfl rfl) (ev_v (i := 3) rfl rfl) (mulokL (by omega) (by omega))) (ev_v (i := 3) rfl rfl))) (flat_ints S)) (show _ = row.map D.int by rw [hr0, slD_map])) ?_)
      refine bk_frz (i := 10) rfl ?_
      refine bk_cut (fun _ : Unit => True) (fun _ => [.v (.scr ns), .v (.int first), .v (.int (p : Int)), .v (.int (n : Int)), .o (S.map .int), a, b, c, .o (((List.range i).map (fun i : Nat => (slD S (some ((i : Int) * (n : Int))) (some ((i : Int) * (n : Int) + (n : Int)))).map (rowW first))).map intsD), .v (.int (i : Int)), .o ((row.map (rowW first)).map .int), .u]) ?_ fun _ _ => ?_
      · refine sm_if (tv_eqI (ev_mod (ev_v (i := 1) rfl rfl) ev_int (by decide)) ev_int) (fun hc => ?_) (fun hc => ?_)
        · have hc := of_decide_eq_true hc
          refine bk_cons (sm_lc (i := 10) (own := [("_law_number", 11)]) (f := fun d => .int (rowW first d.toI)) (by rw [List.length_map]; omega) rfl rfl (it_list (ev_v (i := 10) rfl rfl)) (fun d hd => ?_) ?_ sc_lworths.nd (blk_of sc_lworths (by decide +kernel) rfl rfl))
          · obtain ⟨z, _, rfl⟩ := List.mem_map.mp hd
            refine ⟨_, _, by decide, fun _ _ _ _ _ => gv_name (i := 11) sc_lworths.nd rfl (.inl rfl), fun _ _ _ _ _ => EV.to (ev_mod (ev_v (i := 11) rfl rfl) ev_int (by decide)) ?_⟩
            show D.int _ = D.int (rowW first z)
            unfold rowW; rw [if_pos hc]
          · refine bk_nil ⟨(), trivial, ?_⟩
            rw [hm]; rfl
        · have hc := of_decide_eq_false hc
          refine bk_cons (sm_if (tv_eqI (ev_mod (ev_v (i := 1) rfl rfl) ev_int (by decide)) ev_int) (fun hc2 => ?_) (fun hc2 => ?_))
          · have hc2 := of_decide_eq_true hc2
            refine bk_cons (sm_lc (i := 10) (own := [("_law_number", 11)]) (f := fun d => .int (rowW first d.toI)) (by rw [List.length_map]; omega) rfl rfl (it_list (ev_v (i := 10) rfl rfl)) (fun d hd => ?_) ?_ sc_lworths.nd (blk_of sc_lworths (by decide +kernel) rfl rfl))
            · obtain ⟨z, _, rfl⟩ := List.mem_map.mp hd
              refine ⟨_, _, by decide, fun _ _ _ _ _ => gv_name (i := 11) sc_lworths.nd rfl (.inl rfl), fun _ _ _ _ _ => EV.to (ev_sub (ev_mod (ev_v (i := 11) rfl rfl) ev_int (by decide)) ev_int) ?_⟩
              show D.int _ = D.int (rowW first z)
              unfold rowW; rw [if_neg hc, if_pos hc2]
            · refine bk_nil (bk_nil ⟨(), trivial, ?_⟩)
              rw [hm]; rfl
          · have hc2 := of_decide_eq_false hc2
            refine bk_cons (sm_if (tv_eqI (ev_mod (ev_v (i := 1) rfl rfl) ev_int (by decide)) ev_int) (fun hc3 => ?_) (fun hc3 => ?_))
            · have hc3 := of_decide_eq_true hc3
              refine bk_cons (sm_lc (i := 10) (own := [("_law_number", 11)]) (f := fun d => .int (rowW first d.toI)) (by rw [List.length_map]; omega) rfl rfl (it_list (ev_v (i := 10) rfl rfl)) (fun d hd => ?_) ?_ sc_lworths.nd (blk_of sc_lworths (by decide +kernel) rfl rfl))
              · obtain ⟨z, _, rfl⟩ := List.mem_map.mp hd
                refine ⟨_, _, by decide, fun _ _ _ _ _ => gv_name (i := 11) sc_lworths.nd rfl (.inl rfl), fun _ _ _ _ _ => EV.to (ev_add (ev_sub (ev_mod (i := z) (j := 2 * 10 ^ 40 - 1) (ev_v (i := 11) rfl rfl) (ev_sub (ev_mul ev_int (ev_pow ev_int ev_int (powok (by decide) (by decide) (by decide) (by decide))) (mulokL (by decide) (by decide))) ev_int) (by decide)) (ev_pow ev_int ev_int (powok (by decide) (by decide) (by decide) (by decide)))) ev_int) ?_⟩
                show D.int _ = D.int (rowW first z)
                unfold rowW; rw [if_neg hc, if_neg hc2, if_pos hc3]; rfl
              · refine bk_nil (bk_nil (bk_nil ⟨(), trivial, ?_⟩))
                rw [hm]; rfl
            · have hc3 := of_decide_eq_false hc3
              refine bk_cons (sm_lc (i := 10) (own := [("_law_number", 11)]) (f := fun d => .int (rowW first d.toI)) (by rw [List.length_map]; omega) rfl rfl (it_list (ev_v (i := 10) rfl rfl)) (fun d hd => ?_) ?_ sc_lworths.nd (blk_of sc_lworths (by decide +kernel) rfl rfl))
              · obtain ⟨z, _, rfl⟩ := List.mem_map.mp hd
                have z0 := Int.emod_nonneg z (show (9 : Int) ≠ 0 by decide)
                have z1 := Int.emod_lt_of_pos z (show (0 : Int) < 9 by decide)
                refine ⟨_, _, by decide, fun _ _ _ _ _ => gv_name (i := 11) sc_lworths.nd rfl (.inl rfl), fun _ _ _ _ _ => EV.to (ev_mul (ev_mod (ev_v (i := 11) rfl rfl) ev_int (by decide)) ev_int (mulokR (by decide) (by decide))) ?_⟩
                show D.int _ = D.int (rowW first z)
                unfold rowW; rw [if_neg hc, if_neg hc2, if_neg hc3]
              · refine bk_nil (bk_nil (bk_nil ⟨(), trivial, ?_⟩))
                rw [hm]; rfl
      · refine bk_frz (i := 10) rfl ?_
        refine bk_cons (sm_append (i := 8) rfl rfl (ev_v (i := 10) rfl rfl) (by rw [List.length_map, List.length_map, List.length_range]; omega) ?_)
        refine bk_nil ?_
        show ∃ a b c x y, _ = [_, _, _, _, _, a, b, c, Sl.o (((List.range (i + 1)).map (fun i : Nat => (slD S (some ((i : Int) * (n : Int))) (some ((i : Int) * (n : Int) + (n : Int)))).map (rowW first))).map intsD), x, y, _]
        rw [List.range_succ, List.map_append, List.map_append, List.map_cons, List.map_nil, ← hr0]
        exact ⟨_, _, _, _, _, rfl⟩
    obtain ⟨a, b, c, x, y, rfl⟩ := hI
    rw [rngD_len, show (p : Int).toNat = p from rfl, hW p (Nat.le_refl _)]
    refine bk_cons (sm_reton (i := 8) rfl rfl ?_)
    show Res.o _ = Res.o _
    rw [List.take_of_length_le (by rw [← hW2, worthsL_len]; exact Nat.le_refl _)]


def hFirst (ns : List Int) : Int := mixed (atS ns 0) 20
def hRooms (ns : List Int) (mr : Nat) : Nat := (1 + hFirst ns / 4 % (mr : Int)).toNat
def hBeds (ns : List Int) (mr : Nat) : List Int := bedsL (hFirst ns) (hRooms ns mr)
def hPeople (ns : List Int) (mp mr : Nat) : Nat := (1 + hFirst ns / 40 % dmin (mp : Int) (hBeds ns mr).sum).toNat
def hWs (ns : List Int) (mp mr : Nat) : List (List Int) := worthsL ns (hFirst ns) (hPeople ns mp mr) (hRooms ns mr)
def hRent (ns : List Int) : Int := if hFirst ns / 7 % 5 = 0 then atS ns 1 % (2 * 10 ^ 40 - 1) - 10 ^ 40 + 1 else hFirst ns / 400 % 3000
/-- a house that a law makes -/
structure LawHouse (beds : List Int) (ws : List (List Int)) (mp mr : Nat) : Prop where
  ok : HouseOk beds ws
  b1 : ∀ b ∈ beds, 1 ≤ b ∧ b ≤ 4
  r1 : 1 ≤ beds.length
  r2 : beds.length ≤ mr
  p1 : 1 ≤ ws.length
  p2 : ws.length ≤ mp
  wb : ∀ row ∈ ws, ∀ x ∈ row, x.natAbs < 10 ^ 40
theorem len_le_sum : ∀ {l : List Int}, (∀ b ∈ l, 1 ≤ b) → (l.length : Int) ≤ l.sum
  | [], _ => by simp
  | b :: l, h => by
    have h1 := h b List.mem_cons_self
    have h2 := len_le_sum (l := l) fun c hc => h c (List.mem_cons_of_mem _ hc)
    rw [List.sum_cons, List.length_cons]; omega
theorem sum_le_len {m : Int} : ∀ {l : List Int}, (∀ b ∈ l, b ≤ m) → l.sum ≤ (l.length : Int) * m
  | [], _ => by simp
  | b :: l, h => by
    have h1 := h b List.mem_cons_self
    have h2 := sum_le_len (l := l) fun c hc => h c (List.mem_cons_of_mem _ hc)
    rw [List.sum_cons, List.length_cons, Int.natCast_add, Int.add_mul]; omega
theorem hFirst_nn (ns : List Int) : 0 ≤ hFirst ns := mixed_nn _ _
theorem hFirst_lt (ns : List Int) : hFirst ns < 2147483629 := mixed_lt _ _
theorem hRooms_bd {ns : List Int} {mr : Nat} (h : 1 ≤ mr) : 1 ≤ hRooms ns mr ∧ hRooms ns mr ≤ mr := by
  unfold hRooms
  have h0 := Int.emod_nonneg (hFirst ns / 4) (show (mr : Int) ≠ 0 by omega)
  have h1 := Int.emod_lt_of_pos (hFirst ns / 4) (show (0 : Int) < (mr : Int) by omega)
  omega
theorem hBeds_sum {ns : List Int} {mr : Nat} (h : 1 ≤ mr) : 1 ≤ (hBeds ns mr).sum := by
  have h1 := len_le_sum (l := hBeds ns mr) fun b hb => (bedsL_pos b hb).1
  have h2 := (hRooms_bd (ns := ns) h).1
  unfold hBeds at h1 ⊢
  rw [bedsL_len] at h1
  omega
theorem dmin_le {i j : Int} : dmin i j ≤ i ∧ dmin i j ≤ j ∧ (dmin i j = i ∨ dmin i j = j) := by unfold dmin; split <;> omega
theorem hPeople_bd {ns : List Int} {mp mr : Nat} (h : 1 ≤ mp) (h' : 1 ≤ mr) : 1 ≤ hPeople ns mp mr ∧ hPeople ns mp mr ≤ mp ∧ (hPeople ns mp mr : Int) ≤ (hBeds ns mr).sum := by
  unfold hPeople
  have hs := hBeds_sum (ns := ns) h'
  obtain ⟨d1, d2, d3⟩ := dmin_le (i := (mp : Int)) (j := (hBeds ns mr).sum)
  have h0 := Int.emod_nonneg (hFirst ns / 40) (show dmin (mp : Int) (hBeds ns mr).sum ≠ 0 by omega)
  have h1 := Int.emod_lt_of_pos (hFirst ns / 40) (show (0 : Int) < dmin (mp : Int) (hBeds ns mr).sum by omega)
  omega
theorem lawHouse {ns : List Int} {mp mr : Nat} (h : 1 ≤ mp) (h' : 1 ≤ mr) (h2 : mp ≤ 100) (h3 : mr ≤ 100) : LawHouse (hBeds ns mr) (hWs ns mp mr) mp mr := by
  have hb := hRooms_bd (ns := ns) h'
  have hp := hPeople_bd (ns := ns) h h'
  have e1 : (hBeds ns mr).length = hRooms ns mr := by unfold hBeds; rw [bedsL_len]
  have e2 : (hWs ns mp mr).length = hPeople ns mp mr := by unfold hWs; rw [worthsL_len]
  refine ⟨⟨by omega, by omega, fun r hr => ?_, by rw [e2]; exact hp.2.2⟩, fun b hb => bedsL_pos b hb, by omega, by omega, by omega, by omega, fun row hr x hx => worthsL_bd row hr x hx⟩
  rw [e1]; exact worthsL_row r hr
theorem hRent_bd (ns : List Int) : (hRent ns).natAbs < 10 ^ 40 := by
  unfold hRent
  have h0 := hFirst_nn ns
  have a0 := Int.emod_nonneg (atS ns 1) (show (2 * 10 ^ 40 - 1 : Int) ≠ 0 by decide)
  have a1 := Int.emod_lt_of_pos (atS ns 1) (show (0 : Int) < 2 * 10 ^ 40 - 1 by decide)
  have b0 := Int.emod_nonneg (hFirst ns / 400) (show (3000 : Int) ≠ 0 by decide)
  have b1 := Int.emod_lt_of_pos (hFirst ns / 400) (show (0 : Int) < 3000 by decide)
  split <;> omega
def sp_lhouse : List D → Res → Prop := fun ds r => ∃ (ns : List Int) (mp mr : Nat), ds = [.scr ns, .int (mp : Int), .int (mr : Int)] ∧ 1 ≤ mp ∧ mp ≤ 100 ∧ 1 ≤ mr ∧ mr ≤ 100 ∧ r = .v (.tup [intsD (hBeds ns mr), rowsD (hWs ns mp mr), .int (hRent ns)])
theorem sc_lhouse : FnScope ["_law_script", "_law_most_people", "_law_most_rooms", "_law_first", "_law_beds_here", "_law_people", "_law_worths_here", "_law_rent"] ["_law_script", "_law_most_people", "_law_most_rooms"] (defScope s_lhouse) := ⟨rfl, rfl, rfl, by decide +kernel, rfl, by decide +kernel, by decide +kernel⟩
theorem kn_lhouse (B : Bl mg) (k_mixed : FnK P w K mg base CX0 "_law_mixed" 1 sp_mixed) (k_at : FnK P w K mg base CX0 "_law_at" 1 sp_at) (k_lbeds : FnK P w K mg base CX0 "_law_beds" 2 sp_lbeds) (k_lworths : FnK P w K mg base CX0 "_law_worths" 2 sp_lworths) (T : At K mg "_law_house" "_law_house" s_lhouse ["_law_script", "_law_most_people", "_law_most_rooms"]) : FnK P w K mg base CX0 "_law_house" 3 sp_lhouse := by
  obtain ⟨f, fd, Fn, hm, hb⟩ := T.ex
  refine ⟨f, fd, _, fn_ok Fn sc_lhouse (fun ds r h => ?_) (fun cdv A outer s H E hr ds r h => ?_), hm, Fn.kp, hb⟩
  · obtain ⟨x0, x1, x2, rfl, _⟩ := h; rfl
  · obtain ⟨ns, mp, mr, rfl, h1, h2, h3, h4, rfl⟩ := h
    have hsz := sizeLine_eq
    have hF0 := hFirst_nn ns
    have hFl := hFirst_lt ns
    have hR := hRooms_bd (ns := ns) h3
    have hP := hPeople_bd (ns := ns) h1 h3
    have hS := hBeds_sum (ns := ns) h3
    have q0 := Int.emod_nonneg (hFirst ns / 4) (show (mr : Int) ≠ 0 by omega)
    obtain ⟨d1, d2, d3⟩ := dmin_le (i := (mp : Int)) (j := (hBeds ns mr).sum)
    have p0 := Int.emod_nonneg (hFirst ns / 40) (show dmin (mp : Int) (hBeds ns mr).sum ≠ 0 by omega)
    have eR : 1 + hFirst ns / 4 % (mr : Int) = ((hRooms ns mr : Nat) : Int) := by unfold hRooms; omega
    have eP : 1 + hFirst ns / 40 % dmin (mp : Int) (hBeds ns mr).sum = ((hPeople ns mp mr : Nat) : Int) := by unfold hPeople; omega
    refine bk_cons (sm_set (i := 3) (d := .int (hFirst ns)) sc_lhouse.nd rfl (.inl rfl) (ev_call k_mixed (hr.mono (by decide)) rfl (av_cons (ev_call (d := .int (atS ns 0)) k_at (hr.mono (by decide)) rfl (av_cons (ev_v (i := 0) rfl rfl) (av_cons ev_int av_nil)) ⟨_, _, rfl, rfl⟩) (av_cons ev_int av_nil)) ⟨_, _, rfl, by decide, by decide, rfl⟩) ?_)
    refine bk_cons (sm_seto (i := 4) (ds := (hBeds ns mr).map .int) sc_lhouse.nd rfl (.inl rfl) (eo_call k_lbeds (hr.mono (by decide)) rfl (av_cons (m := true) (ev_v (i := 3) rfl rfl) (av_cons (EV.to (ev_add ev_int (ev_mod (ev_div (ev_v (i := 3) rfl rfl) ev_int (divok (by decide) (by decide))) (ev_v (i := 2) rfl rfl) (by omega))) (by rw [eR])) av_nil)) ⟨_, _, rfl, by omega, rfl⟩ (fun h => nomatch h)) ?_)
    refine bk_frz (i := 4) rfl ?_
    refine bk_cons (sm_set (i := 5) (d := .int ((hPeople ns mp mr : Nat) : Int)) sc_lhouse.nd rfl (.inl rfl) (EV.to (ev_add ev_int (ev_mod (ev_div (ev_v (i := 3) rfl rfl) ev_int (divok (by decide) (by decide))) (ev_min2 rfl rfl B.min (ev_v (i := 1) rfl rfl) (ev_sum (ns := hBeds ns mr) rfl rfl B.sum (ev_v (i := 4) rfl rfl))) (by omega))) (by rw [eP])) ?_)
    have eL : (((hBeds ns mr).map D.int).length : Int) = ((hRooms ns mr : Nat) : Int) := by unfold hBeds; rw [List.length_map, bedsL_len]
    refine bk_cons (sm_seto (i := 6) (ds := (hWs ns mp mr).map intsD) sc_lhouse.nd rfl (.inl rfl) (eo_call k_lworths (hr.mono (by decide)) rfl (av_cons (m := true) (ev_v (i := 0) rfl rfl) (av_cons (ev_v (i := 3) rfl rfl) (av_cons (ev_v (i := 5) rfl rfl) (av_cons (EV.to (ev_len rfl B.len (ev_v (i := 4) rfl rfl)) (by rw [eL])) av_nil)))) ⟨_, _, _, _, rfl, by omega, by omega, by omega, by omega, rfl⟩ (fun h => nomatch h)) ?_)
    refine bk_frz (i := 6) rfl ?_
    refine bk_cons (sm_set (i := 7) sc_lhouse.nd rfl (.inl rfl) (ev_mod (ev_div (ev_v (i := 3) rfl rfl) ev_int (divok (by decide) (by decide))) ev_int (by decide)) ?_)
    refine bk_cut (fun _ : Unit => True) (fun _ => [.v (.scr ns), .v (.int (mp : Int)), .v (.int (mr : Int)), .v (.int (hFirst ns)), .v (intsD (hBeds ns mr)), .v (.int ((hPeople ns mp mr : Nat) : Int)), .v (rowsD (hWs ns mp mr)), .v (.int (hRent ns))]) ?_ fun _ _ => ?_
    · refine sm_if (tv_eqI (ev_mod (ev_div (ev_v (i := 3) rfl rfl) ev_int (divok (by decide) (by decide))) ev_int (by decide)) ev_int) (fun hc => ?_) (fun hc => ?_)
      · have hc := of_decide_eq_true hc
        refine bk_cons (sm_set (i := 7) sc_lhouse.nd rfl (.inl rfl) (EV.to (d' := .int (hRent ns)) (ev_add (ev_sub (ev_mod (i := atS ns 1) (j := 2 * 10 ^ 40 - 1) (ev_call k_at (hr.mono (by decide)) rfl (av_cons (ev_v (i := 0) rfl rfl) (av_cons ev_int av_nil)) ⟨_, _, rfl, rfl⟩) (ev_sub (ev_mul ev_int (ev_pow ev_int ev_int (powok (by decide) (by decide) (by decide) (by decide))) (mulokL (by decide) (by decide))) ev_int) (by decide)) (ev_pow ev_int ev_int (powok (by decide) (by decide) (by decide) (by decide)))) ev_int) (by unfold hRent; rw [if_pos hc]; rfl)) ?_)
        exact bk_nil ⟨(), trivial, rfl⟩
      · have hc := of_decide_eq_false hc
        refine bk_nil ⟨(), trivial, ?_⟩
        rw [show hRent ns = hFirst ns / 400 % 3000 by unfold hRent; rw [if_neg hc]]; rfl
    · exact bk_cons (sm_ret (ev_tup (av_cons (ev_v (i := 4) rfl rfl) (av_cons (ev_v (i := 6) rfl rfl) (av_cons (ev_v (i := 7) rfl rfl) av_nil))) (by simp)) rfl)


def toldX : Z.T := .tp [.fz (.bl true), .fz (.bl true), .fz (.bl false)]
def sp_lrefusal (C_TooFew : Addr) : Addr × Obj → List D → Res → Prop := fun p ds r => ds = [.opq p.1] ∧ Zc (.ref C_TooFew) none p.2 ∧ (∃ vs, p.2.data = .fields vs) ∧ r = .t toldX
theorem sc_lrefusal : FnScope ["_law_problem", "_law_other"] ["_law_problem"] (defScope s_lrefusal) := ⟨rfl, rfl, rfl, by decide +kernel, rfl, by decide +kernel, by decide +kernel⟩
theorem kn_lrefusal (B : Bl mg) {C_TooFew : Addr} (X_TooFew : TyE K mg "TooFew" C_TooFew) (I_TooFew : L2.ExcC K C_TooFew) (m_TooFew : mg "TooFew" = some (.ref C_TooFew)) (q_TooFew_TooFew : PySem.W.kitOne K (.ref C_TooFew) (.ref C_TooFew) = some true) {C_NoAmount : Addr} (m_NoAmount : mg "NoAmount" = some (.ref C_NoAmount)) (q_TooFew_NoAmount : PySem.W.kitOne K (.ref C_TooFew) (.ref C_NoAmount) = some false) {C_NoLine : Addr} (m_NoLine : mg "NoLine" = some (.ref C_NoLine)) (q_TooFew_NoLine : PySem.W.kitOne K (.ref C_TooFew) (.ref C_NoLine) = some false) {C_TooMany : Addr} (m_TooMany : mg "TooMany" = some (.ref C_TooMany)) (q_TooFew_TooMany : PySem.W.kitOne K (.ref C_TooFew) (.ref C_TooMany) = some false) (q_TooFew_ValueError : PySem.W.kitOne K (.ref C_TooFew) (.type "ValueError") = some true) (T : At K mg "_law_refusal" "_law_refusal" s_lrefusal ["_law_problem"]) : FnP P w K mg base CX0 "_law_refusal" 1 (sp_lrefusal C_TooFew) := by
  obtain ⟨f, fd, Fn, hm, hb⟩ := T.ex
  refine ⟨f, fd, _, fn_okP Fn sc_lrefusal (fun p ds r h => ?_) (fun cdv A outer s H E p hr hN hnd ds r h => ?_), hm, Fn.kp, hb⟩
  · obtain ⟨rfl, _⟩ := h; rfl
  obtain ⟨rfl, h1, h2, rfl⟩ := h
  have hsz := sizeLine_eq
  have hS := sc_lrefusal
  refine' bk_ini ?ini ?k
  case ini => walk_at "ini"
  have hp : (p.1, p.2) ∈ (L2H.cxH CX0 P w K mg base ["_law_problem", "_law_other"] "_law_refusal" (defScope s_lrefusal) f cdv A outer s H E p).pn := List.mem_cons_self
  refine bk_cons (sm_set (i := 1) (d := .bl false) hS.nd rfl (.inl rfl) (ev_isETP (Cs := [C_NoAmount, C_NoLine, C_TooMany]) (b := false) hp I_TooFew h1 h2 rfl B.isinstance (ev_v (i := 0) rfl rfl) (ev_tup (av_cons (ev_cls rfl m_NoAmount) (av_cons (ev_cls rfl m_NoLine) (av_cons (ev_cls rfl m_TooMany) av_nil))) (by simp)) ?_) ?_)
  · exact kitAny_cons q_TooFew_NoAmount (fun _ => kitAny_cons q_TooFew_NoLine (fun _ => kitAny_cons q_TooFew_TooMany (fun _ => rfl) (fun h => nomatch h)) (fun h => nomatch h)) (fun h => nomatch h)
  exact bk_cons (sm_rett (t := toldX) (et_tup (at_cons (EV.et (ev_isEP hp I_TooFew h1 h2 rfl B.isinstance (ev_v (i := 0) rfl rfl) (ev_cls rfl m_TooFew) q_TooFew_TooFew)) (at_cons (EV.et (ev_isEbP hp I_TooFew h1 h2 rfl B.isinstance (ev_v (i := 0) rfl rfl) rfl B.ValueError (by decide +kernel) q_TooFew_ValueError)) (at_cons (EV.et (ev_v (i := 1) rfl rfl)) at_nil))) (by simp)) rfl)


def madeT (C : Addr) (beds : List Int) (ws : List (List Int)) (rent : Int) : Z.T := if (ws.length : Int) ≤ beds.sum then .tp [houseT C beds ws rent, .fz .non] else .tp [.fz .non, toldX]
def sp_lmade (C_House : Addr) (C_TooFew : Addr) (C_RentError : Addr) : List D → Res → Prop := fun ds r => ∃ (beds : List Int) (ws : List (List Int)) (rent : Int), ds = [intsD beds, rowsD ws, .int rent] ∧ ws.length ≤ 1000 ∧ r = .t (madeT C_House beds ws rent)
theorem sc_lmade : FnScope ["_law_beds_here", "_law_worths_here", "_law_rent", "_law_told", "_law_found", "_law_problem"] ["_law_beds_here", "_law_worths_here", "_law_rent"] (defScope s_lmade) := ⟨rfl, rfl, rfl, by decide +kernel, rfl, by decide +kernel, by decide +kernel⟩
theorem kn_lmade (B : Bl mg) {C_House : Addr} (T_House : TyC K mg "House" C_House ["beds", "worths", "rent"]) {C_TooFew : Addr} (X_TooFew : TyE K mg "TooFew" C_TooFew) {C_RentError : Addr} (X_RentError : TyE K mg "RentError" C_RentError) (s_TooFew_RentError : PySem.W.subIn K (.ref C_TooFew) (.ref C_RentError) = some true) (k_House_init : FnI P w K mg base CX0 C_House 1 (sp_House_init C_House)) (k_House_initX : FnIX P w K mg base CX0 C_House 1 (sp_House_initX C_House C_TooFew)) (k_lrefusal : FnP P w K mg base CX0 "_law_refusal" 1 (sp_lrefusal C_TooFew)) (T : At K mg "_law_made" "_law_made" s_lmade ["_law_beds_here", "_law_worths_here", "_law_rent"]) : FnK P w K mg base CX0 "_law_made" 3 (sp_lmade C_House C_TooFew C_RentError) := by
  obtain ⟨f, fd, Fn, hm, hb⟩ := T.ex
  refine ⟨f, fd, _, fn_okZ Fn sc_lmade (fun ds r h => ?_) (fun cdv A outer s H E hr hN hnd ds r h => ?_), hm, Fn.kp, hb⟩
  · obtain ⟨_, _, _, rfl, _⟩ := h; rfl
  obtain ⟨beds, ws, rent, rfl, h1, rfl⟩ := h
  have hsz := sizeLine_eq
  have hS := sc_lmade
  refine' bk_ini ?ini ?k
  case ini => walk_at "ini"
  refine bk_cons (sm_set (i := 3) (d := .non) hS.nd rfl (.inl rfl) ev_non ?_)
  refine bk_cons (sm_tryAs (i := 5) (c := .ref C_RentError) rfl rfl hS.nd rfl rfl ⟨rfl, by decide, .inl X_RentError.gl⟩ fun pn xe hp => ?_)
  by_cases hc : (ws.length : Int) ≤ beds.sum
  · refine bk_cons (sm_sett (i := 4) hS.nd rfl (.inl rfl) (et_make (t := houseT C_House beds ws rent) k_House_init (hr.mono (by decide)) rfl T_House.gl (av_cons (ev_v (i := 0) rfl rfl) (av_cons (ev_v (i := 1) rfl rfl) (av_cons (ev_v (i := 2) rfl rfl) av_nil))) (fun a => ⟨_, a, beds, ws, rent, rfl, hc, h1, rfl, rfl⟩)) ?_)
    refine bk_nil ?_
    exact bk_cons (sm_retXE (t := .tp [houseT C_House beds ws rent, .fz .non]) (etx_tupE (atx_x (etx_name (i := 4) rfl rfl) (atx_x (etx_of (EV.et (ev_v (i := 3) rfl rfl))) atx_nil)) (by simp)) (by show Res.t _ = Res.t _; rw [show madeT C_House beds ws rent = _ from if_pos hc]))
  · refine bk_cons (sm_setX (i := 4) (R := fun r => r = .ex C_TooFew) hS.nd rfl (.inl rfl) (ex_make k_House_initX (hr.mono (by decide)) rfl T_House.gl (av_cons (ev_v (i := 0) rfl rfl) (av_cons (ev_v (i := 1) rfl rfl) (av_cons (ev_v (i := 2) rfl rfl) av_nil))) ⟨beds, ws, rent, rfl, hc, rfl⟩) (fun r h => nomatch h) ?_)
    rintro E h
    cases h
    refine ⟨true, PySem.W.exm_ref X_RentError.sb X_RentError.hd X_RentError.ty s_TooFew_RentError, fun _ a oe pn' hz hf => ?_, fun h => nomatch h⟩
    refine bk_cons (sm_set (i := 4) (d := .non) hS.nd rfl (.inl rfl) ev_non ?_)
    refine bk_cons (sm_sett (i := 3) hS.nd rfl (.inl rfl) (et_callP (pp := (a, oe)) k_lrefusal List.mem_cons_self (room_suite (hr.mono (by decide))) rfl (av_cons (ev_v (i := 5) rfl rfl) av_nil) ⟨rfl, hz, hf, rfl⟩) ?_)
    refine bk_nil ?_
    exact bk_cons (sm_retXE (t := .tp [.fz .non, toldX]) (etx_tupE (atx_x (etx_of (EV.et (ev_v (i := 4) rfl rfl))) (atx_x (etx_name (i := 3) rfl rfl) atx_nil)) (by simp)) (by show Res.t _ = Res.t _; rw [show madeT C_House beds ws rent = _ from if_neg hc]))

local macro_rules | `(tactic| walk_at "call") => `(tactic| ((with_reducible show EV _ _ _ (.Call (.Name "_law_made" _) _ _ _) _); apply ev_callF_a <;> first | exact k_lmade | ((with_reducible show Room _ _); exact hr.mono (by decide)) | ((with_reducible show Sd _); walk_at "side") | ((with_reducible show AV _ _ _ _ _); walk_at "z") | ((with_reducible show EV _ _ _ _ _); walk_at "z") | ((fail_if_success (with_reducible show AV _ _ _ _ _)); (fail_if_success (with_reducible show EV _ _ _ _ _)); first | walk_at "z" | (refine ⟨_, _, _, rfl, ?_, rfl⟩ <;> first | walk_at "sc" | walk_at "sd1" | skip) | skip)))
local macro_rules | `(tactic| walk_at "call") => `(tactic| ((with_reducible show EV _ _ _ (.Call (.Name "_law_made" _) _ _ _) _); apply ev_callT_a <;> first | exact k_lmade | ((with_reducible show Room _ _); exact hr.mono (by decide)) | ((with_reducible show Sd _); walk_at "side") | ((with_reducible show AV _ _ _ _ _); walk_at "z") | ((with_reducible show EV _ _ _ _ _); walk_at "z") | ((fail_if_success (with_reducible show AV _ _ _ _ _)); (fail_if_success (with_reducible show EV _ _ _ _ _)); first | walk_at "z" | (refine ⟨_, _, _, rfl, ?_, rfl⟩ <;> first | walk_at "sc" | walk_at "sd1" | skip) | skip)))


def sp_lright (C_House : Addr) : List D → Res → Prop := fun ds r => ∃ (beds : List Int) (ws : List (List Int)) (rent : Int), ds = [houseD C_House beds ws rent, intsD beds, rowsD ws, .int rent] ∧ ws.length ≤ 1000 ∧ r = .v (.bl true)
theorem sc_lright : FnScope ["_law_found", "_law_beds_here", "_law_worths_here", "_law_rent", "_law_one", "_law_other"] ["_law_found", "_law_beds_here", "_law_worths_here", "_law_rent"] (defScope s_lright) := ⟨rfl, rfl, rfl, by decide +kernel, rfl, by decide +kernel, by decide +kernel⟩
theorem kn_lright (B : Bl mg) {C_House : Addr} (T_House : TyC K mg "House" C_House ["beds", "worths", "rent"]) (k_House_people : FnM P w K mg base CX0 C_House "people" 1 (sp_House_people C_House)) (k_House_rooms : FnM P w K mg base CX0 C_House "rooms" 1 (sp_House_rooms C_House)) (k_whole : FnK P w K mg base CX0 "_law_whole" 1 sp_whole) (k_wholes : FnK P w K mg base CX0 "_law_wholes" 2 sp_wholes) (T : At K mg "_law_right" "_law_right" s_lright ["_law_found", "_law_beds_here", "_law_worths_here", "_law_rent"]) : FnK P w K mg base CX0 "_law_right" 3 (sp_lright C_House) := by
  obtain ⟨f, fd, Fn, hm, hb⟩ := T.ex
  refine ⟨f, fd, _, fn_okZ Fn sc_lright (fun ds r h => ?_) (fun cdv A outer s H E hr hN hnd ds r h => ?_), hm, Fn.kp, hb⟩
  · obtain ⟨_, _, _, rfl, _⟩ := h; rfl
  obtain ⟨beds, ws, rent, rfl, h1, rfl⟩ := h
  have hsz := sizeLine_eq
  have hS := sc_lright
  refine' bk_ini ?ini ?k
  case ini => walk_at "ini"
  refine bk_cons (sm_if (bb := false) (TV.is (TW.tv (tw_or (tv_not (t := true) (tv_bl (ev_call (m := true) (d := .bl true) k_wholes (hr.mono (by decide)) rfl (av_cons (d := intsD beds) (ev_fld (d := intsD beds) (ev_v (i := 0) rfl rfl) T_House.cl (T_House.na _ (by decide)) rfl) (av_cons (ev_v (i := 1) rfl rfl) av_nil)) ⟨_, rfl, rfl⟩))) fun _ => tw_or (tv_not (t := true) (tv_bl (ev_isiD (t := true) (x := rowsD ws) rfl B.isinstance (ev_fld (d := rowsD ws) (ev_v (i := 0) rfl rfl) T_House.cl (T_House.na _ (by decide)) rfl) rfl rfl B.list bt_list rfl))) fun _ => tw_or1 (tv_neI (ev_len (ds := ws.map intsD) rfl B.len (ev_fld (d := rowsD ws) (ev_v (i := 0) rfl rfl) T_House.cl (T_House.na _ (by decide)) rfl)) (ev_len (ds := ws.map intsD) rfl B.len (ev_v (i := 2) rfl rfl))))) (by simp)) (fun hc => nomatch hc) (fun _ => bk_nil ?_))
  refine bk_for (S := Unit) (im_zip (f := intsD) (xs := ws) (f2 := intsD) (ys := ws) rfl B.zip (ev_fld (d := rowsD ws) (ev_v (i := 0) rfl rfl) T_House.cl (T_House.na _ (by decide)) rfl) (ev_v (i := 2) rfl rfl)) (fun _ _ => [.v (houseD C_House beds ws rent), .v (intsD beds), .v (rowsD ws), .v (.int rent), .u, .u]) (fun _ _ => True) ⟨(), trivial, by walk_at "lee"⟩ ?_ ?_
  · intro i x s hx hI
    obtain ⟨r1, r2⟩ := x
    obtain ⟨x1, x2⟩ := List.getElem?_zip_eq_some.mp hx
    have x3 : r1 = r2 := Option.some.inj (x1.symm.trans x2)
    subst x3
    refine tn_mk (gv_tup (gvs_cons (gv_name (i := 4) hS.nd rfl (.inl rfl)) (gvs_cons (gv_name (i := 5) hS.nd rfl (.inl rfl)) gvs_nil))) ?_
    refine bk_cons (sm_if (bb := false) (tv_not (t := true) (tv_bl (ev_call (m := true) (d := .bl true) k_wholes (hr.mono (by decide)) rfl (av_cons (d := intsD r1) (ev_v (i := 4) rfl rfl) (av_cons (ev_v (i := 5) rfl rfl) av_nil)) ⟨_, rfl, rfl⟩))) (fun hc => nomatch hc) (fun _ => bk_nil (bk_nil ⟨(), trivial, ?_⟩)))
    (try dsimp only [List.set])
    walk_at "lee"
  · rintro - -
    refine bk_cons (sm_if (bb := false) (TV.is (TW.tv (tw_or (tv_not (t := true) (tv_bl (ev_call (m := true) (d := .bl true) k_whole (hr.mono (by decide)) rfl (av_cons (d := .int rent) (ev_fld (d := .int rent) (ev_v (i := 0) rfl rfl) T_House.cl (T_House.na _ (by decide)) rfl) av_nil) ⟨_, rfl, rfl⟩))) fun _ => tw_or1 (tv_neI (i := rent) (j := rent) (ev_fld (d := .int rent) (ev_v (i := 0) rfl rfl) T_House.cl (T_House.na _ (by decide)) rfl) (ev_v (i := 3) rfl rfl)))) (by simp)) (fun hc => nomatch hc) (fun _ => bk_nil ?_))
    refine bk_cons (sm_if (bb := false) (TV.is (TW.tv (tw_or (tv_not (t := true) (tv_bl (ev_call (m := true) (d := .bl true) k_whole (hr.mono (by decide)) rfl (av_cons (d := .int (ws.length : Int)) (ev_meth0 (d := .int (ws.length : Int)) k_House_people T_House.cl (hr.mono (by decide)) (ev_v (i := 0) rfl rfl) rfl ⟨_, _, _, rfl, rfl⟩) av_nil) ⟨_, rfl, rfl⟩))) fun _ => tw_or1 (tv_neI (ev_meth0 (d := .int (ws.length : Int)) k_House_people T_House.cl (hr.mono (by decide)) (ev_v (i := 0) rfl rfl) rfl ⟨_, _, _, rfl, rfl⟩) (ev_len (ds := ws.map intsD) rfl B.len (ev_v (i := 2) rfl rfl))))) (by simp)) (fun hc => nomatch hc) (fun _ => bk_nil ?_))
    exact bk_cons (sm_ret (EV.to (ev_and (t := true) (ev_call (m := true) (d := .bl true) k_whole (hr.mono (by decide)) rfl (av_cons (d := .int (beds.length : Int)) (ev_meth0 (d := .int (beds.length : Int)) k_House_rooms T_House.cl (hr.mono (by decide)) (ev_v (i := 0) rfl rfl) rfl ⟨_, _, _, rfl, rfl⟩) av_nil) ⟨_, rfl, rfl⟩) fun _ => ev_one (ev_eqI (ev_meth0 (d := .int (beds.length : Int)) k_House_rooms T_House.cl (hr.mono (by decide)) (ev_v (i := 0) rfl rfl) rfl ⟨_, _, _, rfl, rfl⟩) (ev_len (ds := beds.map D.int) rfl B.len (ev_v (i := 1) rfl rfl)))) (by simp)) rfl)

local macro_rules | `(tactic| walk_at "call") => `(tactic| ((with_reducible show EV _ _ _ (.Call (.Name "_law_right" _) _ _ _) _); apply ev_callF_a <;> first | exact k_lright | ((with_reducible show Room _ _); exact hr.mono (by decide)) | ((with_reducible show Sd _); walk_at "side") | ((with_reducible show AV _ _ _ _ _); walk_at "z") | ((with_reducible show EV _ _ _ _ _); walk_at "z") | ((fail_if_success (with_reducible show AV _ _ _ _ _)); (fail_if_success (with_reducible show EV _ _ _ _ _)); first | walk_at "z" | (refine ⟨_, _, _, rfl, ?_, rfl⟩ <;> first | walk_at "sc" | walk_at "sd1" | skip) | skip)))
local macro_rules | `(tactic| walk_at "call") => `(tactic| ((with_reducible show EV _ _ _ (.Call (.Name "_law_right" _) _ _ _) _); apply ev_callT_a <;> first | exact k_lright | ((with_reducible show Room _ _); exact hr.mono (by decide)) | ((with_reducible show Sd _); walk_at "side") | ((with_reducible show AV _ _ _ _ _); walk_at "z") | ((with_reducible show EV _ _ _ _ _); walk_at "z") | ((fail_if_success (with_reducible show AV _ _ _ _ _)); (fail_if_success (with_reducible show EV _ _ _ _ _)); first | walk_at "z" | (refine ⟨_, _, _, rfl, ?_, rfl⟩ <;> first | walk_at "sc" | walk_at "sd1" | skip) | skip)))

def handT (beds : List Int) (ws : List (List Int)) : Z.T := .ls [Z.T.l (beds.map .int), .ls (ws.map fun r => Z.T.l (r.map .int))]
def repW (many : Int) (ws : List (List Int)) : List (List Int) := (List.range many.toNat).map fun i => ws.getD (i % ws.length) []
theorem handT_d (beds : List Int) (ws : List (List Int)) : (handT beds ws).d = .lst [intsD beds, rowsD ws] := by
  unfold handT
  rw [T.d, T.dl, T.dl, T.dl, T.d_l, T.d, dl_rows]
theorem eqOk_hand (beds : List Int) (ws : List (List Int)) : eqOk 64 (.lst [intsD beds, rowsD ws]) = true := by
  rw [eqOk]
  refine eqOks_of 63 _ fun d hd => ?_
  simp only [List.mem_cons, List.not_mem_nil, or_false] at hd
  rcases hd with rfl | rfl
  · exact eqOk_ints 62 beds
  · exact eqOk_lists 61 ws
theorem flt_ints (l : List Int) : T.flt (Z.T.l (l.map .int)) = true := by
  rw [T.flt, flts_fz]
  rw [List.all_eq_true]
  intro d hd
  obtain ⟨i, _, rfl⟩ := List.mem_map.mp hd; rfl
theorem flt_rows (ws : List (List Int)) : T.flt (.ls (ws.map fun r => Z.T.l (r.map .int))) = true := by
  rw [T.flt]
  refine flts_all fun t ht => ?_
  obtain ⟨r, _, rfl⟩ := List.mem_map.mp ht
  exact flt_ints r
theorem flt_made (C : Addr) (beds : List Int) (ws : List (List Int)) (rent : Int) : T.flt (madeT C beds ws rent) = true := by
  unfold madeT
  split
  · unfold houseT
    simp only [T.flt, T.flts, T.fltf, flts_fz, flat, Bool.and_true, Bool.and_eq_true]
    have a := flt_ints beds
    have b := flt_rows ws
    rw [T.flt, flts_fz] at a
    rw [T.flt] at b
    exact ⟨a, b⟩
  · unfold toldX; rfl
/-- the worths that the law goes on with -/
structure Ws11 (beds : List Int) (ws : List (List Int)) : Prop where
  w1 : 1 ≤ ws.length
  w2 : ws.length ≤ 1000
  rl : ∀ r ∈ ws, r.length = beds.length
  b1 : 1 ≤ beds.length
  b2 : beds.length ≤ 1000
  s1 : 1 ≤ beds.sum
theorem sc_law : FnScope ["_law_script", "_law_beds_here", "_law_worths_here", "_law_rent", "_law_many", "_law_handed", "_law_found", "_law_told", "_law_i", "_law_row"] ["_law_script"] (defScope s_law) := ⟨rfl, rfl, rfl, by decide +kernel, rfl, by decide +kernel, by decide +kernel⟩
theorem ok_law (B : Bl mg) {C_House : Addr} (T_House : TyC K mg "House" C_House ["beds", "worths", "rent"]) {C_TooFew : Addr} (X_TooFew : TyE K mg "TooFew" C_TooFew) {C_RentError : Addr} (X_RentError : TyE K mg "RentError" C_RentError) (s_TooFew_RentError : PySem.W.subIn K (.ref C_TooFew) (.ref C_RentError) = some true) (k_lhouse : FnK P w K mg base CX0 "_law_house" 3 sp_lhouse) (k_at : FnK P w K mg base CX0 "_law_at" 1 sp_at) (k_draw : FnK P w K mg base CX0 "_law_draw" 1 sp_draw) (k_lmade : FnK P w K mg base CX0 "_law_made" 3 (sp_lmade C_House C_TooFew C_RentError)) (k_lright : FnK P w K mg base CX0 "_law_right" 3 (sp_lright C_House))
    {f : Addr} {fd : FuncData} (Fn : Fun K "law" "law" s_law f fd) : FnOk P w K mg base CX0 4 f fd ["_law_script"] (Pr K spLaw) := by
  refine fn_okZ Fn sc_law (fun ds r h => ?_) (fun cdv A outer s H E hr hN hnd ds r h => ?_)
  · obtain ⟨_, rfl, _⟩ := h; rfl
  obtain ⟨ns, rfl, hl, rfl⟩ := h
  have hsz := sizeLine_eq
  have hS := sc_law
  refine' bk_ini ?ini ?k
  case ini => walk_at "ini"
  have L := lawHouse (ns := ns) (mp := 10) (mr := 10) (by decide) (by decide) (by decide) (by decide)
  refine bk_cons (sm_asg (d := .tup [intsD (hBeds ns 10), rowsD (hWs ns 10 10), .int (hRent ns)]) (ev_call k_lhouse (hr.mono (by decide)) rfl (av_cons (ev_v (i := 0) rfl rfl) (av_cons ev_int (av_cons ev_int av_nil))) ⟨ns, 10, 10, rfl, by decide, by decide, by decide, by decide, rfl⟩) (gv_tup (gvs_cons (gv_name (i := 1) hS.nd rfl (.inl rfl)) (gvs_cons (gv_name (i := 2) hS.nd rfl (.inr rfl)) (gvs_cons (gv_name (i := 3) hS.nd rfl (.inl rfl)) gvs_nil)))) ?_)
  have hsum := hBeds_sum (ns := ns) (mr := 10) (by decide)
  generalize hBeds ns 10 = beds at L hsum
  generalize hWs ns 10 10 = ws0 at L
  generalize hRent ns = rent
  have W0 : Ws11 beds ws0 := ⟨L.p1, by have := L.p2; omega, L.ok.rl, L.r1, by have := L.r2; omega, hsum⟩
  generalize hD : drawI (atS ns 1) 1664525 4 = dr
  generalize hD2 : drawI (atS ns 1) 22695477 3 = dr2
  obtain ⟨many, hmany⟩ : ∃ many, many = dmax 1 (dmin 10 (beds.sum + dr - 1)) := ⟨_, rfl⟩
  have hm1 : 1 ≤ many ∧ many ≤ 10 := by rw [hmany]; unfold dmax dmin; split <;> split <;> omega
  refine bk_cons (sm_set (i := 4) (d := .int many) hS.nd rfl (.inl rfl) (EV.to (ev_max2 (i := 1) (j := dmin 10 (beds.sum + dr - 1)) rfl rfl B.max ev_int (ev_min2 (i := 10) (j := beds.sum + dr - 1) rfl rfl B.min ev_int (ev_sub (i := beds.sum + dr) (j := 1) (ev_add (i := beds.sum) (j := dr) (ev_sum (ns := beds) rfl rfl B.sum (ev_v (i := 1) rfl rfl)) (EV.to (ev_call (m := false) (d := .int (drawI (atS ns 1) 1664525 4)) k_draw (hr.mono (by decide)) rfl (av_cons (ev_call (d := .int (atS ns 1)) k_at (hr.mono (by decide)) rfl (av_cons (ev_v (i := 0) rfl rfl) (av_cons ev_int av_nil)) ⟨_, _, rfl, rfl⟩) (av_cons ev_int (av_cons ev_int av_nil))) ⟨_, _, _, rfl, by decide, rfl⟩) (by rw [hD]))) ev_int))) (by rw [hmany])) ?_)
  refine bk_ifJ (S := List (List Int)) (bb := decide (dr2 > 0)) (tv_gt (i := dr2) (j := 0) (EV.to (ev_call (m := false) (d := .int (drawI (atS ns 1) 22695477 3)) k_draw (hr.mono (by decide)) rfl (av_cons (ev_call (d := .int (atS ns 1)) k_at (hr.mono (by decide)) rfl (av_cons (ev_v (i := 0) rfl rfl) (av_cons ev_int av_nil)) ⟨_, _, rfl, rfl⟩) (av_cons ev_int (av_cons ev_int av_nil))) ⟨_, _, _, rfl, by decide, rfl⟩) (by rw [hD2])) ev_int) (fun ws => [.v (.scr ns), .v (intsD beds), .v (rowsD ws), .v (.int rent), .v (.int many), .u, .u, .u, .u, .u]) (fun ws => Ws11 beds ws) (fun hc => ?_) (fun hc => bk_nil ⟨ws0, W0, by walk_at "lee"⟩) ?_
  · refine bk_cons (sm_set (i := 2) (d := rowsD (repW many ws0)) hS.nd rfl (.inr rfl) (EV.to (EO.ev (eo_lc (own := [("_law_i", 8)]) (f := fun d => intsD (ws0.getD (d.toI.toNat % ws0.length) [])) (by rw [rngD_len]; omega) (it_range1 (n := many) rfl B.range (ev_v (i := 4) rfl rfl) (by omega) (by omega)) (fun d hd => ?_) hS.nd (blk_of hS (by decide +kernel) rfl rfl))) ?_) ?_)
    · obtain ⟨j, hj, rfl⟩ := List.mem_map.mp hd
      have w1 := W0.w1
      have hjm : j % ws0.length < ws0.length := Nat.mod_lt _ (by omega)
      refine ⟨_, _, by decide, fun _ _ _ _ _ => gv_name (i := 8) hS.nd rfl (.inl rfl), fun _ _ _ _ _ => ?_⟩
      refine EV.to (d := intsD (ws0.getD (j % ws0.length) [])) (EO.ev (eo_list rfl B.list ?_)) ?_
      · refine ev_ix (ds := ws0.map intsD) (i := ((j % ws0.length : Nat) : Int)) (ev_v (i := 2) rfl rfl) (EV.to (ev_mod (i := (0 : Int) + (j : Int)) (j := (ws0.length : Int)) (ev_v (i := 8) rfl rfl) (EV.to (ev_len (ds := ws0.map intsD) rfl B.len (ev_v (i := 2) rfl rfl)) (by rw [List.length_map])) (by omega)) (by rw [Int.zero_add]; rfl)) (atI_nat ?_)
        rw [List.getElem?_map, List.getElem?_eq_getElem hjm, List.getD_eq_getElem?_getD, List.getElem?_eq_getElem hjm]; rfl
      · show intsD (ws0.getD (j % ws0.length) []) = intsD (ws0.getD ((0 + (j : Int)).toNat % ws0.length) [])
        rw [show (0 + (j : Int)).toNat = j by omega]
    · unfold repW rngD
      show D.lst (List.map _ (List.map _ _)) = D.lst (List.map intsD (List.map _ _))
      rw [List.map_map, List.map_map]
      congr 1
      apply List.map_congr_left
      intro j _
      show intsD (ws0.getD ((0 + (j : Int)).toNat % ws0.length) []) = intsD (ws0.getD (j % ws0.length) [])
      rw [show (0 + (j : Int)).toNat = j by omega]
    · refine bk_nil ⟨repW many ws0, ⟨?_, ?_, ?_, W0.b1, W0.b2, W0.s1⟩, by walk_at "lee"⟩
      · unfold repW; rw [List.length_map, List.length_range]; omega
      · unfold repW; rw [List.length_map, List.length_range]; omega
      · intro r hr
        obtain ⟨j, _, rfl⟩ := List.mem_map.mp hr
        have w1 := W0.w1
        have hjm : j % ws0.length < ws0.length := Nat.mod_lt _ (by omega)
        rw [List.getD_eq_getElem?_getD, List.getElem?_eq_getElem hjm]
        exact W0.rl _ (List.getElem_mem hjm)
  intro ws W1
  have w2 := W1.w2
  have hbs := W1.s1
  have hbl := W1.b2
  refine bk_cons (sm_sett (i := 5) (t := handT beds ws) hS.nd rfl (.inl rfl) (et_lst (at_cons (EO.et (eo_list rfl B.list (ev_v (i := 1) rfl rfl))) (at_cons (ET.to (et_lc (own := [("_law_row", 9)]) (f := fun d => Z.T.l d.toL) (by rw [List.length_map]; omega) (it_list (ev_v (i := 2) rfl rfl)) (fun d hd => ?_) hS.nd (blk_of hS (by decide +kernel) rfl rfl)) (by rw [List.map_map]; rfl)) at_nil)) (by simp)) ?_)
  · obtain ⟨r, _, rfl⟩ := List.mem_map.mp hd
    exact ⟨_, _, by decide, fun _ _ _ _ _ => gv_name (i := 9) hS.nd rfl (.inl rfl), fun _ _ _ _ _ => EO.et (eo_list rfl B.list (ev_v (i := 9) rfl rfl))⟩
  refine bk_cut (fun _ : Unit => True) (fun _ => [.v (.scr ns), .v (intsD beds), .v (rowsD ws), .v (.int rent), .v (.int many), .w none (handT beds ws), (if (ws.length : Int) ≤ beds.sum then .w none (houseT C_House beds ws rent) else .v .non), (if (ws.length : Int) ≤ beds.sum then .v .non else .w none toldX), .u, .u]) ?_ fun _ _ => ?_
  · by_cases hfit : (ws.length : Int) ≤ beds.sum
    · refine (sm_unpE (ts := [houseT C_House beds ws rent, .fz .non]) (etx_of (ET.to (et_callF k_lmade (hr.mono (by decide)) rfl (av_cons (d := intsD beds) (EV.to (EP.ev (ep_ix (k := 0) (z := 0) (ep_name (i := 5) rfl rfl) rfl rfl ev_int rfl (by simp)) rfl rfl) (T.d_l _)) (av_cons (d := rowsD ws) (EV.to (EP.ev (ep_ix (k := 1) (z := 1) (ep_name (i := 5) rfl rfl) rfl rfl ev_int rfl (by simp)) rfl rfl) (by rw [T.d, dl_rows])) (av_cons (ev_v (i := 3) rfl rfl) av_nil))) ⟨beds, ws, rent, rfl, w2, rfl⟩ (flt_made _ _ _ _)) (if_pos hfit))) (gts_cons (i := 6) hS.nd rfl (.inl rfl) (gts_cons (i := 7) hS.nd rfl (.inl rfl) gts_nil)) ⟨(), trivial, ?_⟩)
      rw [if_pos hfit, if_pos hfit]; rfl
    · refine (sm_unpE (ts := [.fz .non, toldX]) (etx_of (ET.to (et_callF k_lmade (hr.mono (by decide)) rfl (av_cons (d := intsD beds) (EV.to (EP.ev (ep_ix (k := 0) (z := 0) (ep_name (i := 5) rfl rfl) rfl rfl ev_int rfl (by simp)) rfl rfl) (T.d_l _)) (av_cons (d := rowsD ws) (EV.to (EP.ev (ep_ix (k := 1) (z := 1) (ep_name (i := 5) rfl rfl) rfl rfl ev_int rfl (by simp)) rfl rfl) (by rw [T.d, dl_rows])) (av_cons (ev_v (i := 3) rfl rfl) av_nil))) ⟨beds, ws, rent, rfl, w2, rfl⟩ (flt_made _ _ _ _)) (if_neg hfit))) (gts_cons (i := 6) hS.nd rfl (.inl rfl) (gts_cons (i := 7) hS.nd rfl (.inl rfl) gts_nil)) ⟨(), trivial, ?_⟩)
      rw [if_neg hfit, if_neg hfit]; rfl
  refine bk_cons (sm_if (bb := false) (tv_neR (x := .lst [intsD beds, rowsD ws]) (EV.to (EP.ev (ep_name (i := 5) rfl rfl) rfl rfl) (handT_d _ _)) (ev_lst (av_cons (ev_v (i := 1) rfl rfl) (av_cons (ev_v (i := 2) rfl rfl) av_nil)) (by simp)) hr.units (eqOk_hand _ _)) (fun hc => nomatch hc) (fun _ => bk_nil ?_))
  refine bk_ifJ (S := List (List Int)) (bb := decide ((ws.length : Int) > beds.sum)) (tv_gt (i := (ws.length : Int)) (j := beds.sum) (EV.to (ev_len (ds := ws.map intsD) rfl B.len (ev_v (i := 2) rfl rfl)) (by rw [List.length_map])) (ev_sum (ns := beds) rfl rfl B.sum (ev_v (i := 1) rfl rfl))) (fun ws => [.v (.scr ns), .v (intsD beds), .v (rowsD ws), .v (.int rent), .v (.int many), .w none (handT beds ws), .w none (houseT C_House beds ws rent), .v .non, .u, .u]) (fun ws => Ws11 beds ws) (fun hc => ?_) (fun hc => ?_) ?_
  · have hc := of_decide_eq_true hc
    have hfit : ¬ (ws.length : Int) ≤ beds.sum := by omega
    rw [if_neg hfit, if_neg hfit]
    refine bk_frzT (i := 7) (t := toldX) rfl ?_
    have eT : toldX.d = .tup [.bl true, .bl true, .bl false] := by
      simp only [toldX, T.d, T.dl]
    rw [eT]
    show Bk _ (_ :: _) [.v (.scr ns), .v (intsD beds), .v (rowsD ws), .v (.int rent), .v (.int many), .w none (handT beds ws), .v .non, .v (.tup [.bl true, .bl true, .bl false]), .u, .u] _
    refine bk_cons (sm_if (bb := false) (TV.is (TW.tv (tw_or (t := false) (tv_notND (x := .non) (ev_v (i := 6) rfl rfl) rfl) fun _ => tw_or1 (tv_neR (x := .tup [.bl true, .bl true, .bl false]) (ev_v (i := 7) rfl rfl) (ev_tup (av_cons ev_bl (av_cons ev_bl (av_cons ev_bl av_nil))) (by simp)) hr.units rfl))) rfl) (fun hc => nomatch hc) (fun _ => bk_nil ?_))
    obtain ⟨k, hk⟩ : ∃ k : Nat, beds.sum = (k : Int) := ⟨beds.sum.toNat, by omega⟩
    have hk1 : k < ws.length := by omega
    refine bk_cons (sm_set (i := 2) (d := rowsD (ws.take k)) hS.nd rfl (.inr rfl) (EV.to (EO.ev (eo_sl (l := none) (u := some beds.sum) (ev_v (i := 2) rfl rfl) ov_none (ov_some (ev_sum (ns := beds) rfl rfl B.sum (ev_v (i := 1) rfl rfl))))) ?_) ?_)
    · show D.lst _ = D.lst _
      congr 1
      unfold slD
      rw [hk, HT.sIx_none, HT.sIx_nat, List.length_map, List.drop_zero, Nat.sub_zero, Nat.min_eq_left (by omega), List.map_take]
    have tl : (ws.take k).length = k := by rw [List.length_take]; omega
    have W2 : Ws11 beds (ws.take k) := ⟨by omega, by omega, fun r hr => W1.rl r (List.mem_of_mem_take hr), W1.b1, W1.b2, W1.s1⟩
    refine bk_cons (sm_sett (i := 5) (t := handT beds (ws.take k)) hS.nd rfl (.inl rfl) (et_lst (at_cons (EO.et (eo_list rfl B.list (ev_v (i := 1) rfl rfl))) (at_cons (ET.to (et_lc (own := [("_law_row", 9)]) (f := fun d => Z.T.l d.toL) (by rw [List.length_map, tl]; omega) (it_list (ev_v (i := 2) rfl rfl)) (fun d hd => ?_) hS.nd (blk_of hS (by decide +kernel) rfl rfl)) (by rw [List.map_map]; rfl)) at_nil)) (by simp)) ?_)
    · obtain ⟨r, _, rfl⟩ := List.mem_map.mp hd
      exact ⟨_, _, by decide, fun _ _ _ _ _ => gv_name (i := 9) hS.nd rfl (.inl rfl), fun _ _ _ _ _ => EO.et (eo_list rfl B.list (ev_v (i := 9) rfl rfl))⟩

    refine bk_cons (sm_unpE (ts := [houseT C_House beds (ws.take k) rent, .fz .non]) (etx_of (ET.to (et_callF k_lmade (hr.mono (by decide)) rfl (av_cons (d := intsD beds) (EV.to (EP.ev (ep_ix (k := 0) (z := 0) (ep_name (i := 5) rfl rfl) rfl rfl ev_int rfl (by simp)) rfl rfl) (T.d_l _)) (av_cons (d := rowsD (ws.take k)) (EV.to (EP.ev (ep_ix (k := 1) (z := 1) (ep_name (i := 5) rfl rfl) rfl rfl ev_int rfl (by simp)) rfl rfl) (by rw [T.d, dl_rows])) (av_cons (ev_v (i := 3) rfl rfl) av_nil))) ⟨beds, (ws.take k), rent, rfl, (by omega), rfl⟩ (flt_made _ _ _ _)) (if_pos (by omega)))) (gts_cons (i := 6) hS.nd rfl (.inl rfl) (gts_cons (i := 7) hS.nd rfl (.inl rfl) gts_nil)) ?_)
    exact bk_nil ⟨ws.take k, W2, by walk_at "lee"⟩
  · have hc := of_decide_eq_false hc
    have hfit : (ws.length : Int) ≤ beds.sum := by omega
    rw [if_pos hfit, if_pos hfit]
    exact bk_nil ⟨ws, W1, by walk_at "lee"⟩
  clear W1 w2
  intro ws W1
  have w2 := W1.w2
  refine bk_frzT (i := 6) (t := houseT C_House beds ws rent) rfl ?_
  rw [houseT_d]
  obtain ⟨r0, rs, rfl⟩ : ∃ r0 rs, ws = r0 :: rs := by
    have := W1.w1
    cases ws with
    | nil => simp at this
    | cons a b => exact ⟨a, b, rfl⟩
  obtain ⟨x0, xs, rfl⟩ : ∃ x0 xs, r0 = x0 :: xs := by
    have h1 := W1.rl r0 List.mem_cons_self
    have h2 := W1.b1
    cases r0 with
    | nil => simp at h1; omega
    | cons a b => exact ⟨a, b, rfl⟩
  have hrx := W1.rl _ List.mem_cons_self
  show Bk _ (_ :: _) [.v (.scr ns), .v (intsD beds), .v (rowsD ((x0 :: xs) :: rs)), .v (.int rent), .v (.int many), .w none (handT beds ((x0 :: xs) :: rs)), .v (houseD C_House beds ((x0 :: xs) :: rs) rent), .v .non, .u, .u] _
  refine bk_cons (sm_if (bb := false) (TV.is (TW.tv (tw_or (t := false) (tv_notND (x := .non) (ev_v (i := 7) rfl rfl) rfl) fun _ => tw_or (t := false) (tv_isND (x := houseD C_House beds ((x0 :: xs) :: rs) rent) (ev_v (i := 6) rfl rfl) rfl) fun _ => tw_or1 (tv_not (t := true) (tv_bl (ev_call (m := true) (d := .bl true) k_lright (hr.mono (by decide)) rfl (av_cons (ev_v (i := 6) rfl rfl) (av_cons (ev_v (i := 1) rfl rfl) (av_cons (ev_v (i := 2) rfl rfl) (av_cons (ev_v (i := 3) rfl rfl) av_nil)))) ⟨beds, _, rent, rfl, w2, rfl⟩))))) rfl) (fun hc => nomatch hc) (fun _ => bk_nil ?_))
  refine bk_cons (sm_appendP (i := 5) (s := .fz (.int 3)) (ts := (beds.map D.int).map T.fz) (ep_ix (k := 0) (ts := [Z.T.l (beds.map .int), .ls (((x0 :: xs) :: rs).map fun r => Z.T.l (r.map .int))]) (ep_name (i := 5) rfl rfl) rfl rfl ev_int (ixN_nat rfl (by simp)) (by simp)) rfl rfl (EV.et ev_int) (by rw [List.length_map, List.length_map]; omega) ?_)
  show Bk _ (_ :: _) [.v (.scr ns), .v (intsD beds), .v (rowsD ((x0 :: xs) :: rs)), .v (.int rent), .v (.int many), .w none (.ls [.ls ((beds.map D.int).map T.fz ++ [.fz (.int 3)]), .ls (Z.T.l ((x0 :: xs).map .int) :: rs.map fun r => Z.T.l (r.map .int))]), .v (houseD C_House beds ((x0 :: xs) :: rs) rent), .v .non, .u, .u] _
  refine bk_cons (sm_setiP (i := 5) (k := 0) (ts := ((x0 :: xs).map D.int).map T.fz) (s := .fz (.int (x0 + 1))) (EV.et (ev_add (ev_ixL (d := .int x0) (efl_P (xs := (x0 :: xs).map .int) (ep_ix (k := 0) (z := 0) (ep_ix (k := 1) (z := 1) (ep_name (i := 5) rfl rfl) rfl rfl ev_int rfl (by simp)) rfl rfl ev_int (ixN_nat rfl (by simp)) (by simp)) rfl rfl) ev_int (at_ints (ns := x0 :: xs) (i := 0) (by omega) (by simp))) ev_int)) (ep_ix (k := 0) (z := 0) (ep_ix (k := 1) (z := 1) (ep_name (i := 5) rfl rfl) rfl rfl ev_int rfl (by simp)) rfl rfl ev_int (ixN_nat rfl (by simp)) (by simp)) rfl rfl ev_int (ixN_nat rfl (by simp)) (by simp) ?_)
  show Bk _ (_ :: _) [.v (.scr ns), .v (intsD beds), .v (rowsD ((x0 :: xs) :: rs)), .v (.int rent), .v (.int many), .w none (.ls [.ls ((beds.map D.int).map T.fz ++ [.fz (.int 3)]), .ls (.ls (.fz (.int (x0 + 1)) :: (xs.map D.int).map T.fz) :: rs.map fun r => Z.T.l (r.map .int))]), .v (houseD C_House beds ((x0 :: xs) :: rs) rent), .v .non, .u, .u] _
  refine bk_cons (sm_appendP (i := 5) (s := Z.T.l [.int 0]) (ep_ix (k := 1) (z := 1) (ep_name (i := 5) rfl rfl) rfl rfl ev_int rfl (by simp)) rfl rfl (EO.et (eo_lst (av_cons ev_int av_nil) (by simp))) ?_ ?_)
  · have : rs.length + 1 ≤ 1000 := w2
    simp; omega
  refine bk_drop (i := 5) ?_
  exact bk_cons (sm_ret (d := .bl true) (ev_call (m := true) (d := .bl true) k_lright (hr.mono (by decide)) rfl (av_cons (ev_v (i := 6) rfl rfl) (av_cons (ev_v (i := 1) rfl rfl) (av_cons (ev_v (i := 2) rfl rfl) (av_cons (ev_v (i := 3) rfl rfl) av_nil)))) ⟨beds, _, rent, rfl, w2, rfl⟩) rfl)

end
theorem all_mk [τ : Tb] {l : PySem.W.OpenLaw} {w : World} {K : PySem.W.Frag} {h : Heap} {mg : Str → Option Value} {fa f1 f2 f3 f4 f5 f6 f7 f8 f9 f10 f11 f12 f13 f14 f15 f16 C_House C_RentError C_TooFew C_NoAmount C_NoLine C_TooMany : Addr}
    {od1 an1 od2 an2 od3 an3 od4 an4 od5 an5 od6 an6 od7 an7 od8 an8 od9 an9 od10 an10 od11 an11 od12 an12 od13 an13 od14 an14 od15 an15 od16 an16 : Option Addr} {sl1 sl2 sl3 sl4 sl5 sl6 sl7 sl8 sl9 sl10 sl11 sl12 sl13 sl14 sl15 sl16 : Array (Option Value)} {oc1 kV1 dc1 pm1 cd1 ct1 oc2 kV2 dc2 pm2 cd2 ct2 oc3 kV3 dc3 pm3 cd3 ct3 oc4 kV4 dc4 pm4 cd4 ct4 oc5 kV5 dc5 pm5 cd5 ct5 oc6 kV6 dc6 pm6 cd6 ct6 oc7 kV7 dc7 pm7 cd7 ct7 oc8 kV8 dc8 pm8 cd8 ct8 oc9 kV9 dc9 pm9 cd9 ct9 oc10 kV10 dc10 pm10 cd10 ct10 oc11 kV11 dc11 pm11 cd11 ct11 oc12 kV12 dc12 pm12 cd12 ct12 oc13 kV13 dc13 pm13 cd13 ct13 oc14 kV14 dc14 pm14 cd14 ct14 oc15 kV15 dc15 pm15 cd15 ct15 oc16 kV16 dc16 pm16 cd16 ct16 : Value} (X : K.In h) (G : h.Ns mainGlobals mg) (hfa : mg "law" = some (.ref fa))
    (a1 : PySem.W.findIn K (.ref C_House) "__init__" = some (some (.ref f1))) (i1 : PySem.W.isFn K (.ref f1) = true) (l1 : K.lookup f1 = some ⟨oc1, od1, .func (PySem.W.fnOf "__init__" "House.__init__" (defArgs s_House_init) (defBody s_House_init) (defScope s_House_init) .none kV1 dc1 pm1 an1 cd1 ct1), sl1⟩) (c1 : PySem.W.codeIn K cd1 "House.__init__" = true) (k1 : PySem.W.keepIn K (.ref f1) = true)
    (a2 : PySem.W.findIn K (.ref C_House) "__init__" = some (some (.ref f2))) (i2 : PySem.W.isFn K (.ref f2) = true) (l2 : K.lookup f2 = some ⟨oc2, od2, .func (PySem.W.fnOf "__init__" "House.__init__" (defArgs s_House_initX) (defBody s_House_initX) (defScope s_House_initX) .none kV2 dc2 pm2 an2 cd2 ct2), sl2⟩) (c2 : PySem.W.codeIn K cd2 "House.__init__" = true) (k2 : PySem.W.keepIn K (.ref f2) = true)
    (a3 : PySem.W.findIn K (.ref C_House) "people" = some (some (.ref f3))) (i3 : PySem.W.isFn K (.ref f3) = true) (l3 : K.lookup f3 = some ⟨oc3, od3, .func (PySem.W.fnOf "people" "House.people" (defArgs s_House_people) (defBody s_House_people) (defScope s_House_people) .none kV3 dc3 pm3 an3 cd3 ct3), sl3⟩) (c3 : PySem.W.codeIn K cd3 "House.people" = true) (k3 : PySem.W.keepIn K (.ref f3) = true)
    (a4 : PySem.W.findIn K (.ref C_House) "rooms" = some (some (.ref f4))) (i4 : PySem.W.isFn K (.ref f4) = true) (l4 : K.lookup f4 = some ⟨oc4, od4, .func (PySem.W.fnOf "rooms" "House.rooms" (defArgs s_House_rooms) (defBody s_House_rooms) (defScope s_House_rooms) .none kV4 dc4 pm4 an4 cd4 ct4), sl4⟩) (c4 : PySem.W.codeIn K cd4 "House.rooms" = true) (k4 : PySem.W.keepIn K (.ref f4) = true)
    (a5 : PySem.W.nsIn K mainGlobals "_law_at" = some (some (.ref f5))) (l5 : K.lookup f5 = some ⟨oc5, od5, .func (PySem.W.fnOf "_law_at" "_law_at" (defArgs s_at) (defBody s_at) (defScope s_at) .none kV5 dc5 pm5 an5 cd5 ct5), sl5⟩) (c5 : PySem.W.codeIn K cd5 "_law_at" = true) (k5 : PySem.W.keepIn K (.ref f5) = true)
    (a6 : PySem.W.nsIn K mainGlobals "_law_draw" = some (some (.ref f6))) (l6 : K.lookup f6 = some ⟨oc6, od6, .func (PySem.W.fnOf "_law_draw" "_law_draw" (defArgs s_draw) (defBody s_draw) (defScope s_draw) .none kV6 dc6 pm6 an6 cd6 ct6), sl6⟩) (c6 : PySem.W.codeIn K cd6 "_law_draw" = true) (k6 : PySem.W.keepIn K (.ref f6) = true)
    (a7 : PySem.W.nsIn K mainGlobals "_law_mixed" = some (some (.ref f7))) (l7 : K.lookup f7 = some ⟨oc7, od7, .func (PySem.W.fnOf "_law_mixed" "_law_mixed" (defArgs s_mixed) (defBody s_mixed) (defScope s_mixed) .none kV7 dc7 pm7 an7 cd7 ct7), sl7⟩) (c7 : PySem.W.codeIn K cd7 "_law_mixed" = true) (k7 : PySem.W.keepIn K (.ref f7) = true)
    (a8 : PySem.W.nsIn K mainGlobals "_law_beds" = some (some (.ref f8))) (l8 : K.lookup f8 = some ⟨oc8, od8, .func (PySem.W.fnOf "_law_beds" "_law_beds" (defArgs s_lbeds) (defBody s_lbeds) (defScope s_lbeds) .none kV8 dc8 pm8 an8 cd8 ct8), sl8⟩) (c8 : PySem.W.codeIn K cd8 "_law_beds" = true) (k8 : PySem.W.keepIn K (.ref f8) = true)
    (a9 : PySem.W.nsIn K mainGlobals "_law_whole" = some (some (.ref f9))) (l9 : K.lookup f9 = some ⟨oc9, od9, .func (PySem.W.fnOf "_law_whole" "_law_whole" (defArgs s_whole) (defBody s_whole) (defScope s_whole) .none kV9 dc9 pm9 an9 cd9 ct9), sl9⟩) (c9 : PySem.W.codeIn K cd9 "_law_whole" = true) (k9 : PySem.W.keepIn K (.ref f9) = true)
    (a10 : PySem.W.nsIn K mainGlobals "_law_wholes" = some (some (.ref f10))) (l10 : K.lookup f10 = some ⟨oc10, od10, .func (PySem.W.fnOf "_law_wholes" "_law_wholes" (defArgs s_wholes) (defBody s_wholes) (defScope s_wholes) .none kV10 dc10 pm10 an10 cd10 ct10), sl10⟩) (c10 : PySem.W.codeIn K cd10 "_law_wholes" = true) (k10 : PySem.W.keepIn K (.ref f10) = true)
    (a11 : PySem.W.nsIn K mainGlobals "_law_worths" = some (some (.ref f11))) (l11 : K.lookup f11 = some ⟨oc11, od11, .func (PySem.W.fnOf "_law_worths" "_law_worths" (defArgs s_lworths) (defBody s_lworths) (defScope s_lworths) .none kV11 dc11 pm11 an11 cd11 ct11), sl11⟩) (c11 : PySem.W.codeIn K cd11 "_law_worths" = true) (k11 : PySem.W.keepIn K (.ref f11) = true)
    (a12 : PySem.W.nsIn K mainGlobals "_law_house" = some (some (.ref f12))) (l12 : K.lookup f12 = some ⟨oc12, od12, .func (PySem.W.fnOf "_law_house" "_law_house" (defArgs s_lhouse) (defBody s_lhouse) (defScope s_lhouse) .none kV12 dc12 pm12 an12 cd12 ct12), sl12⟩) (c12 : PySem.W.codeIn K cd12 "_law_house" = true) (k12 : PySem.W.keepIn K (.ref f12) = true)
    (a13 : PySem.W.nsIn K mainGlobals "_law_refusal" = some (some (.ref f13))) (l13 : K.lookup f13 = some ⟨oc13, od13, .func (PySem.W.fnOf "_law_refusal" "_law_refusal" (defArgs s_lrefusal) (defBody s_lrefusal) (defScope s_lrefusal) .none kV13 dc13 pm13 an13 cd13 ct13), sl13⟩) (c13 : PySem.W.codeIn K cd13 "_law_refusal" = true) (k13 : PySem.W.keepIn K (.ref f13) = true)
    (a14 : PySem.W.nsIn K mainGlobals "_law_made" = some (some (.ref f14))) (l14 : K.lookup f14 = some ⟨oc14, od14, .func (PySem.W.fnOf "_law_made" "_law_made" (defArgs s_lmade) (defBody s_lmade) (defScope s_lmade) .none kV14 dc14 pm14 an14 cd14 ct14), sl14⟩) (c14 : PySem.W.codeIn K cd14 "_law_made" = true) (k14 : PySem.W.keepIn K (.ref f14) = true)
    (a15 : PySem.W.nsIn K mainGlobals "_law_right" = some (some (.ref f15))) (l15 : K.lookup f15 = some ⟨oc15, od15, .func (PySem.W.fnOf "_law_right" "_law_right" (defArgs s_lright) (defBody s_lright) (defScope s_lright) .none kV15 dc15 pm15 an15 cd15 ct15), sl15⟩) (c15 : PySem.W.codeIn K cd15 "_law_right" = true) (k15 : PySem.W.keepIn K (.ref f15) = true)
    (a16 : PySem.W.nsIn K mainGlobals "law" = some (some (.ref f16))) (l16 : K.lookup f16 = some ⟨oc16, od16, .func (PySem.W.fnOf "law" "law" (defArgs s_law) (defBody s_law) (defScope s_law) .none kV16 dc16 pm16 an16 cd16 ct16), sl16⟩) (c16 : PySem.W.codeIn K cd16 "law" = true) (k16 : PySem.W.keepIn K (.ref f16) = true)
    (gc_House : PySem.W.nsIn K mainGlobals "House" = some (some (.ref C_House)))
    (p1_House : PySem.W.plainGet K C_House Str.empty = true)
    (p2_House : PySem.W.hasDictIn K C_House = true)
    (p3_House : PySem.W.plainOver K C_House = true)
    (p4_House : PySem.W.findIn K (.ref C_House) "__setattr__" = some (some (.builtin "object.__setattr__")))
    (n_House_beds : PySem.W.findIn K (.ref C_House) "beds" = some none)
    (n_House_worths : PySem.W.findIn K (.ref C_House) "worths" = some none)
    (n_House_rent : PySem.W.findIn K (.ref C_House) "rent" = some none)
    (mk_House : PySem.W.makesIn K C_House = true)
    (kc_House : PySem.W.keepIn K (.ref C_House) = true)
    (ge_RentError : PySem.W.nsIn K mainGlobals "RentError" = some (some (.ref C_RentError)))
    (xe_RentError : PySem.W.excIn K C_RentError [.type "ValueError", .type "Exception", .type "BaseException", .type "object"] "ValueError.__new__" = true)
    (ke_RentError : PySem.W.keepIn K (.ref C_RentError) = true)
    (sb_RentError : PySem.W.subIn K (.ref C_RentError) (.type "BaseException") = some true)
    (ty_RentError : PySem.W.typeIn K (.ref C_RentError) = some (.type "type"))
    (hd_RentError : PySem.W.hasDictIn K C_RentError = true)
    (me_RentError : PySem.W.subIn K (.ref C_RentError) (.ref C_RentError) = some true)
    (ge_TooFew : PySem.W.nsIn K mainGlobals "TooFew" = some (some (.ref C_TooFew)))
    (xe_TooFew : PySem.W.excIn K C_TooFew [.type "ValueError", .type "Exception", .type "BaseException", .type "object"] "ValueError.__new__" = true)
    (ke_TooFew : PySem.W.keepIn K (.ref C_TooFew) = true)
    (sb_TooFew : PySem.W.subIn K (.ref C_TooFew) (.type "BaseException") = some true)
    (ty_TooFew : PySem.W.typeIn K (.ref C_TooFew) = some (.type "type"))
    (hd_TooFew : PySem.W.hasDictIn K C_TooFew = true)
    (me_TooFew : PySem.W.subIn K (.ref C_TooFew) (.ref C_TooFew) = some true)
    (i1_TooFew : PySem.W.findIn K (.ref C_TooFew) "__getattribute__" = some (some (.builtin "BaseException.__getattribute__")))
    (i2_TooFew : PySem.W.findIn K (.ref C_TooFew) "__getattr__" = some none)
    (i3_TooFew : PySem.W.subIn K (.ref C_TooFew) (.type "BaseException") = some true)
    (i4_TooFew : PySem.W.hasDictIn K C_TooFew = true)
    (i5_TooFew : PySem.W.findIn K (.ref C_TooFew) "__class__" = some (some (.builtin "object.__class__")))
    (i6_TooFew : PySem.W.specialIn K (.builtin "object.__class__") "__get__" = some (some (.builtin "getset_descriptor.__get__")))
    (i7_TooFew : PySem.W.takesIn K (.builtin "object.__class__") = some true)
    (i8_TooFew : PySem.W.mroIn K C_TooFew (.type "object") = some true)
    (gi_TooFew : PySem.W.nsIn K mainGlobals "TooFew" = some (some (.ref C_TooFew)))
    (gi_NoAmount : PySem.W.nsIn K mainGlobals "NoAmount" = some (some (.ref C_NoAmount)))
    (gi_NoLine : PySem.W.nsIn K mainGlobals "NoLine" = some (some (.ref C_NoLine)))
    (gi_TooMany : PySem.W.nsIn K mainGlobals "TooMany" = some (some (.ref C_TooMany)))
    (q_TooFew_TooFew : PySem.W.kitOne K (.ref C_TooFew) (.ref C_TooFew) = some true)
    (q_TooFew_NoAmount : PySem.W.kitOne K (.ref C_TooFew) (.ref C_NoAmount) = some false)
    (q_TooFew_NoLine : PySem.W.kitOne K (.ref C_TooFew) (.ref C_NoLine) = some false)
    (q_TooFew_TooMany : PySem.W.kitOne K (.ref C_TooFew) (.ref C_TooMany) = some false)
    (q_TooFew_ValueError : PySem.W.kitOne K (.ref C_TooFew) (.type "ValueError") = some true)
    (s_TooFew_RentError : PySem.W.subIn K (.ref C_TooFew) (.ref C_RentError) = some true)
    (z_len : PySem.W.nsIn K mainGlobals "len" = some none) (z_range : PySem.W.nsIn K mainGlobals "range" = some none) (z_abs : PySem.W.nsIn K mainGlobals "abs" = some none) (z_min : PySem.W.nsIn K mainGlobals "min" = some none) (z_max : PySem.W.nsIn K mainGlobals "max" = some none) (z_sum : PySem.W.nsIn K mainGlobals "sum" = some none) (z_sorted : PySem.W.nsIn K mainGlobals "sorted" = some none) (z_set : PySem.W.nsIn K mainGlobals "set" = some none) (z_any : PySem.W.nsIn K mainGlobals "any" = some none) (z_all : PySem.W.nsIn K mainGlobals "all" = some none) (z_isinstance : PySem.W.nsIn K mainGlobals "isinstance" = some none) (z_divmod : PySem.W.nsIn K mainGlobals "divmod" = some none) (z_str : PySem.W.nsIn K mainGlobals "str" = some none) (z_int : PySem.W.nsIn K mainGlobals "int" = some none) (z_list : PySem.W.nsIn K mainGlobals "list" = some none) (z_tuple : PySem.W.nsIn K mainGlobals "tuple" = some none) (z_enumerate : PySem.W.nsIn K mainGlobals "enumerate" = some none) (z_zip : PySem.W.nsIn K mainGlobals "zip" = some none) (z_reversed : PySem.W.nsIn K mainGlobals "reversed" = some none) (z_bool : PySem.W.nsIn K mainGlobals "bool" = some none) (z_ValueError : PySem.W.nsIn K mainGlobals "ValueError" = some none) :
    ∃ fd : FuncData, (∀ (s : Shared) (v : Value), BindsTo s fd ⟨[v], []⟩ [("_law_script", v)]) ∧ ∀ base : Heap, K.In base → base.Ns mainGlobals mg → FnOk l.prog w K mg base CX0 4 fa fd ["_law_script"] (Pr K spLaw) := by
  have e := hfa.symm.trans (PySem.W.mg_of X G a16)
  cases e
  have B : Bl mg := ⟨PySem.W.mg_none_of X G z_len, PySem.W.mg_none_of X G z_range, PySem.W.mg_none_of X G z_abs, PySem.W.mg_none_of X G z_min, PySem.W.mg_none_of X G z_max, PySem.W.mg_none_of X G z_sum, PySem.W.mg_none_of X G z_sorted, PySem.W.mg_none_of X G z_set, PySem.W.mg_none_of X G z_any, PySem.W.mg_none_of X G z_all, PySem.W.mg_none_of X G z_isinstance, PySem.W.mg_none_of X G z_divmod, PySem.W.mg_none_of X G z_str, PySem.W.mg_none_of X G z_int, PySem.W.mg_none_of X G z_list, PySem.W.mg_none_of X G z_tuple, PySem.W.mg_none_of X G z_enumerate, PySem.W.mg_none_of X G z_zip, PySem.W.mg_none_of X G z_reversed, PySem.W.mg_none_of X G z_bool, PySem.W.mg_none_of X G z_ValueError⟩
  have T_House : TyC K mg "House" C_House ["beds", "worths", "rent"] := ⟨⟨p1_House, p2_House, p3_House, p4_House⟩, fun f hf => (List.mem_cons.mp hf).elim (fun e => e ▸ n_House_beds) fun hf => (List.mem_cons.mp hf).elim (fun e => e ▸ n_House_worths) fun hf => (List.mem_cons.mp hf).elim (fun e => e ▸ n_House_rent) fun hf => (nomatch hf), PySem.W.mg_of X G gc_House⟩
  have X_RentError : TyE K mg "RentError" C_RentError := ⟨PySem.W.mg_of X G ge_RentError, xe_RentError, ke_RentError, sb_RentError, ty_RentError, hd_RentError, me_RentError⟩
  have X_TooFew : TyE K mg "TooFew" C_TooFew := ⟨PySem.W.mg_of X G ge_TooFew, xe_TooFew, ke_TooFew, sb_TooFew, ty_TooFew, hd_TooFew, me_TooFew⟩
  have I_TooFew : L2.ExcC K C_TooFew := ⟨i1_TooFew, i2_TooFew, i3_TooFew, i4_TooFew, i5_TooFew, i6_TooFew, i7_TooFew, i8_TooFew⟩
  have m_TooFew : mg "TooFew" = some (.ref C_TooFew) := PySem.W.mg_of X G gi_TooFew
  have m_NoAmount : mg "NoAmount" = some (.ref C_NoAmount) := PySem.W.mg_of X G gi_NoAmount
  have m_NoLine : mg "NoLine" = some (.ref C_NoLine) := PySem.W.mg_of X G gi_NoLine
  have m_TooMany : mg "TooMany" = some (.ref C_TooMany) := PySem.W.mg_of X G gi_TooMany

  have T1 : AtI K C_House "House.__init__" s_House_init ["self", "beds", "worths", "rent"] := ati_mk a1 i1 l1 c1 k1 mk_House kc_House fun _ _ _ _ _ _ us hl => match us, hl with | [_, _, _, _], _ => rfl
  have T2 : AtI K C_House "House.__init__" s_House_initX ["self", "beds", "worths", "rent"] := ati_mk a2 i2 l2 c2 k2 mk_House kc_House fun _ _ _ _ _ _ us hl => match us, hl with | [_, _, _, _], _ => rfl
  have T3 : AtM K C_House "people" "House.people" s_House_people ["self"] := atm_mk a3 i3 l3 c3 k3 fun _ _ _ _ _ _ us hl => match us, hl with | [_], _ => rfl
  have T4 : AtM K C_House "rooms" "House.rooms" s_House_rooms ["self"] := atm_mk a4 i4 l4 c4 k4 fun _ _ _ _ _ _ us hl => match us, hl with | [_], _ => rfl
  have T5 : At K mg "_law_at" "_law_at" s_at ["_law_script", "_law_k"] := at_mk X G a5 l5 c5 k5 fun _ _ _ _ _ _ us hl => match us, hl with | [_, _], _ => rfl
  have T6 : At K mg "_law_draw" "_law_draw" s_draw ["_law_cell", "_law_factor", "_law_many"] := at_mk X G a6 l6 c6 k6 fun _ _ _ _ _ _ us hl => match us, hl with | [_, _, _], _ => rfl
  have T7 : At K mg "_law_mixed" "_law_mixed" s_mixed ["_law_cell", "_law_k"] := at_mk X G a7 l7 c7 k7 fun _ _ _ _ _ _ us hl => match us, hl with | [_, _], _ => rfl
  have T8 : At K mg "_law_beds" "_law_beds" s_lbeds ["_law_first", "_law_many"] := at_mk X G a8 l8 c8 k8 fun _ _ _ _ _ _ us hl => match us, hl with | [_, _], _ => rfl
  have T9 : At K mg "_law_whole" "_law_whole" s_whole ["_law_found"] := at_mk X G a9 l9 c9 k9 fun _ _ _ _ _ _ us hl => match us, hl with | [_], _ => rfl
  have T10 : At K mg "_law_wholes" "_law_wholes" s_wholes ["_law_found", "_law_due"] := at_mk X G a10 l10 c10 k10 fun _ _ _ _ _ _ us hl => match us, hl with | [_, _], _ => rfl
  have T11 : At K mg "_law_worths" "_law_worths" s_lworths ["_law_script", "_law_first", "_law_people", "_law_rooms"] := at_mk X G a11 l11 c11 k11 fun _ _ _ _ _ _ us hl => match us, hl with | [_, _, _, _], _ => rfl
  have T12 : At K mg "_law_house" "_law_house" s_lhouse ["_law_script", "_law_most_people", "_law_most_rooms"] := at_mk X G a12 l12 c12 k12 fun _ _ _ _ _ _ us hl => match us, hl with | [_, _, _], _ => rfl
  have T13 : At K mg "_law_refusal" "_law_refusal" s_lrefusal ["_law_problem"] := at_mk X G a13 l13 c13 k13 fun _ _ _ _ _ _ us hl => match us, hl with | [_], _ => rfl
  have T14 : At K mg "_law_made" "_law_made" s_lmade ["_law_beds_here", "_law_worths_here", "_law_rent"] := at_mk X G a14 l14 c14 k14 fun _ _ _ _ _ _ us hl => match us, hl with | [_, _, _], _ => rfl
  have T15 : At K mg "_law_right" "_law_right" s_lright ["_law_found", "_law_beds_here", "_law_worths_here", "_law_rent"] := at_mk X G a15 l15 c15 k15 fun _ _ _ _ _ _ us hl => match us, hl with | [_, _, _, _], _ => rfl
  have F16 := fun_mk (st := s_law) l16 c16 k16
  refine ⟨PySem.W.fnOf "law" "law" (defArgs s_law) (defBody s_law) (defScope s_law) .none kV16 dc16 pm16 an16 cd16 ct16, fun s v => .of_eq rfl, fun base _ _ => ?_⟩
  have k_House_init := kn_House_init (P := l.prog) (w := w) (K := K) (mg := mg) (base := base) B T_House T1
  have k_House_initX := kn_House_initX (P := l.prog) (w := w) (K := K) (mg := mg) (base := base) B T_House X_TooFew T2
  have k_House_people := kn_House_people (P := l.prog) (w := w) (K := K) (mg := mg) (base := base) B T_House T3
  have k_House_rooms := kn_House_rooms (P := l.prog) (w := w) (K := K) (mg := mg) (base := base) B T_House T4
  have k_at := kn_at (P := l.prog) (w := w) (K := K) (mg := mg) (base := base) B T5
  have k_draw := kn_draw (P := l.prog) (w := w) (K := K) (mg := mg) (base := base) T6
  have k_mixed := kn_mixed (P := l.prog) (w := w) (K := K) (mg := mg) (base := base) T7
  have k_lbeds := kn_lbeds (P := l.prog) (w := w) (K := K) (mg := mg) (base := base) B k_mixed T8
  have k_whole := kn_whole (P := l.prog) (w := w) (K := K) (mg := mg) (base := base) B T9
  have k_wholes := kn_wholes (P := l.prog) (w := w) (K := K) (mg := mg) (base := base) B k_whole T10
  have k_lworths := kn_lworths (P := l.prog) (w := w) (K := K) (mg := mg) (base := base) B k_mixed T11
  have k_lhouse := kn_lhouse (P := l.prog) (w := w) (K := K) (mg := mg) (base := base) B k_mixed k_at k_lbeds k_lworths T12
  have k_lrefusal := kn_lrefusal (P := l.prog) (w := w) (K := K) (mg := mg) (base := base) B X_TooFew I_TooFew m_TooFew q_TooFew_TooFew m_NoAmount q_TooFew_NoAmount m_NoLine q_TooFew_NoLine m_TooMany q_TooFew_TooMany q_TooFew_ValueError T13
  have k_lmade := kn_lmade (P := l.prog) (w := w) (K := K) (mg := mg) (base := base) B T_House X_TooFew X_RentError s_TooFew_RentError k_House_init k_House_initX k_lrefusal T14
  have k_lright := kn_lright (P := l.prog) (w := w) (K := K) (mg := mg) (base := base) B T_House k_House_people k_House_rooms k_whole k_wholes T15
  exact ok_law B T_House X_TooFew X_RentError s_TooFew_RentError k_lhouse k_at k_draw k_lmade k_lright F16
theorem tabs0 (H : Hp) : LamX.Tabs (@Tb.T (Tb.mk [])) H := fun p hp => nomatch hp
end Y
open PySem PySem.W PyProof.Rows
set_option maxRecDepth 100000 in
set_option maxHeartbeats 0 in
theorem PySem.Challenge.cw_rentshare_k11_houses_made_holds : PySem.Challenge.rw_rentshare_k11_houses_made.Holds := by
  w_on; o_law; k_head; (case hw => w_witness2)
  k_fill
  refine L2.walk_ofK (l := PySem.Challenge.rw_rentshare_k11_houses_made) (n := 63) (k := 4) (x := "_law_script") (CX := L2.CX0) (sp := fun K => @Z.Pr (Z.Tb.mk []) K Z.spLaw) rfl (by decide) rfl ⟨rfl, by decide, by decide⟩ (fun w h Y => PySem.W.kIn_of Y) ?F (fun K H a ns hl _ hS => @Z.law_sp (Z.Tb.mk []) K H a ns hl (Y.tabs0 H) hS) (fun _ _ _ _ h => h)
  case F =>
    intro w mg fa h KX G hmg
    refine' Y.all_mk (τ := Z.Tb.mk []) KX G hmg ?a1 ?i1 ?l1 ?c1 ?k1 ?a2 ?i2 ?l2 ?c2 ?k2 ?a3 ?i3 ?l3 ?c3 ?k3 ?a4 ?i4 ?l4 ?c4 ?k4 ?a5 ?l5 ?c5 ?k5 ?a6 ?l6 ?c6 ?k6 ?a7 ?l7 ?c7 ?k7 ?a8 ?l8 ?c8 ?k8 ?a9 ?l9 ?c9 ?k9 ?a10 ?l10 ?c10 ?k10 ?a11 ?l11 ?c11 ?k11 ?a12 ?l12 ?c12 ?k12 ?a13 ?l13 ?c13 ?k13 ?a14 ?l14 ?c14 ?k14 ?a15 ?l15 ?c15 ?k15 ?a16 ?l16 ?c16 ?k16 ?gc_House ?p1_House ?p2_House ?p3_House ?p4_House ?n_House_beds ?n_House_worths ?n_House_rent ?mk_House ?kc_House ?ge_RentError ?xe_RentError ?ke_RentError ?sb_RentError ?ty_RentError ?hd_RentError ?me_RentError ?ge_TooFew ?xe_TooFew ?ke_TooFew ?sb_TooFew ?ty_TooFew ?hd_TooFew ?me_TooFew ?i1_TooFew ?i2_TooFew ?i3_TooFew ?i4_TooFew ?i5_TooFew ?i6_TooFew ?i7_TooFew ?i8_TooFew ?gi_TooFew ?gi_NoAmount ?gi_NoLine ?gi_TooMany ?q_TooFew_TooFew ?q_TooFew_NoAmount ?q_TooFew_NoLine ?q_TooFew_TooMany ?q_TooFew_ValueError ?s_TooFew_RentError ?z_len ?z_range ?z_abs ?z_min ?z_max ?z_sum ?z_sorted ?z_set ?z_any ?z_all ?z_isinstance ?z_divmod ?z_str ?z_int ?z_list ?z_tuple ?z_enumerate ?z_zip ?z_reversed ?z_bool ?z_ValueError
    (case gc_House => k_is)
    (case p1_House => k_is)
    (case p2_House => k_is)
    (case p3_House => k_is)
    (case p4_House => k_is)
    (case n_House_beds => k_is)
    (case n_House_worths => k_is)
    (case n_House_rent => k_is)
    (case mk_House => k_is)
    (case kc_House => k_is)
    (case ge_RentError => k_is)
    (case xe_RentError => k_exc)
    (case ke_RentError => k_is)
    (case sb_RentError => k_is)
    (case ty_RentError => k_is)
    (case hd_RentError => k_is)
    (case me_RentError => k_is)
    (case ge_TooFew => k_is)
    (case xe_TooFew => k_exc)
    (case ke_TooFew => k_is)
    (case sb_TooFew => k_is)
    (case ty_TooFew => k_is)
    (case hd_TooFew => k_is)
    (case me_TooFew => k_is)
    (case i1_TooFew => k_is)
    (case i2_TooFew => k_is)
    (case i3_TooFew => k_is)
    (case i4_TooFew => k_is)
    (case i5_TooFew => k_is)
    (case i6_TooFew => k_is)
    (case i7_TooFew => k_is)
    (case i8_TooFew => k_is)
    (case gi_TooFew => k_is)
    (case gi_NoAmount => k_is)
    (case gi_NoLine => k_is)
    (case gi_TooMany => k_is)
    (case q_TooFew_TooFew => kit_is)
    (case q_TooFew_NoAmount => kit_is)
    (case q_TooFew_NoLine => kit_is)
    (case q_TooFew_TooMany => kit_is)
    (case q_TooFew_ValueError => kit_is)
    (case s_TooFew_RentError => k_is)
    (case a1 => k_is)
    (case i1 => k_is)
    (case l1 => k_is)
    (case c1 => k_is)
    (case k1 => k_is)
    (case a2 => k_is)
    (case i2 => k_is)
    (case l2 => k_is)
    (case c2 => k_is)
    (case k2 => k_is)
    (case a3 => k_is)
    (case i3 => k_is)
    (case l3 => k_is)
    (case c3 => k_is)
    (case k3 => k_is)
    (case a4 => k_is)
    (case i4 => k_is)
    (case l4 => k_is)
    (case c4 => k_is)
    (case k4 => k_is)
    (case a5 => k_is)
    (case l5 => k_is)
    (case c5 => k_is)
    (case k5 => k_is)
    (case a6 => k_is)
    (case l6 => k_is)
    (case c6 => k_is)
    (case k6 => k_is)
    (case a7 => k_is)
    (case l7 => k_is)
    (case c7 => k_is)
    (case k7 => k_is)
    (case a8 => k_is)
    (case l8 => k_is)
    (case c8 => k_is)
    (case k8 => k_is)
    (case a9 => k_is)
    (case l9 => k_is)
    (case c9 => k_is)
    (case k9 => k_is)
    (case a10 => k_is)
    (case l10 => k_is)
    (case c10 => k_is)
    (case k10 => k_is)
    (case a11 => k_is)
    (case l11 => k_is)
    (case c11 => k_is)
    (case k11 => k_is)
    (case a12 => k_is)
    (case l12 => k_is)
    (case c12 => k_is)
    (case k12 => k_is)
    (case a13 => k_is)
    (case l13 => k_is)
    (case c13 => k_is)
    (case k13 => k_is)
    (case a14 => k_is)
    (case l14 => k_is)
    (case c14 => k_is)
    (case k14 => k_is)
    (case a15 => k_is)
    (case l15 => k_is)
    (case c15 => k_is)
    (case k15 => k_is)
    (case a16 => k_is)
    (case l16 => k_is)
    (case c16 => k_is)
    (case k16 => k_is)
    (case z_len => k_is)
    (case z_range => k_is)
    (case z_abs => k_is)
    (case z_min => k_is)
    (case z_max => k_is)
    (case z_sum => k_is)
    (case z_sorted => k_is)
    (case z_set => k_is)
    (case z_any => k_is)
    (case z_all => k_is)
    (case z_isinstance => k_is)
    (case z_divmod => k_is)
    (case z_str => k_is)
    (case z_int => k_is)
    (case z_list => k_is)
    (case z_tuple => k_is)
    (case z_enumerate => k_is)
    (case z_zip => k_is)
    (case z_reversed => k_is)
    (case z_bool => k_is)
    (case z_ValueError => k_is)
#print axioms PySem.Challenge.cw_rentshare_k11_houses_made_holds
