import PyProof.Rows.All
import Wide.All
import OpenK.AllK
import Wide.FinOn
import KE.KStateDown
import Lean
import HandS.Base
import PySem.Challenge.RW_onerising_k34_whole_sheets
import HandS.ForMost
import HandS.IsInst
import HandS.TupAny
import HandS.TupMul
import HandS.Style
import HandS.Zip
import HandS.Deep
import HandS.Wide
import HandS.Lambda
import HandS.Star
import HandS.Defaults
import HandS.CallLocal
import HandS.TupLen
import HandS.SortRule
import HandS.SortInts
import KE.SortData
import KE.SortKeyHeap
import HandS.SortKw
import HandS.DictComp
import KE.KDictPairs
import HandS.WordsDict
import PyProof.ReprRoads
import KE.KDictList
import HandS.HeadHook3
import HandS.Head0
import HandS.Head1
import HandS.Head2
import HandS.HeadHook4
import HandS.RaiseMore
import HandS.EndTab
set_option Elab.async false
set_option linter.all false
set_option maxRecDepth 100000
set_option maxHeartbeats 0
open_top hd for PySem.Challenge.rw_onerising_k34_whole_sheets

set_option maxRecDepth 100000
set_option maxHeartbeats 2000000
/-! THE DATA LAYER, 1: data, how a heap holds it, owned cells, steps, the lifted judgements. -/
namespace Dl
open PySem PySem.Spec PyProof.Rows L2

/-- data: what a def sees. ptr: a thing by its address (owned cells, functions); xtp, xls: a tuple, a list that may stand outside of what is tracked (the module's, the script) -/
inductive D where
  | non | bl (b : Bool) | int (i : Int) | str (x : Str) | tup (ds : List D) | lst (ds : List D) | ptr (a : Addr) | xtp (ds : List D) | xls (ds : List D)

mutual
/-- the value v is d, over the frozen heap F -/
inductive Rep (K : PySem.W.Frag) (F : Hp) : D → V → Prop where
  | non : Rep K F .non .non
  | bl (b : Bool) : Rep K F (.bl b) (.bl b)
  | int (i : Int) : Rep K F (.int i) (.int i)
  | str (x : Str) : Rep K F (.str x) (.str x)
  | tup {a : Addr} {xs : List V} {ds : List D} : F a = some (.tup xs) → RepL K F ds xs → Rep K F (.tup ds) (.ref a)
  | lst {a : Addr} {xs : List V} {ds : List D} : F a = some (.lst xs) → RepL K F ds xs → Rep K F (.lst ds) (.ref a)
  | ptr (a : Addr) : Rep K F (.ptr a) (.ref a)
  | xtp {a : Addr} {xs : List V} {ds : List D} : SqT K F a xs → RepL K F ds xs → Rep K F (.xtp ds) (.ref a)
  | xls {a : Addr} {xs : List V} {ds : List D} : SqL K F a xs → RepL K F ds xs → Rep K F (.xls ds) (.ref a)
inductive RepL (K : PySem.W.Frag) (F : Hp) : List D → List V → Prop where
  | nil : RepL K F [] []
  | cons {d : D} {v : V} {ds : List D} {vs : List V} : Rep K F d v → RepL K F ds vs → RepL K F (d :: ds) (v :: vs)
end
section
variable {K : PySem.W.Frag} {F F' H H' : Hp} {a : Addr} {xs : List V}
theorem sqt_mono (e : Same H H') (h : SqT K H a xs) : SqT K H' a xs := by
  rcases h with (h | ⟨o, h⟩) | h
  · exact .inl (.inl (e _ _ h))
  · exact .inl (.inr ⟨o, e _ _ h⟩)
  · exact .inr h
theorem sql_mono (e : Same H H') (h : SqL K H a xs) : SqL K H' a xs := e.seq h
mutual
theorem Rep.mono (e : Same F F') : ∀ {d : D} {v : V}, Rep K F d v → Rep K F' d v
  | _, _, .non => .non
  | _, _, .bl b => .bl b
  | _, _, .int i => .int i
  | _, _, .str x => .str x
  | _, _, .tup h r => .tup (e _ _ h) (RepL.mono e r)
  | _, _, .lst h r => .lst (e _ _ h) (RepL.mono e r)
  | _, _, .ptr a => .ptr a
  | _, _, .xtp h r => .xtp (sqt_mono e h) (RepL.mono e r)
  | _, _, .xls h r => .xls (sql_mono e h) (RepL.mono e r)
theorem RepL.mono (e : Same F F') : ∀ {ds : List D} {vs : List V}, RepL K F ds vs → RepL K F' ds vs
  | _, _, .nil => .nil
  | _, _, .cons h r => .cons (Rep.mono e h) (RepL.mono e r)
end
theorem RepL.length : ∀ {ds : List D} {vs : List V}, RepL K F ds vs → ds.length = vs.length
  | _, _, .nil => rfl
  | _, _, .cons _ r => congrArg (· + 1) (RepL.length r)
theorem RepL.get : ∀ {ds : List D} {vs : List V} {i : Nat} {d : D}, RepL K F ds vs → ds[i]? = some d → ∃ v, vs[i]? = some v ∧ Rep K F d v
  | _, _, _, _, .nil, e => by simp at e
  | _, _, 0, _, .cons h _, e => by simp at e; subst e; exact ⟨_, rfl, h⟩
  | _, _, i + 1, _, .cons _ r, e => by
    obtain ⟨v, h1, h2⟩ := RepL.get (i := i) r (by simpa using e)
    exact ⟨v, by simpa using h1, h2⟩
theorem RepL.get' : ∀ {ds : List D} {vs : List V} {i : Nat} {v : V}, RepL K F ds vs → vs[i]? = some v → ∃ d, ds[i]? = some d ∧ Rep K F d v
  | _, _, _, _, .nil, e => by simp at e
  | _, _, 0, _, .cons h _, e => by simp at e; subst e; exact ⟨_, rfl, h⟩
  | _, _, i + 1, _, .cons _ r, e => by
    obtain ⟨v, h1, h2⟩ := RepL.get' (i := i) r (by simpa using e)
    exact ⟨v, by simpa using h1, h2⟩
theorem RepL.append : ∀ {ds es : List D} {vs us : List V}, RepL K F ds vs → RepL K F es us → RepL K F (ds ++ es) (vs ++ us)
  | _, _, _, _, .nil, s => s
  | _, _, _, _, .cons h r, s => .cons h (RepL.append r s)
theorem RepL.take : ∀ {ds : List D} {vs : List V} (n : Nat), RepL K F ds vs → RepL K F (ds.take n) (vs.take n)
  | _, _, 0, _ => .nil
  | _, _, _ + 1, .nil => .nil
  | _, _, n + 1, .cons h r => .cons h (RepL.take n r)
theorem RepL.drop : ∀ {ds : List D} {vs : List V} (n : Nat), RepL K F ds vs → RepL K F (ds.drop n) (vs.drop n)
  | _, _, 0, r => r
  | _, _, _ + 1, .nil => .nil
  | _, _, n + 1, .cons _ r => RepL.drop n r
theorem RepL.reverse {ds : List D} {vs : List V} (r : RepL K F ds vs) : RepL K F ds.reverse vs.reverse := by
  induction ds generalizing vs with
  | nil => cases r; exact .nil
  | cons d ds ih =>
    cases r with
    | cons h r =>
      rw [List.reverse_cons, List.reverse_cons]
      exact (ih r).append (.cons h .nil)
theorem RepL.set : ∀ {ds : List D} {vs : List V} (i : Nat) {d : D} {v : V}, RepL K F ds vs → Rep K F d v → RepL K F (ds.set i d) (vs.set i v)
  | _, _, _, _, _, .nil, _ => .nil
  | _, _, 0, _, _, .cons _ r, h => .cons h r
  | _, _, i + 1, _, _, .cons g r, h => .cons g (RepL.set i r h)
theorem RepL.dropLast {ds : List D} {vs : List V} (r : RepL K F ds vs) : RepL K F ds.dropLast vs.dropLast := by
  rw [List.dropLast_eq_take, List.dropLast_eq_take, r.length]
  exact r.take _
theorem RepL.rep {ds : List D} {vs : List V} (r : RepL K F ds vs) : ∀ k : Nat, RepL K F (List.replicate k ds).flatten (List.replicate k vs).flatten
  | 0 => .nil
  | k + 1 => by
    rw [List.replicate_succ, List.replicate_succ, List.flatten_cons, List.flatten_cons]
    exact r.append (RepL.rep r k)
theorem RepL.ints : ∀ {ns : List Int} {vs : List V}, RepL K F (ns.map D.int) vs → vs = ns.map V.int
  | [], _, .nil => rfl
  | n :: ns, _, .cons h r => by
    cases h
    rw [RepL.ints (ns := ns) r]
    rfl
theorem RepL.ofInts : ∀ (ns : List Int), RepL K F (ns.map D.int) (ns.map V.int)
  | [] => .nil
  | n :: ns => .cons (.int n) (RepL.ofInts ns)
theorem RepL.strs : ∀ {ns : List Str} {vs : List V}, RepL K F (ns.map D.str) vs → vs = ns.map V.str
  | [], _, .nil => rfl
  | n :: ns, _, .cons h r => by
    cases h
    rw [RepL.strs (ns := ns) r]
    rfl
theorem RepL.ofStrs : ∀ (ns : List Str), RepL K F (ns.map D.str) (ns.map V.str)
  | [] => .nil
  | n :: ns => .cons (.str n) (RepL.ofStrs ns)
theorem RepL.bls : ∀ {ns : List Bool} {vs : List V}, RepL K F (ns.map D.bl) vs → vs = ns.map V.bl
  | [], _, .nil => rfl
  | n :: ns, _, .cons h r => by
    cases h
    rw [RepL.bls (ns := ns) r]
    rfl
end

/-- an owned cell's content -/
inductive Cell where
  | lst (ds : List D) | dK (kvs : List (Key × D)) | dT (kvs : List (List Key × D)) | obj (C : Addr) (fs : List (Str × D)) | tbl (q : Str)
abbrev DO := Addr → Option Cell
def updO (O : DO) (a : Addr) (c : Cell) : DO := fun b => if b = a then some c else O b
def offO (O : DO) (a : Addr) : DO := fun b => if b = a then none else O b
theorem updO_same {O : DO} {a : Addr} {c : Cell} : updO O a c a = some c := by unfold updO; rw [if_pos rfl]
theorem updO_ne {O : DO} {a b : Addr} {c : Cell} (h : b ≠ a) : updO O a c b = O b := by unfold updO; rw [if_neg h]
theorem offO_same {O : DO} {a : Addr} : offO O a a = none := by unfold offO; rw [if_pos rfl]
theorem offO_ne {O : DO} {a b : Addr} (h : b ≠ a) : offO O a b = O b := by unfold offO; rw [if_neg h]
theorem offO_upd {O : DO} {a : Addr} {c : Cell} (h : O a = none) : offO (updO O a c) a = O := by
  funext b
  by_cases e : b = a
  · rw [e, offO_same, h]
  · rw [offO_ne e, updO_ne e]
theorem updO_updO {O : DO} {a : Addr} {c c' : Cell} : updO (updO O a c) a c' = updO O a c' := by
  funext b
  by_cases e : b = a
  · rw [e, updO_same, updO_same]
  · rw [updO_ne e, updO_ne e, updO_ne e]

section
variable (K : PySem.W.Frag)
def RepKV {κ : Type} (F : Hp) : List (κ × D) → List (κ × V) → Prop := Paired fun p q => p.1 = q.1 ∧ Rep K F p.2 q.2
def CellOk (F H : Hp) (a : Addr) : Cell → Prop
  | .lst ds => ∃ xs, H a = some (.lst xs) ∧ RepL K F ds xs
  | .dK kvs => ∃ vs, H a = some (.dK vs) ∧ RepKV K F kvs vs
  | .dT kvs => ∃ vs, H a = some (.dT vs) ∧ RepKV K F kvs vs
  | .obj C fs => ∃ dx vs, H a = some (.ins C dx vs) ∧ RepKV K F fs vs
  | .tbl q => ∃ ps, H a = some (.tbl ps) ∧ TriplesOk ps.toList ∧ ∀ (pos : Pos) (cv : Value), codeAmong pos ps.toList = some cv → ∃ c, cv = .ref c ∧ F c = some (LamX.CodeO c q)
structure Pre (F : Hp) (O : DO) (H : Hp) : Prop where
  fh : Same F H
  ro : ∀ a c, O a = some c → F a = none ∧ CellOk K F H a c
structure Stp (F : Hp) (O : DO) (H : Hp) (F' : Hp) (O' : DO) (H' : Hp) : Prop where
  ff : Same F F'
  pre : Pre K F' O' H'
  kp : ∀ a o, H a = some o → O a = none → H' a = some o ∧ O' a = none ∧ (F a = none → F' a = none)
end
section
variable {K : PySem.W.Frag} {F F' F1 F2 H H' H1 H2 : Hp} {O O' O1 O2 : DO} {a p : Addr} {c : Cell} {d : D} {v : V} {ds : List D} {xs : List V}
theorem RepKV.mono {κ : Type} (e : Same F F') {ks : List (κ × D)} {vs : List (κ × V)} (r : RepKV K F ks vs) : RepKV K F' ks vs := Paired.mapP r fun _ _ ⟨h, r⟩ => ⟨h, r.mono e⟩
theorem RepKV.length {κ : Type} {ks : List (κ × D)} {vs : List (κ × V)} (r : RepKV K F ks vs) : ks.length = vs.length := Paired.length r
theorem CellOk.there (h : CellOk K F H a c) : ∃ o, H a = some o := by
  cases c with
  | lst ds => obtain ⟨xs, e, _⟩ := h; exact ⟨_, e⟩
  | dK kvs => obtain ⟨xs, e, _⟩ := h; exact ⟨_, e⟩
  | dT kvs => obtain ⟨xs, e, _⟩ := h; exact ⟨_, e⟩
  | obj C fs => obtain ⟨dx, xs, e, _⟩ := h; exact ⟨_, e⟩
  | tbl q => obtain ⟨xs, e, _⟩ := h; exact ⟨_, e⟩
theorem CellOk.mono (ef : Same F F') (eh : ∀ o, H a = some o → H' a = some o) (h : CellOk K F H a c) : CellOk K F' H' a c := by
  cases c with
  | lst ds => obtain ⟨xs, e, r⟩ := h; exact ⟨xs, eh _ e, r.mono ef⟩
  | dK kvs => obtain ⟨xs, e, r⟩ := h; exact ⟨xs, eh _ e, r.mono ef⟩
  | dT kvs => obtain ⟨xs, e, r⟩ := h; exact ⟨xs, eh _ e, r.mono ef⟩
  | obj C fs => obtain ⟨dx, xs, e, r⟩ := h; exact ⟨dx, xs, eh _ e, r.mono ef⟩
  | tbl q =>
    obtain ⟨ps, e, t, r⟩ := h
    refine ⟨ps, eh _ e, t, fun pos cv hc => ?_⟩
    obtain ⟨c, e1, e2⟩ := r pos cv hc
    exact ⟨c, e1, ef _ _ e2⟩
theorem Pre.tracked (P : Pre K F O H) (h : O a = some c) : ∃ o, H a = some o := CellOk.there (P.ro a c h).2
theorem Pre.fresh (P : Pre K F O H) (h : H p = none) : F p = none ∧ O p = none := by
  refine ⟨?_, ?_⟩
  · cases e : F p with
    | none => rfl
    | some o => rw [P.fh p o e] at h; cases h
  · cases e : O p with
    | none => rfl
    | some c =>
      obtain ⟨o, q⟩ := P.tracked e
      rw [q] at h; cases h
theorem Stp.refl (P : Pre K F O H) : Stp K F O H F O H := ⟨fun _ _ h => h, P, fun _ _ h n => ⟨h, n, fun z => z⟩⟩
theorem Stp.trans (a : Stp K F O H F1 O1 H1) (b : Stp K F1 O1 H1 F2 O2 H2) : Stp K F O H F2 O2 H2 :=
  ⟨a.ff.trans b.ff, b.pre, fun p o h n => by
    obtain ⟨h1, n1, f1⟩ := a.kp p o h n
    obtain ⟨h2, n2, f2⟩ := b.kp p o h1 n1
    exact ⟨h2, n2, fun z => f2 (f1 z)⟩⟩
theorem same_new {o : HO} (h : H p = none) : Same H (upd H p o) := fun b x e => by
  rw [upd_ne (ne_of_none e h)]; exact e
/-- a new frozen thing -/
theorem Stp.fz {o : HO} (P : Pre K F O H) (h : H p = none) : Stp K F O H (upd F p o) O (upd H p o) := by
  obtain ⟨hF, hO⟩ := P.fresh h
  refine ⟨same_new hF, ⟨fun b x e => ?_, fun b c e => ?_⟩, fun b x e n => ⟨same_new h b x e, n, fun z => by rw [upd_ne (ne_of_none e h)]; exact z⟩⟩
  · by_cases q : b = p
    · subst q; rw [upd_same] at e ⊢; exact e
    · rw [upd_ne q] at e ⊢; exact P.fh b x e
  · have q : b ≠ p := fun z => by rw [z, hO] at e; cases e
    have h := P.ro b c e
    exact ⟨by rw [upd_ne q]; exact h.1, CellOk.mono (same_new hF) (fun o e => by rw [upd_ne q]; exact e) h.2⟩
theorem Stp.tup (P : Pre K F O H) (h : H p = none) (r : RepL K F ds xs) : Stp K F O H (upd F p (.tup xs)) O (upd H p (.tup xs)) ∧ Rep K (upd F p (.tup xs)) (.tup ds) (.ref p) :=
  ⟨.fz P h, .tup upd_same (r.mono (same_new (P.fresh h).1))⟩
theorem Stp.lst (P : Pre K F O H) (h : H p = none) (r : RepL K F ds xs) : Stp K F O H (upd F p (.lst xs)) O (upd H p (.lst xs)) ∧ Rep K (upd F p (.lst xs)) (.lst ds) (.ref p) :=
  ⟨.fz P h, .lst upd_same (r.mono (same_new (P.fresh h).1))⟩
/-- a cell is written, or is new -/
theorem Stp.own {o : HO} (P : Pre K F O H) (hF : F p = none) (hx : H p = none ∨ ∃ c, O p = some c) (new : CellOk K F (upd H p o) p c) : Stp K F O H F (updO O p c) (upd H p o) := by
  refine ⟨fun _ _ e => e, ⟨fun b x e => ?_, fun b c' e => ?_⟩, fun b x e n => ?_⟩
  · have q : b ≠ p := fun z => by rw [z, hF] at e; cases e
    rw [upd_ne q]; exact P.fh b x e
  · by_cases q : b = p
    · subst q; rw [updO_same] at e; cases e; exact ⟨hF, new⟩
    · rw [updO_ne q] at e
      have h := P.ro b c' e
      exact ⟨h.1, CellOk.mono (fun _ _ e => e) (fun o e => by rw [upd_ne q]; exact e) h.2⟩
  · have q : b ≠ p := by
      rintro rfl
      rcases hx with z | ⟨c', z⟩
      · rw [e] at z; cases z
      · rw [n] at z; cases z
    exact ⟨by rw [upd_ne q]; exact e, by rw [updO_ne q]; exact n, fun z => z⟩
/-- a cell is claimed at a place that is not frozen -/
theorem Pre.own {o : HO} (P : Pre K F O H) (hF : F p = none) (new : CellOk K F (upd H p o) p c) : Pre K F (updO O p c) (upd H p o) := by
  refine ⟨fun b x e => ?_, fun b c' e => ?_⟩
  · have q : b ≠ p := fun z => by rw [z, hF] at e; cases e
    rw [upd_ne q]; exact P.fh b x e
  · by_cases q : b = p
    · subst q; rw [updO_same] at e; cases e; exact ⟨hF, new⟩
    · rw [updO_ne q] at e
      have h := P.ro b c' e
      exact ⟨h.1, CellOk.mono (fun _ _ e => e) (fun o e => by rw [upd_ne q]; exact e) h.2⟩
theorem Stp.newList (P : Pre K F O H) (h : H p = none) (r : RepL K F ds xs) : Stp K F O H F (updO O p (.lst ds)) (upd H p (.lst xs)) :=
  .own P (P.fresh h).1 (.inl h) ⟨xs, upd_same, r⟩
/-- an owned list becomes frozen -/
theorem Pre.freeze (P : Pre K F O H) (h : O p = some (.lst ds)) : ∃ F', Same F F' ∧ Pre K F' (offO O p) H ∧ Rep K F' (.lst ds) (.ref p) ∧ ∀ b u, F' b = some u → F b = some u ∨ b = p := by
  obtain ⟨hF, xs, hx, r⟩ := P.ro p _ h
  refine ⟨upd F p (.lst xs), same_new hF, ⟨fun b x e => ?_, fun b c e => ?_⟩, .lst upd_same (r.mono (same_new hF)), fun b u e => ?_⟩
  rotate_left 2
  · by_cases q : b = p
    · exact .inr q
    · rw [upd_ne q] at e; exact .inl e
  · by_cases q : b = p
    · subst q; rw [upd_same] at e; rw [hx]; exact e
    · rw [upd_ne q] at e; exact P.fh b x e
  · have q : b ≠ p := fun z => by rw [z, offO_same] at e; cases e
    rw [offO_ne q] at e
    have h := P.ro b c e
    exact ⟨by rw [upd_ne q]; exact h.1, CellOk.mono (same_new hF) (fun _ e => e) h.2⟩
theorem Stp.freeze (s : Stp K F O H F' O' H') (h : O' p = some (.lst ds)) : ∃ F2, Stp K F O H F2 (offO O' p) H' ∧ Same F' F2 ∧ Rep K F2 (.lst ds) (.ref p) := by
  obtain ⟨F2, e, P2, r, nw⟩ := s.pre.freeze h
  refine ⟨F2, ⟨s.ff.trans e, P2, fun b o hb n => ?_⟩, e, r⟩
  obtain ⟨h1, n1, f1⟩ := s.kp b o hb n
  have q : b ≠ p := fun z => by rw [z, h] at n1; cases n1
  refine ⟨h1, by rw [offO_ne q]; exact n1, fun z => ?_⟩
  have f2 := f1 z
  cases q2 : F2 b with
  | none => rfl
  | some u =>
    rcases nw b u q2 with y | y
    · rw [f2] at y; cases y
    · exact absurd y q
/-- fewer cells are claimed -/
def Sub (O O' : DO) : Prop := ∀ a c, O a = some c → O' a = some c
theorem Sub.refl (O : DO) : Sub O O := fun _ _ h => h
theorem Sub.trans (a : Sub O O1) (b : Sub O1 O2) : Sub O O2 := fun p c h => b p c (a p c h)
theorem Sub.upd (h : O p = none) : Sub O (updO O p c) := fun a c' e => by
  have q : a ≠ p := fun z => by rw [z, h] at e; cases e
  rw [updO_ne q]; exact e
theorem Sub.off (h : O p = none) (s : Sub O O') : Sub O (offO O' p) := fun a c' e => by
  have q : a ≠ p := fun z => by rw [z, h] at e; cases e
  rw [offO_ne q]; exact s a c' e
theorem Stp.sub (s : Stp K F O H F' O' H') (b : Sub O1 O') : Stp K F O H F' O1 H' :=
  ⟨s.ff, ⟨s.pre.fh, fun a c e => s.pre.ro a c (b a c e)⟩, fun a o h n => by
    obtain ⟨h1, n1, f1⟩ := s.kp a o h n
    refine ⟨h1, ?_, f1⟩
    cases e : O1 a with
    | none => rfl
    | some c => rw [b a c e] at n1; cases n1⟩
theorem Pre.sub (P : Pre K F O H) (b : Sub O1 O) : Pre K F O1 H := ⟨P.fh, fun a c e => P.ro a c (b a c e)⟩

/-- an owned list, read -/
def derefC (a : Addr) : Option Cell → D
  | some (.lst ds) => .lst ds
  | _ => .ptr a
def deref (O : DO) : D → D
  | .ptr a => derefC a (O a)
  | d => d
theorem deref_ptr (h : O a = some (.lst ds)) : deref O (.ptr a) = .lst ds := by
  show derefC a (O a) = _
  rw [h]; rfl
theorem deref_cases (O : DO) (d : D) : deref O d = d ∨ ∃ a ds, d = .ptr a ∧ O a = some (.lst ds) ∧ deref O d = .lst ds := by
  cases d with
  | ptr a =>
    have e0 : deref O (.ptr a) = derefC a (O a) := rfl
    cases e : O a with
    | none => rw [e] at e0; exact .inl e0
    | some c =>
      rw [e] at e0
      cases c with
      | lst ds => exact .inr ⟨a, ds, rfl, e, e0⟩
      | _ => exact .inl e0
  | _ => exact .inl rfl
theorem inv_lst (P : Pre K F O H) (r : Rep K F d v) (e : deref O d = .lst ds) : ∃ a xs, v = .ref a ∧ H a = some (.lst xs) ∧ RepL K F ds xs := by
  rcases deref_cases O d with q | ⟨a, es, rfl, ho, q⟩
  · rw [q] at e; subst e
    cases r with
    | lst h r => exact ⟨_, _, rfl, P.fh _ _ h, r⟩
  · rw [q] at e; cases e
    cases r
    obtain ⟨_, xs, hx, r⟩ := P.ro a _ ho
    exact ⟨a, xs, rfl, hx, r⟩
theorem inv_tup (r : Rep K F d v) (e : deref O d = .tup ds) : ∃ a xs, v = .ref a ∧ F a = some (.tup xs) ∧ RepL K F ds xs := by
  rcases deref_cases O d with q | ⟨a, es, rfl, ho, q⟩
  · rw [q] at e; subst e
    cases r with
    | tup h r => exact ⟨_, _, rfl, h, r⟩
  · rw [q] at e; cases e
theorem inv_sc (r : Rep K F d v) {d' : D} (e : deref O d = d') (h : (∀ ds, d' ≠ .lst ds)) : Rep K F d' v := by
  rcases deref_cases O d with q | ⟨a, es, rfl, ho, q⟩
  · rw [q] at e; subst e; exact r
  · exact absurd (e.symm.trans q) (h es)
theorem inv_int {i : Int} (r : Rep K F d v) (e : deref O d = .int i) : v = .int i := by
  have := inv_sc r e (fun _ h => nomatch h); cases this; rfl
theorem inv_str {i : Str} (r : Rep K F d v) (e : deref O d = .str i) : v = .str i := by
  have := inv_sc r e (fun _ h => nomatch h); cases this; rfl
theorem inv_bl {i : Bool} (r : Rep K F d v) (e : deref O d = .bl i) : v = .bl i := by
  have := inv_sc r e (fun _ h => nomatch h); cases this; rfl
theorem inv_non (r : Rep K F d v) (e : deref O d = .non) : v = .non := by
  have := inv_sc r e (fun _ h => nomatch h); cases this; rfl
end

/-! ### conditions -/
def iteB (c : Bool) (A B : Prop) : Prop := match c with
  | true => A
  | false => B
theorem iteB_i {c : Bool} {A B : Prop} (h1 : c = true → A) (h2 : c = false → B) : iteB c A B := by
  cases c with
  | true => exact h1 rfl
  | false => exact h2 rfl
theorem iteB_t {c : Bool} {A B : Prop} (h : c = true) (a : A) : iteB c A B := by subst h; exact a
theorem iteB_f {c : Bool} {A B : Prop} (h : c = false) (b : B) : iteB c A B := by subst h; exact b
def needB (c : Bool) (A : Prop) : Prop := match c with
  | true => A
  | false => False
theorem needB_i {c : Bool} {A : Prop} (h : c = true) (a : A) : needB c A := by subst h; exact a
theorem needB_o {c : Bool} {A : Prop} (h : needB c A) : c = true ∧ A := by
  cases c with
  | true => exact ⟨rfl, h⟩
  | false => exact h.elim
/-- a size within the line -/
def szB (n : Nat) : Bool := Nat.ble n 16777216
theorem szB_ok {n : Nat} (h : szB n = true) : n ≤ sizeLine := by rw [sizeLine_eq]; exact Nat.le_of_ble_eq_true h
theorem szB_i {n : Nat} (h : n ≤ 16777216) : szB n = true := Nat.ble_eq_true_of_le h

/-! ### environments -/
abbrev DEnv := List (Option D)
def lk : DEnv → Nat → Option D
  | [], _ => none
  | x :: _, 0 => x
  | _ :: r, n + 1 => lk r n
def stE : DEnv → Nat → D → DEnv
  | [], _, _ => []
  | _ :: r, 0, d => some d :: r
  | x :: r, n + 1, d => x :: stE r n d
def wpE (e : DEnv) : List Nat → DEnv
  | [] => e
  | v :: vs => noE (wpE e vs) v
where noE : DEnv → Nat → DEnv
  | [], _ => []
  | _ :: r, 0 => none :: r
  | x :: r, n + 1 => x :: noE r n
/-- the slots hold the data -/
def RepE (K : PySem.W.Frag) (F : Hp) : L2.St → DEnv → Prop
  | [], [] => True
  | x :: σ, y :: env => (∀ d, y = some d → ∃ v, x = some v ∧ Rep K F d v) ∧ RepE K F σ env
  | _, _ => False
section
variable {K : PySem.W.Frag} {F F' : Hp}
theorem RepE.mono (e : Same F F') : ∀ {σ : L2.St} {env : DEnv}, RepE K F σ env → RepE K F' σ env
  | [], [], _ => True.intro
  | _ :: _, _ :: _, ⟨h, r⟩ => ⟨fun d q => by obtain ⟨v, e1, e2⟩ := h d q; exact ⟨v, e1, e2.mono e⟩, RepE.mono e r⟩
  | [], _ :: _, h => h.elim
  | _ :: _, [], h => h.elim
theorem RepE.lk : ∀ {σ : L2.St} {env : DEnv} {i : Nat} {d : D}, RepE K F σ env → lk env i = some d → ∃ v, σ[i]? = some (some v) ∧ Rep K F d v
  | [], [], _, _, _, q => by cases q
  | _ :: _, _ :: _, 0, d, ⟨h, _⟩, q => by
    obtain ⟨v, e1, e2⟩ := h d q
    exact ⟨v, by rw [e1]; rfl, e2⟩
  | _ :: _, _ :: _, i + 1, d, ⟨_, r⟩, q => by
    obtain ⟨v, e1, e2⟩ := RepE.lk (i := i) r q
    exact ⟨v, by simpa using e1, e2⟩
  | [], _ :: _, _, _, h, _ => h.elim
  | _ :: _, [], _, _, h, _ => h.elim
theorem RepE.set {d : D} {v : V} (hd : Rep K F d v) : ∀ {σ : L2.St} {env : DEnv} (i : Nat), RepE K F σ env → RepE K F (σ.set i (some v)) (stE env i d)
  | [], [], _, _ => True.intro
  | _ :: _, _ :: _, 0, ⟨_, r⟩ => ⟨fun d' q => by cases q; exact ⟨v, rfl, hd⟩, r⟩
  | _ :: _, _ :: _, i + 1, ⟨h, r⟩ => ⟨h, RepE.set hd i r⟩
  | [], _ :: _, _, h => h.elim
  | _ :: _, [], _, h => h.elim
theorem RepE.no : ∀ {σ : L2.St} {env : DEnv} (i : Nat), RepE K F σ env → RepE K F (σ.set i none) (wpE.noE env i)
  | [], [], _, _ => True.intro
  | _ :: _, _ :: _, 0, ⟨_, r⟩ => ⟨fun d' q => (nomatch q), r⟩
  | _ :: _, _ :: _, i + 1, ⟨h, r⟩ => ⟨h, RepE.no i r⟩
  | [], _ :: _, _, h => h.elim
  | _ :: _, [], _, h => h.elim
theorem RepE.wipe {σ : L2.St} {env : DEnv} (h : RepE K F σ env) : ∀ vs : List Nat, RepE K F (L2.wipe σ vs) (wpE env vs)
  | [] => h
  | v :: vs => (RepE.wipe h vs).no v
theorem RepE.start (N : List Str) : ∀ {ds : List D} {vs : List V}, RepL K F ds vs → ∀ n, RepE K F (vs.map some ++ List.replicate n none) (ds.map some ++ List.replicate n none)
  | _, _, .nil, 0 => True.intro
  | _, _, .nil, n + 1 => ⟨fun d q => (nomatch q), RepE.start N .nil n⟩
  | _, _, .cons h r, n => ⟨fun d q => by cases q; exact ⟨_, rfl, h⟩, RepE.start N r n⟩
end

/-! ### the lifted judgements -/
abbrev TD := DEnv → DO → (D → DO → Prop) → Prop
abbrev TDT := DEnv → DO → (Bool → DO → Prop) → Prop
abbrev TDA := DEnv → DO → (List D → DO → Prop) → Prop
def liftE (K : PySem.W.Frag) (t : TD) : TE := fun σ H Q => ∃ F O env R, Pre K F O H ∧ RepE K F σ env ∧ t env O R ∧ ∀ v H' F' d O', Stp K F O H F' O' H' → Rep K F' d v → R d O' → Q v H'
def liftT (K : PySem.W.Frag) (t : TDT) : TT := fun σ H Q => ∃ F O env R, Pre K F O H ∧ RepE K F σ env ∧ t env O R ∧ ∀ b H' F' O', Stp K F O H F' O' H' → R b O' → Q b H'
def liftA (K : PySem.W.Frag) (t : TDA) : TA := fun σ H Q => ∃ F O env R, Pre K F O H ∧ RepE K F σ env ∧ t env O R ∧ ∀ vs H' F' ds O', Stp K F O H F' O' H' → RepL K F' ds vs → R ds O' → Q vs H'
abbrev PD (X : Cx) (e : Expr) (t : TD) : Prop := PE X e (liftE X.K t)
abbrev PTD (X : Cx) (e : Expr) (t : TDT) : Prop := PT X e (liftT X.K t)
abbrev PWD (X : Cx) (e : Expr) (t : TDT) : Prop := PW X e (liftT X.K t)
abbrev PAD (X : Cx) (es : List Expr) (t : TDA) : Prop := PA X es (liftA X.K t)
section
variable {X : Cx} {e : Expr} {es : List Expr}
theorem pe_weak {t t' : TE} (h : PE X e t) (w : ∀ σ H Q, t' σ H Q → t σ H Q) : PE X e t' := ⟨fun pins s σ H Q I q => h.run pins s σ H Q I (w σ H Q q)⟩
theorem pt_weak {t t' : TT} (h : PT X e t) (w : ∀ σ H Q, t' σ H Q → t σ H Q) : PT X e t' := ⟨fun pins s σ H Q I q => h.run pins s σ H Q I (w σ H Q q)⟩
theorem pw_weak {t t' : TT} (h : PW X e t) (w : ∀ σ H Q, t' σ H Q → t σ H Q) : PW X e t' := ⟨fun wh pins s σ H Q I q => h.run wh pins s σ H Q I (w σ H Q q)⟩
theorem pa_weak {t t' : TA} (h : PA X es t) (w : ∀ σ H Q, t' σ H Q → t σ H Q) : PA X es t' := ⟨fun pos pins s σ H Q I q => h.run pos pins s σ H Q I (w σ H Q q)⟩
end
/-- a lifted part, begun where we stand -/
theorem lift_go {K : PySem.W.Frag} {t : TD} {σ : L2.St} {H : Hp} {Q : VK} {F : Hp} {O : DO} {env : DEnv} {R : D → DO → Prop} (P : Pre K F O H) (re : RepE K F σ env) (h : t env O R)
    (k : ∀ v H' F' d O', Stp K F O H F' O' H' → Rep K F' d v → R d O' → Q v H') : liftE K t σ H Q := ⟨F, O, env, R, P, re, h, k⟩
end Dl

set_option maxRecDepth 100000
set_option maxHeartbeats 2000000
/-! THE DATA LAYER, 2: expressions: names, constants, operators, tests, displays. -/
namespace Dl
open PySem PySem.Spec PyProof.Rows L2
section
variable {X : Cx} {a b c e : Expr} {es : List Expr} {ta tb tc : TD} {pos : Pos}

/-! ### names, constants -/
def tdV (i : Nat) : TD := fun env O Q => match lk env i with
  | some d => Q d O
  | none => False
def tdC (d : D) : TD := fun _ O Q => Q d O
theorem pd_pe {t : TE} {t' : TD} (h : PE X e t) (w : ∀ σ H Q F O env R, Pre X.K F O H → RepE X.K F σ env → t' env O R → (∀ v H' F' d O', Stp X.K F O H F' O' H' → Rep X.K F' d v → R d O' → Q v H') → t σ H Q) : PD X e t' :=
  pe_weak h fun σ H Q ⟨F, O, env, R, P, re, h, k⟩ => w σ H Q F O env R P re h k
theorem pd_c {v : V} {d : D} (h : PE X e (tC v)) (r : ∀ F, Rep X.K F d v) : PD X e (tdC d) := pd_pe h fun σ H Q F O env R P re h k => k v H F d O (.refl P) (r F) h
theorem pv_d (i : Nat) {x : Str} {pos : Pos} (h : PE X (.Name x pos) (tVar i)) : PD X (.Name x pos) (tdV i) := pd_pe h fun σ H Q F O env R P re h k => by
  unfold tdV at h
  cases e : lk env i with
  | none => rw [e] at h; exact h.elim
  | some d =>
    rw [e] at h
    obtain ⟨v, e1, e2⟩ := re.lk e
    exact ⟨v, e1, k v H F d O (.refl P) e2 h⟩
theorem dv (i : Nat) {x : Str} {pos : Pos} (hN : X.N[i]? = some x := by rfl) (hv : Vis X.env.scope x := by first | exact Or.inl rfl | exact Or.inr (Or.inl rfl) | exact Or.inr (Or.inr rfl)) (hd : (x == ("__debug__" : Str)) = false := by decide)
    (hcd : (x == ("__classdict__" : Str)) = false := by decide) : PD X (.Name x pos) (tdV i) := pv_d i (pe_var hN hv hd hcd)
theorem d_int {i : Int} {j : Nat} : PD X (.Constant (.int i) j pos) (tdC (.int i)) := pd_c pe_int fun _ => .int i
theorem d_bl {i : Bool} {j : Nat} : PD X (.Constant (.bool i) j pos) (tdC (.bl i)) := pd_c pe_bl fun _ => .bl i
theorem d_non {j : Nat} : PD X (.Constant .none j pos) (tdC .non) := pd_c pe_non fun _ => .non
theorem d_str {x : Str} {j : Nat} : PD X (.Constant (.str x) j pos) (tdC (.str x)) := pd_c pe_str fun _ => .str x
/-- a module's name, whose value is d -/
structure GlD (X : Cx) (x : Str) (d : D) : Prop where
  ex : ∃ u v, X.mg x = some u ∧ RelV v u ∧ ∀ F, Rep X.K F d v
theorem d_gl {x : Str} {d : D} (g : GlD X x d) (hg : Gl X x := by rfl) (hd : (x == ("__debug__" : Str)) = false := by decide) : PD X (.Name x pos) (tdC d) := by
  obtain ⟨u, v, h1, h2, h3⟩ := g.ex
  exact pd_c (pe_glob hg h1 h2 hd) h3
theorem d_bltn {x : Str} {n : String} {d : D} (hm : X.mg x = none) (hv : bootBuiltins x = some (.type n)) (hd' : ∀ F, Rep X.K F d (.ty n)) (hg : Gl X x := by rfl) (hn : x ≠ "__name__" := by decide) (hd : (x == ("__debug__" : Str)) = false := by decide) : PD X (.Name x pos) (tdC d) :=
  pd_c (pe_bltn hg hm hv (show RelV (.ty n) (.type n) from rfl) hn hd) hd'

/-! ### operators -/
abbrev GOp := DO → D → D → (D → Prop) → Prop
def liftR2 (K : PySem.W.Frag) (g : GOp) : R2 := fun x y H Q => ∃ F O dx dy R, Pre K F O H ∧ Rep K F dx x ∧ Rep K F dy y ∧ g O dx dy R ∧ ∀ v H' F' d, Stp K F O H F' O H' → Rep K F' d v → R d → Q v H'
abbrev OpD (X : Cx) (f : Value → Value → Sem Value) (g : GOp) : Prop := OpR X f (liftR2 X.K g)
def tdOp (g : GOp) (ta tb : TD) : TD := fun env O Q => ta env O fun x O1 => tb env O1 fun y O2 => g O2 x y fun d => Q d O2
theorem op_lift {K : PySem.W.Frag} {g : GOp} {σ : L2.St} {H : Hp} {Q : VK} (h : liftE K (tdOp g ta tb) σ H Q) : tOp (liftR2 K g) (liftE K ta) (liftE K tb) σ H Q := by
  obtain ⟨F, O, env, R, P, re, h, k⟩ := h
  refine ⟨F, O, env, _, P, re, h, fun x H1 F1 dx O1 s1 rx h1 => ⟨F1, O1, env, _, s1.pre, re.mono s1.ff, h1, fun y H2 F2 dy O2 s2 ry h2 => ?_⟩⟩
  exact ⟨F2, O2, dx, dy, _, s2.pre, rx.mono s2.ff, ry, h2, fun v H3 F3 d s3 rv hr => k v H3 F3 d O2 (s1.trans (s2.trans s3)) rv hr⟩
theorem d_op {op : Operator} {g : GOp} (ho : OpD X (binaryOp op) g) (ha : PD X a ta) (hb : PD X b tb) : PD X (.BinOp a op b pos) (tdOp g ta tb) := pe_weak (pe_op ho ha hb) fun _ _ _ h => op_lift h
theorem d_cmp {op : CmpOp} {g : GOp} (ho : OpD X (compareOp op) g) (ha : PD X a ta) (hb : PD X b tb) (hm : behindInMarks op b = false := by first | exact nomark _ | rfl) : PD X (.Compare a [op] [b] pos) (tdOp g ta tb) := pe_weak (pe_cmpR ho ha hb hm) fun _ _ _ h => op_lift h
theorem d_neg (ha : PD X a ta) : PD X (.UnaryOp .USub a pos) (fun env O Q => ta env O fun x O1 => match x with
    | .int i => Q (.int (-i)) O1
    | _ => False) := pe_weak (pe_un un_neg ha) fun σ H Q ⟨F, O, env, R, P, re, h, k⟩ => by
  refine ⟨F, O, env, _, P, re, h, fun x H1 F1 dx O1 s1 rx h1 => ?_⟩
  cases rx with
  | int i => exact ⟨i, rfl, k _ H1 F1 _ O1 s1 (.int _) h1⟩
  | _ => exact h1.elim

def addD : D → D → (D → Prop) → Prop
  | .int i, .int j, k => k (.int (i + j))
  | .str x, .str y, k => needB (szB (x.length + y.length)) (k (.str (x ++ y)))
  | .tup xs, .tup ys, k => needB (szB (xs.length + ys.length)) (k (.tup (xs ++ ys)))
  | .lst xs, .lst ys, k => needB (szB (xs.length + ys.length)) (k (.lst (xs ++ ys)))
  | _, _, _ => False
def gAdd : GOp := fun O x y k => addD (deref O x) (deref O y) k
theorem o_add : OpD X (binaryOp .Add) gAdd := by
  intro pins s σ H x y v u Q I rx ry h
  obtain ⟨F, O, dx, dy, R, P, ex, ey, g, k⟩ := h
  unfold gAdd at g
  cases hx : deref O dx <;> cases hy : deref O dy <;> rw [hx, hy] at g <;> first | exact False.elim g | skip
  · obtain rfl := inv_int ex hx
    obtain rfl := inv_int ey hy
    exact op_add pins s σ H _ _ v u Q I rx ry ⟨_, _, rfl, rfl, k _ _ F _ (.refl P) (.int _) g⟩
  · obtain rfl := inv_str ex hx
    obtain rfl := inv_str ey hy
    obtain ⟨g1, g2⟩ := needB_o g
    exact op_add_str pins s σ H _ _ v u Q I rx ry ⟨_, _, rfl, rfl, szB_ok g1, k _ _ F _ (.refl P) (.str _) g2⟩
  · obtain ⟨g1, g2⟩ := needB_o g
    replace g : _ ∧ _ := ⟨szB_ok g1, g2⟩
    obtain ⟨p, xs, rfl, sx, lx⟩ := inv_tup ex hx
    obtain ⟨q, ys, rfl, sy, ly⟩ := inv_tup ey hy
    have hl : xs.length + ys.length ≤ sizeLine := by rw [← lx.length, ← ly.length]; exact g.1
    refine op_catA pins s σ H _ _ v u Q I rx ry ⟨p, q, xs, ys, rfl, rfl, SqT.of (P.fh _ _ sx), SqT.of (P.fh _ _ sy), hl, fun e => ?_, fun e1 e2 => ?_, fun _ _ p hp => ?_⟩
    · subst e
      have e' := List.length_eq_zero_iff.mp lx.length
      subst e'
      exact k _ _ F _ (.refl P) (.tup sy ly) g.2
    · subst e2
      have e' := List.length_eq_zero_iff.mp ly.length
      subst e'
      exact k _ _ F _ (.refl P) (.tup sx (by rw [List.append_nil]; exact lx)) g.2
    · have z := Stp.tup P hp (lx.append ly)
      exact k _ _ _ _ z.1 z.2 g.2
  · obtain ⟨g1, g2⟩ := needB_o g
    replace g : _ ∧ _ := ⟨szB_ok g1, g2⟩
    obtain ⟨p, xs, rfl, sx, lx⟩ := inv_lst P ex hx
    obtain ⟨q, ys, rfl, sy, ly⟩ := inv_lst P ey hy
    have hl : xs.length + ys.length ≤ sizeLine := by rw [← lx.length, ← ly.length]; exact g.1
    refine op_cat pins s σ H _ _ v u Q I rx ry ⟨p, q, xs, ys, rfl, rfl, sx, sy, hl, fun p hp => ?_⟩
    have z := Stp.lst P hp (lx.append ly)
    exact k _ _ _ _ z.1 z.2 g.2
/-- the sum of two lists, kept as an owned cell -/
def tdCatO (ta tb : TD) : TD := fun env O Q => ta env O fun x O1 => tb env O1 fun y O2 => match deref O2 x, deref O2 y with
  | .lst xs, .lst ys => needB (szB (xs.length + ys.length)) (∀ p, O2 p = none → Q (.ptr p) (updO O2 p (.lst (xs ++ ys))))
  | _, _ => False
theorem d_catO (ha : PD X a ta) (hb : PD X b tb) : PD X (.BinOp a .Add b pos) (tdCatO ta tb) := pe_weak (pe_op op_cat ha hb) fun σ H Q ⟨F, O, env, R, P, re, h, k⟩ => by
  refine ⟨F, O, env, _, P, re, h, fun x H1 F1 dx O1 s1 rx h1 => ⟨F1, O1, env, _, s1.pre, re.mono s1.ff, h1, fun y H2 F2 dy O2 s2 ry h2 => ?_⟩⟩
  have rx := rx.mono s2.ff
  cases hx : deref O2 dx <;> cases hy : deref O2 dy <;> rw [hx, hy] at h2 <;> first | exact False.elim h2 | skip
  obtain ⟨p, xs, rfl, sx, lx⟩ := inv_lst s2.pre rx hx
  obtain ⟨q, ys, rfl, sy, ly⟩ := inv_lst s2.pre ry hy
  obtain ⟨g1, g2⟩ := needB_o h2
  replace h2 : _ ∧ _ := ⟨szB_ok g1, g2⟩
  refine ⟨p, q, xs, ys, rfl, rfl, sx, sy, by rw [← lx.length, ← ly.length]; exact h2.1, fun p hp => ?_⟩
  exact k _ _ _ _ _ (s1.trans (s2.trans (Stp.newList s2.pre hp (lx.append ly)))) (.ptr p) (h2.2 p (s2.pre.fresh hp).2)

def gInt (C : Int → Int → Prop) (f : Int → Int → Int) : GOp := fun _ x y k => match x, y with
  | .int i, .int j => C i j ∧ k (.int (f i j))
  | _, _ => False
theorem o_int {f : Value → Value → Sem Value} {C : Int → Int → Prop} {g : Int → Int → Int} (h : OpR X f (rI C fun i j => .int (g i j))) : OpD X f (gInt C g) := by
  intro pins s σ H x y v u Q I rx ry ⟨F, O, dx, dy, R, P, ex, ey, gg, k⟩
  unfold gInt at gg
  cases dx <;> cases dy <;> first | exact False.elim gg | skip
  cases ex
  cases ey
  exact h pins s σ H _ _ v u Q I rx ry ⟨_, _, rfl, rfl, gg.1, k _ _ F _ (.refl P) (.int _) gg.2⟩
def gSub : GOp := fun _ x y k => match x, y with
  | .int i, .int j => k (.int (i - j))
  | _, _ => False
theorem o_sub : OpD X (binaryOp .Sub) gSub := by
  intro pins s σ H x y v u Q I rx ry ⟨F, O, dx, dy, R, P, ex, ey, gg, k⟩
  unfold gSub at gg
  cases dx <;> cases dy <;> first | exact False.elim gg | skip
  cases ex
  cases ey
  exact op_sub pins s σ H _ _ v u Q I rx ry ⟨_, _, rfl, rfl, k _ _ F _ (.refl P) (.int _) gg⟩
def gMod : GOp := gInt (fun _ j => 0 < j) fun i j => i % j
theorem o_mod : OpD X (binaryOp .Mod) gMod := o_int op_mod
def gFdiv : GOp := gInt CDivW fun i j => i / j
theorem o_fdiv : OpD X (binaryOp .FloorDiv) gFdiv := o_int op_fdivW
def gPow : GOp := gInt CPow fun i j => i ^ j.toNat
theorem o_pow : OpD X (binaryOp .Pow) gPow := o_int op_pow
def mulD : D → D → (D → Prop) → Prop
  | .int i, .int j, k => CMulW i j ∧ k (.int (i * j))
  | .tup xs, .int j, k => (xs ≠ [] ∧ 2 ≤ j ∧ j ≤ 1000 ∧ xs.length ≤ 1000) ∧ k (.tup (List.replicate j.toNat xs).flatten)
  | _, _, _ => False
def gMul : GOp := fun _ x y k => mulD x y k
theorem o_mul : OpD X (binaryOp .Mult) gMul := by
  intro pins s σ H x y v u Q I rx ry ⟨F, O, dx, dy, R, P, ex, ey, g, k⟩
  unfold gMul at g
  cases dx <;> cases dy <;> first | exact False.elim g | skip
  · cases ex
    cases ey
    exact op_mulW pins s σ H _ _ v u Q I rx ry ⟨_, _, rfl, rfl, g.1, k _ _ F _ (.refl P) (.int _) g.2⟩
  · cases ey
    cases ex with
    | @tup a xs ds sx lx =>
      rename_i j
      obtain ⟨⟨h1, h2, h3, h4⟩, g⟩ := g
      refine op_repT pins s σ H _ _ v u Q I rx ry ⟨a, j, xs, rfl, rfl, SqT.of (P.fh _ _ sx), fun e => h1 (List.length_eq_zero_iff.mp (by rw [lx.length, e]; rfl)), h2, h3, by rw [← lx.length]; exact h4, fun p hp => ?_⟩
      have z := Stp.tup P hp (lx.rep j.toNat)
      exact k _ _ _ _ z.1 z.2 g

/-! ### comparisons -/
def gCmp (p : Int → Int → Bool) : GOp := fun _ x y k => match x, y with
  | .int i, .int j => k (.bl (p i j))
  | _, _ => False
theorem o_cmp {f : Value → Value → Sem Value} {p : Int → Int → Bool} (h : OpR X f (rI0 fun i j => .bl (p i j))) : OpD X f (gCmp p) := by
  intro pins s σ H x y v u Q I rx ry ⟨F, O, dx, dy, R, P, ex, ey, gg, k⟩
  unfold gCmp at gg
  cases dx <;> cases dy <;> first | exact False.elim gg | skip
  cases ex
  cases ey
  exact h pins s σ H _ _ v u Q I rx ry ⟨_, _, rfl, rfl, k _ _ F _ (.refl P) (.bl _) gg⟩
def gLt : GOp := gCmp fun i j => decide (i < j)
def gLe : GOp := gCmp fun i j => decide (i ≤ j)
def gGt : GOp := gCmp fun i j => decide (j < i)
def gGe : GOp := gCmp fun i j => decide (j ≤ i)
theorem o_lt : OpD X (compareOp .Lt) gLt := o_cmp op_lt
theorem o_le : OpD X (compareOp .LtE) gLe := o_cmp op_le
theorem o_gt : OpD X (compareOp .Gt) gGt := o_cmp op_gt
theorem o_ge : OpD X (compareOp .GtE) gGe := o_cmp op_ge
def isNon : D → Bool
  | .non => true
  | _ => false
def gIs (neg : Bool) : GOp := fun _ x y k => match y with
  | .non => k (.bl (if neg then !isNon x else isNon x))
  | _ => False
theorem rep_non {K : PySem.W.Frag} {F : Hp} {d : D} {v : V} (r : Rep K F d v) : decide (v = .non) = isNon d := by
  cases r <;> first | rfl | exact decide_eq_false (fun h => nomatch h)
theorem o_is : OpD X (compareOp .Is) (gIs false) := by
  intro pins s σ H x y v u Q I rx ry ⟨F, O, dx, dy, R, P, ex, ey, g, k⟩
  cases dy <;> first | exact False.elim g | skip
  cases ey
  exact op_isN pins s σ H _ _ v u Q I rx ry ⟨rfl, k _ _ F _ (.refl P) (by rw [rep_non ex]; exact .bl _) g⟩
theorem o_isnot : OpD X (compareOp .IsNot) (gIs true) := by
  intro pins s σ H x y v u Q I rx ry ⟨F, O, dx, dy, R, P, ex, ey, g, k⟩
  cases dy <;> first | exact False.elim g | skip
  cases ey
  exact op_notN pins s σ H _ _ v u Q I rx ry ⟨rfl, k _ _ F _ (.refl P) (by rw [rep_non ex]; exact .bl _) g⟩

/-! ### equality of data -/
mutual
def toPy : D → PyData
  | .non => .none
  | .bl b => .bool b
  | .int i => .int i
  | .str x => .str x
  | .tup ds => .tuple (toPys ds)
  | .lst ds => .list (toPys ds)
  | .ptr _ => .none
  | .xtp ds => .tuple (toPys ds)
  | .xls ds => .list (toPys ds)
def toPys : List D → List PyData
  | [] => []
  | d :: ds => toPy d :: toPys ds
end
mutual
/-- no address in it, at most so deep -/
def okD : Nat → D → Bool
  | _, .ptr _ => false
  | _, .str x => PyData.strOk x
  | n + 1, .tup ds => okDs n ds
  | n + 1, .lst ds => okDs n ds
  | n + 1, .xtp ds => okDs n ds
  | n + 1, .xls ds => okDs n ds
  | 0, .tup _ => false
  | 0, .lst _ => false
  | 0, .xtp _ => false
  | 0, .xls _ => false
  | _, _ => true
def okDs : Nat → List D → Bool
  | _, [] => true
  | n, d :: ds => okD n d && okDs n ds
end
section
variable {K : PySem.W.Frag} {F H : Hp}
mutual
theorem Rep.dp : ∀ {n : Nat} {d : D} {v : V}, Rep K H d v → okD n d = true → Dp K H v (toPy d)
  | _, _, _, .non, _ => .non
  | _, _, _, .bl b, _ => .bl b
  | _, _, _, .int i, _ => .int i
  | _, _, _, .str x, _ => .str x
  | n + 1, _, _, .tup h r, q => .tup (SqT.of h) (RepL.dp r q)
  | n + 1, _, _, .lst h r, q => .lst (SqL.of h) (RepL.dp r q)
  | n + 1, _, _, .xtp h r, q => .tup h (RepL.dp r q)
  | n + 1, _, _, .xls h r, q => .lst h (RepL.dp r q)
theorem RepL.dp : ∀ {n : Nat} {ds : List D} {vs : List V}, RepL K H ds vs → okDs n ds = true → DpAll K H vs (toPys ds)
  | _, _, _, .nil, _ => .nil
  | _, _, _, .cons h r, q => .cons (Rep.dp h (Bool.and_eq_true_iff.mp q).1) (RepL.dp r (Bool.and_eq_true_iff.mp q).2)
end
mutual
theorem okD_lay : ∀ (n : Nat) (d : D), okD n d = true → (toPy d).canLay0 = true ∧ (toPy d).depth ≤ n
  | _, .non, _ => ⟨by simp [toPy, PyData.canLay0], by simp [toPy, PyData.depth]⟩
  | _, .bl b, _ => ⟨by simp [toPy, PyData.canLay0], by simp [toPy, PyData.depth]⟩
  | _, .int i, _ => ⟨by simp [toPy, PyData.canLay0], by simp [toPy, PyData.depth]⟩
  | _, .str x, h => ⟨by simp only [toPy, PyData.canLay0]; simpa [okD] using h, by simp [toPy, PyData.depth]⟩
  | n + 1, .tup ds, h => by
    obtain ⟨h1, h2⟩ := okDs_lay n ds h
    exact ⟨by simp only [toPy, PyData.canLay0]; exact h1, by simp only [toPy, PyData.depth]; omega⟩
  | n + 1, .lst ds, h => by
    obtain ⟨h1, h2⟩ := okDs_lay n ds h
    exact ⟨by simp only [toPy, PyData.canLay0]; exact h1, by simp only [toPy, PyData.depth]; omega⟩
  | n + 1, .xtp ds, h => by
    obtain ⟨h1, h2⟩ := okDs_lay n ds h
    exact ⟨by simp only [toPy, PyData.canLay0]; exact h1, by simp only [toPy, PyData.depth]; omega⟩
  | n + 1, .xls ds, h => by
    obtain ⟨h1, h2⟩ := okDs_lay n ds h
    exact ⟨by simp only [toPy, PyData.canLay0]; exact h1, by simp only [toPy, PyData.depth]; omega⟩
theorem okDs_lay : ∀ (n : Nat) (ds : List D), okDs n ds = true → PyData.canLayAll0 (toPys ds) = true ∧ PyData.depthAll (toPys ds) ≤ n
  | _, [], _ => ⟨by simp [toPys, PyData.canLayAll0], by simp [toPys, PyData.depthAll]⟩
  | n, d :: ds, h => by
    obtain ⟨q1, q2⟩ := Bool.and_eq_true_iff.mp h
    obtain ⟨h1, h2⟩ := okD_lay n d q1
    obtain ⟨h3, h4⟩ := okDs_lay n ds q2
    exact ⟨by simp only [toPys, PyData.canLayAll0, h1, h3, Bool.and_self], by simp only [toPys, PyData.depthAll]; omega⟩
end
theorem okD_shaped {d : D} (h : okD 60 d = true) : SeqAt.shaped (toPy d) = true := by
  obtain ⟨h1, h2⟩ := okD_lay 60 d h
  exact Bool.and_eq_true_iff.mpr ⟨h1, decide_eq_true (by omega)⟩
end
theorem deref_rep {K : PySem.W.Frag} {F H : Hp} {O : DO} {d : D} {v : V} (P : Pre K F O H) (r : Rep K F d v) : Rep K H (deref O d) v := by
  rcases deref_cases O d with q | ⟨a, ds, rfl, ho, q⟩
  · rw [q]; exact r.mono P.fh
  · rw [q]
    cases r
    obtain ⟨_, xs, hx, r⟩ := P.ro a _ ho
    exact .lst hx (r.mono P.fh)
def eqD (neg : Bool) (x y : D) (k : D → Prop) : Prop := match x, y with
  | .int i, .int j => k (.bl (if neg then !decide (i = j) else decide (i = j)))
  | .str i, .str j => k (.bl (if neg then !decide (i = j) else decide (i = j)))
  | .bl i, .bl j => k (.bl (if neg then !decide (i = j) else decide (i = j)))
  | x, y => okD 60 x = true ∧ okD 60 y = true ∧ k (.bl (if neg then !PyData.eqv (toPy x) (toPy y) else PyData.eqv (toPy x) (toPy y)))
def gEq : GOp := fun O x y k => eqD false (deref O x) (deref O y) k
def gNe : GOp := fun O x y k => eqD true (deref O x) (deref O y) k
theorem vdec_int (i j : Int) : decide (V.int i = V.int j) = decide (i = j) := by
  by_cases h : i = j
  · subst h; simp
  · rw [decide_eq_false h, decide_eq_false (fun q => h (V.int.inj q))]
theorem vdec_str (i j : Str) : decide (V.str i = V.str j) = decide (i = j) := by
  by_cases h : i = j
  · subst h; simp
  · rw [decide_eq_false h, decide_eq_false (fun q => h (V.str.inj q))]
theorem vdec_bl (i j : Bool) : decide (V.bl i = V.bl j) = decide (i = j) := by
  by_cases h : i = j
  · subst h; simp
  · rw [decide_eq_false h, decide_eq_false (fun q => h (V.bl.inj q))]
theorem o_eq (hu : X.A.units + 64 < cLine) : OpD X (compareOp .Eq) gEq := by
  intro pins s σ H x y v u Q I rx ry ⟨F, O, dx, dy, R, P, ex, ey, g, k⟩
  unfold gEq eqD at g
  split at g
  · rename_i i j e1 e2
    obtain rfl := inv_int ex e1
    obtain rfl := inv_int ey e2
    refine op_eq pins s σ H _ _ v u Q I rx ry ⟨rfl, ?_⟩
    rw [vdec_int]
    exact k _ _ F _ (.refl P) (.bl _) g
  · rename_i i j e1 e2
    obtain rfl := inv_str ex e1
    obtain rfl := inv_str ey e2
    refine op_eq pins s σ H _ _ v u Q I rx ry ⟨rfl, ?_⟩
    rw [vdec_str]
    exact k _ _ F _ (.refl P) (.bl _) g
  · rename_i i j e1 e2
    obtain rfl := inv_bl ex e1
    obtain rfl := inv_bl ey e2
    refine op_eq pins s σ H _ _ v u Q I rx ry ⟨rfl, ?_⟩
    rw [vdec_bl]
    exact k _ _ F _ (.refl P) (.bl _) g
  · obtain ⟨h1, h2, h3⟩ := g
    exact op_eqD hu pins s σ H _ _ v u Q I rx ry ⟨_, _, (deref_rep P ex).dp h1, (deref_rep P ey).dp h2, okD_shaped h1, okD_shaped h2, k _ _ F _ (.refl P) (.bl _) h3⟩
theorem o_ne (hu : X.A.units + 64 < cLine) : OpD X (compareOp .NotEq) gNe := by
  intro pins s σ H x y v u Q I rx ry ⟨F, O, dx, dy, R, P, ex, ey, g, k⟩
  unfold gNe eqD at g
  split at g
  · rename_i i j e1 e2
    obtain rfl := inv_int ex e1
    obtain rfl := inv_int ey e2
    refine op_ne pins s σ H _ _ v u Q I rx ry ⟨rfl, ?_⟩
    rw [vdec_int]
    exact k _ _ F _ (.refl P) (.bl _) g
  · rename_i i j e1 e2
    obtain rfl := inv_str ex e1
    obtain rfl := inv_str ey e2
    refine op_ne pins s σ H _ _ v u Q I rx ry ⟨rfl, ?_⟩
    rw [vdec_str]
    exact k _ _ F _ (.refl P) (.bl _) g
  · rename_i i j e1 e2
    obtain rfl := inv_bl ex e1
    obtain rfl := inv_bl ey e2
    refine op_ne pins s σ H _ _ v u Q I rx ry ⟨rfl, ?_⟩
    rw [vdec_bl]
    exact k _ _ F _ (.refl P) (.bl _) g
  · obtain ⟨h1, h2, h3⟩ := g
    exact op_neD hu pins s σ H _ _ v u Q I rx ry ⟨_, _, (deref_rep P ex).dp h1, (deref_rep P ey).dp h2, okD_shaped h1, okD_shaped h2, k _ _ F _ (.refl P) (.bl _) h3⟩
end
end Dl

set_option maxRecDepth 100000
set_option maxHeartbeats 2000000
/-! THE DATA LAYER, 3: tests, and/or/not, displays, subscripts, slices, calls. -/
namespace Dl
open PySem PySem.Spec PyProof.Rows L2
section
variable {X : Cx} {a b c e o : Expr} {es rest : List Expr} {ta tb tc : TD} {pos : Pos} {t u : TDT} {tr : TDA}

/-! ### tests -/
def tdT (t : TD) : TDT := fun env O Q => t env O fun x O1 => match x with
  | .bl b => Q b O1
  | _ => False
theorem test_lift {K : PySem.W.Frag} {σ : L2.St} {H : Hp} {Q : Bool → Hp → Prop} (h : liftT K (tdT ta) σ H Q) : liftE K ta σ H fun x H1 => ∃ k, x = .bl k ∧ Q k H1 := by
  obtain ⟨F, O, env, R, P, re, h, k⟩ := h
  refine ⟨F, O, env, _, P, re, h, fun x H1 F1 dx O1 s1 rx h1 => ?_⟩
  cases rx <;> first | exact h1.elim | skip
  exact ⟨_, rfl, k _ H1 F1 O1 s1 h1⟩
theorem t_cmp {op : CmpOp} {g : GOp} (ho : OpD X (compareOp op) g) (ha : PD X a ta) (hb : PD X b tb) (hm : behindInMarks op b = false := by first | exact nomark _ | rfl) : PTD X (.Compare a [op] [b] pos) (tdT (tdOp g ta tb)) :=
  pt_weak (pt_cmpR ho ha hb hm) fun σ H Q h => op_lift (Q := fun x H1 => ∃ k, x = .bl k ∧ Q k H1) (test_lift h)
theorem t_val (h : PD X e ta) (he : ∀ whole, isTrue e X.env whole = (do let v ← whole; standAt e.pos; holding [v] (truthy v)) := by intro _; rfl) : PTD X e (tdT ta) := pt_weak (pt_val h he) fun σ H Q h => test_lift h
def tdAnd (t u : TDT) : TDT := fun env O Q => t env O fun c O1 => iteB c (u env O1 Q) (Q false O1)
def tdOr (t u : TDT) : TDT := fun env O Q => t env O fun c O1 => iteB c (Q true O1) (u env O1 Q)
def tdNot (t : TDT) : TDT := fun env O Q => t env O fun c O1 => Q (!c) O1
theorem w_and1 (h : PTD X a t) : PWD X (.BoolOp .And [a] pos) t := pw_and1 h
theorem w_or1 (h : PTD X a t) : PWD X (.BoolOp .Or [a] pos) t := pw_or1 h
theorem w_and (ha : PTD X a t) (hb : PWD X (.BoolOp .And (b :: rest) pos) u) : PWD X (.BoolOp .And (a :: b :: rest) pos) (tdAnd t u) := pw_weak (pw_and ha hb) fun σ H Q h => by
  obtain ⟨F, O, env, R, P, re, h, k⟩ := h
  refine ⟨F, O, env, _, P, re, h, fun c H1 F1 O1 s1 h1 => ?_⟩
  cases c with
  | true => exact ⟨F1, O1, env, _, s1.pre, re.mono s1.ff, h1, fun b H2 F2 O2 s2 h2 => k b H2 F2 O2 (s1.trans s2) h2⟩
  | false => exact k _ H1 F1 O1 s1 h1
theorem w_or (ha : PTD X a t) (hb : PWD X (.BoolOp .Or (b :: rest) pos) u) : PWD X (.BoolOp .Or (a :: b :: rest) pos) (tdOr t u) := pw_weak (pw_or ha hb) fun σ H Q h => by
  obtain ⟨F, O, env, R, P, re, h, k⟩ := h
  refine ⟨F, O, env, _, P, re, h, fun c H1 F1 O1 s1 h1 => ?_⟩
  cases c with
  | true => exact k _ H1 F1 O1 s1 h1
  | false => exact ⟨F1, O1, env, _, s1.pre, re.mono s1.ff, h1, fun b H2 F2 O2 s2 h2 => k b H2 F2 O2 (s1.trans s2) h2⟩
theorem t_w (h : PWD X e t) : PTD X e t := h.pt
theorem t_not (h : PTD X a t) : PTD X (.UnaryOp .Not a pos) (tdNot t) := pt_weak (pt_not h) fun σ H Q ⟨F, O, env, R, P, re, h, k⟩ => ⟨F, O, env, _, P, re, h, fun c H1 F1 O1 s1 h1 => k _ H1 F1 O1 s1 h1⟩
/-! ### the same as values -/
def tdAndV (ta tb : TD) : TD := fun env O Q => ta env O fun x O1 => match x with
  | .bl true => tb env O1 Q
  | .bl false => Q (.bl false) O1
  | _ => False
def tdOrV (ta tb : TD) : TD := fun env O Q => ta env O fun x O1 => match x with
  | .bl true => Q (.bl true) O1
  | .bl false => tb env O1 Q
  | _ => False
def tdNotV (ta : TD) : TD := fun env O Q => ta env O fun x O1 => match x with
  | .bl c => Q (.bl (!c)) O1
  | _ => False
theorem d_one {op : BoolOp} (h : PD X a ta) : PD X (.BoolOp op [a] pos) ta := pe_one h
theorem d_and (ha : PD X a ta) (hb : PD X (.BoolOp .And (b :: rest) pos) tb) : PD X (.BoolOp .And (a :: b :: rest) pos) (tdAndV ta tb) := pe_weak (pe_and ha hb) fun σ H Q h => by
  obtain ⟨F, O, env, R, P, re, h, k⟩ := h
  refine ⟨F, O, env, _, P, re, h, fun x H1 F1 dx O1 s1 rx h1 => ?_⟩
  cases rx <;> first | exact h1.elim | skip
  rename_i c
  refine ⟨c, rfl, ?_⟩
  cases c with
  | true => exact ⟨F1, O1, env, _, s1.pre, re.mono s1.ff, h1, fun b H2 F2 d O2 s2 r2 h2 => k b H2 F2 d O2 (s1.trans s2) r2 h2⟩
  | false => exact k _ H1 F1 _ O1 s1 (.bl _) h1
theorem d_or (ha : PD X a ta) (hb : PD X (.BoolOp .Or (b :: rest) pos) tb) : PD X (.BoolOp .Or (a :: b :: rest) pos) (tdOrV ta tb) := pe_weak (pe_or ha hb) fun σ H Q h => by
  obtain ⟨F, O, env, R, P, re, h, k⟩ := h
  refine ⟨F, O, env, _, P, re, h, fun x H1 F1 dx O1 s1 rx h1 => ?_⟩
  cases rx <;> first | exact h1.elim | skip
  rename_i c
  refine ⟨c, rfl, ?_⟩
  cases c with
  | false => exact ⟨F1, O1, env, _, s1.pre, re.mono s1.ff, h1, fun b H2 F2 d O2 s2 r2 h2 => k b H2 F2 d O2 (s1.trans s2) r2 h2⟩
  | true => exact k _ H1 F1 _ O1 s1 (.bl _) h1
theorem d_not (ha : PD X a ta) : PD X (.UnaryOp .Not a pos) (tdNotV ta) := pe_weak (pe_not ha) fun σ H Q h => by
  obtain ⟨F, O, env, R, P, re, h, k⟩ := h
  refine ⟨F, O, env, _, P, re, h, fun x H1 F1 dx O1 s1 rx h1 => ?_⟩
  cases rx <;> first | exact h1.elim | skip
  exact ⟨_, rfl, k _ H1 F1 _ O1 s1 (.bl _) h1⟩
def tdIf (t : TDT) (ta tb : TD) : TD := fun env O Q => t env O fun c O1 => iteB c (ta env O1 Q) (tb env O1 Q)
theorem d_if {c : Expr} (hc : PTD X c t) (ha : PD X a ta) (hb : PD X b tb) : PD X (.IfExp c a b pos) (tdIf t ta tb) := pe_weak (pe_ifExp hc ha hb) fun σ H Q h => by
  obtain ⟨F, O, env, R, P, re, h, k⟩ := h
  refine ⟨F, O, env, _, P, re, h, fun c H1 F1 O1 s1 h1 => ?_⟩
  cases c with
  | true => exact ⟨F1, O1, env, _, s1.pre, re.mono s1.ff, h1, fun b H2 F2 d O2 s2 r2 h2 => k b H2 F2 d O2 (s1.trans s2) r2 h2⟩
  | false => exact ⟨F1, O1, env, _, s1.pre, re.mono s1.ff, h1, fun b H2 F2 d O2 s2 r2 h2 => k b H2 F2 d O2 (s1.trans s2) r2 h2⟩
/-- a op b op c -/
def tdChain (g g' : GOp) (ta tb tc : TD) : TD := fun env O Q => ta env O fun x O1 => tb env O1 fun y O2 => g O2 x y fun d => match d with
  | .bl true => tc env O2 fun z O3 => g' O3 y z fun d => Q d O3
  | .bl false => Q (.bl false) O2
  | _ => False
theorem chain_lift {K : PySem.W.Frag} {g g' : GOp} {σ : L2.St} {H : Hp} {Q : VK} (h : liftE K (tdChain g g' ta tb tc) σ H Q) : tChain (liftR2 K g) (liftR2 K g') (liftE K ta) (liftE K tb) (liftE K tc) σ H Q := by
  obtain ⟨F, O, env, R, P, re, h, k⟩ := h
  refine ⟨F, O, env, _, P, re, h, fun x H1 F1 dx O1 s1 rx h1 => ⟨F1, O1, env, _, s1.pre, re.mono s1.ff, h1, fun y H2 F2 dy O2 s2 ry h2 => ?_⟩⟩
  refine ⟨F2, O2, dx, dy, _, s2.pre, rx.mono s2.ff, ry, h2, fun v H3 F3 d s3 rv hr => ?_⟩
  have s13 := s1.trans (s2.trans s3)
  cases rv <;> first | exact hr.elim | skip
  rename_i c
  refine ⟨c, rfl, ?_⟩
  cases c with
  | false => exact k _ H3 F3 _ O2 s13 (.bl _) hr
  | true =>
    refine ⟨F3, O2, env, _, s3.pre, re.mono s13.ff, hr, fun z H4 F4 dz O3 s4 rz h4 => ?_⟩
    exact ⟨F4, O3, dy, dz, _, s4.pre, ry.mono (s3.ff.trans s4.ff), rz, h4, fun v H5 F5 d s5 rv hr => k v H5 F5 d O3 (s13.trans (s4.trans s5)) rv hr⟩
theorem d_chain {op op' : CmpOp} {g g' : GOp} (ho : OpD X (compareOp op) g) (ho' : OpD X (compareOp op') g') (ha : PD X a ta) (hb : PD X b tb) (hc : PD X c tc)
    (hm : lastMarks [op, op'] [b, c] = false := by with_unfolding_all rfl) : PD X (.Compare a [op, op'] [b, c] pos) (tdChain g g' ta tb tc) := pe_weak (pe_chain ho ho' ha hb hc hm) fun _ _ _ h => chain_lift h
theorem t_chain {op op' : CmpOp} {g g' : GOp} (ho : OpD X (compareOp op) g) (ho' : OpD X (compareOp op') g') (ha : PD X a ta) (hb : PD X b tb) (hc : PD X c tc)
    (hm : lastMarks [op, op'] [b, c] = false := by with_unfolding_all rfl) : PTD X (.Compare a [op, op'] [b, c] pos) (tdT (tdChain g g' ta tb tc)) :=
  pt_weak (pt_chain ho ho' ha hb hc hm) fun σ H Q h => chain_lift (Q := fun x H1 => ∃ k, x = .bl k ∧ Q k H1) (test_lift h)

/-! ### arguments, displays -/
def tdNil : TDA := fun _ O Q => Q [] O
def tdCons (ta : TD) (tr : TDA) : TDA := fun env O Q => ta env O fun x O1 => tr env O1 fun xs O2 => Q (x :: xs) O2
def tdStar (ta : TD) (tr : TDA) : TDA := fun env O Q => ta env O fun x O1 => match deref O1 x with
  | .tup ds => tr env O1 fun xs O2 => Q (ds ++ xs) O2
  | .lst ds => tr env O1 fun xs O2 => Q (ds ++ xs) O2
  | _ => False
theorem a_nil : PAD X [] tdNil := pa_weak pa_nil fun σ H Q ⟨F, O, env, R, P, re, h, k⟩ => k [] H F [] O (.refl P) .nil h
theorem a_cons (ha : PD X e ta) (hr : PAD X es tr) (hs : starEach (e :: es) X.env = (false, eval e X.env) :: starEach es X.env := by rfl) : PAD X (e :: es) (tdCons ta tr) := pa_weak (pa_cons ha hr hs) fun σ H Q ⟨F, O, env, R, P, re, h, k⟩ => by
  refine ⟨F, O, env, _, P, re, h, fun x H1 F1 dx O1 s1 rx h1 => ⟨F1, O1, env, _, s1.pre, re.mono s1.ff, h1, fun xs H2 F2 ds O2 s2 rs h2 => ?_⟩⟩
  exact k _ H2 F2 _ O2 (s1.trans s2) (.cons (rx.mono s2.ff) rs) h2
theorem a_star {p : Pos} (ha : PD X e ta) (hr : PAD X es tr) (hs : starEach (.Starred e p :: es) X.env = (true, eval e X.env) :: starEach es X.env := by rfl) : PAD X (.Starred e p :: es) (tdStar ta tr) := pa_weak (StX.pa_star ha hr hs) fun σ H Q ⟨F, O, env, R, P, re, h, k⟩ => by
  refine ⟨F, O, env, _, P, re, h, fun x H1 F1 dx O1 s1 rx h1 => ?_⟩
  cases hx : deref O1 dx <;> rw [hx] at h1 <;> first | exact False.elim h1 | skip
  · obtain ⟨p, xs, rfl, sx, lx⟩ := inv_tup rx hx
    refine ⟨p, xs, rfl, .inl (SqT.of (s1.pre.fh _ _ sx)), F1, O1, env, _, s1.pre, re.mono s1.ff, h1, fun ys H2 F2 ds O2 s2 rs h2 => ?_⟩
    exact k _ H2 F2 _ O2 (s1.trans s2) ((lx.mono s2.ff).append rs) h2
  · obtain ⟨p, xs, rfl, sx, lx⟩ := inv_lst s1.pre rx hx
    refine ⟨p, xs, rfl, .inr (SqL.of sx), F1, O1, env, _, s1.pre, re.mono s1.ff, h1, fun ys H2 F2 ds O2 s2 rs h2 => ?_⟩
    exact k _ H2 F2 _ O2 (s1.trans s2) ((lx.mono s2.ff).append rs) h2
def tdTup (tr : TDA) : TD := fun env O Q => tr env O fun ds O1 => needB (szB ds.length) (Q (.tup ds) O1)
def tdLst (tr : TDA) : TD := fun env O Q => tr env O fun ds O1 => needB (szB ds.length) (Q (.lst ds) O1)
/-- a list kept as an owned cell -/
def tdLstO (tr : TDA) : TD := fun env O Q => tr env O fun ds O1 => needB (szB ds.length) (∀ p, O1 p = none → Q (.ptr p) (updO O1 p (.lst ds)))
theorem d_tup {x1 : Nat} (h : PAD X es tr) : PD X (.Tuple es x1 pos) (tdTup tr) := pe_weak (pe_tup h) fun σ H Q ⟨F, O, env, R, P, re, h, k⟩ => by
  refine ⟨F, O, env, _, P, re, h, fun xs H1 F1 ds O1 s1 rs h1 => ?_⟩
  obtain ⟨g1, g2⟩ := needB_o h1
  refine ⟨by rw [← rs.length]; exact szB_ok g1, fun p hp => ?_⟩
  have z := Stp.tup s1.pre hp rs
  exact k _ _ _ _ _ (s1.trans z.1) z.2 g2
theorem d_lst (h : PAD X es tr) : PD X (.List es pos) (tdLst tr) := pe_weak (pe_lst h) fun σ H Q ⟨F, O, env, R, P, re, h, k⟩ => by
  refine ⟨F, O, env, _, P, re, h, fun xs H1 F1 ds O1 s1 rs h1 => ?_⟩
  obtain ⟨g1, g2⟩ := needB_o h1
  refine ⟨by rw [← rs.length]; exact szB_ok g1, fun p hp => ?_⟩
  have z := Stp.lst s1.pre hp rs
  exact k _ _ _ _ _ (s1.trans z.1) z.2 g2
theorem d_lstO (h : PAD X es tr) : PD X (.List es pos) (tdLstO tr) := pe_weak (pe_lst h) fun σ H Q ⟨F, O, env, R, P, re, h, k⟩ => by
  refine ⟨F, O, env, _, P, re, h, fun xs H1 F1 ds O1 s1 rs h1 => ?_⟩
  obtain ⟨g1, g2⟩ := needB_o h1
  refine ⟨by rw [← rs.length]; exact szB_ok g1, fun p hp => ?_⟩
  exact k _ _ _ _ _ (s1.trans (Stp.newList s1.pre hp rs)) (.ptr p) (g2 p (s1.pre.fresh hp).2)
/-- an owned list, handed on as data -/
def tdFz (ta : TD) : TD := fun env O Q => ta env O fun x O1 => match x with
  | .ptr a => match O1 a with
    | some (.lst ds) => Q (.lst ds) (offO O1 a)
    | _ => False
  | _ => False
theorem d_fz (h : PD X e ta) : PD X e (tdFz ta) := pe_weak h fun σ H Q ⟨F, O, env, R, P, re, h, k⟩ => by
  refine ⟨F, O, env, _, P, re, h, fun x H1 F1 dx O1 s1 rx h1 => ?_⟩
  cases rx <;> first | exact h1.elim | skip
  rename_i a
  cases ho : O1 a with
  | none => simp only [ho] at h1
  | some c =>
    cases c <;> simp only [ho] at h1
    obtain ⟨F2, s2, _, r2⟩ := s1.freeze ho
    exact k _ H1 F2 _ _ s2 r2 h1
/-- {} -/
def tdDictO : TD := fun _ O Q => ∀ p, O p = none → Q (.ptr p) (updO O p (.dK []))
def tdDictTO : TD := fun _ O Q => ∀ p, O p = none → Q (.ptr p) (updO O p (.dT []))
theorem d_dictO : PD X (.Dict [] [] pos) tdDictO := pd_pe pe_dnewK fun σ H Q F O env R P re h k p hp =>
  k _ _ _ _ _ (Stp.own (c := .dK []) P (P.fresh hp).1 (.inl hp) ⟨[], upd_same, .nil⟩) (.ptr p) (h p (P.fresh hp).2)
theorem d_dictTO : PD X (.Dict [] [] pos) tdDictTO := pd_pe pe_dnewT fun σ H Q F O env R P re h k p hp =>
  k _ _ _ _ _ (Stp.own (c := .dT []) P (P.fresh hp).1 (.inl hp) ⟨[], upd_same, .nil⟩) (.ptr p) (h p (P.fresh hp).2)

/-! ### subscripts -/
def ixD {α : Type} (ds : List α) : Int → Option α
  | .ofNat n => ds[n]?
  | .negSucc m => if m < ds.length then ds[ds.length - (m + 1)]? else none
theorem ixD_at {α : Type} {ds : List α} {i : Int} {d : α} (h : ixD ds i = some d) : ∃ j, ixN ds.length i = some j ∧ ds[j]? = some d := by
  cases i with
  | ofNat n =>
    have h' : ds[n]? = some d := h
    obtain ⟨hn, _⟩ := List.getElem?_eq_some_iff.mp h'
    refine ⟨n, ?_, h'⟩
    show ixN ds.length ((n : Nat) : Int) = some n
    unfold ixN
    rw [if_pos (Int.natCast_nonneg n), if_pos (by omega)]
    rfl
  | negSucc m =>
    replace h : (if m < ds.length then ds[ds.length - (m + 1)]? else none) = some d := h
    by_cases hm : m < ds.length
    · rw [if_pos hm] at h
      refine ⟨ds.length - (m + 1), ?_, h⟩
      unfold ixN
      rw [if_neg (by omega), if_pos (by omega)]
      congr 1
      omega
    · rw [if_neg hm] at h; cases h
theorem ix_at {K : PySem.W.Frag} {F : Hp} {ds : List D} {xs : List V} {i : Int} {d : D} (r : RepL K F ds xs) (h : ixD ds i = some d) : ∃ v, atI xs i = some v ∧ Rep K F d v := by
  obtain ⟨j, h1, h2⟩ := ixD_at h
  obtain ⟨v, h3, h4⟩ := r.get h2
  refine ⟨v, ?_, h4⟩
  unfold atI
  rw [← r.length, h1]
  exact h3
def ixDD (x y : D) (k : D → Prop) : Prop := match x, y with
  | .lst ds, .int i => match ixD ds i with
    | some d => k d
    | none => False
  | .tup ds, .int i => match ixD ds i with
    | some d => k d
    | none => False
  | .str x, .int i => needB (szB x.length) (match ixD x.cps.toList i with
    | some c => k (.str ⟨#[c]⟩)
    | none => False)
  | _, _ => False
def gIx : GOp := fun O x y k => ixDD (deref O x) y k
abbrev IxD (X : Cx) (g : GOp) : Prop := IxR X (liftR2 X.K g)
theorem i_ix : IxD X gIx := by
  intro value slice pins s σ H x y v u Q I rx ry ⟨F, O, dx, dy, R, P, ex, ey, g, k⟩ hs
  unfold gIx ixDD at g
  cases hx : deref O dx <;> cases dy <;> rw [hx] at g <;> first | exact False.elim g | skip
  · obtain rfl := inv_str ex hx
    cases ey
    obtain ⟨g1, g2⟩ := needB_o g
    rename_i z i
    cases hi : ixD z.cps.toList i with
    | none => simp only [hi] at g2
    | some c =>
      simp only [hi] at g2
      obtain ⟨j, h1, h2⟩ := ixD_at hi
      exact ix_str value slice pins s σ H _ _ v u Q I rx ry ⟨_, _, c, rfl, rfl, szB_ok g1, by unfold atI; rw [h1]; exact h2, k _ _ F _ (.refl P) (.str _) g2⟩ hs
  · obtain ⟨p, xs, rfl, sx, lx⟩ := inv_tup ex hx
    cases ey
    rename_i ds i
    cases hi : ixD ds i with
    | none => simp only [hi] at g
    | some d =>
      simp only [hi] at g
      obtain ⟨z, h1, h2⟩ := ix_at lx hi
      exact ix_tup value slice pins s σ H _ _ v u Q I rx ry ⟨_, _, _, _, rfl, rfl, SqT.of (P.fh _ _ sx), h1, k _ _ F _ (.refl P) h2 g⟩ hs
  · obtain ⟨p, xs, rfl, sx, lx⟩ := inv_lst P ex hx
    cases ey
    rename_i ds i
    cases hi : ixD ds i with
    | none => simp only [hi] at g
    | some d =>
      simp only [hi] at g
      obtain ⟨z, h1, h2⟩ := ix_at lx hi
      exact ix_list value slice pins s σ H _ _ v u Q I rx ry ⟨_, _, _, _, rfl, rfl, SqL.of sx, h1, k _ _ F _ (.refl P) h2 g⟩ hs
theorem d_ix (ha : PD X a ta) (hb : PD X b tb) (hs : PlainIx b := by intro _ _; rfl) : PD X (.Subscript a b pos) (tdOp gIx ta tb) := pe_weak (pe_ix i_ix ha hb hs) fun _ _ _ h => op_lift h

/-! ### slices -/
abbrev TDO := DEnv → DO → (Option Int → DO → Prop) → Prop
def liftO (K : PySem.W.Frag) (t : TDO) : TO := fun σ H Q => ∃ F O env R, Pre K F O H ∧ RepE K F σ env ∧ t env O R ∧ ∀ b H' F' O', Stp K F O H F' O' H' → R b O' → Q b H'
abbrev POD (X : Cx) (e : Option Expr) (t : TDO) : Prop := PO X e (liftO X.K t)
theorem po_weak {e : Option Expr} {t t' : TO} (h : PO X e t) (w : ∀ σ H Q, t' σ H Q → t σ H Q) : PO X e t' := ⟨fun pins s σ H Q I q => h.run pins s σ H Q I (w σ H Q q)⟩
def tdNo : TDO := fun _ O Q => Q none O
def tdPart (t : TD) : TDO := fun env O Q => t env O fun x O1 => match x with
  | .int i => Q (some i) O1
  | _ => False
theorem p_no : POD X none tdNo := po_weak po_none fun σ H Q ⟨F, O, env, R, P, re, h, k⟩ => k none H F O (.refl P) h
theorem p_at (h : PD X e ta) : POD X (some e) (tdPart ta) := po_weak (po_some h) fun σ H Q ⟨F, O, env, R, P, re, h, k⟩ => by
  refine ⟨F, O, env, _, P, re, h, fun x H1 F1 dx O1 s1 rx h1 => ?_⟩
  cases rx <;> first | exact h1.elim | skip
  exact ⟨_, rfl, k _ H1 F1 O1 s1 h1⟩
def cutD {α : Type} (xs : List α) (lo hi : Option Int) : List α := (xs.drop (HT.sIx xs.length 0 lo)).take (HT.sIx xs.length xs.length hi - HT.sIx xs.length 0 lo)
def slD (x : D) (lo hi : Option Int) (k : D → Prop) : Prop := match x with
  | .lst ds => k (.lst (cutD ds lo hi))
  | .tup ds => k (.tup (cutD ds lo hi))
  | .str z => needB (szB z.length) (k (.str (cutS z lo hi)))
  | _ => False
def tdSl (te : TD) (tl th : TDO) : TD := fun env O Q => te env O fun x O1 => tl env O1 fun l O2 => th env O2 fun u O3 => slD (deref O3 x) l u fun d => Q d O3
theorem cut_rep {K : PySem.W.Frag} {F : Hp} {ds : List D} {xs : List V} {lo hi : Option Int} (r : RepL K F ds xs) : RepL K F (cutD ds lo hi) (cutV xs lo hi) := by
  unfold cutD cutV
  rw [r.length]
  exact (r.drop _).take _
def rSlD (K : PySem.W.Frag) : V → Option Int → Option Int → Hp → VK → Prop := fun x lo hi H Q => ∃ F O dx R, Pre K F O H ∧ Rep K F dx x ∧ slD (deref O dx) lo hi R ∧ ∀ v H' F' d, Stp K F O H F' O H' → Rep K F' d v → R d → Q v H'
theorem s_sl : SlR X (rSlD X.K) := by
  intro pins s σ H x v vl vu lo hi sl Q I rx hs pl pu ⟨F, O, dx, R, P, ex, g, k⟩
  cases hx : deref O dx <;> rw [hx] at g <;> first | exact False.elim g | skip
  · obtain rfl := inv_str ex hx
    obtain ⟨g1, g2⟩ := needB_o g
    exact sl_str pins s σ H _ v vl vu lo hi sl Q I rx hs pl pu ⟨_, rfl, szB_ok g1, k _ _ F _ (.refl P) (.str _) g2⟩
  · obtain ⟨p, xs, rfl, sx, lx⟩ := inv_tup ex hx
    refine sl_tupA pins s σ H _ v vl vu lo hi sl Q I rx hs pl pu ⟨_, _, rfl, SqT.of (P.fh _ _ sx), fun ⟨e1, e2⟩ => ?_, fun _ p hp => ?_⟩
    · refine k _ _ F _ (.refl P) (.tup sx ?_) g
      unfold cutD
      rw [lx.length, e1, e2, List.drop_zero, Nat.sub_zero, ← lx.length, List.take_length]
      exact lx
    · have z := Stp.tup P hp (cut_rep (lo := lo) (hi := hi) lx)
      exact k _ _ _ _ z.1 z.2 g
  · obtain ⟨p, xs, rfl, sx, lx⟩ := inv_lst P ex hx
    refine sl_list pins s σ H _ v vl vu lo hi sl Q I rx hs pl pu ⟨_, _, rfl, SqL.of sx, fun p hp => ?_⟩
    have z := Stp.lst P hp (cut_rep (lo := lo) (hi := hi) lx)
    exact k _ _ _ _ z.1 z.2 g
theorem d_sl {lo hi : Option Expr} {p2 : Pos} {tl th : TDO} (he : PD X e ta) (hl : POD X lo tl) (hh : POD X hi th) : PD X (.Subscript e (.Slice lo hi none p2) pos) (tdSl ta tl th) := pe_weak (pe_slice s_sl he hl hh) fun σ H Q ⟨F, O, env, R, P, re, h, k⟩ => by
  refine ⟨F, O, env, _, P, re, h, fun x H1 F1 dx O1 s1 rx h1 => ⟨F1, O1, env, _, s1.pre, re.mono s1.ff, h1, fun l H2 F2 O2 s2 h2 => ⟨F2, O2, env, _, s2.pre, re.mono (s1.ff.trans s2.ff), h2, fun u H3 F3 O3 s3 h3 => ?_⟩⟩⟩
  exact ⟨F3, O3, dx, _, s3.pre, rx.mono (s2.ff.trans s3.ff), h3, fun v H4 F4 d s4 rv hr => k v H4 F4 d O3 (s1.trans (s2.trans (s3.trans s4))) rv hr⟩

/-! ### calls -/
abbrev GC := List D → DO → (D → DO → Prop) → Prop
def liftC (K : PySem.W.Frag) (g : GC) : List V → Hp → VK → Prop := fun vs H Q => ∃ F O ds R, Pre K F O H ∧ RepL K F ds vs ∧ g ds O R ∧ ∀ v H' F' d O', Stp K F O H F' O' H' → Rep K F' d v → R d O' → Q v H'
abbrev CallD (X : Cx) (f : Value) (g : GC) : Prop := CallR X f (liftC X.K g)
def tdCall (g : GC) (tr : TDA) : TD := fun env O Q => tr env O fun ds O1 => g ds O1 Q
theorem call_lift {K : PySem.W.Frag} {g : GC} {σ : L2.St} {H : Hp} {Q : VK} (h : liftE K (tdCall g tr) σ H Q) : liftA K tr σ H fun vs H1 => liftC K g vs H1 Q := by
  obtain ⟨F, O, env, R, P, re, h, k⟩ := h
  exact ⟨F, O, env, _, P, re, h, fun vs H1 F1 ds O1 s1 rs h1 => ⟨F1, O1, ds, R, s1.pre, rs, h1, fun v H2 F2 d O2 s2 rv hr => k v H2 F2 d O2 (s1.trans s2) rv hr⟩⟩
theorem d_callB {x : Str} {p : Pos} {id : String} {g : GC} (hc : CallD X (.builtin id) g) (hm : X.mg x = none) (hv : bootBuiltins x = some (.builtin id)) (ha : PAD X (e :: es) tr) (hg : Gl X x := by rfl) (hn : x ≠ "__name__" := by decide) (hdb : (x == ("__debug__" : Str)) = false := by decide)
    (he : starEach (e :: es) X.env = (false, eval e X.env) :: starEach es X.env := by rfl) (hpl : (backTo pos (starEach es X.env)).any (·.1) = false := by rfl) : PD X (.Call (.Name x p) (e :: es) [] pos) (tdCall g tr) :=
  pe_weak (pe_callB hc hg hm hv ha hn hdb he hpl) fun _ _ _ h => call_lift h
theorem d_callTy {x : Str} {p : Pos} {T : String} {g : GC} (hc : CallD X (.type T) g) (hm : X.mg x = none) (hv : bootBuiltins x = some (.type T)) (ha : PAD X (e :: es) tr) (hg : Gl X x := by rfl) (hn : x ≠ "__name__" := by decide) (hdb : (x == ("__debug__" : Str)) = false := by decide)
    (he : starEach (e :: es) X.env = (false, eval e X.env) :: starEach es X.env := by rfl) (hpl : (backTo pos (starEach es X.env)).any (·.1) = false := by rfl) : PD X (.Call (.Name x p) (e :: es) [] pos) (tdCall g tr) :=
  pe_weak (pe_callTy hc hg hm hv ha hn hdb he hpl) fun _ _ _ h => call_lift h
/-- a def's promise over data -/
def spD (K : PySem.W.Frag) (g : GC) : Sp := fun vs H Q _ => liftC K g vs H Q
/-- the module's def x keeps the promise g, by at most level k -/
structure Def (P : Program) (w : World) (K : PySem.W.Frag) (mg : Str → Option Value) (base : Heap) (k : Nat) (x : Str) (ps : List Str) (g : GC) : Prop where
  ex : ∃ f fd, mg x = some (.ref f) ∧ PySem.W.keepIn K (.ref f) = true ∧ Binds K fd ps [] ∧ FnOk P w K mg base CX0 k f fd ps (spD K g)
theorem d_call {k j : Nat} {x : Str} {ps : List Str} {p : Pos} {g : GC} (F : Def X.prog X.w X.K X.mg X.base k x ps g) (hr : Room j X.A) (hk : Nat.ble k j = true) (ha : PAD X (e :: es) tr) (hg : Gl X x := by rfl)
    (hdb : (x == ("__debug__" : Str)) = false := by decide) (he : starEach (e :: es) X.env = (false, eval e X.env) :: starEach es X.env := by rfl) (hpl : (backTo pos (starEach es X.env)).any (·.1) = false := by rfl) :
    PD X (.Call (.Name x p) (e :: es) [] pos) (tdCall g tr) := by
  obtain ⟨f, fd, hm, hkp, hb, F⟩ := F.ex
  exact pe_weak (pe_call (F.mono (Nat.le_of_ble_eq_true hk)) hr hg hm hkp hb .nil pass0 ha hdb he hpl) fun σ H Q h => by
    have z := call_lift h
    show liftA X.K tr σ H fun vs H1 => spD X.K g (vs ++ []) H1 Q E0
    simp only [List.append_nil]
    exact z
theorem d_call0 {k j : Nat} {x : Str} {p : Pos} {g : GC} (F : Def X.prog X.w X.K X.mg X.base k x [] g) (hr : Room j X.A) (hk : Nat.ble k j = true) (hg : Gl X x := by rfl)
    (hdb : (x == ("__debug__" : Str)) = false := by decide) : PD X (.Call (.Name x p) [] [] pos) (tdCall g tdNil) := by
  obtain ⟨f, fd, hm, hkp, hb, F⟩ := F.ex
  exact pe_weak (pe_call0 (F.mono (Nat.le_of_ble_eq_true hk)) hr hg hm hkp hb .nil pass0 hdb) fun σ H Q ⟨F, O, env, R, P, re, h, k⟩ => ⟨F, O, [], R, P, .nil, h, k⟩
end
end Dl

set_option maxRecDepth 100000
set_option maxHeartbeats 2000000
/-! THE DATA LAYER, 4: what is walked, targets, statements, list comprehensions. -/
namespace Dl
open PySem PySem.Spec PyProof.Rows L2

/-! ### what is walked -/
abbrev TID := DEnv → DO → (List D → DO → Prop) → Prop
/-- the iterator J yields its, one after another -/
structure Walks (K : PySem.W.Frag) (J : It) (F : Hp) (its : List D) : Prop where
  go : ∀ i H, i < its.length → Same F H → J.go i H
  stop : ∀ i H, its.length ≤ i → Same F H → J.stop i H
  yld : ∀ i H v H' d F' O, Same F F' → Pre K F' O H → J.yld i H v H' → its[i]? = some d → ∃ F2, Stp K F' O H F2 O H' ∧ Rep K F2 d v
def liftI (K : PySem.W.Frag) (ti : TID) : TI := fun σ H R => ∃ F O env S, Pre K F O H ∧ RepE K F σ env ∧ ti env O S ∧ ∀ J H1 F1 O1 its, Stp K F O H F1 O1 H1 → Walks K J F1 its → its.length ≤ sizeLine → S its O1 → R J H1
abbrev PID (X : Cx) (tg iter : Expr) (ti : TID) : Prop := PI X tg iter (liftI X.K ti)
def Szd (H : Hp) : Prop := ∀ a xs, (H a = some (.lst xs) ∨ H a = some (.tup xs)) → xs.length ≤ sizeLine
theorem szd_of {P : Program} {w : World} {H : Hp} {h : Heap} (ok : HOk P w H h) : Szd H := fun a xs e => by
  rcases e with e | e
  · exact (ok a _ e).1
  · exact (ok a _ e).1
theorem pi_sized {X : Cx} {tg iter : Expr} {wi : TI} (h : PI X tg iter wi) : PI X tg iter (fun σ H R => wi σ H fun J H1 => Szd H1 → R J H1) := ⟨fun pins s σ H R I q => by
  refine thn (h.run pins s σ H _ I q) fun v s1 h1 => thn h1 fun itv s2 ⟨it, fp, tn, J, H', e, I', T, st, f, r⟩ => ?_
  exact ⟨it, fp, tn, J, H', e, I', T, st, f, r (szd_of I'.hok)⟩⟩
theorem pi_weak {X : Cx} {tg iter : Expr} {wi wi' : TI} (h : PI X tg iter wi) (w : ∀ σ H R, wi' σ H R → wi σ H R) : PI X tg iter wi' := ⟨fun pins s σ H R I q => h.run pins s σ H R I (w σ H R q)⟩
section
variable {K : PySem.W.Frag} {F : Hp} {a b : Addr} {xs ys : List V} {ds es : List D}
theorem walks_list (h : F a = some (.lst xs)) (r : RepL K F ds xs) : Walks K (Itl K a) F ds where
  go := fun i H hi e => by
    have hx : i < xs.length := by rw [← r.length]; exact hi
    exact ⟨xs, xs[i], SqL.of (e _ _ h), by simp [hx]⟩
  stop := fun i H hi e => ⟨xs, SqL.of (e _ _ h), by rw [← r.length]; exact hi⟩
  yld := fun i H v H' d F' O e P ⟨e1, y⟩ hd => by
    subst e1
    obtain ⟨u, hu, ru⟩ := r.get hd
    have q := y xs (SqL.of (P.fh _ _ (e _ _ h)))
    rw [hu] at q; cases q
    exact ⟨F', .refl P, ru.mono e⟩
theorem walks_tup (h : SqT K F a xs) (r : RepL K F ds xs) : Walks K (Itt K a) F ds where
  go := fun i H hi e => by
    have hx : i < xs.length := by rw [← r.length]; exact hi
    exact ⟨xs, xs[i], sqt_mono e h, by simp [hx]⟩
  stop := fun i H hi e => ⟨xs, sqt_mono e h, by rw [← r.length]; exact hi⟩
  yld := fun i H v H' d F' O e P ⟨e1, y⟩ hd => by
    subst e1
    obtain ⟨u, hu, ru⟩ := r.get hd
    have q := y xs (sqt_mono P.fh (sqt_mono e h))
    rw [hu] at q; cases q
    exact ⟨F', .refl P, ru.mono e⟩
def rngD (lo : Int) (n : Nat) : List D := (List.range n).map fun (i : Nat) => D.int (lo + (i : Int))
theorem rngD_length (lo : Int) (n : Nat) : (rngD lo n).length = n := by unfold rngD; rw [List.length_map, List.length_range]
theorem rngD_get {lo : Int} {n i : Nat} {d : D} (h : (rngD lo n)[i]? = some d) : d = .int (lo + (i : Int)) := by
  unfold rngD at h
  rw [List.getElem?_map] at h
  obtain ⟨j, e, rfl⟩ := Option.map_eq_some_iff.mp h
  obtain ⟨hi, e2⟩ := List.getElem?_eq_some_iff.mp e
  rw [List.getElem_range] at e2
  rw [e2]
theorem walks_range (lo : Int) (n : Nat) : Walks K (Itr lo n) F (rngD lo n) where
  go := fun i H hi e => by rw [rngD_length] at hi; exact hi
  stop := fun i H hi e => by rw [rngD_length] at hi; exact hi
  yld := fun i H v H' d F' O e P ⟨e1, e2⟩ hd => by
    subst e1; subst e2
    rw [rngD_get hd]
    exact ⟨F', .refl P, .int _⟩
def zipD (ds es : List D) : List D := List.zipWith (fun x y => .tup [x, y]) ds es
theorem zipD_length (ds es : List D) : (zipD ds es).length = min ds.length es.length := List.length_zipWith
theorem zipD_get {i : Nat} {d : D} (h : (zipD ds es)[i]? = some d) : ∃ x y, ds[i]? = some x ∧ es[i]? = some y ∧ d = .tup [x, y] := by
  unfold zipD at h
  rw [List.getElem?_zipWith] at h
  cases e1 : ds[i]? with
  | none => rw [e1] at h; cases h
  | some x =>
    cases e2 : es[i]? with
    | none => rw [e1, e2] at h; cases h
    | some y =>
      rw [e1, e2] at h
      exact ⟨x, y, rfl, rfl, (Option.some.inj h).symm⟩
theorem walks_zip (h : F a = some (.lst xs)) (r : RepL K F ds xs) (h' : F b = some (.lst ys)) (r' : RepL K F es ys) : Walks K (Itz K a b) F (zipD ds es) where
  go := fun i H hi e => by
    rw [zipD_length] at hi
    have hx : i < xs.length := by rw [← r.length]; omega
    have hy : i < ys.length := by rw [← r'.length]; omega
    exact ⟨xs, ys, xs[i], ys[i], SqL.of (e _ _ h), SqL.of (e _ _ h'), by simp [hx], by simp [hy]⟩
  stop := fun i H hi e => by
    rw [zipD_length] at hi
    refine ⟨xs, ys, SqL.of (e _ _ h), SqL.of (e _ _ h'), ?_⟩
    rw [← r.length, ← r'.length]
    omega
  yld := fun i H v H' d F' O e P ⟨T, x, y, ev, hT, eh, y1, y2⟩ hd => by
    subst ev; subst eh
    obtain ⟨dx, dy, hx, hy, rfl⟩ := zipD_get hd
    obtain ⟨u, hu, ru⟩ := r.get hx
    obtain ⟨u', hu', ru'⟩ := r'.get hy
    have q := y1 xs (SqL.of (P.fh _ _ (e _ _ h)))
    rw [hu] at q; cases q
    have q := y2 ys (SqL.of (P.fh _ _ (e _ _ h')))
    rw [hu'] at q; cases q
    have z := Stp.tup P hT (RepL.cons (ru.mono e) (RepL.cons (ru'.mono e) RepL.nil))
    exact ⟨_, z.1, z.2⟩
theorem walks_zipT (h : SqT K F a xs) (r : RepL K F ds xs) (h' : SqT K F b ys) (r' : RepL K F es ys) : Walks K (RZ.ItzT K a b) F (zipD ds es) where
  go := fun i H hi e => by
    rw [zipD_length] at hi
    have hx : i < xs.length := by rw [← r.length]; omega
    have hy : i < ys.length := by rw [← r'.length]; omega
    exact ⟨xs, ys, xs[i], ys[i], sqt_mono e h, sqt_mono e h', by simp [hx], by simp [hy]⟩
  stop := fun i H hi e => by
    rw [zipD_length] at hi
    refine ⟨xs, ys, sqt_mono e h, sqt_mono e h', ?_⟩
    rw [← r.length, ← r'.length]
    omega
  yld := fun i H v H' d F' O e P ⟨T, x, y, ev, hT, eh, y1, y2⟩ hd => by
    subst ev; subst eh
    obtain ⟨dx, dy, hx, hy, rfl⟩ := zipD_get hd
    obtain ⟨u, hu, ru⟩ := r.get hx
    obtain ⟨u', hu', ru'⟩ := r'.get hy
    have q := y1 xs (sqt_mono P.fh (sqt_mono e h))
    rw [hu] at q; cases q
    have q := y2 ys (sqt_mono P.fh (sqt_mono e h'))
    rw [hu'] at q; cases q
    have z := Stp.tup P hT (RepL.cons (ru.mono e) (RepL.cons (ru'.mono e) RepL.nil))
    exact ⟨_, z.1, z.2⟩
end
section
variable {X : Cx} {tg e l : Expr} {ta : TD} {tr : TDA} {pos p : Pos}
def tiSeq (ta : TD) : TID := fun env O S => ta env O fun x O1 => match x with
  | .lst ds => S ds O1
  | .tup ds => S ds O1
  | _ => False
theorem i_seq (hl : PD X l ta) : PID X tg l (tiSeq ta) := by
  refine ⟨fun pins s σ H R I ⟨F, O, env, S, P, re, h, k⟩ => ?_⟩
  refine thn (hl.run pins s σ H (fun x H1 => ∃ F1 O1 d, Stp X.K F O H F1 O1 H1 ∧ Rep X.K F1 d x ∧ match d with
    | .lst ds => S ds O1
    | .tup ds => S ds O1
    | _ => False) I ⟨F, O, env, _, P, re, h, fun v H1 F1 d O1 s1 r1 h1 => ⟨F1, O1, d, s1, r1, h1⟩⟩) fun v s1 ⟨x, H1, I1, r1, F1, O1, d, st, rd, q⟩ => ?_
  cases rd with
  | @tup a xs ds hx lx =>
    cases r1
    have hq := SqT.of (K := X.K) (st.pre.fh _ _ hx)
    obtain ⟨its, rv, p, hz⟩ := I1.tuple hq
    refine wpAny_pyIter_tuple (show s1.heap.IsTuple a its.toArray from p) ?_
    refine ⟨s1.heap.objs.size, [s1.heap.objs.size], _, _, H1, rfl, I1.kept (t' := s1.toks) fun b o e => Heap.get?_push_of_some _ e, turn_tuple a _, ⟨_, Heap.get?_push_size _ rfl, rfl, rfl⟩, fun b hb => ?_, k _ _ F1 O1 ds st (walks_tup (SqT.of hx) lx) (by rw [lx.length]; exact hz) q⟩
    have e : b = s1.heap.objs.size := by simpa using hb
    subst e
    exact I1.fpOk (Nat.le_refl _) (I1.hok.fresh (Nat.le_refl _))
  | @lst a xs ds hx lx =>
    cases r1
    have hq := SqL.of (K := X.K) (st.pre.fh _ _ hx)
    obtain ⟨its, rv, p, hz⟩ := I1.list hq
    refine wpAny_pyIter_list p.isList ?_
    refine ⟨s1.heap.objs.size, [s1.heap.objs.size], _, _, H1, rfl, I1.kept (t' := s1.toks) fun b o e => Heap.get?_push_of_some _ e, turn_list a _, ⟨_, Heap.get?_push_size _ rfl, rfl, rfl⟩, fun b hb => ?_, k _ _ F1 O1 ds st (walks_list hx lx) (by rw [lx.length]; exact hz) q⟩
    have e : b = s1.heap.objs.size := by simpa using hb
    subst e
    exact I1.fpOk (Nat.le_refl _) (I1.hok.fresh (Nat.le_refl _))
  | _ => exact q.elim
def rngOk (n : Int) : Bool := decide (-1000000 ≤ n) && szB n.toNat
theorem rngOk_ok {n : Int} (h : rngOk n = true) : (-(2 ^ 62) ≤ n ∧ n < 2 ^ 62) ∧ n.toNat ≤ sizeLine := by
  obtain ⟨h1, h2⟩ := Bool.and_eq_true_iff.mp h
  have h3 := of_decide_eq_true h1
  have h4 := szB_ok h2
  have h5 := sizeLine_eq
  omega
def tiRng (tr : TDA) : TID := fun env O S => tr env O fun ds O1 => match ds with
  | [.int n] => needB (rngOk n) (S (rngD 0 n.toNat) O1)
  | _ => False
theorem i_rng {a : Expr} (hm : X.mg "range" = none) (ha : PAD X [a] tr) (hg : Gl X "range" := by rfl) (hs : starEach [a] X.env = [(false, eval a X.env)] := by rfl) : PID X tg (.Call (.Name "range" p) [a] [] pos) (tiRng tr) :=
  pi_weak (pi_range1 hg hm ha hs) fun σ H R ⟨F, O, env, S, P, re, h, k⟩ => by
    refine ⟨F, O, env, _, P, re, h, fun vs H1 F1 ds O1 s1 rs h1 => ?_⟩
    match ds, rs, h1 with
    | [.int n], .cons (.int _) .nil, h1 =>
      obtain ⟨g1, g2⟩ := needB_o h1
      obtain ⟨⟨z1, z2⟩, z3⟩ := rngOk_ok g1
      exact ⟨n, rfl, z1, z2, k _ _ F1 O1 _ s1 (walks_range 0 _) (by rw [rngD_length]; exact z3) g2⟩
def tiZip (tr : TDA) : TID := fun env O S => tr env O fun ds O1 => match ds with
  | [.tup xs, .tup ys] => S (zipD xs ys) O1
  | [.lst xs, .lst ys] => S (zipD xs ys) O1
  | _ => False
theorem i_zip {e2 : Expr} {elts : List Expr} {kk : Nat} {tpos : Pos} (hm : X.mg "zip" = none) (ha : PAD X [e, e2] tr) (hg : Gl X "zip" := by rfl) (hs : starEach [e, e2] X.env = (false, eval e X.env) :: starEach [e2] X.env := by rfl) (hpl : (backTo pos (starEach [e2] X.env)).any (·.1) = false := by rfl) :
    PID X (.Tuple elts kk tpos) (.Call (.Name "zip" p) [e, e2] [] pos) (tiZip tr) :=
  pi_weak (pi_sized (RZ.pi_zipA hg hm ha hs hpl)) fun σ H R ⟨F, O, env, S, P, re, h, k⟩ => by
    refine ⟨F, O, env, _, P, re, h, fun vs H1 F1 ds O1 s1 rs h1 => ?_⟩
    match ds, rs, h1 with
    | [.tup xs, .tup ys], .cons (.tup hx lx) (.cons (.tup hy ly) .nil), h1 =>
      exact ⟨_, _, _, _, rfl, .inr ⟨SqT.of (s1.pre.fh _ _ hx), SqT.of (s1.pre.fh _ _ hy), fun z => k _ _ F1 O1 _ s1 (walks_zipT (SqT.of hx) lx (SqT.of hy) ly) (by
        have z1 := z _ _ (.inr (s1.pre.fh _ _ hx))
        rw [zipD_length, lx.length]; omega) h1⟩⟩
    | [.lst xs, .lst ys], .cons (.lst hx lx) (.cons (.lst hy ly) .nil), h1 =>
      exact ⟨_, _, _, _, rfl, .inl ⟨SqL.of (s1.pre.fh _ _ hx), SqL.of (s1.pre.fh _ _ hy), fun z => k _ _ F1 O1 _ s1 (walks_zip hx lx hy ly) (by
        have z1 := z _ _ (.inl (s1.pre.fh _ _ hx))
        rw [zipD_length, lx.length]; omega) h1⟩⟩
def tiStr (ta : TD) : TID := fun env O S => ta env O fun x O1 => match x with
  | .str x => needB (szB x.length) (S (x.cps.toList.map fun c => .str ⟨#[c]⟩) O1)
  | _ => False
theorem i_str (he : PD X e ta) : PID X tg e (tiStr ta) := pi_weak (pi_str he) fun σ H R ⟨F, O, env, S, P, re, h, k⟩ => by
  refine ⟨F, O, env, _, P, re, h, fun v H1 F1 d O1 s1 rd h1 => ?_⟩
  cases rd <;> first | exact h1.elim | skip
  rename_i x
  obtain ⟨g1, g2⟩ := needB_o h1
  refine ⟨x, rfl, k _ _ F1 O1 _ s1 ⟨fun i H hi e => ?_, fun i H hi e => ?_, fun i H v H' d F' O e P ⟨e1, c, hc, ev⟩ hd => ?_⟩ (by rw [List.length_map]; exact szB_ok g1) g2⟩
  · rw [List.length_map, Array.length_toList] at hi; exact hi
  · rw [List.length_map, Array.length_toList] at hi; exact hi
  · subst e1; subst ev
    rw [List.getElem?_map, Array.getElem?_toList, hc] at hd
    cases hd
    exact ⟨F', .refl P, .str _⟩
end

/-! ### targets -/
abbrev GD := D → DEnv → DO → (DEnv → DO → Prop) → Prop
abbrev GDs := List D → DEnv → DO → (DEnv → DO → Prop) → Prop
/-- σ' differs from σ at most at the places is -/
def Only' (is : List Nat) (σ σ' : L2.St) : Prop := ∀ vs : List Nat, (∀ i ∈ is, i ∈ vs) → wipe σ' vs = wipe σ vs
def liftG (K : PySem.W.Frag) (is : List Nat) (g : GD) : TG := fun v σ H Q => ∃ F O env d S, Pre K F O H ∧ RepE K F σ env ∧ Rep K F d v ∧ g d env O S ∧ ∀ σ' H' F' O' env', Stp K F O H F' O' H' → RepE K F' σ' env' → Only' is σ σ' → S env' O' → Q σ' H'
def liftGs (K : PySem.W.Frag) (is : List Nat) (g : GDs) : TGs := fun vs σ H Q => ∃ F O env ds S, Pre K F O H ∧ RepE K F σ env ∧ RepL K F ds vs ∧ g ds env O S ∧ ∀ σ' H' F' O' env', Stp K F O H F' O' H' → RepE K F' σ' env' → Only' is σ σ' → S env' O' → Q σ' H'
abbrev PGD (X : Cx) (is : List Nat) (tg : Expr) (g : GD) : Prop := PG X tg (liftG X.K is g)
abbrev PGDs (X : Cx) (is : List Nat) (ts : List Expr) (g : GDs) : Prop := PGs X ts (liftGs X.K is g)
theorem pg_weak {X : Cx} {tg : Expr} {g g' : TG} (h : PG X tg g) (w : ∀ v σ H Q, g' v σ H Q → g v σ H Q) : PG X tg g' := ⟨fun pins s σ H v u Q I r q => h.run pins s σ H v u Q I r (w v σ H Q q)⟩
theorem pgs_weak {X : Cx} {ts : List Expr} {g g' : TGs} (h : PGs X ts g) (w : ∀ v σ H Q, g' v σ H Q → g v σ H Q) : PGs X ts g' := ⟨fun pins s σ H v u Q I r q => h.run pins s σ H v u Q I r (w v σ H Q q)⟩
theorem wipe_set_in {σ : L2.St} {i : Nat} {x : Option V} : ∀ {vs : List Nat}, i ∈ vs → wipe (σ.set i x) vs = wipe σ vs
  | [], h => by cases h
  | v :: vs, h => by
    show (wipe (σ.set i x) vs).set v none = (wipe σ vs).set v none
    by_cases hi : i ∈ vs
    · rw [wipe_set_in hi]
    · have e : i = v := by
        rcases List.mem_cons.mp h with e | e
        · exact e
        · exact absurd e hi
      subst e
      have key : ∀ {ws : List Nat}, i ∉ ws → wipe (σ.set i x) ws = (wipe σ ws).set i x := by
        intro ws
        induction ws with
        | nil => intro _; rfl
        | cons w ws ih =>
          intro hn
          have n1 : i ≠ w := fun z => hn (by rw [z]; exact List.mem_cons_self)
          show (wipe (σ.set i x) ws).set w none = ((wipe σ ws).set w none).set i x
          rw [ih (fun z => hn (List.mem_cons_of_mem _ z)), List.set_comm _ _ n1]
      rw [key hi, List.set_set]
theorem wipe_set_none {σ : L2.St} {v : Nat} : ∀ {vs : List Nat}, v ∈ vs → (wipe σ vs).set v none = wipe σ vs
  | [], h => by cases h
  | u :: vs, h => by
    show ((wipe σ vs).set u none).set v none = (wipe σ vs).set u none
    by_cases hv : v = u
    · subst hv; rw [List.set_set]
    · have hm : v ∈ vs := by
        rcases List.mem_cons.mp h with e | e
        · exact absurd e hv
        · exact e
      rw [List.set_comm _ _ (Ne.symm hv), wipe_set_none hm]
theorem wipe_wipe {σ : L2.St} (vs : List Nat) : wipe (wipe σ vs) vs = wipe σ vs := by
  have key : ∀ {ws : List Nat} {τ : L2.St}, (∀ v ∈ ws, τ.set v none = τ) → wipe τ ws = τ := by
    intro ws
    induction ws with
    | nil => intro τ _; rfl
    | cons w ws ih =>
      intro τ h
      show (wipe τ ws).set w none = τ
      rw [ih (fun v hv => h v (List.mem_cons_of_mem _ hv)), h w List.mem_cons_self]
  exact key fun v hv => wipe_set_none hv
theorem Only'.trans {is js : List Nat} {σ σ1 σ2 : L2.St} (a : Only' is σ σ1) (b : Only' js σ1 σ2) : Only' (is ++ js) σ σ2 := fun vs h =>
  (b vs fun i hi => h i (List.mem_append_right _ hi)).trans (a vs fun i hi => h i (List.mem_append_left _ hi))
section
variable {X : Cx} {pos : Pos}
def gdN (i : Nat) : GD := fun d env O S => S (stE env i d) O
theorem g_name {x : Str} (i : Nat) (hN : X.N.Nodup) (hi : X.N[i]? = some x := by rfl) (hx : Loc X.env.scope x := by first | exact Or.inl rfl | exact Or.inr rfl) (hf : X.fn x = true ∨ X.env.scope.names.lookup x = some .local := by first | exact .inl rfl | exact .inr rfl | assumption) : PGD X [i] (.Name x pos) (gdN i) :=
  pg_weak (pg_name hN hi hx hf) fun v σ H Q ⟨F, O, env, d, S, P, re, rd, h, k⟩ =>
    k _ H F O _ (.refl P) (re.set rd i) (fun vs hv => wipe_set_in (hv i List.mem_cons_self)) h
def gdNil : GDs := fun ds env O S => match ds with
  | [] => S env O
  | _ => False
def gdCons (g : GD) (gs : GDs) : GDs := fun ds env O S => match ds with
  | d :: r => g d env O fun env' O' => gs r env' O' S
  | [] => False
theorem gs_nil : PGDs X [] [] gdNil := pgs_weak pgs_nil fun vs σ H Q ⟨F, O, env, ds, S, P, re, rd, h, k⟩ => by
  cases rd with
  | nil => exact ⟨rfl, k _ H F O _ (.refl P) re (fun _ _ => rfl) h⟩
  | cons _ _ => exact h.elim
theorem gs_cons {e : Expr} {es : List Expr} {g : GD} {gs : GDs} {is js : List Nat} (h1 : PGD X is e g) (h2 : PGDs X js es gs) (hs : (assignEach (e :: es) X.env).map (·.2) = assign e X.env :: (assignEach es X.env).map (·.2) := by rfl) : PGDs X (is ++ js) (e :: es) (gdCons g gs) :=
  pgs_weak (pgs_cons h1 h2 hs) fun vs σ H Q ⟨F, O, env, ds, S, P, re, rd, h, k⟩ => by
    cases rd with
    | nil => exact h.elim
    | cons r rr =>
      refine ⟨_, _, rfl, F, O, env, _, _, P, re, r, h, fun σ1 H1 F1 O1 env1 s1 re1 on1 h1 => ?_⟩
      exact ⟨F1, O1, env1, _, S, s1.pre, re1, rr.mono s1.ff, h1, fun σ2 H2 F2 O2 env2 s2 re2 on2 h2 => k σ2 H2 F2 O2 env2 (s1.trans s2) re2 (on1.trans on2) h2⟩
def gdT (n : Nat) (gs : GDs) : GD := fun d env O S => match d with
  | .tup ds => needB (Nat.beq ds.length n) (gs ds env O S)
  | _ => False
theorem g_tup {es : List Expr} {k n : Nat} {gs : GDs} {is : List Nat} (hc : X.calm = true) (h : PGDs X is es gs) (hn : (assignEach es X.env).length = n := by rfl) (hst : (assignEach es X.env).findIdx? (·.1) = none := by rfl) : PGD X is (.Tuple es k pos) (gdT n gs) :=
  pg_weak (pg_tup hc h hn hst) fun v σ H Q ⟨F, O, env, d, S, P, re, rd, h, k⟩ => by
    cases rd with
    | @tup a xs ds hx lx =>
    obtain ⟨g1, g2⟩ := needB_o h
    exact ⟨a, xs, rfl, SqT.of (P.fh _ _ hx), by rw [← lx.length]; exact Nat.eq_of_beq_eq_true g1, F, O, env, ds, S, P, re, lx, g2, k⟩
    | _ => exact h.elim
end

/-! ### statements -/
structure DEnds where
  nx : DEnv → DO → Prop
  rt : D → DO → Prop
  bk : DEnv → DO → Prop := fun _ _ => False
  ct : DEnv → DO → Prop := fun _ _ => False
abbrev TDS := DEnds → DEnv → DO → Prop
structure EOk (K : PySem.W.Frag) (F : Hp) (O : DO) (H : Hp) (DE : DEnds) (E : Ends) : Prop where
  nx : ∀ σ' H' F' O' env', Stp K F O H F' O' H' → RepE K F' σ' env' → DE.nx env' O' → E.nx σ' H'
  rt : ∀ v H' F' d O', Stp K F O H F' O' H' → Rep K F' d v → DE.rt d O' → E.rt v H'
  bk : ∀ σ' H' F' O' env', Stp K F O H F' O' H' → RepE K F' σ' env' → DE.bk env' O' → E.bk σ' H'
  ct : ∀ σ' H' F' O' env', Stp K F O H F' O' H' → RepE K F' σ' env' → DE.ct env' O' → E.ct σ' H'
theorem EOk.step {K : PySem.W.Frag} {F F1 : Hp} {O O1 : DO} {H H1 : Hp} {DE : DEnds} {E : Ends} (e : EOk K F O H DE E) (s : Stp K F O H F1 O1 H1) : EOk K F1 O1 H1 DE E :=
  ⟨fun σ' H' F' O' env' s' => e.nx σ' H' F' O' env' (s.trans s'), fun v H' F' d O' s' => e.rt v H' F' d O' (s.trans s'), fun σ' H' F' O' env' s' => e.bk σ' H' F' O' env' (s.trans s'), fun σ' H' F' O' env' s' => e.ct σ' H' F' O' env' (s.trans s')⟩
def liftS (K : PySem.W.Frag) (t : TDS) : TS := fun E σ H => ∃ F O env DE, Pre K F O H ∧ RepE K F σ env ∧ t DE env O ∧ EOk K F O H DE E
abbrev PSD (X : Cx) (st : Stmt) (t : TDS) : Prop := PS X st (liftS X.K t)
abbrev PSDs (X : Cx) (sts : List Stmt) (t : TDS) : Prop := PSs X sts (liftS X.K t)
section
variable {X : Cx} {st : Stmt} {rest body : List Stmt} {t u : TDS} {e : Expr} {te : TD} {pos : Pos}
theorem ps_weak {t t' : TS} (h : PS X st t) (w : ∀ D σ H, t' D σ H → t D σ H) : PS X st t' := ⟨fun pins s σ H D I q => h.run pins s σ H D I (w D σ H q)⟩
theorem pss_weak {sts : List Stmt} {t t' : TS} (h : PSs X sts t) (w : ∀ D σ H, t' D σ H → t D σ H) : PSs X sts t' := ⟨fun pins s σ H D I q => h.run pins s σ H D I (w D σ H q)⟩
def tdNx : TDS := fun DE env O => DE.nx env O
def tdSeq (t u : TDS) : TDS := fun DE env O => t { DE with nx := u DE } env O
theorem s_nil : PSDs X [] tdNx := pss_weak pss_nil fun E σ H ⟨F, O, env, DE, P, re, h, k⟩ => k.nx σ H F O env (.refl P) re h
theorem s_cons (h1 : PSD X st t) (h2 : PSDs X rest u) : PSDs X (st :: rest) (tdSeq t u) := pss_weak (pss_cons h1 h2) fun E σ H ⟨F, O, env, DE, P, re, h, k⟩ =>
  ⟨F, O, env, _, P, re, h, ⟨fun σ1 H1 F1 O1 env1 s1 re1 h1 => ⟨F1, O1, env1, DE, s1.pre, re1, h1, k.step s1⟩, k.rt, k.bk, k.ct⟩⟩
theorem s_one (h : PSD X st t) : PSDs X [st] t := pss_one h
theorem s_pass : PSD X (.Pass pos) tdNx := ps_weak ps_pass fun E σ H ⟨F, O, env, DE, P, re, h, k⟩ => k.nx σ H F O env (.refl P) re h
def tdNever : TDS := fun _ _ _ => False
theorem s_never : PSD X st tdNever := ps_weak ps_never fun E σ H ⟨_, _, _, _, _, _, h, _⟩ => h
def tdExpr (te : TD) : TDS := fun DE env O => te env O fun _ O1 => DE.nx env O1
theorem s_expr (he : PD X e te) (hs : swapsWith e none pos.line X.env = pure false := by rfl) : PSD X (.Expr e pos) (tdExpr te) := ps_weak (ps_expr he hs) fun E σ H ⟨F, O, env, DE, P, re, h, k⟩ =>
  ⟨F, O, env, _, P, re, h, fun v H1 F1 d O1 s1 r1 h1 => k.nx σ H1 F1 O1 env s1 (re.mono s1.ff) h1⟩
def tdRet (te : TD) : TDS := fun DE env O => te env O DE.rt
theorem s_ret (he : PD X e te) : PSD X (.Return (some e) pos) (tdRet te) := ps_weak (ps_ret he) fun E σ H ⟨F, O, env, DE, P, re, h, k⟩ => ⟨F, O, env, _, P, re, h, fun v H1 F1 d O1 s1 r1 h1 => k.rt v H1 F1 d O1 s1 r1 h1⟩
def tdIfS (c : TDT) (t u : TDS) : TDS := fun DE env O => c env O fun b O1 => iteB b (t DE env O1) (u DE env O1)
theorem s_if {c : Expr} {a b : List Stmt} {tc : TDT} (hc : PTD X c tc) (ha : PSDs X a t) (hb : PSDs X b u) : PSD X (.If c a b pos) (tdIfS tc t u) := ps_weak (ps_if hc ha hb) fun E σ H ⟨F, O, env, DE, P, re, h, k⟩ => by
  refine ⟨F, O, env, _, P, re, h, fun c H1 F1 O1 s1 h1 => ?_⟩
  cases c with
  | true => exact ⟨F1, O1, env, DE, s1.pre, re.mono s1.ff, h1, k.step s1⟩
  | false => exact ⟨F1, O1, env, DE, s1.pre, re.mono s1.ff, h1, k.step s1⟩
def tdAsg (te : TD) (g : GD) : TDS := fun DE env O => te env O fun x O1 => g x env O1 DE.nx
theorem asg_lift {K : PySem.W.Frag} {is : List Nat} {g : GD} {E : Ends} {σ : L2.St} {H : Hp} (h : liftS K (tdAsg te g) E σ H) : tAsg (liftE K te) (liftG K is g) E σ H := by
  obtain ⟨F, O, env, DE, P, re, h, k⟩ := h
  exact ⟨F, O, env, _, P, re, h, fun v H1 F1 d O1 s1 r1 h1 => ⟨F1, O1, env, d, DE.nx, s1.pre, re.mono s1.ff, r1, h1, fun σ2 H2 F2 O2 env2 s2 re2 _ h2 => k.nx σ2 H2 F2 O2 env2 (s1.trans s2) re2 h2⟩⟩
theorem name_lift {K : PySem.W.Frag} {i : Nat} {E : Ends} {σ : L2.St} {H : Hp} (h : liftS K (tdAsg te (gdN i)) E σ H) : tAsg (liftE K te) (gName i) E σ H := by
  obtain ⟨F, O, env, DE, P, re, h, k⟩ := h
  exact ⟨F, O, env, _, P, re, h, fun v H1 F1 d O1 s1 r1 h1 => k.nx _ H1 F1 O1 _ s1 ((re.mono s1.ff).set r1 i) h1⟩
theorem s_set {x : Str} {pos' : Pos} (i : Nat) (hN : X.N.Nodup) (he : PD X e te) (hi : X.N[i]? = some x := by rfl) (hx : Loc X.env.scope x := by first | exact Or.inl rfl | exact Or.inr rfl) (hs : swapsWith e (some (.Name x pos')) pos.line X.env = pure false := by rfl)
    (hf : X.fn x = true ∨ X.env.scope.names.lookup x = some .local := by first | exact .inl rfl | exact .inr rfl | assumption) : PSD X (.Assign [.Name x pos'] e pos) (tdAsg te (gdN i)) := ps_weak (ps_set hN hi hx he hs hf) fun E σ H h => name_lift h
theorem s_asg {tg : Expr} {g : GD} {is : List Nat} (he : PD X e te) (hg : PGD X is tg g) (hs : swapsWithSole [tg] e pos.line X.env = pure false := by rfl) (hw : swappedStores [tg] e X.env = pure none := by rfl)
    (h1 : (assignEach [tg] X.env).map (·.2) = [assign tg X.env] := by rfl) : PSD X (.Assign [tg] e pos) (tdAsg te g) := ps_weak (ps_asg he hg hs hw h1) fun E σ H h => asg_lift h
def tdPar2 (i j : Nat) (tr : TDA) : TDS := fun DE env O => tr env O fun ds O1 => match ds with
  | [x, y] => DE.nx (stE (stE env i x) j y) O1
  | _ => False
theorem s_par2 {x y : Str} {a b : Expr} {tr : TDA} {px py pt : Pos} {kt k2 : Nat} {pt2 : Pos} (i j : Nat) (hc : X.calm = true) (hN : X.N.Nodup) (ha : PAD X [a, b] tr) (hi : X.N[i]? = some x := by rfl) (hj : X.N[j]? = some y := by rfl) (hij : i ≠ j := by decide)
    (hx : X.env.scope.names.lookup x = some .local := by rfl) (hy : X.env.scope.names.lookup y = some .local := by rfl)
    (hw : swappedStores [.Tuple [.Name x px, .Name y py] kt pt] (.Tuple [a, b] k2 pt2) X.env = pure (some [x, y]) := by rfl)
    (hs : swapsWithSole [.Tuple [.Name x px, .Name y py] kt pt] (.Tuple [a, b] k2 pt2) pos.line X.env = pure false := by rfl) :
    PSD X (.Assign [.Tuple [.Name x px, .Name y py] kt pt] (.Tuple [a, b] k2 pt2) pos) (tdPar2 i j tr) := ps_weak (ps_par hc hN hi hj hij hx hy ha hw hs) fun E σ H ⟨F, O, env, DE, P, re, h, k⟩ => by
  refine ⟨F, O, env, _, P, re, h, fun vs H1 F1 ds O1 s1 rs h1 => ?_⟩
  match ds, rs, h1 with
  | [dx, dy], .cons rx (.cons ry .nil), h1 => exact ⟨_, _, rfl, k.nx _ H1 F1 O1 _ s1 (((re.mono s1.ff).set rx i).set ry j) h1⟩
def tdPar3 (i j l : Nat) (tr : TDA) : TDS := fun DE env O => tr env O fun ds O1 => match ds with
  | [x, y, z] => DE.nx (stE (stE (stE env i x) j y) l z) O1
  | _ => False
theorem s_par3 {x y z : Str} {a b c : Expr} {tr : TDA} {px py pz pt : Pos} {kt k2 : Nat} {pt2 : Pos} (i j l : Nat) (hc : X.calm = true) (hN : X.N.Nodup) (ha : PAD X [a, b, c] tr) (hi : X.N[i]? = some x := by rfl) (hj : X.N[j]? = some y := by rfl) (hl : X.N[l]? = some z := by rfl) (hij : i ≠ j := by decide) (hil : i ≠ l := by decide) (hjl : j ≠ l := by decide)
    (hx : X.env.scope.names.lookup x = some .local := by rfl) (hy : X.env.scope.names.lookup y = some .local := by rfl) (hz : X.env.scope.names.lookup z = some .local := by rfl)
    (hw : swappedStores [.Tuple [.Name x px, .Name y py, .Name z pz] kt pt] (.Tuple [a, b, c] k2 pt2) X.env = pure (some [x, y, z]) := by rfl)
    (hs : swapsWithSole [.Tuple [.Name x px, .Name y py, .Name z pz] kt pt] (.Tuple [a, b, c] k2 pt2) pos.line X.env = pure false := by rfl) :
    PSD X (.Assign [.Tuple [.Name x px, .Name y py, .Name z pz] kt pt] (.Tuple [a, b, c] k2 pt2) pos) (tdPar3 i j l tr) := ps_weak (ps_par3 hc hN hi hj hl hij hil hjl hx hy hz ha hw hs) fun E σ H ⟨F, O, env, DE, P, re, h, k⟩ => by
  refine ⟨F, O, env, _, P, re, h, fun vs H1 F1 ds O1 s1 rs h1 => ?_⟩
  match ds, rs, h1 with
  | [dx, dy, dz], .cons rx (.cons ry (.cons rz .nil)), h1 => exact ⟨_, _, _, rfl, k.nx _ H1 F1 O1 _ s1 ((((re.mono s1.ff).set rx i).set ry j).set rz l) h1⟩
/-- a while, at most n turns -/
def whD (c : TDT) (tb : TDS) : Nat → DEnds → DEnv → DO → Prop
  | 0, _, _, _ => False
  | n + 1, DE, env, O => c env O fun b O1 => iteB b (tb { DE with nx := whD c tb n DE, ct := whD c tb n DE, bk := DE.nx } env O1) (DE.nx env O1)
def tdWhile (c : TDT) (tb : TDS) : TDS := fun DE env O => ∃ n, whD c tb n DE env O
theorem s_while {c : Expr} {tc : TDT} {tb : TDS} (hp : PassesOwn (model X.prog X.w) X.A X.env X.xe) (hc : PTD X c tc) (hb : PSDs X body tb) : PSD X (.While c body [] pos) (tdWhile tc tb) := ps_weak (ps_while hp hc hb) fun E σ H ⟨F, O, env, DE, P, re, ⟨n, h⟩, k⟩ => by
  refine ⟨fun m σ H1 => ∃ F1 O1 env1, Stp X.K F O H F1 O1 H1 ∧ RepE X.K F1 σ env1 ∧ whD tc tb m DE env1 O1, ⟨n, F, O, env, .refl P, re, h⟩, ?_⟩
  rintro m σ1 H1 ⟨F1, O1, env1, s1, re1, h1⟩
  cases m with
  | zero => exact h1.elim
  | succ m =>
    refine ⟨F1, O1, env1, _, s1.pre, re1, h1, fun b H2 F2 O2 s2 h2 => ?_⟩
    have s12 := s1.trans s2
    cases b with
    | false => exact k.nx σ1 H2 F2 O2 env1 s12 (re1.mono s2.ff) h2
    | true =>
      refine ⟨fun σ3 H3 => ∃ F3 O3 env3, Stp X.K F O H F3 O3 H3 ∧ RepE X.K F3 σ3 env3 ∧ whD tc tb m DE env3 O3, fun σ3 H3 ⟨F3, O3, env3, s3, re3, h3⟩ => ⟨m, Nat.lt_succ_self m, F3, O3, env3, s3, re3, h3⟩, ?_⟩
      refine ⟨F2, O2, env1, _, s2.pre, re1.mono s2.ff, h2, ⟨fun σ3 H3 F3 O3 env3 s3 re3 h3 => ⟨F3, O3, env3, s12.trans s3, re3, h3⟩, fun v H3 F3 d O3 s3 r3 h3 => k.rt v H3 F3 d O3 (s12.trans s3) r3 h3, fun σ3 H3 F3 O3 env3 s3 re3 h3 => k.nx σ3 H3 F3 O3 env3 (s12.trans s3) re3 h3, fun σ3 H3 F3 O3 env3 s3 re3 h3 => ⟨F3, O3, env3, s12.trans s3, re3, h3⟩⟩⟩
/-- a for over data -/
def forD (g : GD) (tb : TDS) : List D → DEnds → DEnv → DO → Prop
  | [], DE, env, O => DE.nx env O
  | d :: r, DE, env, O => g d env O fun env' O' => tb { DE with nx := forD g tb r DE, ct := forD g tb r DE, bk := DE.nx } env' O'
def tdFor (ti : TID) (g : GD) (tb : TDS) : TDS := fun DE env O => ti env O fun its O1 => forD g tb its DE env O1
theorem s_for {tg iter : Expr} {ti : TID} {g : GD} {tb : TDS} {is : List Nat} (hp : PassesOwn (model X.prog X.w) X.A X.env X.xe) (hc : X.calm = true) (hi : PID X tg iter ti) (hg : PGD X is tg g) (hb : PSDs X body tb)
    (hs : ∀ x, foldedSetIterable iter X.env x = pure x := by intro _; rfl) : PSD X (.For tg iter body [] pos) (tdFor ti g tb) := ps_weak (ps_for hp hc hi hg hb hs) fun E σ H ⟨F, O, env, DE, P, re, h, k⟩ => by
  refine ⟨F, O, env, _, P, re, h, fun J H1 F1 O1 its s1 wk hz h1 => ?_⟩
  refine ⟨fun i m σ2 H2 => m = its.length - i ∧ i ≤ its.length ∧ ∃ F2 O2 env2, Stp X.K F1 O1 H1 F2 O2 H2 ∧ RepE X.K F2 σ2 env2 ∧ forD g tb (its.drop i) DE env2 O2, ⟨its.length, rfl, Nat.zero_le _, F1, O1, env, .refl s1.pre, re.mono s1.ff, h1⟩, ?_⟩
  rintro i m σ2 H2 ⟨rfl, hi, F2, O2, env2, s2, re2, h2⟩
  have fh := s2.ff.trans s2.pre.fh
  by_cases hlt : i < its.length
  · refine .inr ⟨wk.go i H2 hlt fh, fun σ3 H3 => ∃ F3 O3 env3, Stp X.K F1 O1 H1 F3 O3 H3 ∧ RepE X.K F3 σ3 env3 ∧ forD g tb (its.drop (i + 1)) DE env3 O3, fun σ3 H3 ⟨F3, O3, env3, s3, re3, h3⟩ => ⟨its.length - (i + 1), by omega, rfl, hlt, F3, O3, env3, s3, re3, h3⟩, fun v H3 y => ?_⟩
    obtain ⟨F3, s3, r3⟩ := wk.yld i H2 v H3 its[i] F2 O2 s2.ff s2.pre y (by simp [hlt])
    rw [List.drop_eq_getElem_cons hlt] at h2
    refine ⟨F3, O2, env2, its[i], _, s3.pre, re2.mono s3.ff, r3, h2, fun σ4 H4 F4 O4 env4 s4 re4 _ h4 => ?_⟩
    have s24 := s2.trans (s3.trans s4)
    have s14 := s1.trans s24
    exact ⟨F4, O4, env4, _, s4.pre, re4, h4, ⟨fun σ5 H5 F5 O5 env5 s5 re5 h5 => ⟨F5, O5, env5, s24.trans s5, re5, h5⟩, fun v H5 F5 d O5 s5 r5 h5 => k.rt v H5 F5 d O5 (s14.trans s5) r5 h5, fun σ5 H5 F5 O5 env5 s5 re5 h5 => k.nx σ5 H5 F5 O5 env5 (s14.trans s5) re5 h5, fun σ5 H5 F5 O5 env5 s5 re5 h5 => ⟨F5, O5, env5, s24.trans s5, re5, h5⟩⟩⟩
  · have e : i = its.length := by omega
    subst e
    rw [List.drop_length] at h2
    exact .inl ⟨wk.stop _ H2 (Nat.le_refl _) fh, k.nx σ2 H2 F2 O2 env2 (s1.trans s2) re2 h2⟩
end
end Dl

set_option maxRecDepth 100000
set_option maxHeartbeats 2000000
/-! THE DATA LAYER, 5: list comprehensions; a def by its body. -/
namespace Dl
open PySem PySem.Spec PyProof.Rows L2
abbrev PTsD (X : Cx) (ifs : List Expr) (t : TDT) : Prop := PTs X ifs (liftT X.K t)
def tdYes : TDT := fun _ O Q => Q true O
theorem ts_nil {X : Cx} : PTsD X [] tdYes := ⟨fun pins s σ H Q I ⟨F, O, env, R, P, re, h, k⟩ => pts_nil.run pins s σ H Q I (k true H F O (.refl P) h)⟩
theorem ts_one {X : Cx} {c : Expr} {t : TDT} (h : PTD X c t) : PTsD X [c] t := pts_one h
/-- the turns of a comprehension: every turn begins from env -/
def lcD (g : GD) (tt : TDT) (te : TD) (env : DEnv) : List D → List D → DO → (List D → DO → Prop) → Prop
  | [], acc, O, Q => Q acc O
  | d :: r, acc, O, Q => g d env O fun env2 O1 => tt env2 O1 fun b O2 => iteB b (te env2 O2 fun y O3 => lcD g tt te env r (acc ++ [y]) O3 Q) (lcD g tt te env r acc O2 Q)
theorem lc_lift {K : PySem.W.Frag} {ti : TID} {g : GD} {tt : TDT} {te : TD} {is vs : List Nat} (hsub : ∀ i ∈ is, i ∈ vs) {σ : L2.St} {H F : Hp} {O : DO} {env : DEnv} {Qv : VK} {Qf : List D → DO → Prop} (P : Pre K F O H) (re : RepE K F σ env)
    (h : ti env O fun its O1 => lcD g tt te (wpE env vs) its [] O1 Qf) (k : ∀ D H' F' O' acc, Stp K F O H F' (updO O' D (.lst acc)) H' → O' D = none → Qf acc O' → Qv (.ref D) H') :
    tLc (liftI K ti) (liftG K is g) (liftT K tt) (liftE K te) vs σ H Qv := by
  refine ⟨F, O, env, _, P, re, h, fun J H1 F1 O1 its s1 wk hz hl D hD => ?_⟩
  have hF1 := (s1.pre.fresh hD).1
  have hO1 := (s1.pre.fresh hD).2
  have re1 := (re.mono s1.ff).wipe vs
  refine ⟨fun i m Hi => m = its.length - i ∧ i ≤ its.length ∧ ∃ Fi Oi acc xs, Stp K F1 O1 H1 Fi (updO Oi D (.lst acc)) Hi ∧ Oi D = none ∧ Hi D = some (.lst xs) ∧ RepL K Fi acc xs ∧ acc.length ≤ i ∧ lcD g tt te (wpE env vs) (its.drop i) acc Oi Qf,
    ⟨its.length, rfl, Nat.zero_le _, F1, O1, [], [], Stp.newList s1.pre hD .nil, hO1, upd_same, .nil, Nat.le_refl _, hl⟩, ?_⟩
  rintro i m Hi ⟨rfl, hi, Fi, Oi, acc, xs, S, nD, hDi, rx, hlen, hq⟩
  have Pi : Pre K Fi Oi Hi := S.pre.sub (Sub.upd nD)
  have nF : Fi D = none := (S.pre.ro D _ updO_same).1
  have fh := S.ff.trans S.pre.fh
  by_cases hlt : i < its.length
  · refine .inr ⟨wk.go i Hi hlt fh, fun H' => ∃ Fj Oj acc' xs', Stp K F1 O1 H1 Fj (updO Oj D (.lst acc')) H' ∧ Oj D = none ∧ H' D = some (.lst xs') ∧ RepL K Fj acc' xs' ∧ acc'.length ≤ i + 1 ∧ lcD g tt te (wpE env vs) (its.drop (i + 1)) acc' Oj Qf,
      fun H' ⟨Fj, Oj, acc', xs', a1, a2, a3, a4, a5, a6⟩ => ⟨its.length - (i + 1), by omega, rfl, hlt, Fj, Oj, acc', xs', a1, a2, a3, a4, a5, a6⟩, fun v H2 y => ?_⟩
    obtain ⟨F2, s2, r2⟩ := wk.yld i Hi v H2 its[i] Fi Oi S.ff Pi y (by simp [hlt])
    rw [List.drop_eq_getElem_cons hlt] at hq
    -- what a turn that leads to (Fj, Oj, Hj) keeps of the list at D
    have keepD : ∀ {Fj : Hp} {Oj : DO} {Hj : Hp}, Stp K Fi Oi Hi Fj Oj Hj → Hj D = some (.lst xs) ∧ Oj D = none ∧ Fj D = none := fun T => by
      obtain ⟨a1, a2, a3⟩ := T.kp D _ hDi nD
      exact ⟨a1, a2, a3 nF⟩
    have joinD : ∀ {Fj : Hp} {Oj : DO} {Hj : Hp} {acc' : List Dl.D} {xs' : List V}, Stp K Fi Oi Hi Fj Oj Hj → RepL K Fj acc' xs' → Stp K F1 O1 H1 Fj (updO Oj D (.lst acc')) (upd Hj D (.lst xs')) := fun {Fj Oj Hj acc' xs'} T ra => by
      obtain ⟨d1, d2, d3⟩ := keepD T
      refine S.trans ⟨T.ff, T.pre.own d3 ⟨xs', upd_same, ra⟩, fun a o ha na => ?_⟩
      have q : a ≠ D := fun z => by rw [z, updO_same] at na; cases na
      rw [updO_ne q] at na
      obtain ⟨b1, b2, b3⟩ := T.kp a o ha na
      exact ⟨by rw [upd_ne q]; exact b1, by rw [updO_ne q]; exact b2, b3⟩
    refine ⟨F2, Oi, wpE env vs, its[i], _, s2.pre, (re1.mono (S.ff.trans s2.ff)), r2, hq, fun σ3 H3 F3 O3 env3 s3 re3 on3 h3 => ⟨?_, ?_⟩⟩
    · rw [on3 vs hsub, wipe_wipe]
    have T3 := s2.trans s3
    refine ⟨F3, O3, env3, _, s3.pre, re3, h3, fun b H4 F4 O4 s4 h4 => ?_⟩
    have T4 := T3.trans s4
    cases b with
    | false =>
      dsimp only
      rw [if_neg Bool.false_ne_true]
      have z := joinD T4 (rx.mono T4.ff)
      have e : upd H4 D (.lst xs) = H4 := by
        funext a
        by_cases q : a = D
        · rw [q, upd_same]; exact (keepD T4).1.symm
        · rw [upd_ne q]
      rw [e] at z
      exact ⟨F4, O4, acc, xs, z, (keepD T4).2.1, (keepD T4).1, rx.mono T4.ff, by omega, h4⟩
    | true =>
      dsimp only
      rw [if_pos rfl]
      refine ⟨F4, O4, env3, _, s4.pre, re3.mono s4.ff, h4, fun v5 H5 F5 d5 O5 s5 r5 h5 => ?_⟩
      have T5 := T4.trans s5
      have ra := (rx.mono T5.ff).append (.cons r5 .nil)
      refine ⟨xs, (keepD T5).1, by rw [← rx.length]; omega, F5, O5, acc ++ [d5], xs ++ [v5], joinD T5 ra, (keepD T5).2.1, upd_same, ra, by simp; omega, h5⟩
  · have e : i = its.length := by omega
    subst e
    rw [List.drop_length] at hq
    exact .inl ⟨wk.stop _ Hi (Nat.le_refl _) fh, k D Hi Fi Oi acc (s1.trans S) nD hq⟩
def tdLc (ti : TID) (g : GD) (tt : TDT) (te : TD) (vs : List Nat) : TD := fun env O Q => ti env O fun its O1 => lcD g tt te (wpE env vs) its [] O1 fun acc O2 => Q (.lst acc) O2
def tdLcO (ti : TID) (g : GD) (tt : TDT) (te : TD) (vs : List Nat) : TD := fun env O Q => ti env O fun its O1 => lcD g tt te (wpE env vs) its [] O1 fun acc O2 => ∀ p, O2 p = none → Q (.ptr p) (updO O2 p (.lst acc))
section
variable {X : Cx} {elt tg iter : Expr} {ifs : List Expr} {scope : Scope} {own : List (Str × Nat)} {pos : Pos} {ti : TID} {g : GD} {tt : TDT} {te : TD} {is : List Nat}
theorem lcF_lift {K : PySem.W.Frag} {vs : List Nat} (hsub : ∀ i ∈ is, i ∈ vs) {σ : L2.St} {H : Hp} {Q : VK} (h : liftE K (tdLc ti g tt te vs) σ H Q) : tLc (liftI K ti) (liftG K is g) (liftT K tt) (liftE K te) vs σ H Q := by
  obtain ⟨F, O, env, R, P, re, h, k⟩ := h
  refine lc_lift hsub P re h fun D H' F' O' acc S nD hq => ?_
  obtain ⟨F2, s2, _, r2⟩ := S.freeze updO_same
  rw [offO_upd nD] at s2
  exact k _ H' F2 _ O' s2 r2 hq
theorem lcO_lift {K : PySem.W.Frag} {vs : List Nat} (hsub : ∀ i ∈ is, i ∈ vs) {σ : L2.St} {H : Hp} {Q : VK} (h : liftE K (tdLcO ti g tt te vs) σ H Q) : tLc (liftI K ti) (liftG K is g) (liftT K tt) (liftE K te) vs σ H Q := by
  obtain ⟨F, O, env, R, P, re, h, k⟩ := h
  exact lc_lift hsub P re h fun D H' F' O' acc S nD hq => k _ H' F' _ _ S (.ptr D) (hq D nD)
theorem d_lc (hc : X.calm = true) (hN : X.N.Nodup) (hi : PID X tg iter ti) (ok : BlkOk X.N X.env.scope scope own)
    (hg : ∀ (s : Shared) (H : Hp) (C : Addr) (cl : List (Str × Addr)) (fp : List Addr), PGD (X.blk s H scope (compEnvC scope cl C X.env) fp) is tg g) (ht : ∀ (s : Shared) (H : Hp) (C : Addr) (cl : List (Str × Addr)) (fp : List Addr), PTsD (X.blk s H scope (compEnvC scope cl C X.env) fp) ifs tt)
    (he : ∀ (s : Shared) (H : Hp) (C : Addr) (cl : List (Str × Addr)) (fp : List Addr), PD (X.blk s H scope (compEnvC scope cl C X.env) fp) elt te) (hsub : ∀ i ∈ is, i ∈ own.map (·.2) := by decide) (hs : ∀ x, foldedSetIterable iter X.env x = pure x := by intro _; rfl) :
    PD X (.ListComp elt [⟨tg, iter, ifs, 0⟩] scope pos) (tdLc ti g tt te (own.map (·.2))) := pe_weak (pe_lc hc hN hi ok hg ht he hs) fun σ H Q h => lcF_lift hsub h
theorem d_lcO (hc : X.calm = true) (hN : X.N.Nodup) (hi : PID X tg iter ti) (ok : BlkOk X.N X.env.scope scope own)
    (hg : ∀ (s : Shared) (H : Hp) (C : Addr) (cl : List (Str × Addr)) (fp : List Addr), PGD (X.blk s H scope (compEnvC scope cl C X.env) fp) is tg g) (ht : ∀ (s : Shared) (H : Hp) (C : Addr) (cl : List (Str × Addr)) (fp : List Addr), PTsD (X.blk s H scope (compEnvC scope cl C X.env) fp) ifs tt)
    (he : ∀ (s : Shared) (H : Hp) (C : Addr) (cl : List (Str × Addr)) (fp : List Addr), PD (X.blk s H scope (compEnvC scope cl C X.env) fp) elt te) (hsub : ∀ i ∈ is, i ∈ own.map (·.2) := by decide) (hs : ∀ x, foldedSetIterable iter X.env x = pure x := by intro _; rfl) :
    PD X (.ListComp elt [⟨tg, iter, ifs, 0⟩] scope pos) (tdLcO ti g tt te (own.map (·.2))) := pe_weak (pe_lc hc hN hi ok hg ht he hs) fun σ H Q h => lcO_lift hsub h
theorem s_setLc {y : Str} {py spos : Pos} (i : Nat) (hc : X.calm = true) (hN : X.N.Nodup) (hsw : swapsWith (.ListComp elt [⟨tg, iter, ifs, 0⟩] scope pos) (some (.Name y py)) spos.line X.env = pure true) (hi : PID X tg iter ti) (ok : BlkOk X.N X.env.scope scope own)
    (hg : ∀ (s : Shared) (H : Hp) (C : Addr) (cl : List (Str × Addr)) (fp : List Addr), PGD (X.blk s H scope (compEnvC scope cl C X.env) fp) is tg g) (ht : ∀ (s : Shared) (H : Hp) (C : Addr) (cl : List (Str × Addr)) (fp : List Addr), PTsD (X.blk s H scope (compEnvC scope cl C X.env) fp) ifs tt)
    (he : ∀ (s : Shared) (H : Hp) (C : Addr) (cl : List (Str × Addr)) (fp : List Addr), PD (X.blk s H scope (compEnvC scope cl C X.env) fp) elt te) (hsub : ∀ i ∈ is, i ∈ own.map (·.2) := by decide) (hy : X.N[i]? = some y := by rfl) (hyl : X.env.scope.names.lookup y = some .local := by rfl) (hs : ∀ x, foldedSetIterable iter X.env x = pure x := by intro _; rfl) :
    PSD X (.Assign [.Name y py] (.ListComp elt [⟨tg, iter, ifs, 0⟩] scope pos) spos) (tdAsg (tdLc ti g tt te (own.map (·.2))) (gdN i)) := ps_weak (ps_setLc hc hN hy hyl hsw hi ok hg ht he hs) fun E σ H ⟨F, O, env, DE, P, re, h, k⟩ =>
  lcF_lift hsub (Q := fun x H1 => gName i x σ H1 E.nx) ⟨F, O, env, _, P, re, h, fun v H1 F1 d O1 s1 r1 h1 => k.nx _ H1 F1 O1 _ s1 ((re.mono s1.ff).set r1 i) h1⟩
/-- the walk over all items, the element and the test known: f, p -/
theorem lcD_pure {α : Type} {env : DEnv} {O : DO} {Q : List D → DO → Prop} (xs : List α) (it : α → D) (p : α → Bool) (f : α → D)
    (h : ∀ x ∈ xs, ∀ (K1 : D → DO → Prop) (K0 : DO → Prop), (p x = true → K1 (f x) O) → (p x = false → K0 O) → g (it x) env O fun env2 O1 => tt env2 O1 fun b O2 => iteB b (te env2 O2 K1) (K0 O2))
    : ∀ acc, Q (acc ++ (xs.filter p).map f) O → lcD g tt te env (xs.map it) acc O Q := by
  induction xs with
  | nil =>
    intro acc q
    rw [List.filter_nil, List.map_nil, List.append_nil] at q
    exact q
  | cons x xs ih =>
    intro acc q
    have ih' := ih fun y hy => h y (List.mem_cons_of_mem _ hy)
    refine h x List.mem_cons_self (fun y O3 => lcD g tt te env (xs.map it) (acc ++ [y]) O3 Q) (fun O2 => lcD g tt te env (xs.map it) acc O2 Q) (fun e => ih' _ ?_) fun e => ih' _ ?_
    · rw [List.filter_cons_of_pos e, List.map_cons] at q
      rw [List.append_assoc]
      exact q
    · rw [List.filter_cons_of_neg (by rw [e]; decide)] at q
      exact q
/-- without a test -/
theorem lcD_map {α : Type} {env : DEnv} {O : DO} {Q : List D → DO → Prop} (xs : List α) (it : α → D) (f : α → D)
    (h : ∀ x ∈ xs, ∀ (K1 : D → DO → Prop), K1 (f x) O → g (it x) env O fun env2 O1 => te env2 O1 K1)
    (q : Q (xs.map f) O) : lcD g tdYes te env (xs.map it) [] O Q := by
  refine lcD_pure xs it (fun _ => true) f (fun x hx K1 K0 k _ => h x hx K1 (k rfl)) [] ?_
  rw [List.filter_eq_self.mpr (fun _ _ => rfl), List.nil_append]
  exact q
end

/-! ### a def by its body -/
/-- what is left of the owned cells at a def's end -/
def Fin (R : D → DO → Prop) (d : D) (O' : DO) : Prop := ∃ O, Sub O O' ∧ R d O
theorem Fin.i {R : D → DO → Prop} {d : D} {O : DO} (h : R d O) : Fin R d O := ⟨O, Sub.refl O, h⟩
def startD (n : Nat) (ds : List D) : DEnv := ds.map some ++ List.replicate (n - ds.length) none
theorem rep_start {K : PySem.W.Frag} {F : Hp} (N : List Str) {ds : List D} {vs : List V} (r : RepL K F ds vs) : RepE K F (L2.start N vs) (startD N.length ds) := by
  unfold L2.start startD
  rw [r.length]
  exact RepE.start N r _
section
variable {P : Program} {w : World} {K : PySem.W.Frag} {mg : Str → Option Value} {base : Heap} {x qual : Str} {params : Arguments} {body : List Stmt} {scope : Scope} {f : Addr} {fd : FuncData}
/-- THE RULE: the promise g of a def, by its body. N: its names by slot, the parameters ps first -/
theorem fn_ok {N ps : List Str} {k : Nat} {g : GC} (F : FunD K x qual params body scope [] [] f fd) (S : FnScope N ps scope) (len : ∀ ds O R, g ds O R → ds.length = ps.length)
    (hbody : ∀ (cdv : Value) (A : Around) (outer : List Env) (s : Shared) (H : Hp) (E : XK), Room k (A.deeper (envOfC qual scope s.heap.objs.size f cdv)) →
      ∃ t, PSDs (cxOf CX0 P w K mg base N qual scope f cdv A outer s H E).nox body t ∧ ∀ ds O R, g ds O R → t { nx := fun _ O' => Fin R .non O', rt := Fin R } (startD N.length ds) O) : FnOk P w K mg base CX0 (k + 1) f fd ps (spD K g) := by
  refine F.ok S (fun vs H Q E ⟨F', O, ds, R, _, r, h, _⟩ => by rw [← r.length]; exact len ds O R h) fun cdv A outer s H vs Q E hr ⟨F', O, ds, R, pre, r, h, k⟩ => ?_
  obtain ⟨t, ht, hq⟩ := hbody cdv A outer s H E hr
  refine ⟨_, ht.nox, F', O, startD N.length ds, _, pre, rep_start N r, hq ds O R h, ⟨fun σ' H1 F1 O1 env1 s1 re1 h1 => ?_, fun v H1 F1 d O1 s1 r1 h1 => ?_, fun _ _ _ _ _ _ _ h => h, fun _ _ _ _ _ _ _ h => h⟩⟩
  · obtain ⟨O2, b, h2⟩ := h1
    exact k _ H1 F1 _ O2 (s1.sub b) .non h2
  · obtain ⟨O2, b, h2⟩ := h1
    exact k _ H1 F1 _ O2 (s1.sub b) r1 h2
theorem def_mk {ps : List Str} {k : Nat} {g : GC} (hm : mg x = some (.ref f)) (F : FunD K x qual params body scope [] [] f fd) (b : Binds K fd ps []) (h : FnOk P w K mg base CX0 k f fd ps (spD K g)) : Def P w K mg base k x ps g := ⟨f, fd, hm, F.kp, b, h⟩
theorem Def.mono {ps : List Str} {j k : Nat} {g : GC} (h : Def P w K mg base j x ps g) (hk : j ≤ k) : Def P w K mg base k x ps g := by
  obtain ⟨f, fd, a, b, c, d⟩ := h.ex
  exact ⟨f, fd, a, b, c, d.mono hk⟩
theorem Def.imp {ps : List Str} {k : Nat} {g g' : GC} (h : Def P w K mg base k x ps g) (i : ∀ ds O R, g' ds O R → g ds O R) : Def P w K mg base k x ps g' := by
  obtain ⟨f, fd, a, b, c, d⟩ := h.ex
  exact ⟨f, fd, a, b, c, d.imp fun vs H Q E ⟨F, O, ds, R, p, r, q, k⟩ => ⟨F, O, ds, R, p, r, i ds O R q, k⟩⟩
end
end Dl

set_option maxRecDepth 100000
set_option maxHeartbeats 2000000
/-! THE DATA LAYER, 6: built-ins, methods of lists and texts, dicts, own instances. -/
namespace Dl
open PySem PySem.Spec PyProof.Rows L2
theorem room65 {k : Nat} {A : Around} (r : Room k A) : A.units + 65 < cLine := by have := r.un; omega
theorem room1 {k : Nat} {A : Around} (r : Room k A) : A.units + 1 < cLine := by have := r.un; omega
section
variable {K : PySem.W.Frag} {F H : Hp} {κ : Type} [DecidableEq κ]
def lookK (kvs : List (κ × D)) (k : κ) : Option D := match kvs with
  | [] => none
  | p :: r => if p.1 = k then some p.2 else lookK r k
def putKD (kvs : List (κ × D)) (k : κ) (d : D) : List (κ × D) :=
  if (kvs.any fun kv => decide (kv.1 = k)) = true then kvs.map (fun kv => if kv.1 = k then (kv.1, d) else kv) else kvs ++ [(k, d)]
theorem lookK_rep : ∀ {kvs : List (κ × D)} {vs : List (κ × V)} {k : κ}, RepKV K F kvs vs → (∀ d, lookK kvs k = some d → ∃ v, valV vs k = some v ∧ Rep K F d v) ∧ (lookK kvs k = none → valV vs k = none)
  | _, _, k, .nil => ⟨fun d h => (nomatch h), fun _ => rfl⟩
  | p :: kvs, q :: vs, k, .cons ⟨h1, h2⟩ r => by
    unfold lookK
    by_cases e : p.1 = k
    · rw [if_pos e]
      refine ⟨fun d h => ?_, fun h => (nomatch h)⟩
      cases h
      exact ⟨q.2, valV_pos (h1 ▸ e), h2⟩
    · rw [if_neg e]
      have e' : ¬ q.1 = k := fun z => e (h1.trans z)
      rw [valV_neg e']
      exact lookK_rep r
theorem any_rep : ∀ {kvs : List (κ × D)} {vs : List (κ × V)} {k : κ}, RepKV K F kvs vs → (kvs.any fun kv => decide (kv.1 = k)) = (vs.any fun kv => decide (kv.1 = k))
  | _, _, k, .nil => rfl
  | p :: kvs, q :: vs, k, .cons ⟨h1, h2⟩ r => by
    rw [List.any_cons, List.any_cons, any_rep r, h1]
theorem put_rep {kvs : List (κ × D)} {vs : List (κ × V)} {k : κ} {d : D} {v : V} (r : RepKV K F kvs vs) (hd : Rep K F d v) : RepKV K F (putKD kvs k d) (putK vs k v) := by
  unfold putKD putK
  rw [any_rep r]
  by_cases h : (vs.any fun kv => decide (kv.1 = k)) = true
  · rw [if_pos h, if_pos h]
    clear h
    induction r with
    | nil => exact .nil
    | @cons p q kvs vs hr r ih =>
      refine .cons ?_ ih
      dsimp only
      by_cases e : p.1 = k
      · rw [if_pos e, if_pos (hr.1 ▸ e)]
        exact ⟨hr.1, hd⟩
      · rw [if_neg e, if_neg (fun z => e (hr.1.trans z))]
        exact hr
  · rw [if_neg h, if_neg h]
    clear h
    induction r with
    | nil => exact .cons ⟨rfl, hd⟩ .nil
    | cons hr r ih => exact .cons hr ih
end
def keyD : D → Option Key
  | .int i => some (.inl i)
  | .str x => some (.inr x)
  | _ => none
def keysD : List D → Option (List Key)
  | [] => some []
  | d :: ds => match keyD d, keysD ds with
    | some k, some ks => some (k :: ks)
    | _, _ => none
theorem keyD_rep {K : PySem.W.Frag} {F : Hp} {d : D} {v : V} {k : Key} (r : Rep K F d v) (h : keyD d = some k) : v = kV k := by
  cases r <;> cases h <;> rfl
theorem keysD_rep {K : PySem.W.Frag} {F : Hp} : ∀ {ds : List D} {vs : List V} {ks : List Key}, RepL K F ds vs → keysD ds = some ks → vs = ks.map kV
  | _, _, ks, .nil, h => by cases h; rfl
  | _ :: _, _ :: _, ks, .cons h r, e => by
    unfold keysD at e
    split at e
    · rename_i k ks' h1 h2
      cases e
      rw [keyD_rep h h1, keysD_rep r h2]
      rfl
    · cases e

section
variable {X : Cx} {a b e o : Expr} {es : List Expr} {ta tb te to ty : TD} {tr : TDA} {pos apos cpos : Pos}
/-! ### built-ins -/
def gLen : GC := fun ds O Q => match ds with
  | [d] => match deref O d with
    | .lst xs => Q (.int (xs.length : Int)) O
    | .tup xs => Q (.int (xs.length : Int)) O
    | .xls xs => Q (.int (xs.length : Int)) O
    | .str x => needB (szB x.length) (Q (.int (x.length : Int)) O)
    | .ptr p => match O p with
      | some (.dT kvs) => Q (.int (kvs.length : Int)) O
      | _ => False
    | _ => False
  | _ => False
theorem c_len : CallD X (.builtin "len") gLen := by
  intro pins s σ H vs us Q I r ⟨F, O, ds, R, P, rs, g, k⟩
  match ds, rs, g with
  | [d], .cons (v := v) rd .nil, g =>
    unfold gLen at g
    have g : (match deref O d with
      | .lst xs => R (.int (xs.length : Int)) O
      | .tup xs => R (.int (xs.length : Int)) O
      | .xls xs => R (.int (xs.length : Int)) O
      | .str x => needB (szB x.length) (R (.int (x.length : Int)) O)
      | .ptr p => (match O p with
        | some (.dT kvs) => R (.int (kvs.length : Int)) O
        | _ => False)
      | _ => False) := g
    cases hd : deref O d with
    | lst xs =>
      rw [hd] at g
      obtain ⟨p, ys, rfl, hy, ly⟩ := inv_lst P rd hd
      exact call_len_seq pins s σ H _ us Q I r ⟨p, ys, rfl, .inl (SqL.of hy), k _ _ F _ O (.refl P) (by rw [← ly.length]; exact .int _) g⟩
    | tup xs =>
      rw [hd] at g
      obtain ⟨p, ys, rfl, hy, ly⟩ := inv_tup rd hd
      exact call_len_seq pins s σ H _ us Q I r ⟨p, ys, rfl, .inr (SqT.of (P.fh _ _ hy)), k _ _ F _ O (.refl P) (by rw [← ly.length]; exact .int _) g⟩
    | xls xs =>
      rw [hd] at g
      have z := inv_sc rd hd (fun _ h => nomatch h)
      cases z with
      | xls hy ly => exact call_len_seq pins s σ H _ us Q I r ⟨_, _, rfl, .inl (sql_mono P.fh hy), k _ _ F _ O (.refl P) (by rw [← ly.length]; exact .int _) g⟩
    | str x =>
      rw [hd] at g
      obtain rfl := inv_str rd hd
      obtain ⟨g1, g2⟩ := needB_o g
      exact call_len_str pins s σ H _ us Q I r ⟨x, rfl, szB_ok g1, k _ _ F _ O (.refl P) (.int _) g2⟩
    | ptr p =>
      rw [hd] at g
      have z := inv_sc rd hd (fun _ h => nomatch h)
      cases z
      cases ho : O p with
      | none => simp only [ho] at g
      | some c =>
        cases c <;> simp only [ho] at g
        obtain ⟨_, ws, hw, lw⟩ := P.ro p _ ho
        exact call_len_dT pins s σ H _ us Q I r ⟨p, ws, rfl, hw, k _ _ F _ O (.refl P) (by rw [← lw.length]; exact .int _) g⟩
    | _ => rw [hd] at g; exact g.elim
def gAbs : GC := fun ds O Q => match ds with
  | [.int i] => Q (.int (if i < 0 then -i else i)) O
  | _ => False
theorem c_abs : CallD X (.builtin "abs") gAbs := by
  intro pins s σ H vs us Q I r ⟨F, O, ds, R, P, rs, g, k⟩
  match ds, rs, g with
  | [.int i], .cons (.int _) .nil, g => exact call_abs pins s σ H _ us Q I r ⟨i, rfl, k _ _ F _ O (.refl P) (.int _) g⟩
def gInt1 : GC := fun ds O Q => match ds with
  | [.int i] => Q (.int i) O
  | [.str x] => match PySem.intText? x with
    | some n => needB (Nat.ble x.length 640) (Q (.int n) O)
    | none => False
  | _ => False
theorem c_int : CallD X (.type "int") gInt1 := by
  intro pins s σ H vs us Q I r ⟨F, O, ds, R, P, rs, g, k⟩
  match ds, rs, g with
  | [.int i], .cons (.int _) .nil, g => exact call_int1 pins s σ H _ us Q I r (.inl ⟨i, rfl, k _ _ F _ O (.refl P) (.int _) g⟩)
  | [.str x], .cons (.str _) .nil, g =>
    unfold gInt1 at g
    cases h : PySem.intText? x with
    | none => simp only [h] at g
    | some n =>
      simp only [h] at g
      obtain ⟨g1, g2⟩ := needB_o g
      exact call_int_str pins s σ H _ us Q I r ⟨x, n, rfl, h, Nat.le_of_ble_eq_true g1, k _ _ F _ O (.refl P) (.int _) g2⟩
def gStr : GC := fun ds O Q => match ds with
  | [.int i] => needB (Nat.blt i.natAbs.log2 1920) (Q (.str (toString i)) O)
  | _ => False
theorem c_str : CallD X (.type "str") gStr := by
  intro pins s σ H vs us Q I r ⟨F, O, ds, R, P, rs, g, k⟩
  match ds, rs, g with
  | [.int i], .cons (.int _) .nil, g =>
    obtain ⟨g1, g2⟩ := needB_o g
    exact call_str_int pins s σ H _ us Q I r ⟨i, rfl, Nat.le_of_ble_eq_true g1, k _ _ F _ O (.refl P) (.str _) g2⟩
def blsD : List D → Option (List Bool)
  | [] => some []
  | .bl b :: r => (blsD r).map (b :: ·)
  | _ => none
theorem blsD_ok : ∀ {ds : List D} {bs : List Bool}, blsD ds = some bs → ds = bs.map D.bl
  | [], bs, h => by cases h; rfl
  | d :: ds, bs, h => by
    cases d <;> try (cases h)
    obtain ⟨cs, h1, h2⟩ := Option.map_eq_some_iff.mp (show (blsD ds).map _ = some bs from h)
    subst h2
    rw [blsD_ok h1]
    rfl
theorem blsD_map {α : Type} (f : α → Bool) : ∀ xs : List α, blsD (xs.map fun x => .bl (f x)) = some (xs.map f)
  | [] => rfl
  | x :: xs => by
    show (blsD (xs.map fun x => .bl (f x))).map (f x :: ·) = _
    rw [blsD_map f xs]
    rfl
def intsD : List D → Option (List Int)
  | [] => some []
  | .int b :: r => (intsD r).map (b :: ·)
  | _ => none
theorem intsD_ok : ∀ {ds : List D} {bs : List Int}, intsD ds = some bs → ds = bs.map D.int
  | [], bs, h => by cases h; rfl
  | d :: ds, bs, h => by
    cases d <;> try (cases h)
    obtain ⟨cs, h1, h2⟩ := Option.map_eq_some_iff.mp (show (intsD ds).map _ = some bs from h)
    subst h2
    rw [intsD_ok h1]
    rfl
theorem intsD_map {α : Type} (f : α → Int) : ∀ xs : List α, intsD (xs.map fun x => .int (f x)) = some (xs.map f)
  | [] => rfl
  | x :: xs => by
    show (intsD (xs.map fun x => .int (f x))).map (f x :: ·) = _
    rw [intsD_map f xs]
    rfl
def strsD : List D → Option (List Str)
  | [] => some []
  | .str b :: r => (strsD r).map (b :: ·)
  | _ => none
theorem strsD_ok : ∀ {ds : List D} {bs : List Str}, strsD ds = some bs → ds = bs.map D.str
  | [], bs, h => by cases h; rfl
  | d :: ds, bs, h => by
    cases d <;> try (cases h)
    obtain ⟨cs, h1, h2⟩ := Option.map_eq_some_iff.mp (show (strsD ds).map _ = some bs from h)
    subst h2
    rw [strsD_ok h1]
    rfl
theorem strsD_map {α : Type} (f : α → Str) : ∀ xs : List α, strsD (xs.map fun x => .str (f x)) = some (xs.map f)
  | [] => rfl
  | x :: xs => by
    show (strsD (xs.map fun x => .str (f x))).map (f x :: ·) = _
    rw [strsD_map f xs]
    rfl
def gBls (f : List Bool → Bool) : GC := fun ds O Q => match ds with
  | [.lst xs] => match blsD xs with
    | some bs => Q (.bl (f bs)) O
    | none => False
  | _ => False
theorem c_bls {id : String} {f : List Bool → Bool} (h : CallR X (.builtin id) (fun vs H Q => ∃ (a : Addr) (bs : List Bool), vs = [V.ref a] ∧ SqL X.K H a (bs.map V.bl) ∧ Q (.bl (f bs)) H)) : CallD X (.builtin id) (gBls f) := by
  intro pins s σ H vs us Q I r ⟨F, O, ds, R, P, rs, g, k⟩
  match ds, rs, g with
  | [.lst xs], .cons (.lst hx lx) .nil, g =>
    unfold gBls at g
    cases e : blsD xs with
    | none => simp only [e] at g
    | some bs =>
      simp only [e] at g
      have e2 := blsD_ok e
      subst e2
      have e3 := RepL.bls lx
      subst e3
      exact h pins s σ H _ us Q I r ⟨_, bs, rfl, SqL.of (P.fh _ _ hx), k _ _ F _ O (.refl P) (.bl _) g⟩
def gAll : GC := gBls fun bs => bs.all id
def gAny : GC := gBls fun bs => bs.any id
theorem c_all (hc : X.calm = true) : CallD X (.builtin "all") gAll := c_bls (cr_all hc)
theorem c_any (hc : X.calm = true) : CallD X (.builtin "any") gAny := c_bls (cr_any hc)
def gSum : GC := fun ds O Q => match ds with
  | [.lst xs] => match intsD xs with
    | some ns => Q (.int ns.sum) O
    | none => False
  | _ => False
theorem c_sum (hc : X.calm = true) : CallD X (.builtin "sum") gSum := by
  intro pins s σ H vs us Q I r ⟨F, O, ds, R, P, rs, g, k⟩
  match ds, rs, g with
  | [.lst xs], .cons (.lst hx lx) .nil, g =>
    unfold gSum at g
    cases e : intsD xs with
    | none => simp only [e] at g
    | some ns =>
      simp only [e] at g
      have e2 := intsD_ok e
      subst e2
      have e3 := RepL.ints lx
      subst e3
      exact cr_sum hc pins s σ H _ us Q I r ⟨_, ns, rfl, SqL.of (P.fh _ _ hx), k _ _ F _ O (.refl P) (.int _) g⟩
def gMin2 : GC := fun ds O Q => match ds with
  | [.int i, .int j] => Q (.int (if j < i then j else i)) O
  | _ => False
theorem c_min2 (hc : X.calm = true) : CallD X (.builtin "min") gMin2 := by
  intro pins s σ H vs us Q I r ⟨F, O, ds, R, P, rs, g, k⟩
  match ds, rs, g with
  | [.int i, .int j], .cons (.int _) (.cons (.int _) .nil), g => exact call_min2 hc pins s σ H _ us Q I r ⟨i, j, rfl, k _ _ F _ O (.refl P) (.int _) g⟩
def gTuple : GC := fun ds O Q => match ds with
  | [.lst xs] => Q (.tup xs) O
  | [.tup xs] => Q (.tup xs) O
  | _ => False
theorem c_tuple : CallD X (.type "tuple") gTuple := by
  intro pins s σ H vs us Q I r ⟨F, O, ds, R, P, rs, g, k⟩
  match ds, rs, g with
  | [.lst xs], .cons (.lst hx lx) .nil, g =>
    refine call_tuple_of pins s σ H _ us Q I r ⟨_, _, rfl, .inl ⟨SqL.of (P.fh _ _ hx), fun p hp => ?_⟩⟩
    have z := Stp.tup P hp lx
    exact k _ _ _ _ O z.1 z.2 g
  | [.tup xs], .cons (.tup hx lx) .nil, g => exact call_tuple_of pins s σ H _ us Q I r ⟨_, _, rfl, .inr ⟨SqT.of (P.fh _ _ hx), k _ _ F _ O (.refl P) (.tup hx lx) g⟩⟩
def gList : GC := fun ds O Q => match ds with
  | [.lst xs] => Q (.lst xs) O
  | [.tup xs] => Q (.lst xs) O
  | [.xls xs] => Q (.lst xs) O
  | _ => False
theorem c_list : CallD X (.type "list") gList := by
  intro pins s σ H vs us Q I r ⟨F, O, ds, R, P, rs, g, k⟩
  match ds, rs, g with
  | [.lst xs], .cons (.lst hx lx) .nil, g =>
    refine call_list_of pins s σ H _ us Q I r ⟨_, _, rfl, .inl (SqL.of (P.fh _ _ hx)), fun p hp => ?_⟩
    have z := Stp.lst P hp lx
    exact k _ _ _ _ O z.1 z.2 g
  | [.tup xs], .cons (.tup hx lx) .nil, g =>
    refine call_list_of pins s σ H _ us Q I r ⟨_, _, rfl, .inr (SqT.of (P.fh _ _ hx)), fun p hp => ?_⟩
    have z := Stp.lst P hp lx
    exact k _ _ _ _ O z.1 z.2 g
  | [.xls xs], .cons (.xls hx lx) .nil, g =>
    refine call_list_of pins s σ H _ us Q I r ⟨_, _, rfl, .inl (sql_mono P.fh hx), fun p hp => ?_⟩
    have z := Stp.lst P hp lx
    exact k _ _ _ _ O z.1 z.2 g
/-- isinstance(e, T) -/
def tyD : D → String
  | .non => "NoneType"
  | .bl _ => "bool"
  | .int _ => "int"
  | .str _ => "str"
  | .tup _ => "tuple"
  | .xtp _ => "tuple"
  | .lst _ => "list"
  | .xls _ => "list"
  | .ptr _ => ""
def tdIsi (T : String) (ta : TD) : TD := fun env O Q => ta env O fun x O1 => match kitB (tyD x) T with
  | some b => Q (.bl b) O1
  | none => False
theorem d_isi {T : String} {x : Str} {p p2 : Pos} (ha : PD X a ta) (hmi : X.mg "isinstance" = none) (hm : X.mg x = none) (hv : bootBuiltins x = some (.type T)) (hk : kitB "" T = none := by decide +kernel) (hg : Gl X "isinstance" := by rfl) (hg2 : Gl X x := by rfl)
    (hn : x ≠ "__name__" := by decide) (hdb : (x == ("__debug__" : Str)) = false := by decide) (he : starEach [a, .Name x p2] X.env = (false, eval a X.env) :: starEach [.Name x p2] X.env := by rfl) (he2 : starEach [.Name x p2] X.env = (false, eval (.Name x p2) X.env) :: starEach [] X.env := by rfl)
    (hpl : (backTo pos (starEach [.Name x p2] X.env)).any (·.1) = false := by rfl) :
    PD X (.Call (.Name "isinstance" p) [a, .Name x p2] [] pos) (tdIsi T ta) :=
  pe_weak (pe_callB call_isi hg hmi (by decide +kernel) (pa_cons ha (pa_cons (pe_bltn hg2 hm hv (show RelV (.ty T) (.type T) from rfl) hn hdb) pa_nil he2) he) (by decide) (by decide) he hpl) fun σ H Q ⟨F, O, env, R, P, re, h, k⟩ => by
    refine ⟨F, O, env, _, P, re, h, fun v H1 F1 d O1 s1 rd h1 => ?_⟩
    have h1 : (match kitB (tyD d) T with
      | some b => R (.bl b) O1
      | none => False) := h1
    have fin : ∀ {b : Bool} {t : Value}, TyX X.K H1 v t → PySem.W.kitOne X.K t (.type T) = some b → R (.bl b) O1 → rIsi X.K [v, .ty T] H1 Q := fun {b t} hty hb hr => ⟨v, .ty T, t, .type T, b, rfl, .ty T, hty, hb, k _ H1 F1 _ O1 s1 (.bl b) hr⟩
    have go : ∀ {n : String}, tyD d = n → TyX X.K H1 v (.type n) → rIsi X.K [v, .ty T] H1 Q := fun {n} en hty => by
      rw [en] at h1
      cases hb : kitB n T with
      | none => simp only [hb] at h1
      | some b =>
        simp only [hb] at h1
        exact fin hty (kit_ty hb) h1
    show rIsi X.K [v, .ty T] H1 Q
    cases rd with
    | non => exact go rfl (.base .non)
    | bl b => exact go rfl (.base (.bl b))
    | int i => exact go rfl (.base (.int i))
    | str x => exact go rfl (.base (.str x))
    | tup hx lx => exact go rfl (.base (.tup (s1.pre.fh _ _ hx)))
    | lst hx lx => exact go rfl (.base (.lst (s1.pre.fh _ _ hx)))
    | ptr p =>
      replace h1 : (match kitB "" T with
        | some b => R (.bl b) O1
        | none => False) := h1
      rw [hk] at h1
      exact h1.elim
    | xtp hx lx =>
      rcases sqt_mono s1.pre.fh hx with (h | ⟨ob, h⟩) | ⟨ob, its, n, h, hc, _⟩
      · exact go rfl (.base (.tup h))
      · exact go rfl (.fTuple h)
      · exact go rfl (.kTuple h hc)
    | xls hx lx =>
      rcases sql_mono s1.pre.fh hx with (h | ⟨ob, h⟩) | ⟨ob, its, n, h, hc, _⟩
      · exact go rfl (.base (.lst h))
      · exact go rfl (.base (.frz h))
      · exact go rfl (.kList h hc)

/-! ### in -/
def inD (x : D) (ds : List D) : Bool := (toPys ds).any fun z => PyData.eqv z (toPy x)
def inDD (neg : Bool) (x y : D) (k : D → Prop) : Prop := match x, y with
  | .str x, .str y => match x.cps.toList with
    | [c] => k (.bl (if neg then !decide (c ∈ y.cps.toList) else decide (c ∈ y.cps.toList)))
    | _ => False
  | x, .lst ds => needB (okD 60 x && okDs 59 ds) (k (.bl (if neg then !inD x ds else inD x ds)))
  | x, .tup ds => needB (okD 60 x && okDs 59 ds) (k (.bl (if neg then !inD x ds else inD x ds)))
  | x, .xtp ds => needB (okD 60 x && okDs 59 ds) (k (.bl (if neg then !inD x ds else inD x ds)))
  | _, _ => False
def gIn (neg : Bool) : GOp := fun O x y k => inDD neg (deref O x) (deref O y) k
theorem room_in {A : Around} {d e : PyData} (h : d.depth ≤ 60) (hu : A.units + 65 < cLine) : A.units + 1 + min e.depth d.depth < cLine := by omega
theorem in_str1 {x : Str} {c : Nat} (h : x.cps.toList = [c]) : x = ⟨#[c]⟩ := by
  obtain ⟨a⟩ := x
  congr 1
  exact Array.ext' h
theorem o_in (hu : X.A.units + 65 < cLine) : OpD X (compareOp .In) (gIn false) := by
  intro pins s σ H x y v u Q I rx ry ⟨F, O, dx, dy, R, P, ex, ey, g, k⟩
  unfold gIn at g
  have seq : ∀ (ds : List D) (p : PyData), (p = .list (toPys ds) ∨ p = .tuple (toPys ds)) → Dp X.K H y p → okD 60 (deref O dx) = true → okDs 59 ds = true → R (.bl (inD (deref O dx) ds)) → wpAny (model X.prog X.w) X.A (compareOp .In v u) (EP X pins σ Q) X.xe s := fun ds p hp dpy o1 o2 hr => by
    obtain ⟨as, r1⟩ := Dp.reads I _ x v ((deref_rep P ex).dp o1) rx
    obtain ⟨bs, r2⟩ := Dp.reads I p y u dpy ry
    obtain ⟨l1, l2⟩ := okD_lay 60 _ o1
    obtain ⟨l3, l4⟩ := okDs_lay 59 _ o2
    have fin : EP X pins σ Q (.bool ((toPys ds).any fun z => PyData.eqv z (toPy (deref O dx)))) s := ⟨.bl _, H, I, rfl, k _ _ F _ (.refl P) (.bl _) hr⟩
    have hroom : X.A.units + 1 + min (PyData.depthAll (toPys ds)) (toPy (deref O dx)).depth < cLine := by omega
    rcases hp with rfl | rfl
    · exact SeqAt.in_list_reads r2 r1 l3 l1 hroom fin
    · exact SeqAt.in_tuple_reads r2 r1 l3 l1 hroom fin
  cases hy : deref O dy with
  | str z =>
    rw [hy] at g
    cases hx : deref O dx <;> rw [hx] at g <;> first | exact False.elim g | skip
    rename_i z'
    obtain rfl := inv_str ex hx
    obtain rfl := inv_str ey hy
    replace g : (match z'.cps.toList with
      | [c] => R (.bl (decide (c ∈ z.cps.toList)))
      | _ => False) := g
    split at g
    · rename_i c hc
      exact op_in_sign pins s σ H _ _ v u Q I rx ry ⟨c, z, by rw [in_str1 hc], rfl, k _ _ F _ (.refl P) (.bl _) g⟩
    · exact g.elim
  | lst ds =>
    rw [hy] at g
    obtain ⟨p, ys, rfl, hy2, ly⟩ := inv_lst P ey hy
    have g2 : needB (okD 60 (deref O dx) && okDs 59 ds) (R (.bl (inD (deref O dx) ds))) := by
      cases hx : deref O dx <;> rw [hx] at g <;> exact g
    obtain ⟨g3, g4⟩ := needB_o g2
    obtain ⟨o1, o2⟩ := Bool.and_eq_true_iff.mp g3
    exact seq ds _ (.inl rfl) (.lst (SqL.of hy2) ((ly.mono P.fh).dp o2)) o1 o2 g4
  | tup ds =>
    rw [hy] at g
    obtain ⟨p, ys, rfl, hy2, ly⟩ := inv_tup ey hy
    have g2 : needB (okD 60 (deref O dx) && okDs 59 ds) (R (.bl (inD (deref O dx) ds))) := by
      cases hx : deref O dx <;> rw [hx] at g <;> exact g
    obtain ⟨g3, g4⟩ := needB_o g2
    obtain ⟨o1, o2⟩ := Bool.and_eq_true_iff.mp g3
    exact seq ds _ (.inr rfl) (.tup (SqT.of (P.fh _ _ hy2)) ((ly.mono P.fh).dp o2)) o1 o2 g4
  | xtp ds =>
    rw [hy] at g
    have z := inv_sc ey hy (fun _ h => nomatch h)
    have g2 : needB (okD 60 (deref O dx) && okDs 59 ds) (R (.bl (inD (deref O dx) ds))) := by
      cases hx : deref O dx <;> rw [hx] at g <;> exact g
    obtain ⟨g3, g4⟩ := needB_o g2
    obtain ⟨o1, o2⟩ := Bool.and_eq_true_iff.mp g3
    cases z with
    | xtp hy2 ly => exact seq ds _ (.inr rfl) (.tup (sqt_mono P.fh hy2) ((ly.mono P.fh).dp o2)) o1 o2 g4
  | _ => rw [hy] at g; cases hx : deref O dx <;> rw [hx] at g <;> exact False.elim g
theorem o_notin (hu : X.A.units + 65 < cLine) : OpD X (compareOp .NotIn) (gIn true) := by
  intro pins s σ H x y v u Q I rx ry ⟨F, O, dx, dy, R, P, ex, ey, g, k⟩
  unfold gIn at g
  have seq : ∀ (ds : List D) (p : PyData), (p = .list (toPys ds) ∨ p = .tuple (toPys ds)) → Dp X.K H y p → okD 60 (deref O dx) = true → okDs 59 ds = true → R (.bl (!inD (deref O dx) ds)) → wpAny (model X.prog X.w) X.A (compareOp .NotIn v u) (EP X pins σ Q) X.xe s := fun ds p hp dpy o1 o2 hr => by
    obtain ⟨as, r1⟩ := Dp.reads I _ x v ((deref_rep P ex).dp o1) rx
    obtain ⟨bs, r2⟩ := Dp.reads I p y u dpy ry
    obtain ⟨l1, l2⟩ := okD_lay 60 _ o1
    obtain ⟨l3, l4⟩ := okDs_lay 59 _ o2
    have fin : EP X pins σ Q (.bool (!(toPys ds).any fun z => PyData.eqv z (toPy (deref O dx)))) s := ⟨.bl _, H, I, rfl, k _ _ F _ (.refl P) (.bl _) hr⟩
    have hroom : X.A.units + 1 + min (PyData.depthAll (toPys ds)) (toPy (deref O dx)).depth < cLine := by omega
    rcases hp with rfl | rfl
    · exact SeqAt.notIn_list_reads r2 r1 l3 l1 hroom fin
    · exact SeqAt.notIn_tuple_reads r2 r1 l3 l1 hroom fin
  cases hy : deref O dy with
  | str z =>
    rw [hy] at g
    cases hx : deref O dx <;> rw [hx] at g <;> first | exact False.elim g | skip
    rename_i z'
    obtain rfl := inv_str ex hx
    obtain rfl := inv_str ey hy
    replace g : (match z'.cps.toList with
      | [c] => R (.bl (!decide (c ∈ z.cps.toList)))
      | _ => False) := g
    split at g
    · rename_i c hc
      exact op_notIn_sign pins s σ H _ _ v u Q I rx ry ⟨c, z, by rw [in_str1 hc], rfl, k _ _ F _ (.refl P) (.bl _) g⟩
    · exact g.elim
  | lst ds =>
    rw [hy] at g
    obtain ⟨p, ys, rfl, hy2, ly⟩ := inv_lst P ey hy
    have g2 : needB (okD 60 (deref O dx) && okDs 59 ds) (R (.bl (!inD (deref O dx) ds))) := by
      cases hx : deref O dx <;> rw [hx] at g <;> exact g
    obtain ⟨g3, g4⟩ := needB_o g2
    obtain ⟨o1, o2⟩ := Bool.and_eq_true_iff.mp g3
    exact seq ds _ (.inl rfl) (.lst (SqL.of hy2) ((ly.mono P.fh).dp o2)) o1 o2 g4
  | tup ds =>
    rw [hy] at g
    obtain ⟨p, ys, rfl, hy2, ly⟩ := inv_tup ey hy
    have g2 : needB (okD 60 (deref O dx) && okDs 59 ds) (R (.bl (!inD (deref O dx) ds))) := by
      cases hx : deref O dx <;> rw [hx] at g <;> exact g
    obtain ⟨g3, g4⟩ := needB_o g2
    obtain ⟨o1, o2⟩ := Bool.and_eq_true_iff.mp g3
    exact seq ds _ (.inr rfl) (.tup (SqT.of (P.fh _ _ hy2)) ((ly.mono P.fh).dp o2)) o1 o2 g4
  | xtp ds =>
    rw [hy] at g
    have z := inv_sc ey hy (fun _ h => nomatch h)
    have g2 : needB (okD 60 (deref O dx) && okDs 59 ds) (R (.bl (!inD (deref O dx) ds))) := by
      cases hx : deref O dx <;> rw [hx] at g <;> exact g
    obtain ⟨g3, g4⟩ := needB_o g2
    obtain ⟨o1, o2⟩ := Bool.and_eq_true_iff.mp g3
    cases z with
    | xtp hy2 ly => exact seq ds _ (.inr rfl) (.tup (sqt_mono P.fh hy2) ((ly.mono P.fh).dp o2)) o1 o2 g4
  | _ => rw [hy] at g; cases hx : deref O dx <;> rw [hx] at g <;> exact False.elim g

/-! ### lists: append, extend, pop, a store -/
def tdApp (to : TD) (tr : TDA) : TD := fun env O Q => to env O fun x O1 => match x with
  | .ptr p => match O1 p with
    | some (.lst _) => tr env O1 fun ds O2 => match ds, O2 p with
      | [d], some (.lst xs) => needB (Nat.blt xs.length 16777216) (Q .non (updO O2 p (.lst (xs ++ [d]))))
      | _, _ => False
    | _ => False
  | _ => False
theorem cell_lst {K : PySem.W.Frag} {F H : Hp} {O : DO} {p : Addr} {ds : List D} (P : Pre K F O H) (h : O p = some (.lst ds)) : F p = none ∧ ∃ xs, H p = some (.lst xs) ∧ RepL K F ds xs := P.ro p _ h
theorem d_app (ho : PD X o to) (ha : PAD X [e] tr) (hbase : attributeBase o "append" X.env (eval o X.env) = eval o X.env := by rfl)
    (hfew : ((backTo cpos (starEach [e] X.env)).all (fun x => !x.1) && (backToKw cpos (keywordEach [] X.env)).all (fun x => x.1.isSome)
      && decide ([e].length + ([] : List Keyword).length + (if ([] : List Keyword).isEmpty then 0 else 1) < 30)) = true := by rfl)
    (hline : (apos.endLine == cpos.line) = true := by rfl) (hs : starEach [e] X.env = (false, eval e X.env) :: starEach [] X.env := by rfl) (hplain : (backTo cpos (starEach [] X.env)).any (·.1) = false := by rfl) :
    PD X (.Call (.Attribute o "append" apos) [e] [] cpos) (tdApp to tr) :=
  pe_weak (pe_bm PySem.F.plainAttrs_list PySem.F.slot_list_append PySem.F.type_list_append mt_append ho ha hbase hfew hline hs hplain) fun σ H Q ⟨F, O, env, R, P, re, h, k⟩ => by
    refine ⟨F, O, env, _, P, re, h, fun x H1 F1 dx O1 s1 rx h1 => ?_⟩
    cases rx <;> first | exact h1.elim | skip
    rename_i p
    cases ho1 : O1 p with
    | none => simp only [ho1] at h1
    | some c =>
      cases c <;> simp only [ho1] at h1
      obtain ⟨_, xs1, hx1, _⟩ := cell_lst s1.pre ho1
      refine ⟨.inl ⟨rfl, _, SqL.of hx1⟩, F1, O1, env, _, s1.pre, re.mono s1.ff, h1, fun vs H2 F2 ds O2 s2 rs h2 => ?_⟩
      match ds, rs, h2 with
      | [d], .cons (v := y) rd .nil, h2 =>
        cases ho2 : O2 p with
        | none => simp only [ho2] at h2
        | some c =>
          cases c <;> simp only [ho2] at h2
          obtain ⟨g1, g2⟩ := needB_o h2
          obtain ⟨hF, xs2, hx2, lx2⟩ := cell_lst s2.pre ho2
          refine ⟨p, xs2, y, rfl, rfl, hx2, by rw [← lx2.length, sizeLine_eq]; exact Nat.le_of_ble_eq_true g1, ?_⟩
          exact k _ _ F2 _ _ (s1.trans (s2.trans (Stp.own (c := .lst _) s2.pre hF (.inr ⟨_, ho2⟩) ⟨_, upd_same, lx2.append (.cons rd .nil)⟩))) .non g2
def tdExt (to : TD) (tr : TDA) : TD := fun env O Q => to env O fun x O1 => match x with
  | .ptr p => match O1 p with
    | some (.lst _) => tr env O1 fun ds O2 => match ds, O2 p with
      | [.lst ys], some (.lst xs) => needB (szB (xs.length + ys.length)) (Q .non (updO O2 p (.lst (xs ++ ys))))
      | _, _ => False
    | _ => False
  | _ => False
theorem d_ext (ho : PD X o to) (ha : PAD X [e] tr) (hbase : attributeBase o "extend" X.env (eval o X.env) = eval o X.env := by rfl)
    (hfew : ((backTo cpos (starEach [e] X.env)).all (fun x => !x.1) && (backToKw cpos (keywordEach [] X.env)).all (fun x => x.1.isSome)
      && decide ([e].length + ([] : List Keyword).length + (if ([] : List Keyword).isEmpty then 0 else 1) < 30)) = true := by rfl)
    (hline : (apos.endLine == cpos.line) = true := by rfl) (hs : starEach [e] X.env = (false, eval e X.env) :: starEach [] X.env := by rfl) (hplain : (backTo cpos (starEach [] X.env)).any (·.1) = false := by rfl) :
    PD X (.Call (.Attribute o "extend" apos) [e] [] cpos) (tdExt to tr) :=
  pe_weak (pe_bm PySem.F.plainAttrs_list PySem.F.slot_list_extend PySem.F.type_list_extend mt_extend ho ha hbase hfew hline hs hplain) fun σ H Q ⟨F, O, env, R, P, re, h, k⟩ => by
    refine ⟨F, O, env, _, P, re, h, fun x H1 F1 dx O1 s1 rx h1 => ?_⟩
    cases rx <;> first | exact h1.elim | skip
    rename_i p
    cases ho1 : O1 p with
    | none => simp only [ho1] at h1
    | some c =>
      cases c <;> simp only [ho1] at h1
      obtain ⟨_, xs1, hx1, _⟩ := cell_lst s1.pre ho1
      refine ⟨.inl ⟨rfl, _, SqL.of hx1⟩, F1, O1, env, _, s1.pre, re.mono s1.ff, h1, fun vs H2 F2 ds O2 s2 rs h2 => ?_⟩
      match ds, rs, h2 with
      | [.lst ys], .cons (.lst hy ly) .nil, h2 =>
        cases ho2 : O2 p with
        | none => simp only [ho2] at h2
        | some c =>
          cases c <;> simp only [ho2] at h2
          obtain ⟨g1, g2⟩ := needB_o h2
          obtain ⟨hF, xs2, hx2, lx2⟩ := cell_lst s2.pre ho2
          refine ⟨p, _, xs2, _, rfl, rfl, hx2, s2.pre.fh _ _ hy, by rw [← lx2.length, ← ly.length]; exact szB_ok g1, ?_⟩
          exact k _ _ F2 _ _ (s1.trans (s2.trans (Stp.own (c := .lst _) s2.pre hF (.inr ⟨_, ho2⟩) ⟨_, upd_same, lx2.append ly⟩))) .non g2
def tdPop (to : TD) : TD := fun env O Q => to env O fun x O1 => match x with
  | .ptr p => match O1 p with
    | some (.lst xs) => match xs.getLast? with
      | some d => Q d (updO O1 p (.lst xs.dropLast))
      | none => False
    | _ => False
  | _ => False
theorem d_pop (ho : PD X o to) (hbase : attributeBase o "pop" X.env (eval o X.env) = eval o X.env := by rfl) (hline : (apos.endLine == cpos.line) = true := by rfl) : PD X (.Call (.Attribute o "pop" apos) [] [] cpos) (tdPop to) :=
  pe_weak (pe_bm0 PySem.F.plainAttrs_list PySem.F.slot_list_pop PySem.F.type_list_pop mt_pop ho hbase hline) fun σ H Q ⟨F, O, env, R, P, re, h, k⟩ => by
    refine ⟨F, O, env, _, P, re, h, fun x H1 F1 dx O1 s1 rx h1 => ?_⟩
    cases rx <;> first | exact h1.elim | skip
    rename_i p
    cases ho1 : O1 p with
    | none => simp only [ho1] at h1
    | some c =>
      cases c <;> simp only [ho1] at h1
      rename_i ds
      obtain ⟨hF, xs1, hx1, lx⟩ := cell_lst s1.pre ho1
      cases hl : ds.getLast? with
      | none => simp only [hl] at h1
      | some d =>
        simp only [hl] at h1
        rw [List.getLast?_eq_getElem?] at hl
        obtain ⟨v, h3, h4⟩ := lx.get hl
        refine ⟨.inl ⟨rfl, _, SqL.of hx1⟩, p, xs1, v, rfl, rfl, hx1, by rw [← lx.length]; exact h3, ?_⟩
        exact k _ _ F1 _ _ (s1.trans (Stp.own (c := .lst _) s1.pre hF (.inr ⟨_, ho1⟩) ⟨_, upd_same, lx.dropLast⟩)) h4 h1
/-- o[i] = e of an owned list -/
def tdSetL (te to ti : TD) : TDS := fun DE env O => te env O fun v O1 => to env O1 fun x O2 => ti env O2 fun i O3 => match x, i with
  | .ptr p, .int (.ofNat n) => match O3 p with
    | some (.lst xs) => n < xs.length ∧ DE.nx env (updO O3 p (.lst (xs.set n v)))
    | _ => False
  | _, _ => False
theorem s_setL {i : Expr} {ti : TD} {tpos : Pos} (he : PD X e te) (ho : PD X o to) (hi : PD X i ti)
    (ha : ∀ v, assign (.Subscript o i tpos) X.env v = (do
      let ov ← holding [v] (eval o X.env)
      let iv ← holding [v, ov] (eval i X.env)
      standAt tpos
      holding [v, ov, iv] (setItem ov iv v)
      release [v, ov, iv] []) := by intro _; rfl) (hs : swapsWithSole [.Subscript o i tpos] e pos.line X.env = pure false := by rfl) (hw : swappedStores [.Subscript o i tpos] e X.env = pure none := by rfl)
    (h1 : (assignEach [.Subscript o i tpos] X.env).map (·.2) = [assign (.Subscript o i tpos) X.env] := by rfl) : PSD X (.Assign [.Subscript o i tpos] e pos) (tdSetL te to ti) :=
  ps_weak (ps_asg he (pg_sub ho hi set_list ha) hs hw h1) fun E σ H ⟨F, O, env, DE, P, re, h, k⟩ => by
    refine ⟨F, O, env, _, P, re, h, fun v H1 F1 d O1 s1 r1 h1 => ⟨F1, O1, env, _, s1.pre, re.mono s1.ff, h1, fun x H2 F2 dx O2 s2 rx h2 => ⟨F2, O2, env, _, s2.pre, re.mono (s1.ff.trans s2.ff), h2, fun y H3 F3 dy O3 s3 ry h3 => ?_⟩⟩⟩
    cases rx <;> first | exact h3.elim | skip
    rename_i p
    cases ry <;> first | exact h3.elim | skip
    rename_i z
    cases z with
    | negSucc m => exact h3.elim
    | ofNat n =>
      cases ho : O3 p with
      | none => simp only [ho] at h3
      | some c =>
        cases c <;> simp only [ho] at h3
        obtain ⟨g1, g2⟩ := h3
        obtain ⟨hF, xs1, hx1, lx⟩ := cell_lst s3.pre ho
        refine ⟨p, xs1, (n : Int), n, rfl, rfl, hx1, ?_, ?_⟩
        · unfold ixN
          rw [if_pos (by omega), if_pos (by rw [← lx.length]; omega)]
          rfl
        · exact k.nx _ _ F3 _ _ (s1.trans (s2.trans (s3.trans (Stp.own (c := .lst _) s3.pre hF (.inr ⟨_, ho⟩) ⟨_, upd_same, lx.set n (r1.mono (s2.ff.trans s3.ff))⟩)))) (re.mono (s1.ff.trans (s2.ff.trans s3.ff))) g2

/-! ### texts -/
def tdSplit (to te : TD) : TD := fun env O Q => to env O fun x O1 => match x with
  | .str a => te env O1 fun y O2 => match y with
    | .str b => needB (!(b.length == 0) && szB (a.length + 2)) (Q (.lst ((Txt.split a b).map .str)) O2)
    | _ => False
  | _ => False
theorem d_split (ho : PD X o to) (he : PD X e te) (hs : starEach [e] X.env = [(false, eval e X.env)] := by rfl) (hbase : attributeBase o "split" X.env (eval o X.env) = eval o X.env := by rfl) (hline : (apos.endLine == pos.line) = true := by rfl) : PD X (.Call (.Attribute o "split" apos) [e] [] pos) (tdSplit to te) :=
  pe_weak (pe_split ho he hs hbase hline) fun σ H Q ⟨F, O, env, R, P, re, h, k⟩ => by
    refine ⟨F, O, env, _, P, re, h, fun x H1 F1 dx O1 s1 rx h1 => ?_⟩
    cases rx <;> first | exact h1.elim | skip
    rename_i a
    refine ⟨⟨a, rfl⟩, F1, O1, env, _, s1.pre, re.mono s1.ff, h1, fun y H2 F2 dy O2 s2 ry h2 => ?_⟩
    cases ry <;> first | exact h2.elim | skip
    rename_i b
    obtain ⟨g1, g2⟩ := needB_o h2
    obtain ⟨g3, g4⟩ := Bool.and_eq_true_iff.mp g1
    refine ⟨a, b, rfl, rfl, by simpa using g3, szB_ok g4, fun p hp => ?_⟩
    have z := Stp.lst s2.pre hp (RepL.ofStrs (K := X.K) (F := F2) (Txt.split a b))
    exact k _ _ _ _ O2 (s1.trans (s2.trans z.1)) z.2 g2
def tdJoin (to te : TD) : TD := fun env O Q => to env O fun x O1 => match x with
  | .str a => te env O1 fun y O2 => match y with
    | .lst ds => match strsD ds with
      | some ys => needB (Nat.ble ((ys.map (·.length)).sum + ys.length * a.length) 16777216) (Q (.str (Txt.join a ys)) O2)
      | none => False
    | _ => False
  | _ => False
theorem d_join (ho : PD X o to) (he : PD X e te) (hs : starEach [e] X.env = [(false, eval e X.env)] := by rfl) (hbase : attributeBase o "join" X.env (eval o X.env) = eval o X.env := by rfl) (hline : (apos.endLine == pos.line) = true := by rfl) : PD X (.Call (.Attribute o "join" apos) [e] [] pos) (tdJoin to te) :=
  pe_weak (pe_join ho he hs hbase hline) fun σ H Q ⟨F, O, env, R, P, re, h, k⟩ => by
    refine ⟨F, O, env, _, P, re, h, fun x H1 F1 dx O1 s1 rx h1 => ?_⟩
    cases rx <;> first | exact h1.elim | skip
    rename_i a
    refine ⟨⟨a, rfl⟩, F1, O1, env, _, s1.pre, re.mono s1.ff, h1, fun y H2 F2 dy O2 s2 ry h2 => ?_⟩
    cases ry <;> first | exact h2.elim | skip
    rename_i xs ds hx lx
    cases e : strsD ds with
    | none => simp only [e] at h2
    | some ys =>
      simp only [e] at h2
      obtain ⟨g1, g2⟩ := needB_o h2
      have e2 := strsD_ok e
      subst e2
      have e3 := RepL.strs lx
      subst e3
      exact ⟨a, _, ys, rfl, rfl, .inl (SqL.of (s2.pre.fh _ _ hx)), Nat.le_of_ble_eq_true g1, k _ _ F2 _ O2 (s1.trans s2) (.str _) g2⟩

/-! ### dicts -/
/-- d[k] -/
def getDD (O : DO) (x y : D) (k : D → Prop) : Prop := match x with
  | .ptr p => match O p with
    | some (.dK kvs) => match keyD y with
      | some z => match lookK kvs z with
        | some d => k d
        | none => False
      | none => False
    | some (.dT kvs) => match y with
      | .tup ds => match keysD ds with
        | some z => match lookK kvs z with
          | some d => k d
          | none => False
        | none => False
      | _ => False
    | _ => False
  | _ => False
def tdDGet (to ty : TD) : TD := fun env O Q => to env O fun x O1 => ty env O1 fun y O2 => getDD O2 x y fun d => Q d O2
theorem d_dget (hu : X.A.units + 1 < cLine) {i : Expr} (ho : PD X o to) (hi : PD X i ty) (hs : NoSl i := by intro _ _; rfl) : PD X (.Subscript o i pos) (tdDGet to ty) :=
  pe_weak (pe_dget hu ho hi hs) fun σ H Q ⟨F, O, env, R, P, re, h, k⟩ => by
    refine ⟨F, O, env, _, P, re, h, fun x H1 F1 dx O1 s1 rx h1 => ⟨F1, O1, env, _, s1.pre, re.mono s1.ff, h1, fun y H2 F2 dy O2 s2 ry h2 => ?_⟩⟩
    have s12 := s1.trans s2
    unfold getDD at h2
    cases rx <;> first | exact h2.elim | skip
    rename_i p
    cases ho : O2 p with
    | none => simp only [ho] at h2
    | some c =>
      cases c <;> simp only [ho] at h2
      · cases hk : keyD dy with
        | none => simp only [hk] at h2
        | some z =>
          simp only [hk] at h2
          rename_i kvs
          cases hl : lookK kvs z with
          | none => simp only [hl] at h2
          | some d =>
            simp only [hl] at h2
            obtain ⟨hF, ws, hw, lw⟩ := s2.pre.ro p _ ho
            obtain ⟨v, h3, h4⟩ := (lookK_rep lw).1 d hl
            exact ⟨p, v, rfl, .inl ⟨ws, z, .inl hw, keyD_rep ry hk, h3.symm⟩, k _ _ F2 _ O2 s12 h4 h2⟩
      · cases ry <;> simp only at h2
        rename_i kvs q xs ds hq lq
        cases hk : keysD ds with
        | none => simp only [hk] at h2
        | some z =>
          simp only [hk] at h2
          cases hl : lookK kvs z with
          | none => simp only [hl] at h2
          | some d =>
            simp only [hl] at h2
            obtain ⟨hF, ws, hw, lw⟩ := s2.pre.ro p _ ho
            obtain ⟨v, h3, h4⟩ := (lookK_rep lw).1 d hl
            exact ⟨p, v, rfl, .inr ⟨ws, z, _, .inl hw, rfl, by rw [← keysD_rep lq hk]; exact s2.pre.fh _ _ hq, h3.symm⟩, k _ _ F2 _ O2 s12 h4 h2⟩
/-- k not in d, of a dict with int or text keys -/
def tdDNotIn (ty to : TD) : TD := fun env O Q => ty env O fun y O1 => to env O1 fun x O2 => match x with
  | .ptr p => match O2 p with
    | some (.dK kvs) => match keyD y with
      | some z => Q (.bl (!(lookK kvs z).isSome)) O2
      | none => False
    | _ => False
  | _ => False
theorem dnotin_lift {K : PySem.W.Frag} {σ : L2.St} {H : Hp} {Q : VK} (h : liftE K (tdDNotIn ty to) σ H Q) : tDNotIn (liftE K ty) (liftE K to) σ H Q := by
  obtain ⟨F, O, env, R, P, re, h, k⟩ := h
  refine ⟨F, O, env, _, P, re, h, fun y H1 F1 dy O1 s1 ry h1 => ⟨F1, O1, env, _, s1.pre, re.mono s1.ff, h1, fun x H2 F2 dx O2 s2 rx h2 => ?_⟩⟩
  have s12 := s1.trans s2
  cases rx <;> first | exact h2.elim | skip
  rename_i p
  cases ho : O2 p with
  | none => simp only [ho] at h2
  | some c =>
    cases c <;> simp only [ho] at h2
    cases hk : keyD dy with
    | none => simp only [hk] at h2
    | some z =>
      simp only [hk] at h2
      rename_i kvs
      obtain ⟨hF, ws, hw, lw⟩ := s2.pre.ro p _ ho
      have eq : (valV ws z).isSome = (lookK kvs z).isSome := by
        cases hl : lookK kvs z with
        | none => rw [(lookK_rep lw).2 hl]; rfl
        | some d =>
          obtain ⟨v, h3, _⟩ := (lookK_rep lw).1 d hl
          rw [h3] <;> rfl
      refine ⟨p, valV ws z, rfl, .inl ⟨ws, z, .inl hw, keyD_rep (ry.mono s2.ff) hk, rfl⟩, ?_⟩
      rw [eq]
      exact k _ _ F2 _ O2 s12 (.bl _) h2
theorem d_dnotin (hu : X.A.units + 1 < cLine) {i : Expr} (hi : PD X i ty) (ho : PD X o to) (hm : behindInMarks .NotIn o = false := by rfl) : PD X (.Compare i [.NotIn] [o] pos) (tdDNotIn ty to) := pe_weak (pe_cmp (pc_dnotin hu hi ho) hm) fun σ H Q h => dnotin_lift h
theorem t_dnotin (hu : X.A.units + 1 < cLine) {i : Expr} (hi : PD X i ty) (ho : PD X o to) (hm : behindInMarks .NotIn o = false := by rfl) : PTD X (.Compare i [.NotIn] [o] pos) (tdT (tdDNotIn ty to)) :=
  pt_weak (pt_cmp (pc_dnotin hu hi ho) hm) fun σ H Q h => dnotin_lift (Q := fun x H1 => ∃ c, x = .bl c ∧ Q c H1) (test_lift h)
/-- d[k] = v -/
def tdDPut (te to ty : TD) : TDS := fun DE env O => te env O fun v O1 => to env O1 fun x O2 => ty env O2 fun y O3 => match x with
  | .ptr p => match O3 p with
    | some (.dK kvs) => match keyD y with
      | some z => needB (Nat.blt kvs.length 16777216) (DE.nx env (updO O3 p (.dK (putKD kvs z v))))
      | none => False
    | some (.dT kvs) => match y with
      | .tup ds => match keysD ds with
        | some z => needB (Nat.blt kvs.length 16777216) (DE.nx env (updO O3 p (.dT (putKD kvs z v))))
        | none => False
      | _ => False
    | _ => False
  | _ => False
theorem s_dput (hu : X.A.units + 1 < cLine) {i : Expr} {pos' : Pos} (he : PD X e te) (ho : PD X o to) (hi : PD X i ty) (hs : swapsWith e (some (.Subscript o i pos')) pos.line X.env = pure false := by rfl) : PSD X (.Assign [.Subscript o i pos'] e pos) (tdDPut te to ty) :=
  ps_weak (ps_dput hu ho hi he hs) fun E σ H ⟨F, O, env, DE, P, re, h, k⟩ => by
    refine ⟨F, O, env, _, P, re, h, fun v H1 F1 dv O1 s1 rv h1 => ⟨F1, O1, env, _, s1.pre, re.mono s1.ff, h1, fun x H2 F2 dx O2 s2 rx h2 => ⟨F2, O2, env, _, s2.pre, re.mono (s1.ff.trans s2.ff), h2, fun y H3 F3 dy O3 s3 ry h3 => ?_⟩⟩⟩
    have s13 := s1.trans (s2.trans s3)
    have rv3 := rv.mono (s2.ff.trans s3.ff)
    cases rx <;> first | exact h3.elim | skip
    rename_i p
    cases ho : O3 p with
    | none => simp only [ho] at h3
    | some c =>
      cases c <;> simp only [ho] at h3
      · cases hk : keyD dy with
        | none => simp only [hk] at h3
        | some z =>
          simp only [hk] at h3
          rename_i kvs
          obtain ⟨g1, g2⟩ := needB_o h3
          obtain ⟨hF, ws, hw, lw⟩ := s3.pre.ro p _ ho
          refine ⟨p, _, rfl, .inl ⟨ws, z, hw, keyD_rep ry hk, by rw [← lw.length, sizeLine_eq]; exact Nat.le_of_ble_eq_true g1, rfl⟩, ?_⟩
          exact k.nx _ _ F3 _ _ (s13.trans (Stp.own (c := .dK _) s3.pre hF (.inr ⟨_, ho⟩) ⟨_, upd_same, put_rep lw rv3⟩)) (re.mono s13.ff) g2
      · cases ry <;> simp only at h3
        rename_i kvs q xs ds hq lq
        cases hk : keysD ds with
        | none => simp only [hk] at h3
        | some z =>
          simp only [hk] at h3
          obtain ⟨g1, g2⟩ := needB_o h3
          obtain ⟨hF, ws, hw, lw⟩ := s3.pre.ro p _ ho
          refine ⟨p, _, rfl, .inr ⟨ws, z, _, hw, rfl, by rw [← keysD_rep lq hk]; exact s3.pre.fh _ _ hq, by rw [← lw.length, sizeLine_eq]; exact Nat.le_of_ble_eq_true g1, rfl⟩, ?_⟩
          exact k.nx _ _ F3 _ _ (s13.trans (Stp.own (c := .dT _) s3.pre hF (.inr ⟨_, ho⟩) ⟨_, upd_same, put_rep lw rv3⟩)) (re.mono s13.ff) g2
end
end Dl

set_option maxRecDepth 100000
set_option maxHeartbeats 2000000
/-! THE DATA LAYER, 7: own instances, methods, calls of a slot's def, dict displays, dict of pairs, sorted of a dict. -/
namespace Dl
open PySem PySem.Spec PyProof.Rows L2
/-! ### own instances -/
def lkF (f : Str) : List (Str × D) → Option D
  | [] => none
  | (g, x) :: r => if f = g then some x else lkF f r
def putFD (f : Str) (v : D) : List (Str × D) → List (Str × D)
  | [] => [(f, v)]
  | (g, x) :: r => if g = f then (g, v) :: r else (g, x) :: putFD f v r
section
variable {K : PySem.W.Frag} {F : Hp}
theorem lkF_rep : ∀ {fs : List (Str × D)} {vs : List (Str × V)} {f : Str}, RepKV K F fs vs → (∀ d, lkF f fs = some d → ∃ v, vs.lookup f = some v ∧ Rep K F d v) ∧ (lkF f fs = none → vs.lookup f = none)
  | _, _, f, .nil => ⟨fun d h => (nomatch h), fun _ => rfl⟩
  | (g, x) :: fs, (g', y) :: vs, f, .cons ⟨h1, h2⟩ r => by
    obtain rfl : g = g' := h1
    unfold lkF
    by_cases e : f = g
    · subst e
      rw [if_pos rfl]
      refine ⟨fun d h => ⟨y, by simp [List.lookup], ?_⟩, fun h => (nomatch h)⟩
      cases h
      exact h2
    · rw [if_neg e]
      have e2 : (f == g) = false := beq_eq_false_iff_ne.mpr e
      simp only [List.lookup, e2]
      exact lkF_rep r
theorem putF_rep : ∀ {fs : List (Str × D)} {vs : List (Str × V)} {f : Str} {d : D} {v : V}, RepKV K F fs vs → Rep K F d v → RepKV K F (putFD f d fs) (putF f v vs)
  | _, _, f, d, v, .nil, hd => .cons ⟨rfl, hd⟩ .nil
  | (g, x) :: fs, (g', y) :: vs, f, d, v, .cons ⟨h1, h2⟩ r, hd => by
    obtain rfl : g = g' := h1
    show RepKV K F (if g = f then (g, d) :: fs else (g, x) :: putFD f d fs) (if g = f then (g, v) :: vs else (g, y) :: putF f v vs)
    by_cases e : g = f
    · rw [if_pos e, if_pos e]
      exact .cons ⟨rfl, hd⟩ r
    · rw [if_neg e, if_neg e]
      exact .cons ⟨rfl, h2⟩ (putF_rep r hd)
end
theorem cell_obj {K : PySem.W.Frag} {F H : Hp} {O : DO} {p C : Addr} {fs : List (Str × D)} (P : Pre K F O H) (h : O p = some (.obj C fs)) : F p = none ∧ ∃ dx vs, H p = some (.ins C dx vs) ∧ RepKV K F fs vs := P.ro p _ h
section
variable {X : Cx} {a b e o value : Expr} {es : List Expr} {ta tb te to tv : TD} {tr : TDA} {pos pos' apos cpos : Pos} {f : Str}
/-- o.f -/
def tdFld (C : Addr) (to : TD) (f : Str) : TD := fun env O Q => to env O fun x O1 => match x with
  | .ptr p => match O1 p with
    | some (.obj C' fs) => C' = C ∧ match lkF f fs with
      | some d => Q d O1
      | none => False
    | _ => False
  | _ => False
theorem d_fld {C : Addr} (c : Cls X.K C) (n : NoAttr X.K C f) (ho : PD X o to) (hb : attributeBase o f X.env (eval o X.env) = eval o X.env := by rfl) : PD X (.Attribute o f pos) (tdFld C to f) :=
  pe_weak (pe_fld ho hb) fun σ H Q ⟨F, O, env, R, P, re, h, k⟩ => by
    refine ⟨F, O, env, _, P, re, h, fun x H1 F1 dx O1 s1 rx h1 => ?_⟩
    cases rx <;> first | exact h1.elim | skip
    rename_i p
    cases ho1 : O1 p with
    | none => simp only [ho1] at h1
    | some cc =>
      cases cc <;> simp only [ho1] at h1
      rename_i C' fs
      obtain ⟨rfl, h1⟩ := h1
      cases hl : lkF f fs with
      | none => simp only [hl] at h1
      | some d =>
        simp only [hl] at h1
        obtain ⟨hF, dx, vs, hv, lv⟩ := cell_obj s1.pre ho1
        obtain ⟨v, h3, h4⟩ := (lkF_rep lv).1 d hl
        exact ⟨p, _, dx, vs, v, rfl, hv, c, n, h3, k _ H1 F1 _ O1 s1 h4 h1⟩
/-- o.f = value -/
def tdSetF (C : Addr) (tv to : TD) (f : Str) : TDS := fun DE env O => tv env O fun v O1 => to env O1 fun x O2 => match x with
  | .ptr p => match O2 p with
    | some (.obj C' fs) => C' = C ∧ needB (Nat.blt fs.length 1000) (DE.nx env (updO O2 p (.obj C (putFD f v fs))))
    | _ => False
  | _ => False
theorem s_setF {C : Addr} (c : Cls X.K C) (n : NoAttr X.K C f) (hv : PD X value tv) (ho : PD X o to) (hs : swapsWith value (some (.Attribute o f pos')) pos.line X.env = pure false := by rfl) : PSD X (.Assign [.Attribute o f pos'] value pos) (tdSetF C tv to f) :=
  ps_weak (ps_fld ho hv hs) fun E σ H ⟨F, O, env, DE, P, re, h, k⟩ => by
    refine ⟨F, O, env, _, P, re, h, fun y H1 F1 dy O1 s1 ry h1 => ⟨F1, O1, env, _, s1.pre, re.mono s1.ff, h1, fun x H2 F2 dx O2 s2 rx h2 => ?_⟩⟩
    cases rx <;> first | exact h2.elim | skip
    rename_i p
    cases ho2 : O2 p with
    | none => simp only [ho2] at h2
    | some cc =>
      cases cc <;> simp only [ho2] at h2
      rename_i C' fs
      obtain ⟨rfl, h2⟩ := h2
      obtain ⟨g1, g2⟩ := needB_o h2
      obtain ⟨hF, dx, vs, hv, lv⟩ := cell_obj s2.pre ho2
      have s12 := s1.trans s2
      refine ⟨p, _, dx, vs, rfl, hv, c, n, by rw [← lv.length]; exact Nat.le_of_ble_eq_true g1, ?_⟩
      exact k.nx _ _ F2 _ _ (s12.trans (Stp.own (c := .obj _ _) s2.pre hF (.inr ⟨_, ho2⟩) ⟨dx, _, upd_same, putF_rep lv (ry.mono s2.ff)⟩)) (re.mono s12.ff) g2
/-- a class's method keeps the promise g (self first) -/
structure MDef (P : Program) (w : World) (K : PySem.W.Frag) (mg : Str → Option Value) (base : Heap) (k : Nat) (C : Addr) (m : Str) (ps : List Str) (g : GC) : Prop where
  ex : ∃ f fd, Meth K C m f ∧ Binds K fd ps [] ∧ FnOk P w K mg base CX0 k f fd ps (spD K g)
def tdMeth (C : Addr) (m : Str) (g : GC) (to : TD) (tr : TDA) : TD := fun env O Q => to env O fun x O1 => match x with
  | .ptr p => match O1 p with
    | some (.obj C' fs) => C' = C ∧ lkF m fs = none ∧ tr env O1 fun ds O2 => g (.ptr p :: ds) O2 Q
    | _ => False
  | _ => False
theorem meth_lift {K : PySem.W.Frag} {C : Addr} {m : Str} {g : GC} {σ : L2.St} {H : Hp} {Q : VK} (h : liftE K (tdMeth C m g to tr) σ H Q) : tMeth C m (spD K g) [] E0 (liftE K to) (liftA K tr) σ H Q := by
  obtain ⟨F, O, env, R, P, re, h, k⟩ := h
  refine ⟨F, O, env, _, P, re, h, fun x H1 F1 dx O1 s1 rx h1 => ?_⟩
  cases rx <;> first | exact h1.elim | skip
  rename_i p
  cases ho1 : O1 p with
  | none => simp only [ho1] at h1
  | some cc =>
    cases cc <;> simp only [ho1] at h1
    rename_i C' fs
    obtain ⟨rfl, hl, h1⟩ := h1
    obtain ⟨hF, dx, vs, hv, lv⟩ := cell_obj s1.pre ho1
    refine ⟨p, dx, vs, rfl, hv, (lkF_rep lv).2 hl, F1, O1, env, _, s1.pre, re.mono s1.ff, h1, fun vs H2 F2 ds O2 s2 rs h2 => ?_⟩
    show spD K g (V.ref p :: (vs ++ [])) H2 Q E0
    rw [List.append_nil]
    exact ⟨F2, O2, .ptr p :: ds, R, s2.pre, .cons (.ptr p) rs, h2, fun v H3 F3 d O3 s3 rv hr => k v H3 F3 d O3 (s1.trans (s2.trans s3)) rv hr⟩
theorem d_meth {k j : Nat} {C : Addr} {m : Str} {ps : List Str} {g : GC} {pl : Sem Bool} (c : Cls X.K C) (M : MDef X.prog X.w X.K X.mg X.base k C m ps g) (hr : Room j X.A) (hk : Nat.ble k j = true) (ho : PD X o to) (ha : PAD X (e :: es) tr)
    (hst : starEach (e :: es) X.env = (false, eval e X.env) :: starEach es X.env := by rfl) (hpl : (backTo pos (starEach es X.env)).any (·.1) = false := by rfl)
    (ht : eval (.Call (.Attribute o m apos) (e :: es) [] pos) X.env = (do
      let ov ← eval o X.env
      standAt apos.atName
      let (f, first) ← holding [ov] (getMethod ov m pl)
      callWith pos f first (backTo pos (starEach (e :: es) X.env)) (backToKw pos (keywordEach [] X.env))) := by rfl) : PD X (.Call (.Attribute o m apos) (e :: es) [] pos) (tdMeth C m g to tr) := by
  obtain ⟨f, fd, hm, hb, F⟩ := M.ex
  exact pe_weak (pe_meth ho c hm (F.mono (Nat.le_of_ble_eq_true hk)) hr hb .nil pass0 ha hst hpl ht) fun σ H Q h => meth_lift h
theorem d_meth0 {k j : Nat} {C : Addr} {m : Str} {ps : List Str} {g : GC} {pl : Sem Bool} (c : Cls X.K C) (M : MDef X.prog X.w X.K X.mg X.base k C m ps g) (hr : Room j X.A) (hk : Nat.ble k j = true) (ho : PD X o to)
    (ht : eval (.Call (.Attribute o m apos) [] [] pos) X.env = (do
      let ov ← eval o X.env
      standAt apos.atName
      let (f, first) ← holding [ov] (getMethod ov m pl)
      callWith pos f first (backTo pos (starEach [] X.env)) (backToKw pos (keywordEach [] X.env))) := by rfl) : PD X (.Call (.Attribute o m apos) [] [] pos) (tdMeth C m g to tdNil) := by
  obtain ⟨f, fd, hm, hb, F⟩ := M.ex
  refine pe_weak (pe_meth0 ho c hm (F.mono (Nat.le_of_ble_eq_true hk)) hr hb .nil pass0 ht) fun σ H Q h => ?_
  obtain ⟨F, O, env, R, P, re, h, k⟩ := h
  refine ⟨F, O, env, _, P, re, h, fun x H1 F1 dx O1 s1 rx h1 => ?_⟩
  cases rx <;> first | exact h1.elim | skip
  rename_i p
  cases ho1 : O1 p with
  | none => simp only [ho1] at h1
  | some cc =>
    cases cc <;> simp only [ho1] at h1
    rename_i C' fs
    obtain ⟨rfl, hl, h1⟩ := h1
    obtain ⟨hF, dx, vs, hv, lv⟩ := cell_obj s1.pre ho1
    exact ⟨p, dx, vs, rfl, hv, (lkF_rep lv).2 hl, F1, O1, [.ptr p], R, s1.pre, .cons (.ptr p) .nil, h1, fun v H3 F3 d O3 s3 rv hr => k v H3 F3 d O3 (s1.trans s3) rv hr⟩
/-- C(..): __init__ keeps g -/
structure IDef (P : Program) (w : World) (K : PySem.W.Frag) (mg : Str → Option Value) (base : Heap) (k : Nat) (x : Str) (C : Addr) (ps : List Str) (g : GC) : Prop where
  ex : ∃ f fd, mg x = some (.ref C) ∧ Mk K C f ∧ Binds K fd ps [] ∧ FnOk P w K mg base CX0 k f fd ps (spD K g)
def tdMake (C : Addr) (g : GC) (tr : TDA) : TD := fun env O Q => tr env O fun ds O1 => ∀ p, O1 p = none → g (.ptr p :: ds) (updO O1 p (.obj C [])) fun d O2 => d = .non ∧ Q (.ptr p) O2
theorem d_make {k j : Nat} {C : Addr} {x : Str} {ps : List Str} {g : GC} {p : Pos} (M : IDef X.prog X.w X.K X.mg X.base k x C ps g) (hr : Room j X.A) (hk : Nat.ble (k + 1) j = true) (ha : PAD X (e :: es) tr) (hg : Gl X x := by rfl)
    (hdb : (x == ("__debug__" : Str)) = false := by decide) (he : starEach (e :: es) X.env = (false, eval e X.env) :: starEach es X.env := by rfl) (hpl : (backTo pos (starEach es X.env)).any (·.1) = false := by rfl) :
    PD X (.Call (.Name x p) (e :: es) [] pos) (tdMake C g tr) := by
  obtain ⟨f, fd, hm, mk, hb, F⟩ := M.ex
  refine pe_weak (pe_make mk F (hr.mono (Nat.le_of_ble_eq_true hk)) hg hm hb .nil pass0 ha hdb he hpl) fun σ H Q h => ?_
  obtain ⟨F, O, env, R, P, re, h, k⟩ := h
  refine ⟨F, O, env, _, P, re, h, fun vs H1 F1 ds O1 s1 rs h1 x dx hx hdx hne => ?_⟩
  show spD X.K g (V.ref x :: (vs ++ [])) _ _ E0
  rw [List.append_nil]
  have z1 := Stp.fz (o := .own x) s1.pre hdx
  have hx2 : (upd H1 dx (.own x)) x = none := by rw [upd_ne (Ne.symm hne)]; exact hx
  have fr := z1.pre.fresh hx2
  have z2 := Stp.own (o := .ins C dx []) (c := .obj C []) z1.pre fr.1 (.inl hx2) ⟨dx, [], upd_same, .nil⟩
  refine ⟨_, _, .ptr x :: ds, _, z2.pre, .cons (.ptr x) (rs.mono (z1.ff.trans z2.ff)), h1 x fr.2, fun v H3 F3 d O3 s3 rv hr => ?_⟩
  obtain ⟨rfl, hr⟩ := hr
  cases rv
  exact ⟨rfl, k _ H3 F3 _ O3 (s1.trans (z1.trans (z2.trans s3))) (.ptr x) hr⟩
/-- f(..), f a slot that holds one of the defs that S tells -/
def tdCallL (i : Nat) (S : Addr → GC → Prop) (tr : TDA) : TD := fun env O Q => ∃ f g, lk env i = some (.ptr f) ∧ S f g ∧ tr env O fun ds O1 => g ds O1 Q
theorem d_callL {k j : Nat} {x : Str} {p : Pos} {S : Addr → GC → Prop} (i : Nat) (A : ∀ f g, S f g → Held X.prog X.w X.K X.mg X.base k f (spD X.K g)) (hr : Room j X.A) (hk : Nat.ble k j = true) (ha : PAD X (e :: es) tr) (hN : X.N[i]? = some x := by rfl)
    (hv : Vis X.env.scope x := by first | exact Or.inl rfl | exact Or.inr (Or.inl rfl) | exact Or.inr (Or.inr rfl)) (hdb : (x == ("__debug__" : Str)) = false := by decide) (hcd : (x == ("__classdict__" : Str)) = false := by decide)
    (he : starEach (e :: es) X.env = (false, eval e X.env) :: starEach es X.env := by rfl) (hpl : (backTo pos (starEach es X.env)).any (·.1) = false := by rfl) : PD X (.Call (.Name x p) (e :: es) [] pos) (tdCallL i S tr) := by
  refine ⟨fun pins s σ H Q I h => ?_⟩
  obtain ⟨F, O, env, R, P, re, ⟨f, g, hl, hS, h⟩, k⟩ := h
  obtain ⟨fd, ps, Fn, hkp, hb⟩ := (A f g hS).ex
  refine (pe_callL (i := i) (f := f) (sp := spD X.K g) (dvs := []) (E := fun _ _ _ => False) (Fn.mono (Nat.le_of_ble_eq_true hk)) hr hN hv hkp hb .nil (fun _ _ _ _ _ _ _ z => z.elim) ha hdb hcd he hpl).run pins s σ H Q I ⟨?_, ?_⟩
  · obtain ⟨v, h1, h2⟩ := re.lk hl
    cases h2
    exact h1
  · refine ⟨F, O, env, _, P, re, h, fun vs H1 F1 ds O1 s1 rs h1 => ?_⟩
    show spD X.K g (vs ++ []) H1 Q _
    rw [List.append_nil]
    exact ⟨F1, O1, ds, R, s1.pre, rs, h1, fun v H2 F2 d O2 s2 rv hr => k v H2 F2 d O2 (s1.trans s2) rv hr⟩
end
end Dl

set_option maxRecDepth 100000
set_option maxHeartbeats 2000000
/-! THE DATA LAYER, 8: dict displays, dict of pairs, sorted of a dict, texts repeated. -/
namespace Dl
open PySem PySem.Spec PyProof.Rows L2
/-! ### {k: v, ..} -/
abbrev TDP := DEnv → DO → (List (D × D) → DO → Prop) → Prop
def RepP (K : PySem.W.Frag) (F : Hp) : List (D × D) → List (V × V) → Prop := Paired fun p q => Rep K F p.1 q.1 ∧ Rep K F p.2 q.2
def liftP (K : PySem.W.Frag) (trs : List (TE × TE)) (t : TDP) : Prop := ∀ σ H (Q : List (V × V) → Hp → Prop), (∃ F O env R, Pre K F O H ∧ RepE K F σ env ∧ t env O R ∧ ∀ ps H' F' ds O', Stp K F O H F' O' H' → RepP K F' ds ps → R ds O' → Q ps H') → tPairs trs σ H Q
/-- the pairs of a display -/
structure PPD (X : Cx) (pos : Pos) (keys : List (Option Expr)) (values : List Expr) (t : TDP) : Prop where
  ex : ∃ trs, PPs X pos keys values trs ∧ liftP X.K trs t
theorem RepP.mono {K : PySem.W.Frag} {F F' : Hp} (e : Same F F') {ds : List (D × D)} {ps : List (V × V)} (r : RepP K F ds ps) : RepP K F' ds ps := Paired.mapP r fun _ _ ⟨h, r⟩ => ⟨h.mono e, r.mono e⟩
def tpNil : TDP := fun _ O Q => Q [] O
def tpCons (tk tv : TD) (tr : TDP) : TDP := fun env O Q => tk env O fun k O1 => tv env O1 fun v O2 => tr env O2 fun ps O3 => Q ((k, v) :: ps) O3
def pairsK : List (D × D) → Option (List (Key × D))
  | [] => some []
  | (k, v) :: r => match keyD k, pairsK r with
    | some k, some r => some ((k, v) :: r)
    | _, _ => none
def mergeKD (kvs more : List (Key × D)) : List (Key × D) := more.foldl (fun acc kv => putKD acc kv.1 kv.2) kvs
section
variable {K : PySem.W.Frag} {F : Hp}
theorem merge_rep : ∀ {more : List (Key × D)} {ws : List (Key × V)} {kvs : List (Key × D)} {vs : List (Key × V)}, RepKV K F more ws → RepKV K F kvs vs → RepKV K F (mergeKD kvs more) (mergeK vs ws)
  | _, _, _, _, .nil, r => r
  | (k, d) :: more, (k', v) :: ws, kvs, vs, .cons ⟨h1, h2⟩ q, r => by
    obtain rfl : k = k' := h1
    show RepKV K F (mergeKD (putKD kvs k d) more) (mergeK (putK vs k v) ws)
    exact merge_rep q (put_rep r h2)
theorem pairsK_rep : ∀ {ds : List (D × D)} {ps : List (V × V)} {kvs : List (Key × D)}, RepP K F ds ps → pairsK ds = some kvs → ∃ ws : List (Key × V), ps = ws.map (fun kv => (kV kv.1, kv.2)) ∧ RepKV K F kvs ws
  | _, _, kvs, .nil, h => by
    cases h
    exact ⟨[], rfl, .nil⟩
  | (k, d) :: ds, (u, v) :: ps, kvs, .cons ⟨h1, h2⟩ r, h => by
    unfold pairsK at h
    split at h
    · rename_i z r' e1 e2
      cases h
      obtain ⟨ws, e3, e4⟩ := pairsK_rep r e2
      have e5 := keyD_rep h1 e1
      have e5 : u = kV z := e5
      subst e5
      subst e3
      exact ⟨(z, v) :: ws, rfl, .cons ⟨rfl, h2⟩ e4⟩
    · cases h
end
section
variable {X : Cx} {pos : Pos} {a b e : Expr} {es : List Expr} {ta tb te : TD} {tr : TDA}
theorem pp_nil : PPD X pos [] [] tpNil := ⟨[], pps_nil, fun σ H Q ⟨F, O, env, R, P, re, h, k⟩ => k [] H F [] O (.refl P) .nil h⟩
theorem pp_cons {kx vx : Expr} {ks : List (Option Expr)} {vs : List Expr} {tk tv : TD} {t : TDP} (hk : PD X kx tk) (hv : PD X vx tv) (hr : PPD X pos ks vs t) : PPD X pos (some kx :: ks) (vx :: vs) (tpCons tk tv t) := by
  obtain ⟨trs, h1, h2⟩ := hr.ex
  refine ⟨_, pps_cons hk hv h1, fun σ H Q ⟨F, O, env, R, P, re, h, k⟩ => ?_⟩
  refine ⟨F, O, env, _, P, re, h, fun x H1 F1 dx O1 s1 rx h1 => ⟨F1, O1, env, _, s1.pre, re.mono s1.ff, h1, fun y H2 F2 dy O2 s2 ry h3 => h2 σ H2 _ ⟨F2, O2, env, _, s2.pre, re.mono (s1.ff.trans s2.ff), h3, fun ps H3 F3 ds O3 s3 rs h4 => ?_⟩⟩⟩
  exact k _ H3 F3 _ O3 (s1.trans (s2.trans s3)) (.cons ⟨rx.mono (s2.ff.trans s3.ff), ry.mono s3.ff⟩ rs) h4
def tdDisp (t : TDP) : TD := fun env O Q => ∀ p, O p = none → t env (updO O p (.dK [])) fun ps O1 => O1 p = some (.dK []) ∧ match pairsK ps with
  | some kvs => needB (Nat.ble kvs.length 15) (Q (.ptr p) (updO O1 p (.dK (mergeKD [] kvs))))
  | none => False
theorem d_disp {keys : List (Option Expr)} {values : List Expr} {t : TDP} (h : PPD X pos keys values t) (hall : keys.all (·.isSome) = true := by rfl) (hl : keys.length = values.length := by rfl) (h0 : keys ≠ [] := by exact List.cons_ne_nil _ _) (h15 : keys.length ≤ 15 := by decide) : PD X (.Dict keys values pos) (tdDisp t) := by
  obtain ⟨trs, h1, h2⟩ := h.ex
  refine pe_weak (pe_disp h1 hall hl h0 h15) fun σ H Q ⟨F, O, env, R, P, re, h, k⟩ p hp => ?_
  have fr := P.fresh hp
  have z := Stp.own (o := .dK []) (c := .dK []) P fr.1 (.inl hp) ⟨[], upd_same, .nil⟩
  refine h2 σ _ _ ⟨_, _, env, _, z.pre, re.mono z.ff, h p fr.2, fun ps H1 F1 ds O1 s1 rs h1 => ?_⟩
  obtain ⟨e1, h1⟩ := h1
  cases e : pairsK ds with
  | none => simp only [e] at h1
  | some kvs =>
    simp only [e] at h1
    obtain ⟨g1, g2⟩ := needB_o h1
    obtain ⟨ws, e3, e4⟩ := pairsK_rep rs e
    obtain ⟨hF, vs, hv, lv⟩ := s1.pre.ro p _ e1
    cases lv
    refine ⟨hv, ws, e3, by rw [← e4.length]; exact Nat.le_of_ble_eq_true g1, ?_⟩
    exact k _ _ F1 _ _ (z.trans (s1.trans (Stp.own (c := .dK _) s1.pre hF (.inr ⟨_, e1⟩) ⟨_, upd_same, merge_rep e4 .nil⟩))) (.ptr p) g2

/-! ### dict(list of pairs), int or text keys -/
def pairD : D → Option (Key × D)
  | .tup [k, v] => (keyD k).map fun k => (k, v)
  | _ => none
def pairsD : List D → Option (List (Key × D))
  | [] => some []
  | d :: r => match pairD d, pairsD r with
    | some p, some r => some (p :: r)
    | _, _ => none
theorem pairsD_map {α : Type} (f : α → Key) (g : α → D) (q : α → D) (h : ∀ x, pairD (q x) = some (f x, g x)) : ∀ xs : List α, pairsD (xs.map q) = some (xs.map fun x => (f x, g x))
  | [] => rfl
  | x :: xs => by
    show (match pairD (q x), pairsD (xs.map q) with
      | some p, some r => some (p :: r)
      | _, _ => none) = _
    rw [h x, pairsD_map f g q h xs]
    rfl
theorem pairsD_rep {K : PySem.W.Frag} {F H : Hp} (fh : Same F H) : ∀ {ds : List D} {vs : List V} {kvs : List (Key × D)}, RepL K F ds vs → pairsD ds = some kvs → ∃ (ps : List Addr) (ws : List (Key × V)), vs = ps.map V.ref ∧ Paired (fun p kv => SqT K H p [kV kv.1, kv.2]) ps ws ∧ RepKV K F kvs ws
  | _, _, kvs, .nil, h => by
    cases h
    exact ⟨[], [], rfl, .nil, .nil⟩
  | d :: ds, v :: vs, kvs, .cons h1 r, h => by
    unfold pairsD at h
    split at h
    · rename_i z r' e1 e2
      cases h
      obtain ⟨ps, ws, e3, e4, e5⟩ := pairsD_rep fh r e2
      cases h1 with
      | @tup a xs ds' ha la =>
        unfold pairD at e1
        split at e1
        · rename_i k u hk
          cases hk
          obtain ⟨k2, hk2, hk3⟩ := Option.map_eq_some_iff.mp e1
          subst hk3
          match la with
          | .cons r1 (.cons r2 .nil) =>
            have e6 := keyD_rep r1 hk2
            subst e6
            subst e3
            exact ⟨a :: ps, (k2, _) :: ws, rfl, .cons (SqT.of (fh _ _ ha)) e4, .cons ⟨rfl, r2⟩ e5⟩
        · cases e1
      | _ => exact absurd e1 (by simp [pairD])
    · cases h
def gDict : GC := fun ds O Q => match ds with
  | [.lst xs] => match pairsD xs with
    | some kvs => ∀ p, O p = none → Q (.ptr p) (updO O p (.dK (mergeKD [] kvs)))
    | none => False
  | _ => False
theorem c_dict (hc : X.calm = true) : CallD X (.type "dict") gDict := by
  intro pins s σ H vs us Q I r ⟨F, O, ds, R, P, rs, g, k⟩
  match ds, rs, g with
  | [.lst xs], .cons (.lst hx lx) .nil, g =>
    unfold gDict at g
    cases e : pairsD xs with
    | none => simp only [e] at g
    | some kvs =>
      simp only [e] at g
      obtain ⟨ps, ws, e3, e4, e5⟩ := pairsD_rep P.fh lx e
      subst e3
      refine call_dictP hc pins s σ H _ us Q I r ⟨_, ps, ws, rfl, SqL.of (P.fh _ _ hx), e4, fun p hp => ?_⟩
      have z := Stp.own (o := .dK (mergeK [] ws)) (c := .dK (mergeKD [] kvs)) P (P.fresh hp).1 (.inl hp) ⟨_, upd_same, merge_rep e5 .nil⟩
      exact k _ _ F _ _ z (.ptr p) (g p (P.fresh hp).2)

/-! ### sorted(d), int keys -/
def isort (xs : List Int) : List Int := xs.mergeSort fun x y => decide (x ≤ y)
theorem isort_perm (xs : List Int) : (isort xs).Perm xs := List.mergeSort_perm _ _
theorem isort_sorted (xs : List Int) : (isort xs).Pairwise (· ≤ ·) := by
  have h := List.pairwise_mergeSort (le := fun x y : Int => decide (x ≤ y)) (fun a b c h1 h2 => by simp only [decide_eq_true_eq] at *; omega) (fun a b => by simp only [Bool.or_eq_true, decide_eq_true_eq]; omega) xs
  exact h.imp fun h => of_decide_eq_true h
theorem sorted_uniq : ∀ {xs ys : List Int}, xs.Perm ys → xs.Pairwise (· ≤ ·) → ys.Pairwise (· ≤ ·) → xs = ys := fun h h1 h2 =>
  List.Perm.eq_of_pairwise (fun a b _ _ h1 h2 => Int.le_antisymm h1 h2) h1 h2 h
def keysI : List (Key × D) → Option (List Int)
  | [] => some []
  | (.inl i, _) :: r => (keysI r).map (i :: ·)
  | _ => none
theorem keysI_rep {K : PySem.W.Frag} {F : Hp} : ∀ {kvs : List (Key × D)} {ws : List (Key × V)} {is : List Int}, RepKV K F kvs ws → keysI kvs = some is → ws.map (·.1) = is.map Sum.inl
  | _, _, is, .nil, h => by cases h; rfl
  | (k, d) :: kvs, (k', v) :: ws, is, .cons ⟨h1, h2⟩ r, h => by
    obtain rfl : k = k' := h1
    cases k with
    | inr x => cases h
    | inl i =>
      obtain ⟨js, e1, e2⟩ := Option.map_eq_some_iff.mp (show (keysI kvs).map (i :: ·) = some is from h)
      subst e2
      rw [List.map_cons, List.map_cons, keysI_rep r e1]
def gSortD : GC := fun ds O Q => match ds with
  | [.ptr p] => match O p with
    | some (.dK kvs) => match keysI kvs with
      | some is => needB (Nat.blt is.length 64) (Q (.lst ((isort is).map .int)) O)
      | none => False
    | _ => False
  | _ => False
theorem c_sortD (hc : X.calm = true) : CallD X (.builtin "sorted") gSortD := by
  intro pins s σ H vs us Q I r ⟨F, O, ds, R, P, rs, g, k⟩
  match ds, rs, g with
  | [.ptr p], .cons (.ptr _) .nil, g =>
    unfold gSortD at g
    cases ho : O p with
    | none => simp only [ho] at g
    | some c =>
      cases c <;> simp only [ho] at g
      rename_i kvs
      cases e : keysI kvs with
      | none => simp only [e] at g
      | some is =>
        simp only [e] at g
        obtain ⟨g1, g2⟩ := needB_o g
        obtain ⟨hF, ws, hw, lw⟩ := P.ro p _ ho
        refine call_sortedDI hc pins s σ H _ us Q I r ⟨p, ws, is, rfl, .inl hw, keysI_rep lw e, Nat.le_of_ble_eq_true g1, fun ys q h1 h2 hq => ?_⟩
        have e2 : ys = isort is := sorted_uniq (h1.trans (isort_perm is).symm) h2 (isort_sorted is)
        subst e2
        have z := Stp.lst P hq (RepL.ofInts (K := X.K) (F := F) (isort is))
        exact k _ _ _ _ O z.1 z.2 g2
end
end Dl

set_option maxRecDepth 100000
set_option maxHeartbeats 4000000
/-! THE DATA LAYER, 9: enumerate(xs, 1), t[::-1], text * int. -/
namespace Dl
open PySem PySem.Spec PyProof.Rows L2
open AutoSeq1 (wpAny_loadPart')
section
variable {prog : Program} {w : World} {A : Around} {E : Value → Shared → Prop} {s : Shared}
abbrev enumO (a it : Value) (c : Int) (old : Value) : Obj := { cls := .type "enumerate", dict := none, data := .fields #[a, .bool false, it, rawInt c, .none, old], slots := #[] }
theorem enum1_item {e it l : Addr} {i : Nat} {c : Int} {items : Array Value} {x old : Value} {Q : Value → Shared → Prop}
    (he : IsEnum s.heap e it c old) (hit : s.heap.IsListIter it l i) (hl : s.heap.IsList l items) (hx : items[i]? = some x) (hne : e ≠ it)
    (hQ : ∀ h', IsEnumOut h' e it (c + 1) x s.heap.objs.size → h'.IsListIter it l (i + 1) → h'.get? s.heap.objs.size = some { cls := .type "tuple", data := .seq #[.int c s.toks, x] } → h'.objs.size = s.heap.objs.size + 1 →
      (∀ b o, b ≠ e → b ≠ it → s.heap.get? b = some o → h'.get? b = some o) → Q (.ref s.heap.objs.size) { s with heap := h', toks := s.toks + 1 }) :
    wpAny (model prog w) A (Builtin.«enumerate.__next__» ⟨[.ref e], []⟩) (fun fin s' => ∃ v, fin = .done (.ret v) ∧ Q v s') E s := by
  obtain ⟨hp, g, d, tk, os⟩ := s
  show wpAny _ _ (field (.ref e) 2 >>= _) _ _ _
  refine wpAny_bind (wpAny_field he rfl (x := .ref it) rfl (wpAny_bind (wpAny_nextOf_list_item hit hl hx fun g1 it1 k1 => ?_)))
  replace k1 : Heap.SameBut it hp g1 := k1
  have e1 : IsEnum g1 e it c old := (k1.2 e hne).trans he
  show wpAny _ _ (field (.ref e) 3 >>= _) _ _ ⟨g1, g, d, tk, os⟩
  refine wpAny_bind (wpAny_field e1 rfl (x := rawInt c) rfl ?_)
  show wpAny _ _ (field (.ref e) 4 >>= _) _ _ ⟨g1, g, d, tk, os⟩
  refine wpAny_bind (wpAny_field e1 rfl (x := .none) rfl ?_)
  show wpAny _ _ (mkInt c >>= _) _ _ ⟨g1, g, d, tk, os⟩
  refine wpAny_bind (wpAny_mkInt ?_)
  show wpAny _ _ (setField (.ref e) 3 (rawInt (c + 1)) >>= _) _ _ ⟨g1, g, d, tk + 1, os⟩
  refine wpAny_bind (wpAny_setField_rec e1 (by simp) fun g2 e2 k2 => ?_)
  replace k2 : Heap.SameBut e g1 g2 := k2
  replace e2 : IsEnum g2 e it (c + 1) old := e2
  show wpAny _ _ (setField (.ref e) 4 .none >>= _) _ _ ⟨g2, g, d, tk + 1, os⟩
  refine wpAny_bind (wpAny_setField_rec e2 (by simp) fun g3 e3 k3 => ?_)
  replace k3 : Heap.SameBut e g2 g3 := k3
  replace e3 : IsEnum g3 e it (c + 1) old := e3
  show wpAny _ _ (newTuple [.int c tk, x] >>= _) _ _ ⟨g3, g, d, tk + 1, os⟩
  refine wpAny_bind (wpAny_newTuple ?_)
  have e4 : IsEnum (g3.push { cls := .type "tuple", data := .seq #[.int c tk, x] }) e it (c + 1) old := Heap.get?_push_of_some _ e3
  generalize hg4 : g3.push { cls := .type "tuple", data := .seq #[.int c tk, x] } = g4 at e4
  have hsz : g3.objs.size = hp.objs.size := by rw [k3.1, k2.1, k1.1]
  have hel : e < hp.objs.size := Heap.lt_size he
  have ht4 : g4.get? hp.objs.size = some { cls := .type "tuple", data := .seq #[.int c tk, x] } := by rw [← hg4, ← hsz]; exact Heap.get?_push_size _ rfl
  have hz4 : g4.objs.size = hp.objs.size + 1 := by rw [← hg4, Heap.size_push, hsz]
  have hk4 : ∀ b o, b ≠ e → b ≠ it → hp.get? b = some o → g4.get? b = some o := fun b o n1 n2 hb => by
    rw [← hg4]
    exact Heap.get?_push_of_some _ (k3.extBut b o n1 (k2.extBut b o n1 (k1.extBut b o n2 hb)))
  have hit4 : g4.IsListIter it l (i + 1) := by
    rw [← hg4]
    obtain ⟨o, ho, r⟩ := (it1.extBut k2.extBut (Ne.symm hne)).extBut k3.extBut (Ne.symm hne)
    exact ⟨o, Heap.get?_push_of_some _ ho, r⟩
  show wpAny _ _ (Builtin.SmallTypes.ownedTupleIsFree (.ref e) >>= _) _ _ ⟨g4, g, d, tk + 1, os⟩
  rw [hsz]
  clear hg4 e3 k3 e2 k2 e1 k1 it1 hsz g3 g2 g1
  unfold Builtin.SmallTypes.ownedTupleIsFree
  refine wpAny_bind (wpAny_bind (wpAny_field e4 rfl (x := .none) rfl (wpAny_pure ?_)))
  simp only [if_true]
  refine wpAny_bind (wpAny_rule (wpAny_bind (wpAny_field e4 rfl (x := old) rfl (wpAny_bind (wpAny_setField_rec e4 (by simp) fun g5 e5 k5 => ?_)))))
  replace k5 : Heap.SameBut e g4 g5 := k5
  replace e5 : IsEnum g5 e it (c + 1) x := e5
  show wpAny _ _ (Builtin.SmallTypes.ownedTupleHandOut (.ref e) (.ref hp.objs.size) >>= _) _ _ ⟨g5, g, d, tk + 1, os⟩
  unfold Builtin.SmallTypes.ownedTupleHandOut
  refine wpAny_bind (wpAny_bind (wpAny_setField_rec e5 (by simp) fun g6 e6 k6 => ?_))
  replace k6 : Heap.SameBut e g5 g6 := k6
  replace e6 : IsEnumOut g6 e it (c + 1) x hp.objs.size := e6
  refine wpAny_setField_rec e6 (by simp) fun g7 e7 k7 => ?_
  replace k7 : Heap.SameBut e g6 g7 := k7
  replace e7 : IsEnumOut g7 e it (c + 1) x hp.objs.size := e7
  refine wpAny_bind (wpAny_letGo (wpAny_pure ⟨_, rfl, hQ g7 e7 ?_ ?_ ?_ ?_⟩))
  · exact ((hit4.extBut k5.extBut (Ne.symm hne)).extBut k6.extBut (Ne.symm hne)).extBut k7.extBut (Ne.symm hne)
  · exact k7.extBut _ _ (Nat.ne_of_gt hel) (k6.extBut _ _ (Nat.ne_of_gt hel) (k5.extBut _ _ (Nat.ne_of_gt hel) ht4))
  · rw [k7.1, k6.1, k5.1, hz4]
  · exact fun b o n1 n2 hb => k7.extBut b o n1 (k6.extBut b o n1 (k5.extBut b o n1 (hk4 b o n1 n2 hb)))
theorem enum1_next {e it l : Addr} {i : Nat} {c : Int} {items : Array Value} {x old : Value} {Q : Option Value → Shared → Prop}
    (he : IsEnum s.heap e it c old) (hit : s.heap.IsListIter it l i) (hl : s.heap.IsList l items) (hx : items[i]? = some x) (hne : e ≠ it)
    (hQ : ∀ h', IsEnumOut h' e it (c + 1) x s.heap.objs.size → h'.IsListIter it l (i + 1) → h'.get? s.heap.objs.size = some { cls := .type "tuple", data := .seq #[.int c s.toks, x] } → h'.objs.size = s.heap.objs.size + 1 →
      (∀ b o, b ≠ e → b ≠ it → s.heap.get? b = some o → h'.get? b = some o) → Q (some (.ref s.heap.objs.size)) { s with heap := h', toks := s.toks + 1 }) :
    wpAny (model prog w) A (pyNext (.ref e)) Q E s := by
  have hT : s.TypeIs (.ref e) "enumerate" := ⟨_, he, rfl⟩
  unfold pyNext
  refine wpAny_bind (wpAny_attempt (wpAny_callSpecial?_slot (name := Str.ofString "__next__") hT F.slot_enumerate_next (wpAny_call_entry F.slot_enumerate_next hT F.entry_enumerate_next ?_ (F.args_enumerate_next_1 _))))
  exact enum1_item he hit hl hx hne fun h' q1 q2 q3 q4 q5 => wpAny_pure (hQ h' q1 q2 q3 q4 q5)
theorem enum1_end {e it l : Addr} {i : Nat} {c : Int} {items : Array Value} {old : Value} {Q : Option Value → Shared → Prop} (hh : A.handled = none)
    (he : IsEnum s.heap e it c old) (hit : s.heap.IsListIter it l i) (hl : s.heap.IsList l items) (hx : items[i]? = none) (hQ : ∀ h', Heap.ExtBut it s.heap h' → Q none { s with heap := h' }) : wpAny (model prog w) A (pyNext (.ref e)) Q E s := by
  have hT : s.TypeIs (.ref e) "enumerate" := ⟨_, he, rfl⟩
  unfold pyNext
  refine wpAny_bind (wpAny_attempt (wpAny_callSpecial?_slot (name := Str.ofString "__next__") hT F.slot_enumerate_next (wpAny_call_entry F.slot_enumerate_next hT F.entry_enumerate_next ?_ (F.args_enumerate_next_1 _))))
  show wpAny _ _ (field (.ref e) 2 >>= _) _ _ _
  refine wpAny_bind (wpAny_field he rfl (x := .ref it) rfl (wpAny_bind (wpAny_nextOf_list_end hh hit hl hx fun h' x he' hx' => ?_)))
  obtain ⟨o, ho, hc⟩ := hx'
  exact wpAny_bind (wpAny_isInstance (T := "StopIteration") (b := true) ⟨o, ho, hc⟩ isSubtype_stop (wpAny_pure (hQ _ he')))
end
theorem meets_enum1 (l : Addr) (items : Array Value) (n : Nat) (dct : Option Addr) (sl : Array (Option Value)) (u : Tok) :
    Meets (Builtin.«enumerate.__new__» ⟨[.type "enumerate", .ref l, .int 1 u], []⟩) (fun _ R s => s.heap.get? l = some { cls := .type "list", dict := dct, data := .seq items n, slots := sl } ∧
      R (.ok (.ret (.ref (s.heap.push { cls := .type "list_iterator", data := .fields #[.ref l, .int 0 0] }).objs.size)))
        { s with heap := (s.heap.push { cls := .type "list_iterator", data := .fields #[.ref l, .int 0 0] }).push { cls := .type "enumerate", data := .fields #[.none, .bool false, .ref s.heap.objs.size, rawInt 1, .none, .none] } }) :=
  .of_wp fun prog w A R s h => by
    obtain ⟨hp, g, d, tk, os⟩ := s
    obtain ⟨hl, h⟩ := h
    have hsub := sub_enumerate
    have hL : Heap.IsList (Shared.heap ⟨hp, g, d, tk, os⟩) l items := ⟨_, hl, rfl, n, rfl⟩
    wp_walk using wpAny_loadPart' hl
    refine wpAny_stack_any fun st => wpAny_pure ?_
    split
    · rename_i c _ _ _ _ _
      cases (c == Value.type "enumerate")
      · wp_walk using wpAny_loadPart' hl, wpAny_pyIter_list hL
        exact ⟨_, rfl, h⟩
      · wp_walk using wpAny_loadPart' hl, wpAny_pyIter_list hL
        exact ⟨_, rfl, h⟩
    · wp_walk using wpAny_loadPart' hl, wpAny_pyIter_list hL
      exact ⟨_, rfl, h⟩
section
variable {prog : Program} {w : World} {A : Around} {E : Value → Shared → Prop} {s : Shared}
theorem typeCall_enum2 (a b : Value) : checkTypeCall "enumerate" ⟨[a, b], []⟩ = pure () := by kernel_rfl
theorem newCall_enum2 (a b : Value) : checkBuiltinCall "enumerate.__new__" ⟨[.type "enumerate", a, b], []⟩ = pure () := by kernel_rfl
theorem args_init3 (obj a b : Value) : argsOk "object.__init__" ⟨[obj, a, b], []⟩ := by unfold argsOk; kernel_rfl
theorem call_enum1 {l : Addr} {u : Tok} {items : Array Value} {Q : Value → Shared → Prop} (hL : s.heap.IsList l items)
    (h : ∀ h', IsEnum h' (s.heap.objs.size + 1) s.heap.objs.size 1 .none → h'.IsListIter s.heap.objs.size l 0 → (∀ b o, s.heap.get? b = some o → h'.get? b = some o) → Q (.ref (s.heap.objs.size + 1)) { s with heap := h' }) :
    wpAny (model prog w) A (call (.type "enumerate") [.ref l, .int 1 u]) Q E s := by
  obtain ⟨⟨c, dct, dt, sl⟩, hl, hc, n, hd⟩ := hL
  simp only at hc hd
  subst hc hd
  refine callType_new F.called_enumerate (by decide) (typeCall_enum2 _ _) (newCall_enum2 _ _) (fun obj => args_init3 obj _ _) F.entry_enumerate_new (meets_enum1 l items n dct sl u) ⟨hl, ?_⟩
  have hz : (s.heap.push { cls := .type "list_iterator", data := .fields #[.ref l, .int 0 0] }).objs.size = s.heap.objs.size + 1 := Heap.size_push ..
  show _ ∧ _
  rw [hz]
  have he := Heap.get?_push_size (s.heap.push { cls := .type "list_iterator", data := .fields #[.ref l, .int 0 0] }) (o := enumO .none (.ref s.heap.objs.size) 1 .none) rfl
  rw [hz] at he
  exact ⟨⟨_, he, rfl⟩, h _ he ⟨_, Heap.get?_push_of_some _ (Heap.get?_push_size _ rfl), rfl, rfl⟩ fun b o x => Heap.get?_push_of_some _ (Heap.get?_push_of_some _ x)⟩
end
/-- enumerate(xs, 1) over the list at a -/
def Ite1 (K : PySem.W.Frag) (a : Addr) : It :=
  ⟨fun i H => ∃ (xs : List V) (x : V), SqL K H a xs ∧ xs[i]? = some x, fun i H v H' => ∃ T x, v = .ref T ∧ H T = none ∧ H' = upd H T (.tup [.int ((i : Int) + 1), x]) ∧ ∀ xs, SqL K H a xs → xs[i]? = some x, fun i H => ∃ xs : List V, SqL K H a xs ∧ xs.length ≤ i⟩
theorem turn_enum1 {P : Program} {w : World} {K : PySem.W.Frag} {elts : List Expr} {kk : Nat} {tpos : Pos} (a e it : Addr) :
    Turn P w K (.Tuple elts kk tpos) (Ite1 K a) [e, it] e (fun i h => (∃ old, IsEnum h e it ((i : Int) + 1) old) ∧ h.IsListIter it a i ∧ e ≠ it) where
  mem := by simp
  obj := fun i h st b hb => by
    obtain ⟨⟨old, he⟩, ⟨o, ho, hc, hd⟩, _⟩ := st
    rcases (show b = e ∨ b = it by simpa using hb) with rfl | rfl
    · exact ⟨_, he, fun v q => nomatch q⟩
    · exact ⟨o, ho, fun v q => by rw [hd] at q; cases q⟩
  keep := fun i h h' st k => by
    obtain ⟨⟨old, he⟩, hi, hne⟩ := st
    exact ⟨⟨old, k e (by simp) _ he⟩, hi.at fun o q => k it (by simp) o q, hne⟩
  item := by
    intro X hP hw hK hc i pins s σ H E I hf st hg
    subst hP hw hK
    obtain ⟨⟨old, he⟩, hit, hne⟩ := st
    obtain ⟨xs, x, hq, hx⟩ := hg
    obtain ⟨its, rv, p, hz⟩ := I.list hq
    obtain ⟨u, hu, ru⟩ := rv.get hx
    have hel := Heap.lt_size he
    have hil : it < s.heap.objs.size := by
      obtain ⟨_, q, _⟩ := hit
      exact Heap.lt_size q
    refine enum1_next he hit p.isList (x := u) (by simpa using hu) hne fun h' ho hit' hT hsz hk => ⟨_, rfl, wpAny_letOwnedTupleGo_enum (s := { s with heap := h', toks := s.toks + 1 }) ho fun h'' he' sb => ?_⟩
    have hT2 := (sb.2 _ (Nat.ne_of_gt hel)).trans hT
    have new : ObjOk X.prog X.w (upd H s.heap.objs.size (.tup [.int ((i : Int) + 1), x])) h'' s.heap.objs.size (.tup [.int ((i : Int) + 1), x]) :=
      ⟨by show 2 ≤ sizeLine; decide, [.int ((i : Int) + 1) s.toks, u], .cons ⟨_, rfl⟩ (.cons ru .nil), ⟨_, hT2, rfl, _, rfl⟩⟩
    have I1 : Inv X pins σ (upd H s.heap.objs.size (.tup [.int ((i : Int) + 1), x])) { s with heap := h'', toks := s.toks + 1 } :=
      I.turnedNew (ch := [e, it]) (fun b ob hb q => (sb.2 b (fun z => hb (by simp [z]))).trans (hk b ob (fun z => hb (by simp [z])) (fun z => hb (by simp [z])) q)) hf (Nat.le_refl _) new
    refine ⟨.ref s.heap.objs.size, _, I1, rfl, ⟨_, x, rfl, I.hok.fresh (Nat.le_refl _), rfl, fun ys hy => by rw [I.list_inj hy hq]; exact hx⟩, ⟨⟨u, ?_⟩, hit'.at fun o q => (sb.2 it (Ne.symm hne)).trans q, hne⟩, fun b hb => ?_⟩
    · rw [show (((i + 1 : Nat) : Int) + 1) = (i : Int) + 1 + 1 by omega]
      exact he'
    · have hlt : b < s.heap.objs.size := by
        rcases (show b = e ∨ b = it by simpa using hb) with rfl | rfl
        · exact hel
        · exact hil
      rw [upd_ne (Nat.ne_of_lt hlt)]
      exact (hf b hb).1
  done := by
    intro X hP hw hK hc i pins s σ H E I hf st hg
    subst hP hw hK
    obtain ⟨⟨old, he⟩, hit, hne⟩ := st
    obtain ⟨xs, hq, hx⟩ := hg
    obtain ⟨its, rv, p, hz⟩ := I.list hq
    obtain ⟨f0, f1, f2, f3, f4, f5⟩ := hf it (by simp)
    have hl := rv.length
    exact enum1_end (I.ok.hd hc) he hit p.isList (by simp; omega) fun h' eb => ⟨rfl, I.turned (t' := s.toks) (fun b o hb q => eb b o hb q) f0 f1 f3 f4 f5⟩
  self := fun A i s Q E st h => by
    obtain ⟨⟨_, he⟩, _⟩ := st
    exact wpAny_pyIter_enum he h
def iEnum1 (K : PySem.W.Frag) (ta : TA) : TI := fun σ H R => ta σ H fun vs H1 => ∃ a xs, vs = [.ref a, .int 1] ∧ SqL K H1 a xs ∧ R (Ite1 K a) H1
theorem pi_enum1 {X : Cx} {e e2 : Expr} {ta : TA} {p pos tpos : Pos} {elts : List Expr} {kk : Nat} (hg : Gl X "enumerate") (hm : X.mg "enumerate" = none) (ha : PA X [e, e2] ta)
    (hs : starEach [e, e2] X.env = (false, eval e X.env) :: starEach [e2] X.env := by rfl) (hpl : (backTo pos (starEach [e2] X.env)).any (·.1) = false := by rfl) :
    PI X (.Tuple elts kk tpos) (.Call (.Name "enumerate" p) [e, e2] [] pos) (iEnum1 X.K ta) := by
  refine ⟨fun pins s σ H R I h => ?_⟩
  refine Call_ (ld_blt I hg hm boot_enumerate (PyProof.Rows.callWith_type1 (thn (ha.run pos pins s σ H _ I h) fun us s1 ⟨vs, H1, I1, r1, q1⟩ => ?_) hs hpl))
  obtain ⟨a, xs, ex, hq, q⟩ := q1
  subst ex
  cases r1 with
  | cons r rr =>
  cases rr with
  | cons r2 rr =>
    cases rr
    cases r
    obtain ⟨t, rfl⟩ := r2
    obtain ⟨its, rv, p', hz⟩ := I1.list hq
    refine call_enum1 p'.isList fun h' he hit hk => wpAny_pyIter_enum he ?_
    have I2 : Inv X pins σ H1 { s1 with heap := h' } := I1.kept (t' := s1.toks) hk
    refine ⟨s1.heap.objs.size + 1, [s1.heap.objs.size + 1, s1.heap.objs.size], _, _, H1, rfl, I2, turn_enum1 a (s1.heap.objs.size + 1) s1.heap.objs.size, ⟨⟨.none, he⟩, hit, Nat.succ_ne_self _⟩, fun b hb => ?_, q⟩
    have hle : s1.heap.objs.size ≤ b := by
      rcases (show b = s1.heap.objs.size + 1 ∨ b = s1.heap.objs.size by simpa using hb) with rfl | rfl <;> omega
    exact I1.fpOk hle (I1.hok.fresh hle)
def enumD (i : Nat) : List D → List D
  | [] => []
  | d :: ds => .tup [.int (i : Int), d] :: enumD (i + 1) ds
theorem enumD_length (i : Nat) (ds : List D) : (enumD i ds).length = ds.length := by
  induction ds generalizing i with
  | nil => rfl
  | cons d ds ih => exact congrArg (· + 1) (ih (i + 1))
theorem enumD_get {ds : List D} : ∀ {k i : Nat} {d : D}, (enumD k ds)[i]? = some d → ∃ x, ds[i]? = some x ∧ d = .tup [.int ((k + i : Nat) : Int), x] := by
  induction ds with
  | nil => intro k i d h; simp [enumD] at h
  | cons y ds ih =>
    intro k i d h
    cases i with
    | zero =>
      simp only [enumD, List.getElem?_cons_zero, Option.some.injEq] at h
      exact ⟨y, rfl, h.symm⟩
    | succ i =>
      simp only [enumD, List.getElem?_cons_succ] at h
      obtain ⟨x, h1, h2⟩ := ih h
      exact ⟨x, by simpa using h1, by rw [h2, show k + 1 + i = k + (i + 1) by omega]⟩
theorem walks_enum1 {K : PySem.W.Frag} {F : Hp} {a : Addr} {xs : List V} {ds : List D} (h : F a = some (.lst xs)) (r : RepL K F ds xs) : Walks K (Ite1 K a) F (enumD 1 ds) where
  go := fun i H hi e => by
    rw [enumD_length] at hi
    have hx : i < xs.length := by rw [← r.length]; exact hi
    exact ⟨xs, xs[i], SqL.of (e _ _ h), by simp [hx]⟩
  stop := fun i H hi e => ⟨xs, SqL.of (e _ _ h), by rw [enumD_length] at hi; rw [← r.length]; exact hi⟩
  yld := fun i H v H' d F' O e P ⟨T, x, ev, hT, eh, y⟩ hd => by
    subst ev
    subst eh
    obtain ⟨dx, h1, rfl⟩ := enumD_get hd
    obtain ⟨u, hu, ru⟩ := r.get h1
    have q := y xs (SqL.of (P.fh _ _ (e _ _ h)))
    rw [hu] at q
    cases q
    have z := Stp.tup P hT (RepL.cons (Rep.int (((1 + i : Nat)) : Int)) (RepL.cons (ru.mono e) RepL.nil))
    have e1 : ((1 + i : Nat) : Int) = (i : Int) + 1 := by omega
    rw [e1] at z ⊢
    exact ⟨_, z.1, z.2⟩
def tiEnum1 (tr : TDA) : TID := fun env O S => tr env O fun ds O1 => match ds with
  | [.lst xs, .int 1] => S (enumD 1 xs) O1
  | _ => False
theorem i_enum1 {X : Cx} {e e2 : Expr} {tr : TDA} {p pos tpos : Pos} {elts : List Expr} {kk : Nat} (hm : X.mg "enumerate" = none) (ha : PAD X [e, e2] tr) (hg : Gl X "enumerate" := by rfl)
    (hs : starEach [e, e2] X.env = (false, eval e X.env) :: starEach [e2] X.env := by rfl) (hpl : (backTo pos (starEach [e2] X.env)).any (·.1) = false := by rfl) : PID X (.Tuple elts kk tpos) (.Call (.Name "enumerate" p) [e, e2] [] pos) (tiEnum1 tr) :=
  pi_weak (pi_sized (pi_enum1 hg hm ha hs hpl)) fun σ H R ⟨F, O, env, S, P, re, h, k⟩ => by
    refine ⟨F, O, env, _, P, re, h, fun vs H1 F1 ds O1 s1 rs h1 => ?_⟩
    unfold tiEnum1 at h
    split at h1
    · rename_i xs
      match vs, rs with
      | [_, _], .cons (.lst hx lx) (.cons (.int _) .nil) =>
        exact ⟨_, _, rfl, SqL.of (s1.pre.fh _ _ hx), fun z => k _ _ F1 O1 _ s1 (walks_enum1 hx lx) (by
          have z1 := z _ _ (.inl (s1.pre.fh _ _ hx))
          rw [enumD_length, lx.length]
          exact z1) h1⟩
    · exact h1.elim

end Dl

set_option maxRecDepth 100000
set_option maxHeartbeats 2000000
/-! THE DATA LAYER, 10: t[::-1], text * int. -/
namespace Dl
open PySem PySem.Spec PyProof.Rows L2
/-! ### t[::-1] -/
section
variable {prog : Program} {w : World} {A : Around} {E : Value → Shared → Prop} {s : Shared}
theorem fm_congr {α β : Type} {f g : α → Option β} : ∀ (l : List α), (∀ x ∈ l, f x = g x) → l.filterMap f = l.filterMap g
  | [], _ => rfl
  | x :: l, h => by
    rw [List.filterMap_cons, List.filterMap_cons, h x List.mem_cons_self, fm_congr l fun y hy => h y (List.mem_cons_of_mem _ hy)]
theorem rev_places (n : Nat) : Builtin.Slice.slicePlaces ((n : Int) - 1) (-1) (-1) = n := by
  unfold Builtin.Slice.slicePlaces
  rw [if_neg (by decide)]
  simp only [Int.neg_neg, Int.ediv_one]
  split <;> omega
theorem rev_pick (xs : Array Value) : ((List.range xs.size).filterMap fun (k : Nat) => xs[(((xs.size : Int) - 1) + (k : Int) * (-1)).toNat]?).toArray = xs.toList.reverse.toArray := by
  congr 1
  apply List.ext_getElem?
  intro i
  have e : (fun (k : Nat) => xs[(((xs.size : Int) - 1) + (k : Int) * (-1)).toNat]?) = fun (k : Nat) => xs[(((xs.size : Int) - 1) - (k : Int)).toNat]? := by
    funext k
    congr 2
    omega
  rw [e]
  have e2 : (List.range xs.size).filterMap (fun (k : Nat) => xs[(((xs.size : Int) - 1) - (k : Int)).toNat]?) = (List.range xs.size).map fun k => xs.toList.reverse.getD k .none := by
    rw [← List.filterMap_eq_map]
    refine fm_congr _ fun k hk => ?_
    have hk := List.mem_range.mp hk
    have e3 : (((xs.size : Int) - 1) - (k : Int)).toNat = xs.size - 1 - k := by omega
    rw [e3, Function.comp_apply, List.getD_eq_getElem?_getD, List.getElem?_reverse (by simpa using hk)]
    have h4 : xs.size - 1 - k < xs.size := by omega
    simp [h4]
  rw [e2, List.getElem?_map]
  by_cases h : i < xs.size
  · rw [List.getElem?_range h, Option.map_some, List.getD_eq_getElem?_getD, List.getElem?_eq_getElem (by simpa using h)]
    rfl
  · rw [List.getElem?_eq_none (by simpa using h), List.getElem?_eq_none (by simpa using h)]
    rfl
theorem sliceApplied_rev {sl : Addr} {vl vu vs : Value} {n : Nat} {Q : Int × Int × Nat → Shared → Prop} (hs : s.heap.IsSliceOf sl vl vu vs) (pl : IsPart vl none) (pu : IsPart vu none) (ps : IsPart vs (some (-1)))
    (h : Q ((n : Int) - 1, -1, n) s) : wpAny (model prog w) A (Builtin.Slice.sliceApplied (.ref sl) (pure (n : Int))) Q E s := by
  obtain ⟨os, hos, hcs, hds⟩ := id hs
  unfold Builtin.Slice.sliceApplied Builtin.Slice.sliceFields
  refine wpAny_bind (wpAny_bind (wpAny_field hos hds (x := vl) rfl (wpAny_bind (wpAny_field hos hds (x := vu) rfl (wpAny_bind (wpAny_field hos hds (x := vs) rfl (wpAny_pure ?_)))))))
  refine wpAny_bind (HT.slicePart_ ps ?_)
  show wpAny _ _ (if ((-1 : Int) == 0) = true then _ else _) _ _ s
  rw [if_neg (by decide)]
  refine wpAny_bind (HT.slicePart_ pl (wpAny_bind (HT.slicePart_ pu (wpAny_bind (wpAny_pure ?_)))))
  show wpAny _ _ (pure ((n : Int) - 1, (-1 : Int), Builtin.Slice.slicePlaces ((n : Int) - 1) (-1) (-1))) _ _ s
  rw [rev_places]
  exact wpAny_pure h
theorem getItem_tuple_rev {t sl : Addr} {items : Array Value} {vl vu vs : Value} {Q : Value → Shared → Prop} (ht : IsTup s.heap t items) (hs : s.heap.IsSliceOf sl vl vu vs) (pl : IsPart vl none) (pu : IsPart vu none) (ps : IsPart vs (some (-1)))
    (h : Q (.ref s.heap.objs.size) { s with heap := s.heap.push { cls := .type "tuple", data := .seq items.toList.reverse.toArray } }) (hsz : items.size ≤ sizeLine) : wpAny (model prog w) A (getItem (.ref t) (.ref sl)) Q E s := by
  have hok : sizeOk (.seq items.toList.reverse.toArray) := by
    show items.toList.reverse.toArray.size ≤ sizeLine
    rw [List.size_toArray, List.length_reverse]
    exact hsz
  obtain ⟨os, hos, hcs, hds⟩ := id hs
  have hTs : s.TypeIs (.ref sl) "slice" := ⟨os, hos, hcs⟩
  unfold getItem
  try with_reducible refine wpAny_holding ?_
  first | refine wpAny_bind (wpAny_pure ?_) | skip
  refine wpAny_bind (wpAny_sequenceKey ht.typeIs (by decide) (wpAny_bind (wpAny_callSpecial?_slot (name := Str.ofString "__getitem__") ht.typeIs PyProof.Rows.slot_tuple_getitem (wpAny_call_entry PyProof.Rows.slot_tuple_getitem ht.typeIs entry_tuple_getitem ?_ (args_tuple_getitem _ _)))))
  show wpAny _ _ (Builtin.Tuple.tupleItemsOf (.ref t) >>= _) _ _ s
  refine wpAny_bind (tupleItemsOf_ ht (wpAny_bind (wpAny_typeOf hTs ?_)))
  rw [if_pos (by decide)]
  refine wpAny_bind (sliceApplied_rev hs pl pu ps ?_)
  show wpAny _ _ (if (((items.size : Int) - 1) == 0 && (-1 : Int) == 1 && items.size == items.size) = true then _ else _) _ _ s
  rw [if_neg (by simp), rev_pick]
  first
    | exact wpAny_bind (m := Builtin.Tuple.tupleExact _) (wpAny_newObj_type (wpAny_pure ⟨_, rfl, wpAny_pure h⟩) hok)
    | exact wpAny_bind (m := Builtin.Tuple.tupleExact _) (wpAny_newObj_type (wpAny_bind (wpAny_pure (wpAny_pure ⟨_, rfl, wpAny_pure h⟩))) hok)
    | exact wpAny_bind (wpAny_bind (m := Builtin.Tuple.tupleExact _) (wpAny_newObj_type (wpAny_pure (wpAny_pure ⟨_, rfl, wpAny_pure h⟩)) hok))
    | exact wpAny_bind (wpAny_bind (m := Builtin.Tuple.tupleExact _) (wpAny_newObj_type (wpAny_pure ⟨_, rfl, wpAny_pure h⟩) hok))
end
def tdRevT (te : TD) : TD := fun env O Q => te env O fun x O1 => match x with
  | .tup ds => Q (.tup ds.reverse) O1
  | _ => False
theorem d_revT {X : Cx} {e : Expr} {te : TD} {k : Nat} {p1 p2 p3 pos : Pos} (he : PD X e te) : PD X (.Subscript e (.Slice none none (some (.UnaryOp .USub (.Constant (.int 1) k p1) p2)) p3) pos) (tdRevT te) := by
  refine ⟨fun pins s σ H Q I ⟨F, O, env, R, P, re, h, kk⟩ => ?_⟩
  refine Subscript_ (thn (he.run pins s σ H (fun x H1 => ∃ F1 O1 ds, Stp X.K F O H F1 O1 H1 ∧ Rep X.K F1 (.tup ds) x ∧ R (.tup ds.reverse) O1) I ⟨F, O, env, _, P, re, h, fun v H1 F1 d O1 s1 r1 h1 => ?_⟩) fun v s1 ⟨x, H1, I1, r1, F1, O1, ds, st, rd, q⟩ => ?_)
  · cases r1 with
    | tup hx lx => exact ⟨F1, O1, _, s1, .tup hx lx, h1⟩
    | _ => exact h1.elim
  cases rd with
  | @tup a xs _ hx lx =>
  cases r1
  have hst : PO X (some (.UnaryOp .USub (.Constant (.int 1) k p1) p2)) (tPart (tUn (rU fun i => .int (-i)) (tC (.int 1)))) := po_some (pe_un un_neg pe_int)
  refine wpAny_Slice (thn (po_none.run pins s1 σ H1 (fun o H2 => o = none ∧ H2 = H1) I1 ⟨rfl, rfl⟩) fun vl s2 ⟨l, H2, I2, pl, el, e2⟩ => ?_)
  subst el e2
  refine thn (po_none.run pins s2 σ H2 (fun o H3 => o = none ∧ H3 = H2) I2 ⟨rfl, rfl⟩) fun vu s3 ⟨u, H3, I3, pu, eu, e3⟩ => ?_
  subst eu e3
  refine thn (hst.run pins s3 σ H3 (fun o H4 => o = some (-1) ∧ H4 = H3) I3 ⟨1, rfl, -1, rfl, rfl, rfl⟩) fun vs s4 ⟨o, H4, I4, ps, eo, e4⟩ => ?_
  subst eo e4
  have I5 : Inv X pins σ H4 { s4 with heap := s4.heap.push { cls := .type "slice", data := .fields #[vl, vu, vs] } } := I4.kept (t' := s4.toks) fun b ob q => Heap.get?_push_of_some _ q
  obtain ⟨its, r, ht, hz⟩ := I5.tuple (SqT.of (K := X.K) (st.pre.fh _ _ hx))
  have hlen := r.length
  show wpAny (model X.prog X.w) X.A (subscriptTail e (.Slice none none (some (.UnaryOp .USub (.Constant (.int 1) k p1) p2)) p3) (.ref a) (.ref s4.heap.objs.size)) (EP X pins σ Q) X.xe { s4 with heap := s4.heap.push { cls := .type "slice", data := .fields #[vl, vu, vs] } }
  refine tail_any (ops := [.ref a, .ref s4.heap.objs.size]) ht.typeIs PyProof.Rows.slot_tuple_getitem.lookup ?_ (by with_unfolding_all rfl)
  refine getItem_tuple_rev ht (Heap.IsSliceOf.new _ vl vu vs) pl pu ps ?_ (by rw [List.size_toArray]; omega)
  have hp := I5.hok.fresh (Nat.le_refl _)
  have z := Stp.tup st.pre hp lx.reverse
  exact ⟨.ref _, _, I5.laid (t' := s4.toks) (o := .tup xs.reverse) (fun b ob q => Heap.get?_push_of_some _ q) (Nat.le_refl _) ⟨by rw [List.length_reverse]; exact hz, _, r.reverse, IsTup.new _ _⟩, rfl, kk _ _ _ _ O1 (st.trans z.1) z.2 q⟩

/-! ### text * int -/
def repS (x : Str) (n : Nat) : Str := ⟨(List.replicate n x.cps).foldl (· ++ ·) #[]⟩
theorem fold_size (a : Array Nat) : ∀ (n : Nat) (b : Array Nat), ((List.replicate n a).foldl (· ++ ·) b).size = b.size + n * a.size
  | 0, b => by rw [List.replicate_zero, List.foldl_nil, Nat.zero_mul, Nat.add_zero]
  | n + 1, b => by
    rw [List.replicate_succ, List.foldl_cons, fold_size a n, Array.size_append, Nat.succ_mul]
    omega
theorem repS_length (x : Str) (n : Nat) : (repS x n).length = n * x.length := by
  show ((List.replicate n x.cps).foldl (· ++ ·) #[]).size = n * x.cps.size
  rw [fold_size]
  exact Nat.zero_add _
def mulSD (x y : D) (k : D → Prop) : Prop := match x, y with
  | .str x, .int n => needB (decide (2 ≤ n) && decide (n ≤ 1000) && Nat.ble 1 x.length && Nat.ble x.length 1000) (k (.str (repS x n.toNat)))
  | _, _ => False
def gMulS : GOp := fun _ x y k => mulSD x y k
theorem o_mulS {X : Cx} : OpD X (binaryOp .Mult) gMulS := by
  intro pins s σ H x y v u Q I rx ry ⟨F, O, dx, dy, R, P, ex, ey, g, k⟩
  unfold gMulS at g
  cases dx <;> cases dy <;> first | exact False.elim g | skip
  cases ex
  cases ey
  rename_i z n
  obtain ⟨t, rfl⟩ := rx
  obtain ⟨t', rfl⟩ := ry
  obtain ⟨g1, g2⟩ := needB_o g
  simp only [Bool.and_eq_true, decide_eq_true_eq] at g1
  obtain ⟨⟨⟨h1, h2⟩, h3⟩, h4⟩ := g1
  have h3 := Nat.le_of_ble_eq_true h3
  have h4 := Nat.le_of_ble_eq_true h4
  have hn : ¬ n < 1 := by omega
  have hc : (n == 1 || z.length == 0) = false := by
    rw [Bool.or_eq_false_iff]
    exact ⟨beq_eq_false_iff_ne.mpr (by omega), beq_eq_false_iff_ne.mpr (by omega)⟩
  have hm : z.length * n.toNat ≤ 1000 * 1000 := Nat.mul_le_mul h4 (by omega)
  refine PySem.P.mul_str (by rw [decide_eq_false (by omega), decide_eq_false (by omega)]; rfl) (fun _ _ => ?_) (fun _ _ => ?_) ?_
  · have a : (1000 : Int) ≤ (2 ^ 63 - 1) / n := by
      refine (Int.le_ediv_iff_mul_le (by omega)).mpr ?_
      omega
    omega
  · show decide (z.length * n.toNat > sizeLine) = false
    rw [sizeLine_eq]
    exact decide_eq_false (by omega)
  · rw [if_neg hn, if_neg (by rw [hc]; decide)]
    refine ⟨?_, ⟨.str _, H, I.tok _, ⟨_, rfl⟩, k _ _ F _ (.refl P) (.str _) g2⟩⟩
    show (repS z n.toNat).length ≤ sizeLine
    rw [repS_length, sizeLine_eq, Nat.mul_comm]
    omega
end Dl

set_option maxRecDepth 100000
set_option maxHeartbeats 2000000
/-! THE DATA LAYER, 11: sorted of tuples of ints, empty ones too. -/
namespace Dl
open PySem PySem.Spec PyProof.Rows L2
section
open PySem.W PySem.SeqAt
variable {prog : Program} {w : World} {A : Around} {E : Value → Shared → Prop} {s : Shared}
theorem tup_lt_call {Q : Value → Shared → Prop} {l b : Addr} {items items2 : Array Value} {e r : Nat → Bool} (hl : s.heap.IsTuple l items) (hb : s.heap.IsTuple b items2)
    (he : ∀ j (h1 : j < items.size) (h2 : j < items2.size), EqAt A.in1 s items[j] items2[j] (e j)) (hr : ∀ j (h1 : j < items.size) (h2 : j < items2.size), e j = false → RcLt A.in1 s items[j] items2[j] (r j))
    (h : Q (.bool (firstLt e r (decide (items.size < items2.size)) (List.range (min items.size items2.size)))) s) : wpAny (model prog w) A (call (.builtin "tuple.__lt__") [.ref l, .ref b]) Q E s := by
  obtain ⟨⟨c1, d1, x1, s1⟩, o1, k1, n, y1⟩ := id hl
  obtain ⟨⟨c2, d2, x2, s2⟩, o2, k2, n2, y2⟩ := id hb
  simp only at k1 y1 k2 y2
  subst k1 y1 k2 y2
  exact call_meets F.slot_tuple_lt ⟨_, o1, rfl⟩ F.entry_tuple_lt (F.args_tuple_lt_2 _ _) (tuple_ltAt l b items items2 n n2 d1 d2 s1 s2 e r) ⟨o1, o2, he, hr, h⟩
theorem tup_oneLt {xs ys : List PyData} {a b : Value} {as bs : List Addr} {Q : Bool → Shared → Prop} (ra : Reads s.heap a (.tuple xs) as) (rb : Reads s.heap b (.tuple ys) bs) (h : alike (.tuple xs) (.tuple ys) = true)
    (hu : A.units + min (PyData.tuple xs).depth (PyData.tuple ys).depth < cLine) (hq : Q (dataLt (.tuple xs) (.tuple ys)) s) : wpAny (model prog w) A (oneLt' true a b) Q E s := by
  have hal : alikeAll xs ys = true := by simpa [alike] using h
  cases ra with
  | @tuple l o vs n _ as₁ h1 h2 h3 h4 =>
    cases rb with
    | @tuple l' o' vs' n' _ bs₁ k1 k2 k3 k4 =>
      have n1 : vs.size = xs.length := by simpa using ReadsAll.length _ _ _ h4
      have n2 : vs'.size = ys.length := by simpa using ReadsAll.length _ _ _ k4
      rw [dataLt_tuple, ← firstLt_toks xs ys hal, ← n1, ← n2] at hq
      rw [oneLt'_eq]
      simp only [if_true]
      refine wpAny_bind (wpAny_cRoomFor (room_here hu) (wpAny_bind (wpAny_callSpecialIfBound?_slot (T := "tuple") ⟨_, h1, h2⟩ F.slot_tuple_lt
        (tup_lt_call (e := pairEq xs ys) (r := fun j => dataLt (xs.getD j .none) (ys.getD j .none)) ⟨_, h1, h2, _, h3⟩ ⟨_, k1, k2, _, k3⟩ (fun j j1 j2 => ?_) (fun j j1 j2 hj => ?_) ?_))))
      · have := eqAt_alikeAll xs ys A.in1 s vs.toList vs'.toList _ _ h4 k4 hal (SeqAt.room_in hu) j (by simpa using j1) (by simpa using j2)
        simpa using this
      · have := rcLt_alikeAll xs ys A.in1 s vs.toList vs'.toList _ _ h4 k4 hal (SeqAt.room_in hu) j (by simpa using j1) (by simpa using j2) hj
        simpa using this
      · exact wpAny_truthy_bool hq
theorem reads_tuple {h : Heap} {v : Value} {xs : List PyData} {as : List Addr} (r : Reads h v (.tuple xs) as) : ∃ (a : Addr) (o : Obj) (vs : Array Value) (n : Nat), v = .ref a ∧ h.get? a = some o ∧ o.cls = .type "tuple" ∧ o.data = .seq vs n ∧ vs.size = xs.length := by
  cases r with
  | @tuple a o vs n _ _ h1 h2 h3 h4 => exact ⟨a, o, vs, n, rfl, h1, h2, h3, by simpa using ReadsAll.length _ _ _ h4⟩
theorem firsts_any {M : Model} : ∀ (vs : List Value) {Q : List (Option Value) → Shared → Prop}, (∀ v ∈ vs, ∃ (a : Addr) (o : Obj) (xs : Array Value) (n : Nat), v = .ref a ∧ s.heap.get? a = some o ∧ o.cls = .type "tuple" ∧ o.data = .seq xs n) →
    (∀ fs : List (Option Value), fs.length = vs.length → (∀ v ∈ vs.head?, ∀ (a : Addr) (o : Obj) (n : Nat), v = .ref a → s.heap.get? a = some o → o.data = .seq #[] n → fs.head? = some none) → Q fs s) → wpAny M A (vs.mapM firstOfTuple') Q E s
  | [], Q, _, h => by
    rw [List.mapM_nil]
    exact wpAny_pure (h [] rfl fun v hv => by cases hv)
  | v :: vs, Q, hv, h => by
    obtain ⟨a, o, xs, n, rfl, ho, hc, hd⟩ := hv v List.mem_cons_self
    rw [List.mapM_cons]
    refine wpAny_bind ?_
    rw [kas_first_eq]
    refine wpAny_bind (Looks.here (show Looks M s.heap (typeOf (.ref a)) o.cls from (Looks.ld ho).andThen .now) ?_)
    rw [hc, if_neg (by first | decide | simp)]
    refine wpAny_bind (listItems_at ho hd (wpAny_pure ?_))
    refine wpAny_bind (firsts_any vs (Q := fun bs s' => wpAny M A (pure (xs[0]? :: bs)) Q E s') (fun u hu => hv u (List.mem_cons_of_mem _ hu)) fun fs e _ => wpAny_pure (h _ (by rw [List.length_cons, List.length_cons, e]) fun u hu b o' n' e1 e2 e3 => ?_))
    cases hu
    cases e1
    rw [ho] at e2
    cases e2
    rw [hd] at e3
    cases e3
    rfl
theorem kind_tup0 {M : Model} {vs : List Value} {Q : SortKind → Shared → Prop} (h2 : 2 ≤ vs.length) (hv : ∀ v ∈ vs, ∃ (a : Addr) (o : Obj) (xs : Array Value) (n : Nat), v = .ref a ∧ s.heap.get? a = some o ∧ o.cls = .type "tuple" ∧ o.data = .seq xs n)
    (h0 : ∃ (a : Addr) (o : Obj) (n : Nat), vs.head? = some (.ref a) ∧ s.heap.get? a = some o ∧ o.data = .seq #[] n) (h : Q oneType' s) : wpAny M A (keyKind' vs.toArray) Q E s := by
  rw [kat_kind_eq, List.mapM_toArray, map_eq_pure_bind]
  refine wpAny_bind (wpAny_bind (firsts_any vs hv fun fs hl hf => wpAny_pure ?_))
  obtain ⟨a, o, n, e1, e2, e3⟩ := h0
  have hf0 := hf (.ref a) (by rw [e1]; rfl) a o n rfl e2 e3
  obtain ⟨f, fr, rfl⟩ : ∃ f fr, fs = f :: fr := by
    cases fs with
    | nil => cases hf0
    | cons f fr => exact ⟨f, fr, rfl⟩
  obtain rfl : f = none := by simpa using hf0
  rw [if_neg (by simp), if_neg (by simp), oneTypeOnly'_eq, List.mapM_toArray, map_eq_pure_bind]
  refine wpAny_bind (wpAny_bind (wpAny_bind (kas_mapM (r := Value.type "tuple") _ (fun v hm Q' hq => ?_) (wpAny_pure ?_))))
  · obtain ⟨b, ob, xs, m, rfl, ho, hc, hd⟩ := hv v hm
    exact Looks.here (show Looks M s.heap (typeOf (.ref b)) (Value.type "tuple") from hc ▸ (Looks.ld ho).andThen .now) hq
  · obtain ⟨v1, v2, rest, rfl⟩ : ∃ v1 v2 rest, vs = v1 :: v2 :: rest := by
      match vs, h2 with
      | [], h2 => simp at h2
      | [_], h2 => simp at h2
      | v1 :: v2 :: rest, _ => exact ⟨v1, v2, rest, rfl⟩
    have hall : ((List.map (fun _ => Value.type "tuple") (v1 :: v2 :: rest)).toArray.all fun x => x == Value.type "tuple") = true := by
      simp only [List.all_toArray, List.all_map, List.all_eq_true]
      intro _ _
      exact beq_self_eq_true _
    have h3 : (List.map (fun _ => Value.type "tuple") (v1 :: v2 :: rest)).toArray[0]? = some (Value.type "tuple") := by simp
    rw [h3]
    simp only [hall, if_true]
    exact wpAny_pure (wpAny_pure h)
/-- tuples, the first of them empty -/
theorem sortsAt0 {vs : List Value} {ds : List PyData} (e : EachIs (fun v d => ∃ as, Reads s.heap v d as) vs (.tuple [] :: ds)) (hal : AllAlike (.tuple [] :: ds)) (hu : ∀ d, d ∈ PyData.tuple [] :: ds → A.units + d.depth < cLine) :
    SortsAt prog w A s (dataKind s.heap (.tuple [] :: ds)) vs := by
  have ht : ∀ d ∈ PyData.tuple [] :: ds, ∃ xs, d = .tuple xs := fun d hd => by
    have q := hal _ (List.mem_cons_self (a := PyData.tuple []) (l := ds)) d hd
    cases d <;> first | exact ⟨_, rfl⟩ | exact absurd q (by simp [alike])
  refine ⟨fun v hv => ?_, oneType', ?_, fun h2 E Q hq => ?_⟩
  · obtain ⟨d, hd, as, r⟩ := e.left v hv
    exact ⟨_, dataKind_some hal hd r⟩
  · intro E x y a b Q ha hb hq
    obtain ⟨d, as, hd, ra, rfl⟩ := dataKind_inv ha
    obtain ⟨d', as', hd', rb, rfl⟩ := dataKind_inv hb
    have hdd := hal d hd d' hd'
    obtain ⟨xs, rfl⟩ := ht d hd
    obtain ⟨ys, rfl⟩ := ht d' hd'
    rw [keyLt'_oneType]
    exact tup_oneLt ra rb hdd (Nat.lt_of_le_of_lt (Nat.add_le_add_left (Nat.min_le_left _ _) _) (hu _ hd)) hq
  · refine kind_tup0 h2 (fun v hv => ?_) ?_ hq
    · obtain ⟨d, hd, as, r⟩ := e.left v hv
      obtain ⟨xs, rfl⟩ := ht d hd
      obtain ⟨a, o, vs', n, e1, e2, e3, e4, _⟩ := reads_tuple r
      exact ⟨a, o, vs', n, e1, e2, e3, e4⟩
    · cases e with
      | cons h1 _ =>
        obtain ⟨as, r⟩ := h1
        obtain ⟨a, o, vs', n, e1, e2, e3, e4, e5⟩ := reads_tuple r
        have e6 : vs' = #[] := Array.eq_empty_of_size_eq_zero e5
        subst e6
        exact ⟨a, o, n, by rw [e1]; rfl, e2, e4⟩
theorem sorted_data0 {β : Type} {enc : β → PyData} {R : Value → β → Prop} {bs : List β} {ds : List PyData} {l : Addr} {vs : List Value} {Q : Value → Shared → Prop} (h0 : bs.map enc = .tuple [] :: ds) (hl : s.heap.IsList l vs.toArray) (e : EachIs R vs bs) (er : EachIs (fun v b => ∃ as, Reads s.heap v (enc b) as) vs bs) (hal : AllAlike (bs.map enc)) (hL : bs.length ≤ sizeLine)
    (hu : ∀ b, b ∈ bs → A.units + 2 + (enc b).depth < cLine) (h : ∀ out, out.length = bs.length → EachIs R out (bs.mergeSort (dataLe false enc)) → Q (.ref (s.heap.objs.size + 1)) { s with heap := sortedAll s.heap vs (List.toArray out) }) :
    wpAny (model prog w) A (call (.builtin "sorted") [.ref l]) Q E s := by
  have er' : EachIs (fun v b => ∃ as, Reads (sortingHeap (copyHeap s.heap vs) (s.heap.objs.size + 1) vs) v (enc b) as) vs bs := er.mono fun _ _ ⟨as, r⟩ => ⟨as, PyProof.Rows.Reads.keeps (fun _ _ => sorting_copy_old) r⟩
  have er2 := each_map (R := fun v d => ∃ as, Reads (sortingHeap (copyHeap s.heap vs) (s.heap.objs.size + 1) vs) v d as) enc er'
  have hal2 := hal
  have hu2 : ∀ d, d ∈ bs.map enc → A.units + 2 + d.depth < cLine := fun d hd => by
    obtain ⟨b, hb, rfl⟩ := List.mem_map.mp hd
    exact hu b hb
  rw [h0] at er2 hal2 hu2
  have sa : SortsAt prog w A.in1.in1 { s with heap := sortingHeap (copyHeap s.heap vs) (s.heap.objs.size + 1) vs } (dataKind (sortingHeap (copyHeap s.heap vs) (s.heap.objs.size + 1) vs) (bs.map enc)) vs := by
    rw [h0]
    exact sortsAt0 (s := { s with heap := sortingHeap (copyHeap s.heap vs) (s.heap.objs.size + 1) vs }) er2 hal2 hu2
  exact sorted_vals hl sa (by rw [e.length]; exact hL) (h _ (by rw [sortVals_length false rfl]; exact e.length) (sortVals_data false e er' hal))
end

open PySem.W (EachIs)
def tupI (ns : List Int) : D := .tup (ns.map .int)
def rowD : D → Option (List Int)
  | .tup ds => intsD ds
  | _ => none
def rowsD : List D → Option (List (List Int))
  | [] => some []
  | d :: r => match rowD d, rowsD r with
    | some x, some y => some (x :: y)
    | _, _ => none
theorem rowD_ok {d : D} {ns : List Int} (h : rowD d = some ns) : d = tupI ns := by
  cases d with
  | tup ds => exact congrArg D.tup (intsD_ok (show intsD ds = some ns from h))
  | _ => cases h
theorem rowD_tupI (ns : List Int) : rowD (tupI ns) = some ns := by
  show intsD (ns.map fun n => D.int n) = some ns
  rw [intsD_map (fun n => n) ns, List.map_id']
theorem rowsD_ok : ∀ {ds : List D} {rs : List (List Int)}, rowsD ds = some rs → ds = rs.map tupI
  | [], rs, h => by cases h; rfl
  | d :: ds, rs, h => by
    unfold rowsD at h
    split at h
    · rename_i x y e1 e2
      cases h
      rw [rowD_ok e1, rowsD_ok e2]
      rfl
    · cases h
theorem rowsD_map {α : Type} (f : α → List Int) (g : α → D) (h : ∀ x, g x = tupI (f x)) : ∀ xs : List α, rowsD (xs.map g) = some (xs.map f)
  | [] => rfl
  | x :: xs => by
    rw [List.map_cons, rowsD, h x, rowD_tupI, rowsD_map f g h xs]
    rfl
def encI (ns : List Int) : PyData := .tuple (ns.map .int)
theorem toPys_int : ∀ ns : List Int, toPys (ns.map .int) = ns.map PyData.int
  | [] => rfl
  | n :: ns => congrArg (PyData.int n :: ·) (toPys_int ns)
theorem toPy_tupI (ns : List Int) : toPy (tupI ns) = encI ns := congrArg PyData.tuple (toPys_int ns)
def leI (a b : List Int) : Bool := PySem.W.dataLe false encI a b
def sortI (rs : List (List Int)) : List (List Int) := rs.mergeSort leI
theorem sortI_perm (rs : List (List Int)) : (sortI rs).Perm rs := List.mergeSort_perm _ _
theorem alike_encI (a b : List Int) : PySem.W.alike (encI a) (encI b) = true := by
  show PySem.W.alike (.tuple _) (.tuple _) = true
  simp only [PySem.W.alike]
  exact PySem.W.alike_ints a b
theorem depth_encI (a : List Int) : (encI a).depth ≤ 1 := by
  show (PyData.tuple _).depth ≤ 1
  simp only [PyData.depth, PySem.W.depth_ints]
  omega
theorem okDs_ints : ∀ ns : List Int, okDs 59 (ns.map .int) = true
  | [] => rfl
  | n :: ns => by
    rw [List.map_cons, okDs, okDs_ints ns]
    rfl
theorem okD_tupI (ns : List Int) : okD 60 (tupI ns) = true := okDs_ints ns
/-- a value that stands for the row b, over the heap H and the data F -/
def StdI (K : PySem.W.Frag) (F : Hp) (v : Value) (b : List Int) : Prop := ∃ x, RelV x v ∧ Rep K F (tupI b) x
theorem each_std {K : PySem.W.Frag} {F : Hp} : ∀ {bs : List (List Int)} {xs : List V} {us : List Value}, RepL K F (bs.map tupI) xs → Vals xs us → EachIs (StdI K F) us bs
  | [], _, _, .nil, .nil => .nil
  | b :: bs, _, _, .cons r rs, .cons h hs => .cons ⟨_, h, r⟩ (each_std rs hs)
theorem std_each {K : PySem.W.Frag} {F : Hp} : ∀ {bs : List (List Int)} {us : List Value}, EachIs (StdI K F) us bs → ∃ xs, RepL K F (bs.map tupI) xs ∧ Vals xs us
  | _, _, .nil => ⟨[], .nil, .nil⟩
  | _, _, .cons ⟨x, h1, h2⟩ t => by
    obtain ⟨xs, q1, q2⟩ := std_each t
    exact ⟨x :: xs, .cons h2 q1, .cons h1 q2⟩
/-- sorted(xs) of tuples of ints: all with an item, or the first empty -/
def gSortT : GC := fun ds O Q => match ds with
  | [.lst xs] => match rowsD xs with
    | some rs => needB (rs.all (fun r => !r.isEmpty) || match rs with
        | [] :: _ => true
        | _ => false) (Q (.lst ((sortI rs).map tupI)) O)
    | none => False
  | _ => False
theorem c_sortT {X : Cx} (hu : X.A.units + 65 < cLine) : CallD X (.builtin "sorted") gSortT := by
  intro pins s σ H vs us Q I r ⟨F, O, ds, R, P, rs, g, k⟩
  match ds, rs, g with
  | [.lst xs], .cons (.lst (a := a) (xs := vs) hx lx) .nil, g =>
    unfold gSortT at g
    cases e : rowsD xs with
    | none => simp only [e] at g
    | some bs =>
      simp only [e] at g
      obtain ⟨g1, g2⟩ := needB_o g
      have e2 := rowsD_ok e
      subst e2
      obtain ⟨its, rv, hl, hz⟩ := I.list (SqL.of (K := X.K) (P.fh _ _ hx))
      obtain ⟨u, rfl, ru⟩ := vals1 r
      obtain rfl : u = Value.ref a := ru
      have ec : EachIs (StdI X.K F) its bs := each_std lx rv
      have er : EachIs (fun v b => ∃ as, Reads s.heap v (encI b) as) its bs := ec.mono fun v b ⟨x, h1, h2⟩ => by
        have z := (h2.mono P.fh).dp (okD_tupI b)
        rw [toPy_tupI] at z
        exact Dp.reads I _ x v z h1
      have hal : PySem.W.AllAlike (bs.map encI) := PySem.W.AllAlike.of alike_encI
      have hL : bs.length ≤ sizeLine := by
        have := lx.length
        rw [List.length_map] at this
        omega
      have hub : ∀ b, b ∈ bs → X.A.units + 2 + (encI b).depth < cLine := fun b _ => by
        have := depth_encI b
        omega
      have fin : ∀ out, out.length = bs.length → EachIs (StdI X.K F) out (bs.mergeSort (PySem.W.dataLe false encI)) → EP X pins σ Q (.ref (s.heap.objs.size + 1)) { s with heap := sortedAll s.heap its (List.toArray out) } := fun out hl eo => by
        obtain ⟨ys, q1, q2⟩ := std_each eo
        obtain ⟨c, hc⟩ := sortedAll_at s.heap its out.toArray
        have hp := I.hok.fresh (Nat.le_succ s.heap.objs.size)
        have z := Stp.lst P hp q1
        refine ⟨.ref (s.heap.objs.size + 1), _, I.laid (t' := s.toks) (o := .lst ys) (fun _ _ => sortedAll_old) (Nat.le_succ _) ⟨?_, out, c, q2, hc⟩, rfl, k _ _ _ _ O z.1 z.2 g2⟩
        rw [q2.length, hl]
        exact hL
      rcases Bool.or_eq_true_iff.mp g1 with h | h
      · refine PySem.W.sorted_data hl.isList ec er hal (.inl fun d hd => ?_) hL hub fin
        obtain ⟨b, hb, rfl⟩ := List.mem_map.mp hd
        have h2 := List.all_eq_true.mp h b hb
        cases b with
        | nil => exact absurd h2 (by decide)
        | cons x r => exact ⟨_, _, rfl⟩
      · cases bs with
        | nil => exact absurd h (by simp)
        | cons b bs =>
          cases b with
          | cons _ _ => exact absurd h (by simp)
          | nil => exact sorted_data0 (enc := encI) rfl hl.isList ec er hal hL hub fin
end Dl

set_option maxRecDepth 100000
set_option maxHeartbeats 2000000
/-! THE DATA LAYER, 12: sorted(xs, key=lambda x: (*x, n)). -/
namespace Dl
open PySem PySem.Spec PyProof.Rows L2 LamX
open PySem.W (EachIs)
section
variable {X : Cx} {pins : List (Addr × Obj)} {σ : L2.St} {H : Hp} {s : Shared}
/-- the heap behind the making of a lambda: the same, or its code object is new in the table -/
inductive LamH (H : Hp) (P : Addr) (q : Str) (c' : Addr) : Hp → Prop where
  | hit : H c' = some (CodeO c' q) → LamH H P q c' H
  | new {ps : Array Value} {more : Array Value} : H P = some (.tbl ps) → H c' = none → TriplesOk (ps ++ more).toList → (∀ (pos : Pos) (cv : Value), codeAmong pos (ps ++ more).toList = some cv → cv = .ref c' ∨ codeAmong pos ps.toList = some cv) → LamH H P q c' (upd (upd H P (.tbl (ps ++ more))) c' (CodeO c' q))
theorem lam_make3 {q : Str} {c P : Addr} {ps : Array Value} {params : Arguments} {body : Expr} {scope : Scope} {pos : Pos} {E : Value → Shared → Prop} {Q : Value → Shared → Prop} (I : Inv X pins σ H s) (TB : TabB X.base X.mg c P) (hcode : X.env.code = .ref c)
    (eq : q = X.env.qual ++ "<lambda>") (hP : H P = some (.tbl ps)) (ht : TriplesOk ps.toList) (ha : ∀ (pos : Pos) (cv : Value), codeAmong pos ps.toList = some cv → ∃ c, cv = .ref c ∧ H c = some (CodeO c q)) (hdef : defaultsOf params X.env = ([], [])) (hfree : ∀ y ∈ scope.names, y.2 = .free → ∃ c, X.env.cells.lookup y.1 = some c)
    (h : ∀ (f c' : Addr) (pm ctv : Value) (H1 : Hp) (s' : Shared), Inv X pins σ H1 s' → LamH H P q c' H1 → s'.heap.get? f = some (PySem.W.kla_obj "<lambda>" q params body scope (cloFrom X.env.cells scope.names []) pm c' ctv) → s'.heap.CodeRec (.ref c') q → Q (.ref f) s') :
    wpAny (model X.prog X.w) X.A (eval (.Lambda params body scope pos) X.env) Q E s := by
  subst eq
  refine PySem.W.kla_eval hdef ?_
  have bP : s.heap.BuiltinsAt X.mg P := TB.bm.keeps I.bk
  have hP' : s.heap.get? P = some { cls := .none, data := .fields ps } := I.hok P _ hP
  cases hc : codeAmong pos ps.toList with
  | none =>
    refine PySem.W.kla_makeFunction (mg := X.mg) (c := c) (P := P) (ps := ps) (closure_ok hfree) I.ok.glob (I.mod.glob.keeps I.bk) hcode (TB.code.keeps I.bk) hP' ht hc TB.gP bP fun c' ctv h' tk hx hge hlt hrec htb => ?_
    obtain ⟨c2, oc, vs, t, e2, hoc, hd, hv⟩ := hrec
    cases e2
    have nC : H c' = none := I.hok.fresh hge
    have kp : ∀ b o, h'.get? b = some o → (h'.push (PySem.W.kla_obj "<lambda>" (X.env.qual ++ "<lambda>") params body scope (cloFrom X.env.cells scope.names []) ((X.mg "__name__").getD .none) c' ctv)).get? b = some o := fun b o e => Heap.get?_push_of_some _ e
    have I1 := inv_table (t' := tk) (more := #[rawInt pos.line, rawInt pos.col, .ref c']) (h' := h'.push (PySem.W.kla_obj "<lambda>" (X.env.qual ++ "<lambda>") params body scope (cloFrom X.env.cells scope.names []) ((X.mg "__name__").getD .none) c' ctv)) I hP
      (fun b o hb e => kp _ _ (hx b o hb e)) (kp _ _ htb) hge ⟨oc, vs, t, kp _ _ hoc, hd, hv⟩
    have eL : (ps ++ #[rawInt pos.line, rawInt pos.col, .ref c']).toList = ps.toList ++ [rawInt pos.line, rawInt pos.col, .ref c'] := by simp
    refine h h'.objs.size c' ((X.mg "__name__").getD .none) ctv _ _ I1 (.new hP nC (by rw [eL]; exact PySem.TriplesOk_snoc _ _ _ _ ht) fun p' cv hcv => ?_) (Heap.get?_push_size _ rfl) ⟨c', oc, vs, t, rfl, kp _ _ hoc, hd, hv⟩
    rw [eL] at hcv
    exact (among_app _ ht hcv).symm
  | some cv =>
    obtain ⟨c', e, hco⟩ := ha pos cv hc
    subst e
    obtain ⟨⟨oc, vs, t, hoc, hdc, hvc⟩, _, _⟩ := I.hok c' _ hco
    refine PySem.W.kla_makeFunctionHit (mg := X.mg) (c := c) (P := P) (ps := ps) (closure_ok hfree) I.ok.glob (I.mod.glob.keeps I.bk) hcode (TB.code.keeps I.bk) hP' ht hc bP fun ctv h' tk hx hsz => ?_
    have kp : ∀ b o, s.heap.get? b = some o → (h'.push (PySem.W.kla_obj "<lambda>" (X.env.qual ++ "<lambda>") params body scope (cloFrom X.env.cells scope.names []) ((X.mg "__name__").getD .none) c' ctv)).get? b = some o := fun b o e => Heap.get?_push_of_some _ (hx b o e)
    exact h h'.objs.size c' ((X.mg "__name__").getD .none) ctv H _ (I.kept kp) (.hit hco) (Heap.get?_push_size _ rfl) ⟨c', oc, vs, t, rfl, kp _ _ hoc, hdc, hvc⟩
end
/-! ### the lambda's own body -/
section
variable {prog : Program} {w : World} {A : Around} {E : Value → Shared → Prop} {s : Shared}
theorem reads_of_ints {h : Heap} : ∀ {ns : List Int} {us : List Value}, IntsAre us ns → ReadsAll h us (ns.map .int) []
  | _, _, .nil => .nil
  | _, _, .cons n t r => .cons (as := []) (.int n t) (reads_of_ints r)
theorem ints_snoc {ns : List Int} {us : List Value} (h : IntsAre us ns) (n : Int) (t : Tok) : IntsAre (us ++ [.int n t]) (ns ++ [n]) := by
  induction h with
  | nil => exact .cons n t .nil
  | cons m u r ih => exact .cons m u ih
/-- (*x, n) -/
theorem key_body {env : Env} {L p : Addr} {x : Str} {o : Obj} {its : Array Value} {n0 : Nat} {ns : List Int} {n : Int} {j k : Nat} {p1 p2 p3 pos : Pos} {m : Str → Option Value} {Q : Value → Shared → Prop} (hk : env.scope.kind = .function) (hl : env.kindOf x = some .local) (hL : env.locals = L) (hn : s.heap.Ns L m) (hm : m x = some (.ref p))
    (ho : s.heap.get? p = some o) (hc : o.cls = .type "tuple") (hd : o.data = .seq its n0) (hi : IntsAre its.toList ns) (hz : ns.length < 1000000) (hdb : (x == ("__debug__" : Str)) = false)
    (hs : starEach [.Starred (.Name x p1) p2, .Constant (.int n) j p3] env = (true, eval (.Name x p1) env) :: starEach [.Constant (.int n) j p3] env := by rfl) (hs2 : starEach [.Constant (.int n) j p3] env = [(false, eval (.Constant (.int n) j p3) env)] := by rfl)
    (h : ∀ (h' : Heap) (tk : Nat) (v : Value), (∀ b o, s.heap.get? b = some o → h'.get? b = some o) → Reads h' v (encI (ns ++ [n])) [] → Q v { s with heap := h', toks := tk }) :
    wpAny (model prog w) A (eval (.Tuple [.Starred (.Name x p1) p2, .Constant (.int n) j p3] k pos) env) Q E s := by
  have hT : s.TypeIs (.ref p) "tuple" := ⟨o, ho, hc⟩
  have hlen := hi.length
  rw [Array.length_toList] at hlen
  refine wpAny_Tuple_spliced (PySem.W.items_star (wpAny_Name (wpAny_loadName_local hk hl (by rw [hL]; exact hn) hm ?_) hdb) hs)
  unfold PySem.W.StarOf notIterableAtAll
  refine wpAny_bind (wpAny_specialOf hT PySem.F.slot_tuple_iter.lookup (wpAny_pure ⟨rfl, wpAny_collect_seq p (.inr rfl) ho hc hd (fun h1 k1 => ?_) (by rw [sizeLine_eq]; omega)⟩))
  rw [hs2]
  show wpAny _ _ (spliced [(false, eval (.Constant (.int n) j p3) env)]) _ _ _
  refine Calls.spliced_cons (wpAny_Constant_int (Calls.spliced_nil ?_))
  have hi2 := ints_snoc hi n s.toks
  have hl2 := hi2.length
  refine ⟨?_, ?_⟩
  · rw [List.length_append, Array.length_toList, sizeLine_eq]
    simp only [List.length_cons, List.length_nil]
    omega
  · refine h _ _ _ (fun b o e => Heap.get?_push_of_some _ (k1 b o e)) (.tuple (Heap.get?_push_size _ rfl) rfl rfl ?_)
    exact reads_of_ints hi2
end

/-- a call of the lambda at f: the key -/
theorem key_call {prog : Program} {w : World} {A : Around} {s : Shared} {f c' p : Addr} {q x : Str} {params : Arguments} {scope : Scope} {cl : List (Str × Addr)} {pm ctv : Value} {ns : List Int} {n : Int} {j k : Nat} {p1 p2 p3 pos : Pos} {o : Obj} {its : Array Value} {n0 : Nat}
    (hA : A.depth < recursionLimit) (nl : s.heap.NoLimit) (hf : s.heap.get? f = some (PySem.W.kla_obj "<lambda>" q params (.Tuple [.Starred (.Name x p1) p2, .Constant (.int n) j p3] k pos) scope cl pm c' ctv)) (hcr : s.heap.CodeRec (.ref c') q)
    (hbind : ∀ v, bindArgs (PySem.W.kla_fn "<lambda>" q params (.Tuple [.Starred (.Name x p1) p2, .Constant (.int n) j p3] k pos) scope cl pm (.ref c') ctv) ⟨[v], []⟩ = pure [(x, v)])
    (hco : scope.isCoroutine = false) (hgen : scope.isGenerator = false) (hk : scope.kind = .function) (hcell : ∀ y ∈ scope.names, y.2 ≠ .cell) (hx : scope.names.lookup x = some .local) (hdb : (x == ("__debug__" : Str)) = false)
    (ho : s.heap.get? p = some o) (hc : o.cls = .type "tuple") (hd : o.data = .seq its n0) (hi : IntsAre its.toList ns) (hz : ns.length < 1000000) :
    wpAny (model prog w) A (call (.ref f) [.ref p]) (PySem.W.KeyPure (encI (ns ++ [n])) s) (fun _ _ => False) s := by
  have rc : codeAny (model prog w) A (.call (.ref f) ⟨[.ref p], []⟩) (fun r s' => match r with
      | .ok (.ret v) => PySem.W.KeyPure (encI (ns ++ [n])) s v s'
      | _ => False) s := by
    refine PySem.W.kla_callFunE hA hf rfl hco hgen rfl hcr ?_
    rw [hbind]
    refine wpAny_pure (wpAny_newFunctionEnv hcell (fun y hy => ?_) (fun h1 hns hsb => ⟨nl.fresh _ hsb, ?_⟩) hk)
    · rw [List.mem_singleton] at hy
      rw [hy]
      exact hx
    · have kp : ∀ b o, s.heap.get? b = some o → h1.get? b = some o := fun b o e => hsb.extBut b o (Nat.ne_of_lt (Heap.lt_size e)) (Heap.get?_push_of_some _ e)
      refine PySem.W.kla_codeExpr (key_body (m := fun y => [(x, Value.ref p)].reverse.lookup y) (p := p) hk hx rfl hns (by simp [List.lookup]) (kp _ _ ho) hc hd hi hz hdb (h := fun h' tk v kv r => ?_))
      exact ⟨h', tk, rfl, fun b o e => kv b o (kp b o e), r⟩
  refine wpAny_call (codeAny_mono rc fun r s' hq => ?_)
  cases r with
  | error e => exact hq.elim
  | ok fl =>
    cases fl with
    | ret u => exact hq
    | next => exact False.elim hq
    | brk => exact False.elim hq
    | cont => exact False.elim hq
def leK (n : Int) (a b : List Int) : Bool := PySem.W.dataLe false (fun ns => encI (ns ++ [n])) a b
def sortK (n : Int) (rs : List (List Int)) : List (List Int) := rs.mergeSort (leK n)
theorem sortK_perm (n : Int) (rs : List (List Int)) : (sortK n rs).Perm rs := List.mergeSort_perm _ _
/-- sorted(ta, key=lambda x: ( *x, n)): the table of code objects at P -/
def tdSortK (P : Addr) (q : Str) (n : Int) (ta : TD) : TD := fun env O Q => ta env O fun x O1 => match x with
  | .lst ds => match rowsD ds with
    | some rs => needB (rs.all fun r => Nat.blt r.length 1000000) (O1 P = some (.tbl q) ∧ Q (.lst ((sortK n rs).map tupI)) O1)
    | none => False
  | _ => False
theorem codeO_keep {K : PySem.W.Frag} {F H : Hp} {O : DO} {P c' : Addr} {q : Str} {ps more : Array Value} (Pr : Pre K F O H) (hO : O P = some (.tbl q)) (hP : H P = some (.tbl ps)) (hc : H c' = none) (ht : TriplesOk (ps ++ more).toList)
    (hm : ∀ (pos : Pos) (cv : Value), codeAmong pos (ps ++ more).toList = some cv → cv = .ref c' ∨ codeAmong pos ps.toList = some cv) :
    Stp K F O H (upd F c' (CodeO c' q)) O (upd (upd H P (.tbl (ps ++ more))) c' (CodeO c' q)) := by
  have nPc : P ≠ c' := ne_of_none hP hc
  have z1 := Stp.fz (o := CodeO c' q) Pr hc
  have hP2 : O P = some (.tbl q) := hO
  obtain ⟨hF, ps', hq, t, r⟩ := z1.pre.ro P _ hP2
  rw [upd_ne nPc, hP] at hq
  cases hq
  have z2 := Stp.own (p := P) (o := .tbl (ps ++ more)) (c := .tbl q) z1.pre hF (.inr ⟨_, hP2⟩) ⟨_, upd_same, ht, fun pos cv h => by
    rcases hm pos cv h with e | e
    · exact ⟨c', e, upd_same⟩
    · exact r pos cv e⟩
  have eO : updO O P (.tbl q) = O := by
    funext b
    by_cases e : b = P
    · rw [e, updO_same, hO]
    · rw [updO_ne e]
  rw [eO] at z2
  have eH : upd (upd H c' (CodeO c' q)) P (.tbl (ps ++ more)) = upd (upd H P (.tbl (ps ++ more))) c' (CodeO c' q) := by
    funext b
    by_cases e1 : b = P
    · rw [e1, upd_same, upd_ne nPc, upd_same]
    · by_cases e2 : b = c'
      · rw [e2, upd_ne (Ne.symm nPc), upd_same, upd_same]
      · rw [upd_ne e1, upd_ne e2, upd_ne e2, upd_ne e1]
  rw [eH] at z2
  exact z1.trans z2
theorem d_sortK {X : Cx} {a : Expr} {ta : TD} {q x : Str} {c P : Addr} {params : Arguments} {scope : Scope} {n : Int} {j k : Nat} {p p1 p2 p3 p4 p5 pos lpos kpos : Pos} (hr : Room 1 X.A) (TB : TabB X.base X.mg c P) (hcode : X.env.code = .ref c) (hm : X.mg "sorted" = none) (eq : q = X.env.qual ++ "<lambda>") (ha : PD X a ta)
    (hbind : ∀ (cl : List (Str × Addr)) (pm cv ctv v : Value), bindArgs (PySem.W.kla_fn "<lambda>" q params (.Tuple [.Starred (.Name x p1) p2, .Constant (.int n) j p3] k p4) scope cl pm cv ctv) ⟨[v], []⟩ = pure [(x, v)] := by intros; rfl)
    (hdef : defaultsOf params X.env = ([], []) := by rfl) (hfree : ∀ y ∈ scope.names, y.2 ≠ .free := by decide) (hco : scope.isCoroutine = false := by rfl) (hgen : scope.isGenerator = false := by rfl) (hk : scope.kind = .function := by rfl) (hcell : ∀ y ∈ scope.names, y.2 ≠ .cell := by decide) (hx : scope.names.lookup x = some .local := by rfl)
    (hdb : (x == ("__debug__" : Str)) = false := by decide) (hg : Gl X "sorted" := by rfl) (he : starEach [a] X.env = [(false, eval a X.env)] := by rfl) :
    PD X (.Call (.Name "sorted" p) [a] [⟨some (Str.ofString "key"), .Lambda params (.Tuple [.Starred (.Name x p1) p2, .Constant (.int n) j p3] k p4) scope lpos, kpos⟩] pos) (tdSortK P q n ta) := by
  refine ⟨fun pins s σ H Q I ⟨F, O, env, R, Pr, re, h, kk⟩ => ?_⟩
  refine wpAny_Call_Name_kw (ld_blt I hg hm (u := .builtin "sorted") (by decide +kernel) ?_ (by decide) (by decide))
  refine PyProof.Rows.callWith_kw (PyProof.Rows.args_cons (thn (ha.run pins s σ H (fun x H1 => ∃ F1 O1 ds, Stp X.K F O H F1 O1 H1 ∧ Rep X.K F1 (.lst ds) x ∧ match rowsD ds with
        | some rs => needB (rs.all fun r => Nat.blt r.length 1000000) (O1 P = some (.tbl q) ∧ R (.lst ((sortK n rs).map tupI)) O1)
        | none => False) I ⟨F, O, env, _, Pr, re, h, fun v H1 F1 d O1 s1 r1 h1 => ?_⟩) fun v s1 ⟨y, H1, I1, ry, F1, O1, ds, st, rd, g⟩ => args_nil ?_) he) (by rw [he]; rfl) (by rw [he]; rfl) rfl rfl
  · cases r1 with
    | lst hx lx => exact ⟨F1, O1, _, s1, .lst hx lx, h1⟩
    | _ => exact h1.elim
  cases e : rowsD ds with
  | none => simp only [e] at g
  | some bs =>
  simp only [e] at g
  obtain ⟨g1, hO, g2⟩ := needB_o g
  have e2 := rowsD_ok e
  subst e2
  cases rd with
  | @lst la xs _ hlx lx =>
  cases ry
  obtain ⟨hFP, ps, hPt, htr, hcode'⟩ := st.pre.ro P _ hO
  show wpAny _ _ (evalAll [do let v ← eval (.Lambda params (.Tuple [.Starred (.Name x p1) p2, .Constant (.int n) j p3] k p4) scope lpos) X.env; standAt pos; pure v]) _ _ s1
  refine wpAny_evalAll_cons (wpAny_bind (lam_make3 I1 TB hcode eq hPt htr (fun pos cv hc => ?_) hdef (fun y hy ey => absurd ey (hfree y hy)) fun f c' pm ctv H2 s2 I2 hL hf hcr => wpAny_bind (wpAny_standAt (wpAny_pure (wpAny_evalAll_nil ?_)))))
  · obtain ⟨c1, q1, q2⟩ := hcode' pos cv hc
    exact ⟨c1, q1, st.pre.fh _ _ q2⟩
  have st2 : ∃ F2, Stp X.K F1 O1 H1 F2 O1 H2 := by
    cases hL with
    | hit _ => exact ⟨F1, .refl st.pre⟩
    | new hP1 hc1 ht1 hm1 =>
      exact ⟨_, codeO_keep st.pre hO hP1 hc1 ht1 hm1⟩
  obtain ⟨F2, st2⟩ := st2
  show wpAny _ _ (call (.builtin "sorted") [.ref la] [(Str.ofString "key", .ref f)]) _ _ s2
  obtain ⟨its, rv, hl, hz⟩ := I2.list (SqL.of (K := X.K) (st2.pre.fh _ _ (st2.ff _ _ hlx)))
  have ec : EachIs (StdI X.K F2) its bs := each_std (lx.mono st2.ff) rv
  have hL : bs.length ≤ sizeLine := by
    have := lx.length
    rw [List.length_map] at this
    omega
  refine PySem.W.sorted_key_data (k := fun ns => encI (ns ++ [n])) (b := false) hl.isList ec (PySem.W.AllAlike.of fun a b => alike_encI _ _) (PySem.W.Sortable.tuples fun b => ?_) hL (fun b _ => ?_) (PyProof.Rows.ksk_s1 _ _) (fun _ => PyProof.Rows.ksk_l1 _ _) (fun _ => PyProof.Rows.ksk_t1 f _) (fun v b hb hmem h2 tk up => ?_) fun out c2 h' tk kp fresh hD hlo eo => ?_
  · cases b with
    | nil => exact ⟨_, _, rfl⟩
    | cons z zs => exact ⟨_, _, rfl⟩
  · have := depth_encI (b ++ [n])
    have := hr.un
    omega
  · obtain ⟨x', rx, rp⟩ := hb
    cases rp with
    | @tup pa ys _ hpa lpa =>
      cases rx
      obtain ⟨its2, rv2, ⟨o2, ho2, hc2, n2, hd2⟩, hz2⟩ := I2.tuple (SqT.of (K := X.K) (st2.pre.fh _ _ hpa))
      have ey := RepL.ints lpa
      subst ey
      have hi2 : IntsAre its2 b := intsAre_of rv2
      have hb1 := Nat.le_of_ble_eq_true (List.all_eq_true.mp g1 b hmem)
      exact key_call (s := { s2 with heap := h2, toks := tk }) (by have := hr.dp; show X.A.depth < recursionLimit; omega) (I2.nolimit.keeps up) (up _ _ hf) (hcr.keeps up) (fun v => hbind _ _ _ _ _) hco hgen hk hcell hx hdb (up _ _ ho2) hc2 hd2 (by simpa using hi2) hb1
  · obtain ⟨ys, q1, q2⟩ := std_each eo
    have hp := I2.hok.fresh (Nat.le_succ s2.heap.objs.size)
    have z := Stp.lst st2.pre hp q1
    refine ⟨.ref (s2.heap.objs.size + 1), _, I2.laid (t' := tk) (o := .lst ys) kp (Nat.le_succ _) ⟨?_, out, c2, q2, hD⟩, rfl, kk _ _ _ _ O1 (st.trans (st2.trans z.1)) z.2 g2⟩
    rw [q2.length, hlo]
    exact hL
end Dl

set_option maxRecDepth 100000
set_option maxHeartbeats 2000000
/-! THE DATA LAYER, 13: dict comprehensions with two clauses (after the layer's own rule for lists). -/
namespace Dl
open PySem PySem.Spec PyProof.Rows L2
theorem dcTurn_out (kx vx t0 i0 t1 i1 : Expr) (ifs0 ifs1 : List Expr) (scope : Scope) (pos : Pos) (it : Value) (D : Addr) (env : Env) :
    compTurn (.DictComp kx vx [⟨t0, i0, ifs0, 0⟩, ⟨t1, i1, ifs1, 0⟩] scope pos) 0 it (.ref D) env = (do
      standAt i0.pos
      match ← pyNext it with
      | none => pure (.done .next)
      | some v =>
        letOwnedTupleGo t0 it v
        assign t0 env v
        let mut ok := true
        for c in ifs0 do
          if ok then ok ← isTrue c env (eval c env)
        if ok then
          let x ← eval i1 env
          standAt i1.pos
          let x ← foldedSetIterable i1 env x
          let _ ← runOwn (.compStart (.DictComp kx vx [⟨t0, i0, ifs0, 0⟩, ⟨t1, i1, ifs1, 0⟩] scope pos) 1 (← holding [x] (pyIter x)) (.ref D) env) env
        again (.compLoop (.DictComp kx vx [⟨t0, i0, ifs0, 0⟩, ⟨t1, i1, ifs1, 0⟩] scope pos) 0 it (.ref D) env)) := by rfl
theorem dcTurn_in (kx vx t0 i0 t1 i1 : Expr) (ifs0 ifs1 : List Expr) (scope : Scope) (pos : Pos) (it : Value) (D : Addr) (env : Env) :
    compTurn (.DictComp kx vx [⟨t0, i0, ifs0, 0⟩, ⟨t1, i1, ifs1, 0⟩] scope pos) 1 it (.ref D) env = (do
      standAt i1.pos
      match ← pyNext it with
      | none => pure (.done .next)
      | some v =>
        letOwnedTupleGo t1 it v
        assign t1 env v
        let mut ok := true
        for c in ifs1 do
          if ok then ok ← isTrue c env (eval c env)
        if ok then
          (do
            let kv ← eval kx env
            let vv ← holding [kv] (eval vx env)
            standAt { kx.pos with endLine := vx.pos.endLine, endCol := vx.pos.endCol }
            holding [kv, vv] (dictSet D kv vv))
        again (.compLoop (.DictComp kx vx [⟨t0, i0, ifs0, 0⟩, ⟨t1, i1, ifs1, 0⟩] scope pos) 1 it (.ref D) env)) := by rfl

section
variable {prog : Program} {w : World} {A : Around} {R : Result → Shared → Prop} {s : Shared} {kx vx t0 i0 t1 i1 : Expr} {ifs0 ifs1 : List Expr} {scope : Scope} {pos : Pos} {it : Value} {D : Addr} {env : Env}
/-- the loop of the first clause -/
theorem dcLoop_out (hs : ∀ x, foldedSetIterable i1 env x = pure x) (I : Nat → Shared → Prop)
    (turn : ∀ n s, I n s → wpAny (model prog w) A (pyNext it) (fun r s₁ => match r with
      | none => R (.ok .next) s₁
      | some v => wpAny (model prog w) A (letOwnedTupleGo t0 it v) (fun _ s₁' => wpAny (model prog w) A (assign t0 env v) (fun _ s₂ =>
          wpAny (model prog w) A (forIn ifs0 true fun c r => if r = true then do let ok ← isTrue c env (eval c env); pure (ForInStep.yield ok) else pure (ForInStep.yield r)) (fun ok s₃ =>
            if ok = true then wpAny (model prog w) A (eval i1 env) (fun x s₄ => wpAny (model prog w) A (pyIter x) (fun it1 s₅ =>
              codeAny (model prog w) A (.compStart (.DictComp kx vx [⟨t0, i0, ifs0, 0⟩, ⟨t1, i1, ifs1, 0⟩] scope pos) 1 it1 (.ref D) env) (fun r s' => match r with
                | .ok _ => ∃ m, m < n ∧ I m s'
                | .error _ => False) s₅) (notedBy (model prog w) A env fun e s' => R (.error e) s') s₄) (notedBy (model prog w) A env fun e s' => R (.error e) s') s₃
            else ∃ m, m < n ∧ I m s₃) (notedBy (model prog w) A env fun e s' => R (.error e) s') s₂) (notedBy (model prog w) A env fun e s' => R (.error e) s') s₁') (notedBy (model prog w) A env fun e s' => R (.error e) s') s₁) (notedBy (model prog w) A env fun e s' => R (.error e) s') s)
    (n : Nat) (h : I n s) :
    codeAny (model prog w) A (.compLoop (.DictComp kx vx [⟨t0, i0, ifs0, 0⟩, ⟨t1, i1, ifs1, 0⟩] scope pos) 0 it (.ref D) env) R s := by
  refine codeAny_loop rfl I (fun n s hI => ?_) n h
  show wpAny _ A ((compTurn (.DictComp kx vx [⟨t0, i0, ifs0, 0⟩, ⟨t1, i1, ifs1, 0⟩] scope pos) 0 it (.ref D) env).onRaise (fun x => do noteFrame x env; theTreesLotGoes x)) _ _ s
  refine wpAny_noted ?_
  rw [dcTurn_out]
  refine wpAny_bind (wpAny_standAt (wpAny_bind (wpAny_mono (turn n s hI) (fun r s₁ h₁ => ?_) fun _ _ h' => h')))
  cases r with
  | none => exact wpAny_pure h₁
  | some v =>
    refine wpAny_bind (wpAny_mono h₁ (fun _ s₁' h₁' => ?_) fun _ _ h' => h')
    refine wpAny_bind (wpAny_mono h₁' (fun _ s₂ h₂ => wpAny_bind (wpAny_mono h₂ (fun ok s₃ h₃ => ?_) fun _ _ h' => h')) fun _ _ h' => h')
    cases ok with
    | false => exact wpAny_pure ⟨rfl, h₃⟩
    | true =>
      refine wpAny_bind (wpAny_mono h₃ (fun x s₄ h₄ => ?_) fun _ _ h' => h')
      refine wpAny_bind (wpAny_standAt (wpAny_bind (wpAny_of_eq (hs x) (wpAny_bind (wpAny_holding (wpAny_mono h₄ (fun it1 s₅ h₅ => ?_) fun _ _ h' => h'))))))
      refine wpAny_bind (wpAny_runOwn ?_)
      rw [Around.mark_none]
      refine codeAny_mono h₅ fun r s' hr => ?_
      cases r with
      | ok f =>
        first
          | exact wpAny_pure ⟨rfl, hr⟩
          | exact wpAny_bind (wpAny_pure (wpAny_pure ⟨rfl, hr⟩))
      | error e => exact hr.elim
/-- the loop of the second -/
theorem dcLoop_in (I : Nat → Shared → Prop)
    (turn : ∀ n s, I n s → wpAny (model prog w) A (pyNext it) (fun r s₁ => match r with
      | none => R (.ok .next) s₁
      | some v => wpAny (model prog w) A (letOwnedTupleGo t1 it v) (fun _ s₁' => wpAny (model prog w) A (assign t1 env v) (fun _ s₂ =>
          wpAny (model prog w) A (forIn ifs1 true fun c r => if r = true then do let ok ← isTrue c env (eval c env); pure (ForInStep.yield ok) else pure (ForInStep.yield r)) (fun ok s₃ =>
            if ok = true then wpAny (model prog w) A (eval kx env) (fun kv s4 => wpAny (model prog w) A (eval vx env) (fun vv s5 =>
              wpAny (model prog w) A (dictSet D kv vv) (fun _ s6 => ∃ m, m < n ∧ I m s6) (notedBy (model prog w) A env fun e s' => R (.error e) s') s5) (notedBy (model prog w) A env fun e s' => R (.error e) s') s4) (notedBy (model prog w) A env fun e s' => R (.error e) s') s₃
            else ∃ m, m < n ∧ I m s₃) (notedBy (model prog w) A env fun e s' => R (.error e) s') s₂) (notedBy (model prog w) A env fun e s' => R (.error e) s') s₁') (notedBy (model prog w) A env fun e s' => R (.error e) s') s₁) (notedBy (model prog w) A env fun e s' => R (.error e) s') s)
    (n : Nat) (h : I n s) :
    codeAny (model prog w) A (.compLoop (.DictComp kx vx [⟨t0, i0, ifs0, 0⟩, ⟨t1, i1, ifs1, 0⟩] scope pos) 1 it (.ref D) env) R s := by
  refine codeAny_loop rfl I (fun n s hI => ?_) n h
  show wpAny _ A ((compTurn (.DictComp kx vx [⟨t0, i0, ifs0, 0⟩, ⟨t1, i1, ifs1, 0⟩] scope pos) 1 it (.ref D) env).onRaise (fun x => do noteFrame x env; theTreesLotGoes x)) _ _ s
  refine wpAny_noted ?_
  rw [dcTurn_in]
  refine wpAny_bind (wpAny_standAt (wpAny_bind (wpAny_mono (turn n s hI) (fun r s₁ h₁ => ?_) fun _ _ h' => h')))
  cases r with
  | none => exact wpAny_pure h₁
  | some v =>
    refine wpAny_bind (wpAny_mono h₁ (fun _ s₁' h₁' => ?_) fun _ _ h' => h')
    refine wpAny_bind (wpAny_mono h₁' (fun _ s₂ h₂ => wpAny_bind (wpAny_mono h₂ (fun ok s₃ h₃ => ?_) fun _ _ h' => h')) fun _ _ h' => h')
    cases ok with
    | false => exact wpAny_pure ⟨rfl, h₃⟩
    | true =>
      exact wpAny_bind (wpAny_bind (wpAny_mono h₃ (fun kv s4 h4 => wpAny_bind (wpAny_holding (wpAny_mono h4 (fun vv s5 h5 => wpAny_bind (wpAny_standAt (wpAny_holding (wpAny_mono h5 (fun _ s6 h6 => wpAny_pure ⟨rfl, h6⟩) fun _ _ h' => h')))) fun _ _ h' => h'))) fun _ _ h' => h'))
/-- the second clause's start -/
theorem dcStart1 (h0 : codeAny (model prog w) A (.compLoop (.DictComp kx vx [⟨t0, i0, ifs0, 0⟩, ⟨t1, i1, ifs1, 0⟩] scope pos) 1 it (.ref D) env) R s)
    (h : wpAny (model prog w) A (pyIter it) (fun it' s' => codeAny (model prog w) A (.compLoop (.DictComp kx vx [⟨t0, i0, ifs0, 0⟩, ⟨t1, i1, ifs1, 0⟩] scope pos) 1 it' (.ref D) env) R s')
      (notedBy (model prog w) A env fun x s' => R (.error x) s') s) :
    codeAny (model prog w) A (.compStart (.DictComp kx vx [⟨t0, i0, ifs0, 0⟩, ⟨t1, i1, ifs1, 0⟩] scope pos) 1 it (.ref D) env) R s := by
  refine codeAny_of_tree ?_
  show wpAny _ _ ((compStart (.DictComp kx vx [⟨t0, i0, ifs0, 0⟩, ⟨t1, i1, ifs1, 0⟩] scope pos) 1 it (.ref D) env).onRaise (fun x => do noteFrame x env; standAt theWindowsPlace)) _ _ s
  refine wpAny_notedAt ?_
  unfold compStart
  show wpAny _ _ (ask >>= _) _ _ s
  refine wpAny_bind (wpAny_askSetting (wpAny_ite ?_))
  split
  · first
      | exact wpAny_bind (wpAny_pure (wpAny_pure (And.intro rfl h0)))
      | exact wpAny_pure (And.intro rfl h0)
  · first
      | exact wpAny_bind (wpAny_rule (wpAny_bind (wpAny_standAt (wpAny_bind (wpAny_mono h (fun it' s' h' => wpAny_pure (And.intro rfl h')) fun _ _ x => x)))))
      | (refine wpAny_bind (wpAny_rule ?_); show wpAny _ _ (standAt i1.pos >>= _) _ _ s; exact wpAny_bind (wpAny_standAt (wpAny_bind (wpAny_mono h (fun it' s' h' => wpAny_pure (And.intro rfl h')) fun _ _ x => x))))
end


def tDc2 (wi : TI) (g : TG) (tt : TT) (wi1 : TI) (g1 : TG) (tt1 : TT) (tk te : TE) (vs vs1 : List Nat) : TE := fun σ H Q => wi σ H fun J H1 => ∀ D, H1 D = none → ∃ W : Nat → Nat → Hp → Prop, (∃ m, W 0 m (upd H1 D (.dK []))) ∧ ∀ i m H, W i m H →
  (J.stop i H ∧ Q (.ref D) H) ∨ (J.go i H ∧ ∃ Nx : Hp → Prop, (∀ H', Nx H' → ∃ m', m' < m ∧ W (i + 1) m' H') ∧ ∀ x H', J.yld i H x H' → g x (wipe σ vs) H' fun σ2 H2 => wipe σ2 vs = wipe σ vs ∧ tt σ2 H2 fun b H3 =>
    if b = true then wi1 σ2 H3 fun J1 H4 => ∃ W1 : Nat → Nat → Hp → Prop, (∃ m, W1 0 m H4) ∧ ∀ j k H, W1 j k H →
      (J1.stop j H ∧ Nx H) ∨ (J1.go j H ∧ ∃ Nx1 : Hp → Prop, (∀ H', Nx1 H' → ∃ k', k' < k ∧ W1 (j + 1) k' H') ∧ ∀ x H', J1.yld j H x H' → g1 x (wipe σ2 vs1) H' fun σ3 H5 => wipe σ3 vs1 = wipe σ2 vs1 ∧ tt1 σ3 H5 fun b H6 =>
        if b = true then tk σ3 H6 fun y H7 => te σ3 H7 fun z H8 => ∃ kvs k, y = kV k ∧ H8 D = some (.dK kvs) ∧ kvs.length < sizeLine ∧ Nx1 (upd H8 D (.dK (putK kvs k z))) else Nx1 H6)
    else Nx H3)
section
variable {X : Cx}
theorem dc2_core {pins : List (Addr × Obj)} {s : Shared} {σ : L2.St} {H : Hp} {Q : VK} {kx vx tg iter tg1 iter1 : Expr} {ifs ifs1 : List Expr} {scope : Scope} {own : List (Str × Nat)} {vs1 : List Nat} {pos pos' : Pos} {wi wi1 : TI} {g g1 : TG} {tt tt1 : TT} {tk te : TE} {use : Option (Value → Sem Unit)} {Qf : Value → Shared → Prop}
    (hc : X.calm = true) (hN : X.N.Nodup) (I : Inv X pins σ H s) (hi : PI X tg iter wi) (ok : BlkOk X.N X.env.scope scope own) (hv : ∀ i ∈ vs1, i ∈ own.map (·.2))
    (hg : ∀ (s : Shared) (H : Hp) (C : Addr) (cl : List (Str × Addr)) (fp : List Addr), PG (X.blk s H scope (compEnvC scope cl C X.env) fp) tg g) (ht : ∀ (s : Shared) (H : Hp) (C : Addr) (cl : List (Str × Addr)) (fp : List Addr), PTs (X.blk s H scope (compEnvC scope cl C X.env) fp) ifs tt)
    (hkx : ∀ (s : Shared) (H : Hp) (C : Addr) (cl : List (Str × Addr)) (fp : List Addr), PE (X.blk s H scope (compEnvC scope cl C X.env) fp) kx tk) (he : ∀ (s : Shared) (H : Hp) (C : Addr) (cl : List (Str × Addr)) (fp : List Addr), PE (X.blk s H scope (compEnvC scope cl C X.env) fp) vx te) (hs : ∀ x, foldedSetIterable iter X.env x = pure x)
    (hi1 : ∀ (s : Shared) (H : Hp) (C : Addr) (cl : List (Str × Addr)) (fp : List Addr), PI (X.blk s H scope (compEnvC scope cl C X.env) fp) tg1 iter1 wi1)
    (hg1 : ∀ (s : Shared) (H : Hp) (C : Addr) (cl : List (Str × Addr)) (fp : List Addr), PG (X.blk s H scope (compEnvC scope cl C X.env) fp) tg1 g1)
    (ht1 : ∀ (s : Shared) (H : Hp) (C : Addr) (cl : List (Str × Addr)) (fp : List Addr), PTs (X.blk s H scope (compEnvC scope cl C X.env) fp) ifs1 tt1)
    (hs1 : ∀ env x, foldedSetIterable iter1 env x = pure x)
    (h : tDc2 wi g tt wi1 g1 tt1 tk te (own.map (·.2)) vs1 σ H Q)
    (hRR : ∀ D C s' m H', Inv X pins σ H' s' → Q (.ref D) H' → s'.heap.Ns C m → FpOk X pins H' C → compPost (model X.prog X.w) X.A X.xe use Qf (.ref D) C (.ok .next) s') :
    wpAny (model X.prog X.w) X.A (comprehension (.DictComp kx vx [⟨tg, iter, ifs, 0⟩, ⟨tg1, iter1, ifs1, 0⟩] scope pos) scope X.env pos' newDict false (eval iter X.env) use) Qf X.xe s := by
  have hfree : ∀ y ∈ scope.names, y.2 = .free → ∃ c, X.env.cells.lookup y.1 = some c := fun y hy e => by
    rcases ok.free y hy e with k | k
    · exact I.ok.has _ (.inl k)
    · exact I.ok.has _ (.inr k)
  refine wpAny_comprehension_free (use := use) rfl hs (closure_ok hfree) ok.kind (fun y hy e => by rw [ok.uniq y hy, e])
    (thn (hi.run pins s σ H _ I h) fun xv s1 hx => thn hx fun itv s2 h2 => ?_)
  obtain ⟨it, fp, tn, J, H2, e, I2, T, st2, f2, q⟩ := h2
  subst e
  refine wpAny_newObj_type (newEnv_comp ?_)
  generalize hD : s2.heap.objs.size = D
  have hDn : H2 D = none := I2.hok.fresh (Nat.le_of_eq hD)
  obtain ⟨W, ⟨m0, w0⟩, turn⟩ := q D hDn
  -- the new list
  generalize hs3 : ({ s2 with heap := s2.heap.push { cls := .type "dict", data := .dict #[] } } : Shared) = s3
  have I3 : Inv X pins σ (upd H2 D (.dK [])) s3 := by
    rw [← hs3]
    refine I2.laid (t' := s2.toks) (fun b o e => Heap.get?_push_of_some _ e) (Nat.le_of_eq hD) ?_
    rw [← hD]
    exact dk_empty s2.heap I2.big
  have h3 : s3.heap = s2.heap.push { cls := .type "dict", data := .dict #[] } := by rw [← hs3]
  have sz : ∀ b ∈ fp, b < s2.heap.objs.size := fun b hb => by
    obtain ⟨o, e, _⟩ := T.obj _ _ st2 b hb
    exact Heap.lt_size e
  have f3 : ∀ b ∈ fp, FpOk X pins (upd H2 D (.dK [])) b ∧ b < s3.heap.objs.size := fun b hb => by
    have hlt := sz b hb
    refine ⟨⟨?_, (f2 b hb).2⟩, by rw [h3, Heap.size_push]; exact Nat.lt_succ_of_lt hlt⟩
    rw [upd_ne (by rw [← hD]; exact Nat.ne_of_lt hlt)]
    exact (f2 b hb).1
  have st3 : tn 0 s3.heap := T.keep _ _ _ st2 fun b _ o e => by rw [h3]; exact Heap.get?_push_of_some _ e
  have I4 := block_start I3 ok hN f3
  have pg := hg s3 (upd H2 D (.dK [])) s3.heap.objs.size (cellsFrom (s3.heap.objs.size + 1) scope.names (cloFrom X.env.cells scope.names [])) fp
  have pt := ht s3 (upd H2 D (.dK [])) s3.heap.objs.size (cellsFrom (s3.heap.objs.size + 1) scope.names (cloFrom X.env.cells scope.names [])) fp
  have pk := hkx s3 (upd H2 D (.dK [])) s3.heap.objs.size (cellsFrom (s3.heap.objs.size + 1) scope.names (cloFrom X.env.cells scope.names [])) fp
  have pe := he s3 (upd H2 D (.dK [])) s3.heap.objs.size (cellsFrom (s3.heap.objs.size + 1) scope.names (cloFrom X.env.cells scope.names [])) fp
  have pi1 := hi1 s3 (upd H2 D (.dK [])) s3.heap.objs.size (cellsFrom (s3.heap.objs.size + 1) scope.names (cloFrom X.env.cells scope.names [])) fp
  have pg1 := hg1 s3 (upd H2 D (.dK [])) s3.heap.objs.size (cellsFrom (s3.heap.objs.size + 1) scope.names (cloFrom X.env.cells scope.names [])) fp
  have pt1 := ht1 s3 (upd H2 D (.dK [])) s3.heap.objs.size (cellsFrom (s3.heap.objs.size + 1) scope.names (cloFrom X.env.cells scope.names [])) fp
  show codeAny _ _ (.compStart (.DictComp kx vx [⟨tg, iter, ifs, 0⟩, ⟨tg1, iter1, ifs1, 0⟩] scope pos) 0 (.ref it) (.ref D) (compEnvC scope (cellsFrom (s3.heap.objs.size + 1) scope.names (cloFrom X.env.cells scope.names [])) s3.heap.objs.size X.env)) (compPost (model X.prog X.w) X.A X.xe use Qf (.ref D) s3.heap.objs.size) { s3 with heap := pushCells (s3.heap.push { cls := .type "dict", data := .dict #[] }) scope.names }
  have nfp : ∀ b ∈ fp, (upd H2 D (.dK [])) b = none := fun b hb => (f3 b hb).1.1
  generalize hce : compEnvC scope (cellsFrom (s3.heap.objs.size + 1) scope.names (cloFrom X.env.cells scope.names [])) s3.heap.objs.size X.env = ce at I4 pg pt pk pe pi1 pg1 pt1 ⊢
  have cL : ce.locals = s3.heap.objs.size := by subst hce; rfl
  generalize hH3 : upd H2 D (.dK []) = H3 at I3 I4 pg pt pk pe pi1 pg1 pt1 w0 nfp f3
  generalize hs4 : ({ s3 with heap := pushCells (s3.heap.push { cls := .type "dict", data := .dict #[] }) scope.names } : Shared) = s4 at I4 ⊢
  have st4 : tn 0 s4.heap := T.keep _ _ _ st3 fun b _ o e => by rw [← hs4]; exact pushCells_keeps _ _ _ _ (Heap.get?_push_of_some _ e)
  have stat : ∀ {σ' : L2.St} {H' : Hp} {s' : Shared}, Inv (X.blk s3 H3 scope ce fp) [] σ' H' s' → (∀ b ∈ fp, H' b = none) → ∀ b ∈ fp, FpOk (X.blk s3 H3 scope ce fp) [] H' b := fun {σ' H' s'} I' hn b hb =>
    ⟨hn b hb, (I'.ok.exf b hb).1, I'.ok.exfs b hb, .inl hb, fun x c e => (I'.ok.exf b hb).2 x c e, fun p hp => absurd (show p ∈ ([] : List (Addr × Obj)) ++ [] from hp) (by simp)⟩
  have loop : codeAny (model X.prog X.w) X.A (.compLoop (.DictComp kx vx [⟨tg, iter, ifs, 0⟩, ⟨tg1, iter1, ifs1, 0⟩] scope pos) 0 (.ref it) (.ref D) ce) (compPost (model X.prog X.w) X.A X.xe use Qf (.ref D) s3.heap.objs.size) s4 := by
    refine dcLoop_out (hs1 ce) (fun n s' => ∃ i H', Inv (X.blk s3 H3 scope ce fp) [] (wipe σ (own.map (·.2))) H' s' ∧ tn i s'.heap ∧ (∀ b ∈ fp, H' b = none) ∧ W i n H') ?_ m0 ⟨0, H3, I4, st4, nfp, w0⟩
    rintro n s5 ⟨i, H5, I5, st5, n5, w5⟩
    rcases turn i n H5 w5 with ⟨stop, qq⟩ | ⟨go, Nx, hNx, step⟩
    · have td := T.done (X.blk s3 H3 scope ce fp) rfl rfl rfl hc i [] s5 _ H5 (fun _ _ => False) I5 (stat I5 n5) st5 stop
      refine thnF td fun r s6 ⟨hr, I6⟩ => ?_
      subst hr
      -- back in the def's context
      have I7 : Inv X pins σ H5 s6 := I3.call' (ch := fp) I6.os I6.base I6.hok I6.bare fun b hb => ⟨(f3 b hb).1.2.2.2.1, (f3 b hb).1.2.1, (f3 b hb).1.2.2.2.2.1, (f3 b hb).1.2.2.2.2.2⟩
      have nC : H5 s3.heap.objs.size = none := by
        have z : H5 ce.locals = none := I6.free
        rw [cL] at z
        exact z
      obtain ⟨m, hn, _⟩ := I6.loc
      have hn : s6.heap.Ns ce.locals m := hn
      rw [cL] at hn
      exact hRR D s3.heap.objs.size s6 m H5 I7 qq hn (I3.fpOk (Nat.le_refl _) nC)
    · have ti := T.item (X.blk s3 H3 scope ce fp) rfl rfl rfl hc i [] s5 _ H5 (fun _ _ => False) I5 (stat I5 n5) st5 go
      refine thnF ti fun r s6 ⟨u, hr, h6⟩ => ?_
      subst hr
      refine thnF h6 fun _ s7 ⟨x, H7, I7, r7, y7, st7, n7⟩ => ?_
      have I7' := I7.pinned (stat I7 n7) (T.obj _ _ st7)
      refine thnF (pg.run _ s7 _ H7 x u _ I7' r7 (step x H7 y7)) fun _ s8 ⟨σ8, H8, I8, hw8, q8⟩ => ?_
      refine thnF (pt.run _ s8 σ8 H8 _ I8 q8) fun b s9 ⟨H9, I9, q9⟩ => ?_
      -- the turn's end, from any slots that know what the block knew at its start
      have fin : ∀ {σ9 : L2.St} {s' : Shared} {H' : Hp}, Inv (X.blk s3 H3 scope ce fp) ([] ++ pinsAt fp s7.heap) σ9 H' s' → (wipe σ (own.map (·.2))).length = σ9.length → (∀ (j : Nat) v, (wipe σ (own.map (·.2)))[j]? = some (some v) → σ9[j]? = some (some v)) → Nx H' →
          ∃ m, m < n ∧ ∃ i H', Inv (X.blk s3 H3 scope ce fp) [] (wipe σ (own.map (·.2))) H' s' ∧ tn i s'.heap ∧ (∀ b ∈ fp, H' b = none) ∧ W i m H' := fun {σ9 s' H'} I' hl hk nx => by
        obtain ⟨m', hm, w'⟩ := hNx H' nx
        have pin' : ∀ b ∈ fp, ∀ o, s7.heap.get? b = some o → s'.heap.get? b = some o ∧ H' b = none := fun b hb o e =>
          let z := I'.pin (b, o) (List.mem_append_right _ (List.mem_append_right _ (mem_pinsAt hb e)))
          ⟨z.1, z.2.1⟩
        refine ⟨m', hm, i + 1, H', (I'.unpinned (pins := [])).weak hl hk, T.keep _ _ _ st7 fun b hb o e => (pin' b hb o e).1, fun b hb => ?_, w'⟩
        obtain ⟨o, e, _⟩ := T.obj _ _ st7 b hb
        exact (pin' b hb o e).2
      have hl8 : (wipe σ (own.map (·.2))).length = σ8.length := by rw [← hw8, wipe_length]
      have hk8 : ∀ (j : Nat) v, (wipe σ (own.map (·.2)))[j]? = some (some v) → σ8[j]? = some (some v) := fun j v e => by
        rw [← hw8] at e
        exact (wipe_some e).1
      have hk9 : ∀ (j : Nat) v, (wipe σ (own.map (·.2)))[j]? = some (some v) → (wipe σ8 vs1)[j]? = some (some v) := fun j v e => by
        rw [← hw8] at e
        obtain ⟨e1, e2⟩ := wipe_some e
        rw [wipe_out fun z => e2 (hv j z)]
        exact e1
      cases b with
      | false =>
        simp only [Bool.false_eq_true, if_false] at q9 ⊢
        exact fin I9 hl8 hk8 q9
      | true =>
        simp only [if_true] at q9 ⊢
        refine thnF (pi1.run _ s9 σ8 H9 _ I9 q9) fun xv s10 hx => thnF hx fun itv s11 h11 => ?_
        obtain ⟨it1, fp1, tn1, J1, H11, e1, I11, T1, st11, f11, W1, ⟨m1, w1⟩, turn1⟩ := h11
        subst e1
        -- the inner loop
        have stat1 : ∀ {H' : Hp}, (∀ b ∈ fp1, H' b = none) → ∀ b ∈ fp1, FpOk (X.blk s3 H3 scope ce fp) ([] ++ pinsAt fp s7.heap) H' b := fun hn b hb => ⟨hn b hb, (f11 b hb).2⟩
        have loop1 : codeAny (model X.prog X.w) X.A (.compLoop (.DictComp kx vx [⟨tg, iter, ifs, 0⟩, ⟨tg1, iter1, ifs1, 0⟩] scope pos) 1 (.ref it1) (.ref D) ce)
            (fun r s' => match r with
              | .ok _ => ∃ m, m < n ∧ ∃ i H', Inv (X.blk s3 H3 scope ce fp) [] (wipe σ (own.map (·.2))) H' s' ∧ tn i s'.heap ∧ (∀ b ∈ fp, H' b = none) ∧ W i m H'
              | .error _ => False) s11 := by
          refine dcLoop_in (fun k s' => ∃ j H', Inv (X.blk s3 H3 scope ce fp) ([] ++ pinsAt fp s7.heap) (wipe σ8 vs1) H' s' ∧ tn1 j s'.heap ∧ (∀ b ∈ fp1, H' b = none) ∧ W1 j k H') ?_ m1 ⟨0, H11, I11.weak (wipe_length _ _) (fun j v e => (wipe_some e).1), st11, fun b hb => (f11 b hb).1, w1⟩
          rintro k s12 ⟨j, H12, I12, st12, n12, w12⟩
          rcases turn1 j k H12 w12 with ⟨stop1, nx1⟩ | ⟨go1, Nx1, hNx1, step1⟩
          · refine thnF (T1.done (X.blk s3 H3 scope ce fp) rfl rfl rfl hc j _ s12 (wipe σ8 vs1) H12 (fun _ _ => False) I12 (stat1 n12) st12 stop1) fun r s13 ⟨hr, I13⟩ => ?_
            subst hr
            exact fin I13 (hl8.trans (wipe_length σ8 vs1).symm) hk9 nx1
          · refine thnF (T1.item (X.blk s3 H3 scope ce fp) rfl rfl rfl hc j _ s12 (wipe σ8 vs1) H12 (fun _ _ => False) I12 (stat1 n12) st12 go1) fun r s13 ⟨u1, hr, h13⟩ => ?_
            subst hr
            refine thnF h13 fun _ s14 ⟨x1, H14, I14, r14, y14, st14, n14⟩ => ?_
            have I14' := I14.pinned (stat1 n14) (T1.obj _ _ st14)
            refine thnF (pg1.run _ s14 (wipe σ8 vs1) H14 x1 u1 _ I14' r14 (step1 x1 H14 y14)) fun _ s15 ⟨σ15, H15, I15, hw15, q15⟩ => ?_
            refine thnF (pt1.run _ s15 σ15 H15 _ I15 q15) fun b1 s16 ⟨H16, I16, q16⟩ => ?_
            have fin1 : ∀ {s' : Shared} {H' : Hp}, Inv (X.blk s3 H3 scope ce fp) (([] ++ pinsAt fp s7.heap) ++ pinsAt fp1 s14.heap) σ15 H' s' → Nx1 H' → ∃ m, m < k ∧ ∃ j H', Inv (X.blk s3 H3 scope ce fp) ([] ++ pinsAt fp s7.heap) (wipe σ8 vs1) H' s' ∧ tn1 j s'.heap ∧ (∀ b ∈ fp1, H' b = none) ∧ W1 j m H' := fun {s' H'} I' nx => by
              obtain ⟨m', hm, w'⟩ := hNx1 H' nx
              have pin' : ∀ b ∈ fp1, ∀ o, s14.heap.get? b = some o → s'.heap.get? b = some o ∧ H' b = none := fun b hb o e =>
                let z := I'.pin (b, o) (List.mem_append_right _ (List.mem_append_right _ (mem_pinsAt hb e)))
                ⟨z.1, z.2.1⟩
              refine ⟨m', hm, j + 1, H', I'.unpinned.weak (by rw [← hw15, wipe_length]) (fun j v e => by rw [← hw15] at e; exact (wipe_some e).1), T1.keep _ _ _ st14 fun b hb o e => (pin' b hb o e).1, fun b hb => ?_, w'⟩
              obtain ⟨o, e, _⟩ := T1.obj _ _ st14 b hb
              exact (pin' b hb o e).2
            cases b1 with
            | false =>
              simp only [Bool.false_eq_true, if_false] at q16 ⊢
              exact fin1 I16 q16
            | true =>
              simp only [if_true] at q16 ⊢
              refine thnF (pk.run _ s16 σ15 H16 _ I16 q16) fun z s17 ⟨yk, H17, I17, r17, q17⟩ => ?_
              refine thnF (pe.run _ s17 σ15 H17 _ I17 q17) fun z2 s18 ⟨yv, H18, I18, r18, kvs, k, ek, hD18, hz18, nx⟩ => ?_
              subst ek
              exact d_dictSet (X := X.blk s3 H3 scope ce fp) I18 hD18 hz18 r17 r18 fun s19 I19 => fin1 I19 nx
        exact dcStart1 loop1 (T1.self X.A 0 _ _ _ st11 loop1)
  exact codeAny_compStart_dict loop (T.self X.A 0 _ _ _ st4 loop)

theorem pe_dc2 {kx vx tg iter tg1 iter1 : Expr} {ifs ifs1 : List Expr} {scope : Scope} {own : List (Str × Nat)} {vs1 : List Nat} {pos : Pos} {wi wi1 : TI} {g g1 : TG} {tt tt1 : TT} {tk te : TE} (hc : X.calm = true) (hN : X.N.Nodup) (hi : PI X tg iter wi) (ok : BlkOk X.N X.env.scope scope own) (hv : ∀ i ∈ vs1, i ∈ own.map (·.2))
    (hg : ∀ (s : Shared) (H : Hp) (C : Addr) (cl : List (Str × Addr)) (fp : List Addr), PG (X.blk s H scope (compEnvC scope cl C X.env) fp) tg g) (ht : ∀ (s : Shared) (H : Hp) (C : Addr) (cl : List (Str × Addr)) (fp : List Addr), PTs (X.blk s H scope (compEnvC scope cl C X.env) fp) ifs tt)
    (hi1 : ∀ (s : Shared) (H : Hp) (C : Addr) (cl : List (Str × Addr)) (fp : List Addr), PI (X.blk s H scope (compEnvC scope cl C X.env) fp) tg1 iter1 wi1)
    (hg1 : ∀ (s : Shared) (H : Hp) (C : Addr) (cl : List (Str × Addr)) (fp : List Addr), PG (X.blk s H scope (compEnvC scope cl C X.env) fp) tg1 g1) (ht1 : ∀ (s : Shared) (H : Hp) (C : Addr) (cl : List (Str × Addr)) (fp : List Addr), PTs (X.blk s H scope (compEnvC scope cl C X.env) fp) ifs1 tt1)
    (hkx : ∀ (s : Shared) (H : Hp) (C : Addr) (cl : List (Str × Addr)) (fp : List Addr), PE (X.blk s H scope (compEnvC scope cl C X.env) fp) kx tk)
    (he : ∀ (s : Shared) (H : Hp) (C : Addr) (cl : List (Str × Addr)) (fp : List Addr), PE (X.blk s H scope (compEnvC scope cl C X.env) fp) vx te) (hs : ∀ x, foldedSetIterable iter X.env x = pure x := by intro _; rfl) (hs1 : ∀ env x, foldedSetIterable iter1 env x = pure x := by intro _ _; rfl) :
    PE X (.DictComp kx vx [⟨tg, iter, ifs, 0⟩, ⟨tg1, iter1, ifs1, 0⟩] scope pos) (tDc2 wi g tt wi1 g1 tt1 tk te (own.map (·.2)) vs1) := by
  refine ⟨fun pins s σ H Q I h => ?_⟩
  rw [arm_eval_DictComp]
  refine dc2_core hc hN I hi ok hv hg ht hkx he hs hi1 hg1 ht1 hs1 h fun D C s' m H' I' q hn f => ⟨m, hn, fun h'' sb => ?_⟩
  obtain ⟨f0, f1, f2, f3, f4, f5⟩ := f
  exact ⟨.ref D, H', I'.turned (t' := s'.toks) (fun b o hb e => (sb.2 b hb).trans e) f0 f1 f3 f4 f5, rfl, q⟩
end
end Dl

set_option maxRecDepth 100000
set_option maxHeartbeats 2000000
/-! THE DATA LAYER, 14: {k: v for a in xs for b in ys} over data. -/
namespace Dl
open PySem PySem.Spec PyProof.Rows L2
theorem Stp.join {K : PySem.W.Frag} {F1 Fi Fj H1 Hi Hj : Hp} {O1 Oi Oj : DO} {p : Addr} {c c' : Cell} {o o' : HO} (S : Stp K F1 O1 H1 Fi (updO Oi p c) Hi) (T : Stp K Fi Oi Hi Fj Oj Hj) (hp : Hi p = some o) (nO : Oi p = none) (new : CellOk K Fj (upd Hj p o') p c') :
    Stp K F1 O1 H1 Fj (updO Oj p c') (upd Hj p o') ∧ Hj p = some o ∧ Oj p = none ∧ Fj p = none := by
  have nF : Fi p = none := (S.pre.ro p _ updO_same).1
  obtain ⟨d1, d2, d3⟩ := T.kp p _ hp nO
  refine ⟨S.trans ⟨T.ff, T.pre.own (d3 nF) new, fun a u ha na => ?_⟩, d1, d2, d3 nF⟩
  have q : a ≠ p := fun z => by rw [z, updO_same] at na; cases na
  rw [updO_ne q] at na
  obtain ⟨b1, b2, b3⟩ := T.kp a u ha na
  exact ⟨by rw [upd_ne q]; exact b1, by rw [updO_ne q]; exact b2, b3⟩
theorem Stp.same {K : PySem.W.Frag} {F1 Fi Fj H1 Hi Hj : Hp} {O1 Oi Oj : DO} {p : Addr} {c c' : Cell} {o : HO} (S : Stp K F1 O1 H1 Fi (updO Oi p c) Hi) (T : Stp K Fi Oi Hi Fj Oj Hj) (hp : Hi p = some o) (nO : Oi p = none) (new : CellOk K Fj (upd Hj p o) p c') :
    Stp K F1 O1 H1 Fj (updO Oj p c') Hj ∧ Hj p = some o ∧ Oj p = none ∧ Fj p = none := by
  obtain ⟨a, b, c, d⟩ := S.join T hp nO new
  have e : upd Hj p o = Hj := by
    funext x
    by_cases q : x = p
    · rw [q, upd_same]; exact b.symm
    · rw [upd_ne q]
  rw [e] at a
  exact ⟨a, b, c, d⟩
abbrev KVs := List (Key × D)
def dcIn (g1 : GD) (tk te : TD) (env : DEnv) : List D → KVs → DO → (KVs → DO → Prop) → Prop
  | [], acc, O, Q => Q acc O
  | d :: r, acc, O, Q => g1 d env O fun env2 O1 => tk env2 O1 fun k O2 => te env2 O2 fun v O3 => match keyD k with
    | some z => needB (Nat.blt acc.length 16777216) (dcIn g1 tk te env r (putKD acc z v) O3 Q)
    | none => False
def dcOut (g : GD) (ti1 : TID) (g1 : GD) (tk te : TD) (vs1 : List Nat) (env : DEnv) : List D → KVs → DO → (KVs → DO → Prop) → Prop
  | [], acc, O, Q => Q acc O
  | d :: r, acc, O, Q => g d env O fun env2 O1 => ti1 env2 O1 fun its1 O2 => dcIn g1 tk te (wpE env2 vs1) its1 acc O2 fun acc' O3 => dcOut g ti1 g1 tk te vs1 env r acc' O3 Q
def tdDc2 (ti : TID) (g : GD) (ti1 : TID) (g1 : GD) (tk te : TD) (vs vs1 : List Nat) : TD := fun env O Q => ti env O fun its O1 => dcOut g ti1 g1 tk te vs1 (wpE env vs) its [] O1 fun acc O2 => ∀ p, O2 p = none → Q (.ptr p) (updO O2 p (.dK acc))
theorem dc2_lift {K : PySem.W.Frag} {ti ti1 : TID} {g g1 : GD} {tk te : TD} {is is1 vs vs1 : List Nat} (hsub : ∀ i ∈ is, i ∈ vs) (hsub1 : ∀ i ∈ is1, i ∈ vs1) {σ : L2.St} {H : Hp} {Q : VK} (h : liftE K (tdDc2 ti g ti1 g1 tk te vs vs1) σ H Q) :
    tDc2 (liftI K ti) (liftG K is g) (liftT K tdYes) (liftI K ti1) (liftG K is1 g1) (liftT K tdYes) (liftE K tk) (liftE K te) vs vs1 σ H Q := by
  obtain ⟨F, O, env, R, P, re, h, k⟩ := h
  refine ⟨F, O, env, _, P, re, h, fun J H1 F1 O1 its s1 wk hz hl D hD => ?_⟩
  obtain ⟨hF1, hO1⟩ := s1.pre.fresh hD
  have re1 := (re.mono s1.ff).wipe vs
  refine ⟨fun i m Hi => m = its.length - i ∧ i ≤ its.length ∧ ∃ Fi Oi acc ws, Stp K F1 O1 H1 Fi (updO Oi D (.dK acc)) Hi ∧ Oi D = none ∧ Hi D = some (.dK ws) ∧ RepKV K Fi acc ws ∧ dcOut g ti1 g1 tk te vs1 (wpE env vs) (its.drop i) acc Oi fun acc O2 => ∀ p, O2 p = none → R (.ptr p) (updO O2 p (.dK acc)),
    ⟨its.length, rfl, Nat.zero_le _, F1, O1, [], [], Stp.own (c := .dK []) s1.pre hF1 (.inl hD) ⟨[], upd_same, .nil⟩, hO1, upd_same, .nil, hl⟩, ?_⟩
  rintro i m Hi ⟨rfl, hi, Fi, Oi, acc, ws, S, nD, hDi, rx, hq⟩
  have Pi : Pre K Fi Oi Hi := S.pre.sub (Sub.upd nD)
  have fh := S.ff.trans S.pre.fh
  by_cases hlt : i < its.length
  rotate_left
  · obtain rfl : i = its.length := by omega
    rw [List.drop_length] at hq
    exact .inl ⟨wk.stop _ Hi (Nat.le_refl _) fh, k _ Hi Fi _ _ (s1.trans S) (.ptr D) (hq D nD)⟩
  refine .inr ⟨wk.go i Hi hlt fh, fun H' => ∃ Fj Oj acc' ws', Stp K F1 O1 H1 Fj (updO Oj D (.dK acc')) H' ∧ Oj D = none ∧ H' D = some (.dK ws') ∧ RepKV K Fj acc' ws' ∧ dcOut g ti1 g1 tk te vs1 (wpE env vs) (its.drop (i + 1)) acc' Oj fun acc O2 => ∀ p, O2 p = none → R (.ptr p) (updO O2 p (.dK acc)),
    fun H' ⟨Fj, Oj, acc', ws', a1, a2, a3, a4, a5⟩ => ⟨its.length - (i + 1), by omega, rfl, hlt, Fj, Oj, acc', ws', a1, a2, a3, a4, a5⟩, fun v H2 y => ?_⟩
  obtain ⟨F2, s2, r2⟩ := wk.yld i Hi v H2 its[i] Fi Oi S.ff Pi y (by simp [hlt])
  rw [List.drop_eq_getElem_cons hlt] at hq
  refine ⟨F2, Oi, wpE env vs, its[i], _, s2.pre, (re1.mono (S.ff.trans s2.ff)), r2, hq, fun σ3 H3 F3 O3 env3 s3 re3 on3 h3 => ⟨by rw [on3 vs hsub, wipe_wipe], ?_⟩⟩
  have T3 := s2.trans s3
  refine ⟨F3, O3, env3, fun b O4 => b = true ∧ O4 = O3, s3.pre, re3, ⟨rfl, rfl⟩, fun b H4 F4 O4 s4 hb => ?_⟩
  obtain ⟨rfl, rfl⟩ := hb
  rw [if_pos rfl]
  have T4 := T3.trans s4
  refine ⟨F4, O4, env3, _, s4.pre, re3.mono s4.ff, h3, fun J1 H5 F5 O5 its1 s5 wk1 hz1 hl1 => ?_⟩
  have T5 := T4.trans s5
  have re5 := ((re3.mono s4.ff).mono s5.ff).wipe vs1
  refine ⟨fun j n Hj => n = its1.length - j ∧ j ≤ its1.length ∧ ∃ Fj Oj acc' ws', Same F5 Fj ∧ Stp K F1 O1 H1 Fj (updO Oj D (.dK acc')) Hj ∧ Oj D = none ∧ Hj D = some (.dK ws') ∧ RepKV K Fj acc' ws' ∧ dcIn g1 tk te (wpE env3 vs1) (its1.drop j) acc' Oj fun acc' O3 => dcOut g ti1 g1 tk te vs1 (wpE env vs) (its.drop (i + 1)) acc' O3 fun acc O2 => ∀ p, O2 p = none → R (.ptr p) (updO O2 p (.dK acc)),
    ⟨its1.length, rfl, Nat.zero_le _, F5, O5, acc, ws, fun _ _ e => e, ?_, ?_, ?_, rx.mono T5.ff, hl1⟩, ?_⟩
  · exact (S.same (c' := .dK acc) T5 hDi nD ⟨ws, upd_same, rx.mono T5.ff⟩).1
  · exact (T5.kp D _ hDi nD).2.1
  · exact (T5.kp D _ hDi nD).1
  rintro j n Hj ⟨rfl, hj, Fj, Oj, acc2, ws2, ff2, S2, nD2, hDj, rx2, hq2⟩
  have Pj : Pre K Fj Oj Hj := S2.pre.sub (Sub.upd nD2)
  by_cases hlt1 : j < its1.length
  rotate_left
  · obtain rfl : j = its1.length := by omega
    rw [List.drop_length] at hq2
    exact .inl ⟨wk1.stop _ Hj (Nat.le_refl _) (ff2.trans S2.pre.fh), Fj, Oj, acc2, ws2, S2, nD2, hDj, rx2, hq2⟩
  refine .inr ⟨wk1.go j Hj hlt1 (ff2.trans S2.pre.fh), fun H' => ∃ Fn On acc' ws', Same F5 Fn ∧ Stp K F1 O1 H1 Fn (updO On D (.dK acc')) H' ∧ On D = none ∧ H' D = some (.dK ws') ∧ RepKV K Fn acc' ws' ∧ dcIn g1 tk te (wpE env3 vs1) (its1.drop (j + 1)) acc' On fun acc' O3 => dcOut g ti1 g1 tk te vs1 (wpE env vs) (its.drop (i + 1)) acc' O3 fun acc O2 => ∀ p, O2 p = none → R (.ptr p) (updO O2 p (.dK acc)),
    fun H' ⟨Fn, On, acc', ws', a0, a1, a2, a3, a4, a5⟩ => ⟨its1.length - (j + 1), by omega, rfl, hlt1, Fn, On, acc', ws', a0, a1, a2, a3, a4, a5⟩, fun v6 H6 y6 => ?_⟩
  obtain ⟨F6, s6, r6⟩ := wk1.yld j Hj v6 H6 its1[j] Fj Oj ff2 Pj y6 (by simp [hlt1])
  rw [List.drop_eq_getElem_cons hlt1] at hq2
  refine ⟨F6, Oj, wpE env3 vs1, its1[j], _, s6.pre, re5.mono (ff2.trans s6.ff), r6, hq2, fun σ7 H7 F7 O7 env7 s7 re7 on7 h7 => ⟨by rw [on7 vs1 hsub1, wipe_wipe], ?_⟩⟩
  have T7 := s6.trans s7
  refine ⟨F7, O7, env7, fun b O8 => b = true ∧ O8 = O7, s7.pre, re7, ⟨rfl, rfl⟩, fun b H8 F8 O8 s8 hb => ?_⟩
  obtain ⟨rfl, rfl⟩ := hb
  rw [if_pos rfl]
  refine ⟨F8, O8, env7, _, s8.pre, re7.mono s8.ff, h7, fun kv H9 F9 dk O9 s9 rk h9 => ⟨F9, O9, env7, _, s9.pre, (re7.mono s8.ff).mono s9.ff, h9, fun vv H10 F10 dv O10 s10 rv h10 => ?_⟩⟩
  have T10 := T7.trans (s8.trans (s9.trans s10))
  cases e : keyD dk with
  | none => simp only [e] at h10
  | some z =>
    simp only [e] at h10
    obtain ⟨g3, g4⟩ := needB_o h10
    have ek := keyD_rep (rk.mono s10.ff) e
    have ra := put_rep (k := z) (rx2.mono T10.ff) rv
    obtain ⟨q1, q2, q3, q4⟩ := S2.join (c' := .dK (putKD acc2 z dv)) (o' := .dK (putK ws2 z vv)) T10 hDj nD2 ⟨_, upd_same, ra⟩
    refine ⟨ws2, z, ek, q2, by rw [← rx2.length, sizeLine_eq]; exact Nat.le_of_ble_eq_true g3, F10, O10, putKD acc2 z dv, putK ws2 z vv, ff2.trans T10.ff, q1, q3, upd_same, ra, g4⟩
theorem d_dc2 {X : Cx} {kx vx tg iter tg1 iter1 : Expr} {scope : Scope} {own : List (Str × Nat)} {vs1 is is1 : List Nat} {pos : Pos} {ti ti1 : TID} {g g1 : GD} {tk te : TD} (hc : X.calm = true) (hN : X.N.Nodup) (hi : PID X tg iter ti) (ok : BlkOk X.N X.env.scope scope own)
    (hg : ∀ (s : Shared) (H : Hp) (C : Addr) (cl : List (Str × Addr)) (fp : List Addr), PGD (X.blk s H scope (compEnvC scope cl C X.env) fp) is tg g)
    (hi1 : ∀ (s : Shared) (H : Hp) (C : Addr) (cl : List (Str × Addr)) (fp : List Addr), PID (X.blk s H scope (compEnvC scope cl C X.env) fp) tg1 iter1 ti1)
    (hg1 : ∀ (s : Shared) (H : Hp) (C : Addr) (cl : List (Str × Addr)) (fp : List Addr), PGD (X.blk s H scope (compEnvC scope cl C X.env) fp) is1 tg1 g1)
    (hk : ∀ (s : Shared) (H : Hp) (C : Addr) (cl : List (Str × Addr)) (fp : List Addr), PD (X.blk s H scope (compEnvC scope cl C X.env) fp) kx tk) (he : ∀ (s : Shared) (H : Hp) (C : Addr) (cl : List (Str × Addr)) (fp : List Addr), PD (X.blk s H scope (compEnvC scope cl C X.env) fp) vx te)
    (hv : ∀ i ∈ vs1, i ∈ own.map (·.2) := by decide) (hsub : ∀ i ∈ is, i ∈ own.map (·.2) := by decide) (hsub1 : ∀ i ∈ is1, i ∈ vs1 := by decide) (hs : ∀ x, foldedSetIterable iter X.env x = pure x := by intro _; rfl) (hs1 : ∀ env x, foldedSetIterable iter1 env x = pure x := by intro _ _; rfl) :
    PD X (.DictComp kx vx [⟨tg, iter, [], 0⟩, ⟨tg1, iter1, [], 0⟩] scope pos) (tdDc2 ti g ti1 g1 tk te (own.map (·.2)) vs1) :=
  pe_weak (pe_dc2 hc hN hi ok hv hg (fun _ _ _ _ _ => ts_nil) hi1 hg1 (fun _ _ _ _ _ => ts_nil) hk he hs hs1) fun σ H Q h => dc2_lift hsub hsub1 h
end Dl

set_option maxRecDepth 100000
set_option maxHeartbeats 2000000
/-! THE DATA LAYER, 15: dict of pairs with tuple keys, len of a dict, repr, a written dict. -/
namespace Dl
open PySem PySem.Spec PyProof.Rows L2
section
variable {X : Cx}
/-! ### dict(list of pairs), tuple keys -/
def mergeT (kvs more : List (List Key × V)) : List (List Key × V) := more.foldl (fun acc kv => putK acc kv.1 kv.2) kvs
theorem KT_merge {H : Hp} : ∀ {more : List (List Key × V)} {ps : List (List Key × Addr × Value)} {kvs : List (List Key × V)} {xs : List (List Key × Addr × Value)}, KT H more ps → KT H kvs xs → KT H (mergeT kvs more) (storedAllH xs ps)
  | _, _, _, _, .nil, r => r
  | (k, y) :: more, (k', b, u) :: ps, kvs, xs, .cons ⟨h1, h2, h3⟩ q, r => by
    obtain rfl : k = k' := h1
    show KT H (mergeT (putK kvs k y) more) (storedAllH (storedH xs k b u) ps)
    exact KT_merge q (r.put k h2 h3)
theorem mergeT_length : ∀ (more kvs : List (List Key × V)), (mergeT kvs more).length ≤ kvs.length + more.length
  | [], kvs => by show kvs.length ≤ kvs.length + 0; omega
  | p :: r, kvs => by
    have h1 := mergeT_length r (putK kvs p.1 p.2)
    have h2 := length_putK kvs p.1 p.2
    show (mergeT (putK kvs p.1 p.2) r).length ≤ _
    rw [List.length_cons]
    omega
/-- the pairs: each a tracked tuple of a tracked key and a value -/
def PT3 (K : PySem.W.Frag) (H : Hp) : List Addr → List (List Key × V) → Prop := Paired fun p kv => ∃ b, SqT K H p [.ref b, kv.2] ∧ H b = some (.tup (kv.1.map kV))
theorem pt3_of {pins : List (Addr × Obj)} {σ : L2.St} {H : Hp} {s : Shared} (I : Inv X pins σ H s) : ∀ {as : List Addr} {kvs : List (List Key × V)}, PT3 X.K H as kvs →
    ∃ ps : List (List Key × Addr × Value), KT H kvs ps ∧ ps.length = as.length ∧ ∀ (j : Nat) (q : List Key × Addr × Value), ps[j]? = some q → ∃ b, as[j]? = some b ∧ s.heap.IsTuple b #[.ref q.2.1, q.2.2]
  | _, _, .nil => ⟨[], .nil, rfl, fun j q e => by simp at e⟩
  | _, _, .cons (a := p) (b := kv) ⟨b, h1, h2⟩ t => by
    obtain ⟨ps, r, hl, hp⟩ := pt3_of I t
    obtain ⟨its, rv, ht, _⟩ := I.tuple h1
    obtain ⟨u, y, ei, ru, ry⟩ := vals2 rv
    subst ei
    cases ru
    refine ⟨(kv.1, b, y) :: ps, .cons ⟨rfl, h2, ry⟩ r, by rw [List.length_cons, List.length_cons, hl], fun j q e => ?_⟩
    cases j with
    | zero =>
      obtain rfl : (kv.1, b, y) = q := Option.some.inj e
      exact ⟨p, rfl, ht⟩
    | succ j =>
      obtain ⟨b', e1, e2⟩ := hp j q (by simpa using e)
      exact ⟨b', by simpa using e1, e2⟩
theorem kt_is {P : Program} {w : World} {H : Hp} {h : Heap} (ok : HOk P w H h) : ∀ {kvs : List (List Key × V)} {ps : List (List Key × Addr × Value)}, KT H kvs ps → ∀ x ∈ ps, (tupleKind (mixKind P w)).is h x.1 x.2.1
  | _, _, .nil, x, hx => nomatch hx
  | _, _, .cons ⟨h1, h2, _⟩ t, x, hx => by
    rcases List.mem_cons.mp hx with e | hx
    · subst e
      exact key_of ok (by rw [← h1]; exact h2)
    · exact kt_is ok t x hx
theorem call_dictPT (hu : X.A.units + 8 < cLine) (hc : X.calm = true) : CallR X (.type "dict") (fun xs H Q => ∃ (a : Addr) (as : List Addr) (kvs : List (List Key × V)), xs = [.ref a] ∧ SqL X.K H a (as.map V.ref) ∧ PT3 X.K H as kvs ∧ ∀ p, H p = none → Q (.ref p) (upd H p (.dT (mergeT [] kvs)))) := by
  intro pins s σ H xs us Q I r q
  obtain ⟨a, as, kvs, ex, hq, hp, q⟩ := q
  subst ex
  obtain ⟨u, eu, rx⟩ := vals1 r
  subst eu
  cases rx
  obtain ⟨its, rv, pl, hz⟩ := I.list hq
  have ei := refs_at rv
  subst ei
  rw [List.length_map] at hz
  obtain ⟨ps, rel, hl, hpr⟩ := pt3_of I hp
  obtain ⟨o, n, ho, hcl, hd, hdat⟩ := pl
  have his := kt_is I.hok rel
  have hps2 : ∀ j k v, (ps.map fun x => (Value.ref x.2.1, x.2.2))[j]? = some (k, v) → ∃ q : List Key × Addr × Value, ps[j]? = some q ∧ k = Value.ref q.2.1 ∧ v = q.2.2 := fun j k v e => by
    rw [List.getElem?_map] at e
    obtain ⟨q, e1, e2⟩ := Option.map_eq_some_iff.mp e
    cases e2
    exact ⟨q, e1, rfl, rfl⟩
  have stay : KeysStay (tupleKind (mixKind X.prog X.w)) s.heap s.heap.objs.size [] ps := fun h' hk x hx => by
    obtain ⟨o, its, n, h1, h2, h3, h4⟩ := his x hx
    exact ⟨o, its, n, hk _ _ (Nat.ne_of_lt (Heap.lt_size h1)) (by simp) h1, h2, h3, h4⟩
  refine call_dict_pairsH (knd := tupleKind (mixKind X.prog X.w)) (ps := ps) (PairArg.list a (as.map Value.ref).toArray (fun j => as.getD j 0) (ps.map fun x => (Value.ref x.2.1, x.2.2))) (I.ok.hd hc) ?_ ⟨⟨o, n, ho, hcl, hd, hdat⟩, ?_, fun j k v e => ?_⟩ ⟨by rw [List.length_map], fun i k v e => ?_⟩ stay (by rw [List.length_map, hl]; exact hz) fun h' tk dd hk => ?_
  · show X.A.in1.in1.units < cLine
    show X.A.units + 1 + 1 < cLine
    omega
  · rw [List.size_toArray, List.length_map, List.length_map, hl]
  · obtain ⟨q, e1, rfl, rfl⟩ := hps2 j k v e
    obtain ⟨b, e2, e3⟩ := hpr j q e1
    refine ⟨?_, .inl ?_⟩
    · simp [e2]
    · show s.heap.IsTuple (as.getD j 0) _
      rw [List.getD_eq_getElem?_getD, e2]
      exact e3
  · obtain ⟨q, e1, rfl, rfl⟩ := hps2 i k v e
    exact ⟨q.1, q.2.1, e1, rfl⟩
  · have hm : (s.heap.objs.size == sysModules) = false := beq_eq_false_iff_ne.mpr (Nat.ne_of_gt I.big)
    have hlen : (mergeT [] kvs).length ≤ sizeLine := by
      have h1 := mergeT_length kvs []
      have h2 := Paired.length rel
      rw [List.length_nil, Nat.zero_add] at h1
      omega
    have hp := I.hok.fresh (Nat.le_refl s.heap.objs.size)
    obtain ⟨o1, es, ep, k1, k2, k3, k4, k5, k6⟩ := dd
    have kt : KT (upd H s.heap.objs.size (.dT (mergeT [] kvs))) (mergeT [] kvs) (storedAllH [] ps) := (KT_merge rel .nil).keeps fun b ys e => by rw [upd_ne (ne_of_none e hp)]; exact e
    exact ⟨.ref s.heap.objs.size, upd H s.heap.objs.size (.dT (mergeT [] kvs)), I.laid (t' := tk) (fun b o e => hk b o (by simp) e) (Nat.le_refl _) (show ObjOk X.prog X.w _ _ _ (.dT (mergeT [] kvs)) from ⟨hlen, hm, _, kt, o1, es, ep, k1, k2, k3, k4, k6⟩), rfl, q _ hp⟩
end

abbrev KTs := List (List Key × D)
def mergeTD (kvs more : KTs) : KTs := more.foldl (fun acc kv => putKD acc kv.1 kv.2) kvs
theorem mergeTD_rep {K : PySem.W.Frag} {F : Hp} : ∀ {more : KTs} {ws : List (List Key × V)} {kvs : KTs} {vs : List (List Key × V)}, RepKV K F more ws → RepKV K F kvs vs → RepKV K F (mergeTD kvs more) (mergeT vs ws)
  | _, _, _, _, .nil, r => r
  | (k, d) :: more, (k', v) :: ws, kvs, vs, .cons ⟨h1, h2⟩ q, r => by
    obtain rfl : k = k' := h1
    show RepKV K F (mergeTD (putKD kvs k d) more) (mergeT (putK vs k v) ws)
    exact mergeTD_rep q (put_rep r h2)
def pairT : D → Option (List Key × D)
  | .tup [.tup ks, v] => (keysD ks).map fun k => (k, v)
  | _ => none
def pairsT : List D → Option KTs
  | [] => some []
  | d :: r => match pairT d, pairsT r with
    | some p, some r => some (p :: r)
    | _, _ => none
theorem pairsT_map {α : Type} (f : α → List Key) (g : α → D) (q : α → D) : ∀ xs : List α, (∀ x ∈ xs, pairT (q x) = some (f x, g x)) → pairsT (xs.map q) = some (xs.map fun x => (f x, g x))
  | [], _ => rfl
  | x :: xs, h => by
    show (match pairT (q x), pairsT (xs.map q) with
      | some p, some r => some (p :: r)
      | _, _ => none) = _
    rw [h x List.mem_cons_self, pairsT_map f g q xs fun y hy => h y (List.mem_cons_of_mem _ hy)]
    rfl
theorem pairT_rep {K : PySem.W.Frag} {F H : Hp} (fh : Same F H) {d : D} {v : V} {p : List Key × D} (r : Rep K F d v) (h : pairT d = some p) : ∃ (a : Addr) (y : V), v = .ref a ∧ (∃ b, SqT K H a [.ref b, y] ∧ H b = some (.tup (p.1.map kV))) ∧ Rep K F p.2 y := by
  cases r with
  | @tup a xs ds ha la =>
    unfold pairT at h
    split at h
    · rename_i ks u hk
      cases hk
      obtain ⟨k2, hk2, hk3⟩ := Option.map_eq_some_iff.mp h
      subst hk3
      cases la with
      | cons r1 la => cases la with
        | cons r2 la =>
          cases la
          cases r1 with
          | @tup b ys _ hb lb =>
            have e := keysD_rep lb hk2
            subst e
            exact ⟨a, _, rfl, ⟨b, SqT.of (fh _ _ ha), fh _ _ hb⟩, r2⟩
    · cases h
  | _ => exact absurd h (by simp [pairT])
theorem pairsT_rep {K : PySem.W.Frag} {F H : Hp} (fh : Same F H) : ∀ {ds : List D} {vs : List V} {kvs : KTs}, RepL K F ds vs → pairsT ds = some kvs → ∃ (as : List Addr) (ws : List (List Key × V)), vs = as.map V.ref ∧ PT3 K H as ws ∧ RepKV K F kvs ws
  | _, _, kvs, .nil, h => by
    cases h
    exact ⟨[], [], rfl, .nil, .nil⟩
  | d :: ds, v :: vs, kvs, .cons h1 r, h => by
    unfold pairsT at h
    split at h
    · rename_i z r' e1 e2
      cases h
      obtain ⟨as, ws, e3, e4, e5⟩ := pairsT_rep fh r e2
      obtain ⟨a, y, e6, e7, e8⟩ := pairT_rep fh h1 e1
      subst e6
      subst e3
      exact ⟨a :: as, (z.1, y) :: ws, rfl, .cons e7 e4, .cons ⟨rfl, e8⟩ e5⟩
    · cases h
def gDictT : GC := fun ds O Q => match ds with
  | [.lst xs] => match pairsT xs with
    | some kvs => ∀ p, O p = none → Q (.ptr p) (updO O p (.dT (mergeTD [] kvs)))
    | none => False
  | _ => False
theorem c_dictT {X : Cx} (hu : X.A.units + 65 < cLine) (hc : X.calm = true) : CallD X (.type "dict") gDictT := by
  intro pins s σ H vs us Q I r ⟨F, O, ds, R, P, rs, g, k⟩
  match ds, rs, g with
  | [.lst xs], .cons (.lst hx lx) .nil, g =>
    unfold gDictT at g
    cases e : pairsT xs with
    | none => simp only [e] at g
    | some kvs =>
      simp only [e] at g
      obtain ⟨as, ws, e3, e4, e5⟩ := pairsT_rep P.fh lx e
      subst e3
      refine call_dictPT (by omega) hc pins s σ H _ us Q I r ⟨_, as, ws, rfl, SqL.of (P.fh _ _ hx), e4, fun p hp => ?_⟩
      have z := Stp.own (o := .dT (mergeT [] ws)) (c := .dT (mergeTD [] kvs)) P (P.fresh hp).1 (.inl hp) ⟨_, upd_same, mergeTD_rep e5 .nil⟩
      exact k _ _ F _ _ z (.ptr p) (g p (P.fresh hp).2)
/-- len of an owned dict -/
def gLenD : GC := fun ds O Q => match ds with
  | [.ptr p] => match O p with
    | some (.dK kvs) => Q (.int (kvs.length : Int)) O
    | _ => False
  | _ => False
theorem c_lenD {X : Cx} : CallD X (.builtin "len") gLenD := by
  intro pins s σ H vs us Q I r ⟨F, O, ds, R, P, rs, g, k⟩
  match ds, rs, g with
  | [.ptr p], .cons (.ptr _) .nil, g =>
    unfold gLenD at g
    cases ho : O p with
    | none => simp only [ho] at g
    | some c =>
      cases c <;> simp only [ho] at g
      rename_i kvs
      obtain ⟨hF, ws, hw, lw⟩ := P.ro p _ ho
      exact call_lenD pins s σ H _ us Q I r ⟨p, ws, rfl, hw, k _ _ F _ O (.refl P) (by rw [← lw.length]; exact .int _) g⟩

/-! ### repr -/
def reprOk (d : D) : Bool := okD 60 d && (toPy d).showable && !(toPy d).hasDict && Nat.ble ((toPy d).shown.length + 64) 16777216
def gRepr : GC := fun ds O Q => match ds with
  | [.lst xs] => needB (reprOk (.lst xs)) (Q (.str (toPy (.lst xs)).shown) O)
  | _ => False
theorem c_repr {X : Cx} (hg : X.A.guards = some []) (hu : X.A.units + 65 < cLine) : CallD X (.builtin "repr") gRepr := by
  intro pins s σ H vs us Q I r ⟨F, O, ds, R, P, rs, g, k⟩
  match ds, rs, g with
  | [.lst xs], .cons (.lst (a := a) (xs := ys) hx lx) .nil, g =>
    obtain ⟨g1, g2⟩ := needB_o g
    simp only [reprOk, Bool.and_eq_true, Bool.not_eq_true'] at g1
    obtain ⟨⟨⟨h1, h2⟩, h3⟩, h4⟩ := g1
    have h4 := Nat.le_of_ble_eq_true h4
    obtain ⟨u, rfl, ru⟩ := vals1 r
    obtain rfl : u = Value.ref a := ru
    obtain ⟨as, rd⟩ := Dp.reads I _ (.ref a) (.ref a) (((Rep.lst hx lx).mono P.fh).dp h1) rfl
    have l2 := (okD_lay 60 _ h1).2
    refine repr_of_reads' rd h2 (fun e => by rw [h3] at e; cases e) hg (by omega) (fun _ _ e => e) (fun h' u tk hk => ?_) (by rw [sizeLine_eq]; omega)
    exact ⟨.str _, H, I.kept (t' := tk) hk, ⟨_, rfl⟩, k _ _ F _ O (.refl P) (.str _) g2⟩
end Dl

set_option maxRecDepth 100000
set_option maxHeartbeats 2000000
/-! THE DATA LAYER, 16: a written dict of the module, text keys, int values: d.get(x), list(d). -/
namespace Dl
open PySem PySem.Spec PyProof.Rows L2
def intOf (e : DictEntry) : Option Int := match e.val with
  | .int i _ => some i
  | _ => none
/-- at a: the written dict ks -/
structure WDict (K : PySem.W.Frag) (w : World) (a : Addr) (ks : List (Str × Int)) : Prop where
  ex : ∃ (es : Array DictEntry) (n : Nat), K.lookup a = some ⟨.type "dict", none, .dict es n, #[]⟩ ∧ es.toList.map (fun e => (He.keyOf e, intOf e)) = ks.map fun k => (some (k.1, PyData.keyHash w.params k.1), some k.2)
  low : (a == sysModules) = false
  nd : (ks.map (·.1)).Nodup
theorem wd_pairs {prog : Program} {w : World} : ∀ {l : List DictEntry} {ks : List (Str × Int)}, l.map (fun e => (He.keyOf e, intOf e)) = ks.map (fun k => (some (k.1, PyData.keyHash w.params k.1), some k.2)) →
    ∃ kvs : List (Key × Value), Pairs (mixKind prog w) l kvs ∧ kvs.map (·.1) = ks.map (fun k => Sum.inr k.1) ∧ (∀ e ∈ l, ∃ k, (mixKind prog w).is k e.key = true ∧ e.hash = (mixKind prog w).hash k) ∧ ∀ z i, ks.lookup z = some i → ∃ t, valueAt kvs (Sum.inr z) = some (.int i t)
  | [], [], _ => ⟨[], .nil, rfl, fun e he => (nomatch he), fun z i h => (nomatch h)⟩
  | [], k :: ks, h => by simp at h
  | e :: l, [], h => by simp at h
  | e :: l, (kk, ki) :: ks, h => by
    rw [List.map_cons, List.map_cons] at h
    injection h with h1 h2
    obtain ⟨kvs, p1, p2, p3, p4⟩ := wd_pairs (prog := prog) h2
    obtain ⟨q1, q2⟩ := Prod.mk.inj h1
    have ek : ∃ t, e.key = .str kk t ∧ e.hash = PyData.keyHash w.params kk := by
      unfold He.keyOf at q1
      split at q1
      · rename_i x t ek
        obtain ⟨q3, q4⟩ := Prod.mk.inj (Option.some.inj q1)
        exact ⟨t, by rw [ek, q3], q4⟩
      · cases q1
    have ev : ∃ t, e.val = .int ki t := by
      unfold intOf at q2
      split at q2
      · rename_i i u ev
        exact ⟨u, by rw [ev, Option.some.inj q2]⟩
      · cases q2
    obtain ⟨t, ek, eh⟩ := ek
    obtain ⟨u, ev⟩ := ev
    have his : (mixKind prog w).is (Sum.inr kk) e.key = true := by
      rw [ek]
      exact keyIs_str kk t
    refine ⟨(Sum.inr kk, e.val) :: kvs, .cons his rfl p1, ?_, ?_, ?_⟩
    · rw [List.map_cons, List.map_cons, p2]
    · intro e' he'
      rcases List.mem_cons.mp he' with z | z
      · subst z
        exact ⟨_, his, by rw [eh]; rfl⟩
      · exact p3 e' z
    · intro z j hz
      unfold valueAt
      by_cases hk : z = kk
      · subst hk
        have hz2 : some ki = some j := by simpa [List.lookup] using hz
        refine ⟨u, ?_⟩
        simp only [List.find?_cons, decide_true, Option.map_some]
        rw [ev, Option.some.inj hz2]
      · have e2 : (z == kk) = false := beq_eq_false_iff_ne.mpr hk
        have hz2 : ks.lookup z = some j := by simpa [List.lookup, e2] using hz
        obtain ⟨t', ht⟩ := p4 z j hz2
        refine ⟨t', ?_⟩
        have e3 : decide ((Sum.inr kk : Key) = Sum.inr z) = false := decide_eq_false (fun q => hk (Sum.inr.inj q).symm)
        simp only [List.find?_cons, e3]
        exact ht
section
variable {X : Cx} {a : Addr} {ks : List (Str × Int)} {pins : List (Addr × Obj)} {σ : L2.St} {H : Hp} {s : Shared}
theorem wd_at (W : WDict X.K X.w a ks) (I : Inv X pins σ H s) : ∃ (kvs : List (Key × Value)) (ep : Nat), s.heap.DictAt (mixKind X.prog X.w) a kvs ep ∧ kvs.map (·.1) = ks.map (fun k => Sum.inr k.1) ∧ (∀ z i, ks.lookup z = some i → ∃ t, valueAt kvs (Sum.inr z) = some (.int i t)) ∧
    ∃ ob, s.heap.get? a = some ob ∧ ob.dict = none := by
  obtain ⟨es, n, hl, he⟩ := W.ex
  obtain ⟨kvs, p1, p2, p3, p4⟩ := wd_pairs (prog := X.prog) he
  have ho := I.kIn _ _ hl
  refine ⟨kvs, n, ⟨_, es, ho, ⟨rfl, rfl, rfl⟩, rfl, fun e h => p3 e (by simpa using h), p1, ?_⟩, p2, p4, _, ho, rfl⟩
  rw [p2]
  have := W.nd
  have e : ks.map (fun k => (Sum.inr k.1 : Key)) = (ks.map (·.1)).map Sum.inr := by rw [List.map_map]; rfl
  rw [e]
  exact this.map Sum.inr (fun x y h q => h (Sum.inr.inj q))
variable {e o : Expr} {to te : TD} {apos pos : Pos}
/-- d.get(e), the key there -/
def tdWGet (a : Addr) (ks : List (Str × Int)) (to te : TD) : TD := fun env O Q => to env O fun x O1 => match x with
  | .ptr p => p = a ∧ te env O1 fun y O2 => match y with
    | .str z => match ks.lookup z with
      | some i => Q (.int i) O2
      | none => False
    | _ => False
  | _ => False
theorem d_wget (W : WDict X.K X.w a ks) (ho : PD X o to) (he : PD X e te) (hbase : attributeBase o "get" X.env (eval o X.env) = eval o X.env := by rfl)
    (hfew : ((backTo pos (starEach [e] X.env)).all (fun x => !x.1) && (backToKw pos (keywordEach [] X.env)).all (fun x => x.1.isSome)
      && decide (([e] : List Expr).length + ([] : List Keyword).length + (if ([] : List Keyword).isEmpty then 0 else 1) < 30)) = true := by rfl) (hline : (apos.endLine == pos.line) = true := by rfl) (htr : backTo pos (starEach [e] X.env) = [(false, eval e X.env)] := by rfl) :
    PD X (.Call (.Attribute o "get" apos) [e] [] pos) (tdWGet a ks to te) := by
  refine ⟨fun pins s σ H Q I ⟨F, O, env, R, P, re, h, k⟩ => ?_⟩
  refine wpAny_Call_method hbase hfew hline PySem.F.plainAttrs_dict PySem.F.slot_dict_get PySem.F.type_dict_get (thn (ho.run pins s σ H (fun x H1 => x = .ref a ∧ ∃ F1 O1, Stp X.K F O H F1 O1 H1 ∧ te env O1 fun y O2 => match y with
    | .str z => match ks.lookup z with
      | some i => R (.int i) O2
      | none => False
    | _ => False) I ⟨F, O, env, _, P, re, h, fun v H1 F1 d O1 s1 r1 h1 => ?_⟩) fun u s1 ⟨x, H1, I1, rx, ex, F1, O1, st, hq⟩ => ?_)
  · cases r1 with
    | ptr p =>
      obtain ⟨rfl, h1⟩ := h1
      exact ⟨rfl, F1, O1, s1, h1⟩
    | _ => exact h1.elim
  subst ex
  obtain rfl : u = Value.ref a := rx
  obtain ⟨kvs, ep, dd, _, hv, ob, hob, hod⟩ := wd_at W I1
  refine ⟨dd.dictOf.typeIs, fun b q => ?_, ?_⟩
  · cases q
    exact ⟨ob, hob, hod⟩
  rw [htr]
  refine Calls.callWith_builtin rfl (Calls.evalArgs_plain (Calls.spliced_cons (thn (he.run pins s1 σ H1 (fun y H2 => ∃ z i F2 O2, y = .str z ∧ ks.lookup z = some i ∧ Stp X.K F1 O1 H1 F2 O2 H2 ∧ R (.int i) O2) I1 ⟨F1, O1, env, _, st.pre, re.mono st.ff, hq, fun v H2 F2 d O2 s2 r2 h2 => ?_⟩) fun iv s2 ⟨y, H2, I2, ry, z, i, F2, O2, ey, hz, st2, hr⟩ => Calls.spliced_nil ?_)))
  · cases r2 with
    | str z =>
      cases hz : ks.lookup z with
      | none => simp only [hz] at h2
      | some i =>
        simp only [hz] at h2
        exact ⟨z, i, F2, O2, rfl, hz, s2, h2⟩
    | _ => exact h2.elim
  subst ey
  obtain ⟨t, rfl⟩ := ry
  obtain ⟨kvs, ep, dd, _, hv, _⟩ := wd_at W I2
  obtain ⟨t2, ht2⟩ := hv z i hz
  refine call_meetsIn PySem.F.slot_dict_get dd.dictOf.typeIs PySem.F.entry_dict_get (PySem.F.args_dict_get_2 _ _) (meets_dict_get (mixKind X.prog X.w) a (k := Sum.inr z) (keyIs_str z t) W.low) ⟨_, dd.dictOf.mapOf, ?_⟩
  rw [ht2]
  exact ⟨.int i, H2, I2.tok _, ⟨_, rfl⟩, k _ H2 F2 _ O2 (st.trans st2) (.int i) hr⟩
/-- list(d) -/
def gWList (a : Addr) (ks : List (Str × Int)) : GC := fun ds O Q => match ds with
  | [.ptr p] => p = a ∧ Q (.lst ((ks.map (·.1)).map .str)) O
  | _ => False
theorem c_wlist (hc : X.calm = true) (W : WDict X.K X.w a ks) (hz : ks.length < 1000) : CallD X (.type "list") (gWList a ks) := by
  intro pins s σ H vs us Q I r ⟨F, O, ds, R, P, rs, g, k⟩
  match ds, rs, g with
  | [.ptr p], .cons (.ptr _) .nil, g =>
    obtain ⟨e0, g2⟩ := (show p = a ∧ R (.lst ((ks.map (·.1)).map .str)) O from g)
    subst e0
    obtain ⟨u, rfl, ru⟩ := vals1 r
    obtain rfl : u = Value.ref p := ru
    obtain ⟨kvs, ep, dd, hk, _⟩ := wd_at W I
    have hl : kvs.length = ks.length := by
      have := congrArg List.length hk
      simpa using this
    refine PySem.W.kdl_call (PySem.W.kdl_dict W.low) (I.ok.hd hc) dd (by rw [hl, sizeLine_eq]; omega) fun h' tk acc c' kp hD hacc => ?_
    have rv : Vals (kvs.map fun p => kV p.1) acc.toList := keys_at (by rw [Array.length_toList]; exact hacc.1) fun j v e => by
      obtain ⟨k', x, e1, e2⟩ := hacc.2 j v (by rw [← Array.getElem?_toList]; exact e)
      exact ⟨k', x, e1, e2⟩
    have e3 : (kvs.map fun p => kV p.1) = (ks.map (·.1)).map V.str := by
      have e4 : (kvs.map fun p => kV p.1) = (kvs.map (·.1)).map kV := by rw [List.map_map]; rfl
      rw [e4, hk, List.map_map, List.map_map]
      rfl
    rw [e3] at rv
    have hp := I.hok.fresh (Nat.le_refl s.heap.objs.size)
    have z := Stp.lst P hp (RepL.ofStrs (K := X.K) (F := F) (ks.map (·.1)))
    refine ⟨.ref s.heap.objs.size, _, I.laid (t' := tk) (o := .lst ((ks.map (·.1)).map V.str)) kp (Nat.le_refl _) ⟨?_, acc.toList, c', rv, by rw [Array.toArray_toList]; exact hD⟩, rfl, k _ _ _ _ O z.1 z.2 g2⟩
    rw [List.length_map, List.length_map, sizeLine_eq]
    omega
end
end Dl

set_option maxRecDepth 100000
set_option maxHeartbeats 2000000
/-! THE DEFS, 0: where they stand; what the head tells. Printed by gen0.py. -/
namespace Ri
open PySem PySem.Spec PyProof.Rows L2 Dl
abbrev prog : Program := PySem.Challenge.pw_onerising_k34_whole_sheets

def top (i : Nat) : Stmt := prog.main.body.getD i (.Pass ⟨0, 0, 0, 0⟩)
abbrev s_is_integer : Stmt := top 5
abbrev s_common : Stmt := top 6
abbrev s_made : Stmt := top 7
abbrev s_is_under : Stmt := top 8
abbrev s_is_between : Stmt := top 13
abbrev s_are_rising : Stmt := top 14
abbrev s_ups_by : Stmt := top 15
abbrev s_is_seen : Stmt := top 16
abbrev s_is_lot_of : Stmt := top 17
abbrev s_ups_in : Stmt := top 18
abbrev s_is_up_in : Stmt := top 21
abbrev s_mean_in : Stmt := top 22
abbrev s_lots_of : Stmt := top 23
abbrev s_up_in : Stmt := top 24
abbrev s_next_level : Stmt := top 26
abbrev s_levels_in : Stmt := top 27
abbrev s_table_by : Stmt := top 28
abbrev s_charge_at : Stmt := top 29
abbrev s_charge_in : Stmt := top 30
abbrev s_is_own_form : Stmt := top 51
abbrev s_is_form : Stmt := top 52
abbrev s_places_in : Stmt := top 53
abbrev s_paths_in : Stmt := top 54
abbrev s_term_at : Stmt := top 55
abbrev s_laid : Stmt := top 57
abbrev s_row_of : Stmt := top 58
abbrev s_single_of : Stmt := top 61
abbrev s_by_word : Stmt := top 62
abbrev s_is_good : Stmt := top 63
abbrev s_field_in : Stmt := top 64
abbrev s_integer_in : Stmt := top 73
abbrev s_fraction_in : Stmt := top 74
abbrev s_w_init : Stmt := inClass (top 75) 0
abbrev s_w_next_word : Stmt := inClass (top 75) 2
abbrev s_w_word_of : Stmt := inClass (top 75) 3
abbrev s_w_read_by : Stmt := inClass (top 75) 4
abbrev s_w_integer : Stmt := inClass (top 75) 5
abbrev s_w_fraction : Stmt := inClass (top 75) 6
abbrev s_w_all_by : Stmt := inClass (top 75) 7
abbrev s_w_end : Stmt := inClass (top 75) 9
abbrev s_w_term : Stmt := inClass (top 75) 10
abbrev s_w_own_of : Stmt := inClass (top 75) 11
abbrev s_lines_of : Stmt := top 76
abbrev s_term_in : Stmt := top 77
abbrev s_least_terms : Stmt := top 87
abbrev s_saying_in : Stmt := top 88
abbrev s_is_there : Stmt := top 89
abbrev s_is_so : Stmt := top 90
abbrev s_judged : Stmt := top 91
abbrev s_law_mixed : Stmt := top 93
abbrev s_law_begin : Stmt := top 94
abbrev s_law_draw : Stmt := top 95
abbrev s_law_of : Stmt := top 96
abbrev s_law_ratio : Stmt := top 97
abbrev s_law_plus : Stmt := top 98
abbrev s_law_less : Stmt := top 99
abbrev s_law_times : Stmt := top 100
abbrev s_law_under : Stmt := top 102
abbrev s_law_aboves : Stmt := top 104
abbrev s_law_more : Stmt := top 105
abbrev s_law_is_up : Stmt := top 106
abbrev s_law_ups : Stmt := top 107
abbrev s_law_mean : Stmt := top 108
abbrev s_law_guess : Stmt := top 109
abbrev s_law_best : Stmt := top 110
abbrev s_law_charge : Stmt := top 111
abbrev s_law_laid : Stmt := top 113
abbrev s_law_by_word : Stmt := top 114
abbrev s_law_is_field : Stmt := top 115
abbrev s_law_kids : Stmt := top 116
abbrev s_law_built : Stmt := top 117
abbrev s_law_things : Stmt := top 118
abbrev s_law_text : Stmt := top 119
abbrev s_law_good_term : Stmt := top 120
abbrev s_law_number : Stmt := top 121
abbrev s_law_worth : Stmt := top 122
abbrev s_law_numbered : Stmt := top 123
abbrev s_law_saying : Stmt := top 124
abbrev s_law_hand_right : Stmt := top 125
abbrev s_law : Stmt := top 126
theorem bt_int : bootBuiltins "int" = some (.type "int") := by decide +kernel
theorem bt_bool : bootBuiltins "bool" = some (.type "bool") := by decide +kernel
theorem bt_tuple : bootBuiltins "tuple" = some (.type "tuple") := by decide +kernel
theorem bt_str : bootBuiltins "str" = some (.type "str") := by decide +kernel
theorem bt_list : bootBuiltins "list" = some (.type "list") := by decide +kernel
theorem bt_dict : bootBuiltins "dict" = some (.type "dict") := by decide +kernel
theorem bt_abs : bootBuiltins "abs" = some (.builtin "abs") := by decide +kernel
theorem bt_all : bootBuiltins "all" = some (.builtin "all") := by decide +kernel
theorem bt_any : bootBuiltins "any" = some (.builtin "any") := by decide +kernel
theorem bt_len : bootBuiltins "len" = some (.builtin "len") := by decide +kernel
theorem bt_sum : bootBuiltins "sum" = some (.builtin "sum") := by decide +kernel
theorem bt_min : bootBuiltins "min" = some (.builtin "min") := by decide +kernel
theorem bt_sorted : bootBuiltins "sorted" = some (.builtin "sorted") := by decide +kernel
theorem bt_repr : bootBuiltins "repr" = some (.builtin "repr") := by decide +kernel
/-- a def of the module, a method of the class at C -/
structure FnAt (K : PySem.W.Frag) (mg : Str → Option Value) (x : Str) (st : Stmt) : Prop where
  ex : ∃ f fd, mg x = some (.ref f) ∧ FunD K x x (defArgs st) (defBody st) (defScope st) [] [] f fd
structure MtAt (K : PySem.W.Frag) (C : Addr) (m q : Str) (st : Stmt) : Prop where
  ex : ∃ f fd, Meth K C m f ∧ FunD K m q (defArgs st) (defBody st) (defScope st) [] [] f fd
structure GlC (K : PySem.W.Frag) (mg : Str → Option Value) (x : Str) (d : D) : Prop where
  ex : ∃ u v, mg x = some u ∧ RelV v u ∧ ∀ F, Rep K F d v
theorem GlC.d {K : PySem.W.Frag} {mg : Str → Option Value} {x : Str} {d : D} (g : GlC K mg x d) {X : Cx} (h1 : X.K = K) (h2 : X.mg = mg) : GlD X x d := by
  subst h1 h2
  exact ⟨g.ex⟩
/-- what the head tells; aI, aF: integer_in, fraction_in; aL: LENGTHS; aC: Words; pT, cT: the table and the code object of field_in -/
structure Hd (w : World) (K : PySem.W.Frag) (mg : Str → Option Value) (base : Heap) (aI aF aL aC cT pT : Addr) : Prop where
  m_isinstance : mg "isinstance" = none
  m_int : mg "int" = none
  m_bool : mg "bool" = none
  m_tuple : mg "tuple" = none
  m_str : mg "str" = none
  m_abs : mg "abs" = none
  m_all : mg "all" = none
  m_any : mg "any" = none
  m_len : mg "len" = none
  m_range : mg "range" = none
  m_zip : mg "zip" = none
  m_sorted : mg "sorted" = none
  m_sum : mg "sum" = none
  m_list : mg "list" = none
  m_enumerate : mg "enumerate" = none
  m_min : mg "min" = none
  m_dict : mg "dict" = none
  m_repr : mg "repr" = none
  f_is_integer : FnAt K mg "is_integer" s_is_integer
  f_common : FnAt K mg "common" s_common
  f_made : FnAt K mg "made" s_made
  f_is_under : FnAt K mg "is_under" s_is_under
  f_is_between : FnAt K mg "is_between" s_is_between
  f_are_rising : FnAt K mg "are_rising" s_are_rising
  f_ups_by : FnAt K mg "ups_by" s_ups_by
  f_is_seen : FnAt K mg "is_seen" s_is_seen
  f_is_lot_of : FnAt K mg "is_lot_of" s_is_lot_of
  f_ups_in : FnAt K mg "ups_in" s_ups_in
  f_is_up_in : FnAt K mg "is_up_in" s_is_up_in
  f_mean_in : FnAt K mg "mean_in" s_mean_in
  f_lots_of : FnAt K mg "lots_of" s_lots_of
  f_up_in : FnAt K mg "up_in" s_up_in
  f_next_level : FnAt K mg "next_level" s_next_level
  f_levels_in : FnAt K mg "levels_in" s_levels_in
  f_table_by : FnAt K mg "table_by" s_table_by
  f_charge_at : FnAt K mg "charge_at" s_charge_at
  f_charge_in : FnAt K mg "charge_in" s_charge_in
  f_is_own_form : FnAt K mg "is_own_form" s_is_own_form
  f_is_form : FnAt K mg "is_form" s_is_form
  f_places_in : FnAt K mg "places_in" s_places_in
  f_paths_in : FnAt K mg "paths_in" s_paths_in
  f_term_at : FnAt K mg "term_at" s_term_at
  f_laid : FnAt K mg "laid" s_laid
  f_row_of : FnAt K mg "row_of" s_row_of
  f_single_of : FnAt K mg "single_of" s_single_of
  f_by_word : FnAt K mg "by_word" s_by_word
  f_is_good : FnAt K mg "is_good" s_is_good
  f_field_in : FnAt K mg "field_in" s_field_in
  f_integer_in : FnAt K mg "integer_in" s_integer_in
  f_fraction_in : FnAt K mg "fraction_in" s_fraction_in
  f_w_init : MtAt K aC "__init__" "Words.__init__" s_w_init
  f_w_next_word : MtAt K aC "next_word" "Words.next_word" s_w_next_word
  f_w_word_of : MtAt K aC "word_of" "Words.word_of" s_w_word_of
  f_w_read_by : MtAt K aC "read_by" "Words.read_by" s_w_read_by
  f_w_integer : MtAt K aC "integer" "Words.integer" s_w_integer
  f_w_fraction : MtAt K aC "fraction" "Words.fraction" s_w_fraction
  f_w_all_by : MtAt K aC "all_by" "Words.all_by" s_w_all_by
  f_w_end : MtAt K aC "end" "Words.end" s_w_end
  f_w_term : MtAt K aC "term" "Words.term" s_w_term
  f_w_own_of : MtAt K aC "own_of" "Words.own_of" s_w_own_of
  f_lines_of : FnAt K mg "lines_of" s_lines_of
  f_term_in : FnAt K mg "term_in" s_term_in
  f_least_terms : FnAt K mg "least_terms" s_least_terms
  f_saying_in : FnAt K mg "saying_in" s_saying_in
  f_is_there : FnAt K mg "is_there" s_is_there
  f_is_so : FnAt K mg "is_so" s_is_so
  f_judged : FnAt K mg "judged" s_judged
  f_law_mixed : FnAt K mg "_law_mixed" s_law_mixed
  f_law_begin : FnAt K mg "_law_begin" s_law_begin
  f_law_draw : FnAt K mg "_law_draw" s_law_draw
  f_law_of : FnAt K mg "_law_of" s_law_of
  f_law_ratio : FnAt K mg "_law_ratio" s_law_ratio
  f_law_plus : FnAt K mg "_law_plus" s_law_plus
  f_law_less : FnAt K mg "_law_less" s_law_less
  f_law_times : FnAt K mg "_law_times" s_law_times
  f_law_under : FnAt K mg "_law_under" s_law_under
  f_law_aboves : FnAt K mg "_law_aboves" s_law_aboves
  f_law_more : FnAt K mg "_law_more" s_law_more
  f_law_is_up : FnAt K mg "_law_is_up" s_law_is_up
  f_law_ups : FnAt K mg "_law_ups" s_law_ups
  f_law_mean : FnAt K mg "_law_mean" s_law_mean
  f_law_guess : FnAt K mg "_law_guess" s_law_guess
  f_law_best : FnAt K mg "_law_best" s_law_best
  f_law_charge : FnAt K mg "_law_charge" s_law_charge
  f_law_laid : FnAt K mg "_law_laid" s_law_laid
  f_law_by_word : FnAt K mg "_law_by_word" s_law_by_word
  f_law_is_field : FnAt K mg "_law_is_field" s_law_is_field
  f_law_kids : FnAt K mg "_law_kids" s_law_kids
  f_law_built : FnAt K mg "_law_built" s_law_built
  f_law_things : FnAt K mg "_law_things" s_law_things
  f_law_text : FnAt K mg "_law_text" s_law_text
  f_law_good_term : FnAt K mg "_law_good_term" s_law_good_term
  f_law_number : FnAt K mg "_law_number" s_law_number
  f_law_worth : FnAt K mg "_law_worth" s_law_worth
  f_law_numbered : FnAt K mg "_law_numbered" s_law_numbered
  f_law_saying : FnAt K mg "_law_saying" s_law_saying
  f_law_hand_right : FnAt K mg "_law_hand_right" s_law_hand_right
  f_law : FnAt K mg "law" s_law
  g_MOST_THINGS : GlC K mg "MOST_THINGS" (.int 10)
  g_MOST_WORTH : GlC K mg "MOST_WORTH" (.int 1000)
  g_MOST_WEIGHT : GlC K mg "MOST_WEIGHT" (.int 1000)
  g_MOST_WORDS : GlC K mg "MOST_WORDS" (.int 20)
  g_MOST_DEEP : GlC K mg "MOST_DEEP" (.int 8)
  g_MOST_MOVE : GlC K mg "MOST_MOVE" (.int 2000)
  g_MOST_TIMES : GlC K mg "MOST_TIMES" (.int 1000)
  g_THING : GlC K mg "THING" (.str "thing")
  g_NONE : GlC K mg "NONE" (.str "none")
  g_BESIDE : GlC K mg "BESIDE" (.str "beside")
  g_BELOW_terms : GlC K mg "BELOW_terms" (.str "below")
  g_ROW : GlC K mg "ROW" (.str "row")
  g_TURNED : GlC K mg "TURNED" (.str "turned")
  g_MOVED : GlC K mg "MOVED" (.str "moved")
  g_TIMES : GlC K mg "TIMES" (.str "times")
  g_TIED : GlC K mg "TIED" (.str "tied")
  g_ONLY : GlC K mg "ONLY" (.str "only")
  g_LENGTHS : GlC K mg "LENGTHS" (.ptr aL)
  g_LEAVES : GlC K mg "LEAVES" (.xtp [.str "thing", .str "none"])
  g_DOUBLE : GlC K mg "DOUBLE" (.xtp [.str "beside", .str "below"])
  g_NEWLINE : GlC K mg "NEWLINE" (.str "\n")
  g_BLANK : GlC K mg "BLANK" (.str " ")
  g_STROKE : GlC K mg "STROKE" (.str "/")
  g_MINUS : GlC K mg "MINUS" (.str "-")
  g_NAUGHT : GlC K mg "NAUGHT" (.str "0")
  g_FIGURES : GlC K mg "FIGURES" (.str "0123456789")
  g_MOST_FIGURES : GlC K mg "MOST_FIGURES" (.int 31)
  g_THINGS : GlC K mg "THINGS" (.str "things")
  g_BELOW_judge : GlC K mg "BELOW_judge" (.str "below")
  g_UP : GlC K mg "UP" (.str "up")
  g_LEVELS : GlC K mg "LEVELS" (.str "levels")
  g_GUESS : GlC K mg "GUESS" (.str "guess")
  g_TABLE : GlC K mg "TABLE" (.str "table")
  g_CHARGE : GlC K mg "CHARGE" (.str "charge")
  g_SAYINGS : GlC K mg "SAYINGS" (.xtp [.str "things", .str "below", .str "up", .str "levels", .str "guess", .str "table", .str "charge"])
  g_integer_in : GlC K mg "integer_in" (.ptr aI)
  g_fraction_in : GlC K mg "fraction_in" (.ptr aF)
  a_integer_in : mg "integer_in" = some (.ref aI)
  a_fraction_in : mg "fraction_in" = some (.ref aF)
  a_Words : mg "Words" = some (.ref aC)
  wd : WDict K w aL [("thing", 3), ("none", 1), ("beside", 3), ("below", 3), ("row", 3), ("turned", 2), ("moved", 3), ("times", 3), ("tied", 4), ("only", 3)]
  cW : Cls K aC
  na_all_words : NoAttr K aC "all_words"
  na_row : NoAttr K aC "row"
  na_at : NoAttr K aC "at"
  na_terms_read : NoAttr K aC "terms_read"
  mkW : ∃ f, Mk K aC f ∧ Meth K aC "__init__" f
  tb : LamX.TabB base mg cT pT
  fT : ∃ f fd, mg "field_in" = some (.ref f) ∧ FunD K "field_in" "field_in" (defArgs s_field_in) (defBody s_field_in) (defScope s_field_in) [] [] f fd ∧ fd.code = .ref cT
theorem room64 {k : Nat} {A : Around} (r : Room k A) : A.units + 64 < cLine := by have := r.un; omega
section
variable {w : World} {K : PySem.W.Frag} {mg : Str → Option Value} {base : Heap} {x : Str} {st : Stmt} {N ps : List Str} {k : Nat} {g : GC}
theorem def_ok (c : FnAt K mg x st) (S : FnScope N ps (defScope st)) (hb : ∀ (kV doc pm : Value) (an : Option Addr) (cdv ct : Value) (us : List Value), us.length = ps.length → bindArgs (PySem.W.fnOf x x (defArgs st) (defBody st) (defScope st) .none kV doc pm an cdv ct) ⟨us, []⟩ = pure (ps.zip us))
    (len : ∀ ds O R, g ds O R → ds.length = ps.length)
    (hbody : ∀ (f : Addr) (cdv : Value) (A : Around) (outer : List Env) (s : Shared) (H : Hp) (E : XK), Room k (A.deeper (envOfC x (defScope st) s.heap.objs.size f cdv)) →
      ∃ t, PSDs (cxOf CX0 prog w K mg base N x (defScope st) f cdv A outer s H E).nox (defBody st) t ∧ ∀ ds O R, g ds O R → t { nx := fun _ O' => Fin R .non O', rt := Fin R } (startD N.length ds) O) : Dl.Def prog w K mg base (k + 1) x ps g := by
  obtain ⟨f, fd, hm, F⟩ := c.ex
  exact def_mk hm F (F.bindsN hb) (fn_ok F S len fun cdv A outer s H E hr => hbody f cdv A outer s H E hr)
theorem meth_ok {C : Addr} {q : Str} (c : MtAt K C x q st) (S : FnScope N ps (defScope st)) (hb : ∀ (kV doc pm : Value) (an : Option Addr) (cdv ct : Value) (us : List Value), us.length = ps.length → bindArgs (PySem.W.fnOf x q (defArgs st) (defBody st) (defScope st) .none kV doc pm an cdv ct) ⟨us, []⟩ = pure (ps.zip us))
    (len : ∀ ds O R, g ds O R → ds.length = ps.length)
    (hbody : ∀ (f : Addr) (cdv : Value) (A : Around) (outer : List Env) (s : Shared) (H : Hp) (E : XK), Room k (A.deeper (envOfC q (defScope st) s.heap.objs.size f cdv)) →
      ∃ t, PSDs (cxOf CX0 prog w K mg base N q (defScope st) f cdv A outer s H E).nox (defBody st) t ∧ ∀ ds O R, g ds O R → t { nx := fun _ O' => Fin R .non O', rt := Fin R } (startD N.length ds) O) : MDef prog w K mg base (k + 1) C x ps g := by
  obtain ⟨f, fd, hm, F⟩ := c.ex
  exact ⟨f, fd, hm, F.bindsN hb, fn_ok F S len fun cdv A outer s H E hr => hbody f cdv A outer s H E hr⟩
end
/-! ### loops -/
theorem while_ind {cc : TDT} {tb : TDS} {DE : DEnds} (I : Nat → DEnv → DO → Prop) (step : ∀ m env O (N : DEnv → DO → Prop), I m env O → (∀ m' e O', m' < m → I m' e O' → N e O') → cc env O fun b O1 => iteB b (tb { DE with nx := N, ct := N, bk := DE.nx } env O1) (DE.nx env O1)) {m : Nat} {env : DEnv} {O : DO} (h : I m env O) : tdWhile cc tb DE env O := by
  have key : ∀ n m env O, m < n → I m env O → whD cc tb n DE env O := by
    intro n
    induction n with
    | zero => intro m env O h; exact absurd h (Nat.not_lt_zero m)
    | succ n ih => intro m env O hm h; exact step m env O (whD cc tb n DE) h fun m' e O' hm' h' => ih m' e O' (by omega) h'
  exact ⟨m + 1, key _ _ _ _ (Nat.lt_succ_self m) h⟩
theorem for_ind {g : GD} {tb : TDS} {DE : DEnds} (I : List D → DEnv → DO → Prop) (step : ∀ d r env O (N : DEnv → DO → Prop), I (d :: r) env O → (∀ e O', I r e O' → N e O') → g d env O fun env' O' => tb { DE with nx := N, ct := N, bk := DE.nx } env' O') (done : ∀ env O, I [] env O → DE.nx env O) :
    ∀ {its : List D} {env : DEnv} {O : DO}, I its env O → forD g tb its DE env O
  | [], env, O, h => done env O h
  | d :: r, env, O, h => step d r env O (forD g tb r DE) h fun e O' h' => for_ind I step done h'
end Ri

set_option maxRecDepth 100000
set_option maxHeartbeats 2000000
/-! small lemmas on data lists -/
namespace Ri
open PySem PySem.Spec PyProof.Rows L2 Dl
theorem cut_from {α : Type} (xs : List α) (k : Nat) : Dl.cutD xs (some (k : Int)) none = xs.drop k := by
  unfold Dl.cutD
  rw [HT.sIx_nat, HT.sIx_none]
  by_cases h : k ≤ xs.length
  · rw [Nat.min_eq_left h, List.take_of_length_le (by rw [List.length_drop]; omega)]
  · rw [Nat.min_eq_right (by omega), List.drop_length, List.drop_eq_nil_of_le (by omega), List.take_nil]
theorem cut_upto {α : Type} (xs : List α) (k : Nat) : Dl.cutD xs none (some (k : Int)) = xs.take k := by
  unfold Dl.cutD
  rw [HT.sIx_nat, HT.sIx_none, List.drop_zero, Nat.sub_zero]
  by_cases h : k ≤ xs.length
  · rw [Nat.min_eq_left h]
  · rw [Nat.min_eq_right (by omega), List.take_length, List.take_of_length_le (by omega)]
theorem cut_map {α β : Type} (f : α → β) (xs : List α) (lo hi : Option Int) : Dl.cutD (xs.map f) lo hi = (Dl.cutD xs lo hi).map f := by
  unfold Dl.cutD
  rw [List.length_map, List.map_take, List.map_drop]
theorem zip_map {α β : Type} (f : α → D) (g : β → D) (xs : List α) (ys : List β) : zipD (xs.map f) (ys.map g) = (xs.zip ys).map fun p => .tup [f p.1, g p.2] := by
  unfold zipD
  induction xs generalizing ys with
  | nil => rfl
  | cons x xs ih =>
    cases ys with
    | nil => rfl
    | cons y ys =>
      show D.tup [f x, g y] :: List.zipWith _ (xs.map f) (ys.map g) = _
      rw [ih]
      rfl
theorem rng_map (n : Nat) : rngD 0 ((n : Int)).toNat = (List.range n).map fun (i : Nat) => D.int (i : Int) := by
  unfold rngD
  rw [Int.toNat_natCast]
  refine List.map_congr_left fun i _ => ?_
  rw [Int.zero_add]
theorem rngOk_nat {n : Nat} (h : n ≤ 1000000) : rngOk (n : Int) = true := by
  unfold rngOk szB
  rw [Bool.and_eq_true]
  exact ⟨decide_eq_true (by omega), Nat.ble_eq_true_of_le (by omega)⟩
theorem ixD_nat {α : Type} (xs : List α) (n : Nat) : ixD xs (n : Int) = xs[n]? := rfl
theorem ixD_map {α β : Type} (f : α → β) (xs : List α) (n : Nat) : ixD (xs.map f) (n : Int) = (xs[n]?).map f := by
  rw [ixD_nat, List.getElem?_map]
theorem all_map {α : Type} (f : α → Bool) (xs : List α) : (xs.map f).all id = xs.all f := by
  rw [List.all_map]
  rfl
theorem any_map {α : Type} (f : α → Bool) (xs : List α) : (xs.map f).any id = xs.any f := by
  rw [List.any_map]
  rfl
/-- all over a list of data -/
theorem gAll_map {α : Type} {O : DO} {Q : D → DO → Prop} (xs : List α) (f : α → Bool) (h : Q (.bl (xs.all f)) O) : gAll [.lst (xs.map fun x => .bl (f x))] O Q := by
  show (match blsD (xs.map fun x => .bl (f x)) with
    | some bs => Q (.bl (bs.all id)) O
    | none => False)
  rw [blsD_map]
  show Q (.bl ((xs.map f).all id)) O
  rw [all_map]
  exact h
theorem gAny_map {α : Type} {O : DO} {Q : D → DO → Prop} (xs : List α) (f : α → Bool) (h : Q (.bl (xs.any f)) O) : gAny [.lst (xs.map fun x => .bl (f x))] O Q := by
  show (match blsD (xs.map fun x => .bl (f x)) with
    | some bs => Q (.bl (bs.any id)) O
    | none => False)
  rw [blsD_map]
  show Q (.bl ((xs.map f).any id)) O
  rw [any_map]
  exact h
theorem gSum_map {α : Type} {O : DO} {Q : D → DO → Prop} (xs : List α) (f : α → Int) (h : Q (.int ((xs.map f).sum)) O) : gSum [.lst (xs.map fun x => .int (f x))] O Q := by
  show (match intsD (xs.map fun x => .int (f x)) with
    | some ns => Q (.int ns.sum) O
    | none => False)
  rw [intsD_map]
  exact h
theorem eqv_int (a b : Int) : PyData.eqv (.int a) (.int b) = decide (a = b) := by
  simp only [PyData.eqv]
  by_cases h : a = b
  · rw [h]
    simp
  · rw [decide_eq_false h]
    exact beq_eq_false_iff_ne.mpr h
theorem inD_ints (x : Int) (ns : List Int) : inD (.int x) (ns.map D.int) = decide (x ∈ ns) := by
  unfold inD
  rw [toPys_int]
  induction ns with
  | nil => rfl
  | cons n ns ih =>
    rw [List.map_cons, List.any_cons, ih]
    show (PyData.eqv (.int n) (.int x) || _) = _
    rw [eqv_int]
    by_cases h : x = n
    · subst h
      simp
    · have h2 : ¬ n = x := fun e => h e.symm
      simp [h, h2]
/-- k in a list of ints -/
theorem in_ints {neg : Bool} {k : D → Prop} {O : DO} (x : Int) (ns : List Int) (y : D) (hy : y = .lst (ns.map D.int) ∨ y = .tup (ns.map D.int)) (h : k (.bl (if neg then !decide (x ∈ ns) else decide (x ∈ ns)))) : gIn neg O (.int x) y k := by
  have e : needB (okD 60 (.int x) && okDs 59 (ns.map D.int)) (k (.bl (if neg then !inD (.int x) (ns.map D.int) else inD (.int x) (ns.map D.int)))) := by
    refine needB_i ?_ ?_
    · rw [okDs_ints]
      rfl
    · rw [inD_ints]
      exact h
  rcases hy with rfl | rfl
  · exact e
  · exact e
theorem in_yes {k : D → Prop} {O : DO} (x : Int) (ns : List Int) (y : D) (hy : y = .lst (ns.map D.int) ∨ y = .tup (ns.map D.int)) (h : k (.bl (decide (x ∈ ns)))) : gIn false O (.int x) y k := in_ints (neg := false) x ns y hy h
theorem in_not {k : D → Prop} {O : DO} (x : Int) (ns : List Int) (y : D) (hy : y = .lst (ns.map D.int) ∨ y = .tup (ns.map D.int)) (h : k (.bl (!decide (x ∈ ns)))) : gIn true O (.int x) y k := in_ints (neg := true) x ns y hy h
end Ri

set_option maxRecDepth 100000
set_option maxHeartbeats 2000000
/-! readings of owned cells, step by step -/
namespace Ri
open PySem PySem.Spec PyProof.Rows L2 Dl
section
variable {i j : Nat} {te to ty : TD} {env : DEnv} {O : DO} {Q : D → DO → Prop} {p : Addr} {xs : List D} {DE : DEnds}
theorem v_i {d : D} (hi : lk env i = some d) (h : Q d O) : tdV i env O Q := by
  unfold tdV
  rw [hi]
  exact h
theorem app_v (hi : lk env i = some (.ptr p)) (hp : O p = some (.lst xs)) (h : te env O fun d O2 => ∃ xs2, O2 p = some (.lst xs2) ∧ xs2.length < 16777216 ∧ Q .non (updO O2 p (.lst (xs2 ++ [d])))) : tdApp (tdV i) (tdCons te tdNil) env O Q := by
  have key : ∀ d O2, (∃ xs2, O2 p = some (.lst xs2) ∧ xs2.length < 16777216 ∧ Q .non (updO O2 p (.lst (xs2 ++ [d])))) → (match ([d] : List D), O2 p with
      | [d], some (.lst xs) => needB (Nat.blt xs.length 16777216) (Q .non (updO O2 p (.lst (xs ++ [d]))))
      | _, _ => False) := fun d O2 ⟨xs2, h1, h2, h3⟩ => by
    rw [h1]
    exact needB_i (Nat.ble_eq_true_of_le h2) h3
  have e : (fun d O2 => match ([d] : List D), O2 p with
      | [d], some (.lst xs) => needB (Nat.blt xs.length 16777216) (Q .non (updO O2 p (.lst (xs ++ [d]))))
      | _, _ => False) = fun d O2 => ∃ xs2, O2 p = some (.lst xs2) ∧ xs2.length < 16777216 ∧ Q .non (updO O2 p (.lst (xs2 ++ [d]))) := by
    funext d O2
    refine propext ⟨fun z => ?_, key d O2⟩
    cases e : O2 p with
    | none => simp only [e] at z
    | some c =>
      cases c <;> simp only [e] at z
      obtain ⟨g1, g2⟩ := needB_o z
      exact ⟨_, rfl, Nat.le_of_ble_eq_true g1, g2⟩
  unfold tdApp tdV
  rw [hi]
  show (match O p with
    | some (.lst _) => tdCons te tdNil env O fun ds O2 => match ds, O2 p with
      | [d], some (.lst xs) => needB (Nat.blt xs.length 16777216) (Q .non (updO O2 p (.lst (xs ++ [d]))))
      | _, _ => False
    | _ => False)
  rw [hp]
  show te env O (fun d O2 => match ([d] : List D), O2 p with
      | [d], some (.lst xs) => needB (Nat.blt xs.length 16777216) (Q .non (updO O2 p (.lst (xs ++ [d]))))
      | _, _ => False)
  rw [e]
  exact h
theorem ext_v (hi : lk env i = some (.ptr p)) (hp : O p = some (.lst xs)) (h : te env O fun d O2 => ∃ ys xs2, d = .lst ys ∧ O2 p = some (.lst xs2) ∧ xs2.length + ys.length ≤ 16777216 ∧ Q .non (updO O2 p (.lst (xs2 ++ ys)))) : tdExt (tdV i) (tdCons te tdNil) env O Q := by
  have e : (fun d O2 => match ([d] : List D), O2 p with
      | [.lst ys], some (.lst xs) => needB (szB (xs.length + ys.length)) (Q .non (updO O2 p (.lst (xs ++ ys))))
      | _, _ => False) = fun d O2 => ∃ ys xs2, d = .lst ys ∧ O2 p = some (.lst xs2) ∧ xs2.length + ys.length ≤ 16777216 ∧ Q .non (updO O2 p (.lst (xs2 ++ ys))) := by
    funext d O2
    refine propext ⟨fun z => ?_, fun ⟨ys, xs2, h0, h1, h2, h3⟩ => ?_⟩
    · cases d <;> try exact z.elim
      rename_i ys
      cases e : O2 p with
      | none => simp only [e] at z
      | some c =>
        cases c <;> simp only [e] at z
        obtain ⟨g1, g2⟩ := needB_o z
        exact ⟨_, _, rfl, rfl, Nat.le_of_ble_eq_true g1, g2⟩
    · subst h0
      rw [h1]
      exact needB_i (szB_i h2) h3
  unfold tdExt tdV
  rw [hi]
  show (match O p with
    | some (.lst _) => tdCons te tdNil env O fun ds O2 => match ds, O2 p with
      | [.lst ys], some (.lst xs) => needB (szB (xs.length + ys.length)) (Q .non (updO O2 p (.lst (xs ++ ys))))
      | _, _ => False
    | _ => False)
  rw [hp]
  show te env O (fun d O2 => match ([d] : List D), O2 p with
      | [.lst ys], some (.lst xs) => needB (szB (xs.length + ys.length)) (Q .non (updO O2 p (.lst (xs ++ ys))))
      | _, _ => False)
  rw [e]
  exact h
theorem pop_v {d : D} (hi : lk env i = some (.ptr p)) (hp : O p = some (.lst (xs ++ [d]))) (h : Q d (updO O p (.lst xs))) : tdPop (tdV i) env O Q := by
  unfold tdPop tdV
  rw [hi]
  show (match O p with
    | some (.lst xs) => match xs.getLast? with
      | some d => Q d (updO O p (.lst xs.dropLast))
      | none => False
    | _ => False)
  rw [hp]
  show (match (xs ++ [d]).getLast? with
      | some d' => Q d' (updO O p (.lst (xs ++ [d]).dropLast))
      | none => False)
  rw [List.getLast?_concat, List.dropLast_concat]
  exact h
theorem fz_v (hi : lk env i = some (.ptr p)) (hp : O p = some (.lst xs)) (h : Q (.lst xs) (offO O p)) : tdFz (tdV i) env O Q := by
  unfold tdFz tdV
  rw [hi]
  show (match O p with
    | some (.lst ds) => Q (.lst ds) (offO O p)
    | _ => False)
  rw [hp]
  exact h
theorem ptr_v {k : D → Prop} (hp : O p = some (.lst xs)) (ys : List D) (hx : okDs 59 xs = true) (hy : okDs 59 ys = true) (h : k (.bl (!PyData.eqv (.list (toPys xs)) (.list (toPys ys))))) : gNe O (.ptr p) (.lst ys) k := by
  show eqD true (deref O (.ptr p)) (.lst ys) k
  rw [deref_ptr hp]
  exact ⟨hx, hy, h⟩
theorem eqv_nil (xs : List D) : PyData.eqv (.list (toPys xs)) (.list (toPys [])) = xs.isEmpty := by
  cases xs with
  | nil => rfl
  | cons x xs => rfl
/-- an owned list against [] -/
theorem ne_nil_v {QT : Bool → DO → Prop} (hi : lk env i = some (.ptr p)) (hp : O p = some (.lst xs)) (hx : okDs 59 xs = true) (h : QT (!xs.isEmpty) O) : tdT (tdOp gNe (tdV i) (tdLst tdNil)) env O QT := by
  unfold tdT tdOp tdV
  rw [hi]
  show gNe O (.ptr p) (.lst []) fun d => match d with
    | .bl b => QT b O
    | _ => False
  refine ptr_v hp [] hx rfl ?_
  rw [eqv_nil]
  exact h
theorem dnotin_v {kvs : List (Key × D)} {z : Key} {d : D} {QT : Bool → DO → Prop} (hj : lk env j = some d) (hd : keyD d = some z) (hi : lk env i = some (.ptr p)) (hp : O p = some (.dK kvs)) (h : QT (!(lookK kvs z).isSome) O) : tdT (tdDNotIn (tdV j) (tdV i)) env O QT := by
  unfold tdT tdDNotIn tdV
  rw [hj, hi]
  show (match O p with
    | some (.dK kvs) => match keyD d with
      | some z => QT (!(lookK kvs z).isSome) O
      | none => False
    | _ => False)
  rw [hp]
  show (match keyD d with
      | some z => QT (!(lookK kvs z).isSome) O
      | none => False)
  rw [hd]
  exact h
theorem dput_v {kvs : List (Key × D)} {z : Key} {d v : D} (hj : lk env j = some d) (hd : keyD d = some z) (hi : lk env i = some (.ptr p)) (hp : O p = some (.dK kvs)) (hl : kvs.length < 16777216) (h : DE.nx env (updO O p (.dK (putKD kvs z v)))) : tdDPut (tdC v) (tdV i) (tdV j) DE env O := by
  unfold tdDPut tdC tdV
  simp only [hj, hi, hp, hd]
  exact needB_i (Nat.ble_eq_true_of_le hl) h
theorem op_vv {g : GOp} {x y : D} (hi : lk env i = some x) (hj : lk env j = some y) (h : g O x y fun d => Q d O) : tdOp g (tdV i) (tdV j) env O Q := by
  unfold tdOp tdV
  simp only [hi, hj]
  exact h
theorem ix_lst {ds : List D} {n : Nat} {d : D} {k : D → Prop} (h : ds[n]? = some d) (hk : k d) : gIx O (.lst ds) (.int (n : Int)) k := by
  show (match ds[n]? with
    | some d => k d
    | none => False)
  rw [h]
  exact hk
theorem ix_tup {ds : List D} {n : Nat} {d : D} {k : D → Prop} (h : ds[n]? = some d) (hk : k d) : gIx O (.tup ds) (.int (n : Int)) k := by
  show (match ds[n]? with
    | some d => k d
    | none => False)
  rw [h]
  exact hk
theorem call1_v {g : GC} {d : D} (hi : lk env i = some d) (h : g [d] O Q) : tdCall g (tdCons (tdV i) tdNil) env O Q := by
  unfold tdCall tdCons tdNil tdV
  simp only [hi]
  exact h
theorem call2_v {g : GC} {d e : D} (hi : lk env i = some d) (hj : lk env j = some e) (h : g [d, e] O Q) : tdCall g (tdCons (tdV i) (tdCons (tdV j) tdNil)) env O Q := by
  unfold tdCall tdCons tdNil tdV
  simp only [hi, hj]
  exact h
theorem sortD_v {kvs : List (Key × D)} {is : List Int} (hp : O p = some (.dK kvs)) (hk : keysI kvs = some is) (hl : is.length < 64) (h : Q (.lst ((isort is).map .int)) O) : gSortD [.ptr p] O Q := by
  show (match O p with
    | some (.dK kvs) => match keysI kvs with
      | some is => needB (Nat.blt is.length 64) (Q (.lst ((isort is).map .int)) O)
      | none => False
    | _ => False)
  rw [hp]
  show (match keysI kvs with
      | some is => needB (Nat.blt is.length 64) (Q (.lst ((isort is).map .int)) O)
      | none => False)
  rw [hk]
  exact needB_i (Nat.ble_eq_true_of_le hl) h
end
end Ri

set_option maxRecDepth 100000
set_option maxHeartbeats 2000000
/-! THE DEFS, 1: whole numbers, fractions. -/
namespace Ri
open PySem PySem.Spec PyProof.Rows L2 Dl
/-- small: far within what the walk bears -/
def Sm (i : Int) : Prop := i.natAbs.log2 < 4000
theorem sm_mul {i j : Int} (h : Sm i) (k : Sm j) : CMulW i j := by
  unfold Sm at h k
  unfold CMulW
  omega
theorem sm_div {i j : Int} (h0 : 0 < j) (h : Sm j) : CDivW i j := ⟨h0, by unfold Sm at h; omega⟩
theorem sm_of {i : Int} (k : Nat) (h : i.natAbs < 2 ^ k) (h0 : 0 < k) (hk : k ≤ 4000) : Sm i := Nat.lt_of_lt_of_le (PySem.Flt.log2_lt_of h0 h) hk
theorem sm_le {i j : Int} (h : i.natAbs ≤ j.natAbs) (k : Sm j) : Sm i := by
  by_cases h0 : j.natAbs = 0
  · have e : i.natAbs = 0 := by omega
    unfold Sm
    rw [e]
    decide
  · refine Nat.lt_of_le_of_lt ?_ k
    by_cases h1 : i.natAbs = 0
    · rw [h1]
      exact Nat.zero_le _
    · exact (Nat.le_log2 h0).mpr (Nat.le_trans (Nat.log2_self_le h1) h)
abbrev Fr := Int × Int
def frD (p : Fr) : D := .tup [.int p.1, .int p.2]
def SmF (p : Fr) : Prop := Sm p.1 ∧ Sm p.2
section
variable {w : World} {K : PySem.W.Frag} {mg : Str → Option Value} {base : Heap} {aI aF aL aC cT pT : Addr}
def gIsInt : GC := fun ds O Q => match ds with
  | [.int _] => Q (.bl true) O
  | [.bl _] => Q (.bl false) O
  | [.str _] => Q (.bl false) O
  | [.tup _] => Q (.bl false) O
  | _ => False
theorem k_is_integer (c : Hd w K mg base aI aF aL aC cT pT) : Dl.Def prog w K mg base 1 "is_integer" ["thing"] gIsInt := by
  have S : FnScope ["thing"] ["thing"] (defScope s_is_integer) := C8.fnScope_by (by kernel_rfl)
  have hN := S.nd
  refine def_ok c.f_is_integer S (fun _ _ _ _ _ _ us hl => match us, hl with | [_], _ => rfl) (fun ds O R h => ?_) fun f cdv A outer s H E hr => ⟨_, have hu := room64 hr; have hu5 := room65 hr; have hu1 := room1 hr; (s_one (s_ret (d_and (d_isi (dv 0) c.m_isinstance c.m_int bt_int) (d_one (d_not (d_isi (dv 0) c.m_isinstance c.m_bool bt_bool)))))), fun ds O R h => ?_⟩
  · unfold gIsInt at h
    split at h <;> first | rfl | exact h.elim
  · unfold gIsInt at h
    split at h
    · exact Fin.i h
    · exact Fin.i h
    · exact Fin.i h
    · exact Fin.i h
    · exact h.elim
def gCommon : GC := fun ds O Q => match ds with
  | [.int a, .int b] => Q (.int (Int.gcd a b)) O
  | _ => False
theorem absI (a : Int) : (if a < 0 then -a else a) = (a.natAbs : Int) := by split <;> omega
theorem k_common (c : Hd w K mg base aI aF aL aC cT pT) : Dl.Def prog w K mg base 1 "common" ["one", "other"] gCommon := by
  have S : FnScope ["one", "other"] ["one", "other"] (defScope s_common) := C8.fnScope_by (by kernel_rfl)
  have hN := S.nd
  refine def_ok c.f_common S (fun _ _ _ _ _ _ us hl => match us, hl with | [_, _], _ => rfl) (fun ds O R h => ?_) fun f cdv A outer s H E hr => ⟨_, have hu := room64 hr; have hu5 := room65 hr; have hu1 := room1 hr; (s_cons (s_par2 0 1 rfl hN (a_cons (d_callB c_abs c.m_abs bt_abs (a_cons (dv 0) a_nil)) (a_cons (d_callB c_abs c.m_abs bt_abs (a_cons (dv 1) a_nil)) a_nil)))
  (s_cons (s_while PassesOwn.never (t_cmp (o_ne hu) (dv 1) d_int) (s_one (s_par2 0 1 rfl hN (a_cons (dv 1) (a_cons (d_op o_mod (dv 0) (d_callTy c_int c.m_int bt_int (a_cons (dv 1) a_nil))) a_nil)))))
  (s_one (s_ret (dv 0))))), fun ds O R h => ?_⟩
  · unfold gCommon at h
    split at h <;> first | rfl | exact h.elim
  · unfold gCommon at h
    split at h
    · rename_i a b
      refine while_ind (fun m env O' => ∃ x y : Nat, y ≤ m ∧ env = [some (D.int x), some (D.int y)] ∧ O' = O ∧ R (.int (Nat.gcd y x)) O) (fun m env O' N h1 k => ?_) (m := b.natAbs) ⟨a.natAbs, b.natAbs, Nat.le_refl _, ?_, rfl, ?_⟩
      · obtain ⟨x, y, hy, rfl, rfl, h⟩ := h1
        refine iteB_i (c := !decide ((y : Int) = 0)) (fun e => ?_) (fun e => ?_)
        · have e : ¬ (y : Int) = 0 := by simpa using e
          refine ⟨by omega, ?_⟩
          have hlt : x % y < y := Nat.mod_lt _ (by omega)
          refine k (x % y) _ _ (by omega) ⟨y, x % y, Nat.le_refl _, ?_, rfl, ?_⟩
          · have e2 : (x : Int) % (y : Int) = ((x % y : Nat) : Int) := by omega
            rw [← e2]
            rfl
          · rw [← Nat.gcd_rec]
            exact h
        · obtain rfl : y = 0 := by
            have : (y : Int) = 0 := by simpa using e
            omega
          refine Fin.i ?_
          rw [Nat.gcd_zero_left] at h
          exact h
      · show [some (D.int (if a < 0 then -a else a)), some (D.int (if b < 0 then -b else b))] = _
        rw [absI, absI]
      · rw [Nat.gcd_comm]
        exact h
    · exact h.elim
/-- a fraction in least terms, the bottom above 0 -/
def mk (t b : Int) : Fr := if b < 0 then (-t / (Int.gcd t b : Int), -b / (Int.gcd t b : Int)) else (t / (Int.gcd t b : Int), b / (Int.gcd t b : Int))
def gMade : GC := fun ds O Q => match ds with
  | [.int t, .int b] => (b ≠ 0 ∧ Sm b) ∧ Q (frD (mk t b)) O
  | _ => False
theorem gcd_pos {t b : Int} (h : b ≠ 0) : (0 : Int) < (Int.gcd t b : Int) := by
  have := Int.gcd_pos_of_ne_zero_right t h
  omega
theorem gcd_sm {t b : Int} (h0 : b ≠ 0) (h : Sm b) : Sm (Int.gcd t b : Int) := by
  refine sm_le ?_ h
  have h1 : Int.gcd t b ∣ b.natAbs := Int.gcd_dvd_natAbs_right t b
  have h2 := Nat.le_of_dvd (by omega) h1
  omega
theorem k_made (c : Hd w K mg base aI aF aL aC cT pT) : Dl.Def prog w K mg base 2 "made" ["top", "bottom"] gMade := by
  have k_common := k_common c
  have S : FnScope ["top", "bottom", "divisor"] ["top", "bottom"] (defScope s_made) := C8.fnScope_by (by kernel_rfl)
  have hN := S.nd
  refine def_ok c.f_made S (fun _ _ _ _ _ _ us hl => match us, hl with | [_, _], _ => rfl) (fun ds O R h => ?_) fun f cdv A outer s H E hr => ⟨_, have hu := room64 hr; have hu5 := room65 hr; have hu1 := room1 hr; (s_cons (s_if (t_cmp o_lt (dv 1) d_int)
  (s_one (s_par2 0 1 rfl hN (a_cons (d_op o_sub d_int (dv 0)) (a_cons (d_op o_sub d_int (dv 1)) a_nil))))
  s_nil)
  (s_cons (s_set 2 hN (d_call k_common hr (by decide) (a_cons (dv 0) (a_cons (dv 1) a_nil))))
  (s_one (s_ret (d_tup (a_cons (d_op o_fdiv (dv 0) (dv 2)) (a_cons (d_op o_fdiv (dv 1) (dv 2)) a_nil))))))), fun ds O R h => ?_⟩
  · unfold gMade at h
    split at h <;> first | rfl | exact h.elim
  · unfold gMade at h
    split at h
    · rename_i t b
      obtain ⟨⟨h0, hs⟩, h⟩ := h
      refine iteB_i (c := decide (b < 0)) (fun e => ?_) (fun e => ?_)
      · have e : b < 0 := of_decide_eq_true e
        have eg : Int.gcd (0 - t) (0 - b) = Int.gcd t b := by rw [Int.zero_sub, Int.zero_sub, Int.gcd_neg, Int.neg_gcd]
        have h1 : CDivW t (Int.gcd (0 - t) (0 - b) : Int) := sm_div (by rw [eg]; exact gcd_pos h0) (by rw [eg]; exact gcd_sm h0 hs)
        refine ⟨h1, h1, Fin.i ?_⟩
        show R (.tup [.int ((0 - t) / (Int.gcd (0 - t) (0 - b) : Int)), .int ((0 - b) / (Int.gcd (0 - t) (0 - b) : Int))]) O
        unfold mk at h
        rw [if_pos e] at h
        rw [eg, Int.zero_sub, Int.zero_sub]
        exact h
      · have e : ¬ b < 0 := of_decide_eq_false e
        refine ⟨sm_div (gcd_pos h0) (gcd_sm h0 hs), ⟨sm_div (gcd_pos h0) (gcd_sm h0 hs), Fin.i ?_⟩⟩
        unfold mk at h
        rw [if_neg e] at h
        exact h
    · exact h.elim
def under (p q : Fr) : Bool := decide (p.1 * q.2 < q.1 * p.2)
def gUnder : GC := fun ds O Q => match ds with
  | [.tup [.int a, .int b], .tup [.int x, .int y]] => ((Sm a ∧ Sm b) ∧ (Sm x ∧ Sm y)) ∧ Q (.bl (under (a, b) (x, y))) O
  | _ => False
theorem k_is_under (c : Hd w K mg base aI aF aL aC cT pT) : Dl.Def prog w K mg base 1 "is_under" ["one", "other"] gUnder := by
  have S : FnScope ["one", "other"] ["one", "other"] (defScope s_is_under) := C8.fnScope_by (by kernel_rfl)
  have hN := S.nd
  refine def_ok c.f_is_under S (fun _ _ _ _ _ _ us hl => match us, hl with | [_, _], _ => rfl) (fun ds O R h => ?_) fun f cdv A outer s H E hr => ⟨_, have hu := room64 hr; have hu5 := room65 hr; have hu1 := room1 hr; (s_one (s_ret (d_cmp o_lt (d_op o_mul (d_ix (dv 0) d_int) (d_ix (dv 1) d_int)) (d_op o_mul (d_ix (dv 1) d_int) (d_ix (dv 0) d_int))))), fun ds O R h => ?_⟩
  · unfold gUnder at h
    split at h <;> first | rfl | exact h.elim
  · unfold gUnder at h
    split at h
    · obtain ⟨⟨⟨h1, h2⟩, ⟨h3, h4⟩⟩, h⟩ := h
      exact ⟨sm_mul h1 h4, sm_mul h3 h2, Fin.i h⟩
    · exact h.elim
def btw (i lo hi : Int) : Bool := decide (lo ≤ i) && decide (i ≤ hi)
def gBetween : GC := fun ds O Q => match ds with
  | [.int i, .int lo, .int hi] => Q (.bl (btw i lo hi)) O
  | _ => False
theorem k_is_between (c : Hd w K mg base aI aF aL aC cT pT) : Dl.Def prog w K mg base 2 "is_between" ["thing", "least", "most"] gBetween := by
  have k_is_integer := k_is_integer c
  have S : FnScope ["thing", "least", "most"] ["thing", "least", "most"] (defScope s_is_between) := C8.fnScope_by (by kernel_rfl)
  have hN := S.nd
  refine def_ok c.f_is_between S (fun _ _ _ _ _ _ us hl => match us, hl with | [_, _, _], _ => rfl) (fun ds O R h => ?_) fun f cdv A outer s H E hr => ⟨_, have hu := room64 hr; have hu5 := room65 hr; have hu1 := room1 hr; (s_one (s_ret (d_and (d_call k_is_integer hr (by decide) (a_cons (dv 0) a_nil)) (d_one (d_chain o_le o_le (dv 1) (dv 0) (dv 2)))))), fun ds O R h => ?_⟩
  · unfold gBetween at h
    split at h <;> first | rfl | exact h.elim
  · unfold gBetween at h
    split at h
    · rename_i i lo hi
      show (match (D.bl (decide (lo ≤ i))) with
        | .bl true => Fin R (.bl (decide (i ≤ hi))) O
        | .bl false => Fin R (.bl false) O
        | _ => False)
      unfold btw at h
      cases e : decide (lo ≤ i) with
      | true =>
        rw [e, Bool.true_and] at h
        exact Fin.i h
      | false =>
        rw [e, Bool.false_and] at h
        exact Fin.i h
    · exact h.elim
def rises : List Int → Bool
  | a :: b :: r => decide (a < b) && rises (b :: r)
  | _ => true
def gRising : GC := fun ds O Q => match ds with
  | [.tup xs] => ∃ ns, xs = ns.map D.int ∧ Q (.bl (rises ns)) O
  | _ => False
theorem rises_zip (ns : List Int) : ((ns.zip (ns.drop 1)).all fun p => decide (p.1 < p.2)) = rises ns := by
  induction ns with
  | nil => rfl
  | cons a r ih =>
    cases r with
    | nil => rfl
    | cons b r =>
      have ih : (((b :: r).zip r).all fun p => decide (p.1 < p.2)) = rises (b :: r) := ih
      show (decide (a < b) && (((b :: r).zip r).all fun p => decide (p.1 < p.2))) = (decide (a < b) && rises (b :: r))
      rw [ih]
theorem k_are_rising (c : Hd w K mg base aI aF aL aC cT pT) : Dl.Def prog w K mg base 1 "are_rising" ["some"] gRising := by
  have S : FnScope ["some", "one", "other"] ["some"] (defScope s_are_rising) := C8.fnScope_by (by kernel_rfl)
  have hN := S.nd
  refine def_ok c.f_are_rising S (fun _ _ _ _ _ _ us hl => match us, hl with | [_], _ => rfl) (fun ds O R h => ?_) fun f cdv A outer s H E hr => ⟨_, have hu := room64 hr; have hu5 := room65 hr; have hu1 := room1 hr; (s_one (s_ret (d_callB (c_all rfl) c.m_all bt_all (a_cons (d_lc rfl hN (i_zip c.m_zip (a_cons (dv 0) (a_cons (d_sl (dv 0) (p_at d_int) p_no) a_nil))) (blkOk_by (own := [("one", 1), ("other", 2)]) (by kernel_rfl)) (fun _ _ _ _ _ => (g_tup (n := 2) rfl (gs_cons (g_name 1 hN) (gs_cons (g_name 2 hN) gs_nil)))) (fun _ _ _ _ _ => ts_nil) (fun _ _ _ _ _ => (d_cmp o_lt (dv 1) (dv 2)))) a_nil)))), fun ds O R h => ?_⟩
  · unfold gRising at h
    split at h <;> first | rfl | exact h.elim
  · unfold gRising at h
    split at h
    · obtain ⟨ns, rfl, h⟩ := h
      show lcD _ _ _ _ (zipD (ns.map D.int) (Dl.cutD (ns.map D.int) (some 1) none)) [] O _
      have e : zipD (ns.map D.int) (Dl.cutD (ns.map D.int) (some ((1 : Nat) : Int)) none) = (ns.zip (ns.drop 1)).map fun p => .tup [.int p.1, .int p.2] := by
        rw [cut_from, ← List.map_drop, zip_map]
      rw [show (some (1 : Int)) = some ((1 : Nat) : Int) from rfl, e]
      refine lcD_map _ _ (fun p => .bl (decide (p.1 < p.2))) (fun p _ K1 k => k) ?_
      refine gAll_map _ _ (Fin.i ?_)
      rw [rises_zip]
      exact h
    · exact h.elim
end
end Ri

set_option maxRecDepth 100000
set_option maxHeartbeats 2000000
/-! THE DEFS, 2: fields, what stands above. -/
namespace Ri
open PySem PySem.Spec PyProof.Rows L2 Dl
structure Fd where
  n : Nat
  ties : List (Nat × Nat)
  seen : List Fr
def prD (p : Nat × Nat) : D := .tup [.int (p.1 : Int), .int (p.2 : Int)]
def fdD (f : Fd) : D := .tup [.int (f.n : Int), .tup (f.ties.map prD), .tup (f.seen.map frD)]
/-- the field keeps: ties among its things, each once, closed; values within the bounds -/
structure FdOk (f : Fd) : Prop where
  n6 : f.n ≤ 6
  len : f.seen.length = f.n
  lt : ∀ p ∈ f.ties, p.1 < f.n ∧ p.2 < f.n
  nd : f.ties.Nodup
  tr : ∀ a b c, (a, b) ∈ f.ties → (b, c) ∈ f.ties → (a, c) ∈ f.ties
  ir : ∀ a, (a, a) ∉ f.ties
  bd : ∀ p ∈ f.seen, -1000 ≤ p.1 ∧ p.1 ≤ 1000 ∧ 1 ≤ p.2 ∧ p.2 ≤ 1000
/-- what is right above i, in the order of the ties -/
def outs (f : Fd) (i : Nat) : List Nat := (f.ties.filter fun p => decide (p.1 = i)).map (·.2)
def upsI (f : Fd) (i : Nat) : List Int := isort ((outs f i).map fun (j : Nat) => (j : Int))
theorem mem_outs {f : Fd} {i j : Nat} : j ∈ outs f i ↔ (i, j) ∈ f.ties := by
  unfold outs
  constructor
  · intro h
    obtain ⟨⟨a, b⟩, h1, h2⟩ := List.mem_map.mp h
    obtain ⟨h3, h4⟩ := List.mem_filter.mp h1
    have h4 : a = i := of_decide_eq_true h4
    have h2 : b = j := h2
    subst h4 h2
    exact h3
  · intro h
    exact List.mem_map.mpr ⟨(i, j), List.mem_filter.mpr ⟨h, decide_eq_true rfl⟩, rfl⟩
theorem mem_upsI {f : Fd} {i : Nat} {x : Int} : x ∈ upsI f i ↔ ∃ j : Nat, x = (j : Int) ∧ (i, j) ∈ f.ties := by
  unfold upsI
  rw [(isort_perm _).mem_iff]
  constructor
  · intro h
    obtain ⟨j, h1, h2⟩ := List.mem_map.mp h
    exact ⟨j, h2.symm, mem_outs.mp h1⟩
  · rintro ⟨j, rfl, h⟩
    exact List.mem_map.mpr ⟨j, mem_outs.mpr h, rfl⟩
theorem outs_nodup {f : Fd} (h : FdOk f) (i : Nat) : (outs f i).Nodup := by
  unfold outs
  have h1 := h.nd.filter fun p => decide (p.1 = i)
  refine List.pairwise_map.mpr (h1.imp_of_mem ?_)
  intro a b ha hb hne e
  have h1 : a.1 = i := of_decide_eq_true (List.mem_filter.mp ha).2
  have h2 : b.1 = i := of_decide_eq_true (List.mem_filter.mp hb).2
  exact hne (Prod.ext (h1.trans h2.symm) e)
section
variable {w : World} {K : PySem.W.Frag} {mg : Str → Option Value} {base : Heap} {aI aF aL aC cT pT : Addr}
def seenB (p : Fr) : Bool := btw p.1 (-1000) 1000 && btw p.2 1 1000
def gSeen : GC := fun ds O Q => match ds with
  | [.tup [.int a, .int b]] => Q (.bl (seenB (a, b))) O
  | _ => False
theorem k_is_seen (c : Hd w K mg base aI aF aL aC cT pT) : Dl.Def prog w K mg base 3 "is_seen" ["thing"] gSeen := by
  have k_is_between := k_is_between c
  have S : FnScope ["thing"] ["thing"] (defScope s_is_seen) := C8.fnScope_by (by kernel_rfl)
  have hN := S.nd
  refine def_ok c.f_is_seen S (fun _ _ _ _ _ _ us hl => match us, hl with | [_], _ => rfl) (fun ds O R h => ?_) fun f cdv A outer s H E hr => ⟨_, have hu := room64 hr; have hu5 := room65 hr; have hu1 := room1 hr; (s_cons (s_if (t_w (w_or (t_not (t_val (d_isi (dv 0) c.m_isinstance c.m_tuple bt_tuple))) (w_or1 (t_cmp (o_ne hu) (d_callB c_len c.m_len bt_len (a_cons (dv 0) a_nil)) d_int))))
  (s_one (s_ret d_bl))
  s_nil)
  (s_one (s_ret (d_and (d_call k_is_between hr (by decide) (a_cons (d_ix (dv 0) d_int) (a_cons (d_op o_sub d_int (d_gl (c.g_MOST_WORTH.d rfl rfl))) (a_cons (d_gl (c.g_MOST_WORTH.d rfl rfl)) a_nil)))) (d_one (d_call k_is_between hr (by decide) (a_cons (d_ix (dv 0) d_int) (a_cons d_int (a_cons (d_gl (c.g_MOST_WEIGHT.d rfl rfl)) a_nil))))))))), fun ds O R h => ?_⟩
  · unfold gSeen at h
    split at h <;> first | rfl | exact h.elim
  · unfold gSeen at h
    split at h
    · rename_i a b
      show (match (D.bl (btw a (-1000) 1000)) with
        | .bl true => Fin R (.bl (btw b 1 1000)) O
        | .bl false => Fin R (.bl false) O
        | _ => False)
      unfold seenB at h
      cases e : btw a (-1000) 1000 with
      | true =>
        simp only [e, Bool.true_and] at h
        exact Fin.i h
      | false =>
        simp only [e, Bool.false_and] at h
        exact Fin.i h
    · exact h.elim
theorem sub_upd {O0 O : DO} {p : Addr} {c : Cell} (h0 : O0 p = none) (s : Sub O0 O) : Sub O0 (updO O p c) := fun a c' e => by
  have q : a ≠ p := fun z => by rw [z, h0] at e; cases e
  rw [updO_ne q]
  exact s a c' e
theorem okDs_nats (l : List Nat) : okDs 59 (l.map fun (j : Nat) => D.int (j : Int)) = true := by
  have e : (l.map fun (j : Nat) => D.int (j : Int)) = (l.map fun (j : Nat) => (j : Int)).map D.int := by rw [List.map_map]; rfl
  rw [e]
  exact okDs_ints _
def kvT (l : List Nat) : KVs := l.map fun (j : Nat) => (Sum.inl (j : Int), D.bl true)
theorem lookK_kvT (l : List Nat) (b : Nat) : (lookK (kvT l) (Sum.inl (b : Int) : Key)).isSome = decide (b ∈ l) := by
  induction l with
  | nil => rfl
  | cons x l ih =>
    show (if (Sum.inl (x : Int) : Key) = Sum.inl (b : Int) then some (D.bl true) else lookK (kvT l) (Sum.inl (b : Int))).isSome = _
    by_cases h : x = b
    · subst h
      rw [if_pos rfl]
      simp
    · rw [if_neg (fun e => h (by have := Sum.inl.inj e; omega)), ih]
      have h2 : ¬ b = x := fun e => h e.symm
      simp [h2]
theorem put_kvT (l : List Nat) (b : Nat) (h : b ∉ l) : putKD (kvT l) (Sum.inl (b : Int) : Key) (D.bl true) = kvT (l ++ [b]) := by
  unfold putKD
  rw [if_neg]
  · unfold kvT
    rw [List.map_append]
    rfl
  · intro e
    obtain ⟨x, h1, h2⟩ := List.any_eq_true.mp e
    obtain ⟨y, h3, h4⟩ := List.mem_map.mp h1
    subst h4
    have h5 := Sum.inl.inj (of_decide_eq_true h2)
    have h6 : y = b := by have : (y : Int) = (b : Int) := h5; omega
    exact h (h6 ▸ h3)
theorem keysI_kvT (l : List Nat) : keysI (kvT l) = some (l.map fun (j : Nat) => (j : Int)) := by
  induction l with
  | nil => rfl
  | cons x l ih =>
    show (keysI (kvT l)).map ((x : Int) :: ·) = _
    rw [ih]
    rfl
/-- the ups so far -/
def pre (i : Nat) (l : List (Nat × Nat)) : List Nat := (l.filter fun p => decide (p.1 = i)).map (·.2)
theorem pre_snoc (i : Nat) (l : List (Nat × Nat)) (p : Nat × Nat) : pre i (l ++ [p]) = if p.1 = i then pre i l ++ [p.2] else pre i l := by
  unfold pre
  rw [List.filter_append, List.map_append]
  by_cases h : p.1 = i
  · rw [if_pos h]
    simp [h]
  · rw [if_neg h]
    simp [h]
def natD (l : List Nat) : List D := l.map fun (j : Nat) => D.int (j : Int)
theorem natD_snoc (l : List Nat) (b : Nat) : natD l ++ [D.int (b : Int)] = natD (l ++ [b]) := by
  unfold natD
  rw [List.map_append]
  rfl
theorem length_outs {f : Fd} (h : FdOk f) (i : Nat) : (outs f i).length ≤ f.n := by
  have h1 := (outs_nodup h i).length_le_of_subset (l₂ := List.range f.n) fun j hj => List.mem_range.mpr (h.lt _ (mem_outs.mp hj)).2
  rw [List.length_range] at h1
  exact h1
def upsD (f : Fd) : D := .lst ((List.range f.n).map fun i => .lst ((upsI f i).map .int))
def gUpsBy : GC := fun ds O Q => match ds with
  | [.int n, .tup ts] => ∃ f : Fd, FdOk f ∧ n = (f.n : Int) ∧ ts = f.ties.map prD ∧ Q (upsD f) O
  | _ => False
theorem k_ups_by (c : Hd w K mg base aI aF aL aC cT pT) : Dl.Def prog w K mg base 1 "ups_by" ["size", "ties"] gUpsBy := by
  have S : FnScope ["size", "ties", "found", "one", "known", "waiting", "here", "near", "far"] ["size", "ties"] (defScope s_ups_by) := C8.fnScope_by (by kernel_rfl)
  have hN := S.nd
  refine def_ok c.f_ups_by S (fun _ _ _ _ _ _ us hl => match us, hl with | [_, _], _ => rfl) (fun ds O R h => ?_) fun f cdv A outer s H E hr => ⟨_, have hu := room64 hr; have hu5 := room65 hr; have hu1 := room1 hr; (s_cons (s_set 2 hN (d_lstO a_nil))
  (s_cons (s_for PassesOwn.never rfl (i_rng c.m_range (a_cons (dv 0) a_nil)) (g_name 3 hN) (s_cons (s_par2 4 5 rfl hN (a_cons d_dictO (a_cons (d_lstO (a_cons (dv 3) a_nil)) a_nil)))
  (s_cons (s_while PassesOwn.never (t_cmp (o_ne hu) (dv 5) (d_lst a_nil)) (s_cons (s_set 6 hN (d_pop (dv 5)))
  (s_one (s_for PassesOwn.never rfl (i_seq (dv 1)) (g_tup (n := 2) rfl (gs_cons (g_name 7 hN) (gs_cons (g_name 8 hN) gs_nil))) (s_one (s_if (t_w (w_and (t_cmp (o_eq hu) (dv 7) (dv 6)) (w_and1 (t_dnotin hu1 (dv 8) (dv 4)))))
  (s_cons (s_dput hu1 d_bl (dv 4) (dv 8))
  (s_one (s_expr (d_app (dv 5) (a_cons (dv 8) a_nil)))))
  s_nil))))))
  (s_one (s_expr (d_app (dv 2) (a_cons (d_callB (c_sortD rfl) c.m_sorted bt_sorted (a_cons (dv 4) a_nil)) a_nil)))))))
  (s_one (s_ret (d_fz (dv 2)))))), fun ds O R h => ?_⟩
  · unfold gUpsBy at h
    split at h <;> first | rfl | exact h.elim
  · unfold gUpsBy at h
    split at h
    rotate_left
    · exact h.elim
    obtain ⟨fd, ok, rfl, rfl, h⟩ := h
    have n6 := ok.n6
    refine needB_i rfl fun p0 hp0 => ?_
    refine needB_i (rngOk_nat (by omega)) ?_
    rw [rng_map]
    refine for_ind (fun rem env O' => ∃ i, i ≤ fd.n ∧ rem = ((List.range fd.n).drop i).map (fun (j : Nat) => D.int (j : Int)) ∧ (∃ x3 x4 x5 x6 x7 x8, env = [some (.int (fd.n : Int)), some (.tup (fd.ties.map prD)), some (.ptr p0), x3, x4, x5, x6, x7, x8]) ∧ O' p0 = some (.lst ((List.range i).map fun i => .lst ((upsI fd i).map .int))) ∧ Sub O O')
      (fun d r env O' N h1 k => ?_) (fun env O' h1 => ?_) ⟨0, Nat.zero_le _, by rw [List.drop_zero], ⟨_, _, _, _, _, _, rfl⟩, updO_same, sub_upd hp0 (Sub.refl O)⟩
    rotate_left
    · obtain ⟨i, hi, hr, ⟨x3, x4, x5, x6, x7, x8, rfl⟩, hO, hS⟩ := h1
      have e : i = fd.n := by
        have := congrArg List.length hr
        rw [List.length_map, List.length_drop, List.length_range] at this
        simp at this
        omega
      subst e
      dsimp only [tdRet]
      exact fz_v rfl hO ⟨O, Sub.off hp0 hS, h⟩
    · obtain ⟨i, hi, hr, ⟨x3, x4, x5, x6, x7, x8, rfl⟩, hO, hS⟩ := h1
      have hlt : i < fd.n := by
        by_cases q : i < fd.n
        · exact q
        · rw [List.drop_eq_nil_of_le (by rw [List.length_range]; omega)] at hr
          cases hr
      rw [List.drop_eq_getElem_cons (by rw [List.length_range]; exact hlt), List.map_cons, List.getElem_range] at hr
      injection hr with e1 e2
      subst e1 e2
      refine fun p1 hp1 => needB_i rfl fun p2 hp2 => ?_
      have n10 : p1 ≠ p0 := fun z => by rw [z, hO] at hp1; cases hp1
      have n21 : p2 ≠ p1 := fun z => by rw [z, updO_same] at hp2; cases hp2
      have n20 : p2 ≠ p0 := fun z => by rw [z, updO_ne (Ne.symm n10), hO] at hp2; cases hp2
      rw [updO_ne n21] at hp2
      have o1 : O p1 = none := by
        cases e : O p1 with
        | none => rfl
        | some c => rw [hS p1 c e] at hp1; cases hp1
      have o2 : O p2 = none := by
        cases e : O p2 with
        | none => rfl
        | some c => rw [hS p2 c e] at hp2; cases hp2
      let U := outs fd i
      have nU := outs_nodup ok i
      have lU := length_outs ok i
      have eU : pre i fd.ties = outs fd i := rfl
      refine while_ind (fun m env O' => (∃ x6 x7 x8, env = [some (.int (fd.n : Int)), some (.tup (fd.ties.map prD)), some (.ptr p0), some (.int (i : Int)), some (.ptr p1), some (.ptr p2), x6, x7, x8]) ∧ O' p0 = some (.lst ((List.range i).map fun i => .lst ((upsI fd i).map .int))) ∧ Sub O O' ∧
          ((m = (outs fd i).length + 1 ∧ O' p1 = some (.dK []) ∧ O' p2 = some (.lst [.int (i : Int)])) ∨ (m ≤ (outs fd i).length ∧ O' p1 = some (.dK (kvT (outs fd i))) ∧ O' p2 = some (.lst (natD ((outs fd i).take m))))))
        (fun m env O' N' h1 k' => ?_) (m := (outs fd i).length + 1) ⟨⟨_, _, _, rfl⟩, ?_, ?_, .inl ⟨rfl, ?_, ?_⟩⟩
      rotate_left
      · rw [updO_ne (Ne.symm n20), updO_ne (Ne.symm n10)]
        exact hO
      · exact sub_upd o2 (sub_upd o1 hS)
      · rw [updO_ne (Ne.symm n21), updO_same]
      · rw [updO_same]
      obtain ⟨⟨x6, x7, x8, rfl⟩, hO', hS', hc⟩ := h1
      rcases hc with ⟨rfl, hk, hw⟩ | ⟨hm, hk, hw⟩
      · refine ne_nil_v rfl hw rfl ?_
        refine iteB_t rfl ?_
        dsimp only [tdSeq, tdAsg]
        refine pop_v (i := 5) (xs := []) rfl hw ?_
        refine for_ind (fun rem env O2 => ∃ dn rest, fd.ties = dn ++ rest ∧ rem = rest.map prD ∧ (∃ x7 x8, env = [some (.int (fd.n : Int)), some (.tup (fd.ties.map prD)), some (.ptr p0), some (.int (i : Int)), some (.ptr p1), some (.ptr p2), some (.int (i : Int)), x7, x8]) ∧ O2 p0 = O' p0 ∧ Sub O O2 ∧ O2 p1 = some (.dK (kvT (pre i dn))) ∧ O2 p2 = some (.lst (natD (pre i dn))))
          (fun d r env O2 N2 h2 k2 => ?_) (fun env O2 h2 => ?_) ⟨[], fd.ties, rfl, rfl, ⟨_, _, rfl⟩, ?_, ?_, ?_, ?_⟩
        · obtain ⟨dn, rest, hd, hr, ⟨x7, x8, rfl⟩, a0, aS, a1, a2⟩ := h2
          cases rest with
          | nil => cases hr
          | cons q rest =>
            rw [List.map_cons] at hr
            injection hr with e1 e2
            subst e1 e2
            obtain ⟨qa, qb⟩ := q
            refine needB_i rfl ?_
            have hd2 : fd.ties = (dn ++ [(qa, qb)]) ++ rest := by rw [hd, List.append_assoc]; rfl
            have hsm : (pre i dn).length ≤ 6 := by
              have h1 : (pre i dn).length ≤ (pre i fd.ties).length := by
                rw [hd]
                unfold pre
                rw [List.filter_append, List.map_append, List.length_append]
                omega
              rw [eU] at h1
              omega
            refine iteB_i (c := decide ((qa : Int) = (i : Int))) (fun e => ?_) (fun e => ?_)
            · have e : qa = i := by have := of_decide_eq_true e; omega
              have hnin : qb ∉ pre i dn := fun hin => by
                obtain ⟨⟨za, zb⟩, h3, h4⟩ := List.mem_map.mp hin
                obtain ⟨h5, h6⟩ := List.mem_filter.mp h3
                have h6 : za = i := of_decide_eq_true h6
                have h4 : zb = qb := h4
                have nd := ok.nd
                rw [hd] at nd
                exact (List.nodup_append.mp nd).2.2 _ h5 _ List.mem_cons_self (by rw [h6, h4, e])
              refine dnotin_v (i := 4) (j := 8) rfl rfl rfl a1 ?_
              rw [lookK_kvT, decide_eq_false hnin]
              refine iteB_t rfl ?_
              refine dput_v (i := 4) (j := 8) rfl rfl rfl a1 (by unfold kvT; rw [List.length_map]; omega) ?_
              rw [put_kvT _ _ hnin]
              dsimp only [tdExpr]
              refine app_v (i := 5) (p := p2) (xs := natD (pre i dn)) rfl (by rw [updO_ne n21]; exact a2) ?_
              refine ⟨natD (pre i dn), by rw [updO_ne n21]; exact a2, by unfold natD; rw [List.length_map]; omega, ?_⟩
              rw [natD_snoc]
              have ep : pre i (dn ++ [(qa, qb)]) = pre i dn ++ [qb] := by rw [pre_snoc]; exact if_pos e
              refine k2 _ _ ⟨dn ++ [(qa, qb)], rest, hd2, rfl, ⟨_, _, rfl⟩, ?_, ?_, ?_, ?_⟩
              · rw [updO_ne (Ne.symm n20), updO_ne (Ne.symm n10)]
                exact a0
              · exact sub_upd o2 (sub_upd o1 aS)
              · rw [updO_ne (Ne.symm n21), updO_same, ep]
              · rw [updO_same, ep]
            · have e : ¬ qa = i := fun z => (of_decide_eq_false e) (by rw [z])
              have ep : pre i (dn ++ [(qa, qb)]) = pre i dn := by rw [pre_snoc]; exact if_neg e
              refine iteB_f (c := false) rfl (k2 _ _ ⟨dn ++ [(qa, qb)], rest, hd2, rfl, ⟨_, _, rfl⟩, a0, aS, by rw [ep]; exact a1, by rw [ep]; exact a2⟩)
        · obtain ⟨dn, rest, hd, hr, ⟨x7, x8, rfl⟩, a0, aS, a1, a2⟩ := h2
          have e : rest = [] := List.map_eq_nil_iff.mp hr.symm
          subst e
          rw [List.append_nil] at hd
          refine k' (outs fd i).length _ _ (by omega) ⟨⟨_, _, _, rfl⟩, ?_, aS, .inr ⟨Nat.le_refl _, ?_, ?_⟩⟩
          · rw [a0]
            exact hO'
          · rw [a1, ← hd]
            rfl
          · rw [a2, ← hd, List.take_length]
            rfl
        · rw [updO_ne (Ne.symm n20)]
        · exact sub_upd o2 hS'
        · rw [updO_ne (Ne.symm n21), hk]
          rfl
        · rw [updO_same]
          rfl
      · refine ne_nil_v rfl hw (okDs_nats _) ?_
        cases m with
        | zero =>
          refine iteB_f (c := !(natD (List.take 0 (outs fd i))).isEmpty) rfl ?_
          dsimp only [tdExpr]
          refine app_v (i := 2) rfl hO' ?_
          refine call1_v (i := 4) rfl ?_
          refine sortD_v (p := p1) hk (keysI_kvT _) (by rw [List.length_map]; omega) ?_
          refine ⟨_, hO', by rw [List.length_map, List.length_range]; omega, ?_⟩
          refine k _ _ ⟨i + 1, hlt, rfl, ⟨_, _, _, _, _, _, rfl⟩, ?_, ?_⟩
          · rw [updO_same, List.range_succ, List.map_append]
            rfl
          · exact sub_upd hp0 hS'
        | succ m =>
          have hm2 : m < (outs fd i).length := by omega
          have et : (outs fd i).take (m + 1) = (outs fd i).take m ++ [(outs fd i)[m]] := by rw [List.take_add_one, List.getElem?_eq_getElem hm2]; rfl
          rw [et, ← natD_snoc] at hw
          refine iteB_t (c := !(natD ((outs fd i).take (m + 1))).isEmpty) (by rw [et, ← natD_snoc]; simp) ?_
          dsimp only [tdSeq, tdAsg]
          refine pop_v (i := 5) rfl hw ?_
          have hj : (i, (outs fd i)[m]) ∈ fd.ties := mem_outs.mp (List.getElem_mem hm2)
          generalize (outs fd i)[m] = j at hj
          refine for_ind (fun rem env O2 => ∃ rest : List (Nat × Nat), (∀ p ∈ rest, p ∈ fd.ties) ∧ rem = rest.map prD ∧ (∃ x7 x8, env = [some (.int (fd.n : Int)), some (.tup (fd.ties.map prD)), some (.ptr p0), some (.int (i : Int)), some (.ptr p1), some (.ptr p2), some (.int (j : Int)), x7, x8]) ∧ O2 = updO O' p2 (.lst (natD ((outs fd i).take m))))
            (fun d r env O2 N2 h2 k2 => ?_) (fun env O2 h2 => ?_) ⟨fd.ties, fun _ h => h, rfl, ⟨_, _, rfl⟩, rfl⟩
          · obtain ⟨rest, hd, hr, ⟨x7, x8, rfl⟩, rfl⟩ := h2
            cases rest with
            | nil => cases hr
            | cons q rest =>
              rw [List.map_cons] at hr
              injection hr with e1 e2
              subst e1 e2
              obtain ⟨qa, qb⟩ := q
              refine needB_i rfl ?_
              refine iteB_i (c := decide ((qa : Int) = (j : Int))) (fun e => ?_) (fun e => ?_)
              · have e : qa = j := by have := of_decide_eq_true e; omega
                have hin : qb ∈ outs fd i := mem_outs.mpr (ok.tr _ _ _ hj (e ▸ hd _ List.mem_cons_self))
                refine dnotin_v (i := 4) (j := 8) rfl rfl rfl (by rw [updO_ne (Ne.symm n21)]; exact hk) ?_
                rw [lookK_kvT, decide_eq_true hin]
                exact iteB_f (c := !true) rfl (k2 _ _ ⟨rest, fun p hp => hd p (List.mem_cons_of_mem _ hp), rfl, ⟨_, _, rfl⟩, rfl⟩)
              · exact iteB_f (c := false) rfl (k2 _ _ ⟨rest, fun p hp => hd p (List.mem_cons_of_mem _ hp), rfl, ⟨_, _, rfl⟩, rfl⟩)
          · obtain ⟨rest, hd, hr, ⟨x7, x8, rfl⟩, rfl⟩ := h2
            refine k' m _ _ (Nat.lt_succ_self m) ⟨⟨_, _, _, rfl⟩, ?_, sub_upd o2 hS', .inr ⟨by omega, ?_, ?_⟩⟩
            · rw [updO_ne (Ne.symm n20)]
              exact hO'
            · rw [updO_ne (Ne.symm n21)]
              exact hk
            · rw [updO_same]
end
end Ri

set_option maxRecDepth 100000
set_option maxHeartbeats 2000000
/-! THE DEFS, 3: lots, means. -/
namespace Ri
open PySem PySem.Spec PyProof.Rows L2 Dl
def toI (l : List Nat) : List Int := l.map fun (j : Nat) => (j : Int)
theorem natD_toI (l : List Nat) : natD l = (toI l).map D.int := by
  unfold natD toI
  rw [List.map_map]
  rfl
theorem tupI_toI (l : List Nat) : tupI (toI l) = .tup (natD l) := by
  rw [natD_toI]
  rfl
theorem mem_toI {j : Nat} {l : List Nat} : (j : Int) ∈ toI l ↔ j ∈ l := by
  unfold toI
  constructor
  · intro h
    obtain ⟨k, h1, h2⟩ := List.mem_map.mp h
    have : k = j := by omega
    exact this ▸ h1
  · intro h
    exact List.mem_map.mpr ⟨j, h, rfl⟩
section
variable {w : World} {K : PySem.W.Frag} {mg : Str → Option Value} {base : Heap} {aI aF aL aC cT pT : Addr}
def lotB (f : Fd) (ns : List Int) : Bool := (ns.all fun i => btw i 0 ((f.n : Int) - 1)) && rises ns
def gLotOf : GC := fun ds O Q => match ds with
  | [fd, .tup xs] => ∃ f ns, fd = fdD f ∧ xs = ns.map D.int ∧ Q (.bl (lotB f ns)) O
  | _ => False
theorem k_is_lot_of (c : Hd w K mg base aI aF aL aC cT pT) : Dl.Def prog w K mg base 3 "is_lot_of" ["field", "thing"] gLotOf := by
  have k_is_between := k_is_between c
  have k_are_rising := k_are_rising c
  have S : FnScope ["field", "thing", "one"] ["field", "thing"] (defScope s_is_lot_of) := C8.fnScope_by (by kernel_rfl)
  have hN := S.nd
  refine def_ok c.f_is_lot_of S (fun _ _ _ _ _ _ us hl => match us, hl with | [_, _], _ => rfl) (fun ds O R h => ?_) fun f cdv A outer s H E hr => ⟨_, have hu := room64 hr; have hu5 := room65 hr; have hu1 := room1 hr; (s_cons (s_if (t_w (w_or (t_not (t_val (d_isi (dv 1) c.m_isinstance c.m_tuple bt_tuple))) (w_or1 (t_not (t_val (d_callB (c_all rfl) c.m_all bt_all (a_cons (d_lc rfl hN (i_seq (dv 1)) (blkOk_by (own := [("one", 2)]) (by kernel_rfl)) (fun _ _ _ _ _ => (g_name 2 hN)) (fun _ _ _ _ _ => ts_nil) (fun _ _ _ _ _ => (d_call k_is_between hr (by decide) (a_cons (dv 2) (a_cons d_int (a_cons (d_op o_sub (d_ix (dv 0) d_int) d_int) a_nil)))))) a_nil)))))))
  (s_one (s_ret d_bl))
  s_nil)
  (s_one (s_ret (d_call k_are_rising hr (by decide) (a_cons (dv 1) a_nil))))), fun ds O R h => ?_⟩
  · unfold gLotOf at h
    split at h <;> first | rfl | exact h.elim
  · unfold gLotOf at h
    split at h
    · obtain ⟨f, ns, rfl, rfl, h⟩ := h
      refine lcD_map ns D.int (fun i => .bl (btw i 0 ((f.n : Int) - 1))) (fun i _ K1 k => k) ?_
      refine gAll_map _ _ ?_
      unfold lotB at h
      refine iteB_i (c := !(ns.all fun i => btw i 0 ((f.n : Int) - 1))) (fun e => ?_) (fun e => ?_)
      · have e2 : (ns.all fun i => btw i 0 ((f.n : Int) - 1)) = false := by simpa using e
        rw [e2, Bool.false_and] at h
        exact Fin.i h
      · have e2 : (ns.all fun i => btw i 0 ((f.n : Int) - 1)) = true := by simpa using e
        rw [e2, Bool.true_and] at h
        exact ⟨ns, rfl, Fin.i h⟩
    · exact h.elim
def gUpsIn : GC := fun ds O Q => match ds with
  | [fd] => ∃ f, FdOk f ∧ fd = fdD f ∧ Q (upsD f) O
  | _ => False
theorem k_ups_in (c : Hd w K mg base aI aF aL aC cT pT) : Dl.Def prog w K mg base 2 "ups_in" ["field"] gUpsIn := by
  have k_ups_by := k_ups_by c
  have S : FnScope ["field"] ["field"] (defScope s_ups_in) := C8.fnScope_by (by kernel_rfl)
  have hN := S.nd
  refine def_ok c.f_ups_in S (fun _ _ _ _ _ _ us hl => match us, hl with | [_], _ => rfl) (fun ds O R h => ?_) fun f cdv A outer s H E hr => ⟨_, have hu := room64 hr; have hu5 := room65 hr; have hu1 := room1 hr; (s_one (s_ret (d_call k_ups_by hr (by decide) (a_cons (d_ix (dv 0) d_int) (a_cons (d_ix (dv 0) d_int) a_nil))))), fun ds O R h => ?_⟩
  · unfold gUpsIn at h
    split at h <;> first | rfl | exact h.elim
  · unfold gUpsIn at h
    split at h
    · obtain ⟨f, ok, rfl, h⟩ := h
      exact ⟨f, ok, rfl, rfl, Fin.i h⟩
    · exact h.elim
/-- with each thing all that is above it -/
def isUpB (f : Fd) (l : List Nat) : Bool := l.all fun i => (upsI f i).all fun x => decide (x ∈ toI l)
def gIsUp : GC := fun ds O Q => match ds with
  | [us, lot] => ∃ f l, us = upsD f ∧ (lot = .tup (natD l) ∨ lot = .lst (natD l)) ∧ (∀ i ∈ l, i < f.n) ∧ Q (.bl (isUpB f l)) O
  | _ => False
theorem k_is_up_in (c : Hd w K mg base aI aF aL aC cT pT) : Dl.Def prog w K mg base 1 "is_up_in" ["ups", "lot"] gIsUp := by
  have S : FnScope ["ups", "lot", "one", "far"] ["ups", "lot"] (defScope s_is_up_in) := C8.fnScope_by (by kernel_rfl)
  have hN := S.nd
  refine def_ok c.f_is_up_in S (fun _ _ _ _ _ _ us hl => match us, hl with | [_, _], _ => rfl) (fun ds O R h => ?_) fun f cdv A outer s H E hr => ⟨_, have hu := room64 hr; have hu5 := room65 hr; have hu1 := room1 hr; (s_one (s_ret (d_callB (c_all rfl) c.m_all bt_all (a_cons (d_lc rfl hN (i_seq (dv 1)) (blkOk_by (own := [("one", 2)]) (by kernel_rfl)) (fun _ _ _ _ _ => (g_name 2 hN)) (fun _ _ _ _ _ => ts_nil) (fun _ _ _ _ _ => (d_callB (c_all rfl) c.m_all bt_all (a_cons (d_lc rfl hN (i_seq (d_ix (dv 0) (dv 2))) (blkOk_by (own := [("far", 3)]) (by kernel_rfl)) (fun _ _ _ _ _ => (g_name 3 hN)) (fun _ _ _ _ _ => ts_nil) (fun _ _ _ _ _ => (d_cmp (o_in hu5) (dv 3) (dv 1)))) a_nil)))) a_nil)))), fun ds O R h => ?_⟩
  · unfold gIsUp at h
    split at h <;> first | rfl | exact h.elim
  · unfold gIsUp at h
    split at h
    · obtain ⟨f, l, rfl, hl, hv, h⟩ := h
      have key : ∀ lot, (lot = .lst ((toI l).map D.int) ∨ lot = .tup ((toI l).map D.int)) → lcD (gdN 2) tdYes (tdCall gAll (tdCons (tdLc (tiSeq (tdOp gIx (tdV 0) (tdV 2))) (gdN 3) tdYes (tdOp (gIn false) (tdV 3) (tdV 1)) [3]) tdNil)) [some (upsD f), some lot, none, none] (natD l) [] O fun acc O2 => gAll [.lst acc] O2 (Dl.Fin R) := by
        intro lot hlot
        refine lcD_map l (fun (j : Nat) => D.int (j : Int)) (fun i => .bl ((upsI f i).all fun x => decide (x ∈ toI l))) (fun i hi K1 k => ?_) ?_
        · have hi2 : ((List.range f.n).map fun i => D.lst ((upsI f i).map .int))[i]? = some (.lst ((upsI f i).map .int)) := by
            rw [List.getElem?_map, List.getElem?_range (hv i hi)]
            rfl
          refine ix_lst (O := O) hi2 ?_
          refine lcD_map (upsI f i) D.int (fun x => .bl (decide (x ∈ toI l))) (fun x _ K2 k2 => ?_) ?_
          · exact op_vv rfl rfl (in_yes x (toI l) lot hlot k2)
          · exact gAll_map _ _ k
        · exact gAll_map _ _ (Fin.i h)
      rcases hl with rfl | rfl
      · exact key _ (.inr (by rw [natD_toI]))
      · exact key _ (.inl (by rw [natD_toI]))
    · exact h.elim
def seenAt (f : Fd) (i : Nat) : Fr := f.seen.getD i (0, 1)
def topOf (f : Fd) (l : List Nat) : Int := (l.map fun i => (seenAt f i).1 * (seenAt f i).2).sum
def wtOf (f : Fd) (l : List Nat) : Int := (l.map fun i => (seenAt f i).2).sum
def meanF (f : Fd) (l : List Nat) : Fr := mk (topOf f l) (wtOf f l)
theorem seen_get {f : Fd} (ok : FdOk f) {i : Nat} (h : i < f.n) : (f.seen.map frD)[i]? = some (frD (seenAt f i)) ∧ seenAt f i ∈ f.seen := by
  have h2 : i < f.seen.length := by rw [ok.len]; exact h
  unfold seenAt
  rw [List.getElem?_map, List.getD_eq_getElem?_getD, List.getElem?_eq_getElem h2]
  exact ⟨rfl, List.getElem_mem h2⟩
theorem sm1000 {i : Int} (h1 : -1000000 ≤ i) (h2 : i ≤ 1000000) : Sm i := sm_of 20 (by omega) (by decide) (by decide)
theorem wt_bd {f : Fd} (ok : FdOk f) : ∀ (l : List Nat), (∀ i ∈ l, i < f.n) → (l.length : Int) ≤ wtOf f l ∧ wtOf f l ≤ 1000 * l.length
  | [], _ => ⟨Int.le_refl _, Int.le_refl _⟩
  | i :: l, h => by
    have ih := wt_bd ok l fun j hj => h j (List.mem_cons_of_mem _ hj)
    have b := ok.bd _ (seen_get ok (h i List.mem_cons_self)).2
    have e : wtOf f (i :: l) = (seenAt f i).2 + wtOf f l := by
      unfold wtOf
      rw [List.map_cons, List.sum_cons]
    rw [e, List.length_cons]
    omega
def gMean : GC := fun ds O Q => match ds with
  | [fd, .tup xs] => ∃ f l, FdOk f ∧ fd = fdD f ∧ xs = natD l ∧ (∀ i ∈ l, i < f.n) ∧ l ≠ [] ∧ l.length ≤ 100 ∧ Q (frD (meanF f l)) O
  | _ => False
theorem k_mean_in (c : Hd w K mg base aI aF aL aC cT pT) : Dl.Def prog w K mg base 3 "mean_in" ["field", "lot"] gMean := by
  have k_made := k_made c
  have S : FnScope ["field", "lot", "weights", "one"] ["field", "lot"] (defScope s_mean_in) := C8.fnScope_by (by kernel_rfl)
  have hN := S.nd
  refine def_ok c.f_mean_in S (fun _ _ _ _ _ _ us hl => match us, hl with | [_, _], _ => rfl) (fun ds O R h => ?_) fun f cdv A outer s H E hr => ⟨_, have hu := room64 hr; have hu5 := room65 hr; have hu1 := room1 hr; (s_cons (s_set 2 hN (d_callB (c_sum rfl) c.m_sum bt_sum (a_cons (d_lc rfl hN (i_seq (dv 1)) (blkOk_by (own := [("one", 3)]) (by kernel_rfl)) (fun _ _ _ _ _ => (g_name 3 hN)) (fun _ _ _ _ _ => ts_nil) (fun _ _ _ _ _ => (d_ix (d_ix (d_ix (dv 0) d_int) (dv 3)) d_int))) a_nil)))
  (s_one (s_ret (d_call k_made hr (by decide) (a_cons (d_callB (c_sum rfl) c.m_sum bt_sum (a_cons (d_lc rfl hN (i_seq (dv 1)) (blkOk_by (own := [("one", 3)]) (by kernel_rfl)) (fun _ _ _ _ _ => (g_name 3 hN)) (fun _ _ _ _ _ => ts_nil) (fun _ _ _ _ _ => (d_op o_mul (d_ix (d_ix (d_ix (dv 0) d_int) (dv 3)) d_int) (d_ix (d_ix (d_ix (dv 0) d_int) (dv 3)) d_int)))) a_nil)) (a_cons (dv 2) a_nil)))))), fun ds O R h => ?_⟩
  · unfold gMean at h
    split at h <;> first | rfl | exact h.elim
  · unfold gMean at h
    split at h
    · obtain ⟨f, l, ok, rfl, rfl, hv, hne, h100, h⟩ := h
      refine lcD_map l (fun (j : Nat) => D.int (j : Int)) (fun i => .int (seenAt f i).2) (fun i hi K1 k => ?_) ?_
      · refine ix_tup (O := O) (seen_get ok (hv i hi)).1 ?_
        exact k
      · dsimp only [tdNil]
        refine gSum_map _ _ ?_
        refine lcD_map l (fun (j : Nat) => D.int (j : Int)) (fun i => .int ((seenAt f i).1 * (seenAt f i).2)) (fun i hi K1 k => ?_) ?_
        · have sg := seen_get ok (hv i hi)
          have b := ok.bd _ sg.2
          refine ix_tup (O := O) sg.1 ?_
          refine ix_tup (O := O) (n := 0) rfl ?_
          refine ix_tup (O := O) sg.1 ?_
          exact ⟨sm_mul (sm1000 (by omega) (by omega)) (sm1000 (by omega) (by omega)), k⟩
        · dsimp only [tdNil]
          refine gSum_map _ _ ?_
          have b := wt_bd ok l hv
          have hl : 0 < l.length := by
            cases l with
            | nil => exact absurd rfl hne
            | cons _ _ => exact Nat.zero_lt_succ _
          have e : (wtOf f l) ≠ 0 := by omega
          have e2 : Sm (wtOf f l) := sm1000 (by omega) (by omega)
          exact ⟨⟨e, e2⟩, Fin.i h⟩
    · exact h.elim
/-- all lots of the first n things -/
def lotsN : Nat → List (List Nat)
  | 0 => [[]]
  | n + 1 => lotsN n ++ (lotsN n).map fun l => l ++ [n]
theorem lotsN_length (n : Nat) : (lotsN n).length = 2 ^ n := by
  induction n with
  | zero => rfl
  | succ n ih =>
    show (lotsN n ++ (lotsN n).map fun l => l ++ [n]).length = _
    rw [List.length_append, List.length_map, ih, Nat.pow_succ]
    omega
theorem lotsN_lt {n : Nat} : ∀ {l : List Nat}, l ∈ lotsN n → (∀ i ∈ l, i < n) ∧ l.length ≤ n := by
  induction n with
  | zero =>
    intro l h
    have : l = [] := by simpa [lotsN] using h
    subst this
    exact ⟨fun i hi => by simp at hi, Nat.le_refl _⟩
  | succ n ih =>
    intro l h
    rcases List.mem_append.mp (show l ∈ lotsN n ++ (lotsN n).map fun l => l ++ [n] from h) with h | h
    · obtain ⟨h1, h2⟩ := ih h
      exact ⟨fun i hi => Nat.lt_succ_of_lt (h1 i hi), Nat.le_succ_of_le h2⟩
    · obtain ⟨m, hm, rfl⟩ := List.mem_map.mp h
      obtain ⟨h1, h2⟩ := ih hm
      refine ⟨fun i hi => ?_, by rw [List.length_append]; simpa using h2⟩
      rcases List.mem_append.mp hi with hi | hi
      · exact Nat.lt_succ_of_lt (h1 i hi)
      · have : i = n := by simpa using hi
        omega
def lotD (l : List Nat) : D := .tup (natD l)
def gLots : GC := fun ds O Q => match ds with
  | [.int n] => ∃ m : Nat, n = (m : Int) ∧ m ≤ 10 ∧ Q (.lst ((lotsN m).map lotD)) O
  | _ => False
theorem k_lots_of (c : Hd w K mg base aI aF aL aC cT pT) : Dl.Def prog w K mg base 1 "lots_of" ["many"] gLots := by
  have S : FnScope ["many", "found", "one", "lot"] ["many"] (defScope s_lots_of) := C8.fnScope_by (by kernel_rfl)
  have hN := S.nd
  refine def_ok c.f_lots_of S (fun _ _ _ _ _ _ us hl => match us, hl with | [_], _ => rfl) (fun ds O R h => ?_) fun f cdv A outer s H E hr => ⟨_, have hu := room64 hr; have hu5 := room65 hr; have hu1 := room1 hr; (s_cons (s_set 1 hN (d_lst (a_cons (d_tup a_nil) a_nil)))
  (s_cons (s_for PassesOwn.never rfl (i_rng c.m_range (a_cons (dv 0) a_nil)) (g_name 2 hN) (s_one (s_set 1 hN (d_op o_add (dv 1) (d_lc rfl hN (i_seq (dv 1)) (blkOk_by (own := [("lot", 3)]) (by kernel_rfl)) (fun _ _ _ _ _ => (g_name 3 hN)) (fun _ _ _ _ _ => ts_nil) (fun _ _ _ _ _ => (d_tup (a_star (dv 3) (a_cons (dv 2) a_nil)))))))))
  (s_one (s_ret (dv 1))))), fun ds O R h => ?_⟩
  · unfold gLots at h
    split at h <;> first | rfl | exact h.elim
  · unfold gLots at h
    split at h
    · obtain ⟨m, rfl, hm, h⟩ := h
      refine needB_i (rngOk_nat (by omega)) ?_
      rw [rng_map]
      refine for_ind (fun rem env O' => O' = O ∧ ∃ i, i ≤ m ∧ rem = ((List.range m).drop i).map (fun (j : Nat) => D.int (j : Int)) ∧ ∃ x2, env = [some (.int (m : Int)), some (.lst ((lotsN i).map lotD)), x2, none])
        (fun d r env O' N h1 k => ?_) (fun env O' h1 => ?_) ⟨rfl, 0, Nat.zero_le _, by rw [List.drop_zero], _, rfl⟩
      · obtain ⟨rfl, i, hi, hr, x2, rfl⟩ := h1
        have hlt : i < m := by
          by_cases q : i < m
          · exact q
          · rw [List.drop_eq_nil_of_le (by rw [List.length_range]; omega)] at hr
            cases hr
        rw [List.drop_eq_getElem_cons (by rw [List.length_range]; exact hlt), List.map_cons, List.getElem_range] at hr
        injection hr with e1 e2
        subst e1 e2
        have p2 : 2 ^ i ≤ 2 ^ 10 := Nat.pow_le_pow_right (by decide) (by omega)
        refine lcD_map (lotsN i) lotD (fun l => lotD (l ++ [i])) (fun l hl K1 k1 => ?_) ?_
        · have hs := (lotsN_lt hl).2
          refine needB_i (szB_i (by rw [List.length_append]; unfold natD; rw [List.length_map]; simp; omega)) ?_
          rw [natD_snoc]
          exact k1
        · refine needB_i (szB_i (by rw [List.length_map, List.length_map, lotsN_length]; omega)) ?_
          refine k _ _ ⟨rfl, i + 1, hlt, rfl, some (.int (i : Int)), ?_⟩
          have e : (lotsN (i + 1)).map lotD = (lotsN i).map lotD ++ (lotsN i).map fun l => lotD (l ++ [i]) := by
            show (lotsN i ++ (lotsN i).map fun l => l ++ [i]).map lotD = _
            rw [List.map_append, List.map_map]
            rfl
          rw [e]
          rfl
      · obtain ⟨rfl, i, hi, hr, x2, rfl⟩ := h1
        have e : i = m := by
          have := congrArg List.length hr
          rw [List.length_map, List.length_drop, List.length_range] at this
          simp at this
          omega
        subst e
        exact Fin.i h
    · exact h.elim
def sortN (ls : List (List Nat)) : List (List Nat) := ls.mergeSort fun a b => leI (toI a) (toI b)
theorem sortN_perm (ls : List (List Nat)) : (sortN ls).Perm ls := List.mergeSort_perm _ _
theorem sortN_map (ls : List (List Nat)) : (sortN ls).map toI = sortI (ls.map toI) := List.map_mergeSort fun _ _ _ _ => rfl
/-- sorted of lots, the first of them empty -/
theorem sort_lots {O : DO} {Q : D → DO → Prop} (ls : List (List Nat)) (h : Q (.lst ((sortN ([] :: ls)).map lotD)) O) : gSortT [.lst (([] :: ls).map lotD)] O Q := by
  show (match rowsD (([] :: ls).map lotD) with
    | some rs => needB (rs.all (fun r => !r.isEmpty) || match rs with
        | [] :: _ => true
        | _ => false) (Q (.lst ((sortI rs).map tupI)) O)
    | none => False)
  rw [rowsD_map toI lotD (fun l => (tupI_toI l).symm)]
  refine needB_i (Bool.or_eq_true_iff.mpr (.inr rfl)) ?_
  rw [← sortN_map, List.map_map]
  have e : (tupI ∘ toI) = lotD := funext tupI_toI
  rw [e]
  exact h
def upLots (f : Fd) : List (List Nat) := sortN ((lotsN f.n).filter (isUpB f))
theorem lots_head (f : Fd) : ∃ r, (lotsN f.n).filter (isUpB f) = [] :: r := by
  have h : ∀ n, ∃ r, lotsN n = [] :: r := by
    intro n
    induction n with
    | zero => exact ⟨[], rfl⟩
    | succ n ih =>
      obtain ⟨r, e⟩ := ih
      refine ⟨r ++ (lotsN n).map fun l => l ++ [n], ?_⟩
      exact congrArg (· ++ (lotsN n).map fun l => l ++ [n]) e
  obtain ⟨r, e⟩ := h f.n
  rw [e]
  exact ⟨r.filter (isUpB f), List.filter_cons_of_pos rfl⟩
def gUpIn : GC := fun ds O Q => match ds with
  | [fd] => ∃ f, FdOk f ∧ fd = fdD f ∧ Q (.lst ((upLots f).map lotD)) O
  | _ => False
theorem k_up_in (c : Hd w K mg base aI aF aL aC cT pT) : Dl.Def prog w K mg base 3 "up_in" ["field"] gUpIn := by
  have k_ups_in := k_ups_in c
  have k_lots_of := k_lots_of c
  have k_is_up_in := k_is_up_in c
  have S : FnScope ["field", "ups", "lot"] ["field"] (defScope s_up_in) := C8.fnScope_by (by kernel_rfl)
  have hN := S.nd
  refine def_ok c.f_up_in S (fun _ _ _ _ _ _ us hl => match us, hl with | [_], _ => rfl) (fun ds O R h => ?_) fun f cdv A outer s H E hr => ⟨_, have hu := room64 hr; have hu5 := room65 hr; have hu1 := room1 hr; (s_cons (s_set 1 hN (d_call k_ups_in hr (by decide) (a_cons (dv 0) a_nil)))
  (s_one (s_ret (d_callB (c_sortT hu5) c.m_sorted bt_sorted (a_cons (d_lc rfl hN (i_seq (d_call k_lots_of hr (by decide) (a_cons (d_ix (dv 0) d_int) a_nil))) (blkOk_by (own := [("lot", 2)]) (by kernel_rfl)) (fun _ _ _ _ _ => (g_name 2 hN)) (fun _ _ _ _ _ => (ts_one (t_val (d_call k_is_up_in hr (by decide) (a_cons (dv 1) (a_cons (dv 2) a_nil)))))) (fun _ _ _ _ _ => (dv 2))) a_nil))))), fun ds O R h => ?_⟩
  · unfold gUpIn at h
    split at h <;> first | rfl | exact h.elim
  · unfold gUpIn at h
    split at h
    · obtain ⟨f, ok, rfl, h⟩ := h
      have n6 := ok.n6
      refine ⟨f, ok, rfl, ?_⟩
      refine ⟨f.n, rfl, by omega, ?_⟩
      refine lcD_pure (lotsN f.n) lotD (isUpB f) lotD (fun l hl K1 K0 k1 k0 => ?_) [] ?_
      · refine ⟨f, l, rfl, .inl rfl, (lotsN_lt hl).1, ?_⟩
        exact iteB_i k1 k0
      · obtain ⟨r, e⟩ := lots_head f
        rw [List.nil_append, e]
        refine sort_lots r (Fin.i ?_)
        rw [← e]
        exact h
    · exact h.elim
end
end Ri

set_option maxRecDepth 100000
set_option maxHeartbeats 2000000
/-! THE DEFS, 4: levels, the table, the charge. -/
namespace Ri
open PySem PySem.Spec PyProof.Rows L2 Dl
/-- bounds by powers of two -/
def Bd (k : Nat) (i : Int) : Prop := i.natAbs < 2 ^ k
theorem Bd.sm {k : Nat} {i : Int} (h : Bd k i) (hk : k ≤ 3000) : Sm i := by
  refine sm_of (k + 1) ?_ (by omega) (by omega)
  have h1 : i.natAbs < 2 ^ k := h
  rw [Nat.pow_succ]
  omega
theorem Bd.mul {k l : Nat} {i j : Int} (h : Bd k i) (g : Bd l j) : Bd (k + l) (i * j) := wide_lt h g
theorem Bd.mono {k l : Nat} {i : Int} (h : Bd k i) (hk : k ≤ l) : Bd l i := Nat.lt_of_lt_of_le h (Nat.pow_le_pow_right (by decide) hk)
theorem Bd.sub {k : Nat} {i j : Int} (h : Bd k i) (g : Bd k j) : Bd (k + 1) (i - j) := by
  have h1 : i.natAbs < 2 ^ k := h
  have h2 : j.natAbs < 2 ^ k := g
  show (i - j).natAbs < 2 ^ (k + 1)
  rw [Nat.pow_succ]
  omega
theorem Bd.le {k : Nat} {i j : Int} (h : Bd k j) (g : i.natAbs ≤ j.natAbs) : Bd k i := Nat.lt_of_le_of_lt g h
def BdF (k : Nat) (p : Fr) : Prop := Bd k p.1 ∧ Bd k p.2
theorem BdF.sm {k : Nat} {p : Fr} (h : BdF k p) (hk : k ≤ 3000) : SmF p := ⟨h.1.sm hk, h.2.sm hk⟩
theorem ediv_abs (a : Int) {b : Int} (hb : 0 < b) : (a / b).natAbs ≤ a.natAbs := by
  have h1 := Int.ediv_mul_le a (b := b) (by omega)
  have h2 := Int.lt_ediv_add_one_mul_self a hb
  rcases Int.le_total 0 a with h | h
  · have h3 : 0 ≤ a / b := Int.ediv_nonneg h (by omega)
    have h4 : a / b ≤ a := Int.ediv_le_self b h
    omega
  · have h3 : a / b ≤ 0 := by
      by_cases z : a / b ≤ 0
      · exact z
      · have : 1 * b ≤ a / b * b := Int.mul_le_mul_of_nonneg_right (by omega) (by omega)
        omega
    have h4 : a ≤ a / b := by
      by_cases z : a ≤ a / b
      · exact z
      · have : (a / b + 1) * b ≤ a * b := Int.mul_le_mul_of_nonneg_right (by omega) (by omega)
        have : a * b ≤ a * 1 := Int.mul_le_mul_of_nonpos_left h (by omega)
        omega
    omega
theorem mk_bd {k : Nat} {t b : Int} (h0 : b ≠ 0) (h1 : Bd k t) (h2 : Bd k b) : BdF k (mk t b) := by
  have g := gcd_pos (t := t) h0
  unfold mk
  split
  · exact ⟨h1.le (Nat.le_trans (ediv_abs _ g) (by omega)), h2.le (Nat.le_trans (ediv_abs _ g) (by omega))⟩
  · exact ⟨h1.le (ediv_abs _ g), h2.le (ediv_abs _ g)⟩
theorem okD_fr (p : Fr) : okD 60 (frD p) = true := rfl
theorem eqv_fr (p q : Fr) : PyData.eqv (toPy (frD p)) (toPy (frD q)) = decide (p = q) := by
  show PyData.eqv (.tuple [.int p.1, .int p.2]) (.tuple [.int q.1, .int q.2]) = _
  simp only [PyData.eqv, PyData.eqvAll, Bool.and_true]
  by_cases h : p = q
  · rw [decide_eq_true h, h]
    simp
  · rw [decide_eq_false h]
    by_cases h1 : p.1 = q.1
    · have h2 : ¬ p.2 = q.2 := fun e => h (Prod.ext h1 e)
      simp [h1, h2]
    · simp [h1]
section
variable {w : World} {K : PySem.W.Frag} {mg : Str → Option Value} {base : Heap} {aI aF aL aC cT pT : Addr}
abbrev Lv := Fr × List Nat
def lvD (v : Lv) : D := .tup [frD v.1, lotD v.2]
def optD : Option Lv → D
  | none => .non
  | some v => lvD v
def restOf (known lot : List Nat) : List Nat := lot.filter fun i => !decide (i ∈ known)
def better (f : Fd) (known : List Nat) (best : Option Lv) (lot : List Nat) : Option Lv := match best with
  | none => some (meanF f (restOf known lot), restOf known lot)
  | some b => if under b.1 (meanF f (restOf known lot)) then some (meanF f (restOf known lot), restOf known lot) else if b.1 = meanF f (restOf known lot) ∧ b.2.length < (restOf known lot).length then some (meanF f (restOf known lot), restOf known lot) else some b
def nextLv (f : Fd) (known : List Nat) (ls : List (List Nat)) : Option Lv := ls.foldl (better f known) none
theorem top_bd {f : Fd} (ok : FdOk f) : ∀ (l : List Nat), (∀ i ∈ l, i < f.n) → -(1000000 * (l.length : Int)) ≤ topOf f l ∧ topOf f l ≤ 1000000 * l.length
  | [], _ => ⟨Int.le_refl _, Int.le_refl _⟩
  | i :: l, h => by
    have ih := top_bd ok l fun j hj => h j (List.mem_cons_of_mem _ hj)
    obtain ⟨b1, b2, b3, b4⟩ := ok.bd _ (seen_get ok (h i List.mem_cons_self)).2
    have e : topOf f (i :: l) = (seenAt f i).1 * (seenAt f i).2 + topOf f l := by
      unfold topOf
      rw [List.map_cons, List.sum_cons]
    have m1 : (seenAt f i).1 * (seenAt f i).2 ≤ 1000 * (seenAt f i).2 := Int.mul_le_mul_of_nonneg_right b2 (by omega)
    have m2 : (-1000) * (seenAt f i).2 ≤ (seenAt f i).1 * (seenAt f i).2 := Int.mul_le_mul_of_nonneg_right b1 (by omega)
    rw [e, List.length_cons]
    omega
theorem mean_bd {f : Fd} (ok : FdOk f) {l : List Nat} (hv : ∀ i ∈ l, i < f.n) (hne : l ≠ []) (h100 : l.length ≤ 100) : BdF 30 (meanF f l) := by
  have b := wt_bd ok l hv
  have t := top_bd ok l hv
  have hl : 0 < l.length := by
    cases l with
    | nil => exact absurd rfl hne
    | cons _ _ => exact Nat.zero_lt_succ _
  exact mk_bd (by omega) (show (topOf f l).natAbs < 2 ^ 30 by omega) (show (wtOf f l).natAbs < 2 ^ 30 by omega)
def gNextLv : GC := fun ds O Q => match ds with
  | [fd, .lst ls, .lst kn] => ∃ f some_ known, FdOk f ∧ fd = fdD f ∧ ls = some_.map lotD ∧ kn = natD known ∧ (∀ l ∈ some_, (∀ i ∈ l, i < f.n) ∧ restOf known l ≠ [] ∧ l.length ≤ 100) ∧ Q (optD (nextLv f known some_)) O
  | _ => False
theorem k_next_level (c : Hd w K mg base aI aF aL aC cT pT) : Dl.Def prog w K mg base 4 "next_level" ["field", "some", "known"] gNextLv := by
  have k_mean_in := k_mean_in c
  have k_is_under := k_is_under c
  have S : FnScope ["field", "some", "known", "best", "lot", "rest", "here", "one"] ["field", "some", "known"] (defScope s_next_level) := C8.fnScope_by (by kernel_rfl)
  have hN := S.nd
  refine def_ok c.f_next_level S (fun _ _ _ _ _ _ us hl => match us, hl with | [_, _, _], _ => rfl) (fun ds O R h => ?_) fun f cdv A outer s H E hr => ⟨_, have hu := room64 hr; have hu5 := room65 hr; have hu1 := room1 hr; (s_cons (s_set 3 hN d_non)
  (s_cons (s_for PassesOwn.never rfl (i_seq (dv 1)) (g_name 4 hN) (s_cons (s_set 5 hN (d_callTy c_tuple c.m_tuple bt_tuple (a_cons (d_lc rfl hN (i_seq (dv 4)) (blkOk_by (own := [("one", 7)]) (by kernel_rfl)) (fun _ _ _ _ _ => (g_name 7 hN)) (fun _ _ _ _ _ => (ts_one (t_cmp (o_notin hu5) (dv 7) (dv 2)))) (fun _ _ _ _ _ => (dv 7))) a_nil)))
  (s_cons (s_set 6 hN (d_tup (a_cons (d_call k_mean_in hr (by decide) (a_cons (dv 0) (a_cons (dv 5) a_nil))) (a_cons (dv 5) a_nil))))
  (s_one (s_if (t_w (w_or (t_cmp o_is (dv 3) d_non) (w_or1 (t_val (d_call k_is_under hr (by decide) (a_cons (d_ix (dv 3) d_int) (a_cons (d_ix (dv 6) d_int) a_nil)))))))
  (s_one (s_set 3 hN (dv 6)))
  (s_one (s_if (t_w (w_and (t_cmp (o_eq hu) (d_ix (dv 3) d_int) (d_ix (dv 6) d_int)) (w_and1 (t_cmp o_lt (d_callB c_len c.m_len bt_len (a_cons (d_ix (dv 3) d_int) a_nil)) (d_callB c_len c.m_len bt_len (a_cons (dv 5) a_nil))))))
  (s_one (s_set 3 hN (dv 6)))
  s_nil)))))))
  (s_one (s_ret (dv 3))))), fun ds O R h => ?_⟩
  · unfold gNextLv at h
    split at h <;> first | rfl | exact h.elim
  · unfold gNextLv at h
    split at h
    · obtain ⟨f, ls, known, ok, rfl, rfl, rfl, hv, h⟩ := h
      refine for_ind (fun rem env O' => O' = O ∧ ∃ dn r, ls = dn ++ r ∧ rem = r.map lotD ∧ (∀ b, nextLv f known dn = some b → BdF 30 b.1 ∧ b.2.length ≤ 100) ∧ ∃ x4 x5 x6, env = [some (fdD f), some (.lst (ls.map lotD)), some (.lst (natD known)), some (optD (nextLv f known dn)), x4, x5, x6, none])
        (fun d r env O' N h1 k => ?_) (fun env O' h1 => ?_) ⟨rfl, [], ls, rfl, rfl, (fun b e => by cases e), _, _, _, rfl⟩
      · obtain ⟨rfl, dn, r, hd, hr, hb, x4, x5, x6, rfl⟩ := h1
        cases r with
        | nil => cases hr
        | cons lot r =>
          rw [List.map_cons] at hr
          injection hr with e1 e2
          subst e1 e2
          obtain ⟨v1, v2, v3⟩ := hv lot (by rw [hd]; exact List.mem_append_right _ List.mem_cons_self)
          have hrest : (restOf known lot).length ≤ 100 := Nat.le_trans (List.length_filter_le _ _) v3
          have hrv : ∀ i ∈ restOf known lot, i < f.n := fun i hi => v1 i (List.mem_filter.mp hi).1
          have hm := mean_bd ok hrv v2 hrest
          have hd2 : ls = (dn ++ [lot]) ++ r := by rw [hd, List.append_assoc]; rfl
          have hnx : nextLv f known (dn ++ [lot]) = better f known (nextLv f known dn) lot := by
            unfold nextLv
            rw [List.foldl_append]
            rfl
          refine lcD_pure lot (fun (j : Nat) => D.int (j : Int)) (fun i => !decide (i ∈ known)) (fun (j : Nat) => D.int (j : Int)) (fun i hi K1 K0 k1 k0 => ?_) [] ?_
          · dsimp only [gdN, tdT]
            refine op_vv (x := .int (i : Int)) (y := .lst (natD known)) rfl rfl ?_
            refine in_not (i : Int) (toI known) _ (.inl (by rw [natD_toI])) ?_
            have e : decide ((i : Int) ∈ toI known) = decide (i ∈ known) := decide_eq_decide.mpr mem_toI
            show iteB (!decide ((i : Int) ∈ toI known)) _ _
            rw [e]
            exact iteB_i k1 k0
          · rw [List.nil_append]
            refine ⟨f, restOf known lot, ok, rfl, rfl, hrv, v2, hrest, ?_⟩
            refine needB_i rfl ?_
            have ms := hm.sm (by decide)
            cases eb : nextLv f known dn with
            | none =>
              rw [eb] at hnx
              refine k _ _ ⟨rfl, dn ++ [lot], r, hd2, rfl, fun b e => ?_, some (lotD lot), some (lotD (restOf known lot)), some (lvD (meanF f (restOf known lot), restOf known lot)), ?_⟩
              · rw [hnx] at e
                cases e
                exact ⟨hm, hrest⟩
              · rw [hnx]
                rfl
            | some b =>
              rw [eb] at hnx
              obtain ⟨b1, b2⟩ := hb b eb
              have bs := b1.sm (by decide)
              refine ⟨⟨bs, ms⟩, ?_⟩
              refine iteB_i (c := under b.1 (meanF f (restOf known lot))) (fun e => ?_) (fun e => ?_)
              · have hb2 : better f known (some b) lot = some (meanF f (restOf known lot), restOf known lot) := if_pos e
                refine k _ _ ⟨rfl, dn ++ [lot], r, hd2, rfl, fun b e => ?_, some (lotD lot), some (lotD (restOf known lot)), some (lvD (meanF f (restOf known lot), restOf known lot)), ?_⟩
                · rw [hnx, hb2] at e
                  cases e
                  exact ⟨hm, hrest⟩
                · rw [hnx, hb2]
                  rfl
              · refine ⟨rfl, rfl, ?_⟩
                show iteB (PyData.eqv (toPy (frD b.1)) (toPy (frD (meanF f (restOf known lot))))) _ _
                rw [eqv_fr]
                have hl1 : (natD b.2).length = b.2.length := List.length_map _
                have hl2 : (natD (restOf known lot)).length = (restOf known lot).length := List.length_map _
                have yes : (b.1 = meanF f (restOf known lot) ∧ b.2.length < (restOf known lot).length) → N [some (fdD f), some (.lst (ls.map lotD)), some (.lst (natD known)), some (lvD (meanF f (restOf known lot), restOf known lot)), some (lotD lot), some (lotD (restOf known lot)), some (lvD (meanF f (restOf known lot), restOf known lot)), none] O' := fun q => by
                  have hb2 : better f known (some b) lot = some (meanF f (restOf known lot), restOf known lot) := (if_neg (by rw [e]; decide)).trans (if_pos q)
                  refine k _ _ ⟨rfl, dn ++ [lot], r, hd2, rfl, fun b e => ?_, some (lotD lot), some (lotD (restOf known lot)), some (lvD (meanF f (restOf known lot), restOf known lot)), ?_⟩
                  · rw [hnx, hb2] at e
                    cases e
                    exact ⟨hm, hrest⟩
                  · rw [hnx, hb2]
                    rfl
                have no : ¬ (b.1 = meanF f (restOf known lot) ∧ b.2.length < (restOf known lot).length) → N [some (fdD f), some (.lst (ls.map lotD)), some (.lst (natD known)), some (lvD b), some (lotD lot), some (lotD (restOf known lot)), some (lvD (meanF f (restOf known lot), restOf known lot)), none] O' := fun q => by
                  have hb2 : better f known (some b) lot = some b := (if_neg (by rw [e]; decide)).trans (if_neg q)
                  refine k _ _ ⟨rfl, dn ++ [lot], r, hd2, rfl, fun b' e => ?_, some (lotD lot), some (lotD (restOf known lot)), some (lvD (meanF f (restOf known lot), restOf known lot)), ?_⟩
                  · rw [hnx, hb2] at e
                    cases e
                    exact ⟨b1, b2⟩
                  · rw [hnx, hb2]
                    rfl
                refine iteB_i (fun q1 => ?_) (fun q1 => ?_)
                · have q1 := of_decide_eq_true q1
                  refine iteB_i (c := decide (((natD b.2).length : Int) < ((natD (restOf known lot)).length : Int))) (fun q2 => ?_) (fun q2 => ?_)
                  · have q2 := of_decide_eq_true q2
                    rw [hl1, hl2] at q2
                    exact yes ⟨q1, by omega⟩
                  · have q2 := of_decide_eq_false q2
                    rw [hl1, hl2] at q2
                    exact no fun z => q2 (by omega)
                · have q1 := of_decide_eq_false q1
                  exact no fun z => q1 z.1
      · obtain ⟨rfl, dn, r, hd, hr, hb, x4, x5, x6, rfl⟩ := h1
        have e : r = [] := List.map_eq_nil_iff.mp hr.symm
        subst e
        rw [List.append_nil] at hd
        subst hd
        exact Fin.i h
    · exact h.elim
end
end Ri

set_option maxRecDepth 100000
set_option maxHeartbeats 2000000
/-! THE DEFS, 5: levels, the table, the charge. -/
namespace Ri
open PySem PySem.Spec PyProof.Rows L2 Dl
theorem sub_len : ∀ {a b : List Nat}, a.Nodup → (∀ x ∈ a, x ∈ b) → a.length ≤ b.length
  | [], _, _, _ => Nat.zero_le _
  | x :: a, b, h, s => by
    obtain ⟨h1, h2⟩ := List.nodup_cons.mp h
    have hb := s x List.mem_cons_self
    have := sub_len (b := b.erase x) h2 fun y hy => (List.mem_erase_of_ne (fun (e : y = x) => h1 (by rw [← e]; exact hy))).mpr (s y (List.mem_cons_of_mem _ hy))
    rw [List.length_erase_of_mem hb] at this
    have : 0 < b.length := List.length_pos_of_mem hb
    rw [List.length_cons]
    omega
theorem mem_lotsN {n : Nat} : ∀ {l : List Nat}, l ∈ lotsN n ↔ l.Pairwise (· < ·) ∧ ∀ i ∈ l, i < n := by
  induction n with
  | zero =>
    intro l
    constructor
    · intro h
      have : l = [] := by simpa [lotsN] using h
      subst this
      exact ⟨.nil, fun i hi => by simp at hi⟩
    · rintro ⟨_, h⟩
      cases l with
      | nil => exact List.mem_cons_self
      | cons a l => exact absurd (h a List.mem_cons_self) (Nat.not_lt_zero _)
  | succ n ih =>
    intro l
    show l ∈ lotsN n ++ (lotsN n).map (fun l => l ++ [n]) ↔ _
    rw [List.mem_append]
    constructor
    · rintro (h | h)
      · obtain ⟨h1, h2⟩ := ih.mp h
        exact ⟨h1, fun i hi => Nat.lt_succ_of_lt (h2 i hi)⟩
      · obtain ⟨m, hm, rfl⟩ := List.mem_map.mp h
        obtain ⟨h1, h2⟩ := ih.mp hm
        refine ⟨List.pairwise_append.mpr ⟨h1, List.pairwise_singleton _ _, fun a ha b hb => ?_⟩, fun i hi => ?_⟩
        · have : b = n := by simpa using hb
          exact this ▸ h2 a ha
        · rcases List.mem_append.mp hi with hi | hi
          · exact Nat.lt_succ_of_lt (h2 i hi)
          · have : i = n := by simpa using hi
            omega
    · rintro ⟨h1, h2⟩
      rcases List.eq_nil_or_concat l with rfl | ⟨m, a, rfl⟩
      · exact .inl (ih.mpr ⟨h1, fun i hi => by simp at hi⟩)
      · rw [List.concat_eq_append] at h1 h2 ⊢
        obtain ⟨p1, _, p3⟩ := List.pairwise_append.mp h1
        have ha := h2 a (List.mem_append_right _ List.mem_cons_self)
        by_cases e : a = n
        · subst e
          exact .inr (List.mem_map.mpr ⟨m, ih.mpr ⟨p1, fun i hi => p3 i hi a List.mem_cons_self⟩, rfl⟩)
        · refine .inl (ih.mpr ⟨h1, fun i hi => ?_⟩)
          rcases List.mem_append.mp hi with hi | hi
          · have := p3 i hi a List.mem_cons_self
            omega
          · have : i = a := by simpa using hi
            omega
theorem mem_upLots {f : Fd} {l : List Nat} : l ∈ upLots f ↔ (l.Pairwise (· < ·) ∧ ∀ i ∈ l, i < f.n) ∧ isUpB f l = true := by
  unfold upLots
  rw [(sortN_perm _).mem_iff, List.mem_filter, mem_lotsN]
theorem isUpB_iff {f : Fd} {l : List Nat} : isUpB f l = true ↔ ∀ i ∈ l, ∀ j, (i, j) ∈ f.ties → j ∈ l := by
  unfold isUpB
  rw [List.all_eq_true]
  constructor
  · intro h i hi j hj
    have := (List.all_eq_true.mp (h i hi)) (j : Int) (mem_upsI.mpr ⟨j, rfl, hj⟩)
    exact mem_toI.mp (of_decide_eq_true this)
  · intro h i hi
    refine List.all_eq_true.mpr fun x hx => ?_
    obtain ⟨j, rfl, hj⟩ := mem_upsI.mp hx
    exact decide_eq_true (mem_toI.mpr (h i hi j hj))
theorem lt_nodup {l : List Nat} (h : l.Pairwise (· < ·)) : l.Nodup := List.Pairwise.imp (fun h => Nat.ne_of_lt h) h
theorem full_up {f : Fd} (ok : FdOk f) : List.range f.n ∈ upLots f := by
  refine mem_upLots.mpr ⟨⟨List.pairwise_lt_range, fun i hi => List.mem_range.mp hi⟩, isUpB_iff.mpr fun i _ j hj => List.mem_range.mpr (ok.lt _ hj).2⟩
/-- a lot goes beyond what is known -/
def okLot (kn l : List Nat) : Bool := decide (kn.length < l.length) && kn.all fun i => decide (i ∈ l)
def cand (f : Fd) (kn : List Nat) : List (List Nat) := (upLots f).filter (okLot kn)
theorem mem_cand {f : Fd} {kn l : List Nat} : l ∈ cand f kn ↔ l ∈ upLots f ∧ kn.length < l.length ∧ ∀ i ∈ kn, i ∈ l := by
  unfold cand okLot
  rw [List.mem_filter, Bool.and_eq_true, decide_eq_true_iff, List.all_eq_true]
  exact ⟨fun ⟨a, b, c⟩ => ⟨a, b, fun i hi => of_decide_eq_true (c i hi)⟩, fun ⟨a, b, c⟩ => ⟨a, b, fun i hi => decide_eq_true (c i hi)⟩⟩
theorem mem_restOf {kn l : List Nat} {i : Nat} : i ∈ restOf kn l ↔ i ∈ l ∧ i ∉ kn := by
  unfold restOf
  rw [List.mem_filter]
  simp
theorem rest_ne {f : Fd} {kn l : List Nat} (h : l ∈ cand f kn) : restOf kn l ≠ [] := by
  intro e
  obtain ⟨h1, h2, h3⟩ := mem_cand.mp h
  have hs := sub_len (lt_nodup (mem_upLots.mp h1).1.1) (b := kn) fun x hx => by
    by_cases q : x ∈ kn
    · exact q
    · have : x ∈ restOf kn l := mem_restOf.mpr ⟨hx, q⟩
      rw [e] at this
      simp at this
  omega
theorem better_get (f : Fd) (kn : List Nat) : ∀ (ls : List (List Nat)) (b : Option Lv), (b = none → ls ≠ []) → (∀ v, b = some v → ∃ l, v = (meanF f (restOf kn l), restOf kn l)) → ∃ v, ls.foldl (better f kn) b = some v ∧ (b = some v ∨ ∃ l ∈ ls, v = (meanF f (restOf kn l), restOf kn l))
  | [], none, h, _ => absurd rfl (h rfl)
  | [], some v, _, _ => ⟨v, rfl, .inl rfl⟩
  | l :: ls, b, h, hb => by
    have e : ∃ v, better f kn b l = some v ∧ (b = some v ∨ v = (meanF f (restOf kn l), restOf kn l)) := by
      unfold better
      cases b with
      | none => exact ⟨_, rfl, .inr rfl⟩
      | some b =>
        simp only
        split
        · exact ⟨_, rfl, .inr rfl⟩
        · split
          · exact ⟨_, rfl, .inr rfl⟩
          · exact ⟨_, rfl, .inl rfl⟩
    obtain ⟨v, e1, e2⟩ := e
    obtain ⟨v2, g1, g2⟩ := better_get f kn ls (better f kn b l) (fun z => by rw [e1] at z; cases z) (fun v' z => by
      rw [e1] at z
      cases z
      rcases e2 with e2 | e2
      · exact hb _ e2
      · exact ⟨l, e2⟩)
    refine ⟨v2, g1, ?_⟩
    rcases g2 with g2 | ⟨l', h1, h2⟩
    · rw [e1] at g2
      cases g2
      rcases e2 with e2 | e2
      · exact .inl e2
      · exact .inr ⟨l, List.mem_cons_self, e2⟩
    · exact .inr ⟨l', List.mem_cons_of_mem _ h1, h2⟩
inductive Steps (f : Fd) : List Lv → List Nat → Prop
  | nil : Steps f [] []
  | cons {fs : List Lv} {kn : List Nat} {v : Lv} : Steps f fs kn → kn.length < f.n → nextLv f kn (cand f kn) = some v → Steps f (v :: fs) (kn ++ v.2)
structure Kn (f : Fd) (kn : List Nat) : Prop where
  nd : kn.Nodup
  lt : ∀ i ∈ kn, i < f.n
theorem Kn.len {f : Fd} {kn : List Nat} (h : Kn f kn) : kn.length ≤ f.n := by
  have := sub_len h.nd (b := List.range f.n) fun x hx => List.mem_range.mpr (h.lt x hx)
  rwa [List.length_range] at this
theorem cand_ne {f : Fd} (ok : FdOk f) {kn : List Nat} (h : Kn f kn) (hl : kn.length < f.n) : cand f kn ≠ [] := by
  intro e
  have : List.range f.n ∈ cand f kn := mem_cand.mpr ⟨full_up ok, by rw [List.length_range]; exact hl, fun i hi => List.mem_range.mpr (h.lt i hi)⟩
  rw [e] at this
  simp at this
theorem next_get {f : Fd} (ok : FdOk f) {kn : List Nat} (h : Kn f kn) (hl : kn.length < f.n) : ∃ l, l ∈ cand f kn ∧ nextLv f kn (cand f kn) = some (meanF f (restOf kn l), restOf kn l) := by
  obtain ⟨v, h1, h2⟩ := better_get f kn (cand f kn) none (fun _ => cand_ne ok h hl) fun v e => by cases e
  rcases h2 with h2 | ⟨l, h2, h3⟩
  · cases h2
  · exact ⟨l, h2, h3 ▸ h1⟩
theorem kn_next {f : Fd} (ok : FdOk f) {kn l : List Nat} (h : Kn f kn) (hl : l ∈ cand f kn) : Kn f (kn ++ restOf kn l) := by
  obtain ⟨h1, h2, h3⟩ := mem_cand.mp hl
  have h4 := (mem_upLots.mp h1).1
  refine ⟨List.nodup_append.mpr ⟨h.nd, (lt_nodup h4.1).filter _, fun a ha b hb e => ?_⟩, fun i hi => ?_⟩
  · subst e
    exact (mem_restOf.mp hb).2 ha
  · rcases List.mem_append.mp hi with hi | hi
    · exact h.lt i hi
    · exact h4.2 i (mem_restOf.mp hi).1
theorem Steps.kn {f : Fd} (ok : FdOk f) {fs : List Lv} {kn : List Nat} (h : Steps f fs kn) : Kn f kn := by
  induction h with
  | nil => exact ⟨.nil, fun i hi => by simp at hi⟩
  | cons s hl e ih =>
    obtain ⟨l, h1, h2⟩ := next_get ok ih hl
    rw [e] at h2
    cases h2
    exact kn_next ok ih h1
section
variable {w : World} {K : PySem.W.Frag} {mg : Str → Option Value} {base : Heap} {aI aF aL aC cT pT : Addr}
theorem natD_append (a b : List Nat) : natD (a ++ b) = natD a ++ natD b := List.map_append
theorem natD_length (a : List Nat) : (natD a).length = a.length := List.length_map _
def gLevels : GC := fun ds O Q => match ds with
  | [fd] => ∃ f, FdOk f ∧ fd = fdD f ∧ ∀ fs kn, Steps f fs kn → f.n ≤ kn.length → Q (.lst (fs.map lvD)) O
  | _ => False
theorem k_levels_in (c : Hd w K mg base aI aF aL aC cT pT) : Dl.Def prog w K mg base 5 "levels_in" ["field"] gLevels := by
  have k_up_in := k_up_in c
  have k_next_level := k_next_level c
  have S : FnScope ["field", "found", "known", "lots", "some", "level", "lot", "one"] ["field"] (defScope s_levels_in) := C8.fnScope_by (by kernel_rfl)
  have hN := S.nd
  refine def_ok c.f_levels_in S (fun _ _ _ _ _ _ us hl => match us, hl with | [_], _ => rfl) (fun ds O R h => ?_) fun f cdv A outer s H E hr => ⟨_, have hu := room64 hr; have hu5 := room65 hr; have hu1 := room1 hr; (s_cons (s_asg (d_tup (a_cons (d_lst a_nil) (a_cons (d_lst a_nil) (a_cons (d_call k_up_in hr (by decide) (a_cons (dv 0) a_nil)) a_nil)))) (g_tup (n := 3) rfl (gs_cons (g_name 1 hN) (gs_cons (g_name 2 hN) (gs_cons (g_name 3 hN) gs_nil)))))
  (s_cons (s_while PassesOwn.never (t_cmp o_lt (d_callB c_len c.m_len bt_len (a_cons (dv 2) a_nil)) (d_ix (dv 0) d_int)) (s_cons (s_setLc 4 rfl hN (sw_true rfl rfl rfl rfl) (i_seq (dv 3)) (blkOk_by (own := [("lot", 6)]) (by kernel_rfl)) (fun _ _ _ _ _ => (g_name 6 hN)) (fun _ _ _ _ _ => (ts_one (t_w (w_and (t_cmp o_gt (d_callB c_len c.m_len bt_len (a_cons (dv 6) a_nil)) (d_callB c_len c.m_len bt_len (a_cons (dv 2) a_nil))) (w_and1 (t_val (d_callB (c_all rfl) c.m_all bt_all (a_cons (d_lc rfl hN (i_seq (dv 2)) (blkOk_by (own := [("one", 7)]) (by kernel_rfl)) (fun _ _ _ _ _ => (g_name 7 hN)) (fun _ _ _ _ _ => ts_nil) (fun _ _ _ _ _ => (d_cmp (o_in hu5) (dv 7) (dv 6)))) a_nil)))))))) (fun _ _ _ _ _ => (dv 6)))
  (s_cons (s_set 5 hN (d_call k_next_level hr (by decide) (a_cons (dv 0) (a_cons (dv 4) (a_cons (dv 2) a_nil)))))
  (s_cons (s_set 1 hN (d_lst (a_cons (dv 5) (a_star (dv 1) a_nil))))
  (s_one (s_set 2 hN (d_op o_add (dv 2) (d_callTy c_list c.m_list bt_list (a_cons (d_ix (dv 5) d_int) a_nil)))))))))
  (s_one (s_ret (dv 1))))), fun ds O R h => ?_⟩
  · unfold gLevels at h
    split at h <;> first | rfl | exact h.elim
  · unfold gLevels at h
    split at h
    · obtain ⟨f, ok, rfl, h⟩ := h
      have n6 := ok.n6
      refine ⟨f, ok, rfl, ?_⟩
      refine while_ind (fun m env O' => O' = O ∧ ∃ fs kn x4 x5, Steps f fs kn ∧ m = f.n - kn.length ∧ fs.length ≤ kn.length ∧ env = [some (fdD f), some (.lst (fs.map lvD)), some (.lst (natD kn)), some (.lst ((upLots f).map lotD)), x4, x5, none, none])
        (fun m env O' N h1 k => ?_) (m := f.n - 0) ⟨rfl, [], [], none, none, .nil, rfl, Nat.le_refl _, rfl⟩
      obtain ⟨rfl, fs, kn, x4, x5, hs, rfl, hfs, rfl⟩ := h1
      have hkn := hs.kn ok
      have hle := hkn.len
      refine iteB_i (c := decide (((natD kn).length : Int) < (f.n : Int))) (fun e => ?_) (fun e => ?_)
      · have e := of_decide_eq_true e
        rw [natD_length] at e
        have hl : kn.length < f.n := by omega
        obtain ⟨l, hc, hnx⟩ := next_get ok hkn hl
        have hrn := rest_ne hc
        have hk2 := kn_next ok hkn hc
        have hrl : 0 < (restOf kn l).length := List.length_pos_iff.mpr hrn
        refine lcD_pure (upLots f) lotD (okLot kn) lotD (fun l hl K1 K0 k1 k0 => ?_) [] ?_
        · dsimp only [gdN]
          show iteB (decide (((natD kn).length : Int) < ((natD l).length : Int))) _ _
          unfold okLot at k1 k0
          rw [natD_length, natD_length]
          refine iteB_i (fun e => ?_) (fun e => ?_)
          · have e2 : decide (kn.length < l.length) = true := decide_eq_true (by have := of_decide_eq_true e; omega)
            rw [e2, Bool.true_and] at k1 k0
            refine lcD_map kn (fun (j : Nat) => D.int (j : Int)) (fun i => .bl (decide (i ∈ l))) (fun i hi K1 k => ?_) ?_
            · refine op_vv (x := .int (i : Int)) (y := lotD l) rfl rfl (in_yes _ (toI l) _ (.inr (by rw [← natD_toI]; rfl)) ?_)
              rw [decide_eq_decide.mpr (mem_toI (j := i) (l := l))]
              exact k
            · dsimp only [tdNil]
              refine gAll_map _ _ ?_
              exact iteB_i k1 k0
          · have e2 : decide (kn.length < l.length) = false := decide_eq_false (by have := of_decide_eq_false e; omega)
            rw [e2, Bool.false_and] at k1 k0
            exact k0 rfl
        · rw [List.nil_append]
          refine ⟨f, cand f kn, kn, ok, rfl, rfl, rfl, fun l hl => ⟨(mem_upLots.mp (mem_cand.mp hl).1).1.2, rest_ne hl, ?_⟩, ?_⟩
          · have h4 := (mem_upLots.mp (mem_cand.mp hl).1).1
            have := Kn.len ⟨lt_nodup h4.1, h4.2⟩
            omega
          · rw [hnx]
            have hk2l := hk2.len
            rw [List.length_append] at hk2l
            refine needB_i (szB_i (by rw [List.length_cons, List.length_append, List.length_map, List.length_nil]; omega)) ?_
            refine needB_i (szB_i (by rw [natD_length, natD_length]; show kn.length + (restOf kn l).length ≤ _; omega)) ?_
            have hst := hs.cons hl hnx
            refine k (f.n - (kn ++ restOf kn l).length) _ _ (by rw [List.length_append]; omega) ⟨rfl, (meanF f (restOf kn l), restOf kn l) :: fs, kn ++ restOf kn l, some (.lst ((cand f kn).map lotD)), some (lvD (meanF f (restOf kn l), restOf kn l)), hst, rfl, by show fs.length + 1 ≤ (kn ++ restOf kn l).length; rw [List.length_append]; omega, ?_⟩
            rw [natD_append]
            show [some (fdD f), some (.lst (lvD (meanF f (restOf kn l), restOf kn l) :: (fs.map lvD ++ []))), _, _, _, _, _, _] = _
            rw [List.append_nil]
            rfl
      · have e := of_decide_eq_false e
        rw [natD_length] at e
        exact Fin.i (h fs kn hs (by omega))
    · exact h.elim
end
end Ri

set_option maxRecDepth 100000
set_option maxHeartbeats 2000000
/-! THE DEFS, 6: the table, the charge. -/
namespace Ri
open PySem PySem.Spec PyProof.Rows L2 Dl
/-- what stands in the levels for each thing -/
def flat (vs : List Lv) : List (Nat × Fr) := vs.flatMap fun v => v.2.map fun i => (i, v.1)
def lkp (i : Nat) : List (Nat × Fr) → Option Fr
  | [] => none
  | p :: r => if p.1 = i then some p.2 else lkp i r
theorem lkp_mem {i : Nat} : ∀ {l : List (Nat × Fr)} {p : Fr}, lkp i l = some p → (i, p) ∈ l
  | (a, b) :: r, p, h => by
    unfold lkp at h
    split at h
    · rename_i e
      cases h
      have e : a = i := e
      subst e
      exact List.mem_cons_self
    · exact List.mem_cons_of_mem _ (lkp_mem h)
theorem lkp_some {i : Nat} : ∀ {l : List (Nat × Fr)}, i ∈ l.map (·.1) → ∃ p, lkp i l = some p
  | (a, b) :: r, h => by
    unfold lkp
    by_cases e : a = i
    · exact ⟨b, if_pos e⟩
    · rw [if_neg e]
      rcases List.mem_cons.mp h with h | h
      · exact absurd h.symm e
      · exact lkp_some h
def gOf (vs : List Lv) (i : Nat) : Fr := (lkp i (flat vs)).getD (0, 1)
def kvF (l : List (Nat × Fr)) : KVs := l.map fun p => (Sum.inl (p.1 : Int), frD p.2)
theorem look_kvF (i : Nat) : ∀ l : List (Nat × Fr), lookK (kvF l) (Sum.inl (i : Int) : Key) = (lkp i l).map frD
  | [] => rfl
  | (a, b) :: r => by
    show (if (Sum.inl (a : Int) : Key) = Sum.inl (i : Int) then some (frD b) else lookK (kvF r) (Sum.inl (i : Int))) = _
    unfold lkp
    by_cases h : a = i
    · subst h
      rw [if_pos rfl, if_pos rfl]
      rfl
    · rw [if_neg (fun e => h (by have := Sum.inl.inj e; omega)), if_neg h]
      exact look_kvF i r
theorem put_kvF (l : List (Nat × Fr)) (i : Nat) (p : Fr) (h : i ∉ l.map (·.1)) : putKD (kvF l) (Sum.inl (i : Int) : Key) (frD p) = kvF (l ++ [(i, p)]) := by
  unfold putKD
  rw [if_neg]
  · unfold kvF
    rw [List.map_append]
    rfl
  · intro e
    obtain ⟨x, h1, h2⟩ := List.any_eq_true.mp e
    obtain ⟨y, h3, h4⟩ := List.mem_map.mp h1
    subst h4
    have h5 := Sum.inl.inj (of_decide_eq_true h2)
    have h6 : y.1 = i := by have : (y.1 : Int) = (i : Int) := h5; omega
    exact h (List.mem_map.mpr ⟨y, h3, h6⟩)
section
variable {w : World} {K : PySem.W.Frag} {mg : Str → Option Value} {base : Heap} {aI aF aL aC cT pT : Addr}
theorem call_v {g : GC} {tr : TDA} {env : DEnv} {O : DO} {Q : D → DO → Prop} (h : tr env O fun ds O1 => g ds O1 Q) : tdCall g tr env O Q := h
theorem cons_v {ta : TD} {tr : TDA} {env : DEnv} {O : DO} {Q : List D → DO → Prop} (h : ta env O fun x O1 => tr env O1 fun xs O2 => Q (x :: xs) O2) : tdCons ta tr env O Q := h
theorem tt_v {i : Nat} {env : DEnv} {O : DO} {b : Bool} {Q : Bool → DO → Prop} (hi : lk env i = some (.bl b)) (h : Q b O) : tdT (tdV i) env O Q := by
  unfold tdT tdV
  simp only [hi]
  exact h
theorem lenD_v {i : Nat} {env : DEnv} {O : DO} {p : Addr} {kvs : KVs} {Q : D → DO → Prop} (hi : lk env i = some (.ptr p)) (hp : O p = some (.dK kvs)) (h : Q (.int (kvs.length : Int)) O) : tdCall gLenD (tdCons (tdV i) tdNil) env O Q := by
  unfold tdCall tdCons tdNil tdV gLenD
  simp only [hi, hp]
  exact h
theorem rng_v {t : TD} {env : DEnv} {O : DO} {S : List D → DO → Prop} (h : t env O fun d O1 => ∃ n, d = .int n ∧ rngOk n = true ∧ S (rngD 0 n.toNat) O1) : tiRng (tdCons t tdNil) env O S := by
  have e : (fun d O1 => ∃ n, d = .int n ∧ rngOk n = true ∧ S (rngD 0 n.toNat) O1) = fun (d : D) (O1 : DO) => match ([d] : List D) with
      | [.int n] => needB (rngOk n) (S (rngD 0 n.toNat) O1)
      | _ => False := by
    funext d O1
    refine propext ⟨?_, fun z => ?_⟩
    · rintro ⟨n, rfl, h1, h2⟩
      exact needB_i h1 h2
    · cases d <;> first | exact z.elim | skip
      exact ⟨_, rfl, needB_o z⟩
  rw [e] at h
  exact h
theorem dget_v {i j : Nat} {env : DEnv} {O : DO} {p : Addr} {kvs : KVs} {d v : D} {z : Key} {Q : D → DO → Prop} (hi : lk env i = some (.ptr p)) (hp : O p = some (.dK kvs)) (hj : lk env j = some d) (hd : keyD d = some z) (hv : lookK kvs z = some v) (h : Q v O) : tdDGet (tdV i) (tdV j) env O Q := by
  unfold tdDGet tdV getDD
  simp only [hi, hj, hp, hd, hv]
  exact h
theorem dc_in {a b c x : Option D} {p : Fr} {O : DO} {Q : KVs → DO → Prop} : ∀ (l : List Nat) (acc : List (Nat × Fr)), (acc.map (·.1) ++ l).Nodup → acc.length + l.length ≤ 1000 → Q (kvF (acc ++ l.map fun i => (i, p))) O → dcIn (gdN 4) (tdV 4) (tdV 2) [a, b, some (frD p), c, x] (natD l) (kvF acc) O Q
  | [], acc, _, _, h => by
    rw [List.map_nil, List.append_nil] at h
    exact h
  | i :: l, acc, hn, hl, h => by
    have hl : acc.length + (l.length + 1) ≤ 1000 := hl
    refine needB_i (Nat.ble_eq_true_of_le (by unfold kvF; rw [List.length_map]; omega)) ?_
    have hi : i ∉ acc.map (·.1) := fun e => (List.nodup_append.mp hn).2.2 i e i List.mem_cons_self rfl
    rw [put_kvF acc i p hi]
    refine dc_in l (acc ++ [(i, p)]) (by rw [List.map_append, List.append_assoc]; exact hn) (by rw [List.length_append]; show acc.length + 1 + l.length ≤ 1000; omega) ?_
    rw [List.append_assoc]
    exact h
theorem dc_out {a b : Option D} {O : DO} {Q : KVs → DO → Prop} : ∀ (vs : List Lv) (acc : List (Nat × Fr)), ((acc ++ flat vs).map (·.1)).Nodup → acc.length + (flat vs).length ≤ 1000 → Q (kvF (acc ++ flat vs)) O → dcOut (gdT 2 (gdCons (gdN 2) (gdCons (gdN 3) gdNil))) (tiSeq (tdV 3)) (gdN 4) (tdV 4) (tdV 2) [4] [a, b, none, none, none] (vs.map lvD) (kvF acc) O Q
  | [], acc, _, _, h => by
    rw [show flat [] = [] from rfl, List.append_nil] at h
    exact h
  | v :: vs, acc, hn, hl, h => by
    have e : flat (v :: vs) = (v.2.map fun i => (i, v.1)) ++ flat vs := rfl
    rw [e] at hn hl h
    rw [List.length_append, List.length_map] at hl
    refine dc_in v.2 acc ?_ (by omega) ?_
    · rw [← List.append_assoc, List.map_append, List.map_append] at hn
      have := (List.nodup_append.mp hn).1
      rw [List.map_map] at this
      have e2 : v.2.map (((·.1) : Nat × Fr → Nat) ∘ fun i => (i, v.1)) = v.2 := List.map_id _
      rwa [e2] at this
    · refine dc_out vs _ ?_ ?_ ?_
      · rw [List.append_assoc]; exact hn
      · rw [List.length_append, List.length_map]; omega
      · rw [List.append_assoc]; exact h
/-- the levels hold each thing below n once -/
structure Whole (vs : List Lv) (n : Nat) : Prop where
  nd : ((flat vs).map (·.1)).Nodup
  al : ∀ i, i ∈ (flat vs).map (·.1) ↔ i < n
  ln : (flat vs).length = n
  hn : n ≤ 100
def tabL (vs : List Lv) (n : Nat) : List Fr := (List.range n).map (gOf vs)
def gTable : GC := fun ds O Q => match ds with
  | [.lst ls] => ∃ vs n, ls = vs.map lvD ∧ Whole vs n ∧ Q (.tup ((tabL vs n).map frD)) O
  | _ => False
theorem k_table_by (c : Hd w K mg base aI aF aL aC cT pT) : Dl.Def prog w K mg base 1 "table_by" ["levels"] gTable := by
  have S : FnScope ["levels", "guesses", "guess", "lot", "one"] ["levels"] (defScope s_table_by) := C8.fnScope_by (by kernel_rfl)
  have hN := S.nd
  refine def_ok c.f_table_by S (fun _ _ _ _ _ _ us hl => match us, hl with | [_], _ => rfl) (fun ds O R h => ?_) fun f cdv A outer s H E hr => ⟨_, have hu := room64 hr; have hu5 := room65 hr; have hu1 := room1 hr; (s_cons (s_set 1 hN (d_dc2 (vs1 := [4]) rfl hN (i_seq (dv 0)) (blkOk_by (own := [("guess", 2), ("lot", 3), ("one", 4)]) (by kernel_rfl)) (fun _ _ _ _ _ => (g_tup (n := 2) rfl (gs_cons (g_name 2 hN) (gs_cons (g_name 3 hN) gs_nil)))) (fun _ _ _ _ _ => (i_seq (dv 3))) (fun _ _ _ _ _ => (g_name 4 hN)) (fun _ _ _ _ _ => (dv 4)) (fun _ _ _ _ _ => (dv 2))))
  (s_one (s_ret (d_callTy c_tuple c.m_tuple bt_tuple (a_cons (d_lc rfl hN (i_rng c.m_range (a_cons (d_callB c_lenD c.m_len bt_len (a_cons (dv 1) a_nil)) a_nil)) (blkOk_by (own := [("one", 4)]) (by kernel_rfl)) (fun _ _ _ _ _ => (g_name 4 hN)) (fun _ _ _ _ _ => ts_nil) (fun _ _ _ _ _ => (d_dget hu1 (dv 1) (dv 4)))) a_nil))))), fun ds O R h => ?_⟩
  · unfold gTable at h
    split at h <;> first | rfl | exact h.elim
  · unfold gTable at h
    split at h
    · obtain ⟨vs, n, rfl, W, h⟩ := h
      have hn := W.hn
      have hl := W.ln
      refine dc_out vs [] W.nd (by rw [List.length_nil]; omega) ?_
      rw [List.nil_append]
      intro p hp
      dsimp only [gdN, tdRet]
      refine call_v (cons_v ?_)
      dsimp only [tdLc]
      refine rng_v ?_
      refine lenD_v (i := 1) rfl updO_same ?_
      have e1 : (kvF (flat vs)).length = n := by unfold kvF; rw [List.length_map, hl]
      refine ⟨_, rfl, by rw [e1]; exact rngOk_nat (by omega), ?_⟩
      rw [e1, rng_map]
      refine lcD_map (List.range n) (fun (j : Nat) => D.int (j : Int)) (fun i => frD (gOf vs i)) (fun i hi K1 k => ?_) ?_
      · obtain ⟨q, hq⟩ := lkp_some ((W.al i).mpr (List.mem_range.mp hi))
        refine dget_v (i := 1) (j := 4) rfl updO_same rfl rfl (v := frD q) (by rw [look_kvF, hq]; rfl) ?_
        have e2 : gOf vs i = q := by unfold gOf; rw [hq]; rfl
        rw [e2] at k
        exact k
      · refine ⟨O, sub_upd hp (Sub.refl O), ?_⟩
        have e3 : (List.range n).map (fun i => frD (gOf vs i)) = (tabL vs n).map frD := by unfold tabL; rw [List.map_map]; rfl
        rw [e3]
        exact h
    · exact h.elim
theorem Bd.add {k : Nat} {i j : Int} (h : Bd k i) (g : Bd k j) : Bd (k + 1) (i + j) := by
  have h1 : i.natAbs < 2 ^ k := h
  have h2 : j.natAbs < 2 ^ k := g
  show (i + j).natAbs < 2 ^ (k + 1)
  rw [Nat.pow_succ]
  omega
/-- what one thing adds to the charge -/
def chAt (p g m : Fr) : Int := if 0 < m.1 - p.1 * m.2 ∧ under g m = false then p.2 * (m.1 - p.1 * m.2) else if m.1 - p.1 * m.2 ≤ 0 ∧ under g m = true then 0 - p.2 * (m.1 - p.1 * m.2) else 0
def gChargeAt : GC := fun ds O Q => match ds with
  | [.tup [.int a, .int b], .tup [.int x, .int y], .tup [.int u, .int v]] => (((Bd 20 a ∧ Bd 20 b) ∧ (Bd 100 x ∧ Bd 100 y)) ∧ (Bd 100 u ∧ Bd 100 v)) ∧ Q (.int (chAt (a, b) (x, y) (u, v))) O
  | _ => False
theorem k_charge_at (c : Hd w K mg base aI aF aL aC cT pT) : Dl.Def prog w K mg base 2 "charge_at" ["seen", "guess", "mark"] gChargeAt := by
  have k_is_under := k_is_under c
  have S : FnScope ["seen", "guess", "mark", "worth", "weight", "over", "is_high"] ["seen", "guess", "mark"] (defScope s_charge_at) := C8.fnScope_by (by kernel_rfl)
  have hN := S.nd
  refine def_ok c.f_charge_at S (fun _ _ _ _ _ _ us hl => match us, hl with | [_, _, _], _ => rfl) (fun ds O R h => ?_) fun f cdv A outer s H E hr => ⟨_, have hu := room64 hr; have hu5 := room65 hr; have hu1 := room1 hr; (s_cons (s_asg (dv 0) (g_tup (n := 2) rfl (gs_cons (g_name 3 hN) (gs_cons (g_name 4 hN) gs_nil))))
  (s_cons (s_set 5 hN (d_op o_sub (d_ix (dv 2) d_int) (d_op o_mul (dv 3) (d_ix (dv 2) d_int))))
  (s_cons (s_set 6 hN (d_not (d_call k_is_under hr (by decide) (a_cons (dv 1) (a_cons (dv 2) a_nil)))))
  (s_cons (s_if (t_w (w_and (t_cmp o_gt (dv 5) d_int) (w_and1 (t_val (dv 6)))))
  (s_one (s_ret (d_op o_mul (dv 4) (dv 5))))
  s_nil)
  (s_one (s_ret (d_if (t_w (w_and (t_cmp o_le (dv 5) d_int) (w_and1 (t_not (t_val (dv 6)))))) (d_op o_sub d_int (d_op o_mul (dv 4) (dv 5))) d_int))))))), fun ds O R h => ?_⟩
  · unfold gChargeAt at h
    split at h <;> first | rfl | exact h.elim
  · unfold gChargeAt at h
    split at h
    · rename_i a b x y u v
      obtain ⟨⟨⟨⟨ha, hb⟩, hx, hy⟩, hu', hv⟩, h⟩ := h
      have hav := (ha.mul hv).mono (l := 120) (by decide)
      have ho := (hu'.mono (l := 120) (by decide)).sub hav
      refine needB_i rfl ?_
      refine ⟨sm_mul (ha.sm (by decide)) (hv.sm (by decide)), ?_⟩
      refine ⟨⟨⟨hx.sm (by decide), hy.sm (by decide)⟩, hu'.sm (by decide), hv.sm (by decide)⟩, ?_⟩
      have hm : CMulW b (u - a * v) := sm_mul (hb.sm (by decide)) (ho.sm (by decide))
      unfold chAt at h
      dsimp only at h
      cases e : under (x, y) (u, v) with
      | true =>
        rw [e] at h
        rw [if_neg (fun z => by cases z.2)] at h
        refine iteB_i (c := decide (0 < u - a * v)) (fun e1 => ?_) (fun e1 => ?_)
        · have e1 := of_decide_eq_true e1
          rw [if_neg (fun z => by have := z.1; omega)] at h
          refine tt_v (i := 6) (b := false) rfl ?_
          refine iteB_f rfl ?_
          refine iteB_i (c := decide (u - a * v ≤ 0)) (fun e2 => ?_) (fun e2 => ?_)
          · have e2 := of_decide_eq_true e2
            exact absurd e1 (by omega)
          · exact Fin.i h
        · have e1 := of_decide_eq_false e1
          rw [if_pos ⟨by omega, rfl⟩] at h
          refine iteB_i (c := decide (u - a * v ≤ 0)) (fun e2 => ?_) (fun e2 => ?_)
          · exact ⟨hm, Fin.i h⟩
          · have e2 := of_decide_eq_false e2
            exact absurd e1 (by omega)
      | false =>
        rw [e] at h
        refine iteB_i (c := decide (0 < u - a * v)) (fun e1 => ?_) (fun e1 => ?_)
        · have e1 := of_decide_eq_true e1
          rw [if_pos ⟨e1, rfl⟩] at h
          exact ⟨hm, Fin.i h⟩
        · have e1 := of_decide_eq_false e1
          rw [if_neg (fun z => by have := z.1; omega), if_neg (fun z => by cases z.2)] at h
          refine iteB_i (c := decide (u - a * v ≤ 0)) (fun e2 => ?_) (fun e2 => ?_)
          · exact Fin.i h
          · exact Fin.i h
    · exact h.elim
def chargeF (f : Fd) (m : Fr) (t : List Fr) : Fr := mk ((f.seen.zip t).map fun z => chAt z.1 z.2 m).sum m.2
def gCharge : GC := fun ds O Q => match ds with
  | [fd, .tup [.int u, .int v], .tup ts] => ∃ f t, FdOk f ∧ fd = fdD f ∧ ts = t.map frD ∧ (∀ p ∈ t, BdF 100 p) ∧ BdF 100 (u, v) ∧ v ≠ 0 ∧ Q (frD (chargeF f (u, v) t)) O
  | _ => False
theorem k_charge_in (c : Hd w K mg base aI aF aL aC cT pT) : Dl.Def prog w K mg base 3 "charge_in" ["field", "mark", "table"] gCharge := by
  have k_charge_at := k_charge_at c
  have k_made := k_made c
  have S : FnScope ["field", "mark", "table", "parts", "seen", "guess"] ["field", "mark", "table"] (defScope s_charge_in) := C8.fnScope_by (by kernel_rfl)
  have hN := S.nd
  refine def_ok c.f_charge_in S (fun _ _ _ _ _ _ us hl => match us, hl with | [_, _, _], _ => rfl) (fun ds O R h => ?_) fun f cdv A outer s H E hr => ⟨_, have hu := room64 hr; have hu5 := room65 hr; have hu1 := room1 hr; (s_cons (s_setLc 3 rfl hN (sw_true rfl rfl rfl rfl) (i_zip c.m_zip (a_cons (d_ix (dv 0) d_int) (a_cons (dv 2) a_nil))) (blkOk_by (own := [("seen", 4), ("guess", 5)]) (by kernel_rfl)) (fun _ _ _ _ _ => (g_tup (n := 2) rfl (gs_cons (g_name 4 hN) (gs_cons (g_name 5 hN) gs_nil)))) (fun _ _ _ _ _ => ts_nil) (fun _ _ _ _ _ => (d_call k_charge_at hr (by decide) (a_cons (dv 4) (a_cons (dv 5) (a_cons (dv 1) a_nil))))))
  (s_one (s_ret (d_call k_made hr (by decide) (a_cons (d_callB (c_sum rfl) c.m_sum bt_sum (a_cons (dv 3) a_nil)) (a_cons (d_ix (dv 1) d_int) a_nil)))))), fun ds O R h => ?_⟩
  · unfold gCharge at h
    split at h <;> first | rfl | exact h.elim
  · unfold gCharge at h
    split at h
    · rename_i fd u v ts
      obtain ⟨f, t, ok, rfl, rfl, hb, hm, h0, h⟩ := h
      show lcD _ _ _ _ (zipD (f.seen.map frD) (t.map frD)) _ _ _
      rw [zip_map]
      refine lcD_map (f.seen.zip t) (fun p => .tup [frD p.1, frD p.2]) (fun z => .int (chAt z.1 z.2 (u, v))) (fun z hz K1 k => ?_) ?_
      · obtain ⟨⟨a, b⟩, ⟨x, y⟩⟩ := z
        have h1 := ok.bd _ (List.of_mem_zip hz).1
        have h2 := hb _ (List.of_mem_zip hz).2
        dsimp only at h1
        refine needB_i rfl ?_
        exact ⟨⟨⟨⟨show a.natAbs < 2 ^ 20 by omega, show b.natAbs < 2 ^ 20 by omega⟩, h2⟩, hm⟩, k⟩
      · dsimp only [gdN, tdRet]
        refine call_v (cons_v (call_v (cons_v ?_)))
        refine v_i (i := 3) rfl ?_
        dsimp only [tdNil]
        refine gSum_map _ _ ?_
        exact ⟨⟨h0, hm.2.sm (by decide)⟩, Fin.i h⟩
    · exact h.elim
end
end Ri

set_option maxRecDepth 100000
set_option maxHeartbeats 2000000
/-! THE DEFS, 7: terms. -/
namespace Ri
open PySem PySem.Spec PyProof.Rows L2 Dl
def tdNevE : TD := fun _ _ _ => False
theorem d_never {X : Cx} {e : Expr} : PD X e tdNevE := ⟨fun _ _ _ _ _ _ ⟨_, _, _, _, _, _, h, _⟩ => h.elim⟩
inductive Tm where
  | thing (a b : Int)
  | none
  | besd (s t : Tm)
  | belw (s t : Tm)
  | row (t : Tm) (k : Int)
  | turned (t : Tm)
  | moved (t : Tm) (k : Int)
  | times (t : Tm) (k : Int)
def wdT : Tm → Str
  | .thing _ _ => "thing"
  | .none => "none"
  | .besd _ _ => "beside"
  | .belw _ _ => "below"
  | .row _ _ => "row"
  | .turned _ => "turned"
  | .moved _ _ => "moved"
  | .times _ _ => "times"
def tmD : Tm → D
  | .thing a b => .tup [.str (wdT (.thing a b)), .int a, .int b]
  | .none => .tup [.str (wdT .none)]
  | .besd s t => .tup [.str (wdT (.besd s t)), tmD s, tmD t]
  | .belw s t => .tup [.str (wdT (.belw s t)), tmD s, tmD t]
  | .row t k => .tup [.str (wdT (.row t k)), tmD t, .int k]
  | .turned t => .tup [.str (wdT (.turned t)), tmD t]
  | .moved t k => .tup [.str (wdT (.moved t k)), tmD t, .int k]
  | .times t k => .tup [.str (wdT (.times t k)), tmD t, .int k]
/-- its own numbers are within the bounds -/
def hereB : Tm → Bool
  | .thing a b => seenB (a, b)
  | .row _ k => btw k 1 10
  | .moved _ k => btw k (-2000) 2000
  | .times _ k => btw k 1 1000
  | _ => true
section
variable {w : World} {K : PySem.W.Frag} {mg : Str → Option Value} {base : Heap} {aI aF aL aC cT pT : Addr}
def gOwnForm : GC := fun ds O Q => match ds with
  | [d] => ∃ t, d = tmD t ∧ hereB t = true ∧ Q (.bl true) O
  | _ => False
theorem k_is_own_form (c : Hd w K mg base aI aF aL aC cT pT) : Dl.Def prog w K mg base 4 "is_own_form" ["term"] gOwnForm := by
  have k_is_between := k_is_between c
  have k_is_seen := k_is_seen c
  have S : FnScope ["term", "word"] ["term"] (defScope s_is_own_form) := C8.fnScope_by (by kernel_rfl)
  have hN := S.nd
  refine def_ok c.f_is_own_form S (fun _ _ _ _ _ _ us hl => match us, hl with | [_], _ => rfl) (fun ds O R h => ?_) fun f cdv A outer s H E hr => ⟨_, have hu := room64 hr; have hu5 := room65 hr; have hu1 := room1 hr; (s_cons (s_set 1 hN (d_ix (dv 0) d_int))
  (s_cons (s_if (t_cmp (o_eq hu) (dv 1) (d_gl (c.g_THING.d rfl rfl)))
  (s_one (s_ret (d_call k_is_seen hr (by decide) (a_cons (d_sl (dv 0) (p_at d_int) p_no) a_nil))))
  s_nil)
  (s_cons (s_if (t_cmp (o_eq hu) (dv 1) (d_gl (c.g_ROW.d rfl rfl)))
  (s_one (s_ret (d_call k_is_between hr (by decide) (a_cons (d_ix (dv 0) d_int) (a_cons d_int (a_cons (d_gl (c.g_MOST_THINGS.d rfl rfl)) a_nil))))))
  s_nil)
  (s_cons (s_if (t_cmp (o_eq hu) (dv 1) (d_gl (c.g_MOVED.d rfl rfl)))
  (s_one (s_ret (d_call k_is_between hr (by decide) (a_cons (d_ix (dv 0) d_int) (a_cons (d_op o_sub d_int (d_gl (c.g_MOST_MOVE.d rfl rfl))) (a_cons (d_gl (c.g_MOST_MOVE.d rfl rfl)) a_nil))))))
  s_nil)
  (s_cons (s_if (t_cmp (o_eq hu) (dv 1) (d_gl (c.g_TIMES.d rfl rfl)))
  (s_one (s_ret (d_call k_is_between hr (by decide) (a_cons (d_ix (dv 0) d_int) (a_cons d_int (a_cons (d_gl (c.g_MOST_TIMES.d rfl rfl)) a_nil))))))
  s_nil)
  (s_cons (s_if (t_cmp (o_eq hu) (dv 1) (d_gl (c.g_TIED.d rfl rfl))) (s_one s_never) s_nil)
  (s_one (s_ret (d_or (d_cmp (o_ne hu) (dv 1) (d_gl (c.g_ONLY.d rfl rfl))) (d_one d_never)))))))))), fun ds O R h => ?_⟩
  · unfold gOwnForm at h
    split at h <;> first | rfl | exact h.elim
  · unfold gOwnForm at h
    split at h
    · obtain ⟨t, rfl, e, h⟩ := h
      cases t with
      | thing a b =>
        have h2 : Fin R (.bl (hereB (.thing a b))) O := by rw [e]; exact Fin.i h
        exact h2
      | none => exact Fin.i h
      | besd s t => exact Fin.i h
      | belw s t => exact Fin.i h
      | row t k =>
        have h2 : Fin R (.bl (hereB (.row t k))) O := by rw [e]; exact Fin.i h
        exact h2
      | turned t => exact Fin.i h
      | moved t k =>
        have h2 : Fin R (.bl (hereB (.moved t k))) O := by rw [e]; exact Fin.i h
        exact h2
      | times t k =>
        have h2 : Fin R (.bl (hereB (.times t k))) O := by rw [e]; exact Fin.i h
        exact h2
    · exact h.elim
def dep : Tm → Nat
  | .thing _ _ => 1
  | .none => 1
  | .besd s t => max (dep s) (dep t) + 1
  | .belw s t => max (dep s) (dep t) + 1
  | .row t _ => dep t + 1
  | .turned t => dep t + 1
  | .moved t _ => dep t + 1
  | .times t _ => dep t + 1
theorem strOk_wd : ∀ t : Tm, PyData.strOk (wdT t) = true
  | .thing _ _ => (by decide +kernel : PyData.strOk "thing" = true)
  | .none => (by decide +kernel : PyData.strOk "none" = true)
  | .besd _ _ => (by decide +kernel : PyData.strOk "beside" = true)
  | .belw _ _ => (by decide +kernel : PyData.strOk "below" = true)
  | .row _ _ => (by decide +kernel : PyData.strOk "row" = true)
  | .turned _ => (by decide +kernel : PyData.strOk "turned" = true)
  | .moved _ _ => (by decide +kernel : PyData.strOk "moved" = true)
  | .times _ _ => (by decide +kernel : PyData.strOk "times" = true)
theorem ok_wd (n : Nat) (t : Tm) : okD n (.str (wdT t)) = true := by cases n <;> exact strOk_wd t
theorem okD_int (n : Nat) (k : Int) : okD n (.int k) = true := by cases n <;> rfl
theorem okD_tm : ∀ {n : Nat} (t : Tm), dep t ≤ n → okD n (tmD t) = true
  | 0, t, h => by cases t <;> simp [dep] at h
  | n + 1, .thing a b, h => by
    show (okD n (.str _) && (okD n (.int a) && (okD n (.int b) && true))) = true
    rw [ok_wd, okD_int, okD_int]
    rfl
  | n + 1, .none, h => by
    show (okD n (.str _) && true) = true
    rw [ok_wd]
    rfl
  | n + 1, .besd s t, h => by
    have h : max (dep s) (dep t) + 1 ≤ n + 1 := h
    show (okD n (.str _) && (okD n (tmD s) && (okD n (tmD t) && true))) = true
    rw [okD_tm s (by omega), okD_tm t (by omega), ok_wd]
    rfl
  | n + 1, .belw s t, h => by
    have h : max (dep s) (dep t) + 1 ≤ n + 1 := h
    show (okD n (.str _) && (okD n (tmD s) && (okD n (tmD t) && true))) = true
    rw [okD_tm s (by omega), okD_tm t (by omega), ok_wd]
    rfl
  | n + 1, .row t k, h => by
    have h : dep t + 1 ≤ n + 1 := h
    show (okD n (.str _) && (okD n (tmD t) && (okD n (.int k) && true))) = true
    rw [okD_tm t (by omega), ok_wd, okD_int]
    rfl
  | n + 1, .turned t, h => by
    have h : dep t + 1 ≤ n + 1 := h
    show (okD n (.str _) && (okD n (tmD t) && true)) = true
    rw [okD_tm t (by omega), ok_wd]
    rfl
  | n + 1, .moved t k, h => by
    have h : dep t + 1 ≤ n + 1 := h
    show (okD n (.str _) && (okD n (tmD t) && (okD n (.int k) && true))) = true
    rw [okD_tm t (by omega), ok_wd, okD_int]
    rfl
  | n + 1, .times t k, h => by
    have h : dep t + 1 ≤ n + 1 := h
    show (okD n (.str _) && (okD n (tmD t) && (okD n (.int k) && true))) = true
    rw [okD_tm t (by omega), ok_wd, okD_int]
    rfl
def gForm : GC := fun ds O Q => match ds with
  | [d] => ∃ t, d = tmD t ∧ hereB t = true ∧ dep t ≤ 50 ∧ Q (.bl true) O
  | _ => False
theorem k_is_form (c : Hd w K mg base aI aF aL aC cT pT) : Dl.Def prog w K mg base 5 "is_form" ["thing"] gForm := by
  have k_is_own_form := k_is_own_form c
  have S : FnScope ["thing"] ["thing"] (defScope s_is_form) := C8.fnScope_by (by kernel_rfl)
  have hN := S.nd
  refine def_ok c.f_is_form S (fun _ _ _ _ _ _ us hl => match us, hl with | [_], _ => rfl) (fun ds O R h => ?_) fun f cdv A outer s H E hr => ⟨_, have hu := room64 hr; have hu5 := room65 hr; have hu1 := room1 hr; (s_cons (s_if (t_w (w_or (t_not (t_val (d_isi (dv 0) c.m_isinstance c.m_tuple bt_tuple))) (w_or (t_cmp (o_eq hu) (dv 0) (d_tup a_nil)) (w_or1 (t_not (t_val (d_isi (d_ix (dv 0) d_int) c.m_isinstance c.m_str bt_str)))))))
  (s_one (s_ret d_bl))
  s_nil)
  (s_one (s_ret (d_and (d_cmp (o_eq hu) (d_wget c.wd (d_gl (c.g_LENGTHS.d rfl rfl)) (d_ix (dv 0) d_int)) (d_callB c_len c.m_len bt_len (a_cons (dv 0) a_nil))) (d_one (d_call k_is_own_form hr (by decide) (a_cons (dv 0) a_nil))))))), fun ds O R h => ?_⟩
  · unfold gForm at h
    split at h <;> first | rfl | exact h.elim
  · unfold gForm at h
    split at h
    · obtain ⟨t, rfl, e, hd, h⟩ := h
      have ok := okD_tm (n := 60) t (by omega)
      cases t with
      | thing a b => exact ⟨ok, rfl, rfl, _, rfl, e, Fin.i h⟩
      | none => exact ⟨ok, rfl, rfl, _, rfl, e, Fin.i h⟩
      | besd s t => exact ⟨ok, rfl, rfl, _, rfl, e, Fin.i h⟩
      | belw s t => exact ⟨ok, rfl, rfl, _, rfl, e, Fin.i h⟩
      | row t k => exact ⟨ok, rfl, rfl, _, rfl, e, Fin.i h⟩
      | turned t => exact ⟨ok, rfl, rfl, _, rfl, e, Fin.i h⟩
      | moved t k => exact ⟨ok, rfl, rfl, _, rfl, e, Fin.i h⟩
      | times t k => exact ⟨ok, rfl, rfl, _, rfl, e, Fin.i h⟩
    · exact h.elim
def plc : Tm → List Nat
  | .thing _ _ => []
  | .none => []
  | .besd _ _ => [1, 2]
  | .belw _ _ => [1, 2]
  | .row _ _ => [1]
  | .turned _ => [1]
  | .moved _ _ => [1]
  | .times _ _ => [1]
def gPlaces : GC := fun ds O Q => match ds with
  | [d] => ∃ t, d = tmD t ∧ Q (.tup (natD (plc t))) O
  | _ => False
theorem k_places_in (c : Hd w K mg base aI aF aL aC cT pT) : Dl.Def prog w K mg base 1 "places_in" ["term"] gPlaces := by
  have S : FnScope ["term"] ["term"] (defScope s_places_in) := C8.fnScope_by (by kernel_rfl)
  have hN := S.nd
  refine def_ok c.f_places_in S (fun _ _ _ _ _ _ us hl => match us, hl with | [_], _ => rfl) (fun ds O R h => ?_) fun f cdv A outer s H E hr => ⟨_, have hu := room64 hr; have hu5 := room65 hr; have hu1 := room1 hr; (s_cons (s_if (t_cmp (o_in hu5) (d_ix (dv 0) d_int) (d_gl (c.g_DOUBLE.d rfl rfl)))
  (s_one (s_ret (d_tup (a_cons d_int (a_cons d_int a_nil)))))
  s_nil)
  (s_one (s_ret (d_if (t_cmp (o_notin hu5) (d_ix (dv 0) d_int) (d_gl (c.g_LEAVES.d rfl rfl))) (d_tup (a_cons d_int a_nil)) (d_tup a_nil))))), fun ds O R h => ?_⟩
  · unfold gPlaces at h
    split at h <;> first | rfl | exact h.elim
  · unfold gPlaces at h
    split at h
    · obtain ⟨t, rfl, h⟩ := h
      have h1 : (okD 60 (.str (wdT t)) && okDs 59 [D.str "beside", D.str "below"]) = true := Bool.and_eq_true_iff.mpr ⟨strOk_wd t, by decide +kernel⟩
      have h2 : (okD 60 (.str (wdT t)) && okDs 59 [D.str "thing", D.str "none"]) = true := Bool.and_eq_true_iff.mpr ⟨strOk_wd t, by decide +kernel⟩
      cases t with
      | thing a b => exact needB_i h1 (needB_i h2 (Fin.i h))
      | none => exact needB_i h1 (needB_i h2 (Fin.i h))
      | besd s t => exact needB_i h1 (Fin.i h)
      | belw s t => exact needB_i h1 (Fin.i h)
      | row t k => exact needB_i h1 (needB_i h2 (Fin.i h))
      | turned t => exact needB_i h1 (needB_i h2 (Fin.i h))
      | moved t k => exact needB_i h1 (needB_i h2 (Fin.i h))
      | times t k => exact needB_i h1 (needB_i h2 (Fin.i h))
    · exact h.elim
end
end Ri

set_option maxRecDepth 100000
set_option maxHeartbeats 2000000
/-! THE DEFS, 8: the paths of a term. -/
namespace Ri
open PySem PySem.Spec PyProof.Rows L2 Dl
def kid : Tm → Nat → Tm
  | .besd s t, k => if k = 1 then s else t
  | .belw s t, k => if k = 1 then s else t
  | .row t _, _ => t
  | .turned t, _ => t
  | .moved t _, _ => t
  | .times t _, _ => t
  | t, _ => t
def ptl : Tm → List Nat → List (List Nat)
  | .thing _ _, p => [p]
  | .none, p => [p]
  | .besd s t, p => p :: (ptl s (p ++ [1]) ++ ptl t (p ++ [2]))
  | .belw s t, p => p :: (ptl s (p ++ [1]) ++ ptl t (p ++ [2]))
  | .row t _, p => p :: ptl t (p ++ [1])
  | .turned t, p => p :: ptl t (p ++ [1])
  | .moved t _, p => p :: ptl t (p ++ [1])
  | .times t _, p => p :: ptl t (p ++ [1])
theorem ptl_eq (t : Tm) (p : List Nat) : ptl t p = p :: (plc t).flatMap fun k => ptl (kid t k) (p ++ [k]) := by
  cases t <;> simp [ptl, plc, kid]
def okT : Tm → Bool
  | .thing a b => seenB (a, b)
  | .none => true
  | .besd s t => okT s && okT t
  | .belw s t => okT s && okT t
  | .row t k => btw k 1 10 && okT t
  | .turned t => okT t
  | .moved t k => btw k (-2000) 2000 && okT t
  | .times t k => btw k 1 1000 && okT t
theorem okT_here {t : Tm} (h : okT t = true) : hereB t = true := by
  cases t <;> simp only [okT, hereB, Bool.and_eq_true] at h ⊢ <;> first | exact h | exact h.1
theorem okT_kid {t : Tm} (h : okT t = true) {k : Nat} (hk : k ∈ plc t) : okT (kid t k) = true ∧ dep (kid t k) < dep t := by
  cases t with
  | thing a b => simp [plc] at hk
  | none => simp [plc] at hk
  | besd s t =>
    simp only [okT, Bool.and_eq_true] at h
    simp only [kid, dep]
    split
    · exact ⟨h.1, by omega⟩
    · exact ⟨h.2, by omega⟩
  | belw s t =>
    simp only [okT, Bool.and_eq_true] at h
    simp only [kid, dep]
    split
    · exact ⟨h.1, by omega⟩
    · exact ⟨h.2, by omega⟩
  | row t k => simp only [okT, Bool.and_eq_true] at h; exact ⟨h.2, Nat.lt_succ_self _⟩
  | turned t => exact ⟨h, Nat.lt_succ_self _⟩
  | moved t k => simp only [okT, Bool.and_eq_true] at h; exact ⟨h.2, Nat.lt_succ_self _⟩
  | times t k => simp only [okT, Bool.and_eq_true] at h; exact ⟨h.2, Nat.lt_succ_self _⟩
theorem tm_kid (t : Tm) : ∃ ds, tmD t = .tup ds ∧ ∀ k ∈ plc t, ds[k]? = some (tmD (kid t k)) := by
  cases t with
  | thing a b => exact ⟨_, rfl, fun k hk => by simp [plc] at hk⟩
  | none => exact ⟨_, rfl, fun k hk => by simp [plc] at hk⟩
  | besd s t =>
    refine ⟨_, rfl, fun k hk => ?_⟩
    have hk : k = 1 ∨ k = 2 := by simpa [plc] using hk
    rcases hk with rfl | rfl <;> rfl
  | belw s t =>
    refine ⟨_, rfl, fun k hk => ?_⟩
    have hk : k = 1 ∨ k = 2 := by simpa [plc] using hk
    rcases hk with rfl | rfl <;> rfl
  | row t k =>
    refine ⟨_, rfl, fun k hk => ?_⟩
    have hk : k = 1 := by simpa [plc] using hk
    subst hk
    rfl
  | turned t =>
    refine ⟨_, rfl, fun k hk => ?_⟩
    have hk : k = 1 := by simpa [plc] using hk
    subst hk
    rfl
  | moved t k =>
    refine ⟨_, rfl, fun k hk => ?_⟩
    have hk : k = 1 := by simpa [plc] using hk
    subst hk
    rfl
  | times t k =>
    refine ⟨_, rfl, fun k hk => ?_⟩
    have hk : k = 1 := by simpa [plc] using hk
    subst hk
    rfl
theorem okDs_nat : ∀ (n : Nat) (l : List Nat), okDs n (natD l) = true
  | n, [] => by cases n <;> rfl
  | n, i :: l => by
    show (okD n (.int (i : Int)) && okDs n (natD l)) = true
    rw [okD_int, okDs_nat n l]
    rfl
theorem okD_lot (n : Nat) (l : List Nat) : okD (n + 1) (lotD l) = true := okDs_nat n l
def stD (x : List Nat × Tm) : D := .tup [lotD x.1, tmD x.2]
theorem okDs_st : ∀ (W : List (List Nat × Tm)), (∀ x ∈ W, dep x.2 ≤ 50) → okDs 59 (W.map stD) = true
  | [], _ => rfl
  | x :: W, h => by
    show (okD 59 (stD x) && okDs 59 (W.map stD)) = true
    rw [okDs_st W fun y hy => h y (List.mem_cons_of_mem _ hy)]
    show ((okD 58 (lotD x.1) && (okD 58 (tmD x.2) && true)) && true) = true
    rw [okD_lot 57, okD_tm x.2 (by have := h x List.mem_cons_self; omega)]
    rfl
section
variable {w : World} {K : PySem.W.Frag} {mg : Str → Option Value} {base : Heap} {aI aF aL aC cT pT : Addr}
theorem op_l {g : GOp} {ta tb : TD} {env : DEnv} {O : DO} {Q : D → DO → Prop} (h : ta env O fun x O1 => tb env O1 fun y O2 => g O2 x y fun d => Q d O2) : tdOp g ta tb env O Q := h
theorem tt_l {ta : TD} {env : DEnv} {O : DO} {Q : Bool → DO → Prop} (h : ta env O fun x O1 => match x with
  | .bl b => Q b O1
  | _ => False) : tdT ta env O Q := h
theorem lenO_v {i : Nat} {env : DEnv} {O : DO} {p : Addr} {xs : List D} {Q : D → DO → Prop} (hi : lk env i = some (.ptr p)) (hp : O p = some (.lst xs)) (h : Q (.int (xs.length : Int)) O) : tdCall gLen (tdCons (tdV i) tdNil) env O Q := by
  unfold tdCall tdCons tdNil tdV gLen
  simp only [hi]
  rw [deref_ptr hp]
  exact h
def gPaths : GC := fun ds O Q => match ds with
  | [d] => ∃ t, d = tmD t ∧ okT t = true ∧ dep t ≤ 8 ∧ (ptl t []).length ≤ 19 ∧ Q (.lst ((ptl t []).map lotD)) O
  | _ => False
theorem k_paths_in (c : Hd w K mg base aI aF aL aC cT pT) : Dl.Def prog w K mg base 6 "paths_in" ["term"] gPaths := by
  have k_is_form := k_is_form c
  have k_places_in := k_places_in c
  have S : FnScope ["term", "found", "waiting", "path", "here", "place"] ["term"] (defScope s_paths_in) := C8.fnScope_by (by kernel_rfl)
  have hN := S.nd
  refine def_ok c.f_paths_in S (fun _ _ _ _ _ _ us hl => match us, hl with | [_], _ => rfl) (fun ds O R h => ?_) fun f cdv A outer s H E hr => ⟨_, have hu := room64 hr; have hu5 := room65 hr; have hu1 := room1 hr; (s_cons (s_par2 1 2 rfl hN (a_cons (d_lstO a_nil) (a_cons (d_lstO (a_cons (d_tup (a_cons (d_tup a_nil) (a_cons (dv 0) a_nil))) a_nil)) a_nil)))
  (s_cons (s_while PassesOwn.never (t_cmp (o_ne hu) (dv 2) (d_lst a_nil)) (s_cons (s_asg (d_pop (dv 2)) (g_tup (n := 2) rfl (gs_cons (g_name 3 hN) (gs_cons (g_name 4 hN) gs_nil))))
  (s_cons (s_if (t_w (w_or (t_cmp (o_eq hu) (d_callB c_len c.m_len bt_len (a_cons (dv 1) a_nil)) (d_gl (c.g_MOST_WORDS.d rfl rfl))) (w_or1 (t_cmp o_ge (d_callB c_len c.m_len bt_len (a_cons (dv 3) a_nil)) (d_gl (c.g_MOST_DEEP.d rfl rfl)))))) (s_one s_never) s_nil)
  (s_cons (s_if (t_not (t_val (d_call k_is_form hr (by decide) (a_cons (dv 4) a_nil)))) (s_one s_never) s_nil)
  (s_cons (s_expr (d_app (dv 1) (a_cons (dv 3) a_nil)))
  (s_one (s_for PassesOwn.never rfl (i_seq (d_revT (d_call k_places_in hr (by decide) (a_cons (dv 4) a_nil)))) (g_name 5 hN) (s_one (s_expr (d_app (dv 2) (a_cons (d_tup (a_cons (d_tup (a_star (dv 3) (a_cons (dv 5) a_nil))) (a_cons (d_ix (dv 4) (dv 5)) a_nil))) a_nil)))))))))))
  (s_one (s_ret (d_fz (dv 1)))))), fun ds O R h => ?_⟩
  · unfold gPaths at h
    split at h <;> first | rfl | exact h.elim
  · unfold gPaths at h
    split at h
    rotate_left
    · exact h.elim
    obtain ⟨t, rfl, ht, hd, hl, h⟩ := h
    refine needB_i rfl fun p1 hp1 => needB_i rfl fun p2 hp2 => ?_
    have n21 : p2 ≠ p1 := fun z => by rw [z, updO_same] at hp2; cases hp2
    rw [updO_ne n21] at hp2
    refine while_ind (fun m env O' => ∃ fs W, m = (ptl t []).length - fs.length ∧ (∃ x3 x4 x5, env = [some (tmD t), some (.ptr p1), some (.ptr p2), x3, x4, x5]) ∧ O' p1 = some (.lst (fs.map lotD)) ∧ O' p2 = some (.lst (W.map stD)) ∧ Sub O O' ∧ fs ++ W.reverse.flatMap (fun x => ptl x.2 x.1) = ptl t [] ∧ ∀ x ∈ W, okT x.2 = true ∧ x.1.length + dep x.2 ≤ 8)
      (fun m env O' N h1 k => ?_) (m := (ptl t []).length - 0) ⟨[], [([], t)], rfl, ⟨_, _, _, rfl⟩, ?_, ?_, ?_, ?_, ?_⟩
    rotate_left
    · rw [updO_ne (Ne.symm n21), updO_same]
      rfl
    · rw [updO_same]
      rfl
    · exact sub_upd hp2 (sub_upd hp1 (Sub.refl O))
    · show [] ++ (ptl t [] ++ []) = _
      rw [List.append_nil]
      rfl
    · intro x hx
      have : x = ([], t) := by simpa using hx
      subst this
      exact ⟨ht, by simpa using hd⟩
    obtain ⟨fs, W, rfl, ⟨x3, x4, x5, rfl⟩, h1, h2, hS, he, hW⟩ := h1
    refine ne_nil_v rfl h2 (okDs_st W fun x hx => by have := (hW x hx).2; omega) ?_
    rcases List.eq_nil_or_concat W with rfl | ⟨W, x, rfl⟩
    · refine iteB_f rfl ?_
      have he : fs ++ [] = ptl t [] := he
      rw [List.append_nil] at he
      subst he
      dsimp only [tdRet]
      exact fz_v rfl h1 ⟨O, Sub.off hp1 hS, h⟩
    · rw [List.concat_eq_append] at h2 he hW
      obtain ⟨p, s⟩ := x
      refine iteB_t (by simp) ?_
      rw [List.map_append] at h2
      dsimp only [tdSeq, tdAsg]
      refine pop_v (i := 2) rfl h2 ?_
      dsimp only [gdT]
      refine needB_i rfl ?_
      obtain ⟨hs, hsl⟩ := hW (p, s) (List.mem_append_right _ List.mem_cons_self)
      have hsl : p.length + dep s ≤ 8 := hsl
      have h0 : 0 < dep s := by cases s <;> exact Nat.zero_lt_succ _
      rw [List.reverse_append] at he
      have he : fs ++ (ptl s p ++ W.reverse.flatMap (fun x => ptl x.2 x.1)) = ptl t [] := he
      rw [ptl_eq s p] at he
      have hlen : fs.length < (ptl t []).length := by
        rw [← he, List.length_append, List.cons_append, List.length_cons]
        omega
      dsimp only [gdCons, gdN, gdNil, tdSeq, tdIfS, tdOr]
      refine tt_l (op_l (lenO_v (i := 1) rfl (by rw [updO_ne (Ne.symm n21)]; exact h1) ?_))
      refine iteB_f (decide_eq_false (by rw [List.length_map]; omega)) ?_
      refine tt_l (op_l (?_ : tdCall gLen _ _ _ _))
      refine call1_v (i := 3) rfl ?_
      refine iteB_f (decide_eq_false (by rw [natD_length]; omega)) ?_
      dsimp only [tdNx, tdNot]
      refine tt_l (call1_v (i := 4) rfl ⟨s, rfl, okT_here hs, by omega, ?_⟩)
      refine iteB_f rfl ?_
      dsimp only [tdNx, tdSeq, tdExpr]
      refine app_v (i := 1) rfl (by rw [updO_ne (Ne.symm n21)]; exact h1) ?_
      refine v_i (i := 3) rfl ⟨_, by rw [updO_ne (Ne.symm n21)]; exact h1, by rw [List.length_map]; omega, ?_⟩
      dsimp only [tdFor, tiSeq, tdRevT]
      refine call1_v (i := 4) rfl ⟨s, rfl, ?_⟩
      show forD _ _ (natD (plc s)).reverse _ _ _
      have er : (natD (plc s)).reverse = natD (plc s).reverse := List.map_reverse.symm
      rw [er]
      have emap : fs.map lotD ++ [lotD p] = (fs ++ [p]).map lotD := by rw [List.map_append]; rfl
      rw [emap]
      obtain ⟨ds, e1, e2⟩ := tm_kid s
      refine for_ind (fun rem env O2 => ∃ a r, (plc s).reverse = a ++ r ∧ rem = natD r ∧ (∃ x5, env = [some (tmD t), some (.ptr p1), some (.ptr p2), some (lotD p), some (tmD s), x5]) ∧ O2 p1 = some (.lst ((fs ++ [p]).map lotD)) ∧ O2 p2 = some (.lst ((W ++ a.map fun k => (p ++ [k], kid s k)).map stD)) ∧ Sub O O2)
        (fun d r env O2 N2 g1 k2 => ?_) (fun env O2 g1 => ?_) ⟨[], (plc s).reverse, rfl, rfl, ⟨_, rfl⟩, ?_, ?_, ?_⟩
      · obtain ⟨a, r, ha, hr, ⟨x5, rfl⟩, b1, b2, bS⟩ := g1
        cases r with
        | nil => cases hr
        | cons q r =>
          injection hr with c1 c2
          subst c1 c2
          have hq : q ∈ plc s := List.mem_reverse.mp (by rw [ha]; exact List.mem_append_right _ List.mem_cons_self)
          have hal : a.length ≤ 2 := by
            have : (plc s).reverse.length ≤ 2 := by rw [List.length_reverse]; cases s <;> simp [plc]
            rw [ha, List.length_append] at this
            omega
          have hWl : (W ++ a.map fun k => (p ++ [k], kid s k)).length ≤ 50 := by
            have : W.length ≤ (W.reverse.flatMap (fun x => ptl x.2 x.1)).length := by
              have gen : ∀ l : List (List Nat × Tm), l.length ≤ (l.flatMap (fun x => ptl x.2 x.1)).length := by
                intro l
                induction l with
                | nil => exact Nat.zero_le _
                | cons x l ih =>
                  rw [List.flatMap_cons, List.length_append, ptl_eq, List.length_cons, List.length_cons]
                  omega
              have := gen W.reverse
              rwa [List.length_reverse] at this
            have h3 := congrArg List.length he
            rw [List.length_append, List.cons_append, List.length_cons, List.length_append] at h3
            rw [List.length_append, List.length_map]
            omega
          dsimp only [gdN, tdExpr]
          refine app_v (i := 2) rfl b2 ?_
          refine needB_i (szB_i (by rw [List.length_append, natD_length]; show p.length + 1 ≤ _; omega)) ?_
          rw [e1]
          refine ix_tup (O := O2) (e2 q hq) ?_
          refine ⟨_, b2, by rw [List.length_map]; omega, ?_⟩
          refine k2 _ _ ⟨a ++ [q], r, by rw [ha, List.append_assoc]; rfl, rfl, ⟨_, by rw [← e1]; rfl⟩, ?_, ?_, ?_⟩
          · rw [updO_ne (Ne.symm n21)]
            exact b1
          · rw [updO_same]
            refine congrArg (fun l => some (Cell.lst l)) ?_
            rw [List.map_append, List.map_append, List.map_append, List.map_append, ← List.append_assoc]
            show _ ++ [D.tup [D.tup (natD p ++ [D.int (q : Int)]), _]] = _ ++ [D.tup [D.tup (natD (p ++ [q])), _]]
            rw [natD_append]
            rfl
          · exact sub_upd hp2 bS
      · obtain ⟨a, r, ha, hr, ⟨x5, rfl⟩, b1, b2, bS⟩ := g1
        have er : r = [] := List.map_eq_nil_iff.mp hr.symm
        subst er
        rw [List.append_nil] at ha
        subst ha
        refine k ((ptl t []).length - (fs ++ [p]).length) _ _ (by rw [List.length_append]; show _ - (fs.length + 1) < _; omega) ⟨fs ++ [p], W ++ (plc s).reverse.map fun k => (p ++ [k], kid s k), rfl, ⟨_, _, _, rfl⟩, b1, b2, bS, ?_, fun x hx => ?_⟩
        · rw [← he, List.reverse_append, List.map_reverse, List.reverse_reverse, List.flatMap_append, List.flatMap_map, List.append_assoc]
          rfl
        · rcases List.mem_append.mp hx with hx | hx
          · exact hW x (List.mem_append_left _ hx)
          · obtain ⟨q, hq, rfl⟩ := List.mem_map.mp hx
            obtain ⟨g2, g3⟩ := okT_kid hs (List.mem_reverse.mp hq)
            have g3 : dep (kid s q) < dep s := g3
            refine ⟨g2, ?_⟩
            show (p ++ [q]).length + dep (kid s q) ≤ 8
            rw [List.length_append]
            show p.length + 1 + _ ≤ 8
            omega
      · rw [updO_same]
      · rw [updO_ne n21, updO_same, List.map_nil, List.append_nil]
      · exact sub_upd hp1 (sub_upd hp2 hS)
def sub : Tm → List Nat → Tm
  | t, [] => t
  | t, k :: p => sub (kid t k) p
/-- the path leads through the term -/
def okP : Tm → List Nat → Prop
  | _, [] => True
  | t, k :: p => k ∈ plc t ∧ okP (kid t k) p
def gAt : GC := fun ds O Q => match ds with
  | [d, .tup ks] => ∃ t p, d = tmD t ∧ ks = natD p ∧ okP t p ∧ Q (tmD (sub t p)) O
  | _ => False
theorem k_term_at (c : Hd w K mg base aI aF aL aC cT pT) : Dl.Def prog w K mg base 1 "term_at" ["term", "path"] gAt := by
  have S : FnScope ["term", "path", "place"] ["term", "path"] (defScope s_term_at) := C8.fnScope_by (by kernel_rfl)
  have hN := S.nd
  refine def_ok c.f_term_at S (fun _ _ _ _ _ _ us hl => match us, hl with | [_, _], _ => rfl) (fun ds O R h => ?_) fun f cdv A outer s H E hr => ⟨_, have hu := room64 hr; have hu5 := room65 hr; have hu1 := room1 hr; (s_cons (s_for PassesOwn.never rfl (i_seq (dv 1)) (g_name 2 hN) (s_one (s_set 0 hN (d_ix (dv 0) (dv 2)))))
  (s_one (s_ret (dv 0)))), fun ds O R h => ?_⟩
  · unfold gAt at h
    split at h <;> first | rfl | exact h.elim
  · unfold gAt at h
    split at h
    · obtain ⟨t, p, rfl, rfl, hp, h⟩ := h
      refine for_ind (fun rem env O' => O' = O ∧ ∃ r s, rem = natD r ∧ okP s r ∧ sub s r = sub t p ∧ ∃ x2, env = [some (tmD s), some (.tup (natD p)), x2])
        (fun d r env O' N h1 k => ?_) (fun env O' h1 => ?_) ⟨rfl, p, t, rfl, hp, rfl, _, rfl⟩
      · obtain ⟨rfl, r, s, hr, h2, h3, x2, rfl⟩ := h1
        cases r with
        | nil => cases hr
        | cons q r =>
          injection hr with c1 c2
          subst c1 c2
          obtain ⟨ds, e1, e2⟩ := tm_kid s
          rw [e1]
          refine ix_tup (O := O') (e2 q h2.1) ?_
          exact k _ _ ⟨rfl, r, kid s q, rfl, h2.2, h3, _, rfl⟩
      · obtain ⟨rfl, r, s, hr, h2, h3, x2, rfl⟩ := h1
        have er : r = [] := List.map_eq_nil_iff.mp hr.symm
        subst er
        have h3 : s = sub t p := h3
        subst h3
        exact Fin.i h
    · exact h.elim
end
end Ri

set_option maxRecDepth 100000
set_option maxHeartbeats 2000000
/-! THE DEFS, 9: what each word makes of fields. -/
namespace Ri
open PySem PySem.Spec PyProof.Rows L2 Dl
def leP (a b : Nat × Nat) : Bool := leI [(a.1 : Int), (a.2 : Int)] [(b.1 : Int), (b.2 : Int)]
def sortP (ls : List (Nat × Nat)) : List (Nat × Nat) := ls.mergeSort leP
theorem sortP_perm (ls : List (Nat × Nat)) : (sortP ls).Perm ls := List.mergeSort_perm _ _
def rowP (p : Nat × Nat) : List Int := [(p.1 : Int), (p.2 : Int)]
theorem sortP_map (ls : List (Nat × Nat)) : (sortP ls).map rowP = sortI (ls.map rowP) := List.map_mergeSort fun _ _ _ _ => rfl
theorem sort_pairs {O : DO} {Q : D → DO → Prop} (ls : List (Nat × Nat)) (h : Q (.lst ((sortP ls).map prD)) O) : gSortT [.lst (ls.map prD)] O Q := by
  show (match rowsD (ls.map prD) with
    | some rs => needB (rs.all (fun r => !r.isEmpty) || match rs with
        | [] :: _ => true
        | _ => false) (Q (.lst ((sortI rs).map tupI)) O)
    | none => False)
  rw [rowsD_map rowP prD (fun l => rfl)]
  refine needB_i (Bool.or_eq_true_iff.mpr (.inl ?_)) ?_
  · rw [List.all_map]
    exact List.all_eq_true.mpr fun _ _ => rfl
  · rw [← sortP_map, List.map_map]
    exact h
def shf (n : Nat) (l : List (Nat × Nat)) : List (Nat × Nat) := l.map fun p => (p.1 + n, p.2 + n)
def crsTo (a b i : Nat) : List (Nat × Nat) := (List.range i).flatMap fun k => (List.range b).map fun j => (k, j + a)
def laidF (a b : Fd) (u : Bool) : Fd := ⟨a.n + b.n, sortP (a.ties ++ shf a.n b.ties ++ if u then crsTo a.n b.n a.n else []), a.seen ++ b.seen⟩
theorem ties_len {f : Fd} (ok : FdOk f) : f.ties.length ≤ 36 := by
  have h1 : (f.ties.map fun p => p.1 * 6 + p.2).Nodup := by
    refine List.pairwise_map.mpr (ok.nd.imp_of_mem ?_)
    intro a b ha hb hne e
    have h1 := ok.lt a ha
    have h2 := ok.lt b hb
    have h3 := ok.n6
    exact hne (Prod.ext (by omega) (by omega))
  have h2 := sub_len h1 (b := List.range 36) fun x hx => by
    obtain ⟨p, hp, rfl⟩ := List.mem_map.mp hx
    have h1 := ok.lt p hp
    have h3 := ok.n6
    exact List.mem_range.mpr (by show p.1 * 6 + p.2 < 36; omega)
  rwa [List.length_map, List.length_range] at h2
theorem crs_len (a b i : Nat) : (crsTo a b i).length = i * b := by
  unfold crsTo
  induction i with
  | zero => simp
  | succ i ih => rw [List.range_succ, List.flatMap_append, List.length_append, ih, Nat.succ_mul]; simp
theorem crs_succ (a b i : Nat) : crsTo a b (i + 1) = crsTo a b i ++ (List.range b).map fun j => (i, j + a) := by
  unfold crsTo
  rw [List.range_succ, List.flatMap_append]
  simp
section
variable {w : World} {K : PySem.W.Frag} {mg : Str → Option Value} {base : Heap} {aI aF aL aC cT pT : Addr}
def gLaid : GC := fun ds O Q => match ds with
  | [fa, fb, .bl u] => ∃ a b, fa = fdD a ∧ fb = fdD b ∧ FdOk a ∧ FdOk b ∧ Q (fdD (laidF a b u)) O
  | _ => False
theorem k_laid (c : Hd w K mg base aI aF aL aC cT pT) : Dl.Def prog w K mg base 1 "laid" ["one", "other", "is_under"] gLaid := by
  have S : FnScope ["one", "other", "is_under", "size", "pairs", "near", "far"] ["one", "other", "is_under"] (defScope s_laid) := C8.fnScope_by (by kernel_rfl)
  have hN := S.nd
  refine def_ok c.f_laid S (fun _ _ _ _ _ _ us hl => match us, hl with | [_, _, _], _ => rfl) (fun ds O R h => ?_) fun f cdv A outer s H E hr => ⟨_, have hu := room64 hr; have hu5 := room65 hr; have hu1 := room1 hr; (s_cons (s_set 3 hN (d_ix (dv 0) d_int))
  (s_cons (s_set 4 hN (d_catO (d_callTy c_list c.m_list bt_list (a_cons (d_ix (dv 0) d_int) a_nil)) (d_lc rfl hN (i_seq (d_ix (dv 1) d_int)) (blkOk_by (own := [("near", 5), ("far", 6)]) (by kernel_rfl)) (fun _ _ _ _ _ => (g_tup (n := 2) rfl (gs_cons (g_name 5 hN) (gs_cons (g_name 6 hN) gs_nil)))) (fun _ _ _ _ _ => ts_nil) (fun _ _ _ _ _ => (d_tup (a_cons (d_op o_add (dv 5) (dv 3)) (a_cons (d_op o_add (dv 6) (dv 3)) a_nil)))))))
  (s_cons (s_if (t_val (dv 2))
  (s_one (s_for PassesOwn.never rfl (i_rng c.m_range (a_cons (dv 3) a_nil)) (g_name 5 hN) (s_one (s_expr (d_ext (dv 4) (a_cons (d_lc rfl hN (i_rng c.m_range (a_cons (d_ix (dv 1) d_int) a_nil)) (blkOk_by (own := [("far", 6)]) (by kernel_rfl)) (fun _ _ _ _ _ => (g_name 6 hN)) (fun _ _ _ _ _ => ts_nil) (fun _ _ _ _ _ => (d_tup (a_cons (dv 5) (a_cons (d_op o_add (dv 6) (dv 3)) a_nil))))) a_nil))))))
  s_nil)
  (s_one (s_ret (d_tup (a_cons (d_op o_add (dv 3) (d_ix (dv 1) d_int)) (a_cons (d_callTy c_tuple c.m_tuple bt_tuple (a_cons (d_callB (c_sortT hu5) c.m_sorted bt_sorted (a_cons (d_fz (dv 4)) a_nil)) a_nil)) (a_cons (d_op o_add (d_ix (dv 0) d_int) (d_ix (dv 1) d_int)) a_nil))))))))), fun ds O R h => ?_⟩
  · unfold gLaid at h
    split at h <;> first | rfl | exact h.elim
  · unfold gLaid at h
    split at h
    rotate_left
    · exact h.elim
    rename_i fa fb u
    obtain ⟨a, b, rfl, rfl, oa, ob, h⟩ := h
    have na := oa.n6
    have nb := ob.n6
    have ta := ties_len oa
    have tb := ties_len ob
    have sa := oa.len
    have sb := ob.len
    refine lcD_map b.ties prD (fun p => prD (p.1 + a.n, p.2 + a.n)) (fun p _ K1 k => needB_i rfl k) ?_
    have e1 : b.ties.map (fun p => prD (p.1 + a.n, p.2 + a.n)) = (shf a.n b.ties).map prD := by unfold shf; rw [List.map_map]; rfl
    rw [e1]
    have hsl : (shf a.n b.ties).length = b.ties.length := List.length_map _
    refine needB_i (szB_i (by rw [List.length_map, List.length_map, hsl]; omega)) fun p hp => ?_
    rw [← List.map_append]
    have fin : ∀ (O' : DO) (x5 x6 : Option D) (l : List (Nat × Nat)), Sub O O' → O' p = some (.lst (l.map prD)) → l = a.ties ++ shf a.n b.ties ++ (if u then crsTo a.n b.n a.n else []) →
        tdRet (tdTup (tdCons (tdOp gAdd (tdV 3) (tdOp gIx (tdV 1) (tdC (.int 0)))) (tdCons (tdCall gTuple (tdCons (tdCall gSortT (tdCons (tdFz (tdV 4)) tdNil)) tdNil)) (tdCons (tdOp gAdd (tdOp gIx (tdV 0) (tdC (.int 2))) (tdOp gIx (tdV 1) (tdC (.int 2)))) tdNil))))
          { nx := fun _ O' => Dl.Fin R .non O', rt := Dl.Fin R } [some (fdD a), some (fdD b), some (.bl u), some (.int a.n), some (.ptr p), x5, x6] O' := by
      intro O' x5 x6 l hS hO el
      refine (show tdFz (tdV 4) [some (fdD a), some (fdD b), some (.bl u), some (.int a.n), some (.ptr p), x5, x6] O' (fun x O1 => gSortT [x] O1 fun y O2 => gTuple [y] O2 fun z O3 => gAdd O3 (.tup (a.seen.map frD)) (.tup (b.seen.map frD)) fun s => Dl.Fin R (.tup [.int ((a.n : Int) + (b.n : Int)), z, s]) O3) from ?_)
      refine fz_v (i := 4) rfl hO ?_
      refine sort_pairs l ?_
      refine needB_i (szB_i (by rw [List.length_map, List.length_map]; omega)) ?_
      refine ⟨O, Sub.off hp hS, ?_⟩
      rw [← List.map_append, el]
      exact h
    cases u with
    | false =>
      refine fin (updO O p _) none none (a.ties ++ shf a.n b.ties) (sub_upd hp (Sub.refl O)) updO_same ?_
      rw [if_neg (by decide), List.append_nil]
    | true =>
      dsimp only [gdN, tdSeq, tdIfS, tdFor]
      refine tt_v (i := 2) (b := true) rfl ?_
      refine iteB_t rfl ?_
      refine rng_v (v_i (i := 3) rfl ⟨_, rfl, rngOk_nat (by omega), ?_⟩)
      rw [rng_map]
      refine for_ind (fun rem env O' => ∃ i, i ≤ a.n ∧ rem = ((List.range a.n).drop i).map (fun (j : Nat) => D.int (j : Int)) ∧ (∃ x5 x6, env = [some (fdD a), some (fdD b), some (.bl true), some (.int a.n), some (.ptr p), x5, x6]) ∧ O' p = some (.lst ((a.ties ++ shf a.n b.ties ++ crsTo a.n b.n i).map prD)) ∧ Sub O O')
        (fun d r env O' N h1 k => ?_) (fun env O' h1 => ?_) ⟨0, Nat.zero_le _, by rw [List.drop_zero], ⟨_, _, rfl⟩, by rw [updO_same]; unfold crsTo; simp, sub_upd hp (Sub.refl O)⟩
      · obtain ⟨i, hi, hr, ⟨x5, x6, rfl⟩, hO, hS⟩ := h1
        have hlt : i < a.n := by
          by_cases q : i < a.n
          · exact q
          · rw [List.drop_eq_nil_of_le (by rw [List.length_range]; omega)] at hr
            cases hr
        rw [List.drop_eq_getElem_cons (by rw [List.length_range]; exact hlt), List.map_cons, List.getElem_range] at hr
        injection hr with e1 e2
        subst e1 e2
        dsimp only [gdN, tdExpr]
        refine ext_v (i := 4) rfl hO ?_
        dsimp only [tdLc]
        refine rng_v ?_
        refine ⟨(b.n : Int), rfl, rngOk_nat (by omega), ?_⟩
        rw [rng_map]
        refine lcD_map (List.range b.n) (fun (j : Nat) => D.int (j : Int)) (fun j => prD (i, j + a.n)) (fun j _ K1 k1 => needB_i rfl k1) ?_
        have hc := crs_len a.n b.n i
        have hc2 : i * b.n ≤ 6 * 6 := Nat.mul_le_mul (by omega) (by omega)
        refine ⟨_, _, rfl, hO, by rw [List.length_map, List.length_map, List.length_append, List.length_append, List.length_range, hsl]; omega, ?_⟩
        refine k _ _ ⟨i + 1, hlt, rfl, ⟨_, _, rfl⟩, ?_, sub_upd hp hS⟩
        rw [updO_same, crs_succ, ← List.append_assoc, List.map_append (l₂ := (List.range b.n).map _), List.map_map]
        rfl
      · obtain ⟨i, hi, hr, ⟨x5, x6, rfl⟩, hO, hS⟩ := h1
        have e : i = a.n := by
          have := congrArg List.length hr
          rw [List.length_map, List.length_drop, List.length_range] at this
          simp at this
          omega
        subst e
        exact fin O' x5 x6 _ hS hO (by rw [if_pos rfl])
theorem k_law_laid (c : Hd w K mg base aI aF aL aC cT pT) : Dl.Def prog w K mg base 1 "_law_laid" ["_law_one", "_law_other", "_law_below_so"] gLaid := by
  have S : FnScope ["_law_one", "_law_other", "_law_below_so", "_law_size", "_law_pairs", "_law_near", "_law_far"] ["_law_one", "_law_other", "_law_below_so"] (defScope s_law_laid) := C8.fnScope_by (by kernel_rfl)
  have hN := S.nd
  refine def_ok c.f_law_laid S (fun _ _ _ _ _ _ us hl => match us, hl with | [_, _, _], _ => rfl) (fun ds O R h => ?_) fun f cdv A outer s H E hr => ⟨_, have hu := room64 hr; have hu5 := room65 hr; have hu1 := room1 hr; (s_cons (s_set 3 hN (d_ix (dv 0) d_int))
  (s_cons (s_set 4 hN (d_op o_add (d_callTy c_list c.m_list bt_list (a_cons (d_ix (dv 0) d_int) a_nil)) (d_lc rfl hN (i_seq (d_ix (dv 1) d_int)) (blkOk_by (own := [("_law_near", 5), ("_law_far", 6)]) (by kernel_rfl)) (fun _ _ _ _ _ => (g_tup (n := 2) rfl (gs_cons (g_name 5 hN) (gs_cons (g_name 6 hN) gs_nil)))) (fun _ _ _ _ _ => ts_nil) (fun _ _ _ _ _ => (d_tup (a_cons (d_op o_add (dv 5) (dv 3)) (a_cons (d_op o_add (dv 6) (dv 3)) a_nil)))))))
  (s_cons (s_if (t_val (dv 2))
  (s_one (s_for PassesOwn.never rfl (i_rng c.m_range (a_cons (dv 3) a_nil)) (g_name 5 hN) (s_one (s_set 4 hN (d_op o_add (dv 4) (d_lc rfl hN (i_rng c.m_range (a_cons (d_ix (dv 1) d_int) a_nil)) (blkOk_by (own := [("_law_far", 6)]) (by kernel_rfl)) (fun _ _ _ _ _ => (g_name 6 hN)) (fun _ _ _ _ _ => ts_nil) (fun _ _ _ _ _ => (d_tup (a_cons (dv 5) (a_cons (d_op o_add (dv 6) (dv 3)) a_nil))))))))))
  s_nil)
  (s_one (s_ret (d_tup (a_cons (d_op o_add (dv 3) (d_ix (dv 1) d_int)) (a_cons (d_callTy c_tuple c.m_tuple bt_tuple (a_cons (d_callB (c_sortT hu5) c.m_sorted bt_sorted (a_cons (dv 4) a_nil)) a_nil)) (a_cons (d_op o_add (d_ix (dv 0) d_int) (d_ix (dv 1) d_int)) a_nil))))))))), fun ds O R h => ?_⟩
  · unfold gLaid at h
    split at h <;> first | rfl | exact h.elim
  · unfold gLaid at h
    split at h
    rotate_left
    · exact h.elim
    rename_i fa fb u
    obtain ⟨a, b, rfl, rfl, oa, ob, h⟩ := h
    have na := oa.n6
    have nb := ob.n6
    have ta := ties_len oa
    have tb := ties_len ob
    have sa := oa.len
    have sb := ob.len
    refine lcD_map b.ties prD (fun p => prD (p.1 + a.n, p.2 + a.n)) (fun p _ K1 k => needB_i rfl k) ?_
    have e1 : b.ties.map (fun p => prD (p.1 + a.n, p.2 + a.n)) = (shf a.n b.ties).map prD := by unfold shf; rw [List.map_map]; rfl
    rw [e1]
    have hsl : (shf a.n b.ties).length = b.ties.length := List.length_map _
    refine needB_i (szB_i (by rw [List.length_map, List.length_map, hsl]; omega)) ?_
    rw [← List.map_append]
    have fin : ∀ (O' : DO) (x5 x6 : Option D) (l : List (Nat × Nat)), Sub O O' → l = a.ties ++ shf a.n b.ties ++ (if u then crsTo a.n b.n a.n else []) →
        tdRet (tdTup (tdCons (tdOp gAdd (tdV 3) (tdOp gIx (tdV 1) (tdC (.int 0)))) (tdCons (tdCall gTuple (tdCons (tdCall gSortT (tdCons (tdV 4) tdNil)) tdNil)) (tdCons (tdOp gAdd (tdOp gIx (tdV 0) (tdC (.int 2))) (tdOp gIx (tdV 1) (tdC (.int 2)))) tdNil))))
          { nx := fun _ O' => Dl.Fin R .non O', rt := Dl.Fin R } [some (fdD a), some (fdD b), some (.bl u), some (.int a.n), some (.lst (l.map prD)), x5, x6] O' := by
      intro O' x5 x6 l hS el
      refine (show gSortT [.lst (l.map prD)] O' (fun y O2 => gTuple [y] O2 fun z O3 => gAdd O3 (.tup (a.seen.map frD)) (.tup (b.seen.map frD)) fun s => Dl.Fin R (.tup [.int ((a.n : Int) + (b.n : Int)), z, s]) O3) from ?_)
      refine sort_pairs l ?_
      refine needB_i (szB_i (by rw [List.length_map, List.length_map]; omega)) ?_
      refine ⟨O, hS, ?_⟩
      rw [← List.map_append, el]
      exact h
    cases u with
    | false =>
      refine fin O none none (a.ties ++ shf a.n b.ties) (Sub.refl O) ?_
      rw [if_neg (by decide), List.append_nil]
    | true =>
      dsimp only [gdN, tdSeq, tdIfS, tdFor]
      refine tt_v (i := 2) (b := true) rfl ?_
      refine iteB_t rfl ?_
      refine rng_v (v_i (i := 3) rfl ⟨_, rfl, rngOk_nat (by omega), ?_⟩)
      rw [rng_map]
      refine for_ind (fun rem env O' => O' = O ∧ ∃ i, i ≤ a.n ∧ rem = ((List.range a.n).drop i).map (fun (j : Nat) => D.int (j : Int)) ∧ (∃ x5 x6, env = [some (fdD a), some (fdD b), some (.bl true), some (.int a.n), some (.lst ((a.ties ++ shf a.n b.ties ++ crsTo a.n b.n i).map prD)), x5, x6]))
        (fun d r env O' N h1 k => ?_) (fun env O' h1 => ?_) ⟨rfl, 0, Nat.zero_le _, by rw [List.drop_zero], none, none, by unfold crsTo; simp; rfl⟩
      · obtain ⟨rfl, i, hi, hr, x5, x6, rfl⟩ := h1
        have hlt : i < a.n := by
          by_cases q : i < a.n
          · exact q
          · rw [List.drop_eq_nil_of_le (by rw [List.length_range]; omega)] at hr
            cases hr
        rw [List.drop_eq_getElem_cons (by rw [List.length_range]; exact hlt), List.map_cons, List.getElem_range] at hr
        injection hr with e1 e2
        subst e1 e2
        dsimp only [gdN, tdAsg]
        refine op_l (v_i (i := 4) rfl ?_)
        dsimp only [tdLc]
        refine rng_v ?_
        refine ⟨(b.n : Int), rfl, rngOk_nat (by omega), ?_⟩
        rw [rng_map]
        refine lcD_map (List.range b.n) (fun (j : Nat) => D.int (j : Int)) (fun j => prD (i, j + a.n)) (fun j _ K1 k1 => needB_i rfl k1) ?_
        have hc := crs_len a.n b.n i
        have hc2 : i * b.n ≤ 6 * 6 := Nat.mul_le_mul (by omega) (by omega)
        refine needB_i (szB_i (by rw [List.length_map, List.length_map, List.length_append, List.length_append, List.length_range, hsl]; omega)) ?_
        refine k _ _ ⟨rfl, i + 1, hlt, rfl, some (.int (i : Int)), x6, ?_⟩
        rw [crs_succ, ← List.append_assoc, List.map_append (l₂ := (List.range b.n).map _), List.map_map]
        rfl
      · obtain ⟨rfl, i, hi, hr, x5, x6, rfl⟩ := h1
        have e : i = a.n := by
          have := congrArg List.length hr
          rw [List.length_map, List.length_drop, List.length_range] at this
          simp at this
          omega
        subst e
        exact fin O' x5 x6 _ (Sub.refl _) (by rw [if_pos rfl])
def rowF (f : Fd) : Nat → Fd
  | 0 => f
  | k + 1 => laidF (rowF f k) f true
def gRow : GC := fun ds O Q => match ds with
  | [fd, .int k] => ∃ f, fd = fdD f ∧ (∀ i, i < k.toNat → FdOk (rowF f i)) ∧ 1 ≤ k ∧ k ≤ 1000 ∧ Q (fdD (rowF f (k.toNat - 1))) O
  | _ => False
theorem k_row_of (c : Hd w K mg base aI aF aL aC cT pT) : Dl.Def prog w K mg base 2 "row_of" ["field", "times"] gRow := by
  have k_laid := k_laid c
  have S : FnScope ["field", "times", "found", "turn"] ["field", "times"] (defScope s_row_of) := C8.fnScope_by (by kernel_rfl)
  have hN := S.nd
  refine def_ok c.f_row_of S (fun _ _ _ _ _ _ us hl => match us, hl with | [_, _], _ => rfl) (fun ds O R h => ?_) fun f cdv A outer s H E hr => ⟨_, have hu := room64 hr; have hu5 := room65 hr; have hu1 := room1 hr; (s_cons (s_set 2 hN (dv 0))
  (s_cons (s_for PassesOwn.never rfl (i_rng c.m_range (a_cons (d_op o_sub (dv 1) d_int) a_nil)) (g_name 3 hN) (s_one (s_if (t_cmp o_le (d_ix (dv 2) d_int) (d_gl (c.g_MOST_THINGS.d rfl rfl)))
  (s_one (s_set 2 hN (d_call k_laid hr (by decide) (a_cons (dv 2) (a_cons (dv 0) (a_cons d_bl a_nil))))))
  s_nil)))
  (s_one (s_ret (dv 2))))), fun ds O R h => ?_⟩
  · unfold gRow at h
    split at h <;> first | rfl | exact h.elim
  · unfold gRow at h
    split at h
    · rename_i fd k
      obtain ⟨f, rfl, ok, h1, h2, h⟩ := h
      have e0 : k - 1 = ((k.toNat - 1 : Nat) : Int) := by omega
      show needB (rngOk (k - 1)) (forD _ _ (rngD 0 (k - 1).toNat) _ _ _)
      rw [e0]
      refine needB_i (rngOk_nat (by omega)) ?_
      rw [rng_map]
      generalize hm : k.toNat - 1 = m at h
      refine for_ind (fun rem env O' => O' = O ∧ ∃ i, i ≤ m ∧ rem = ((List.range m).drop i).map (fun (j : Nat) => D.int (j : Int)) ∧ (∃ x3, env = [some (fdD f), some (.int k), some (fdD (rowF f i)), x3]))
        (fun d r env O' N h1 k => ?_) (fun env O' h1 => ?_) ⟨rfl, 0, Nat.zero_le _, by rw [List.drop_zero], _, rfl⟩
      · obtain ⟨rfl, i, hi, hr, x3, rfl⟩ := h1
        have hlt : i < m := by
          by_cases q : i < m
          · exact q
          · rw [List.drop_eq_nil_of_le (by rw [List.length_range]; omega)] at hr
            cases hr
        rw [List.drop_eq_getElem_cons (by rw [List.length_range]; exact hlt), List.map_cons, List.getElem_range] at hr
        injection hr with e1 e2
        subst e1 e2
        have o1 := ok i (by omega)
        have o2 := ok 0 (by omega)
        have n6 := o1.n6
        refine iteB_t (c := decide (((rowF f i).n : Int) ≤ 10)) (decide_eq_true (by omega)) ?_
        refine ⟨rowF f i, f, rfl, rfl, o1, o2, ?_⟩
        exact k _ _ ⟨rfl, i + 1, hlt, rfl, _, rfl⟩
      · obtain ⟨rfl, i, hi, hr, x3, rfl⟩ := h1
        have e : i = m := by
          have := congrArg List.length hr
          rw [List.length_map, List.length_drop, List.length_range] at this
          simp at this
          omega
        subst e
        exact Fin.i h
    · exact h.elim
end
end Ri

set_option maxRecDepth 100000
set_option maxHeartbeats 2000000
/-! THE DEFS, 10: fields of terms. -/
namespace Ri
open PySem PySem.Spec PyProof.Rows L2 Dl
def movF (f : Fd) (k : Int) : Fd := ⟨f.n, f.ties, f.seen.map fun p => (p.1 + k, p.2)⟩
def timF (f : Fd) (k : Int) : Fd := ⟨f.n, f.ties, f.seen.map fun p => (p.1, p.2 * k)⟩
def turF (f : Fd) : Fd := ⟨f.n, sortP (f.ties.map fun p => (p.2, p.1)), f.seen.map fun p => (0 - p.1, p.2)⟩
def ev : Tm → Fd
  | .thing a b => ⟨1, [], [(a, b)]⟩
  | .none => ⟨0, [], []⟩
  | .besd s t => laidF (ev s) (ev t) false
  | .belw s t => laidF (ev s) (ev t) true
  | .row t k => rowF (ev t) (k.toNat - 1)
  | .turned t => turF (ev t)
  | .moved t k => movF (ev t) k
  | .times t k => timF (ev t) k
/-- each part makes a good field -/
def Gd : Tm → Prop
  | .thing a b => FdOk (ev (.thing a b))
  | .none => FdOk (ev .none)
  | .besd s t => (Gd s ∧ Gd t) ∧ FdOk (ev (.besd s t))
  | .belw s t => (Gd s ∧ Gd t) ∧ FdOk (ev (.belw s t))
  | .row t k => (Gd t ∧ 0 < (ev t).n ∧ (∀ i, i < k.toNat → FdOk (rowF (ev t) i)) ∧ 1 ≤ k ∧ k ≤ 10) ∧ FdOk (ev (.row t k))
  | .turned t => Gd t ∧ FdOk (ev (.turned t))
  | .moved t k => (Gd t ∧ btw k (-2000) 2000 = true) ∧ FdOk (ev (.moved t k))
  | .times t k => (Gd t ∧ 1 ≤ k ∧ k ≤ 1000) ∧ FdOk (ev (.times t k))
theorem Gd.ok {t : Tm} (h : Gd t) : FdOk (ev t) := by
  cases t <;> first | exact h | exact h.2
theorem Gd.kid {t : Tm} (h : Gd t) {k : Nat} (hk : k ∈ plc t) : Gd (kid t k) := by
  cases t with
  | thing a b => simp [plc] at hk
  | none => simp [plc] at hk
  | besd s t =>
    simp only [Ri.kid]
    split
    · exact h.1.1
    · exact h.1.2
  | belw s t =>
    simp only [Ri.kid]
    split
    · exact h.1.1
    · exact h.1.2
  | row t k => exact h.1.1
  | turned t => exact h.1
  | moved t k => exact h.1.1
  | times t k => exact h.1.1
section
variable {w : World} {K : PySem.W.Frag} {mg : Str → Option Value} {base : Heap} {aI aF aL aC cT pT : Addr}
theorem seen_ok {f : Fd} (ok : FdOk f) {p : Fr} (hp : p ∈ f.seen) : seenB p = true := by
  obtain ⟨a, b, c, d⟩ := ok.bd p hp
  unfold seenB btw
  simp only [Bool.and_eq_true, decide_eq_true_eq]
  exact ⟨⟨a, b⟩, c, d⟩
def gGood : GC := fun ds O Q => match ds with
  | [fd] => ∃ f, FdOk f ∧ fd = fdD f ∧ Q (.bl true) O
  | _ => False
theorem k_is_good (c : Hd w K mg base aI aF aL aC cT pT) : Dl.Def prog w K mg base 4 "is_good" ["found"] gGood := by
  have k_is_seen := k_is_seen c
  have S : FnScope ["found", "near", "far", "one"] ["found"] (defScope s_is_good) := C8.fnScope_by (by kernel_rfl)
  have hN := S.nd
  refine def_ok c.f_is_good S (fun _ _ _ _ _ _ us hl => match us, hl with | [_], _ => rfl) (fun ds O R h => ?_) fun f cdv A outer s H E hr => ⟨_, have hu := room64 hr; have hu5 := room65 hr; have hu1 := room1 hr; (s_cons (s_if (t_w (w_or (t_cmp o_is (dv 0) d_non) (w_or (t_cmp o_gt (d_ix (dv 0) d_int) (d_gl (c.g_MOST_THINGS.d rfl rfl))) (w_or1 (t_not (t_val (d_callB (c_all rfl) c.m_all bt_all (a_cons (d_lc rfl hN (i_seq (d_ix (dv 0) d_int)) (blkOk_by (own := [("one", 3)]) (by kernel_rfl)) (fun _ _ _ _ _ => (g_name 3 hN)) (fun _ _ _ _ _ => ts_nil) (fun _ _ _ _ _ => (d_call k_is_seen hr (by decide) (a_cons (dv 3) a_nil)))) a_nil))))))))
  (s_one (s_ret d_bl))
  s_nil)
  (s_one (s_ret (d_not (d_callB (c_any rfl) c.m_any bt_any (a_cons (d_lc rfl hN (i_seq (d_ix (dv 0) d_int)) (blkOk_by (own := [("near", 1), ("far", 2)]) (by kernel_rfl)) (fun _ _ _ _ _ => (g_tup (n := 2) rfl (gs_cons (g_name 1 hN) (gs_cons (g_name 2 hN) gs_nil)))) (fun _ _ _ _ _ => ts_nil) (fun _ _ _ _ _ => (d_cmp (o_eq hu) (dv 1) (dv 2)))) a_nil)))))), fun ds O R h => ?_⟩
  · unfold gGood at h
    split at h <;> first | rfl | exact h.elim
  · unfold gGood at h
    split at h
    · obtain ⟨f, ok, rfl, h⟩ := h
      have n6 := ok.n6
      refine iteB_f (c := decide ((10 : Int) < (f.n : Int))) (decide_eq_false (by omega)) ?_
      refine lcD_map f.seen frD (fun p => .bl (seenB p)) (fun p _ K1 k => k) ?_
      refine gAll_map _ _ ?_
      have e1 : f.seen.all seenB = true := List.all_eq_true.mpr fun p hp => seen_ok ok hp
      refine iteB_f (c := !(f.seen.all seenB)) (by rw [e1]; rfl) ?_
      refine lcD_map f.ties prD (fun p => .bl (decide ((p.1 : Int) = (p.2 : Int)))) (fun p _ K1 k => needB_i rfl k) ?_
      refine gAny_map _ _ ?_
      have e2 : f.ties.any (fun p => decide ((p.1 : Int) = (p.2 : Int))) = false := by
        refine List.any_eq_false.mpr fun p hp e => ?_
        have e := of_decide_eq_true e
        have e : p.1 = p.2 := by omega
        exact ok.ir p.1 (by have : p = (p.1, p.1) := Prod.ext rfl e.symm; rw [← this]; exact hp)
      rw [e2]
      exact Fin.i h
    · exact h.elim
def isOne : Tm → Bool
  | .row _ _ => true
  | .turned _ => true
  | .moved _ _ => true
  | .times _ _ => true
  | _ => false
def gSingle : GC := fun ds O Q => match ds with
  | [d, fd] => ∃ t, d = tmD t ∧ fd = fdD (ev (kid t 1)) ∧ isOne t = true ∧ Gd t ∧ Q (fdD (ev t)) O
  | _ => False
theorem k_single_of (c : Hd w K mg base aI aF aL aC cT pT) : Dl.Def prog w K mg base 3 "single_of" ["term", "field"] gSingle := by
  have k_row_of := k_row_of c
  have S : FnScope ["term", "field", "word", "size", "pairs", "seen", "turned", "near", "far", "worth", "weight"] ["term", "field"] (defScope s_single_of) := C8.fnScope_by (by kernel_rfl)
  have hN := S.nd
  refine def_ok c.f_single_of S (fun _ _ _ _ _ _ us hl => match us, hl with | [_, _], _ => rfl) (fun ds O R h => ?_) fun f cdv A outer s H E hr => ⟨_, have hu := room64 hr; have hu5 := room65 hr; have hu1 := room1 hr; (s_cons (s_set 2 hN (d_ix (dv 0) d_int))
  (s_cons (s_asg (dv 1) (g_tup (n := 3) rfl (gs_cons (g_name 3 hN) (gs_cons (g_name 4 hN) (gs_cons (g_name 5 hN) gs_nil)))))
  (s_cons (s_if (t_cmp (o_eq hu) (dv 2) (d_gl (c.g_ROW.d rfl rfl)))
  (s_one (s_ret (d_call k_row_of hr (by decide) (a_cons (dv 1) (a_cons (d_ix (dv 0) d_int) a_nil)))))
  s_nil)
  (s_cons (s_if (t_cmp (o_eq hu) (dv 2) (d_gl (c.g_MOVED.d rfl rfl)))
  (s_one (s_ret (d_tup (a_cons (dv 3) (a_cons (dv 4) (a_cons (d_callTy c_tuple c.m_tuple bt_tuple (a_cons (d_lc rfl hN (i_seq (dv 5)) (blkOk_by (own := [("worth", 9), ("weight", 10)]) (by kernel_rfl)) (fun _ _ _ _ _ => (g_tup (n := 2) rfl (gs_cons (g_name 9 hN) (gs_cons (g_name 10 hN) gs_nil)))) (fun _ _ _ _ _ => ts_nil) (fun _ _ _ _ _ => (d_tup (a_cons (d_op o_add (dv 9) (d_ix (dv 0) d_int)) (a_cons (dv 10) a_nil))))) a_nil)) a_nil))))))
  s_nil)
  (s_cons (s_if (t_cmp (o_eq hu) (dv 2) (d_gl (c.g_TIMES.d rfl rfl)))
  (s_one (s_ret (d_tup (a_cons (dv 3) (a_cons (dv 4) (a_cons (d_callTy c_tuple c.m_tuple bt_tuple (a_cons (d_lc rfl hN (i_seq (dv 5)) (blkOk_by (own := [("worth", 9), ("weight", 10)]) (by kernel_rfl)) (fun _ _ _ _ _ => (g_tup (n := 2) rfl (gs_cons (g_name 9 hN) (gs_cons (g_name 10 hN) gs_nil)))) (fun _ _ _ _ _ => ts_nil) (fun _ _ _ _ _ => (d_tup (a_cons (dv 9) (a_cons (d_op o_mul (dv 10) (d_ix (dv 0) d_int)) a_nil))))) a_nil)) a_nil))))))
  s_nil)
  (s_cons (s_if (t_cmp (o_eq hu) (dv 2) (d_gl (c.g_TIED.d rfl rfl))) (s_one s_never) s_nil)
  (s_cons (s_if (t_cmp (o_eq hu) (dv 2) (d_gl (c.g_ONLY.d rfl rfl))) (s_one s_never) s_nil)
  (s_cons (s_set 6 hN (d_callTy c_tuple c.m_tuple bt_tuple (a_cons (d_callB (c_sortT hu5) c.m_sorted bt_sorted (a_cons (d_lc rfl hN (i_seq (dv 4)) (blkOk_by (own := [("near", 7), ("far", 8)]) (by kernel_rfl)) (fun _ _ _ _ _ => (g_tup (n := 2) rfl (gs_cons (g_name 7 hN) (gs_cons (g_name 8 hN) gs_nil)))) (fun _ _ _ _ _ => ts_nil) (fun _ _ _ _ _ => (d_tup (a_cons (dv 8) (a_cons (dv 7) a_nil))))) a_nil)) a_nil)))
  (s_one (s_ret (d_tup (a_cons (dv 3) (a_cons (dv 6) (a_cons (d_callTy c_tuple c.m_tuple bt_tuple (a_cons (d_lc rfl hN (i_seq (dv 5)) (blkOk_by (own := [("worth", 9), ("weight", 10)]) (by kernel_rfl)) (fun _ _ _ _ _ => (g_tup (n := 2) rfl (gs_cons (g_name 9 hN) (gs_cons (g_name 10 hN) gs_nil)))) (fun _ _ _ _ _ => ts_nil) (fun _ _ _ _ _ => (d_tup (a_cons (d_op o_sub d_int (dv 9)) (a_cons (dv 10) a_nil))))) a_nil)) a_nil)))))))))))))), fun ds O R h => ?_⟩
  · unfold gSingle at h
    split at h <;> first | rfl | exact h.elim
  · unfold gSingle at h
    split at h
    · obtain ⟨t, rfl, rfl, h1, hg, h⟩ := h
      cases t with
      | thing a b => cases h1
      | none => cases h1
      | besd s t => cases h1
      | belw s t => cases h1
      | row t k =>
        obtain ⟨⟨g1, g2, g3, g4, g5⟩, g6⟩ := hg
        exact ⟨ev t, rfl, g3, g4, by omega, Fin.i h⟩
      | turned t =>
        have ok := hg.1.ok
        refine lcD_map (ev t).ties prD (fun p => prD (p.2, p.1)) (fun p _ K1 k1 => needB_i rfl k1) ?_
        have e1 : (ev t).ties.map (fun p => prD (p.2, p.1)) = ((ev t).ties.map fun p => (p.2, p.1)).map prD := by rw [List.map_map]; rfl
        rw [e1]
        dsimp only [tdNil]
        refine sort_pairs _ ?_
        refine lcD_map (ev t).seen frD (fun p => frD (0 - p.1, p.2)) (fun p _ K1 k1 => needB_i rfl k1) ?_
        have e2 : (ev t).seen.map (fun p => frD (0 - p.1, p.2)) = ((ev t).seen.map fun p => (0 - p.1, p.2)).map frD := by rw [List.map_map]; rfl
        rw [e2]
        exact Fin.i h
      | moved t k =>
        have ok := hg.1.1.ok
        refine lcD_map (ev t).seen frD (fun p => frD (p.1 + k, p.2)) (fun p _ K1 k1 => needB_i rfl k1) ?_
        have e2 : (ev t).seen.map (fun p => frD (p.1 + k, p.2)) = ((ev t).seen.map fun p => (p.1 + k, p.2)).map frD := by rw [List.map_map]; rfl
        rw [e2]
        exact Fin.i h
      | times t k =>
        have ok := hg.1.1.ok
        refine lcD_map (ev t).seen frD (fun p => frD (p.1, p.2 * k)) (fun p hp K1 k1 => ?_) ?_
        · have b := ok.bd p hp
          have g := hg.1.2
          exact ⟨sm_mul (sm1000 (by omega) (by omega)) (sm1000 (by omega) (by omega)), k1⟩
        · have e2 : (ev t).seen.map (fun p => frD (p.1, p.2 * k)) = ((ev t).seen.map fun p => (p.1, p.2 * k)).map frD := by rw [List.map_map]; rfl
          rw [e2]
          exact Fin.i h
    · exact h.elim
def isTwo : Tm → Bool
  | .belw _ _ => true
  | _ => false
def gByWord : GC := fun ds O Q => match ds with
  | [d, .lst fs] => ∃ t, d = tmD t ∧ fs = (plc t).map (fun k => fdD (ev (kid t k))) ∧ Gd t ∧ Q (fdD (ev t)) O
  | _ => False
theorem k_by_word (c : Hd w K mg base aI aF aL aC cT pT) : Dl.Def prog w K mg base 4 "by_word" ["term", "some"] gByWord := by
  have k_laid := k_laid c
  have k_single_of := k_single_of c
  have S : FnScope ["term", "some"] ["term", "some"] (defScope s_by_word) := C8.fnScope_by (by kernel_rfl)
  have hN := S.nd
  refine def_ok c.f_by_word S (fun _ _ _ _ _ _ us hl => match us, hl with | [_, _], _ => rfl) (fun ds O R h => ?_) fun f cdv A outer s H E hr => ⟨_, have hu := room64 hr; have hu5 := room65 hr; have hu1 := room1 hr; (s_cons (s_if (t_cmp (o_eq hu) (d_ix (dv 0) d_int) (d_gl (c.g_THING.d rfl rfl)))
  (s_one (s_ret (d_tup (a_cons d_int (a_cons (d_tup a_nil) (a_cons (d_tup (a_cons (d_sl (dv 0) (p_at d_int) p_no) a_nil)) a_nil))))))
  s_nil)
  (s_cons (s_if (t_cmp (o_eq hu) (d_ix (dv 0) d_int) (d_gl (c.g_NONE.d rfl rfl)))
  (s_one (s_ret (d_tup (a_cons d_int (a_cons (d_tup a_nil) (a_cons (d_tup a_nil) a_nil))))))
  s_nil)
  (s_cons (s_if (t_cmp (o_in hu5) (d_ix (dv 0) d_int) (d_gl (c.g_DOUBLE.d rfl rfl)))
  (s_one (s_ret (d_call k_laid hr (by decide) (a_cons (d_ix (dv 1) d_int) (a_cons (d_ix (dv 1) d_int) (a_cons (d_cmp (o_eq hu) (d_ix (dv 0) d_int) (d_gl (c.g_BELOW_terms.d rfl rfl))) a_nil))))))
  s_nil)
  (s_one (s_ret (d_call k_single_of hr (by decide) (a_cons (dv 0) (a_cons (d_ix (dv 1) d_int) a_nil)))))))), fun ds O R h => ?_⟩
  · unfold gByWord at h
    split at h <;> first | rfl | exact h.elim
  · unfold gByWord at h
    split at h
    · obtain ⟨t, rfl, rfl, hg, h⟩ := h
      have hi : (okD 60 (.str (wdT t)) && okDs 59 [D.str "beside", D.str "below"]) = true := Bool.and_eq_true_iff.mpr ⟨strOk_wd t, by decide +kernel⟩
      cases t with
      | thing a b => exact Fin.i h
      | none => exact Fin.i h
      | besd s t => exact needB_i hi ⟨ev s, ev t, rfl, rfl, hg.1.1.ok, hg.1.2.ok, Fin.i h⟩
      | belw s t => exact needB_i hi ⟨ev s, ev t, rfl, rfl, hg.1.1.ok, hg.1.2.ok, Fin.i h⟩
      | row t k => exact needB_i hi ⟨_, rfl, rfl, rfl, hg, Fin.i h⟩
      | turned t => exact needB_i hi ⟨_, rfl, rfl, rfl, hg, Fin.i h⟩
      | moved t k => exact needB_i hi ⟨_, rfl, rfl, rfl, hg, Fin.i h⟩
      | times t k => exact needB_i hi ⟨_, rfl, rfl, rfl, hg, Fin.i h⟩
    · exact h.elim
end
end Ri

set_option maxRecDepth 100000
set_option maxHeartbeats 2000000
/-! a def whose code object is known; the order of rows -/
namespace Ri
open PySem PySem.Spec PyProof.Rows L2 Dl
section
variable {P : Program} {w : World} {K : PySem.W.Frag} {mg : Str → Option Value} {base : Heap} {x qual : Str} {params : Arguments} {body : List Stmt} {scope : Scope} {f : Addr} {fd : FuncData}
theorem fn_okC {N ps : List Str} {k : Nat} {g : GC} (F : FunD K x qual params body scope [] [] f fd) (S : FnScope N ps scope) (len : ∀ ds O R, g ds O R → ds.length = ps.length)
    (hbody : ∀ (A : Around) (outer : List Env) (s : Shared) (H : Hp) (E : XK), Room k (A.deeper (envOfC qual scope s.heap.objs.size f fd.code)) →
      ∃ t, PSDs (cxOf CX0 P w K mg base N qual scope f fd.code A outer s H E).nox body t ∧ ∀ ds O R, g ds O R → t { nx := fun _ O' => Fin R .non O', rt := Fin R } (startD N.length ds) O) : FnOk P w K mg base CX0 (k + 1) f fd ps (spD K g) := by
  obtain ⟨oc, od, dV, kV, doc, pm, an, cdv, ct, osl, rfl, lk, hcd, _, _⟩ := F.ex
  refine fn_of lk hcd S (fun vs H Q E ⟨F', O, ds, R, _, r, h, _⟩ => by rw [← r.length]; exact len ds O R h) fun A outer s H vs Q E hr ⟨F', O, ds, R, pre, r, h, k⟩ => ?_
  obtain ⟨t, ht, hq⟩ := hbody A outer s H E hr
  refine ⟨_, ht.nox, F', O, startD N.length ds, _, pre, rep_start N r, hq ds O R h, ⟨fun σ' H1 F1 O1 env1 s1 re1 h1 => ?_, fun v H1 F1 d O1 s1 r1 h1 => ?_, fun _ _ _ _ _ _ _ h => h, fun _ _ _ _ _ _ _ h => h⟩⟩
  · obtain ⟨O2, b, h2⟩ := h1
    exact k _ H1 F1 _ O2 (s1.sub b) .non h2
  · obtain ⟨O2, b, h2⟩ := h1
    exact k _ H1 F1 _ O2 (s1.sub b) r1 h2
end
theorem def_okC {w : World} {K : PySem.W.Frag} {mg : Str → Option Value} {base : Heap} {x : Str} {st : Stmt} {cT : Addr} {N ps : List Str} {k : Nat} {g : GC} (c : ∃ f fd, mg x = some (.ref f) ∧ FunD K x x (defArgs st) (defBody st) (defScope st) [] [] f fd ∧ fd.code = .ref cT) (S : FnScope N ps (defScope st)) (hb : ∀ (kV doc pm : Value) (an : Option Addr) (cdv ct : Value) (us : List Value), us.length = ps.length → bindArgs (PySem.W.fnOf x x (defArgs st) (defBody st) (defScope st) .none kV doc pm an cdv ct) ⟨us, []⟩ = pure (ps.zip us))
    (len : ∀ ds O R, g ds O R → ds.length = ps.length)
    (hbody : ∀ (f : Addr) (cdv : Value) (hc : cdv = .ref cT) (A : Around) (outer : List Env) (s : Shared) (H : Hp) (E : XK), Room k (A.deeper (envOfC x (defScope st) s.heap.objs.size f cdv)) →
      ∃ t, PSDs (cxOf CX0 prog w K mg base N x (defScope st) f cdv A outer s H E).nox (defBody st) t ∧ ∀ ds O R, g ds O R → t { nx := fun _ O' => Fin R .non O', rt := Fin R } (startD N.length ds) O) : Dl.Def prog w K mg base (k + 1) x ps g := by
  obtain ⟨f, fd, hm, F, hc⟩ := c
  exact def_mk hm F (F.bindsN hb) (fn_okC F S len fun A outer s H E hr => hbody f fd.code hc A outer s H E hr)
theorem leI_eq (a b : List Int) : leI a b = decide (a ≤ b) := by
  show (!PySem.W.dataLt (.tuple (b.map .int)) (.tuple (a.map .int))) = _
  rw [PySem.W.dataLt_tuple]
  show (!PySem.W.rowLt (b.map .int) (a.map .int)) = _
  rw [PySem.W.dataLt_ints]
  by_cases h : b < a
  · have h' : ¬ a ≤ b := fun r => List.not_lt.mpr r h
    simp [h, h']
  · have h' : a ≤ b := List.not_lt.mp h
    simp [h, h']
theorem leK_eq (n : Int) (a b : List Int) : leK n a b = decide (a ++ [n] ≤ b ++ [n]) := leI_eq _ _
/-- what goes on below stands before -/
theorem key_lt (r : List Int) (k n : Int) (h : k < n) : ∀ p : List Int, (p ++ k :: r) ++ [n] < p ++ [n]
  | [] => List.cons_lt_cons_iff.mpr (.inl h)
  | a :: p => List.cons_lt_cons_iff.mpr (.inr ⟨rfl, key_lt r k n h p⟩)
theorem key_nle (p r : List Int) (k n : Int) (h : k < n) : ¬ (p ++ [n] ≤ (p ++ k :: r) ++ [n]) := fun e => List.not_lt.mpr e (key_lt r k n h p)
theorem look_put_same {κ : Type} [DecidableEq κ] (k : κ) (d : D) : ∀ kvs : List (κ × D), lookK (putKD kvs k d) k = some d := by
  intro kvs
  unfold putKD
  split
  · rename_i h
    induction kvs with
    | nil => simp at h
    | cons x r ih =>
      rw [List.map_cons]
      by_cases e : x.1 = k
      · rw [if_pos e]
        unfold lookK
        exact if_pos e
      · rw [if_neg e]
        unfold lookK
        rw [if_neg e]
        refine ih ?_
        rw [List.any_cons] at h
        simpa [e] using h
  · rename_i h
    induction kvs with
    | nil =>
      show lookK ([] ++ [(k, d)]) k = _
      rw [List.nil_append]
      unfold lookK
      exact if_pos rfl
    | cons x r ih =>
      rw [List.any_cons] at h
      have e : ¬ x.1 = k := fun e => h (by simp [e])
      show (if x.1 = k then some x.2 else lookK (r ++ [(k, d)]) k) = _
      rw [if_neg e]
      exact ih fun z => h (by rw [z]; simp)
theorem look_put_ne {κ : Type} [DecidableEq κ] {k z : κ} (d : D) (hz : z ≠ k) : ∀ kvs : List (κ × D), lookK (putKD kvs k d) z = lookK kvs z := by
  intro kvs
  unfold putKD
  split
  · induction kvs with
    | nil => rfl
    | cons x r ih =>
      rename_i h
      rw [List.map_cons]
      have ih : lookK (r.map fun kv => if kv.1 = k then (kv.1, d) else kv) z = lookK r z := by
        clear ih h
        induction r with
        | nil => rfl
        | cons y r ih =>
          rw [List.map_cons]
          by_cases e : y.1 = k
          · rw [if_pos e]
            have ne : ¬ y.1 = z := fun q => hz (q ▸ e)
            show (if y.1 = z then some d else lookK _ z) = (if y.1 = z then some y.2 else lookK r z)
            rw [if_neg ne, if_neg ne]
            exact ih
          · rw [if_neg e]
            show (if y.1 = z then some y.2 else lookK _ z) = (if y.1 = z then some y.2 else lookK r z)
            rw [ih]
      by_cases e : x.1 = k
      · rw [if_pos e]
        have ne : ¬ x.1 = z := fun q => hz (q ▸ e)
        show (if x.1 = z then some d else lookK _ z) = (if x.1 = z then some x.2 else lookK r z)
        rw [if_neg ne, if_neg ne]
        exact ih
      · rw [if_neg e]
        show (if x.1 = z then some x.2 else lookK _ z) = (if x.1 = z then some x.2 else lookK r z)
        rw [ih]
  · rename_i h
    clear h
    induction kvs with
    | nil =>
      show (if k = z then some d else lookK [] z) = lookK [] z
      rw [if_neg (Ne.symm hz)]
    | cons x r ih =>
      show (if x.1 = z then some x.2 else lookK (r ++ [(k, d)]) z) = (if x.1 = z then some x.2 else lookK r z)
      rw [ih]
theorem put_len {κ : Type} [DecidableEq κ] (k : κ) (d : D) (kvs : List (κ × D)) : (putKD kvs k d).length ≤ kvs.length + 1 := by
  unfold putKD
  split
  · rw [List.length_map]
    omega
  · rw [List.length_append]
    exact Nat.le_refl _
end Ri

set_option maxRecDepth 100000
set_option maxHeartbeats 2000000
/-! THE DEFS, 11: the field of a term. -/
namespace Ri
open PySem PySem.Spec PyProof.Rows L2 Dl
theorem okP_kid : ∀ {t : Tm} {p : List Nat} {k : Nat}, okP t p → k ∈ plc (sub t p) → okP t (p ++ [k])
  | t, [], k, _, hk => ⟨hk, trivial⟩
  | t, j :: p, k, h, hk => ⟨h.1, okP_kid (t := kid t j) h.2 hk⟩
theorem sub_snoc : ∀ (t : Tm) (p : List Nat) (k : Nat), sub t (p ++ [k]) = kid (sub t p) k
  | t, [], k => rfl
  | t, j :: p, k => sub_snoc (kid t j) p k
theorem gd_sub : ∀ {t : Tm} {p : List Nat}, Gd t → okP t p → Gd (sub t p)
  | t, [], h, _ => h
  | t, j :: p, h, hp => gd_sub (t := kid t j) (h.kid hp.1) hp.2
theorem kid_dep {t : Tm} {k : Nat} (hk : k ∈ plc t) : dep (kid t k) < dep t := by
  cases t with
  | thing a b => simp [plc] at hk
  | none => simp [plc] at hk
  | besd s t => simp only [kid, dep]; split <;> omega
  | belw s t => simp only [kid, dep]; split <;> omega
  | row t k => exact Nat.lt_succ_self _
  | turned t => exact Nat.lt_succ_self _
  | moved t k => exact Nat.lt_succ_self _
  | times t k => exact Nat.lt_succ_self _
theorem okP_len : ∀ {t : Tm} {p : List Nat}, okP t p → p.length ≤ dep t
  | t, [], _ => Nat.zero_le _
  | t, j :: p, h => by
    have := okP_len h.2
    have := kid_dep h.1
    rw [List.length_cons]
    omega
theorem mem_ptl : ∀ (n : Nat) (t : Tm) (q x : List Nat), dep t ≤ n → (x ∈ ptl t q ↔ ∃ r, x = q ++ r ∧ okP t r)
  | 0, t, q, x, h => by cases t <;> simp [dep] at h
  | n + 1, t, q, x, h => by
    rw [ptl_eq, List.mem_cons, List.mem_flatMap]
    constructor
    · rintro (rfl | ⟨k, hk, hx⟩)
      · exact ⟨[], (List.append_nil _).symm, trivial⟩
      · obtain ⟨r, e1, e2⟩ := (mem_ptl n (kid t k) (q ++ [k]) x (by have := kid_dep hk; omega)).mp hx
        exact ⟨k :: r, by rw [e1, List.append_assoc]; rfl, hk, e2⟩
    · rintro ⟨r, rfl, hr⟩
      cases r with
      | nil => exact .inl (List.append_nil _)
      | cons k r => exact .inr ⟨k, hr.1, (mem_ptl n (kid t k) (q ++ [k]) _ (by have := kid_dep hr.1; omega)).mpr ⟨r, by rw [List.append_assoc]; rfl, hr.2⟩⟩
theorem mem_paths {t : Tm} {x : List Nat} : x ∈ ptl t [] ↔ okP t x := by
  rw [mem_ptl (dep t) t [] x (Nat.le_refl _)]
  exact ⟨fun ⟨r, e, h⟩ => e ▸ h, fun h => ⟨x, rfl, h⟩⟩
def lePt (a b : List Nat) : Bool := leK 9 (toI a) (toI b)
def sortPt (ls : List (List Nat)) : List (List Nat) := ls.mergeSort lePt
theorem sortPt_map (ls : List (List Nat)) : (sortPt ls).map toI = sortK 9 (ls.map toI) := List.map_mergeSort fun _ _ _ _ => rfl
theorem sortPt_perm (ls : List (List Nat)) : (sortPt ls).Perm ls := List.mergeSort_perm _ _
theorem lePt_eq (a b : List Nat) : lePt a b = decide (toI a ++ [9] ≤ toI b ++ [9]) := leK_eq _ _ _
theorem sortPt_pw (ls : List (List Nat)) : (sortPt ls).Pairwise fun a b => toI a ++ [9] ≤ toI b ++ [9] := by
  have h := List.pairwise_mergeSort (le := lePt) (fun a b c h1 h2 => by
    rw [lePt_eq] at h1 h2 ⊢
    exact decide_eq_true (List.le_trans (of_decide_eq_true h1) (of_decide_eq_true h2))) (fun a b => by
    rw [lePt_eq, lePt_eq, Bool.or_eq_true, decide_eq_true_iff, decide_eq_true_iff]
    exact List.le_total _ _) ls
  exact h.imp fun {a b} e => by
    rw [lePt_eq] at e
    exact of_decide_eq_true e
def keyN (p : List Nat) : List Key := p.map fun (i : Nat) => Sum.inl (i : Int)
theorem keyN_inj : ∀ {p q : List Nat}, keyN p = keyN q → p = q
  | [], [], _ => rfl
  | [], _ :: _, h => by cases h
  | _ :: _, [], h => by cases h
  | a :: p, b :: q, h => by
    injection h with h1 h2
    have h1 := Sum.inl.inj h1
    rw [keyN_inj h2, show a = b by omega]
theorem keysD_nat : ∀ p : List Nat, keysD (natD p) = some (keyN p)
  | [] => rfl
  | i :: p => by
    show (match some (Sum.inl (i : Int) : Key), keysD (natD p) with
      | some k, some ks => some (k :: ks)
      | _, _ => none) = _
    rw [keysD_nat p]
    rfl
section
variable {w : World} {K : PySem.W.Frag} {mg : Str → Option Value} {base : Heap} {aI aF aL aC cT pT : Addr}
theorem dgetT_l {i : Nat} {ty : TD} {env : DEnv} {O : DO} {p : Addr} {kvs : List (List Key × D)} {ds : List D} {z : List Key} {v : D} {Q : D → DO → Prop} (hi : lk env i = some (.ptr p)) (hO : O p = some (.dT kvs)) (hy : ∀ Q : D → DO → Prop, Q (.tup ds) O → ty env O Q) (hk : keysD ds = some z) (hv : lookK kvs z = some v) (h : Q v O) : tdDGet (tdV i) ty env O Q := by
  unfold tdDGet tdV
  rw [hi]
  refine hy _ ?_
  unfold getDD
  simp only [hO, hk, hv]
  exact h
theorem dputT_l {i j : Nat} {env : DEnv} {O : DO} {p : Addr} {kvs : List (List Key × D)} {ds : List D} {z : List Key} {v : D} {te : TD} {DE : DEnds} (he : ∀ Q : D → DO → Prop, Q v O → te env O Q) (hi : lk env i = some (.ptr p)) (hO : O p = some (.dT kvs)) (hj : lk env j = some (.tup ds)) (hk : keysD ds = some z) (hl : kvs.length < 16777216) (h : DE.nx env (updO O p (.dT (putKD kvs z v)))) : tdDPut te (tdV i) (tdV j) DE env O := by
  unfold tdDPut tdV
  refine he _ ?_
  simp only [hi, hj, hO, hk]
  exact needB_i (Nat.ble_eq_true_of_le hl) h
theorem sortK_v {i : Nat} {P : Addr} {q : Str} {env : DEnv} {O : DO} {Q : D → DO → Prop} (ls : List (List Nat)) (hi : lk env i = some (.lst (ls.map lotD))) (hl : ∀ p ∈ ls, p.length < 1000000) (hT : O P = some (.tbl q)) (h : Q (.lst ((sortPt ls).map lotD)) O) : tdSortK P q 9 (tdV i) env O Q := by
  unfold tdSortK tdV
  simp only [hi]
  rw [rowsD_map toI lotD (fun l => (tupI_toI l).symm)]
  refine needB_i ?_ ⟨hT, ?_⟩
  · rw [List.all_map]
    refine List.all_eq_true.mpr fun p hp => Nat.ble_eq_true_of_le ?_
    have := hl p hp
    unfold toI
    rw [List.length_map]
    exact this
  · have e : sortK 9 (ls.map toI) = (sortPt ls).map toI := (sortPt_map ls).symm
    rw [e, List.map_map]
    have e2 : (tupI ∘ toI) = lotD := funext tupI_toI
    rw [e2]
    exact h
def qT : Str := "field_in.<locals>.<lambda>"
def gField : Addr → GC := fun pT ds O Q => match ds with
  | [d] => ∃ t, d = tmD t ∧ okT t = true ∧ dep t ≤ 8 ∧ (ptl t []).length ≤ 19 ∧ Gd t ∧ O pT = some (.tbl qT) ∧ Q (fdD (ev t)) O
  | _ => False
theorem k_field_in (c : Hd w K mg base aI aF aL aC cT pT) : Dl.Def prog w K mg base 7 "field_in" ["term"] (gField pT) := by
  have k_paths_in := k_paths_in c
  have k_term_at := k_term_at c
  have k_by_word := k_by_word c
  have k_places_in := k_places_in c
  have k_is_good := k_is_good c
  have S : FnScope ["term", "paths", "found", "path", "here", "fresh", "place"] ["term"] (defScope s_field_in) := C8.fnScope_by (by kernel_rfl)
  have hN := S.nd
  refine def_okC c.fT S (fun _ _ _ _ _ _ us hl => match us, hl with | [_], _ => rfl) (fun ds O R h => ?_) fun f cdv hcode A outer s H E hr => ⟨_, have hu := room64 hr; have hu5 := room65 hr; have hu1 := room1 hr; (s_cons (s_asg (d_tup (a_cons (d_call k_paths_in hr (by decide) (a_cons (dv 0) a_nil)) (a_cons d_dictTO a_nil))) (g_tup (n := 2) rfl (gs_cons (g_name 1 hN) (gs_cons (g_name 2 hN) gs_nil))))
  (s_cons (s_for PassesOwn.never rfl (i_seq (d_sortK (p5 := ⟨0, 0, 0, 0⟩) (hr.mono (by decide)) c.tb hcode c.m_sorted rfl (dv 1))) (g_name 3 hN) (s_cons (s_set 4 hN (d_call k_term_at hr (by decide) (a_cons (dv 0) (a_cons (dv 3) a_nil))))
  (s_cons (s_set 5 hN (d_call k_by_word hr (by decide) (a_cons (dv 4) (a_cons (d_lc rfl hN (i_seq (d_call k_places_in hr (by decide) (a_cons (dv 4) a_nil))) (blkOk_by (own := [("place", 6)]) (by kernel_rfl)) (fun _ _ _ _ _ => (g_name 6 hN)) (fun _ _ _ _ _ => ts_nil) (fun _ _ _ _ _ => (d_dget hu1 (dv 2) (d_op o_add (dv 3) (d_tup (a_cons (dv 6) a_nil)))))) a_nil))))
  (s_cons (s_if (t_not (t_val (d_call k_is_good hr (by decide) (a_cons (dv 5) a_nil)))) (s_one s_never) s_nil)
  (s_one (s_dput hu1 (dv 5) (dv 2) (dv 3)))))))
  (s_one (s_ret (d_dget hu1 (dv 2) (d_tup a_nil)))))), fun ds O R h => ?_⟩
  · unfold gField at h
    split at h <;> first | rfl | exact h.elim
  · unfold gField at h
    split at h
    rotate_left
    · exact h.elim
    obtain ⟨t, rfl, ht, hd, hl, hg, hT, h⟩ := h
    refine ⟨t, rfl, ht, hd, hl, fun p hp => ?_⟩
    dsimp only [tdNil]
    refine needB_i rfl ?_
    dsimp only [gdT]
    refine needB_i rfl ?_
    dsimp only [gdCons, gdN, gdNil, tdSeq, tdFor, tiSeq]
    have hpT : p ≠ pT := fun z => by rw [z, hT] at hp; cases hp
    refine sortK_v (i := 1) (ptl t []) rfl (fun q hq => by have := okP_len (mem_paths.mp hq); omega) (by rw [updO_ne (Ne.symm hpT)]; exact hT) ?_
    have hperm := sortPt_perm (ptl t [])
    have hpw := sortPt_pw (ptl t [])
    have hmem : ∀ x, x ∈ sortPt (ptl t []) ↔ okP t x := fun x => by rw [hperm.mem_iff]; exact mem_paths
    have hlen : (sortPt (ptl t [])).length ≤ 19 := by rw [hperm.length_eq]; exact hl
    generalize sortPt (ptl t []) = L at hpw hmem hlen
    refine for_ind (fun rem env O' => ∃ dn r kvs, L = dn ++ r ∧ rem = r.map lotD ∧ (∃ x3 x4 x5, env = [some (tmD t), some (.lst ((ptl t []).map lotD)), some (.ptr p), x3, x4, x5, none]) ∧ O' p = some (.dT kvs) ∧ (∀ x ∈ dn, lookK kvs (keyN x) = some (fdD (ev (sub t x)))) ∧ kvs.length ≤ dn.length ∧ Sub O O')
      (fun d r env O' N h1 k => ?_) (fun env O' h1 => ?_) ⟨[], L, [], rfl, rfl, ⟨none, none, none, rfl⟩, updO_same, fun x hx => by simp at hx, Nat.le_refl _, sub_upd hp (Sub.refl O)⟩
    · obtain ⟨dn, r, kvs, hL, hr, ⟨x3, x4, x5, rfl⟩, hO, hk, hkl, hS⟩ := h1
      cases r with
      | nil => cases hr
      | cons q r =>
        rw [List.map_cons] at hr
        injection hr with e1 e2
        subst e1 e2
        have hq : okP t q := (hmem q).mp (by rw [hL]; exact List.mem_append_right _ List.mem_cons_self)
        have hgs := gd_sub hg hq
        refine ⟨t, q, rfl, rfl, hq, ?_⟩
        dsimp only [tdSeq, tdAsg]
        refine call_v (cons_v ?_)
        refine v_i (i := 4) rfl ?_
        refine cons_v ?_
        dsimp only [tdLc, tiSeq]
        refine call1_v (i := 4) rfl ⟨sub t q, rfl, ?_⟩
        refine lcD_map (plc (sub t q)) (fun (j : Nat) => D.int (j : Int)) (fun j => fdD (ev (kid (sub t q) j))) (fun j hj K1 k1 => ?_) ?_
        · have hj9 : (j : Int) < 9 := by
            have : ∀ s : Tm, ∀ j ∈ plc s, j < 9 := by
              intro s j hj
              cases s <;> simp [plc] at hj <;> omega
            have := this _ j hj
            omega
          have hc : okP t (q ++ [j]) := okP_kid hq hj
          have hcL : q ++ [j] ∈ dn := by
            have h1 := (hmem _).mpr hc
            rw [hL] at h1
            rcases List.mem_append.mp h1 with h1 | h1
            · exact h1
            · rcases List.mem_cons.mp h1 with h1 | h1
              · have := congrArg List.length h1
                rw [List.length_append] at this
                simp at this
              · rw [hL] at hpw
                have h2 := (List.pairwise_cons.mp (List.pairwise_append.mp hpw).2.1).1 _ h1
                have e3 : toI (q ++ [j]) = toI q ++ [(j : Int)] := List.map_append
                rw [e3] at h2
                exact absurd h2 (key_nle (toI q) [] (j : Int) 9 hj9)
          have hlook := hk _ hcL
          rw [sub_snoc] at hlook
          dsimp only [gdN]
          refine dgetT_l (i := 2) (ds := natD (q ++ [j])) rfl hO (fun Q hQ => ?_) (keysD_nat _) hlook k1
          rw [natD_append] at hQ
          have := okP_len hq
          refine needB_i (szB_i (by rw [natD_length]; show q.length + 1 ≤ _; omega)) ?_
          exact hQ
        · dsimp only [tdNil]
          refine ⟨sub t q, rfl, rfl, hgs, ?_⟩
          dsimp only [gdN, tdSeq, tdIfS, tdNot, tdNx]
          refine tt_l (call1_v (i := 5) rfl ⟨ev (sub t q), hgs.ok, rfl, ?_⟩)
          show tdDPut (tdV 5) (tdV 2) (tdV 3) _ _ _
          refine dputT_l (i := 2) (j := 3) (v := fdD (ev (sub t q))) (fun Q hQ => v_i (i := 5) rfl hQ) rfl hO rfl (keysD_nat q) (by have := congrArg List.length hL; rw [List.length_append] at this; omega) ?_
          refine k _ _ ⟨dn ++ [q], r, putKD kvs (keyN q) (fdD (ev (sub t q))), by rw [hL, List.append_assoc]; rfl, rfl, ⟨_, _, _, rfl⟩, updO_same, fun x hx => ?_, ?_, sub_upd hp hS⟩
          · by_cases e : keyN x = keyN q
            · rw [e, look_put_same, keyN_inj e]
            · rw [look_put_ne _ e]
              rcases List.mem_append.mp hx with hx | hx
              · exact hk x hx
              · have : x = q := by simpa using hx
                exact absurd (by rw [this]) e
          · have := put_len (keyN q) (fdD (ev (sub t q))) kvs
            rw [List.length_append]
            show _ ≤ dn.length + 1
            omega
    · obtain ⟨dn, r, kvs, hL, hr, ⟨x3, x4, x5, rfl⟩, hO, hk, hkl, hS⟩ := h1
      have er : r = [] := List.map_eq_nil_iff.mp hr.symm
      subst er
      rw [List.append_nil] at hL
      have h0 : ([] : List Nat) ∈ dn := by rw [← hL]; exact (hmem []).mpr trivial
      dsimp only [tdRet]
      exact dgetT_l (i := 2) (ds := []) rfl hO (fun Q hQ => hQ) rfl (hk [] h0) ⟨O, hS, h⟩
end
end Ri

set_option maxRecDepth 100000
set_option maxHeartbeats 2000000
/-! THE DEFS, 12: reading numbers. -/
namespace Ri
open PySem PySem.Spec PyProof.Rows L2 Dl
/-- the text of a whole number -/
def sgL (i : Int) : List Nat := if i < 0 then 45 :: TL.numL i.natAbs else TL.numL i.natAbs
theorem tl_int (i : Int) : TL.tl (Str.ofString (toString i)) = sgL i := by
  cases i with
  | ofNat n =>
    unfold sgL
    have e : ¬ (Int.ofNat n < 0) := Int.not_lt.mpr (Int.natCast_nonneg n)
    rw [if_neg e]
    exact TL.tl_num n
  | negSucc n =>
    unfold sgL
    rw [if_pos (Int.negSucc_lt_zero n)]
    rw [TL.tl_ofString]
    have e : (toString (Int.negSucc n)) = "-" ++ toString (n + 1) := rfl
    rw [e, String.toList_append, List.map_append]
    have e2 := TL.tl_num (n + 1)
    rw [TL.tl_ofString] at e2
    exact congrArg (fun l => 45 :: l) e2
theorem numL_head {n : Nat} : ∀ {r : List Nat}, TL.numL n = 48 :: r → n = 0 := by
  induction n using Nat.strongRecOn with
  | ind n ih =>
    intro r h
    by_cases hn : n < 10
    · rw [TL.numL_lt hn] at h
      injection h with h _
      omega
    · rw [TL.numL_step (by omega)] at h
      cases e : TL.numL (n / 10) with
      | nil => exact absurd e (TL.numL_ne _)
      | cons a t =>
        rw [e] at h
        injection h with h _
        subst h
        have := ih (n / 10) (by omega) e
        omega
theorem digs {n c : Nat} (h : c ∈ TL.numL n) : 48 ≤ c ∧ c ≤ 57 := by
  have := TL.numL_free (n := n) (s := c)
  by_cases q : c < 48 ∨ 57 < c
  · exact absurd h (this q)
  · omega
abbrev sgS (i : Int) : Str := Str.ofString (toString i)
/-- the figures without the sign -/
theorem sgS_eq (i : Int) : sgS i = SX.S (sgL i) := TL.ext_tl (tl_int i)
theorem int_back {i : Int} (h : i.natAbs < 10 ^ 30) : intText? (sgS i) = some i ∧ (sgS i).length ≤ 31 := by
  have hl := TL.numL_len (n := i.natAbs) (k := 30) (by decide) h
  have e := tl_int i
  unfold sgL at e
  split at e
  · have hlen : (sgS i).length ≤ 31 := by
      rw [TL.len_tl, e, List.length_cons]
      omega
    have := intText_neg (x := sgS i) e (TL.numL_digits _) (TL.numL_ne _) (by omega)
    rw [TL.numL_val] at this
    refine ⟨this.trans (congrArg some (by omega)), hlen⟩
  · have hlen : (sgS i).length ≤ 31 := by
      rw [TL.len_tl, e]
      omega
    have := intText_digits (x := sgS i) (by rw [show (sgS i).cps.toList = TL.numL i.natAbs from e]; exact TL.numL_digits _) (by rw [show (sgS i).cps.toList = TL.numL i.natAbs from e]; exact TL.numL_ne _) (by omega)
    rw [show (sgS i).cps.toList = TL.numL i.natAbs from e, TL.numL_val] at this
    exact ⟨this.trans (congrArg some (by omega)), hlen⟩
section
variable {w : World} {K : PySem.W.Frag} {mg : Str → Option Value} {base : Heap} {aI aF aL aC cT pT : Addr}
theorem bl_match {d : D} {P N : Prop} : (match d with
  | .bl true => P
  | .bl false => N
  | _ => False) = ∃ b, d = .bl b ∧ (b = true → P) ∧ (b = false → N) := by
  refine propext ⟨fun h => ?_, ?_⟩
  · cases d with
    | bl b =>
      cases b with
      | true => exact ⟨true, rfl, fun _ => h, fun e => by cases e⟩
      | false => exact ⟨false, rfl, (fun e => by cases e), fun _ => h⟩
    | _ => exact h.elim
  · rintro ⟨b, rfl, h1, h2⟩
    cases b with
    | true => exact h1 rfl
    | false => exact h2 rfl
theorem chain_l {g g' : GOp} {ta tb tc : TD} {env : DEnv} {O : DO} {Q : D → DO → Prop} (h : ta env O fun x O1 => tb env O1 fun y O2 => g O2 x y fun d => ∃ b, d = .bl b ∧ (b = true → tc env O2 fun z O3 => g' O3 y z fun d => Q d O3) ∧ (b = false → Q (.bl false) O2)) : tdChain g g' ta tb tc env O Q := by
  have e : (fun x O1 => tb env O1 fun y O2 => g O2 x y fun d => ∃ b, d = .bl b ∧ (b = true → tc env O2 fun z O3 => g' O3 y z fun d => Q d O3) ∧ (b = false → Q (.bl false) O2)) = fun x O1 => tb env O1 fun y O2 => g O2 x y fun d => match d with
      | .bl true => tc env O2 fun z O3 => g' O3 y z fun d => Q d O3
      | .bl false => Q (.bl false) O2
      | _ => False := by
    funext x O1
    refine congrArg _ ?_
    funext y O2
    refine congrArg _ ?_
    funext d
    exact bl_match.symm
  rw [e] at h
  exact h
theorem and_l {ta tb : TD} {env : DEnv} {O : DO} {Q : D → DO → Prop} (h : ta env O fun x O1 => ∃ b, x = .bl b ∧ (b = true → tb env O1 Q) ∧ (b = false → Q (.bl false) O1)) : tdAndV ta tb env O Q := by
  have e : (fun x O1 => ∃ b, x = D.bl b ∧ (b = true → tb env O1 Q) ∧ (b = false → Q (.bl false) O1)) = fun (x : D) O1 => match x with
      | .bl true => tb env O1 Q
      | .bl false => Q (.bl false) O1
      | _ => False := by
    funext x O1
    exact bl_match.symm
  rw [e] at h
  exact h
def gIntIn : GC := fun ds O Q => match ds with
  | [.str x] => ∃ i, x = sgS i ∧ i.natAbs < 10 ^ 30 ∧ Q (.int i) O
  | _ => False
theorem k_integer_in (c : Hd w K mg base aI aF aL aC cT pT) : Dl.Def prog w K mg base 1 "integer_in" ["word"] gIntIn := by
  have S : FnScope ["word", "figures", "figure"] ["word"] (defScope s_integer_in) := C8.fnScope_by (by kernel_rfl)
  have hN := S.nd
  refine def_ok c.f_integer_in S (fun _ _ _ _ _ _ us hl => match us, hl with | [_], _ => rfl) (fun ds O R h => ?_) fun f cdv A outer s H E hr => ⟨_, have hu := room64 hr; have hu5 := room65 hr; have hu1 := room1 hr; (s_cons (s_set 1 hN (d_if (t_cmp (o_eq hu) (d_sl (dv 0) p_no (p_at d_int)) (d_gl (c.g_MINUS.d rfl rfl))) (d_sl (dv 0) (p_at d_int) p_no) (dv 0)))
  (s_cons (s_if (t_w (w_or (t_not (t_chain o_le o_le d_int (d_callB c_len c.m_len bt_len (a_cons (dv 1) a_nil)) (d_gl (c.g_MOST_FIGURES.d rfl rfl)))) (w_or1 (t_not (t_val (d_callB (c_all rfl) c.m_all bt_all (a_cons (d_lc rfl hN (i_str (dv 1)) (blkOk_by (own := [("figure", 2)]) (by kernel_rfl)) (fun _ _ _ _ _ => (g_name 2 hN)) (fun _ _ _ _ _ => ts_nil) (fun _ _ _ _ _ => (d_cmp (o_in hu5) (dv 2) (d_gl (c.g_FIGURES.d rfl rfl))))) a_nil)))))))
  (s_one (s_ret d_non))
  s_nil)
  (s_cons (s_if (t_w (w_and (t_cmp (o_eq hu) (d_ix (dv 1) d_int) (d_gl (c.g_NAUGHT.d rfl rfl))) (w_and1 (t_cmp (o_ne hu) (dv 0) (d_gl (c.g_NAUGHT.d rfl rfl))))))
  (s_one (s_ret d_non))
  s_nil)
  (s_one (s_ret (d_callTy c_int c.m_int bt_int (a_cons (dv 0) a_nil))))))), fun ds O R h => ?_⟩
  · unfold gIntIn at h
    split at h <;> first | rfl | exact h.elim
  · unfold gIntIn at h
    split at h
    · obtain ⟨i, rfl, hi, h⟩ := h
      obtain ⟨hb, hlen⟩ := int_back hi
      have hnl := TL.numL_len (n := i.natAbs) (k := 30) (by decide) hi
      have hne := TL.numL_ne i.natAbs
      have c1 : cutS (sgS i) none (some 1) = SX.S ((sgL i).take 1) := by rw [C8.cutS_slice, sgS_eq]; exact SX.slice_to (by decide)
      have c2 : cutS (sgS i) (some 1) none = SX.S ((sgL i).drop 1) := by rw [C8.cutS_slice, sgS_eq]; exact SX.slice_from (by decide)
      have hz : szB (sgS i).length = true := szB_i (by omega)
      have key : ∀ Q' : D → DO → Prop, Q' (.str (SX.S (TL.numL i.natAbs))) O → tdIf (tdT (tdOp gEq (tdSl (tdV 0) tdNo (tdPart (tdC (D.int 1)))) (tdC (D.str "-")))) (tdSl (tdV 0) (tdPart (tdC (D.int 1))) tdNo) (tdV 0) [some (D.str (sgS i)), none, none] O Q' := by
        intro Q' q
        show needB (szB (sgS i).length) (iteB (decide (cutS (sgS i) none (some 1) = "-")) (needB (szB (sgS i).length) (Q' (.str (cutS (sgS i) (some 1) none)) O)) (Q' (.str (sgS i)) O))
        refine needB_i hz ?_
        rw [c1, c2]
        by_cases hn : i < 0
        · have e : sgL i = 45 :: TL.numL i.natAbs := if_pos hn
          rw [e]
          refine iteB_t rfl (needB_i hz ?_)
          exact q
        · have e : sgL i = TL.numL i.natAbs := if_neg hn
          refine iteB_f (decide_eq_false fun z => ?_) ?_
          · have z : SX.S ((sgL i).take 1) = SX.S [45] := z
            have z := SX.S_inj z
            rw [e] at z
            have : 45 ∈ TL.numL i.natAbs := List.mem_of_mem_take (by rw [z]; exact List.mem_cons_self)
            have := digs this
            omega
          · rw [sgS_eq, e]
            exact q
      have fin : gInt1 [.str (sgS i)] O (Dl.Fin R) := by
        show (match intText? (sgS i) with
          | some n => needB (Nat.ble (sgS i).length 640) (Dl.Fin R (.int n) O)
          | none => False)
        rw [hb]
        exact needB_i (Nat.ble_eq_true_of_le (by omega)) (Fin.i h)
      dsimp only [tdSeq, tdAsg]
      refine key _ ?_
      dsimp only [gdN, tdIfS, tdOr, tdNot]
      have hfl : (SX.S (TL.numL i.natAbs)).length = (TL.numL i.natAbs).length := SX.S_len _
      have hzf : szB (SX.S (TL.numL i.natAbs)).length = true := szB_i (by omega)
      have hpos : 0 < (TL.numL i.natAbs).length := List.length_pos_iff.mpr hne
      dsimp only [tdSeq, tdIfS, tdOr, tdNot, tdAnd]
      refine tt_l (chain_l ?_)
      refine call_v (cons_v (v_i (i := 1) rfl ?_))
      refine needB_i hzf ⟨_, rfl, fun _ => ?_, fun e => absurd (of_decide_eq_false e) fun z => z (by omega)⟩
      have e31 : decide (((SX.S (TL.numL i.natAbs)).length : Int) ≤ 31) = true := decide_eq_true (by omega)
      show iteB (!decide (((SX.S (TL.numL i.natAbs)).length : Int) ≤ 31)) _ _
      rw [e31]
      refine tt_l (call_v (cons_v ?_))
      dsimp only [tdLc, tiStr]
      refine v_i (i := 1) rfl ?_
      refine needB_i hzf ?_
      show lcD _ _ _ _ ((TL.numL i.natAbs).map fun c => D.str ⟨#[c]⟩) _ _ _
      refine lcD_map (TL.numL i.natAbs) (fun c => D.str ⟨#[c]⟩) (fun c => .bl (decide (c ∈ (Str.ofString "0123456789").cps.toList))) (fun c _ K1 k1 => k1) ?_
      dsimp only [tdNil]
      refine gAll_map _ _ ?_
      have eall : ((TL.numL i.natAbs).all fun c => decide (c ∈ (Str.ofString "0123456789").cps.toList)) = true := List.all_eq_true.mpr fun c hc => by
        obtain ⟨d1, d2⟩ := digs hc
        refine decide_eq_true ?_
        show c ∈ [48, 49, 50, 51, 52, 53, 54, 55, 56, 57]
        simp
        omega
      rw [eall]
      refine iteB_f (c := !true) rfl ?_
      dsimp only [tdNx, tdSeq, tdIfS, tdAnd]
      have hz0 : szB (SX.S (TL.numL i.natAbs)).length = true := hzf
      refine tt_l (op_l (op_l (v_i (i := 1) rfl ?_)))
      cases ec : TL.numL i.natAbs with
      | nil => exact absurd ec hne
      | cons a r =>
        rw [ec] at hz0
        refine needB_i hz0 ?_
        show iteB (decide (SX.S [a] = (Str.ofString "0"))) _ _
        refine iteB_i (fun e => ?_) (fun e => ?_)
        · have e : SX.S [a] = SX.S [48] := of_decide_eq_true e
          have e := SX.S_inj e
          injection e with e _
          subst e
          have h0 := numL_head ec
          have hi0 : i = 0 := by omega
          subst hi0
          exact fin
        · exact fin
    · exact h.elim
end
end Ri

set_option maxRecDepth 100000
set_option maxHeartbeats 2000000
/-! THE DEFS, 13: reading fractions; the words of a line. -/
namespace Ri
open PySem PySem.Spec PyProof.Rows L2 Dl
theorem sg_free {s : Nat} (h : s ≠ 45 ∧ (s < 48 ∨ 57 < s)) (i : Int) : s ∉ TL.tl (sgS i) := by
  rw [show TL.tl (sgS i) = sgL i from tl_int i]
  unfold sgL
  split
  · intro m
    rcases List.mem_cons.mp m with m | m
    · exact h.1 m
    · exact TL.numL_free h.2 m
  · exact TL.numL_free h.2
def frS (t b : Int) : Str := sgS t ++ "/" ++ sgS b
theorem frS_join (t b : Int) : frS t b = Txt.join "/" [sgS t, sgS b] := by
  rw [TL.join_eq]
  refine TL.ext_tl ?_
  rw [TL.tl_join]
  unfold frS
  rw [TL.tl_append, TL.tl_append, List.append_assoc]
  rfl
theorem frS_split (t b : Int) : Txt.split (frS t b) "/" = [sgS t, sgS b] := by
  rw [frS_join]
  refine TL.split_join (s := 47) (S := []) rfl (by decide +kernel) (by simp) fun p hp => ?_
  have hp : p = sgS t ∨ p = sgS b := by simpa using hp
  rcases hp with rfl | rfl
  · exact sg_free (by decide) t
  · exact sg_free (by decide) b
theorem sgS_split (t : Int) : Txt.split (sgS t) "/" = [sgS t] := by
  have e : sgS t = Txt.join "/" [sgS t] := by
    rw [TL.join_eq]
    refine TL.ext_tl ?_
    rw [TL.tl_join]
    rfl
  have h := TL.split_join (y := "/") (s := 47) (S := []) rfl (by decide +kernel) (parts := [sgS t]) (by simp) fun p hp => by
    have hp : p = sgS t := by simpa using hp
    subst hp
    exact sg_free (by decide) t
  rw [← e] at h
  exact h
def I30 (i : Int) : Prop := i.natAbs < 10 ^ 30
def IsF (x : Str) (t b : Int) : Prop := I30 t ∧ ((x = sgS t ∧ b = 1) ∨ (x = frS t b ∧ 1 ≤ b ∧ I30 b))
section
variable {w : World} {K : PySem.W.Frag} {mg : Str → Option Value} {base : Heap} {aI aF aL aC cT pT : Addr}
def gFracIn : GC := fun ds O Q => match ds with
  | [.str x] => ∃ t b, IsF x t b ∧ Q (.tup [.int t, .int b]) O
  | _ => False
theorem k_fraction_in (c : Hd w K mg base aI aF aL aC cT pT) : Dl.Def prog w K mg base 2 "fraction_in" ["word"] gFracIn := by
  have k_integer_in := k_integer_in c
  have S : FnScope ["word", "parts", "top", "bottom"] ["word"] (defScope s_fraction_in) := C8.fnScope_by (by kernel_rfl)
  have hN := S.nd
  refine def_ok c.f_fraction_in S (fun _ _ _ _ _ _ us hl => match us, hl with | [_], _ => rfl) (fun ds O R h => ?_) fun f cdv A outer s H E hr => ⟨_, have hu := room64 hr; have hu5 := room65 hr; have hu1 := room1 hr; (s_cons (s_set 1 hN (d_split (dv 0) (d_gl (c.g_STROKE.d rfl rfl))))
  (s_cons (s_par2 2 3 rfl hN (a_cons (d_call k_integer_in hr (by decide) (a_cons (d_ix (dv 1) d_int) a_nil)) (a_cons (d_if (t_cmp (o_eq hu) (d_callB c_len c.m_len bt_len (a_cons (dv 1) a_nil)) d_int) (d_call k_integer_in hr (by decide) (a_cons (d_ix (dv 1) d_int) a_nil)) d_int) a_nil)))
  (s_cons (s_if (t_w (w_or (t_cmp o_gt (d_callB c_len c.m_len bt_len (a_cons (dv 1) a_nil)) d_int) (w_or (t_cmp o_is (dv 2) d_non) (w_or (t_cmp o_is (dv 3) d_non) (w_or1 (t_cmp o_lt (dv 3) d_int))))))
  (s_one (s_ret d_non))
  s_nil)
  (s_one (s_ret (d_tup (a_cons (dv 2) (a_cons (dv 3) a_nil)))))))), fun ds O R h => ?_⟩
  · unfold gFracIn at h
    split at h <;> first | rfl | exact h.elim
  · unfold gFracIn at h
    split at h
    · obtain ⟨t, b, ⟨ht, hx⟩, h⟩ := h
      obtain ⟨hb1, hb2⟩ := int_back ht
      rcases hx with ⟨rfl, rfl⟩ | ⟨rfl, h1, hb⟩
      · refine needB_i (c := !((Str.ofString "/").length == 0) && szB ((sgS t).length + 2)) (Bool.and_eq_true_iff.mpr ⟨rfl, szB_i (by omega)⟩) ?_
        rw [sgS_split]
        exact ⟨t, rfl, ht, Fin.i h⟩
      · obtain ⟨hc1, hc2⟩ := int_back hb
        have hl : (frS t b).length ≤ 100 := by
          rw [TL.len_tl]
          unfold frS
          rw [TL.tl_append, TL.tl_append, List.length_append, List.length_append, ← TL.len_tl, ← TL.len_tl, ← TL.len_tl]
          have : (Str.ofString "/").length = 1 := rfl
          omega
        refine needB_i (c := !((Str.ofString "/").length == 0) && szB ((frS t b).length + 2)) (Bool.and_eq_true_iff.mpr ⟨rfl, szB_i (by omega)⟩) ?_
        rw [frS_split]
        refine ⟨t, rfl, ht, b, rfl, hb, ?_⟩
        refine iteB_f (c := decide (b < 1)) (decide_eq_false (by omega)) ?_
        exact Fin.i h
    · exact h.elim
end
end Ri

set_option maxRecDepth 100000
set_option maxHeartbeats 2000000
/-! own instances, step by step -/
namespace Ri
open PySem PySem.Spec PyProof.Rows L2 Dl
section
variable {i : Nat} {C p : Addr} {f m : Str} {tv : TD} {tr : TDA} {env : DEnv} {O : DO} {Q : D → DO → Prop} {fs : List (Str × D)} {DE : DEnds} {g : GC}
theorem fld_v {d : D} (hi : lk env i = some (.ptr p)) (hO : O p = some (.obj C fs)) (hf : lkF f fs = some d) (h : Q d O) : tdFld C (tdV i) f env O Q := by
  unfold tdFld tdV
  simp only [hi, hO, hf]
  exact ⟨trivial, h⟩
theorem setF_l (hi : lk env i = some (.ptr p)) (h : tv env O fun v O2 => ∃ fs, O2 p = some (.obj C fs) ∧ fs.length < 1000 ∧ DE.nx env (updO O2 p (.obj C (putFD f v fs)))) : tdSetF C tv (tdV i) f DE env O := by
  have e : (fun v O2 => ∃ fs, O2 p = some (.obj C fs) ∧ fs.length < 1000 ∧ DE.nx env (updO O2 p (.obj C (putFD f v fs)))) = fun (v : D) (O2 : DO) => match O2 p with
      | some (.obj C' fs) => C' = C ∧ needB (Nat.blt fs.length 1000) (DE.nx env (updO O2 p (.obj C (putFD f v fs))))
      | _ => False := by
    funext v O2
    refine propext ⟨?_, fun z => ?_⟩
    · rintro ⟨fs, h1, h2, h3⟩
      rw [h1]
      exact ⟨rfl, needB_i (Nat.ble_eq_true_of_le h2) h3⟩
    · cases e : O2 p with
      | none => simp only [e] at z
      | some c =>
        cases c <;> simp only [e] at z
        obtain ⟨rfl, z⟩ := z
        obtain ⟨g1, g2⟩ := needB_o z
        exact ⟨_, rfl, Nat.le_of_ble_eq_true g1, g2⟩
  rw [e] at h
  unfold tdSetF tdV
  simp only [hi]
  exact h
theorem meth_v (hi : lk env i = some (.ptr p)) (hO : O p = some (.obj C fs)) (hl : lkF m fs = none) (h : tr env O fun ds O2 => g (.ptr p :: ds) O2 Q) : tdMeth C m g (tdV i) tr env O Q := by
  unfold tdMeth tdV
  simp only [hi, hO]
  exact ⟨trivial, hl, h⟩
theorem meth0_v (hi : lk env i = some (.ptr p)) (hO : O p = some (.obj C fs)) (hl : lkF m fs = none) (h : g [.ptr p] O Q) : tdMeth C m g (tdV i) tdNil env O Q := meth_v hi hO hl h
end
end Ri

set_option maxRecDepth 100000
set_option maxHeartbeats 2000000
/-! THE DEFS, 14: the words of a line. -/
namespace Ri
open PySem PySem.Spec PyProof.Rows L2 Dl
theorem eqv_str (a b : Str) : PyData.eqv (.str a) (.str b) = decide (a = b) := by
  simp only [PyData.eqv]
  by_cases h : a = b
  · subst h
    simp
  · rw [decide_eq_false h]
    simpa using h
theorem inD_strs (x : Str) : ∀ ss : List Str, inD (.str x) (ss.map D.str) = decide (x ∈ ss)
  | [] => rfl
  | y :: ss => by
    show (PyData.eqv (.str y) (.str x) || inD (.str x) (ss.map D.str)) = _
    rw [inD_strs x ss, eqv_str]
    by_cases h : y = x
    · subst h
      simp
    · have h2 : ¬ x = y := fun e => h e.symm
      simp [h, h2]
theorem okDs_strs : ∀ (n : Nat) (ss : List Str), (∀ y ∈ ss, PyData.strOk y = true) → okDs n (ss.map D.str) = true
  | n, [], _ => by cases n <;> rfl
  | n, y :: ss, h => by
    show (okD n (.str y) && okDs n (ss.map D.str)) = true
    rw [okDs_strs n ss fun z hz => h z (List.mem_cons_of_mem _ hz)]
    have : okD n (.str y) = true := by cases n <;> exact h y List.mem_cons_self
    rw [this]
    rfl
theorem in_strs {neg : Bool} {k : D → Prop} {O : DO} {x : Str} {ss : List Str} {d : D} (hd : d = .lst (ss.map D.str) ∨ d = .xtp (ss.map D.str)) (hx : PyData.strOk x = true) (hok : ∀ y ∈ ss, PyData.strOk y = true) (h : k (.bl (if neg then !decide (x ∈ ss) else decide (x ∈ ss)))) : gIn neg O (.str x) d k := by
  have h1 : (okD 60 (.str x) && okDs 59 (ss.map D.str)) = true := Bool.and_eq_true_iff.mpr ⟨hx, okDs_strs 59 ss hok⟩
  rw [← inD_strs] at h
  rcases hd with rfl | rfl
  · exact needB_i h1 h
  · exact needB_i h1 h
theorem or_r {t u : TDT} {env : DEnv} {O : DO} {Q : Bool → DO → Prop} (h1 : ∀ Q' : Bool → DO → Prop, Q' false O → t env O Q') (h2 : u env O Q) : tdOr t u env O Q := h1 _ (iteB_f rfl h2)
theorem if_f {t : TDT} {ta tb : TD} {env : DEnv} {O : DO} {Q : D → DO → Prop} (h1 : ∀ Q' : Bool → DO → Prop, Q' false O → t env O Q') (h2 : tb env O Q) : tdIf t ta tb env O Q := h1 _ (iteB_f rfl h2)
theorem if_t {t : TDT} {ta tb : TD} {env : DEnv} {O : DO} {Q : D → DO → Prop} (h1 : ∀ Q' : Bool → DO → Prop, Q' true O → t env O Q') (h2 : ta env O Q) : tdIf t ta tb env O Q := h1 _ (iteB_t rfl h2)
theorem ifS_f {t : TDT} {ta tb : TDS} {DE : DEnds} {env : DEnv} {O : DO} (h1 : ∀ Q' : Bool → DO → Prop, Q' false O → t env O Q') (h2 : tb DE env O) : tdIfS t ta tb DE env O := h1 _ (iteB_f rfl h2)
theorem ifS_t {t : TDT} {ta tb : TDS} {DE : DEnds} {env : DEnv} {O : DO} (h1 : ∀ Q' : Bool → DO → Prop, Q' true O → t env O Q') (h2 : ta DE env O) : tdIfS t ta tb DE env O := h1 _ (iteB_t rfl h2)
def owF (ws : List Str) (row : D) (a r : Nat) : List (Str × D) := [("all_words", .lst (ws.map .str)), ("row", row), ("at", .int (a : Int)), ("terms_read", .int (r : Int))]
section
variable {w : World} {K : PySem.W.Frag} {mg : Str → Option Value} {base : Heap} {aI aF aL aC cT pT : Addr}
def gInit (aC : Addr) : GC := fun ds O Q => match ds with
  | [.ptr p, .str line, row] => O p = some (.obj aC []) ∧ line.length ≤ 1000000 ∧ Q .non (updO O p (.obj aC (owF (Txt.split line " ") row 0 0)))
  | _ => False
theorem k_w_init (c : Hd w K mg base aI aF aL aC cT pT) : MDef prog w K mg base 1 aC "__init__" ["self", "line", "row"] (gInit aC) := by
  have S : FnScope ["self", "line", "row"] ["self", "line", "row"] (defScope s_w_init) := C8.fnScope_by (by kernel_rfl)
  have hN := S.nd
  refine meth_ok c.f_w_init S (fun _ _ _ _ _ _ us hl => match us, hl with | [_, _, _], _ => rfl) (fun ds O R h => ?_) fun f cdv A outer s H E hr => ⟨_, have hu := room64 hr; have hu5 := room65 hr; have hu1 := room1 hr; (s_cons (s_setF c.cW c.na_all_words (d_split (dv 1) (d_gl (c.g_BLANK.d rfl rfl))) (dv 0))
  (s_cons (s_setF c.cW c.na_row (dv 2) (dv 0))
  (s_cons (s_setF c.cW c.na_at d_int (dv 0))
  (s_one (s_setF c.cW c.na_terms_read d_int (dv 0)))))), fun ds O R h => ?_⟩
  · unfold gInit at h
    split at h <;> first | rfl | exact h.elim
  · unfold gInit at h
    split at h
    · rename_i p line row
      obtain ⟨h1, h2, h⟩ := h
      dsimp only [tdSeq]
      refine setF_l (i := 0) rfl ?_
      refine needB_i (c := !((Str.ofString " ").length == 0) && szB (line.length + 2)) (Bool.and_eq_true_iff.mpr ⟨rfl, szB_i (by omega)⟩) ?_
      refine ⟨_, h1, by decide, ?_⟩
      dsimp only [tdSeq]
      refine setF_l (i := 0) rfl ?_
      refine v_i (i := 2) rfl ?_
      refine ⟨_, updO_same, (by show (1 : Nat) < 1000; decide), ?_⟩
      rw [updO_updO]
      dsimp only [tdSeq]
      refine setF_l (i := 0) rfl ?_
      refine ⟨_, updO_same, (by show (2 : Nat) < 1000; decide), ?_⟩
      rw [updO_updO]
      dsimp only [tdSeq]
      refine setF_l (i := 0) rfl ?_
      refine ⟨_, updO_same, (by show (3 : Nat) < 1000; decide), ?_⟩
      rw [updO_updO]
      exact Fin.i h
    · exact h.elim
def nextD (ws : List Str) (a : Nat) : D := match ws[a]? with
  | some x => .str x
  | none => .non
def gNext (aC : Addr) : GC := fun ds O Q => match ds with
  | [.ptr p] => ∃ ws row a r, O p = some (.obj aC (owF ws row a r)) ∧ Q (nextD ws a) O
  | _ => False
theorem k_w_next_word (c : Hd w K mg base aI aF aL aC cT pT) : MDef prog w K mg base 1 aC "next_word" ["self"] (gNext aC) := by
  have S : FnScope ["self"] ["self"] (defScope s_w_next_word) := C8.fnScope_by (by kernel_rfl)
  have hN := S.nd
  refine meth_ok c.f_w_next_word S (fun _ _ _ _ _ _ us hl => match us, hl with | [_], _ => rfl) (fun ds O R h => ?_) fun f cdv A outer s H E hr => ⟨_, have hu := room64 hr; have hu5 := room65 hr; have hu1 := room1 hr; (s_one (s_ret (d_if (t_cmp o_lt (d_fld c.cW c.na_at (dv 0)) (d_callB c_len c.m_len bt_len (a_cons (d_fld c.cW c.na_all_words (dv 0)) a_nil))) (d_ix (d_fld c.cW c.na_all_words (dv 0)) (d_fld c.cW c.na_at (dv 0))) d_non))), fun ds O R h => ?_⟩
  · unfold gNext at h
    split at h <;> first | rfl | exact h.elim
  · unfold gNext at h
    split at h
    · rename_i p
      obtain ⟨ws, row, a, r, h1, h⟩ := h
      dsimp only [tdRet, tdIf]
      refine tt_l (op_l (fld_v (i := 0) rfl h1 rfl ?_))
      refine call_v (cons_v (fld_v (i := 0) rfl h1 rfl ?_))
      show iteB (decide ((a : Int) < ((ws.map D.str).length : Int))) _ _
      unfold nextD at h
      refine iteB_i (fun e => ?_) (fun e => ?_)
      · have e := of_decide_eq_true e
        rw [List.length_map] at e
        have hl : a < ws.length := by omega
        rw [List.getElem?_eq_getElem hl] at h
        refine op_l (fld_v (i := 0) rfl h1 rfl (fld_v (i := 0) rfl h1 rfl ?_))
        refine ix_lst (O := O) (d := .str ws[a]) (by rw [List.getElem?_map, List.getElem?_eq_getElem hl]; rfl) ?_
        exact Fin.i h
      · have e := of_decide_eq_false e
        rw [List.length_map] at e
        rw [List.getElem?_eq_none (by omega)] at h
        exact Fin.i h
    · exact h.elim
def gWordOf (aC : Addr) : GC := fun ds O Q => match ds with
  | [.ptr p, d] => ∃ (ws : List Str) (row : D) (a r : Nat) (x : Str) (ss : List Str), O p = some (.obj aC (owF ws row a r)) ∧ ws[a]? = some x ∧ (d = .lst (ss.map D.str) ∨ d = .xtp (ss.map D.str)) ∧ x ∈ ss ∧ (∀ y ∈ ss, PyData.strOk y = true) ∧ Q (.str x) (updO O p (.obj aC (owF ws row (a + 1) r)))
  | _ => False
theorem k_w_word_of (c : Hd w K mg base aI aF aL aC cT pT) : MDef prog w K mg base 2 aC "word_of" ["self", "some"] (gWordOf aC) := by
  have k_w_next_word := k_w_next_word c
  have S : FnScope ["self", "some", "word"] ["self", "some"] (defScope s_w_word_of) := C8.fnScope_by (by kernel_rfl)
  have hN := S.nd
  refine meth_ok c.f_w_word_of S (fun _ _ _ _ _ _ us hl => match us, hl with | [_, _], _ => rfl) (fun ds O R h => ?_) fun f cdv A outer s H E hr => ⟨_, have hu := room64 hr; have hu5 := room65 hr; have hu1 := room1 hr; (s_cons (s_set 2 hN (d_meth0 c.cW k_w_next_word hr (by decide) (dv 0)))
  (s_cons (s_if (t_w (w_or (t_cmp o_is (dv 2) d_non) (w_or1 (t_cmp (o_notin hu5) (dv 2) (dv 1))))) (s_one s_never) s_nil)
  (s_cons (s_setF c.cW c.na_at (d_op o_add (d_fld c.cW c.na_at (dv 0)) d_int) (dv 0))
  (s_one (s_ret (dv 2)))))), fun ds O R h => ?_⟩
  · unfold gWordOf at h
    split at h <;> first | rfl | exact h.elim
  · unfold gWordOf at h
    split at h
    · rename_i p d
      obtain ⟨ws, row, a, r, x, ss, h1, hx, hd, hin, hok, h⟩ := h
      dsimp only [tdSeq, tdAsg]
      refine meth0_v (i := 0) rfl h1 rfl ⟨ws, row, a, r, h1, ?_⟩
      have e : nextD ws a = .str x := by unfold nextD; rw [hx]
      rw [e]
      dsimp only [gdN, tdSeq, tdIfS]
      refine or_r (fun Q' q => tt_l (op_l (v_i (i := 2) rfl q))) ?_
      refine tt_l (op_vv (x := .str x) (y := d) rfl rfl ?_)
      refine in_strs hd (hok x hin) hok ?_
      have e2 : decide (x ∈ ss) = true := decide_eq_true hin
      rw [e2]
      refine iteB_f (c := !true) rfl ?_
      dsimp only [tdNx, tdSeq]
      refine setF_l (i := 0) rfl ?_
      refine op_l (fld_v (i := 0) rfl h1 rfl ?_)
      refine ⟨_, h1, (by show (4 : Nat) < 1000; decide), ?_⟩
      dsimp only [tdRet]
      exact v_i (i := 2) rfl (Fin.i h)
    · exact h.elim
/-- the two readers -/
def rdS (aI aF : Addr) (f : Addr) (g : GC) : Prop := (f = aI ∧ g = gIntIn) ∨ (f = aF ∧ g = gFracIn)
theorem held (c : Hd w K mg base aI aF aL aC cT pT) : ∀ f g, rdS aI aF f g → Held prog w K mg base 2 f (spD K g) := by
  rintro f g (⟨rfl, rfl⟩ | ⟨rfl, rfl⟩)
  · obtain ⟨f', fd, hm, kp, b, F⟩ := ((k_integer_in c).mono (k := 2) (by decide)).ex
    have e := c.a_integer_in
    rw [e] at hm
    cases hm
    exact ⟨fd, _, F, kp, b⟩
  · obtain ⟨f', fd, hm, kp, b, F⟩ := (k_fraction_in c).ex
    have e := c.a_fraction_in
    rw [e] at hm
    cases hm
    exact ⟨fd, _, F, kp, b⟩
/-- the word x read by the reader at f is d -/
def RdW (aI aF f : Addr) (x : Str) (d : D) : Prop := (f = aI ∧ ∃ i, x = sgS i ∧ I30 i ∧ d = .int i) ∨ (f = aF ∧ ∃ t b, IsF x t b ∧ d = .tup [.int t, .int b])
def gReadBy (aC aI aF : Addr) : GC := fun ds O Q => match ds with
  | [.ptr p, .ptr f] => ∃ (ws : List Str) (row : D) (a r : Nat) (x : Str) (d : D), O p = some (.obj aC (owF ws row a r)) ∧ ws[a]? = some x ∧ RdW aI aF f x d ∧ Q d (updO O p (.obj aC (owF ws row (a + 1) r)))
  | _ => False
theorem k_w_read_by (c : Hd w K mg base aI aF aL aC cT pT) : MDef prog w K mg base 3 aC "read_by" ["self", "reader"] (gReadBy aC aI aF) := by
  have k_w_next_word := k_w_next_word c
  have hS := held c
  have S : FnScope ["self", "reader", "word", "found"] ["self", "reader"] (defScope s_w_read_by) := C8.fnScope_by (by kernel_rfl)
  have hN := S.nd
  refine meth_ok c.f_w_read_by S (fun _ _ _ _ _ _ us hl => match us, hl with | [_, _], _ => rfl) (fun ds O R h => ?_) fun f cdv A outer s H E hr => ⟨_, have hu := room64 hr; have hu5 := room65 hr; have hu1 := room1 hr; (s_cons (s_set 2 hN (d_meth0 c.cW k_w_next_word hr (by decide) (dv 0)))
  (s_cons (s_set 3 hN (d_if (t_cmp o_is (dv 2) d_non) d_non (d_callL 1 hS hr (by decide) (a_cons (dv 2) a_nil))))
  (s_cons (s_if (t_cmp o_is (dv 3) d_non) (s_one s_never) s_nil)
  (s_cons (s_setF c.cW c.na_at (d_op o_add (d_fld c.cW c.na_at (dv 0)) d_int) (dv 0))
  (s_one (s_ret (dv 3))))))), fun ds O R h => ?_⟩
  · unfold gReadBy at h
    split at h <;> first | rfl | exact h.elim
  · unfold gReadBy at h
    split at h
    · rename_i p f
      obtain ⟨ws, row, a, r, x, d, h1, hx, hd, h⟩ := h
      dsimp only [tdSeq, tdAsg]
      refine meth0_v (i := 0) rfl h1 rfl ⟨ws, row, a, r, h1, ?_⟩
      have e : nextD ws a = .str x := by unfold nextD; rw [hx]
      rw [e]
      dsimp only [gdN, tdSeq, tdAsg]
      refine if_f (fun Q' q => tt_l (op_l (v_i (i := 2) rfl q))) ?_
      have fin : ∀ x3 : Option D, x3 = some d → isNon d = false → tdSeq (tdIfS (tdT (tdOp (gIs false) (tdV 3) (tdC D.non))) tdNever tdNx) (tdSeq (tdSetF aC (tdOp gAdd (tdFld aC (tdV 0) "at") (tdC (D.int 1))) (tdV 0) "at") (tdRet (tdV 3))) { nx := fun x O' => Dl.Fin R D.non O', rt := Dl.Fin R } [some (.ptr p), some (.ptr f), some (.str x), x3] O := by
        rintro x3 rfl hn
        dsimp only [tdSeq]
        refine ifS_f (fun Q' q => tt_l (op_l (v_i (i := 3) rfl ?_))) ?_
        · show Q' (isNon d) O
          rw [hn]
          exact q
        · dsimp only [tdNx]
          refine setF_l (i := 0) rfl ?_
          refine op_l (fld_v (i := 0) rfl h1 rfl ?_)
          refine ⟨_, h1, (by show (4 : Nat) < 1000; decide), ?_⟩
          dsimp only [tdRet]
          exact v_i (i := 3) rfl (Fin.i h)
      rcases hd with ⟨rfl, i, rfl, hi, rfl⟩ | ⟨rfl, t, b, hF, rfl⟩
      · refine ⟨f, gIntIn, rfl, .inl ⟨rfl, rfl⟩, ?_⟩
        refine cons_v (v_i (i := 2) rfl ⟨i, rfl, hi, ?_⟩)
        exact fin _ rfl rfl
      · refine ⟨f, gFracIn, rfl, .inr ⟨rfl, rfl⟩, ?_⟩
        refine cons_v (v_i (i := 2) rfl ⟨t, b, hF, ?_⟩)
        exact fin _ rfl rfl
    · exact h.elim
end
end Ri

set_option maxRecDepth 100000
set_option maxHeartbeats 2000000
/-! THE DEFS, 15: the words of a line, more. -/
namespace Ri
open PySem PySem.Spec PyProof.Rows L2 Dl
theorem getD_drop {α : Type} {l : List α} {a : Nat} {x : α} {r : List α} (h : l.drop a = x :: r) : l[a]? = some x ∧ l.drop (a + 1) = r := by
  have h1 : a < l.length := by
    by_cases q : a < l.length
    · exact q
    · rw [List.drop_eq_nil_of_le (by omega)] at h
      cases h
  rw [List.drop_eq_getElem_cons h1] at h
  injection h with e1 e2
  exact ⟨by rw [List.getElem?_eq_getElem h1, e1], e2⟩
section
variable {w : World} {K : PySem.W.Frag} {mg : Str → Option Value} {base : Heap} {aI aF aL aC cT pT : Addr}
def gInteger (aC : Addr) : GC := fun ds O Q => match ds with
  | [.ptr p] => ∃ (ws : List Str) (row : D) (a r : Nat) (i : Int), O p = some (.obj aC (owF ws row a r)) ∧ ws[a]? = some (sgS i) ∧ I30 i ∧ Q (.int i) (updO O p (.obj aC (owF ws row (a + 1) r)))
  | _ => False
theorem k_w_integer (c : Hd w K mg base aI aF aL aC cT pT) : MDef prog w K mg base 4 aC "integer" ["self"] (gInteger aC) := by
  have k_w_read_by := k_w_read_by c
  have S : FnScope ["self"] ["self"] (defScope s_w_integer) := C8.fnScope_by (by kernel_rfl)
  have hN := S.nd
  refine meth_ok c.f_w_integer S (fun _ _ _ _ _ _ us hl => match us, hl with | [_], _ => rfl) (fun ds O R h => ?_) fun f cdv A outer s H E hr => ⟨_, have hu := room64 hr; have hu5 := room65 hr; have hu1 := room1 hr; (s_one (s_ret (d_meth c.cW k_w_read_by hr (by decide) (dv 0) (a_cons (d_gl (c.g_integer_in.d rfl rfl)) a_nil)))), fun ds O R h => ?_⟩
  · unfold gInteger at h
    split at h <;> first | rfl | exact h.elim
  · unfold gInteger at h
    split at h
    · rename_i p
      obtain ⟨ws, row, a, r, i, h1, hx, hi, h⟩ := h
      dsimp only [tdRet]
      refine meth_v (i := 0) rfl h1 rfl ?_
      exact ⟨ws, row, a, r, _, _, h1, hx, .inl ⟨rfl, i, rfl, hi, rfl⟩, Fin.i h⟩
    · exact h.elim
def gFraction (aC : Addr) : GC := fun ds O Q => match ds with
  | [.ptr p] => ∃ (ws : List Str) (row : D) (a r : Nat) (x : Str) (t b : Int), O p = some (.obj aC (owF ws row a r)) ∧ ws[a]? = some x ∧ IsF x t b ∧ Q (.tup [.int t, .int b]) (updO O p (.obj aC (owF ws row (a + 1) r)))
  | _ => False
theorem k_w_fraction (c : Hd w K mg base aI aF aL aC cT pT) : MDef prog w K mg base 4 aC "fraction" ["self"] (gFraction aC) := by
  have k_w_read_by := k_w_read_by c
  have S : FnScope ["self"] ["self"] (defScope s_w_fraction) := C8.fnScope_by (by kernel_rfl)
  have hN := S.nd
  refine meth_ok c.f_w_fraction S (fun _ _ _ _ _ _ us hl => match us, hl with | [_], _ => rfl) (fun ds O R h => ?_) fun f cdv A outer s H E hr => ⟨_, have hu := room64 hr; have hu5 := room65 hr; have hu1 := room1 hr; (s_one (s_ret (d_meth c.cW k_w_read_by hr (by decide) (dv 0) (a_cons (d_gl (c.g_fraction_in.d rfl rfl)) a_nil)))), fun ds O R h => ?_⟩
  · unfold gFraction at h
    split at h <;> first | rfl | exact h.elim
  · unfold gFraction at h
    split at h
    · rename_i p
      obtain ⟨ws, row, a, r, x, t, b, h1, hx, hi, h⟩ := h
      dsimp only [tdRet]
      refine meth_v (i := 0) rfl h1 rfl ?_
      exact ⟨ws, row, a, r, _, _, h1, hx, .inr ⟨rfl, t, b, hi, rfl⟩, Fin.i h⟩
    · exact h.elim
def gEnd (aC : Addr) : GC := fun ds O Q => match ds with
  | [.ptr p] => ∃ (ws : List Str) (row : D) (a r : Nat), O p = some (.obj aC (owF ws row a r)) ∧ ws.length ≤ a ∧ Q .non O
  | _ => False
theorem k_w_end (c : Hd w K mg base aI aF aL aC cT pT) : MDef prog w K mg base 2 aC "end" ["self"] (gEnd aC) := by
  have k_w_next_word := k_w_next_word c
  have S : FnScope ["self"] ["self"] (defScope s_w_end) := C8.fnScope_by (by kernel_rfl)
  have hN := S.nd
  refine meth_ok c.f_w_end S (fun _ _ _ _ _ _ us hl => match us, hl with | [_], _ => rfl) (fun ds O R h => ?_) fun f cdv A outer s H E hr => ⟨_, have hu := room64 hr; have hu5 := room65 hr; have hu1 := room1 hr; (s_one (s_if (t_cmp o_isnot (d_meth0 c.cW k_w_next_word hr (by decide) (dv 0)) d_non) (s_one s_never) s_nil)), fun ds O R h => ?_⟩
  · unfold gEnd at h
    split at h <;> first | rfl | exact h.elim
  · unfold gEnd at h
    split at h
    · rename_i p
      obtain ⟨ws, row, a, r, h1, hl, h⟩ := h
      refine ifS_f (fun Q' q => tt_l (op_l (meth0_v (i := 0) rfl h1 rfl ⟨ws, row, a, r, h1, ?_⟩))) ?_
      · have e : nextD ws a = .non := by unfold nextD; rw [List.getElem?_eq_none hl]
        rw [e]
        exact q
      · exact Fin.i h
    · exact h.elim
def gAllBy (aC aI aF : Addr) : GC := fun ds O Q => match ds with
  | [.ptr p, .ptr f] => ∃ (ws : List Str) (row : D) (a r : Nat) (l : List (Str × D)), O p = some (.obj aC (owF ws row a r)) ∧ a ≤ ws.length ∧ ws.length ≤ 1000000 ∧ ws.drop a = l.map (·.1) ∧ (∀ z ∈ l, RdW aI aF f z.1 z.2) ∧ Q (.lst (l.map (·.2))) (updO O p (.obj aC (owF ws row ws.length r)))
  | _ => False
theorem k_w_all_by (c : Hd w K mg base aI aF aL aC cT pT) : MDef prog w K mg base 4 aC "all_by" ["self", "reader"] (gAllBy aC aI aF) := by
  have k_w_next_word := k_w_next_word c
  have k_w_read_by := k_w_read_by c
  have S : FnScope ["self", "reader", "found"] ["self", "reader"] (defScope s_w_all_by) := C8.fnScope_by (by kernel_rfl)
  have hN := S.nd
  refine meth_ok c.f_w_all_by S (fun _ _ _ _ _ _ us hl => match us, hl with | [_, _], _ => rfl) (fun ds O R h => ?_) fun f cdv A outer s H E hr => ⟨_, have hu := room64 hr; have hu5 := room65 hr; have hu1 := room1 hr; (s_cons (s_set 2 hN (d_lstO a_nil))
  (s_cons (s_while PassesOwn.never (t_cmp o_isnot (d_meth0 c.cW k_w_next_word hr (by decide) (dv 0)) d_non) (s_one (s_expr (d_app (dv 2) (a_cons (d_meth c.cW k_w_read_by hr (by decide) (dv 0) (a_cons (dv 1) a_nil)) a_nil)))))
  (s_one (s_ret (d_fz (dv 2)))))), fun ds O R h => ?_⟩
  · unfold gAllBy at h
    split at h <;> first | rfl | exact h.elim
  · unfold gAllBy at h
    split at h
    · rename_i p f
      obtain ⟨ws, row, a, r, l, h1, ha, hw, hl, hr, h⟩ := h
      refine needB_i rfl fun q hq => ?_
      have npq : p ≠ q := fun z => by rw [z, hq] at h1; cases h1
      refine while_ind (fun m env O' => ∃ dn rest b, l = dn ++ rest ∧ m = rest.length ∧ ws.drop b = rest.map (·.1) ∧ b ≤ ws.length ∧ env = [some (.ptr p), some (.ptr f), some (.ptr q)] ∧ O' = updO (updO O p (.obj aC (owF ws row b r))) q (.lst (dn.map (·.2))))
        (fun m env O' N g k => ?_) (m := l.length) ⟨[], l, a, rfl, rfl, hl, ha, rfl, ?_⟩
      · obtain ⟨dn, rest, b, hd, rfl, hb, hbl, rfl, rfl⟩ := g
        have hO : updO (updO O p (.obj aC (owF ws row b r))) q (.lst (dn.map (·.2))) p = some (.obj aC (owF ws row b r)) := by rw [updO_ne npq, updO_same]
        refine tt_l (op_l (meth0_v (i := 0) rfl hO rfl ⟨ws, row, b, r, hO, ?_⟩))
        cases rest with
        | nil =>
          have hbe : b = ws.length := by
            have := congrArg List.length hb
            rw [List.length_drop] at this
            simp at this
            omega
          subst hbe
          have e : nextD ws ws.length = .non := by unfold nextD; rw [List.getElem?_eq_none (Nat.le_refl _)]
          rw [e]
          rw [List.append_nil] at hd
          subst hd
          show tdFz (tdV 2) [some (.ptr p), some (.ptr f), some (.ptr q)] (updO (updO O p (.obj aC (owF ws row ws.length r))) q (.lst (l.map (·.2)))) (Dl.Fin R)
          refine fz_v (i := 2) rfl updO_same ⟨_, ?_, h⟩
          rw [offO_upd (by rw [updO_ne (Ne.symm npq)]; exact hq)]
          exact Sub.refl _
        | cons z rest =>
          obtain ⟨x, d⟩ := z
          obtain ⟨e1, e2⟩ := getD_drop hb
          have e : nextD ws b = .str x := by unfold nextD; rw [e1]
          rw [e]
          have hbl2 : b < ws.length := by
            by_cases q : b < ws.length
            · exact q
            · rw [List.getElem?_eq_none (by omega)] at e1
              cases e1
          show tdApp (tdV 2) (tdCons (tdMeth aC "read_by" (gReadBy aC aI aF) (tdV 0) (tdCons (tdV 1) tdNil)) tdNil) [some (.ptr p), some (.ptr f), some (.ptr q)] (updO (updO O p (.obj aC (owF ws row b r))) q (.lst (dn.map (·.2)))) (fun _ O1 => N [some (.ptr p), some (.ptr f), some (.ptr q)] O1)
          refine app_v (i := 2) rfl updO_same ?_
          refine meth_v (i := 0) rfl hO rfl ?_
          refine cons_v (v_i (i := 1) rfl ?_)
          refine ⟨ws, row, b, r, x, d, hO, e1, hr (x, d) (by rw [hd]; exact List.mem_append_right _ List.mem_cons_self), ?_⟩
          refine ⟨dn.map (·.2), by rw [updO_ne (Ne.symm npq), updO_same], ?_, ?_⟩
          · have h2 := congrArg List.length hd
            have h3 := congrArg List.length hl
            rw [List.length_drop, List.length_map] at h3
            rw [List.length_append] at h2
            rw [List.length_map]
            omega
          · refine k rest.length _ _ (Nat.lt_succ_self _) ⟨dn ++ [(x, d)], rest, b + 1, by rw [hd, List.append_assoc]; rfl, rfl, e2, hbl2, rfl, ?_⟩
            rw [List.map_append]
            funext y
            by_cases y1 : y = q
            · subst y1
              rw [updO_same, updO_same]
              rfl
            · rw [updO_ne y1, updO_ne y1]
              by_cases y2 : y = p
              · subst y2
                rw [updO_same, updO_same]
              · rw [updO_ne y2, updO_ne y2, updO_ne y1, updO_ne y2]
      · funext y
        by_cases y1 : y = q
        · subst y1
          rw [updO_same, updO_same]
          rfl
        · rw [updO_ne y1, updO_ne y1]
          by_cases y2 : y = p
          · subst y2
            rw [updO_same]
            exact h1
          · rw [updO_ne y2]
    · exact h.elim
end
end Ri

set_option maxRecDepth 100000
set_option maxHeartbeats 2000000
/-! THE DEFS, 16: a term by its words. -/
namespace Ri
open PySem PySem.Spec PyProof.Rows L2 Dl
/-- the words of a term -/
def tok : Tm → List Str
  | .thing a b => ["thing", sgS a, sgS b]
  | .none => ["none"]
  | .besd s t => "beside" :: (tok s ++ tok t)
  | .belw s t => "below" :: (tok s ++ tok t)
  | .row t k => "row" :: sgS k :: tok t
  | .turned t => "turned" :: tok t
  | .moved t k => "moved" :: sgS k :: tok t
  | .times t k => "times" :: sgS k :: tok t
def sz : Tm → Nat
  | .thing _ _ => 1
  | .none => 1
  | .besd s t => sz s + sz t + 1
  | .belw s t => sz s + sz t + 1
  | .row t _ => sz t + 1
  | .turned t => sz t + 1
  | .moved t _ => sz t + 1
  | .times t _ => sz t + 1
/-- its numbers can be read -/
def nums : Tm → Prop
  | .thing a b => I30 a ∧ I30 b
  | .none => True
  | .besd s t => nums s ∧ nums t
  | .belw s t => nums s ∧ nums t
  | .row t k => I30 k ∧ nums t
  | .turned t => nums t
  | .moved t k => I30 k ∧ nums t
  | .times t k => I30 k ∧ nums t
theorem sz_pos (t : Tm) : 0 < sz t := by cases t <;> exact Nat.succ_pos _
section
variable {w : World} {K : PySem.W.Frag} {mg : Str → Option Value} {base : Heap} {aI aF aL aC cT pT : Addr}
def gOwnOf (aC : Addr) : GC := fun ds O Q => match ds with
  | [.ptr p, .str x] => ∃ (ws : List Str) (row : D) (a r : Nat) (i : Int), (x = "row" ∨ x = "moved" ∨ x = "times") ∧ O p = some (.obj aC (owF ws row a r)) ∧ ws[a]? = some (sgS i) ∧ I30 i ∧ Q (.lst [.int i]) (updO O p (.obj aC (owF ws row (a + 1) r)))
  | _ => False
theorem k_w_own_of (c : Hd w K mg base aI aF aL aC cT pT) : MDef prog w K mg base 5 aC "own_of" ["self", "word"] (gOwnOf aC) := by
  have k_w_integer := k_w_integer c
  have S : FnScope ["self", "word"] ["self", "word"] (defScope s_w_own_of) := C8.fnScope_by (by kernel_rfl)
  have hN := S.nd
  refine meth_ok c.f_w_own_of S (fun _ _ _ _ _ _ us hl => match us, hl with | [_, _], _ => rfl) (fun ds O R h => ?_) fun f cdv A outer s H E hr => ⟨_, have hu := room64 hr; have hu5 := room65 hr; have hu1 := room1 hr; (s_cons (s_if (t_cmp (o_eq hu) (dv 1) (d_gl (c.g_ONLY.d rfl rfl))) (s_one s_never) s_nil)
  (s_cons (s_if (t_cmp (o_eq hu) (dv 1) (d_gl (c.g_TIED.d rfl rfl))) (s_one s_never) s_nil)
  (s_one (s_ret (d_if (t_cmp (o_in hu5) (dv 1) (d_tup (a_cons (d_gl (c.g_ROW.d rfl rfl)) (a_cons (d_gl (c.g_MOVED.d rfl rfl)) (a_cons (d_gl (c.g_TIMES.d rfl rfl)) a_nil))))) (d_lst (a_cons (d_meth0 c.cW k_w_integer hr (by decide) (dv 0)) a_nil)) (d_lst a_nil)))))), fun ds O R h => ?_⟩
  · unfold gOwnOf at h
    split at h <;> first | rfl | exact h.elim
  · unfold gOwnOf at h
    split at h
    · rename_i p x
      obtain ⟨ws, row, a, r, i, hx, h1, hi, h30, h⟩ := h
      have hin : (okD 60 (.str x) && okDs 59 [D.str "row", D.str "moved", D.str "times"]) = true := by
        rcases hx with rfl | rfl | rfl <;> decide +kernel
      have fin : tdLst (tdCons (tdMeth aC "integer" (gInteger aC) (tdV 0) tdNil) tdNil) [some (.ptr p), some (.str x)] O (Dl.Fin R) := by
        refine (show tdMeth aC "integer" (gInteger aC) (tdV 0) tdNil [some (.ptr p), some (.str x)] O (fun d O1 => needB (szB [d].length) (Dl.Fin R (.lst [d]) O1)) from ?_)
        exact meth0_v (i := 0) rfl h1 rfl ⟨ws, row, a, r, i, h1, hi, h30, needB_i rfl (Fin.i h)⟩
      rcases hx with rfl | rfl | rfl
      · exact needB_i hin fin
      · exact needB_i hin fin
      · exact needB_i hin fin
    · exact h.elim
def gTerm (aC : Addr) (n : Nat) : GC := fun ds O Q => match ds with
  | [.ptr p] => ∃ (ws : List Str) (row : D) (a r : Nat) (t : Tm) (rest : List Str), dep t ≤ n ∧ O p = some (.obj aC (owF ws row a r)) ∧ ws.drop a = tok t ++ rest ∧ nums t ∧ r + sz t ≤ 20 ∧ Q (tmD t) (updO O p (.obj aC (owF ws row (a + (tok t).length) (r + sz t))))
  | _ => False
theorem term0 (c : Hd w K mg base aI aF aL aC cT pT) : MDef prog w K mg base 6 aC "term" ["self"] (gTerm aC 0) := by
  have S : FnScope ["self", "word", "own"] ["self"] (defScope s_w_term) := C8.fnScope_by (by kernel_rfl)
  have hN := S.nd
  refine meth_ok c.f_w_term S (fun _ _ _ _ _ _ us hl => match us, hl with | [_], _ => rfl) (fun ds O R h => ?_) fun f cdv A outer s H E hr => ⟨_, have hu := room64 hr; have hu5 := room65 hr; have hu1 := room1 hr; (s_cons s_never (s_cons s_never (s_cons s_never (s_cons s_never (s_cons s_never (s_cons s_never (s_cons s_never (s_cons s_never (s_cons s_never s_nil))))))))), fun ds O R h => ?_⟩
  · unfold gTerm at h
    split at h <;> first | rfl | exact h.elim
  · unfold gTerm at h
    split at h
    · obtain ⟨ws, row, a, r, t, rest, hd, _⟩ := h
      have : 0 < dep t := by cases t <;> exact Nat.succ_pos _
      omega
    · exact h.elim
theorem tok_head (t : Tm) : ∃ r, tok t = wdT t :: r := by cases t <;> exact ⟨_, rfl⟩
def keysL : List Str := ["thing", "none", "beside", "below", "row", "turned", "moved", "times", "tied", "only"]
theorem keysL_ok : ∀ y ∈ keysL, PyData.strOk y = true := by decide +kernel
theorem wd_in (t : Tm) : wdT t ∈ keysL := by
  cases t <;> (unfold wdT keysL; simp)
theorem term_step (c : Hd w K mg base aI aF aL aC cT pT) {lv n : Nat} (hlv : 6 ≤ lv) (k_w_term : MDef prog w K mg base lv aC "term" ["self"] (gTerm aC n)) : MDef prog w K mg base (lv + 1) aC "term" ["self"] (gTerm aC (n + 1)) := by
  have k_w_word_of := k_w_word_of c
  have k_w_integer := k_w_integer c
  have k_w_own_of := k_w_own_of c
  have S : FnScope ["self", "word", "own"] ["self"] (defScope s_w_term) := C8.fnScope_by (by kernel_rfl)
  have hN := S.nd
  refine meth_ok c.f_w_term S (fun _ _ _ _ _ _ us hl => match us, hl with | [_], _ => rfl) (fun ds O R h => ?_) fun f cdv A outer s H E hr => ⟨_, have hu := room64 hr; have hu5 := room65 hr; have hu1 := room1 hr; (s_cons (s_if (t_cmp (o_eq hu) (d_fld c.cW c.na_terms_read (dv 0)) (d_gl (c.g_MOST_WORDS.d rfl rfl))) (s_one s_never) s_nil)
  (s_cons (s_set 1 hN (d_meth c.cW k_w_word_of hr (by first | decide | exact Nat.ble_eq_true_of_le (by omega)) (dv 0) (a_cons (d_callTy (c_wlist rfl c.wd (by decide)) c.m_list bt_list (a_cons (d_gl (c.g_LENGTHS.d rfl rfl)) a_nil)) a_nil)))
  (s_cons (s_setF c.cW c.na_terms_read (d_op o_add (d_fld c.cW c.na_terms_read (dv 0)) d_int) (dv 0))
  (s_cons (s_if (t_cmp (o_eq hu) (dv 1) (d_gl (c.g_NONE.d rfl rfl)))
  (s_one (s_ret (d_tup (a_cons (d_gl (c.g_NONE.d rfl rfl)) a_nil))))
  s_nil)
  (s_cons (s_if (t_cmp (o_eq hu) (dv 1) (d_gl (c.g_THING.d rfl rfl)))
  (s_one (s_ret (d_tup (a_cons (d_gl (c.g_THING.d rfl rfl)) (a_cons (d_meth0 c.cW k_w_integer hr (by first | decide | exact Nat.ble_eq_true_of_le (by omega)) (dv 0)) (a_cons (d_meth0 c.cW k_w_integer hr (by first | decide | exact Nat.ble_eq_true_of_le (by omega)) (dv 0)) a_nil))))))
  s_nil)
  (s_cons (s_if (t_cmp (o_in hu5) (dv 1) (d_tup (a_cons (d_gl (c.g_BESIDE.d rfl rfl)) (a_cons (d_gl (c.g_BELOW_terms.d rfl rfl)) a_nil))))
  (s_one (s_ret (d_tup (a_cons (dv 1) (a_cons (d_meth0 c.cW k_w_term hr (by first | decide | exact Nat.ble_eq_true_of_le (by omega)) (dv 0)) (a_cons (d_meth0 c.cW k_w_term hr (by first | decide | exact Nat.ble_eq_true_of_le (by omega)) (dv 0)) a_nil))))))
  s_nil)
  (s_cons (s_if (t_cmp (o_eq hu) (dv 1) (d_gl (c.g_TURNED.d rfl rfl)))
  (s_one (s_ret (d_tup (a_cons (d_gl (c.g_TURNED.d rfl rfl)) (a_cons (d_meth0 c.cW k_w_term hr (by first | decide | exact Nat.ble_eq_true_of_le (by omega)) (dv 0)) a_nil)))))
  s_nil)
  (s_cons (s_set 2 hN (d_meth c.cW k_w_own_of hr (by first | decide | exact Nat.ble_eq_true_of_le (by omega)) (dv 0) (a_cons (dv 1) a_nil)))
  (s_one (s_ret (d_tup (a_cons (dv 1) (a_cons (d_meth0 c.cW k_w_term hr (by first | decide | exact Nat.ble_eq_true_of_le (by omega)) (dv 0)) (a_star (dv 2) a_nil)))))))))))))), fun ds O R h => ?_⟩
  · unfold gTerm at h
    split at h <;> first | rfl | exact h.elim
  · unfold gTerm at h
    split at h
    · rename_i p
      obtain ⟨ws, row, a, r, t, rest, hd, h1, hw, hn, hr20, h⟩ := h
      have hz := sz_pos t
      dsimp only [tdSeq, tdAsg]
      refine ifS_f (fun Q' q => tt_l (op_l (fld_v (i := 0) rfl h1 rfl ?_))) ?_
      · show Q' (decide ((r : Int) = 20)) O
        rw [decide_eq_false (by omega)]
        exact q
      · obtain ⟨tr, et⟩ := tok_head t
        have hw2 := hw
        rw [et] at hw2
        obtain ⟨w1, w2⟩ := getD_drop hw2
        dsimp only [tdNx, tdSeq]
        refine meth_v (i := 0) rfl h1 rfl ?_
        refine ⟨rfl, ws, row, a, r, wdT t, keysL, h1, w1, .inl rfl, wd_in t, keysL_ok, ?_⟩
        have hin : (okD 60 (.str (wdT t)) && okDs 59 [D.str "beside", D.str "below"]) = true := Bool.and_eq_true_iff.mpr ⟨strOk_wd t, by decide +kernel⟩
        dsimp only [gdN, tdSeq]
        refine setF_l (i := 0) rfl ?_
        refine op_l (fld_v (i := 0) rfl updO_same rfl ?_)
        refine ⟨_, updO_same, (by show (4 : Nat) < 1000; decide), ?_⟩
        rw [updO_updO]
        have w3 : ws.drop (a + 1) = tr ++ rest := w2
        cases t with
        | thing x y =>
          injection et with _ et
          subst et
          refine (show tdTup (tdCons (tdC (.str "thing")) (tdCons (tdMeth aC "integer" (gInteger aC) (tdV 0) tdNil) (tdCons (tdMeth aC "integer" (gInteger aC) (tdV 0) tdNil) tdNil))) [some (.ptr p), some (.str "thing"), none] (updO O p (.obj aC (owF ws row (a + 1) (r + 1)))) (Dl.Fin R) from ?_)
          obtain ⟨g1, g2⟩ := getD_drop w3
          obtain ⟨g3, g4⟩ := getD_drop g2
          refine cons_v ?_
          refine (show tdCons (tdMeth aC "integer" (gInteger aC) (tdV 0) tdNil) (tdCons (tdMeth aC "integer" (gInteger aC) (tdV 0) tdNil) tdNil) [some (.ptr p), some (.str "thing"), none] (updO O p (.obj aC (owF ws row (a + 1) (r + 1)))) (fun ds O1 => needB (szB (D.str "thing" :: ds).length) (Dl.Fin R (.tup (D.str "thing" :: ds)) O1)) from ?_)
          refine cons_v (meth0_v (i := 0) rfl updO_same rfl ⟨ws, row, a + 1, r + 1, x, updO_same, g1, hn.1, ?_⟩)
          rw [updO_updO]
          refine cons_v (meth0_v (i := 0) rfl updO_same rfl ⟨ws, row, a + 1 + 1, r + 1, y, updO_same, g3, hn.2, ?_⟩)
          rw [updO_updO]
          exact needB_i rfl (Fin.i h)
        | none =>
          exact Fin.i h
        | besd s t =>
          injection et with _ et
          subst et
          have hz2 : r + (sz s + sz t + 1) ≤ 20 := hr20
          have hd2 : max (dep s) (dep t) + 1 ≤ n + 1 := hd
          rw [List.append_assoc] at w3
          refine needB_i hin ?_
          refine (show tdCons (tdMeth aC "term" (gTerm aC n) (tdV 0) tdNil) (tdCons (tdMeth aC "term" (gTerm aC n) (tdV 0) tdNil) tdNil) [some (.ptr p), some (.str "beside"), none] (updO O p (.obj aC (owF ws row (a + 1) (r + 1)))) (fun ds O1 => needB (szB (D.str "beside" :: ds).length) (Dl.Fin R (.tup (D.str "beside" :: ds)) O1)) from ?_)
          refine cons_v (meth0_v (i := 0) rfl updO_same rfl ⟨ws, row, a + 1, r + 1, s, tok t ++ rest, by omega, updO_same, w3, hn.1, by omega, ?_⟩)
          rw [updO_updO]
          have w4 : ws.drop (a + 1 + (tok s).length) = tok t ++ rest := by
            rw [← List.drop_drop, w3, List.drop_left]
          refine cons_v (meth0_v (i := 0) rfl updO_same rfl ⟨ws, row, a + 1 + (tok s).length, r + 1 + sz s, t, rest, by omega, updO_same, w4, hn.2, by omega, ?_⟩)
          rw [updO_updO]
          have ea : a + 1 + (tok s).length + (tok t).length = a + (tok (.besd s t)).length := by
            show _ = a + ((tok s ++ tok t).length + 1)
            rw [List.length_append]
            omega
          have er : r + 1 + sz s + sz t = r + sz (.besd s t) := by
            show _ = r + (sz s + sz t + 1)
            omega
          rw [ea, er]
          exact needB_i rfl (Fin.i h)
        | belw s t =>
          injection et with _ et
          subst et
          have hz2 : r + (sz s + sz t + 1) ≤ 20 := hr20
          have hd2 : max (dep s) (dep t) + 1 ≤ n + 1 := hd
          rw [List.append_assoc] at w3
          refine needB_i hin ?_
          refine (show tdCons (tdMeth aC "term" (gTerm aC n) (tdV 0) tdNil) (tdCons (tdMeth aC "term" (gTerm aC n) (tdV 0) tdNil) tdNil) [some (.ptr p), some (.str "below"), none] (updO O p (.obj aC (owF ws row (a + 1) (r + 1)))) (fun ds O1 => needB (szB (D.str "below" :: ds).length) (Dl.Fin R (.tup (D.str "below" :: ds)) O1)) from ?_)
          refine cons_v (meth0_v (i := 0) rfl updO_same rfl ⟨ws, row, a + 1, r + 1, s, tok t ++ rest, by omega, updO_same, w3, hn.1, by omega, ?_⟩)
          rw [updO_updO]
          have w4 : ws.drop (a + 1 + (tok s).length) = tok t ++ rest := by
            rw [← List.drop_drop, w3, List.drop_left]
          refine cons_v (meth0_v (i := 0) rfl updO_same rfl ⟨ws, row, a + 1 + (tok s).length, r + 1 + sz s, t, rest, by omega, updO_same, w4, hn.2, by omega, ?_⟩)
          rw [updO_updO]
          have ea : a + 1 + (tok s).length + (tok t).length = a + (tok (.belw s t)).length := by
            show _ = a + ((tok s ++ tok t).length + 1)
            rw [List.length_append]
            omega
          have er : r + 1 + sz s + sz t = r + sz (.belw s t) := by
            show _ = r + (sz s + sz t + 1)
            omega
          rw [ea, er]
          exact needB_i rfl (Fin.i h)
        | turned t =>
          injection et with _ et
          subst et
          have hz2 : r + (sz t + 1) ≤ 20 := hr20
          have hd2 : dep t + 1 ≤ n + 1 := hd
          refine needB_i hin ?_
          refine (show tdCons (tdMeth aC "term" (gTerm aC n) (tdV 0) tdNil) tdNil [some (.ptr p), some (.str "turned"), none] (updO O p (.obj aC (owF ws row (a + 1) (r + 1)))) (fun ds O1 => needB (szB (D.str "turned" :: ds).length) (Dl.Fin R (.tup (D.str "turned" :: ds)) O1)) from ?_)
          refine cons_v (meth0_v (i := 0) rfl updO_same rfl ⟨ws, row, a + 1, r + 1, t, rest, by omega, updO_same, w3, hn, by omega, ?_⟩)
          rw [updO_updO]
          have ea : a + 1 + (tok t).length = a + (tok (.turned t)).length := by
            show _ = a + ((tok t).length + 1)
            omega
          have er : r + 1 + sz t = r + sz (.turned t) := by
            show _ = r + (sz t + 1)
            omega
          rw [ea, er]
          exact needB_i rfl (Fin.i h)
        | row t k =>
          injection et with _ et
          subst et
          have hz2 : r + (sz t + 1) ≤ 20 := hr20
          have hd2 : dep t + 1 ≤ n + 1 := hd
          obtain ⟨g1, g2⟩ := getD_drop w3
          refine needB_i hin ?_
          refine (show tdMeth aC "own_of" (gOwnOf aC) (tdV 0) (tdCons (tdV 1) tdNil) [some (.ptr p), some (.str "row"), none] (updO O p (.obj aC (owF ws row (a + 1) (r + 1)))) (fun d O1 => tdRet (tdTup (tdCons (tdV 1) (tdCons (tdMeth aC "term" (gTerm aC n) (tdV 0) tdNil) (tdStar (tdV 2) tdNil)))) { nx := fun _ O' => Dl.Fin R .non O', rt := Dl.Fin R } [some (.ptr p), some (.str "row"), some d] O1) from ?_)
          refine meth_v (i := 0) rfl updO_same rfl ?_
          refine ⟨ws, row, a + 1, r + 1, k, by simp, updO_same, g1, hn.1, ?_⟩
          rw [updO_updO]
          refine (show tdMeth aC "term" (gTerm aC n) (tdV 0) tdNil [some (.ptr p), some (.str "row"), some (.lst [.int k])] (updO O p (.obj aC (owF ws row (a + 1 + 1) (r + 1)))) (fun d O1 => needB (szB (D.str "row" :: d :: [.int k]).length) (Dl.Fin R (.tup (D.str "row" :: d :: [.int k])) O1)) from ?_)
          refine meth0_v (i := 0) rfl updO_same rfl ⟨ws, row, a + 1 + 1, r + 1, t, rest, by omega, updO_same, g2, hn.2, by omega, ?_⟩
          rw [updO_updO]
          have ea : a + 1 + 1 + (tok t).length = a + (tok (.row t k)).length := by
            show _ = a + ((tok t).length + 1 + 1)
            omega
          have er : r + 1 + sz t = r + sz (.row t k) := by
            show _ = r + (sz t + 1)
            omega
          rw [ea, er]
          exact needB_i rfl (Fin.i h)
        | moved t k =>
          injection et with _ et
          subst et
          have hz2 : r + (sz t + 1) ≤ 20 := hr20
          have hd2 : dep t + 1 ≤ n + 1 := hd
          obtain ⟨g1, g2⟩ := getD_drop w3
          refine needB_i hin ?_
          refine (show tdMeth aC "own_of" (gOwnOf aC) (tdV 0) (tdCons (tdV 1) tdNil) [some (.ptr p), some (.str "moved"), none] (updO O p (.obj aC (owF ws row (a + 1) (r + 1)))) (fun d O1 => tdRet (tdTup (tdCons (tdV 1) (tdCons (tdMeth aC "term" (gTerm aC n) (tdV 0) tdNil) (tdStar (tdV 2) tdNil)))) { nx := fun _ O' => Dl.Fin R .non O', rt := Dl.Fin R } [some (.ptr p), some (.str "moved"), some d] O1) from ?_)
          refine meth_v (i := 0) rfl updO_same rfl ?_
          refine ⟨ws, row, a + 1, r + 1, k, by simp, updO_same, g1, hn.1, ?_⟩
          rw [updO_updO]
          refine (show tdMeth aC "term" (gTerm aC n) (tdV 0) tdNil [some (.ptr p), some (.str "moved"), some (.lst [.int k])] (updO O p (.obj aC (owF ws row (a + 1 + 1) (r + 1)))) (fun d O1 => needB (szB (D.str "moved" :: d :: [.int k]).length) (Dl.Fin R (.tup (D.str "moved" :: d :: [.int k])) O1)) from ?_)
          refine meth0_v (i := 0) rfl updO_same rfl ⟨ws, row, a + 1 + 1, r + 1, t, rest, by omega, updO_same, g2, hn.2, by omega, ?_⟩
          rw [updO_updO]
          have ea : a + 1 + 1 + (tok t).length = a + (tok (.moved t k)).length := by
            show _ = a + ((tok t).length + 1 + 1)
            omega
          have er : r + 1 + sz t = r + sz (.moved t k) := by
            show _ = r + (sz t + 1)
            omega
          rw [ea, er]
          exact needB_i rfl (Fin.i h)
        | times t k =>
          injection et with _ et
          subst et
          have hz2 : r + (sz t + 1) ≤ 20 := hr20
          have hd2 : dep t + 1 ≤ n + 1 := hd
          obtain ⟨g1, g2⟩ := getD_drop w3
          refine needB_i hin ?_
          refine (show tdMeth aC "own_of" (gOwnOf aC) (tdV 0) (tdCons (tdV 1) tdNil) [some (.ptr p), some (.str "times"), none] (updO O p (.obj aC (owF ws row (a + 1) (r + 1)))) (fun d O1 => tdRet (tdTup (tdCons (tdV 1) (tdCons (tdMeth aC "term" (gTerm aC n) (tdV 0) tdNil) (tdStar (tdV 2) tdNil)))) { nx := fun _ O' => Dl.Fin R .non O', rt := Dl.Fin R } [some (.ptr p), some (.str "times"), some d] O1) from ?_)
          refine meth_v (i := 0) rfl updO_same rfl ?_
          refine ⟨ws, row, a + 1, r + 1, k, by simp, updO_same, g1, hn.1, ?_⟩
          rw [updO_updO]
          refine (show tdMeth aC "term" (gTerm aC n) (tdV 0) tdNil [some (.ptr p), some (.str "times"), some (.lst [.int k])] (updO O p (.obj aC (owF ws row (a + 1 + 1) (r + 1)))) (fun d O1 => needB (szB (D.str "times" :: d :: [.int k]).length) (Dl.Fin R (.tup (D.str "times" :: d :: [.int k])) O1)) from ?_)
          refine meth0_v (i := 0) rfl updO_same rfl ⟨ws, row, a + 1 + 1, r + 1, t, rest, by omega, updO_same, g2, hn.2, by omega, ?_⟩
          rw [updO_updO]
          have ea : a + 1 + 1 + (tok t).length = a + (tok (.times t k)).length := by
            show _ = a + ((tok t).length + 1 + 1)
            omega
          have er : r + 1 + sz t = r + sz (.times t k) := by
            show _ = r + (sz t + 1)
            omega
          rw [ea, er]
          exact needB_i rfl (Fin.i h)
    · exact h.elim
end
end Ri

set_option maxRecDepth 100000
set_option maxHeartbeats 2000000
/-! THE DEFS, 17: the lines of a text. -/
namespace Ri
open PySem PySem.Spec PyProof.Rows L2 Dl
section
variable {w : World} {K : PySem.W.Frag} {mg : Str → Option Value} {base : Heap} {aI aF aL aC cT pT : Addr}
theorem k_w_term (c : Hd w K mg base aI aF aL aC cT pT) : MDef prog w K mg base 10 aC "term" ["self"] (gTerm aC 4) :=
  term_step c (by decide) (term_step c (by decide) (term_step c (by decide) (term_step c (by decide) (term0 c))))
theorem i_w_init (c : Hd w K mg base aI aF aL aC cT pT) : IDef prog w K mg base 1 "Words" aC ["self", "line", "row"] (gInit aC) := by
  obtain ⟨f, fd, hm, b, F⟩ := (k_w_init c).ex
  obtain ⟨f', mk, _⟩ := c.mkW
  have e := mk.init
  rw [hm.at_] at e
  cases e
  exact ⟨f, fd, c.a_Words, mk, b, F⟩
def gLines : GC := fun ds O Q => match ds with
  | [.str x] => x.length ≤ 1000000 ∧ Q (.lst ((Txt.split x "\n").map .str)) O
  | _ => False
theorem k_lines_of (c : Hd w K mg base aI aF aL aC cT pT) : Dl.Def prog w K mg base 1 "lines_of" ["text"] gLines := by
  have S : FnScope ["text"] ["text"] (defScope s_lines_of) := C8.fnScope_by (by kernel_rfl)
  have hN := S.nd
  refine def_ok c.f_lines_of S (fun _ _ _ _ _ _ us hl => match us, hl with | [_], _ => rfl) (fun ds O R h => ?_) fun f cdv A outer s H E hr => ⟨_, have hu := room64 hr; have hu5 := room65 hr; have hu1 := room1 hr; (s_cons (s_if (t_not (t_val (d_isi (dv 0) c.m_isinstance c.m_str bt_str))) (s_one s_never) s_nil)
  (s_one (s_ret (d_split (dv 0) (d_gl (c.g_NEWLINE.d rfl rfl)))))), fun ds O R h => ?_⟩
  · unfold gLines at h
    split at h <;> first | rfl | exact h.elim
  · unfold gLines at h
    split at h
    · rename_i x
      obtain ⟨h1, h⟩ := h
      refine needB_i (c := !((Str.ofString "\n").length == 0) && szB (x.length + 2)) (Bool.and_eq_true_iff.mpr ⟨rfl, szB_i (by omega)⟩) ?_
      exact Fin.i h
    · exact h.elim
def gLeast : GC := fun ds O Q => match ds with
  | [.tup [.int t, .int b]] => (b ≠ 0 ∧ Sm b) ∧ Q (frD (mk t b)) O
  | _ => False
theorem k_least_terms (c : Hd w K mg base aI aF aL aC cT pT) : Dl.Def prog w K mg base 3 "least_terms" ["pair"] gLeast := by
  have k_made := k_made c
  have S : FnScope ["pair"] ["pair"] (defScope s_least_terms) := C8.fnScope_by (by kernel_rfl)
  have hN := S.nd
  refine def_ok c.f_least_terms S (fun _ _ _ _ _ _ us hl => match us, hl with | [_], _ => rfl) (fun ds O R h => ?_) fun f cdv A outer s H E hr => ⟨_, have hu := room64 hr; have hu5 := room65 hr; have hu1 := room1 hr; (s_one (s_ret (d_call k_made hr (by decide) (a_cons (d_ix (dv 0) d_int) (a_cons (d_ix (dv 0) d_int) a_nil))))), fun ds O R h => ?_⟩
  · unfold gLeast at h
    split at h <;> first | rfl | exact h.elim
  · unfold gLeast at h
    split at h
    · exact ⟨h.1, Fin.i h.2⟩
    · exact h.elim
def gTermIn : GC := fun ds O Q => match ds with
  | [.str x, d] => ∃ t, x.length ≤ 1000000 ∧ Txt.split x " " = tok t ∧ dep t ≤ 4 ∧ nums t ∧ sz t ≤ 20 ∧ Q (tmD t) O
  | _ => False
theorem k_term_in (c : Hd w K mg base aI aF aL aC cT pT) : Dl.Def prog w K mg base 11 "term_in" ["line", "row"] gTermIn := by
  have i_w_init := i_w_init c
  have k_w_term := k_w_term c
  have k_w_end := k_w_end c
  have S : FnScope ["line", "row", "words", "found"] ["line", "row"] (defScope s_term_in) := C8.fnScope_by (by kernel_rfl)
  have hN := S.nd
  refine def_ok c.f_term_in S (fun _ _ _ _ _ _ us hl => match us, hl with | [_, _], _ => rfl) (fun ds O R h => ?_) fun f cdv A outer s H E hr => ⟨_, have hu := room64 hr; have hu5 := room65 hr; have hu1 := room1 hr; (s_cons (s_set 2 hN (d_make i_w_init hr (by decide) (a_cons (dv 0) (a_cons (dv 1) a_nil))))
  (s_cons (s_set 3 hN (d_meth0 c.cW k_w_term hr (by decide) (dv 2)))
  (s_cons (s_expr (d_meth0 c.cW k_w_end hr (by decide) (dv 2)))
  (s_one (s_ret (dv 3)))))), fun ds O R h => ?_⟩
  · unfold gTermIn at h
    split at h <;> first | rfl | exact h.elim
  · unfold gTermIn at h
    split at h
    · rename_i x d
      obtain ⟨t, hx, hs, hd, hn, hz, h⟩ := h
      intro p hp
      refine ⟨updO_same, hx, rfl, ?_⟩
      rw [hs, updO_updO]
      dsimp only [gdN, tdSeq, tdAsg]
      refine meth0_v (i := 2) rfl updO_same rfl ⟨tok t, d, 0, 0, t, [], hd, updO_same, by simp, hn, by omega, ?_⟩
      rw [updO_updO]
      dsimp only [gdN, tdSeq, tdExpr]
      refine meth0_v (i := 2) rfl updO_same rfl ⟨tok t, d, _, _, updO_same, by omega, ?_⟩
      dsimp only [tdRet]
      exact v_i (i := 3) rfl ⟨O, sub_upd hp (Sub.refl O), h⟩
    · exact h.elim
end
end Ri

set_option maxRecDepth 100000
set_option maxHeartbeats 2000000
/-! THE DEFS, 18: sayings. -/
namespace Ri
open PySem PySem.Spec PyProof.Rows L2 Dl
abbrev Rf := Str × Int × Int
def FrOk (x : Rf) : Prop := IsF x.1 x.2.1 x.2.2 ∧ x.2.2 ≠ 0 ∧ Sm x.2.2
def mkR (x : Rf) : Fr := mk x.2.1 x.2.2
inductive Say where
  | things (k : Int)
  | levels (k : Int)
  | below (i j : Int)
  | up (l : List Int)
  | guess (i : Int) (x : Rf)
  | table (l : List Rf)
  | charge (x y : Rf)
def sayW : Say → List Str
  | .things k => ["things", sgS k]
  | .levels k => ["levels", sgS k]
  | .below i j => ["below", sgS i, sgS j]
  | .up l => "up" :: l.map sgS
  | .guess i x => ["guess", sgS i, x.1]
  | .table l => "table" :: l.map (·.1)
  | .charge x y => ["charge", x.1, y.1]
def sayOk : Say → Prop
  | .things k => I30 k
  | .levels k => I30 k
  | .below i j => I30 i ∧ I30 j
  | .up l => (∀ i ∈ l, I30 i) ∧ l.length ≤ 1000
  | .guess i x => I30 i ∧ FrOk x
  | .table l => (∀ x ∈ l, FrOk x) ∧ l.length ≤ 1000
  | .charge x y => FrOk x ∧ FrOk y
def sayN : Say → Str
  | .things _ => "things"
  | .levels _ => "levels"
  | .below _ _ => "below"
  | .up _ => "up"
  | .guess _ _ => "guess"
  | .table _ => "table"
  | .charge _ _ => "charge"
def sayD : Say → List D
  | .things k => [.int k]
  | .levels k => [.int k]
  | .below i j => [.int i, .int j]
  | .up l => l.map .int
  | .guess i x => [.int i, frD (mkR x)]
  | .table l => l.map fun x => frD (mkR x)
  | .charge x y => [frD (mkR x), frD (mkR y)]
def saysL : List Str := ["things", "below", "up", "levels", "guess", "table", "charge"]
theorem saysL_ok : ∀ y ∈ saysL, PyData.strOk y = true := by decide +kernel
theorem say_in (s : Say) : sayN s ∈ saysL := by
  cases s <;> (unfold sayN saysL; simp)
theorem say_head (s : Say) : ∃ r, sayW s = sayN s :: r := by cases s <;> exact ⟨_, rfl⟩
section
variable {w : World} {K : PySem.W.Frag} {mg : Str → Option Value} {base : Heap} {aI aF aL aC cT pT : Addr}
def gSaying : GC := fun ds O Q => match ds with
  | [.str x, d] => ∃ s, x.length ≤ 1000000 ∧ Txt.split x " " = sayW s ∧ sayOk s ∧ Q (.tup [.str (sayN s), .lst (sayD s)]) O
  | _ => False
theorem k_saying_in (c : Hd w K mg base aI aF aL aC cT pT) : Dl.Def prog w K mg base 5 "saying_in" ["line", "row"] gSaying := by
  have i_w_init := i_w_init c
  have k_w_word_of := k_w_word_of c
  have k_w_all_by := k_w_all_by c
  have k_w_integer := k_w_integer c
  have k_w_fraction := k_w_fraction c
  have k_w_end := k_w_end c
  have k_least_terms := k_least_terms c
  have S : FnScope ["line", "row", "words", "word", "some", "pair", "turn"] ["line", "row"] (defScope s_saying_in) := C8.fnScope_by (by kernel_rfl)
  have hN := S.nd
  refine def_ok c.f_saying_in S (fun _ _ _ _ _ _ us hl => match us, hl with | [_, _], _ => rfl) (fun ds O R h => ?_) fun f cdv A outer s H E hr => ⟨_, have hu := room64 hr; have hu5 := room65 hr; have hu1 := room1 hr; (s_cons (s_set 2 hN (d_make i_w_init hr (by decide) (a_cons (dv 0) (a_cons (dv 1) a_nil))))
  (s_cons (s_set 3 hN (d_meth c.cW k_w_word_of hr (by decide) (dv 2) (a_cons (d_gl (c.g_SAYINGS.d rfl rfl)) a_nil)))
  (s_cons (s_if (t_cmp (o_eq hu) (dv 3) (d_gl (c.g_UP.d rfl rfl)))
  (s_one (s_ret (d_tup (a_cons (dv 3) (a_cons (d_meth c.cW k_w_all_by hr (by decide) (dv 2) (a_cons (d_gl (c.g_integer_in.d rfl rfl)) a_nil)) a_nil)))))
  s_nil)
  (s_cons (s_if (t_cmp (o_eq hu) (dv 3) (d_gl (c.g_TABLE.d rfl rfl)))
  (s_one (s_ret (d_tup (a_cons (dv 3) (a_cons (d_lc rfl hN (i_seq (d_meth c.cW k_w_all_by hr (by decide) (dv 2) (a_cons (d_gl (c.g_fraction_in.d rfl rfl)) a_nil))) (blkOk_by (own := [("pair", 5)]) (by kernel_rfl)) (fun _ _ _ _ _ => (g_name 5 hN)) (fun _ _ _ _ _ => ts_nil) (fun _ _ _ _ _ => (d_call k_least_terms hr (by decide) (a_cons (dv 5) a_nil)))) a_nil)))))
  s_nil)
  (s_cons (s_if (t_cmp (o_eq hu) (dv 3) (d_gl (c.g_GUESS.d rfl rfl)))
  (s_one (s_set 4 hN (d_lst (a_cons (d_meth0 c.cW k_w_integer hr (by decide) (dv 2)) (a_cons (d_call k_least_terms hr (by decide) (a_cons (d_meth0 c.cW k_w_fraction hr (by decide) (dv 2)) a_nil)) a_nil)))))
  (s_one (s_if (t_cmp (o_eq hu) (dv 3) (d_gl (c.g_CHARGE.d rfl rfl)))
  (s_one (s_set 4 hN (d_lst (a_cons (d_call k_least_terms hr (by decide) (a_cons (d_meth0 c.cW k_w_fraction hr (by decide) (dv 2)) a_nil)) (a_cons (d_call k_least_terms hr (by decide) (a_cons (d_meth0 c.cW k_w_fraction hr (by decide) (dv 2)) a_nil)) a_nil)))))
  (s_one (s_setLc 4 rfl hN (sw_true rfl rfl rfl rfl) (i_rng c.m_range (a_cons (d_if (t_cmp (o_eq hu) (dv 3) (d_gl (c.g_BELOW_judge.d rfl rfl))) d_int d_int) a_nil)) (blkOk_by (own := [("turn", 6)]) (by kernel_rfl)) (fun _ _ _ _ _ => (g_name 6 hN)) (fun _ _ _ _ _ => ts_nil) (fun _ _ _ _ _ => (d_meth0 c.cW k_w_integer hr (by decide) (dv 2))))))))
  (s_cons (s_expr (d_meth0 c.cW k_w_end hr (by decide) (dv 2)))
  (s_one (s_ret (d_tup (a_cons (dv 3) (a_cons (dv 4) a_nil))))))))))), fun ds O R h => ?_⟩
  · unfold gSaying at h
    split at h <;> first | rfl | exact h.elim
  · unfold gSaying at h
    split at h
    · rename_i x d
      obtain ⟨s, hx, hs, hok, h⟩ := h
      intro p hp
      refine ⟨updO_same, hx, rfl, ?_⟩
      rw [hs, updO_updO]
      obtain ⟨tr, et⟩ := say_head s
      have w0 : (sayW s).drop 0 = sayN s :: tr := et
      obtain ⟨w1, w2⟩ := getD_drop w0
      dsimp only [gdN, tdSeq, tdAsg]
      refine meth_v (i := 2) rfl updO_same rfl ?_
      refine ⟨sayW s, d, 0, 0, sayN s, saysL, updO_same, w1, .inr rfl, say_in s, saysL_ok, ?_⟩
      rw [updO_updO]
      have w3 : (sayW s).drop 1 = tr := w2
      have hS : Sub O (updO O p (.obj aC (owF (sayW s) d (0 + 1) 0))) := sub_upd hp (Sub.refl O)
      have fin : ∀ (n : Nat) (x5 x6 : Option D), (sayW s).length ≤ n → tdSeq (tdExpr (tdMeth aC "end" (gEnd aC) (tdV 2) tdNil)) (tdRet (tdTup (tdCons (tdV 3) (tdCons (tdV 4) tdNil)))) { nx := fun _ O' => Dl.Fin R .non O', rt := Dl.Fin R } [some (.str x), some d, some (.ptr p), some (.str (sayN s)), some (.lst (sayD s)), x5, x6] (updO O p (.obj aC (owF (sayW s) d n 0))) := by
        intro n x5 x6 hn
        dsimp only [tdSeq, tdExpr]
        refine meth0_v (i := 2) rfl updO_same rfl ⟨sayW s, d, n, 0, updO_same, hn, ?_⟩
        exact needB_i rfl ⟨O, sub_upd hp (Sub.refl O), h⟩
      cases s with
      | things k =>
        injection et with _ et
        subst et
        obtain ⟨g1, g2⟩ := getD_drop w3
        refine (show tdMeth aC "integer" (gInteger aC) (tdV 2) tdNil [some (.str x), some d, some (.ptr p), some (.str "things"), none, none, none] (updO O p (.obj aC (owF (sayW (.things k)) d 1 0))) (fun d O1 => (fun d4 O1 => tdSeq (tdExpr (tdMeth aC "end" (gEnd aC) (tdV 2) tdNil)) (tdRet (tdTup (tdCons (tdV 3) (tdCons (tdV 4) tdNil)))) { nx := fun _ O' => Dl.Fin R .non O', rt := Dl.Fin R } [some (.str x), some d, some (.ptr p), some (.str "things"), some d4, none, none] O1) (.lst [d]) O1) from ?_)
        refine meth0_v (i := 2) rfl updO_same rfl ⟨_, d, 1, 0, k, updO_same, g1, hok, ?_⟩
        rw [updO_updO]
        exact fin 2 none none (Nat.le_refl _)
      | levels k =>
        injection et with _ et
        subst et
        obtain ⟨g1, g2⟩ := getD_drop w3
        refine (show tdMeth aC "integer" (gInteger aC) (tdV 2) tdNil [some (.str x), some d, some (.ptr p), some (.str "levels"), none, none, none] (updO O p (.obj aC (owF (sayW (.levels k)) d 1 0))) (fun d O1 => (fun d4 O1 => tdSeq (tdExpr (tdMeth aC "end" (gEnd aC) (tdV 2) tdNil)) (tdRet (tdTup (tdCons (tdV 3) (tdCons (tdV 4) tdNil)))) { nx := fun _ O' => Dl.Fin R .non O', rt := Dl.Fin R } [some (.str x), some d, some (.ptr p), some (.str "levels"), some d4, none, none] O1) (.lst [d]) O1) from ?_)
        refine meth0_v (i := 2) rfl updO_same rfl ⟨_, d, 1, 0, k, updO_same, g1, hok, ?_⟩
        rw [updO_updO]
        exact fin 2 none none (Nat.le_refl _)
      | below i j =>
        injection et with _ et
        subst et
        obtain ⟨g1, g2⟩ := getD_drop w3
        obtain ⟨g3, g4⟩ := getD_drop g2
        refine (show tdMeth aC "integer" (gInteger aC) (tdV 2) tdNil [some (.str x), some d, some (.ptr p), some (.str "below"), none, none, none] (updO O p (.obj aC (owF (sayW (.below i j)) d 1 0))) (fun d1 O2 => tdMeth aC "integer" (gInteger aC) (tdV 2) tdNil [some (.str x), some d, some (.ptr p), some (.str "below"), none, none, none] O2 fun d2 O3 => (fun d4 O1 => tdSeq (tdExpr (tdMeth aC "end" (gEnd aC) (tdV 2) tdNil)) (tdRet (tdTup (tdCons (tdV 3) (tdCons (tdV 4) tdNil)))) { nx := fun _ O' => Dl.Fin R .non O', rt := Dl.Fin R } [some (.str x), some d, some (.ptr p), some (.str "below"), some d4, none, none] O1) (.lst [d1, d2]) O3) from ?_)
        refine meth0_v (i := 2) rfl updO_same rfl ⟨_, d, 1, 0, i, updO_same, g1, hok.1, ?_⟩
        rw [updO_updO]
        refine meth0_v (i := 2) rfl updO_same rfl ⟨_, d, 2, 0, j, updO_same, g3, hok.2, ?_⟩
        rw [updO_updO]
        exact fin 3 none none (Nat.le_refl _)
      | up l =>
        injection et with _ et
        subst et
        refine (show tdMeth aC "all_by" (gAllBy aC aI aF) (tdV 2) (tdCons (tdC (D.ptr aI)) tdNil) [some (.str x), some d, some (.ptr p), some (.str "up"), none, none, none] (updO O p (.obj aC (owF (sayW (.up l)) d 1 0))) (fun d1 O2 => needB (szB 2) (Dl.Fin R (.tup [.str "up", d1]) O2)) from ?_)
        refine meth_v (i := 2) rfl updO_same rfl ?_
        have hl : (sayW (.up l)).length = l.length + 1 := by
          show (l.map sgS).length + 1 = _
          rw [List.length_map]
        have hl2 := hok.2
        refine ⟨_, d, 1, 0, l.map fun i => (sgS i, .int i), updO_same, by omega, by omega, ?_, ?_, ?_⟩
        · rw [w3, List.map_map]
          rfl
        · intro z hz
          obtain ⟨i, hi, rfl⟩ := List.mem_map.mp hz
          exact .inl ⟨rfl, i, rfl, hok.1 i hi, rfl⟩
        · rw [updO_updO, List.map_map]
          exact needB_i rfl ⟨O, sub_upd hp (Sub.refl O), h⟩
      | guess i y =>
        injection et with _ et
        subst et
        obtain ⟨g1, g2⟩ := getD_drop w3
        obtain ⟨g3, g4⟩ := getD_drop g2
        refine (show tdMeth aC "integer" (gInteger aC) (tdV 2) tdNil [some (.str x), some d, some (.ptr p), some (.str "guess"), none, none, none] (updO O p (.obj aC (owF (sayW (.guess i y)) d 1 0))) (fun d1 O2 => tdMeth aC "fraction" (gFraction aC) (tdV 2) tdNil [some (.str x), some d, some (.ptr p), some (.str "guess"), none, none, none] O2 fun d2 O3 => gLeast [d2] O3 fun d3 O4 => needB (szB 2) ((fun d4 O1 => tdSeq (tdExpr (tdMeth aC "end" (gEnd aC) (tdV 2) tdNil)) (tdRet (tdTup (tdCons (tdV 3) (tdCons (tdV 4) tdNil)))) { nx := fun _ O' => Dl.Fin R .non O', rt := Dl.Fin R } [some (.str x), some d, some (.ptr p), some (.str "guess"), some d4, none, none] O1) (.lst [d1, d3]) O4)) from ?_)
        refine meth0_v (i := 2) rfl updO_same rfl ⟨_, d, 1, 0, i, updO_same, g1, hok.1, ?_⟩
        rw [updO_updO]
        refine meth0_v (i := 2) rfl updO_same rfl ⟨_, d, 2, 0, y.1, y.2.1, y.2.2, updO_same, g3, hok.2.1, ?_⟩
        rw [updO_updO]
        refine ⟨hok.2.2, needB_i rfl ?_⟩
        exact fin 3 none none (Nat.le_refl _)
      | table l =>
        injection et with _ et
        subst et
        refine (show tiSeq (tdMeth aC "all_by" (gAllBy aC aI aF) (tdV 2) (tdCons (tdC (D.ptr aF)) tdNil)) [some (.str x), some d, some (.ptr p), some (.str "table"), none, none, none] (updO O p (.obj aC (owF (sayW (.table l)) d 1 0))) (fun ds O2 => lcD (gdN 5) tdYes (tdCall gLeast (tdCons (tdV 5) tdNil)) [some (.str x), some d, some (.ptr p), some (.str "table"), none, none, none] ds [] O2 fun acc O3 => needB (szB 2) (Dl.Fin R (.tup [.str "table", .lst acc]) O3)) from ?_)
        dsimp only [tiSeq]
        refine meth_v (i := 2) rfl updO_same rfl ?_
        have hl : (sayW (.table l)).length = l.length + 1 := by
          show (l.map (·.1)).length + 1 = _
          rw [List.length_map]
        have hl2 := hok.2
        refine ⟨_, d, 1, 0, l.map fun y => (y.1, .tup [.int y.2.1, .int y.2.2]), updO_same, by omega, by omega, ?_, ?_, ?_⟩
        · rw [w3, List.map_map]
          rfl
        · intro z hz
          obtain ⟨y, hy, rfl⟩ := List.mem_map.mp hz
          exact .inr ⟨rfl, y.2.1, y.2.2, (hok.1 y hy).1, rfl⟩
        · rw [updO_updO, List.map_map]
          refine lcD_map l (fun y => D.tup [.int y.2.1, .int y.2.2]) (fun y => frD (mkR y)) (fun y hy K1 k1 => ?_) ?_
          · exact ⟨(hok.1 y hy).2, k1⟩
          · exact needB_i rfl ⟨O, sub_upd hp (Sub.refl O), h⟩
      | charge y z =>
        injection et with _ et
        subst et
        obtain ⟨g1, g2⟩ := getD_drop w3
        obtain ⟨g3, g4⟩ := getD_drop g2
        refine (show tdMeth aC "fraction" (gFraction aC) (tdV 2) tdNil [some (.str x), some d, some (.ptr p), some (.str "charge"), none, none, none] (updO O p (.obj aC (owF (sayW (.charge y z)) d 1 0))) (fun d1 O2 => gLeast [d1] O2 fun d2 O3 => tdMeth aC "fraction" (gFraction aC) (tdV 2) tdNil [some (.str x), some d, some (.ptr p), some (.str "charge"), none, none, none] O3 fun d3 O4 => gLeast [d3] O4 fun d5 O5 => needB (szB 2) ((fun d4 O1 => tdSeq (tdExpr (tdMeth aC "end" (gEnd aC) (tdV 2) tdNil)) (tdRet (tdTup (tdCons (tdV 3) (tdCons (tdV 4) tdNil)))) { nx := fun _ O' => Dl.Fin R .non O', rt := Dl.Fin R } [some (.str x), some d, some (.ptr p), some (.str "charge"), some d4, none, none] O1) (.lst [d2, d5]) O5)) from ?_)
        refine meth0_v (i := 2) rfl updO_same rfl ⟨_, d, 1, 0, y.1, y.2.1, y.2.2, updO_same, g1, hok.1.1, ?_⟩
        rw [updO_updO]
        refine ⟨hok.1.2, ?_⟩
        refine meth0_v (i := 2) rfl updO_same rfl ⟨_, d, 2, 0, z.1, z.2.1, z.2.2, updO_same, g3, hok.2.1, ?_⟩
        rw [updO_updO]
        refine ⟨hok.2.2, needB_i rfl ?_⟩
        exact fin 3 none none (Nat.le_refl _)
    · exact h.elim
end
end Ri

set_option maxRecDepth 100000
set_option maxHeartbeats 2000000
/-! THE DEFS, 19: the judge. -/
namespace Ri
open PySem PySem.Spec PyProof.Rows L2 Dl
def inB (f : Fd) (i : Int) : Bool := decide (0 ≤ i) && decide (i < (f.n : Int))
def soB (f : Fd) (vs : List Lv) : Say → Bool
  | .things k => decide ((f.n : Int) = k)
  | .levels k => decide ((vs.length : Int) = k)
  | .below i j => inB f i && decide (j ∈ upsI f i.toNat)
  | .up l => lotB f l && isUpB f (l.map Int.toNat)
  | .guess i x => inB f i && decide (gOf vs i.toNat = mkR x)
  | .table l => decide (tabL vs f.n = l.map mkR)
  | .charge x y => decide (chargeF f (mkR x) (tabL vs f.n) = mkR y)
section
variable {w : World} {K : PySem.W.Frag} {mg : Str → Option Value} {base : Heap} {aI aF aL aC cT pT : Addr}
def gThere : GC := fun ds O Q => match ds with
  | [fd, .int i] => ∃ f, fd = fdD f ∧ Q (.bl (inB f i)) O
  | _ => False
theorem k_is_there (c : Hd w K mg base aI aF aL aC cT pT) : Dl.Def prog w K mg base 1 "is_there" ["field", "number"] gThere := by
  have S : FnScope ["field", "number"] ["field", "number"] (defScope s_is_there) := C8.fnScope_by (by kernel_rfl)
  have hN := S.nd
  refine def_ok c.f_is_there S (fun _ _ _ _ _ _ us hl => match us, hl with | [_, _], _ => rfl) (fun ds O R h => ?_) fun f cdv A outer s H E hr => ⟨_, have hu := room64 hr; have hu5 := room65 hr; have hu1 := room1 hr; (s_one (s_ret (d_chain o_le o_lt d_int (dv 1) (d_ix (dv 0) d_int)))), fun ds O R h => ?_⟩
  · unfold gThere at h
    split at h <;> first | rfl | exact h.elim
  · unfold gThere at h
    split at h
    · rename_i fd i
      obtain ⟨f, rfl, h⟩ := h
      unfold inB at h
      dsimp only [tdRet]
      refine chain_l ?_
      dsimp only [tdC]
      refine v_i (i := 1) rfl ?_
      refine ⟨decide (0 ≤ i), rfl, fun e => ?_, fun e => ?_⟩
      · rw [e, Bool.true_and] at h
        exact Fin.i h
      · rw [e, Bool.false_and] at h
        exact Fin.i h
    · exact h.elim
theorem inB_nat {f : Fd} {i : Int} (h : inB f i = true) : ∃ m : Nat, i = (m : Int) ∧ m < f.n := by
  unfold inB at h
  rw [Bool.and_eq_true, decide_eq_true_iff, decide_eq_true_iff] at h
  exact ⟨i.toNat, by omega, by omega⟩
theorem lot_nat {f : Fd} {l : List Int} (h : lotB f l = true) : ∃ m : List Nat, l = toI m ∧ ∀ i ∈ m, i < f.n := by
  unfold lotB at h
  rw [Bool.and_eq_true, List.all_eq_true] at h
  refine ⟨l.map Int.toNat, ?_, fun i hi => ?_⟩
  · unfold toI
    rw [List.map_map]
    refine (List.map_id l).symm.trans (List.map_congr_left fun i hi => ?_)
    have := h.1 i hi
    unfold btw at this
    rw [Bool.and_eq_true, decide_eq_true_iff, decide_eq_true_iff] at this
    show i = ((i.toNat : Nat) : Int)
    omega
  · obtain ⟨j, hj, rfl⟩ := List.mem_map.mp hi
    have := h.1 j hj
    unfold btw at this
    rw [Bool.and_eq_true, decide_eq_true_iff, decide_eq_true_iff] at this
    omega
theorem toNat_toI (m : List Nat) : (toI m).map Int.toNat = m := by
  unfold toI
  rw [List.map_map]
  exact (List.map_congr_left fun i _ => Int.toNat_natCast i).trans (List.map_id m)
theorem fr_list_eqv : ∀ a b : List Fr, PyData.eqvAll (toPys (a.map frD)) (toPys (b.map frD)) = decide (a = b)
  | [], [] => by simp [toPys, PyData.eqvAll]
  | [], y :: b => by simp [toPys, PyData.eqvAll]
  | x :: a, [] => by simp [toPys, PyData.eqvAll]
  | x :: a, y :: b => by
    show (PyData.eqv (toPy (frD x)) (toPy (frD y)) && PyData.eqvAll (toPys (a.map frD)) (toPys (b.map frD))) = _
    rw [eqv_fr, fr_list_eqv a b]
    by_cases h : x = y <;> by_cases h2 : a = b <;> simp [h, h2]
theorem okDs_fr : ∀ (n : Nat) (a : List Fr), okDs (n + 1) (a.map frD) = true
  | n, [] => rfl
  | n, x :: a => by
    show (okD (n + 1) (frD x) && okDs (n + 1) (a.map frD)) = true
    rw [okDs_fr n a]
    cases n <;> rfl
/-- what the judge needs of a saying -/
def soOk : Say → Prop
  | .charge x _ => BdF 100 (mkR x) ∧ (mkR x).2 ≠ 0
  | _ => True
def gIsSo : GC := fun ds O Q => match ds with
  | [fd, .lst ls, .str z, .lst some_] => ∃ f vs s, FdOk f ∧ fd = fdD f ∧ ls = vs.map lvD ∧ z = sayN s ∧ some_ = sayD s ∧ Whole vs f.n ∧ (∀ p ∈ tabL vs f.n, BdF 100 p) ∧ soOk s ∧ Q (.bl (soB f vs s)) O
  | _ => False
theorem k_is_so (c : Hd w K mg base aI aF aL aC cT pT) : Dl.Def prog w K mg base 4 "is_so" ["field", "levels", "word", "some"] gIsSo := by
  have k_is_there := k_is_there c
  have k_ups_in := k_ups_in c
  have k_is_lot_of := k_is_lot_of c
  have k_is_up_in := k_is_up_in c
  have k_table_by := k_table_by c
  have k_charge_in := k_charge_in c
  have S : FnScope ["field", "levels", "word", "some", "best"] ["field", "levels", "word", "some"] (defScope s_is_so) := C8.fnScope_by (by kernel_rfl)
  have hN := S.nd
  refine def_ok c.f_is_so S (fun _ _ _ _ _ _ us hl => match us, hl with | [_, _, _, _], _ => rfl) (fun ds O R h => ?_) fun f cdv A outer s H E hr => ⟨_, have hu := room64 hr; have hu5 := room65 hr; have hu1 := room1 hr; (s_cons (s_if (t_cmp (o_eq hu) (dv 2) (d_gl (c.g_THINGS.d rfl rfl)))
  (s_one (s_ret (d_cmp (o_eq hu) (d_ix (dv 0) d_int) (d_ix (dv 3) d_int))))
  s_nil)
  (s_cons (s_if (t_cmp (o_eq hu) (dv 2) (d_gl (c.g_LEVELS.d rfl rfl)))
  (s_one (s_ret (d_cmp (o_eq hu) (d_callB c_len c.m_len bt_len (a_cons (dv 1) a_nil)) (d_ix (dv 3) d_int))))
  s_nil)
  (s_cons (s_if (t_cmp (o_eq hu) (dv 2) (d_gl (c.g_BELOW_judge.d rfl rfl)))
  (s_one (s_ret (d_and (d_call k_is_there hr (by decide) (a_cons (dv 0) (a_cons (d_ix (dv 3) d_int) a_nil))) (d_one (d_cmp (o_in hu5) (d_ix (dv 3) d_int) (d_ix (d_call k_ups_in hr (by decide) (a_cons (dv 0) a_nil)) (d_ix (dv 3) d_int)))))))
  s_nil)
  (s_cons (s_if (t_cmp (o_eq hu) (dv 2) (d_gl (c.g_UP.d rfl rfl)))
  (s_one (s_ret (d_and (d_call k_is_lot_of hr (by decide) (a_cons (dv 0) (a_cons (d_callTy c_tuple c.m_tuple bt_tuple (a_cons (dv 3) a_nil)) a_nil))) (d_one (d_call k_is_up_in hr (by decide) (a_cons (d_call k_ups_in hr (by decide) (a_cons (dv 0) a_nil)) (a_cons (dv 3) a_nil)))))))
  s_nil)
  (s_cons (s_set 4 hN (d_call k_table_by hr (by decide) (a_cons (dv 1) a_nil)))
  (s_cons (s_if (t_cmp (o_eq hu) (dv 2) (d_gl (c.g_GUESS.d rfl rfl)))
  (s_one (s_ret (d_and (d_call k_is_there hr (by decide) (a_cons (dv 0) (a_cons (d_ix (dv 3) d_int) a_nil))) (d_one (d_cmp (o_eq hu) (d_ix (dv 4) (d_ix (dv 3) d_int)) (d_ix (dv 3) d_int))))))
  s_nil)
  (s_cons (s_if (t_cmp (o_eq hu) (dv 2) (d_gl (c.g_TABLE.d rfl rfl)))
  (s_one (s_ret (d_cmp (o_eq hu) (d_callTy c_list c.m_list bt_list (a_cons (dv 4) a_nil)) (dv 3))))
  s_nil)
  (s_one (s_ret (d_cmp (o_eq hu) (d_call k_charge_in hr (by decide) (a_cons (dv 0) (a_cons (d_ix (dv 3) d_int) (a_cons (dv 4) a_nil)))) (d_ix (dv 3) d_int))))))))))), fun ds O R h => ?_⟩
  · unfold gIsSo at h
    split at h <;> first | rfl | exact h.elim
  · unfold gIsSo at h
    split at h
    · obtain ⟨f, vs, s, ok, rfl, rfl, rfl, rfl, W, hb, hs, h⟩ := h
      cases s with
      | things k => exact Fin.i h
      | levels k =>
        show Dl.Fin R (.bl (decide (((vs.map lvD).length : Int) = k))) O
        rw [List.length_map]
        exact Fin.i h
      | below i j =>
        refine (show tdAndV (tdCall gThere (tdCons (tdV 0) (tdCons (tdOp gIx (tdV 3) (tdC (.int 0))) tdNil))) (tdOp (gIn false) (tdOp gIx (tdV 3) (tdC (.int 1))) (tdOp gIx (tdCall gUpsIn (tdCons (tdV 0) tdNil)) (tdOp gIx (tdV 3) (tdC (.int 0))))) [some (fdD f), some (.lst (vs.map lvD)), some (.str (sayN (.below i j))), some (.lst (sayD (.below i j))), none] O (Dl.Fin R) from ?_)
        refine and_l ⟨f, rfl, inB f i, rfl, fun e => ?_, fun e => ?_⟩
        · obtain ⟨m, rfl, hm⟩ := inB_nat e
          refine ⟨f, ok, rfl, ?_⟩
          refine ix_lst (O := O) (n := m) (d := .lst ((upsI f m).map .int)) (by rw [List.getElem?_map, List.getElem?_range hm]; rfl) ?_
          refine in_yes j (upsI f m) _ (.inl rfl) ?_
          have e2 : soB f vs (.below m j) = decide (j ∈ upsI f m) := by
            show (inB f m && decide (j ∈ upsI f (m : Int).toNat)) = _
            rw [e, Bool.true_and, Int.toNat_natCast]
          rw [e2] at h
          exact Fin.i h
        · have e2 : soB f vs (.below i j) = false := by
            show (inB f i && _) = _
            rw [e, Bool.false_and]
          rw [e2] at h
          exact Fin.i h
      | up l =>
        refine (show tdAndV (tdCall gLotOf (tdCons (tdV 0) (tdCons (tdCall gTuple (tdCons (tdV 3) tdNil)) tdNil))) (tdCall gIsUp (tdCons (tdCall gUpsIn (tdCons (tdV 0) tdNil)) (tdCons (tdV 3) tdNil))) [some (fdD f), some (.lst (vs.map lvD)), some (.str (sayN (.up l))), some (.lst (sayD (.up l))), none] O (Dl.Fin R) from ?_)
        refine and_l ⟨f, l, rfl, rfl, lotB f l, rfl, fun e => ?_, fun e => ?_⟩
        · obtain ⟨m, rfl, hm⟩ := lot_nat e
          refine ⟨f, ok, rfl, f, m, rfl, .inr (by rw [natD_toI]; rfl), hm, ?_⟩
          have e2 : soB f vs (.up (toI m)) = isUpB f m := by
            show (lotB f (toI m) && isUpB f ((toI m).map Int.toNat)) = _
            rw [e, Bool.true_and, toNat_toI]
          rw [e2] at h
          exact Fin.i h
        · have e2 : soB f vs (.up l) = false := by
            show (lotB f l && _) = _
            rw [e, Bool.false_and]
          rw [e2] at h
          exact Fin.i h
      | guess i x =>
        refine ⟨vs, f.n, rfl, W, ?_⟩
        refine (show tdAndV (tdCall gThere (tdCons (tdV 0) (tdCons (tdOp gIx (tdV 3) (tdC (.int 0))) tdNil))) (tdOp gEq (tdOp gIx (tdV 4) (tdOp gIx (tdV 3) (tdC (.int 0)))) (tdOp gIx (tdV 3) (tdC (.int 1)))) [some (fdD f), some (.lst (vs.map lvD)), some (.str (sayN (.guess i x))), some (.lst (sayD (.guess i x))), some (.tup ((tabL vs f.n).map frD))] O (Dl.Fin R) from ?_)
        refine and_l ⟨f, rfl, inB f i, rfl, fun e => ?_, fun e => ?_⟩
        · obtain ⟨m, rfl, hm⟩ := inB_nat e
          refine ix_tup (O := O) (n := m) (d := frD (gOf vs m)) (by rw [List.getElem?_map]; unfold tabL; rw [List.getElem?_map, List.getElem?_range hm]; rfl) ?_
          refine ⟨rfl, rfl, ?_⟩
          show Dl.Fin R (.bl (PyData.eqv (toPy (frD (gOf vs m))) (toPy (frD (mkR x))))) O
          rw [eqv_fr]
          have e2 : soB f vs (.guess m x) = decide (gOf vs m = mkR x) := by
            show (inB f m && decide (gOf vs (m : Int).toNat = mkR x)) = _
            rw [e, Bool.true_and, Int.toNat_natCast]
          rw [e2] at h
          exact Fin.i h
        · have e2 : soB f vs (.guess i x) = false := by
            show (inB f i && _) = _
            rw [e, Bool.false_and]
          rw [e2] at h
          exact Fin.i h
      | table l =>
        refine ⟨vs, f.n, rfl, W, ?_⟩
        have e : l.map (fun x => frD (mkR x)) = (l.map mkR).map frD := by rw [List.map_map]; rfl
        refine ⟨okDs_fr 58 _, by show okDs 59 (l.map fun x => frD (mkR x)) = true; rw [e]; exact okDs_fr 58 _, ?_⟩
        show Dl.Fin R (.bl (PyData.eqvAll (toPys ((tabL vs f.n).map frD)) (toPys (l.map fun x => frD (mkR x))))) O
        rw [e, fr_list_eqv]
        exact Fin.i h
      | charge x y =>
        refine ⟨vs, f.n, rfl, W, ?_⟩
        refine ⟨f, tabL vs f.n, ok, rfl, rfl, hb, hs.1, hs.2, ?_⟩
        refine ⟨rfl, rfl, ?_⟩
        show Dl.Fin R (.bl (PyData.eqv (toPy (frD (chargeF f (mkR x) (tabL vs f.n)))) (toPy (frD (mkR y))))) O
        rw [eqv_fr]
        exact Fin.i h
    · exact h.elim
end
end Ri

set_option maxRecDepth 100000
set_option maxHeartbeats 2000000
/-! THE DEFS, 20: judged. -/
namespace Ri
open PySem PySem.Spec PyProof.Rows L2 Dl
theorem flat_cons (v : Lv) (vs : List Lv) : (flat (v :: vs)).map (·.1) = v.2 ++ (flat vs).map (·.1) := by
  show ((v.2.map fun i => (i, v.1)) ++ flat vs).map (·.1) = _
  rw [List.map_append, List.map_map]
  exact congrArg (· ++ _) (List.map_id _)
theorem Steps.perm {f : Fd} {fs : List Lv} {kn : List Nat} (h : Steps f fs kn) : ((flat fs).map (·.1)).Perm kn := by
  induction h with
  | nil => exact .nil
  | cons s hl e ih =>
    rw [flat_cons]
    exact (List.perm_append_comm).trans (ih.append_right _)
theorem Steps.bd {f : Fd} (ok : FdOk f) {fs : List Lv} {kn : List Nat} (h : Steps f fs kn) : ∀ v ∈ fs, BdF 30 v.1 := by
  induction h with
  | nil => intro v hv; simp at hv
  | cons s hl e ih =>
    obtain ⟨l, h1, h2⟩ := next_get ok (s.kn ok) hl
    rw [e] at h2
    cases h2
    intro v hv
    rcases List.mem_cons.mp hv with rfl | hv
    · have h4 := (mem_upLots.mp (mem_cand.mp h1).1).1
      have h5 := Kn.len (f := f) ⟨lt_nodup h4.1, h4.2⟩
      have h7 := ok.n6
      exact mean_bd ok (fun i hi => h4.2 i (mem_restOf.mp hi).1) (rest_ne h1) (Nat.le_trans (List.length_filter_le _ _) (by omega))
    · exact ih v hv
theorem Steps.whole {f : Fd} (ok : FdOk f) {fs : List Lv} {kn : List Nat} (h : Steps f fs kn) (hn : f.n ≤ kn.length) : Whole fs f.n := by
  have hk := h.kn ok
  have hp := h.perm
  have hl := hk.len
  refine ⟨(hp.nodup_iff).mpr hk.nd, fun i => ?_, ?_, by have := ok.n6; omega⟩
  · rw [hp.mem_iff]
    refine ⟨hk.lt i, fun hi => ?_⟩
    by_cases q : i ∈ kn
    · exact q
    · have := sub_len (a := i :: kn) (List.nodup_cons.mpr ⟨q, hk.nd⟩) (b := List.range f.n) fun x hx => by
        rcases List.mem_cons.mp hx with rfl | hx
        · exact List.mem_range.mpr hi
        · exact List.mem_range.mpr (hk.lt x hx)
      rw [List.length_cons, List.length_range] at this
      omega
  · have := hp.length_eq
    rw [List.length_map] at this
    omega
theorem mem_flat {vs : List Lv} {i : Nat} {p : Fr} (h : (i, p) ∈ flat vs) : ∃ v ∈ vs, v.1 = p ∧ i ∈ v.2 := by
  obtain ⟨v, hv, h2⟩ := List.mem_flatMap.mp h
  obtain ⟨j, hj, e⟩ := List.mem_map.mp h2
  cases e
  exact ⟨v, hv, rfl, hj⟩
theorem tab_bd {f : Fd} (ok : FdOk f) {fs : List Lv} {kn : List Nat} (h : Steps f fs kn) (hn : f.n ≤ kn.length) : ∀ p ∈ tabL fs f.n, BdF 30 p := by
  intro p hp
  obtain ⟨i, hi, rfl⟩ := List.mem_map.mp hp
  have W := h.whole ok hn
  obtain ⟨q, hq⟩ := lkp_some ((W.al i).mpr (List.mem_range.mp hi))
  obtain ⟨v, hv, rfl, _⟩ := mem_flat (lkp_mem hq)
  have e : gOf fs i = v.1 := by unfold gOf; rw [hq]; rfl
  rw [e]
  exact h.bd ok v hv
theorem BdF.mono {k l : Nat} {p : Fr} (h : BdF k p) (hk : k ≤ l) : BdF l p := ⟨h.1.mono hk, h.2.mono hk⟩
/-- what each line says -/
def LineOk (p : Str × Say) : Prop := p.1.length ≤ 1000000 ∧ Txt.split p.1 " " = sayW p.2 ∧ sayOk p.2 ∧ soOk p.2
section
variable {w : World} {K : PySem.W.Frag} {mg : Str → Option Value} {base : Heap} {aI aF aL aC cT pT : Addr}
def gJudged (pT : Addr) : GC := fun ds O Q => match ds with
  | [.str x] => ∃ (z : Str) (t : Tm) (l : List (Str × Say)), x.length ≤ 1000000 ∧ Txt.split x "\n" = z :: l.map (·.1) ∧ z.length ≤ 1000000 ∧ Txt.split z " " = tok t ∧ dep t ≤ 4 ∧ nums t ∧ sz t ≤ 20 ∧ okT t = true ∧ (ptl t []).length ≤ 19 ∧ Gd t ∧ (∀ p ∈ l, LineOk p) ∧ l.length ≤ 1000 ∧ O pT = some (.tbl qT) ∧
      ∀ fs kn, Steps (ev t) fs kn → (ev t).n ≤ kn.length → Q (.tup (l.map fun p => .bl (soB (ev t) fs p.2))) O
  | _ => False
def lnD (p : Str × Say) : D := .tup [.str (sayN p.2), .lst (sayD p.2)]
theorem lc_enum {e0 e1 e2 e3 e4 e5 e6 e7 e8 e9 : Option D} {O : DO} {Q : List D → DO → Prop} : ∀ (l : List (Str × Say)) (k : Nat) (acc : List D), (∀ p ∈ l, LineOk p) → Q (acc ++ l.map lnD) O → lcD (gdT 2 (gdCons (gdN 6) (gdCons (gdN 7) gdNil))) tdYes (tdCall gSaying (tdCons (tdV 7) (tdCons (tdV 6) tdNil))) [e0, e1, e2, e3, e4, e5, e6, e7, e8, e9] (enumD k (l.map fun p => D.str p.1)) acc O Q
  | [], k, acc, _, h => by
    rw [List.map_nil, List.append_nil] at h
    exact h
  | p :: l, k, acc, hl, h => by
    obtain ⟨h1, h2, h3, _⟩ := hl p List.mem_cons_self
    refine needB_i rfl ?_
    refine ⟨p.2, h1, h2, h3, ?_⟩
    refine lc_enum l (k + 1) (acc ++ [lnD p]) (fun q hq => hl q (List.mem_cons_of_mem _ hq)) ?_
    rw [List.append_assoc]
    exact h
theorem k_judged (c : Hd w K mg base aI aF aL aC cT pT) : Dl.Def prog w K mg base 12 "judged" ["text"] (gJudged pT) := by
  have k_lines_of := k_lines_of c
  have k_term_in := k_term_in c
  have k_saying_in := k_saying_in c
  have k_field_in := k_field_in c
  have k_levels_in := k_levels_in c
  have k_is_so := k_is_so c
  have S : FnScope ["text", "lines", "term", "sayings", "field", "levels", "row", "line", "word", "some"] ["text"] (defScope s_judged) := C8.fnScope_by (by kernel_rfl)
  have hN := S.nd
  refine def_ok c.f_judged S (fun _ _ _ _ _ _ us hl => match us, hl with | [_], _ => rfl) (fun ds O R h => ?_) fun f cdv A outer s H E hr => ⟨_, have hu := room64 hr; have hu5 := room65 hr; have hu1 := room1 hr; (s_cons (s_set 1 hN (d_call k_lines_of hr (by decide) (a_cons (dv 0) a_nil)))
  (s_cons (s_set 2 hN (d_call k_term_in hr (by decide) (a_cons (d_ix (dv 1) d_int) (a_cons d_int a_nil))))
  (s_cons (s_setLc 3 rfl hN (sw_true rfl rfl rfl rfl) (i_enum1 c.m_enumerate (a_cons (d_sl (dv 1) (p_at d_int) p_no) (a_cons d_int a_nil))) (blkOk_by (own := [("row", 6), ("line", 7)]) (by kernel_rfl)) (fun _ _ _ _ _ => (g_tup (n := 2) rfl (gs_cons (g_name 6 hN) (gs_cons (g_name 7 hN) gs_nil)))) (fun _ _ _ _ _ => ts_nil) (fun _ _ _ _ _ => (d_call k_saying_in hr (by decide) (a_cons (dv 7) (a_cons (dv 6) a_nil)))))
  (s_cons (s_set 4 hN (d_call k_field_in hr (by decide) (a_cons (dv 2) a_nil)))
  (s_cons (s_set 5 hN (d_call k_levels_in hr (by decide) (a_cons (dv 4) a_nil)))
  (s_one (s_ret (d_callTy c_tuple c.m_tuple bt_tuple (a_cons (d_lc rfl hN (i_seq (dv 3)) (blkOk_by (own := [("word", 8), ("some", 9)]) (by kernel_rfl)) (fun _ _ _ _ _ => (g_tup (n := 2) rfl (gs_cons (g_name 8 hN) (gs_cons (g_name 9 hN) gs_nil)))) (fun _ _ _ _ _ => ts_nil) (fun _ _ _ _ _ => (d_call k_is_so hr (by decide) (a_cons (dv 4) (a_cons (dv 5) (a_cons (dv 8) (a_cons (dv 9) a_nil))))))) a_nil))))))))), fun ds O R h => ?_⟩
  · unfold gJudged at h
    split at h <;> first | rfl | exact h.elim
  · unfold gJudged at h
    split at h
    · rename_i x
      obtain ⟨z, t, l, hx, hs, hz, hzs, hd, hn, hsz, hok, hp, hg, hl, hll, hT, h⟩ := h
      refine ⟨hx, ?_⟩
      rw [hs]
      refine ⟨t, hz, hzs, hd, hn, hsz, ?_⟩
      have W : ∀ fs kn, Steps (ev t) fs kn → (ev t).n ≤ kn.length → tdRet (tdCall gTuple (tdCons (tdLc (tiSeq (tdV 3)) (gdT 2 (gdCons (gdN 8) (gdCons (gdN 9) gdNil))) tdYes (tdCall gIsSo (tdCons (tdV 4) (tdCons (tdV 5) (tdCons (tdV 8) (tdCons (tdV 9) tdNil))))) [8, 9]) tdNil)) { nx := fun _ O' => Dl.Fin R .non O', rt := Dl.Fin R } [some (.str x), some (.lst ((z :: l.map (·.1)).map D.str)), some (tmD t), some (.lst (l.map lnD)), some (fdD (ev t)), some (.lst (fs.map lvD)), none, none, none, none] O := by
        intro fs kn hst hnk
        refine lcD_map l lnD (fun p => .bl (soB (ev t) fs p.2)) (fun p hpl K1 k1 => ?_) ?_
        · refine needB_i rfl ?_
          exact ⟨ev t, fs, p.2, hg.ok, rfl, rfl, rfl, rfl, hst.whole hg.ok hnk, fun q hq => (tab_bd hg.ok hst hnk q hq).mono (by decide), (hl p hpl).2.2.2, k1⟩
        · exact Fin.i (h fs kn hst hnk)
      refine (show lcD (gdT 2 (gdCons (gdN 6) (gdCons (gdN 7) gdNil))) tdYes (tdCall gSaying (tdCons (tdV 7) (tdCons (tdV 6) tdNil))) [some (.str x), some (.lst ((z :: l.map (·.1)).map D.str)), some (tmD t), none, none, none, none, none, none, none] (enumD 1 (cutD ((z :: l.map (·.1)).map D.str) (some ((1 : Nat) : Int)) none)) [] O (fun acc O2 => tdSeq (tdAsg (tdCall (gField pT) (tdCons (tdV 2) tdNil)) (gdN 4)) (tdSeq (tdAsg (tdCall gLevels (tdCons (tdV 4) tdNil)) (gdN 5)) (tdRet (tdCall gTuple (tdCons (tdLc (tiSeq (tdV 3)) (gdT 2 (gdCons (gdN 8) (gdCons (gdN 9) gdNil))) tdYes (tdCall gIsSo (tdCons (tdV 4) (tdCons (tdV 5) (tdCons (tdV 8) (tdCons (tdV 9) tdNil))))) [8, 9]) tdNil)))) { nx := fun _ O' => Dl.Fin R .non O', rt := Dl.Fin R } [some (.str x), some (.lst ((z :: l.map (·.1)).map D.str)), some (tmD t), some (.lst acc), none, none, none, none, none, none] O2) from ?_)
      rw [cut_from]
      have e : ((z :: l.map (·.1)).map D.str).drop 1 = l.map fun p => D.str p.1 := by
        show (l.map (·.1)).map D.str = _
        rw [List.map_map]
        rfl
      rw [e]
      refine lc_enum l 1 [] hl ?_
      rw [List.nil_append]
      refine ⟨t, rfl, hok, by omega, hp, hg, hT, ?_⟩
      refine ⟨ev t, hg.ok, rfl, fun fs kn hst hnk => ?_⟩
      exact W fs kn hst hnk
    · exact h.elim
end
end Ri

set_option maxRecDepth 100000
set_option maxHeartbeats 2000000
/-! THE LAW'S DEFS, 1: numbers. -/
namespace Ri
open PySem PySem.Spec PyProof.Rows L2 Dl
def mixV (c k : Int) : Int := (c % 2147483647 * (48271 + 2 * k * k) + 69621 * k + 11) % 2147483647 * 69621 % 2147483629
theorem mixV_bd (c k : Int) : 0 ≤ mixV c k ∧ mixV c k < 2147483629 := ⟨Int.emod_nonneg _ (by decide), Int.emod_lt_of_pos _ (by decide)⟩
section
variable {w : World} {K : PySem.W.Frag} {mg : Str → Option Value} {base : Heap} {aI aF aL aC cT pT : Addr}
theorem smn {i : Int} (h : i.natAbs < 2 ^ 100) : Sm i := sm_of 100 h (by decide) (by decide)
def gMixed : GC := fun ds O Q => match ds with
  | [.int c, .int k] => (0 ≤ k ∧ k < 1000000000) ∧ Q (.int (mixV c k)) O
  | _ => False
theorem k_law_mixed (c : Hd w K mg base aI aF aL aC cT pT) : Dl.Def prog w K mg base 1 "_law_mixed" ["_law_cell", "_law_k"] gMixed := by
  have S : FnScope ["_law_cell", "_law_k"] ["_law_cell", "_law_k"] (defScope s_law_mixed) := C8.fnScope_by (by kernel_rfl)
  have hN := S.nd
  refine def_ok c.f_law_mixed S (fun _ _ _ _ _ _ us hl => match us, hl with | [_, _], _ => rfl) (fun ds O R h => ?_) fun f cdv A outer s H E hr => ⟨_, have hu := room64 hr; have hu5 := room65 hr; have hu1 := room1 hr; (s_cons (s_set 0 hN (d_op o_mod (d_callTy c_int c.m_int bt_int (a_cons (dv 0) a_nil)) d_int))
  (s_one (s_ret (d_op o_mod (d_op o_mul (d_op o_mod (d_op o_add (d_op o_add (d_op o_mul (dv 0) (d_op o_add d_int (d_op o_mul (d_op o_mul d_int (dv 1)) (dv 1)))) (d_op o_mul d_int (dv 1))) d_int) d_int) d_int) d_int)))), fun ds O R h => ?_⟩
  · unfold gMixed at h
    split at h <;> first | rfl | exact h.elim
  · unfold gMixed at h
    split at h
    · rename_i c k
      obtain ⟨⟨h0, h1⟩, h⟩ := h
      have e1 := Int.emod_nonneg c (show (2147483647 : Int) ≠ 0 by decide)
      have e2 := Int.emod_lt_of_pos c (show (0 : Int) < 2147483647 by decide)
      have hk : 0 ≤ 2 * k * k ∧ 2 * k * k ≤ 2000000000 * 1000000000 := ⟨Int.mul_nonneg (by omega) h0, Int.mul_le_mul (by omega) (by omega) h0 (by decide)⟩
      refine ⟨(by decide : (0 : Int) < 2147483647), ?_⟩
      refine ⟨sm_mul (smn (by omega)) (smn (by omega)), ?_⟩
      refine ⟨sm_mul (smn (by omega)) (smn (by omega)), ?_⟩
      refine ⟨(show CMulW (c % 2147483647) (48271 + 2 * k * k) from sm_mul (smn (by omega)) (smn (by omega))), ?_⟩
      refine ⟨sm_mul (smn (by omega)) (smn (by omega)), ?_⟩
      refine ⟨(by decide : (0 : Int) < 2147483647), ?_⟩
      have e3 := Int.emod_nonneg (c % 2147483647 * (48271 + 2 * k * k) + 69621 * k + 11) (show (2147483647 : Int) ≠ 0 by decide)
      have e4 := Int.emod_lt_of_pos (c % 2147483647 * (48271 + 2 * k * k) + 69621 * k + 11) (show (0 : Int) < 2147483647 by decide)
      refine ⟨(show CMulW ((c % 2147483647 * (48271 + 2 * k * k) + 69621 * k + 11) % 2147483647) 69621 from sm_mul (smn (by omega)) (smn (by omega))), ?_⟩
      refine ⟨(by decide : (0 : Int) < 2147483629), ?_⟩
      exact Fin.i h
    · exact h.elim
def gRatio : GC := fun ds O Q => match ds with
  | [.int t, .int b] => (0 < b ∧ Sm b) ∧ Q (frD (mk t b)) O
  | _ => False
theorem k_law_ratio (c : Hd w K mg base aI aF aL aC cT pT) : Dl.Def prog w K mg base 1 "_law_ratio" ["_law_top", "_law_bottom"] gRatio := by
  have S : FnScope ["_law_top", "_law_bottom", "_law_one", "_law_other"] ["_law_top", "_law_bottom"] (defScope s_law_ratio) := C8.fnScope_by (by kernel_rfl)
  have hN := S.nd
  refine def_ok c.f_law_ratio S (fun _ _ _ _ _ _ us hl => match us, hl with | [_, _], _ => rfl) (fun ds O R h => ?_) fun f cdv A outer s H E hr => ⟨_, have hu := room64 hr; have hu5 := room65 hr; have hu1 := room1 hr; (s_cons (s_par2 2 3 rfl hN (a_cons (d_callB c_abs c.m_abs bt_abs (a_cons (dv 0) a_nil)) (a_cons (dv 1) a_nil)))
  (s_cons (s_while PassesOwn.never (t_cmp (o_ne hu) (dv 3) d_int) (s_one (s_par2 2 3 rfl hN (a_cons (dv 3) (a_cons (d_op o_mod (d_callTy c_int c.m_int bt_int (a_cons (dv 2) a_nil)) (dv 3)) a_nil)))))
  (s_one (s_ret (d_tup (a_cons (d_op o_fdiv (dv 0) (dv 2)) (a_cons (d_op o_fdiv (dv 1) (dv 2)) a_nil))))))), fun ds O R h => ?_⟩
  · unfold gRatio at h
    split at h <;> first | rfl | exact h.elim
  · unfold gRatio at h
    split at h
    · rename_i t b
      obtain ⟨⟨h0, hs⟩, h⟩ := h
      refine while_ind (fun m env O' => ∃ x y : Nat, y ≤ m ∧ Nat.gcd x y = Int.gcd t b ∧ env = [some (D.int t), some (D.int b), some (D.int x), some (D.int y)] ∧ O' = O) (fun m env O' N h1 k => ?_) (m := b.natAbs) ⟨t.natAbs, b.natAbs, Nat.le_refl _, rfl, ?_, rfl⟩
      · obtain ⟨x, y, hy, hg, rfl, rfl⟩ := h1
        refine iteB_i (c := !decide ((y : Int) = 0)) (fun e => ?_) (fun e => ?_)
        · have e : ¬ (y : Int) = 0 := by simpa using e
          refine ⟨by omega, ?_⟩
          have hlt : x % y < y := Nat.mod_lt _ (by omega)
          refine k (x % y) _ _ (by omega) ⟨y, x % y, Nat.le_refl _, ?_, ?_, rfl⟩
          · rw [Nat.gcd_comm, ← hg, Nat.gcd_comm x y]
            exact (Nat.gcd_rec y x).symm
          · have e2 : (x : Int) % (y : Int) = ((x % y : Nat) : Int) := by omega
            rw [← e2]
            rfl
        · obtain rfl : y = 0 := by
            have : (y : Int) = 0 := by simpa using e
            omega
          rw [Nat.gcd_zero_right] at hg
          subst hg
          have g := gcd_pos (t := t) (show b ≠ 0 by omega)
          refine ⟨sm_div g (gcd_sm (by omega) hs), sm_div g (gcd_sm (by omega) hs), Fin.i ?_⟩
          have e2 : mk t b = (t / (Int.gcd t b : Int), b / (Int.gcd t b : Int)) := if_neg (by omega)
          rw [e2] at h
          exact h
      · show [some (D.int t), some (D.int b), some (D.int (if t < 0 then -t else t)), some (D.int b)] = _
        rw [absI]
        have : ((b.natAbs : Nat) : Int) = b := by omega
        rw [this]
    · exact h.elim
end
end Ri

set_option maxRecDepth 100000
set_option maxHeartbeats 2000000
/-! THE LAW'S DEFS, 2: the draws. -/
namespace Ri
open PySem PySem.Spec PyProof.Rows L2 Dl
structure St where
  cells : List Int
  lefts : List Int
  at_ : Nat
def stKV (q : Addr) (s : St) : KVs := [(.inr "cells", .lst (s.cells.map .int)), (.inr "lefts", .ptr q), (.inr "at", .int (s.at_ : Int)), (.inr "room", .int 0)]
def setS (O : DO) (p q : Addr) (s : St) : DO := updO (updO O q (.lst (s.lefts.map .int))) p (.dK (stKV q s))
/-- so many draws are left -/
structure StN (n : Nat) (s : St) : Prop where
  ne : s.cells ≠ []
  len : s.lefts.length = s.cells.length
  at_ : s.at_ + n ≤ 500000000
theorem StN.mono {n m : Nat} {s : St} (h : StN n s) (k : m ≤ n) : StN m s := ⟨h.ne, h.len, by have := h.at_; omega⟩
def plS (s : St) : Nat := s.at_ % s.cells.length
def cellS (s : St) : Int := s.cells.getD (plS s) 0
def leftS (s : St) : Int := s.lefts.getD (plS s) 0
def numS (s : St) : Int := mixV (mixV (cellS s) s.at_) (40 + s.at_)
def drawV (s : St) (m : Int) : Int := if 0 < leftS s then leftS s % m else (numS s * 2147483647 + mixV (numS s) (7 + s.at_)) / 64 % m
def drawS (s : St) (m : Int) : St := ⟨s.cells, if 0 < leftS s then s.lefts.set (plS s) (leftS s / m) else s.lefts, s.at_ + 1⟩
theorem drawV_bd {s : St} {m : Int} (h : 0 < m) : 0 ≤ drawV s m ∧ drawV s m < m := by
  unfold drawV
  split
  · exact ⟨Int.emod_nonneg _ (by omega), Int.emod_lt_of_pos _ h⟩
  · exact ⟨Int.emod_nonneg _ (by omega), Int.emod_lt_of_pos _ h⟩
theorem drawS_n {n : Nat} {s : St} {m : Int} (h : StN (n + 1) s) : StN n (drawS s m) := by
  refine ⟨h.ne, ?_, ?_⟩
  · show (if 0 < leftS s then s.lefts.set (plS s) (leftS s / m) else s.lefts).length = s.cells.length
    split
    · rw [List.length_set]
      exact h.len
    · exact h.len
  · have := h.at_
    show s.at_ + 1 + n ≤ _
    omega
def beginS (xs : List Int) : St := ⟨if xs = [] then [0] else xs, (if xs = [] then [0] else xs).map fun c => if 10 ^ 18 ≤ c then c else 0, 0⟩
theorem beginS_n (xs : List Int) : StN 500000000 (beginS xs) := by
  refine ⟨?_, List.length_map _, Nat.le_of_eq (Nat.zero_add _)⟩
  show (if xs = [] then [0] else xs) ≠ []
  split
  · exact List.cons_ne_nil _ _
  · assumption
section
variable {O : DO} {p q : Addr} {s s' : St}
theorem setS_p : setS O p q s p = some (.dK (stKV q s)) := updO_same
theorem setS_q (h : p ≠ q) : setS O p q s q = some (.lst (s.lefts.map .int)) := by
  unfold setS
  rw [updO_ne (Ne.symm h), updO_same]
theorem upd3 {c0 c1 c2 : Cell} : updO (updO (updO O p c0) q c1) p c2 = updO (updO O q c1) p c2 := by
  funext b
  by_cases e : b = p
  · rw [e, updO_same, updO_same]
  · rw [updO_ne e, updO_ne e]
    by_cases e2 : b = q
    · rw [e2, updO_same, updO_same]
    · rw [updO_ne e2, updO_ne e2, updO_ne e]
theorem setS_put : updO (setS O p q s) p (.dK (stKV q ⟨s.cells, s.lefts, s.at_ + 1⟩)) = setS O p q ⟨s.cells, s.lefts, s.at_ + 1⟩ := updO_updO
theorem setS_left (h : p ≠ q) (ls : List Int) : updO (setS O p q s) q (.lst (ls.map .int)) = setS O p q ⟨s.cells, ls, s.at_⟩ := by
  unfold setS
  funext b
  by_cases e : b = q
  · rw [e, updO_same, updO_ne (Ne.symm h), updO_same]
  · rw [updO_ne e]
    by_cases e2 : b = p
    · rw [e2, updO_same, updO_same]
      rfl
    · rw [updO_ne e2, updO_ne e2, updO_ne e, updO_ne e]
theorem setS_own {r : Addr} {c : Cell} (h1 : r ≠ p) (h2 : r ≠ q) : updO (setS O p q s) r c = setS (updO O r c) p q s := by
  unfold setS
  funext b
  by_cases e : b = r
  · subst e
    rw [updO_same, updO_ne h1, updO_ne h2, updO_same]
  · rw [updO_ne e]
    by_cases e2 : b = p
    · rw [e2, updO_same, updO_same]
    · rw [updO_ne e2, updO_ne e2]
      by_cases e3 : b = q
      · rw [e3, updO_same, updO_same]
      · rw [updO_ne e3, updO_ne e3, updO_ne e]
end
section
variable {i j : Nat} {env : DEnv} {O : DO} {p : Addr} {kvs : KVs} {d v : D} {z : Key} {Q : D → DO → Prop} {te ty : TD} {DE : DEnds}
theorem dgetC_v (hi : lk env i = some (.ptr p)) (hp : O p = some (.dK kvs)) (hd : keyD d = some z) (hv : lookK kvs z = some v) (h : Q v O) : tdDGet (tdV i) (tdC d) env O Q := by
  unfold tdDGet tdV tdC
  simp only [hi]
  unfold getDD
  simp only [hp, hd, hv]
  exact h
theorem dputC_v (he : ∀ Q : D → DO → Prop, Q v O → te env O Q) (hi : lk env i = some (.ptr p)) (hp : O p = some (.dK kvs)) (hd : keyD d = some z) (hl : kvs.length < 16777216) (h : DE.nx env (updO O p (.dK (putKD kvs z v)))) : tdDPut te (tdV i) (tdC d) DE env O := by
  unfold tdDPut
  refine he _ ?_
  unfold tdC tdV
  simp only [hi, hp, hd]
  exact needB_i (Nat.ble_eq_true_of_le hl) h
theorem setLd_v {q : Addr} {n : Nat} {xs : List D} (he : ∀ Q : D → DO → Prop, Q v O → te env O Q) (ho : ∀ Q : D → DO → Prop, Q (.ptr q) O → ty env O Q) (hj : lk env j = some (.int (n : Int))) (hq : O q = some (.lst xs)) (hn : n < xs.length) (h : DE.nx env (updO O q (.lst (xs.set n v)))) : tdSetL te ty (tdV j) DE env O := by
  unfold tdSetL
  refine he _ (ho _ ?_)
  unfold tdV
  rw [hj]
  show (match O q with
    | some (.lst xs) => n < xs.length ∧ DE.nx env (updO O q (.lst (xs.set n v)))
    | _ => False)
  rw [hq]
  exact ⟨hn, h⟩
theorem nil_v {Q : List D → DO → Prop} (h : Q [] O) : tdNil env O Q := h
theorem len_lst {xs : List D} (h : Q (.int (xs.length : Int)) O) : gLen [.lst xs] O Q := h
theorem mod_i {i j : Int} {k : D → Prop} (h0 : 0 < j) (h : k (.int (i % j))) : gMod O (.int i) (.int j) k := ⟨h0, h⟩
theorem gIx_ptr {q : Addr} {xs : List D} {n : Nat} {k : D → Prop} (hq : O q = some (.lst xs)) (hn : xs[n]? = some d) (h : k d) : gIx O (.ptr q) (.int (n : Int)) k := by
  show ixDD (deref O (.ptr q)) (.int (n : Int)) k
  rw [deref_ptr hq]
  exact ix_lst (O := O) hn h
end
theorem get_map_int {l : List Int} {n : Nat} (h : n < l.length) : (l.map D.int)[n]? = some (.int (l.getD n 0)) := by
  rw [List.getElem?_map, List.getD_eq_getElem?_getD, List.getElem?_eq_getElem h]
  rfl
section
variable {w : World} {K : PySem.W.Frag} {mg : Str → Option Value} {base : Heap} {aI aF aL aC cT pT : Addr}
def gBegin : GC := fun ds O Q => match ds with
  | [.xls ds] => ∃ xs : List Int, ds = xs.map .int ∧ ∀ p q, p ≠ q → O p = none → O q = none → Q (.ptr p) (setS O p q (beginS xs))
  | _ => False
theorem eqv_nilL (xs : List D) : PyData.eqv (.list (toPys xs)) (.list (toPys [])) = xs.isEmpty := eqv_nil xs
theorem k_law_begin (c : Hd w K mg base aI aF aL aC cT pT) : Dl.Def prog w K mg base 1 "_law_begin" ["_law_script"] gBegin := by
  have S : FnScope ["_law_script", "_law_cells", "_law_cell"] ["_law_script"] (defScope s_law_begin) := C8.fnScope_by (by kernel_rfl)
  have hN := S.nd
  refine def_ok c.f_law_begin S (fun _ _ _ _ _ _ us hl => match us, hl with | [_], _ => rfl) (fun ds O R h => ?_) fun f cdv A outer s H E hr => ⟨_, have hu := room64 hr; have hu5 := room65 hr; have hu1 := room1 hr; (s_cons (s_set 1 hN (d_if (t_cmp (o_ne hu) (dv 0) (d_lst a_nil)) (d_callTy c_list c.m_list bt_list (a_cons (dv 0) a_nil)) (d_lst (a_cons d_int a_nil))))
  (s_one (s_ret (d_disp (pp_cons d_str (dv 1) (pp_cons d_str (d_lcO rfl hN (i_seq (dv 1)) (blkOk_by (own := [("_law_cell", 2)]) (by kernel_rfl)) (fun _ _ _ _ _ => (g_name 2 hN)) (fun _ _ _ _ _ => ts_nil) (fun _ _ _ _ _ => (d_if (t_cmp o_ge (dv 2) (d_op o_pow d_int d_int)) (dv 2) d_int))) (pp_cons d_str d_int (pp_cons d_str d_int pp_nil)))))))), fun ds O R h => ?_⟩
  · unfold gBegin at h
    split at h <;> first | rfl | exact h.elim
  · unfold gBegin at h
    split at h
    · obtain ⟨xs, rfl, h⟩ := h
      have W : ∀ x1, x1 = (if xs = [] then [0] else xs) → tdRet (tdDisp (tpCons (tdC (.str "cells")) (tdV 1) (tpCons (tdC (.str "lefts")) (tdLcO (tiSeq (tdV 1)) (gdN 2) tdYes (tdIf (tdT (tdOp gGe (tdV 2) (tdOp gPow (tdC (.int 10)) (tdC (.int 18))))) (tdV 2) (tdC (.int 0))) [2]) (tpCons (tdC (.str "at")) (tdC (.int 0)) (tpCons (tdC (.str "room")) (tdC (.int 0)) tpNil))))) { nx := fun _ O' => Dl.Fin R .non O', rt := Dl.Fin R } [some (.xls (xs.map .int)), some (.lst (x1.map .int)), none] O := by
        intro x1 hx p hp
        refine lcD_map x1 D.int (fun c => .int (if 10 ^ 18 ≤ c then c else 0)) (fun c hc K1 k => ?_) ?_
        · refine ⟨⟨by decide, by decide, by decide⟩, ?_⟩
          refine iteB_i (c := decide ((10 : Int) ^ 18 ≤ c)) (fun e => ?_) (fun e => ?_)
          · rw [if_pos (of_decide_eq_true e)] at k
            exact k
          · rw [if_neg (of_decide_eq_false e)] at k
            exact k
        · intro q hq
          have ne : q ≠ p := fun e => by rw [e, updO_same] at hq; cases hq
          rw [updO_ne ne] at hq
          refine ⟨by rw [updO_ne (Ne.symm ne)]; exact updO_same, needB_i rfl (Fin.i ?_)⟩
          have z := h p q (Ne.symm ne) hp hq
          have e : ∀ kv, updO (updO (updO O p (.dK [])) q (.lst (x1.map fun c => D.int (if 10 ^ 18 ≤ c then c else 0)))) p (.dK kv) = updO (updO O q (.lst ((x1.map fun c => if 10 ^ 18 ≤ c then c else 0).map .int))) p (.dK kv) := by
            intro kv
            rw [upd3, List.map_map]
            rfl
          rw [e]
          unfold setS beginS at z
          rw [← hx] at z
          exact z
      refine (show gNe O (.xls (xs.map .int)) (.lst []) (fun d => match d with
        | .bl b => (fun b O1 => iteB b (gList [.xls (xs.map .int)] O1 fun d1 O2 => tdRet (tdDisp (tpCons (tdC (.str "cells")) (tdV 1) (tpCons (tdC (.str "lefts")) (tdLcO (tiSeq (tdV 1)) (gdN 2) tdYes (tdIf (tdT (tdOp gGe (tdV 2) (tdOp gPow (tdC (.int 10)) (tdC (.int 18))))) (tdV 2) (tdC (.int 0))) [2]) (tpCons (tdC (.str "at")) (tdC (.int 0)) (tpCons (tdC (.str "room")) (tdC (.int 0)) tpNil))))) { nx := fun _ O' => Dl.Fin R .non O', rt := Dl.Fin R } [some (.xls (xs.map .int)), some d1, none] O2) (needB (szB 1) (tdRet (tdDisp (tpCons (tdC (.str "cells")) (tdV 1) (tpCons (tdC (.str "lefts")) (tdLcO (tiSeq (tdV 1)) (gdN 2) tdYes (tdIf (tdT (tdOp gGe (tdV 2) (tdOp gPow (tdC (.int 10)) (tdC (.int 18))))) (tdV 2) (tdC (.int 0))) [2]) (tpCons (tdC (.str "at")) (tdC (.int 0)) (tpCons (tdC (.str "room")) (tdC (.int 0)) tpNil))))) { nx := fun _ O' => Dl.Fin R .non O', rt := Dl.Fin R } [some (.xls (xs.map .int)), some (.lst [.int 0]), none] O1))) b O
        | _ => False) from ?_)
      refine ⟨okDs_ints xs, rfl, ?_⟩
      show iteB (!PyData.eqv (.list (toPys (xs.map .int))) (.list (toPys []))) _ _
      rw [eqv_nil]
      cases xs with
      | nil => exact needB_i rfl (W [0] rfl)
      | cons a r => exact W (a :: r) rfl
    · exact h.elim
def gDraw : GC := fun ds O Q => match ds with
  | [.ptr p, .int m] => ∃ O0 q s, p ≠ q ∧ O = setS O0 p q s ∧ StN 1 s ∧ 0 < m ∧ Sm m ∧ Q (.int (drawV s m)) (setS O0 p q (drawS s m))
  | _ => False
theorem k_law_draw (c : Hd w K mg base aI aF aL aC cT pT) : Dl.Def prog w K mg base 2 "_law_draw" ["_law_state", "_law_many"] gDraw := by
  have k_law_mixed := k_law_mixed c
  have S : FnScope ["_law_state", "_law_many", "_law_at", "_law_place", "_law_left", "_law_number_here"] ["_law_state", "_law_many"] (defScope s_law_draw) := C8.fnScope_by (by kernel_rfl)
  have hN := S.nd
  refine def_ok c.f_law_draw S (fun _ _ _ _ _ _ us hl => match us, hl with | [_, _], _ => rfl) (fun ds O R h => ?_) fun f cdv A outer s H E hr => ⟨_, have hu := room64 hr; have hu5 := room65 hr; have hu1 := room1 hr; (s_cons (s_set 2 hN (d_dget hu1 (dv 0) d_str))
  (s_cons (s_dput hu1 (d_op o_add (dv 2) d_int) (dv 0) d_str)
  (s_cons (s_set 3 hN (d_op o_mod (d_callTy c_int c.m_int bt_int (a_cons (dv 2) a_nil)) (d_callB c_len c.m_len bt_len (a_cons (d_dget hu1 (dv 0) d_str) a_nil))))
  (s_cons (s_set 4 hN (d_ix (d_dget hu1 (dv 0) d_str) (dv 3)))
  (s_cons (s_if (t_cmp o_gt (dv 4) d_int)
  (s_cons (s_setL (d_op o_fdiv (dv 4) (dv 1)) (d_dget hu1 (dv 0) d_str) (dv 3))
  (s_one (s_ret (d_op o_mod (d_callTy c_int c.m_int bt_int (a_cons (dv 4) a_nil)) (dv 1)))))
  s_nil)
  (s_cons (s_set 5 hN (d_call k_law_mixed hr (by decide) (a_cons (d_call k_law_mixed hr (by decide) (a_cons (d_ix (d_dget hu1 (dv 0) d_str) (dv 3)) (a_cons (dv 2) a_nil))) (a_cons (d_op o_add d_int (dv 2)) a_nil))))
  (s_one (s_ret (d_op o_mod (d_op o_fdiv (d_callTy c_int c.m_int bt_int (a_cons (d_op o_add (d_op o_mul (dv 5) d_int) (d_call k_law_mixed hr (by decide) (a_cons (dv 5) (a_cons (d_op o_add d_int (dv 2)) a_nil)))) a_nil)) d_int) (dv 1)))))))))), fun ds O R h => ?_⟩
  · unfold gDraw at h
    split at h <;> first | rfl | exact h.elim
  · unfold gDraw at h
    split at h
    · rename_i p m
      obtain ⟨O0, q, s, ne, rfl, hs, hm, hsm, h⟩ := h
      have hlen : 0 < s.cells.length := List.length_pos_iff.mpr hs.ne
      have hpl : plS s < s.cells.length := Nat.mod_lt _ hlen
      have hat := hs.at_
      dsimp only [tdSeq, tdAsg]
      refine dgetC_v (i := 0) rfl setS_p rfl (v := .int (s.at_ : Int)) rfl ?_
      dsimp only [gdN]
      refine dputC_v (i := 0) (v := .int ((s.at_ : Int) + 1)) (fun Q h => h) rfl setS_p rfl (by decide : 4 < 16777216) ?_
      have e1 : updO (setS O0 p q s) p (.dK (putKD (stKV q s) (Sum.inr "at") (.int ((s.at_ : Int) + 1)))) = setS O0 p q ⟨s.cells, s.lefts, s.at_ + 1⟩ := updO_updO
      rw [e1]
      dsimp only
      refine op_l (call1_v (i := 2) rfl ?_)
      refine (show tdCall gLen (tdCons (tdDGet (tdV 0) (tdC (.str "cells"))) tdNil) _ _ _ from ?_)
      refine call_v (cons_v (dgetC_v (i := 0) rfl setS_p rfl (v := .lst (s.cells.map .int)) rfl ?_))
      refine nil_v (len_lst ?_)
      rw [List.length_map]
      refine mod_i (by omega) ?_
      have e2 : (s.at_ : Int) % (s.cells.length : Int) = ((plS s : Nat) : Int) := rfl
      rw [e2]
      dsimp only [gdN, tdSeq, tdAsg]
      refine op_l (dgetC_v (i := 0) rfl setS_p rfl (v := .ptr q) rfl ?_)
      refine v_i (i := 3) rfl ?_
      refine gIx_ptr (setS_q ne) (get_map_int (by rw [hs.len]; exact hpl)) ?_
      refine iteB_i (c := decide (0 < leftS s)) (fun e => ?_) (fun e => ?_)
      · have e := of_decide_eq_true e
        have hv : drawV s m = leftS s % m := if_pos e
        have hd : drawS s m = ⟨s.cells, s.lefts.set (plS s) (leftS s / m), s.at_ + 1⟩ := by
          unfold drawS
          rw [if_pos e]
        rw [hv, hd] at h
        dsimp only [tdSeq]
        refine setLd_v (j := 3) (q := q) (v := .int (leftS s / m)) (xs := s.lefts.map .int) (fun Q h => ⟨sm_div hm hsm, h⟩) (fun Q h => dgetC_v (i := 0) rfl setS_p rfl rfl h) rfl (setS_q ne) (by rw [List.length_map, hs.len]; exact hpl) ?_
        have e3 : (s.lefts.map D.int).set (plS s) (.int (leftS s / m)) = (s.lefts.set (plS s) (leftS s / m)).map .int := by rw [List.map_set]
        rw [e3, setS_left ne]
        exact ⟨hm, Fin.i h⟩
      · have e := of_decide_eq_false e
        have hv : drawV s m = (numS s * 2147483647 + mixV (numS s) (7 + s.at_)) / 64 % m := if_neg e
        have hd : drawS s m = ⟨s.cells, s.lefts, s.at_ + 1⟩ := by
          unfold drawS
          rw [if_neg e]
        rw [hv, hd] at h
        dsimp only [tdNx, tdSeq, tdAsg]
        refine call_v (cons_v (call_v (cons_v (op_l (dgetC_v (i := 0) rfl setS_p rfl (v := .lst (s.cells.map .int)) rfl ?_)))))
        refine v_i (i := 3) rfl ?_
        refine ix_lst (get_map_int hpl) ?_
        refine ⟨by omega, ?_⟩
        refine ⟨by omega, ?_⟩
        have b1 := mixV_bd (mixV (cellS s) s.at_) (40 + s.at_)
        refine ⟨(show CMulW (numS s) 2147483647 from sm_mul (smn (by show (numS s).natAbs < _; unfold numS; omega)) (smn (by omega))), ?_⟩
        refine ⟨by omega, ?_⟩
        refine ⟨sm_div (by omega) (smn (by omega)), ?_⟩
        exact ⟨hm, Fin.i h⟩
    · exact h.elim
end
end Ri

set_option maxRecDepth 100000
set_option maxHeartbeats 2000000
/-! PLAIN, 1: fractions; sums over lots; the levels are the greatest of the least means. -/
namespace Ri
open PySem PySem.Spec PyProof.Rows L2 Dl
/-! ### fractions -/
structure Red (p : Fr) : Prop where
  pos : 0 < p.2
  one : Int.gcd p.1 p.2 = 1
theorem red_eq {p q : Fr} (hp : Red p) (hq : Red q) (h : p.1 * q.2 = q.1 * p.2) : p = q := by
  obtain ⟨a, b⟩ := p
  obtain ⟨c, d⟩ := q
  obtain ⟨hb, g1⟩ := hp
  obtain ⟨hd, g2⟩ := hq
  simp only at hb g1 hd g2 h
  have e : a.natAbs * d.natAbs = c.natAbs * b.natAbs := by rw [← Int.natAbs_mul, ← Int.natAbs_mul, h]
  have c1 : Nat.Coprime b.natAbs a.natAbs := by
    rw [Nat.Coprime, Nat.gcd_comm]
    exact g1
  have c2 : Nat.Coprime d.natAbs c.natAbs := by
    rw [Nat.Coprime, Nat.gcd_comm]
    exact g2
  have d1 : b.natAbs ∣ d.natAbs := c1.dvd_of_dvd_mul_left ⟨c.natAbs, by rw [e, Nat.mul_comm]⟩
  have d2 : d.natAbs ∣ b.natAbs := c2.dvd_of_dvd_mul_left ⟨a.natAbs, by rw [← e, Nat.mul_comm]⟩
  have e2 := Nat.dvd_antisymm d1 d2
  have e3 : b = d := by omega
  subst e3
  have e4 : a = c := Int.eq_of_mul_eq_mul_right (by omega) h
  rw [e4]
theorem mk_pos {t b : Int} (hb : 0 < b) : mk t b = (t / (Int.gcd t b : Int), b / (Int.gcd t b : Int)) := if_neg (by omega)
theorem gcd_dvd1 (t b : Int) : t / (Int.gcd t b : Int) * (Int.gcd t b : Int) = t := Int.ediv_mul_cancel (Int.gcd_dvd_left ..)
theorem gcd_dvd2 (t b : Int) : b / (Int.gcd t b : Int) * (Int.gcd t b : Int) = b := Int.ediv_mul_cancel (Int.gcd_dvd_right ..)
theorem mk_red {t b : Int} (hb : 0 < b) : Red (mk t b) := by
  have g := gcd_pos (t := t) (show b ≠ 0 by omega)
  rw [mk_pos hb]
  have e1 := gcd_dvd1 t b
  have e2 := gcd_dvd2 t b
  constructor
  · show 0 < b / (Int.gcd t b : Int)
    by_cases z : 0 < b / (Int.gcd t b : Int)
    · exact z
    · have : b / (Int.gcd t b : Int) * (Int.gcd t b : Int) ≤ 0 * (Int.gcd t b : Int) := Int.mul_le_mul_of_nonneg_right (by omega) (by omega)
      omega
  · show Int.gcd (t / (Int.gcd t b : Int)) (b / (Int.gcd t b : Int)) = 1
    have h1 : Int.gcd (t / (Int.gcd t b : Int) * (Int.gcd t b : Int)) (b / (Int.gcd t b : Int) * (Int.gcd t b : Int)) = Int.gcd t b := by rw [e1, e2]
    rw [Int.gcd_mul_right] at h1
    have h2 : ((Int.gcd t b : Nat) : Int).natAbs = Int.gcd t b := rfl
    rw [h2] at h1
    have h3 : 0 < Int.gcd t b := by omega
    exact Nat.eq_of_mul_eq_mul_right h3 (by rw [h1, Nat.one_mul])
theorem mk_val {t b : Int} (hb : 0 < b) : (mk t b).1 * b = t * (mk t b).2 := by
  have g := gcd_pos (t := t) (show b ≠ 0 by omega)
  rw [mk_pos hb]
  show t / (Int.gcd t b : Int) * b = t * (b / (Int.gcd t b : Int))
  have e1 := gcd_dvd1 t b
  have e2 := gcd_dvd2 t b
  generalize t / (Int.gcd t b : Int) = x at *
  generalize b / (Int.gcd t b : Int) = y at *
  generalize (Int.gcd t b : Int) = k at *
  subst e1 e2
  rw [Int.mul_assoc, Int.mul_comm k y]
theorem mk_eq {t b s d : Int} (hb : 0 < b) (hd : 0 < d) (h : t * d = s * b) : mk t b = mk s d := by
  refine red_eq (mk_red hb) (mk_red hd) ?_
  have v1 := mk_val (t := t) hb
  have v2 := mk_val (t := s) hd
  have p1 := (mk_red (t := t) hb).pos
  have p2 := (mk_red (t := s) hd).pos
  generalize (mk t b).1 = x at *
  generalize (mk t b).2 = y at *
  generalize (mk s d).1 = z at *
  generalize (mk s d).2 = w at *
  -- x b = t y, z d = s w, t d = s b; x w = z y
  have e : x * w * (b * d) = z * y * (b * d) := by
    have l : x * w * (b * d) = (x * b) * (w * d) := by
      simp only [Int.mul_assoc, Int.mul_left_comm, Int.mul_comm]
    have r : z * y * (b * d) = (z * d) * (y * b) := by
      simp only [Int.mul_assoc, Int.mul_left_comm, Int.mul_comm]
    rw [l, r, v1, v2]
    have l2 : t * y * (w * d) = (t * d) * (y * w) := by
      simp only [Int.mul_assoc, Int.mul_left_comm, Int.mul_comm]
    have r2 : s * w * (y * b) = (s * b) * (y * w) := by
      simp only [Int.mul_assoc, Int.mul_left_comm, Int.mul_comm]
    rw [l2, r2, h]
  exact Int.eq_of_mul_eq_mul_right (Int.ne_of_gt (Int.mul_pos hb hd)) e
theorem mk_id {p : Fr} (h : Red p) : mk p.1 p.2 = p := red_eq (mk_red h.pos) h (mk_val h.pos)
theorem under_iff {p q : Fr} : under p q = true ↔ p.1 * q.2 < q.1 * p.2 := by
  unfold under
  exact decide_eq_true_iff
theorem under_no {p q : Fr} : under p q = false ↔ q.1 * p.2 ≤ p.1 * q.2 := by
  unfold under
  rw [decide_eq_false_iff_not]
  omega
/-- p at most q, as values -/
theorem le_trans3 {a b c : Fr} (ha : 0 < a.2) (hb : 0 < b.2) (hc : 0 < c.2) (h1 : a.1 * b.2 ≤ b.1 * a.2) (h2 : b.1 * c.2 ≤ c.1 * b.2) : a.1 * c.2 ≤ c.1 * a.2 := by
  have x1 : a.1 * b.2 * c.2 ≤ b.1 * a.2 * c.2 := Int.mul_le_mul_of_nonneg_right h1 (by omega)
  have x2 : b.1 * c.2 * a.2 ≤ c.1 * b.2 * a.2 := Int.mul_le_mul_of_nonneg_right h2 (by omega)
  have x3 : a.1 * c.2 * b.2 ≤ c.1 * a.2 * b.2 := by
    have e1 : a.1 * c.2 * b.2 = a.1 * b.2 * c.2 := Int.mul_right_comm ..
    have e2 : b.1 * a.2 * c.2 = b.1 * c.2 * a.2 := Int.mul_right_comm ..
    have e3 : c.1 * a.2 * b.2 = c.1 * b.2 * a.2 := Int.mul_right_comm ..
    omega
  exact Int.le_of_mul_le_mul_right x3 hb
theorem lt_trans3 {a b c : Fr} (ha : 0 < a.2) (hb : 0 < b.2) (hc : 0 < c.2) (h1 : a.1 * b.2 ≤ b.1 * a.2) (h2 : b.1 * c.2 < c.1 * b.2) : a.1 * c.2 < c.1 * a.2 := by
  have x1 : a.1 * b.2 * c.2 ≤ b.1 * a.2 * c.2 := Int.mul_le_mul_of_nonneg_right h1 (by omega)
  have x2 : b.1 * c.2 * a.2 < c.1 * b.2 * a.2 := Int.mul_lt_mul_of_pos_right h2 ha
  have x3 : a.1 * c.2 * b.2 < c.1 * a.2 * b.2 := by
    have e1 : a.1 * c.2 * b.2 = a.1 * b.2 * c.2 := Int.mul_right_comm ..
    have e2 : b.1 * a.2 * c.2 = b.1 * c.2 * a.2 := Int.mul_right_comm ..
    have e3 : c.1 * a.2 * b.2 = c.1 * b.2 * a.2 := Int.mul_right_comm ..
    omega
  exact Int.lt_of_mul_lt_mul_right x3 (by omega)
theorem lt_trans4 {a b c : Fr} (ha : 0 < a.2) (hb : 0 < b.2) (hc : 0 < c.2) (h1 : a.1 * b.2 < b.1 * a.2) (h2 : b.1 * c.2 ≤ c.1 * b.2) : a.1 * c.2 < c.1 * a.2 := by
  have x1 : a.1 * b.2 * c.2 < b.1 * a.2 * c.2 := Int.mul_lt_mul_of_pos_right h1 hc
  have x2 : b.1 * c.2 * a.2 ≤ c.1 * b.2 * a.2 := Int.mul_le_mul_of_nonneg_right h2 (by omega)
  have x3 : a.1 * c.2 * b.2 < c.1 * a.2 * b.2 := by
    have e1 : a.1 * c.2 * b.2 = a.1 * b.2 * c.2 := Int.mul_right_comm ..
    have e2 : b.1 * a.2 * c.2 = b.1 * c.2 * a.2 := Int.mul_right_comm ..
    have e3 : c.1 * a.2 * b.2 = c.1 * b.2 * a.2 := Int.mul_right_comm ..
    omega
  exact Int.lt_of_mul_lt_mul_right x3 (by omega)
/-! ### sums -/
def tot (n : Nat) (g : Nat → Int) (P : Nat → Bool) : Int := ((List.range n).map fun i => if P i then g i else 0).sum
section
variable {n : Nat} {g h : Nat → Int} {P Q : Nat → Bool}
theorem sum_add2 (a b : Nat → Int) : ∀ l : List Nat, (l.map fun i => a i + b i).sum = (l.map a).sum + (l.map b).sum
  | [] => rfl
  | x :: l => by
    rw [List.map_cons, List.map_cons, List.map_cons, List.sum_cons, List.sum_cons, List.sum_cons, sum_add2 a b l]
    omega
theorem sum_congr2 {a b : Nat → Int} {l : List Nat} (e : ∀ i ∈ l, a i = b i) : (l.map a).sum = (l.map b).sum := by rw [List.map_congr_left e]
theorem sum_nonneg {a : Nat → Int} : ∀ {l : List Nat}, (∀ i ∈ l, 0 ≤ a i) → 0 ≤ (l.map a).sum
  | [], _ => Int.le_refl _
  | x :: l, e => by
    rw [List.map_cons, List.sum_cons]
    have := sum_nonneg fun i hi => e i (List.mem_cons_of_mem _ hi)
    have := e x List.mem_cons_self
    omega
theorem tot_congr (e : ∀ i, i < n → P i = Q i) : tot n g P = tot n g Q := by
  unfold tot
  exact sum_congr2 fun i hi => by rw [e i (List.mem_range.mp hi)]
theorem tot_split (Q : Nat → Bool) : tot n g P = tot n g (fun i => P i && Q i) + tot n g (fun i => P i && !Q i) := by
  unfold tot
  rw [← sum_add2]
  refine sum_congr2 fun i _ => ?_
  by_cases hp : P i = true <;> by_cases hq : Q i = true <;> simp [hp, hq]
theorem tot_nonneg (e : ∀ i, i < n → P i = true → 0 ≤ g i) : 0 ≤ tot n g P := by
  unfold tot
  refine sum_nonneg fun i hi => ?_
  by_cases p : P i = true
  · rw [if_pos p]
    exact e i (List.mem_range.mp hi) p
  · rw [if_neg p]
    exact Int.le_refl _
theorem tot_none (e : ∀ i, i < n → P i = false) : tot n g P = 0 := by
  rw [tot_congr (Q := fun _ => false) e]
  unfold tot
  induction List.range n with
  | nil => rfl
  | cons a l ih =>
    rw [List.map_cons, List.sum_cons, ih]
    rfl
theorem tot_one {a : Nat} : ∀ {n : Nat}, a < n → tot n g (fun i => decide (i = a)) = g a
  | 0, h => absurd h (Nat.not_lt_zero a)
  | n + 1, h => by
    unfold tot
    rw [List.range_succ, List.map_append, List.sum_append]
    by_cases e : a = n
    · subst e
      have z : tot a g (fun i => decide (i = a)) = 0 := tot_none fun i hi => decide_eq_false (by omega)
      unfold tot at z
      rw [z]
      simp
    · have z := tot_one (n := n) (a := a) (by omega)
      unfold tot at z
      rw [z]
      have : ¬ n = a := fun q => e q.symm
      simp [this]
theorem tot_list : ∀ {l : List Nat}, l.Nodup → (∀ i ∈ l, i < n) → (l.map g).sum = tot n g (fun i => decide (i ∈ l))
  | [], _, _ => (tot_none fun i _ => by simp).symm
  | a :: l, hn, hl => by
    obtain ⟨h1, h2⟩ := List.nodup_cons.mp hn
    rw [List.map_cons, List.sum_cons, tot_list h2 fun i hi => hl i (List.mem_cons_of_mem _ hi), tot_split (P := fun i => decide (i ∈ a :: l)) (fun i => decide (i = a)), ← tot_one (g := g) (hl a List.mem_cons_self)]
    refine congr (congrArg _ (tot_congr fun i _ => ?_)) (tot_congr fun i _ => ?_)
    · by_cases e : i = a
      · subst e
        simp
      · simp [e]
    · by_cases e : i = a
      · subst e
        simp [h1]
      · simp [e]
end
/-! ### what a lot is above or below a mark -/
section
variable {f : Fd}
def tT (f : Fd) (P : Nat → Bool) : Int := tot f.n (fun i => (seenAt f i).1 * (seenAt f i).2) P
def tW (f : Fd) (P : Nat → Bool) : Int := tot f.n (fun i => (seenAt f i).2) P
def ex (f : Fd) (c : Fr) (P : Nat → Bool) : Int := tT f P * c.2 - c.1 * tW f P
theorem ex_split (c : Fr) (P Q : Nat → Bool) : ex f c P = ex f c (fun i => P i && Q i) + ex f c (fun i => P i && !Q i) := by
  unfold ex tT tW
  rw [tot_split (P := P) Q, tot_split (P := P) Q, Int.add_mul, Int.mul_add]
  omega
theorem ex_congr {c : Fr} {P Q : Nat → Bool} (e : ∀ i, i < f.n → P i = Q i) : ex f c P = ex f c Q := by
  unfold ex tT tW
  rw [tot_congr e, tot_congr e]
theorem ex_none {c : Fr} {P : Nat → Bool} (e : ∀ i, i < f.n → P i = false) : ex f c P = 0 := by
  unfold ex tT tW
  rw [tot_none e, tot_none e, Int.zero_mul, Int.mul_zero]
  rfl
theorem tW_nn (ok : FdOk f) {P : Nat → Bool} : 0 ≤ tW f P := tot_nonneg fun i hi _ => by
  have := ok.bd _ (seen_get ok hi).2
  omega
/-- from one mark to a lower one -/
theorem ex_low (ok : FdOk f) {m c : Fr} (hm : 0 < m.2) (hc : 0 < c.2) (h : c.1 * m.2 ≤ m.1 * c.2) {P : Nat → Bool} (hp : 0 ≤ ex f m P) : 0 ≤ ex f c P := by
  have w := tW_nn (f := f) ok (P := P)
  unfold ex at hp ⊢
  generalize tT f P = t at *
  generalize tW f P = v at *
  have x1 : 0 ≤ (t * m.2 - m.1 * v) * c.2 := Int.mul_nonneg hp (by omega)
  have x2 : c.1 * m.2 * v ≤ m.1 * c.2 * v := Int.mul_le_mul_of_nonneg_right h w
  have x3 : 0 * m.2 ≤ (t * c.2 - c.1 * v) * m.2 := by
    rw [Int.zero_mul, Int.sub_mul] 
    rw [Int.sub_mul] at x1
    have e1 : t * c.2 * m.2 = t * m.2 * c.2 := Int.mul_right_comm ..
    have e2 : c.1 * v * m.2 = c.1 * m.2 * v := Int.mul_right_comm ..
    have e3 : m.1 * v * c.2 = m.1 * c.2 * v := Int.mul_right_comm ..
    omega
  exact Int.le_of_mul_le_mul_right x3 hm
theorem top_tot {l : List Nat} (h1 : l.Nodup) (h2 : ∀ i ∈ l, i < f.n) : topOf f l = tT f fun i => decide (i ∈ l) := tot_list h1 h2
theorem wt_tot {l : List Nat} (h1 : l.Nodup) (h2 : ∀ i ∈ l, i < f.n) : wtOf f l = tW f fun i => decide (i ∈ l) := tot_list h1 h2
theorem wt_pos (ok : FdOk f) {l : List Nat} (h2 : ∀ i ∈ l, i < f.n) (h3 : l ≠ []) : 0 < wtOf f l := by
  have := wt_bd ok l h2
  have := List.length_pos_iff.mpr h3
  omega
theorem mean_red (ok : FdOk f) {l : List Nat} (h2 : ∀ i ∈ l, i < f.n) (h3 : l ≠ []) : Red (meanF f l) := mk_red (wt_pos ok h2 h3)
/-- the mean of a lot against a mark -/
theorem mean_ex (ok : FdOk f) {l : List Nat} (h1 : l.Nodup) (h2 : ∀ i ∈ l, i < f.n) (h3 : l ≠ []) (c : Fr) : (ex f c (fun i => decide (i ∈ l)) ≤ 0 ↔ (meanF f l).1 * c.2 ≤ c.1 * (meanF f l).2) ∧ (0 ≤ ex f c (fun i => decide (i ∈ l)) ↔ c.1 * (meanF f l).2 ≤ (meanF f l).1 * c.2) := by
  have hw := wt_pos ok h2 h3
  have v := mk_val (t := topOf f l) hw
  have p := (mk_red (t := topOf f l) hw).pos
  unfold ex
  rw [← top_tot h1 h2, ← wt_tot h1 h2]
  unfold meanF
  generalize topOf f l = t at *
  generalize wtOf f l = b at *
  generalize (mk t b).1 = x at *
  generalize (mk t b).2 = y at *
  -- x b = t y ; t c2 - c1 b vs x c2 - c1 y
  have e : (t * c.2 - c.1 * b) * y = (x * c.2 - c.1 * y) * b := by
    rw [Int.sub_mul, Int.sub_mul]
    have e1 : t * c.2 * y = t * y * c.2 := Int.mul_right_comm ..
    have e2 : x * c.2 * b = x * b * c.2 := Int.mul_right_comm ..
    have e3 : c.1 * b * y = c.1 * y * b := Int.mul_right_comm ..
    rw [e1, e2, e3, v]
  constructor
  · constructor
    · intro h
      have := Int.mul_le_mul_of_nonneg_right h (Int.le_of_lt p)
      rw [e, Int.zero_mul] at this
      have := Int.le_of_mul_le_mul_right (a := b) (b := x * c.2 - c.1 * y) (c := 0) (by rw [Int.zero_mul]; exact this) hw
      omega
    · intro h
      have : (x * c.2 - c.1 * y) * b ≤ 0 * b := Int.mul_le_mul_of_nonneg_right (by omega) (by omega)
      rw [← e, Int.zero_mul] at this
      exact Int.le_of_mul_le_mul_right (a := y) (by rw [Int.zero_mul]; exact this) p
  · constructor
    · intro h
      have := Int.mul_le_mul_of_nonneg_right h (Int.le_of_lt p)
      rw [e, Int.zero_mul] at this
      have := Int.le_of_mul_le_mul_right (a := b) (c := x * c.2 - c.1 * y) (b := 0) (by rw [Int.zero_mul]; exact this) hw
      omega
    · intro h
      have : 0 * b ≤ (x * c.2 - c.1 * y) * b := Int.mul_le_mul_of_nonneg_right (by omega) (by omega)
      rw [← e, Int.zero_mul] at this
      exact Int.le_of_mul_le_mul_right (a := y) (by rw [Int.zero_mul]; exact this) p
end
end Ri

set_option maxRecDepth 100000
set_option maxHeartbeats 2000000
/-! PLAIN, 2: the levels. -/
namespace Ri
open PySem PySem.Spec PyProof.Rows L2 Dl
section
variable {f : Fd}
/-- with each thing what is above it -/
def Up (f : Fd) (P : Nat → Bool) : Prop := ∀ i j, (i, j) ∈ f.ties → P i = true → P j = true
def lotP (f : Fd) (P : Nat → Bool) : List Nat := (List.range f.n).filter P
theorem mem_lotP {P : Nat → Bool} {i : Nat} : i ∈ lotP f P ↔ i < f.n ∧ P i = true := by
  unfold lotP
  rw [List.mem_filter, List.mem_range]
theorem lotP_nd {P : Nat → Bool} : (lotP f P).Nodup := List.nodup_range.filter _
theorem lotP_lt {P : Nat → Bool} : ∀ i ∈ lotP f P, i < f.n := fun i hi => (mem_lotP.mp hi).1
theorem lotP_up (ok : FdOk f) {P : Nat → Bool} (h : Up f P) : lotP f P ∈ upLots f := by
  refine mem_upLots.mpr ⟨⟨List.Pairwise.filter _ List.pairwise_lt_range, lotP_lt⟩, isUpB_iff.mpr fun i hi j hj => mem_lotP.mpr ⟨(ok.lt _ hj).2, h i j hj (mem_lotP.mp hi).2⟩⟩
theorem up_of {l : List Nat} (h : l ∈ upLots f) : Up f fun i => decide (i ∈ l) := fun i j hj hi => decide_eq_true (isUpB_iff.mp (mem_upLots.mp h).2 i (of_decide_eq_true hi) j hj)
/-- v is before u, or as good -/
def geL (v u : Lv) : Prop := under u.1 v.1 = true ∨ (v.1 = u.1 ∧ u.2.length ≤ v.2.length)
theorem geL_trans {a b c : Lv} (ha : Red a.1) (hb : Red b.1) (hc : Red c.1) (h1 : geL a b) (h2 : geL b c) : geL a c := by
  rcases h1 with h1 | ⟨e1, l1⟩
  · rcases h2 with h2 | ⟨e2, l2⟩
    · refine .inl (under_iff.mpr ?_)
      exact lt_trans3 hc.pos hb.pos ha.pos (Int.le_of_lt (under_iff.mp h2)) (under_iff.mp h1)
    · exact .inl (e2 ▸ h1)
  · rcases h2 with h2 | ⟨e2, l2⟩
    · exact .inl (e1 ▸ h2)
    · exact .inr ⟨e1.trans e2, Nat.le_trans l2 l1⟩
theorem geL_rfl (a : Lv) : geL a a := .inr ⟨rfl, Nat.le_refl _⟩
def rstL (f : Fd) (kn l : List Nat) : Lv := (meanF f (restOf kn l), restOf kn l)
theorem better_ge {kn l : List Nat} {b : Lv} (hb : Red b.1) (hl : Red (rstL f kn l).1) : ∃ v, better f kn (some b) l = some v ∧ (v = b ∨ v = rstL f kn l) ∧ geL v b ∧ geL v (rstL f kn l) := by
  unfold better
  simp only
  by_cases h1 : under b.1 (meanF f (restOf kn l)) = true
  · rw [if_pos h1]
    exact ⟨_, rfl, .inr rfl, .inl h1, geL_rfl _⟩
  · rw [if_neg h1]
    by_cases h2 : b.1 = meanF f (restOf kn l) ∧ b.2.length < (restOf kn l).length
    · rw [if_pos h2]
      exact ⟨_, rfl, .inr rfl, .inr ⟨h2.1.symm, Nat.le_of_lt h2.2⟩, geL_rfl _⟩
    · rw [if_neg h2]
      refine ⟨_, rfl, .inl rfl, geL_rfl _, ?_⟩
      have h1 := under_no.mp (Bool.eq_false_iff.mpr h1)
      by_cases h3 : under (rstL f kn l).1 b.1 = true
      · exact .inl h3
      · have h3 := under_no.mp (Bool.eq_false_iff.mpr h3)
        have e : b.1 = (rstL f kn l).1 := red_eq hb hl (Int.le_antisymm h3 h1)
        exact .inr ⟨e, Nat.le_of_not_lt fun z => h2 ⟨e, z⟩⟩
theorem best_all {kn : List Nat} : ∀ (ls : List (List Nat)) (b : Lv), Red b.1 → (∀ l ∈ ls, Red (rstL f kn l).1) → ∃ v, ls.foldl (better f kn) (some b) = some v ∧ Red v.1 ∧ geL v b ∧ ∀ l ∈ ls, geL v (rstL f kn l)
  | [], b, hb, _ => ⟨b, rfl, hb, geL_rfl b, fun l hl => by simp at hl⟩
  | l :: ls, b, hb, hl => by
    obtain ⟨v, e, ve, g1, g2⟩ := better_ge hb (hl l List.mem_cons_self)
    have hv : Red v.1 := by
      rcases ve with rfl | rfl
      · exact hb
      · exact hl l List.mem_cons_self
    obtain ⟨u, e2, hu, g3, g4⟩ := best_all ls v hv fun x hx => hl x (List.mem_cons_of_mem _ hx)
    refine ⟨u, ?_, hu, geL_trans hu hv hb g3 g1, fun x hx => ?_⟩
    · rw [List.foldl_cons, e]
      exact e2
    · rcases List.mem_cons.mp hx with rfl | hx
      · exact geL_trans hu hv (hl _ List.mem_cons_self) g3 g2
      · exact g4 x hx
theorem cand_red (ok : FdOk f) {kn l : List Nat} (h : l ∈ cand f kn) : Red (rstL f kn l).1 :=
  mean_red ok (fun i hi => (mem_upLots.mp (mem_cand.mp h).1).1.2 i (mem_restOf.mp hi).1) (rest_ne h)
/-- the next level is the best of all -/
theorem next_best (ok : FdOk f) {kn : List Nat} {v : Lv} (h : nextLv f kn (cand f kn) = some v) : Red v.1 ∧ ∀ l ∈ cand f kn, geL v (rstL f kn l) := by
  unfold nextLv at h
  cases hc : cand f kn with
  | nil => rw [hc] at h; cases h
  | cons l ls =>
    rw [hc] at h
    have r : ∀ x ∈ l :: ls, Red (rstL f kn x).1 := fun x hx => cand_red ok (hc ▸ hx)
    obtain ⟨u, e, hu, g1, g2⟩ := best_all (f := f) (kn := kn) ls (rstL f kn l) (r l List.mem_cons_self) fun x hx => r x (List.mem_cons_of_mem _ hx)
    rw [List.foldl_cons] at h
    have e' : ls.foldl (better f kn) (better f kn none l) = some u := e
    rw [e'] at h
    cases h
    refine ⟨hu, fun x hx => ?_⟩
    rcases List.mem_cons.mp hx with rfl | hx
    · exact g1
    · exact g2 x hx
def inP (l : List Nat) : Nat → Bool := fun i => decide (i ∈ l)
theorem inP_t {l : List Nat} {i : Nat} : inP l i = true ↔ i ∈ l := decide_eq_true_iff
theorem Steps.up (ok : FdOk f) {fs : List Lv} {kn : List Nat} (h : Steps f fs kn) : Up f (inP kn) := by
  induction h with
  | nil => exact fun i j _ hi => by simp [inP] at hi
  | cons s hl e ih =>
    rename_i fs' kn' v'
    obtain ⟨l, h1, h2⟩ := next_get ok (s.kn ok) hl
    rw [e] at h2
    cases h2
    obtain ⟨c1, c2, c3⟩ := mem_cand.mp h1
    intro i j hj hi
    refine inP_t.mpr ?_
    rcases List.mem_append.mp (inP_t.mp hi) with hi | hi
    · exact List.mem_append_left _ (inP_t.mp (ih i j hj (inP_t.mpr hi)))
    · have := isUpB_iff.mp (mem_upLots.mp c1).2 i (mem_restOf.mp hi).1 j hj
      by_cases q : j ∈ kn'
      · exact List.mem_append_left _ q
      · exact List.mem_append_right _ (mem_restOf.mpr ⟨this, q⟩)
/-- one step, in sums -/
structure StepF (f : Fd) (kn : List Nat) (v : Lv) : Prop where
  red : Red v.1
  nd : v.2.Nodup
  lt : ∀ i ∈ v.2, i < f.n
  ne : v.2 ≠ []
  out : ∀ i ∈ v.2, i ∉ kn
  nil : ex f v.1 (inP v.2) = 0
  le : ∀ P, Up f P → ex f v.1 (fun i => P i && !inP kn i) ≤ 0
  big : ∀ P, Up f P → ex f v.1 (fun i => P i && !inP kn i) = 0 → (lotP f fun i => P i && !inP kn i).length ≤ v.2.length
theorem step_f (ok : FdOk f) {fs : List Lv} {kn : List Nat} {v : Lv} (h : Steps f fs kn) (hl : kn.length < f.n) (e : nextLv f kn (cand f kn) = some v) : StepF f kn v := by
  have hkn := h.kn ok
  have hup := h.up ok
  obtain ⟨hr, hb⟩ := next_best ok e
  obtain ⟨l, h1, h2⟩ := next_get ok hkn hl
  rw [e] at h2
  have e2 : v = rstL f kn l := Option.some.inj h2
  obtain ⟨c1, c2, c3⟩ := mem_cand.mp h1
  have c4 := (mem_upLots.mp c1).1
  have nd : v.2.Nodup := by
    rw [e2]
    exact (lt_nodup c4.1).filter _
  have lt : ∀ i ∈ v.2, i < f.n := by
    rw [e2]
    exact fun i hi => c4.2 i (mem_restOf.mp hi).1
  have ne : v.2 ≠ [] := by
    rw [e2]
    exact rest_ne h1
  have em : v.1 = meanF f v.2 := by rw [e2]; rfl
  have key : ∀ P, Up f P → lotP f (fun i => P i && !inP kn i) ≠ [] → geL v (meanF f (lotP f fun i => P i && !inP kn i), lotP f fun i => P i && !inP kn i) := by
    intro P hP hne
    have up2 : Up f fun i => P i || inP kn i := fun i j hj hi => by
      rcases Bool.or_eq_true_iff.mp hi with q | q
      · exact Bool.or_eq_true_iff.mpr (.inl (hP i j hj q))
      · exact Bool.or_eq_true_iff.mpr (.inr (hup i j hj q))
    have er : restOf kn (lotP f fun i => P i || inP kn i) = lotP f fun i => P i && !inP kn i := by
      unfold restOf lotP
      rw [List.filter_filter]
      refine List.filter_congr fun i _ => ?_
      show (!decide (i ∈ kn) && (P i || decide (i ∈ kn))) = (P i && !decide (i ∈ kn))
      cases P i <;> cases decide (i ∈ kn) <;> rfl
    have hc : lotP f (fun i => P i || inP kn i) ∈ cand f kn := by
      refine mem_cand.mpr ⟨lotP_up ok up2, ?_, fun i hi => mem_lotP.mpr ⟨hkn.lt i hi, Bool.or_eq_true_iff.mpr (.inr (inP_t.mpr hi))⟩⟩
      obtain ⟨a, ha⟩ := List.exists_mem_of_ne_nil _ hne
      obtain ⟨ha1, ha2⟩ := mem_lotP.mp ha
      obtain ⟨ha2, ha3⟩ := Bool.and_eq_true_iff.mp ha2
      have hak : a ∉ kn := by simpa [inP] using ha3
      have := sub_len (a := a :: kn) (b := lotP f fun i => P i || inP kn i) (List.nodup_cons.mpr ⟨hak, hkn.nd⟩) fun x hx => by
        rcases List.mem_cons.mp hx with rfl | hx
        · exact mem_lotP.mpr ⟨ha1, Bool.or_eq_true_iff.mpr (.inl ha2)⟩
        · exact mem_lotP.mpr ⟨hkn.lt x hx, Bool.or_eq_true_iff.mpr (.inr (inP_t.mpr hx))⟩
      rw [List.length_cons] at this
      omega
    have := hb _ hc
    unfold rstL at this
    rw [er] at this
    exact this
  have ex_lot : ∀ (c : Fr) (P : Nat → Bool), ex f c (fun i => decide (i ∈ lotP f P)) = ex f c P := fun c P => ex_congr fun i hi => by
    by_cases q : P i = true
    · rw [q]
      exact decide_eq_true (mem_lotP.mpr ⟨hi, q⟩)
    · rw [Bool.eq_false_iff.mpr q]
      exact decide_eq_false fun z => q (mem_lotP.mp z).2
  have zero : ∀ P, lotP f P = [] → ex f v.1 P = 0 := fun P hP => ex_none fun i hi => by
    by_cases q : P i = true
    · have : i ∈ lotP f P := mem_lotP.mpr ⟨hi, q⟩
      rw [hP] at this
      simp at this
    · exact Bool.eq_false_iff.mpr q
  refine ⟨hr, nd, lt, ne, ?_, ?_, fun P hP => ?_, fun P hP h0 => ?_⟩
  · rw [e2]
    exact fun i hi => (mem_restOf.mp hi).2
  · have m := mean_ex ok nd lt ne v.1
    rw [← em] at m
    exact Int.le_antisymm (m.1.mpr (Int.le_refl _)) (m.2.mpr (Int.le_refl _))
  · by_cases hne : lotP f (fun i => P i && !inP kn i) = []
    · rw [zero _ hne]
      exact Int.le_refl _
    · rw [← ex_lot]
      refine (mean_ex ok lotP_nd lotP_lt hne v.1).1.mpr ?_
      rcases key P hP hne with q | ⟨q, _⟩
      · exact Int.le_of_lt (under_iff.mp q)
      · rw [q]
        exact Int.le_refl _
  · by_cases hne : lotP f (fun i => P i && !inP kn i) = []
    · rw [hne]
      exact Nat.zero_le _
    · rcases key P hP hne with q | ⟨_, q⟩
      · rw [← ex_lot] at h0
        have := (mean_ex ok lotP_nd lotP_lt hne v.1).2.mp (Int.le_of_eq h0.symm)
        have q := under_iff.mp q
        simp only at q
        omega
      · exact q
theorem inP_app (a b : List Nat) (i : Nat) : inP (a ++ b) i = (inP a i || inP b i) := by
  unfold inP
  rw [Bool.eq_iff_iff]
  simp
/-- the means fall, level by level -/
theorem fall1 (ok : FdOk f) {fs : List Lv} {kn : List Nat} {u v : Lv} (h : Steps f fs kn) (hl : kn.length < f.n) (e : nextLv f kn (cand f kn) = some u) (hl2 : (kn ++ u.2).length < f.n) (e2 : nextLv f (kn ++ u.2) (cand f (kn ++ u.2)) = some v) : under v.1 u.1 = true := by
  have s1 := step_f ok h hl e
  have s2 := step_f ok (h.cons hl e) hl2 e2
  have s3 := (h.cons hl e).cons hl2 e2
  have up := s3.up ok
  have hP : ∀ i, i < f.n → (inP (kn ++ u.2 ++ v.2) i && !inP kn i) = (inP u.2 i || inP v.2 i) := by
    intro i _
    rw [inP_app, inP_app]
    by_cases q : i ∈ kn
    · have a1 : inP u.2 i = false := decide_eq_false fun z => s1.out i z q
      have a2 : inP v.2 i = false := decide_eq_false fun z => s2.out i z (List.mem_append_left _ q)
      have a3 : inP kn i = true := inP_t.mpr q
      rw [a1, a2, a3]
      rfl
    · have a3 : inP kn i = false := decide_eq_false q
      rw [a3]
      simp
  have hs : ex f u.1 (fun i => inP u.2 i || inP v.2 i) = ex f u.1 (inP u.2) + ex f u.1 (inP v.2) := by
    rw [ex_split u.1 (fun i => inP u.2 i || inP v.2 i) (inP u.2)]
    refine congr (congrArg _ (ex_congr fun i _ => ?_)) (ex_congr fun i _ => ?_)
    · cases inP u.2 i <;> cases inP v.2 i <;> rfl
    · by_cases q : i ∈ u.2
      · have a1 : inP v.2 i = false := decide_eq_false fun z => s2.out i z (List.mem_append_right _ q)
        have a2 : inP u.2 i = true := inP_t.mpr q
        rw [a1, a2]
        rfl
      · have a2 : inP u.2 i = false := decide_eq_false q
        rw [a2]
        simp
  have hle := s1.le _ up
  have hbig := s1.big _ up
  rw [ex_congr hP, hs, s1.nil, Int.zero_add] at hle hbig
  have hlen : (lotP f fun i => inP (kn ++ u.2 ++ v.2) i && !inP kn i).length = u.2.length + v.2.length := by
    rw [← List.length_append]
    have p : (lotP f fun i => inP (kn ++ u.2 ++ v.2) i && !inP kn i).Perm (u.2 ++ v.2) := by
      refine (List.perm_ext_iff_of_nodup lotP_nd (List.nodup_append.mpr ⟨s1.nd, s2.nd, fun a ha b hb q => ?_⟩)).mpr fun i => ?_
      · subst q
        exact s2.out a hb (List.mem_append_right _ ha)
      · rw [mem_lotP, List.mem_append]
        constructor
        · rintro ⟨h1, h2⟩
          rw [hP i h1] at h2
          rcases Bool.or_eq_true_iff.mp h2 with h2 | h2
          · exact .inl (inP_t.mp h2)
          · exact .inr (inP_t.mp h2)
        · intro h
          have hi : i < f.n := by
            rcases h with h | h
            · exact s1.lt i h
            · exact s2.lt i h
          refine ⟨hi, ?_⟩
          rw [hP i hi]
          rcases h with h | h
          · exact Bool.or_eq_true_iff.mpr (.inl (inP_t.mpr h))
          · exact Bool.or_eq_true_iff.mpr (.inr (inP_t.mpr h))
    exact p.length_eq
  have hv := List.length_pos_iff.mpr s2.ne
  have em : v.1 = meanF f v.2 := by
    obtain ⟨l, h1, h2⟩ := next_get ok ((h.cons hl e).kn ok) hl2
    rw [e2] at h2
    cases h2
    rfl
  have m := mean_ex ok s2.nd s2.lt s2.ne u.1
  rw [← em] at m
  refine under_iff.mpr ?_
  by_cases z : v.1.1 * u.1.2 < u.1.1 * v.1.2
  · exact z
  · have := m.2.mpr (by omega)
    have h0 : ex f u.1 (inP v.2) = 0 := Int.le_antisymm hle this
    have := hbig h0
    omega
theorem fall (ok : FdOk f) {fs : List Lv} {kn : List Nat} (h : Steps f fs kn) : (∀ v ∈ fs, Red v.1) ∧ fs.Pairwise fun a b => under a.1 b.1 = true := by
  induction h with
  | nil => exact ⟨fun v hv => by simp at hv, .nil⟩
  | cons s hl e ih =>
    rename_i fs kn v
    have sf := step_f ok s hl e
    have hred : ∀ w ∈ v :: fs, Red w.1 := fun w hw => by
      rcases List.mem_cons.mp hw with rfl | hw
      · exact sf.red
      · exact ih.1 w hw
    refine ⟨hred, List.pairwise_cons.mpr ⟨fun w hw => ?_, ih.2⟩⟩
    cases s with
    | nil => simp at hw
    | cons s2 hl2 e2 =>
      rename_i fs kn u
      have h1 := fall1 ok s2 hl2 e2 hl e
      rcases List.mem_cons.mp hw with rfl | hw
      · exact h1
      · have h2 := (List.pairwise_cons.mp ih.2).1 w hw
        have ru := ih.1 u List.mem_cons_self
        have rw' := ih.1 w (List.mem_cons_of_mem _ hw)
        exact under_iff.mpr (lt_trans3 sf.red.pos ru.pos rw'.pos (Int.le_of_lt (under_iff.mp h1)) (under_iff.mp h2))
/-- what is taken so far, less an upper lot, is not below any mark below all levels so far -/
theorem above (ok : FdOk f) {fs : List Lv} {kn : List Nat} (h : Steps f fs kn) : ∀ (c : Fr) (V : Nat → Bool), 0 < c.2 → Up f V → (∀ v ∈ fs, c.1 * v.1.2 ≤ v.1.1 * c.2) → 0 ≤ ex f c fun i => inP kn i && !V i := by
  induction h with
  | nil => exact fun c V _ _ _ => Int.le_of_eq (ex_none fun i _ => by simp [inP]).symm
  | cons s hl e ih =>
    rename_i fs kn v
    intro c V hc hV hv
    have sf := step_f ok s hl e
    have hup := (s.cons hl e).up ok
    have ih := ih c V hc hV fun u hu => hv u (List.mem_cons_of_mem _ hu)
    -- the part within the new level
    have part : 0 ≤ ex f c fun i => inP v.2 i && !V i := by
      refine ex_low ok sf.red.pos hc (hv v List.mem_cons_self) ?_
      have sp := ex_split (f := f) v.1 (inP v.2) V
      rw [sf.nil] at sp
      have up2 : Up f fun i => inP (kn ++ v.2) i && V i := fun i j hj hi => by
        obtain ⟨q1, q2⟩ := Bool.and_eq_true_iff.mp hi
        exact Bool.and_eq_true_iff.mpr ⟨hup i j hj q1, hV i j hj q2⟩
      have le := sf.le _ up2
      have e3 : ex f v.1 (fun i => (inP (kn ++ v.2) i && V i) && !inP kn i) = ex f v.1 fun i => inP v.2 i && V i := ex_congr fun i _ => by
        rw [inP_app]
        by_cases q : i ∈ kn
        · have a1 : inP v.2 i = false := decide_eq_false fun z => sf.out i z q
          have a2 : inP kn i = true := inP_t.mpr q
          rw [a1, a2]
          simp
        · have a2 : inP kn i = false := decide_eq_false q
          rw [a2]
          simp
      rw [e3] at le
      omega
    have e4 := ex_split (f := f) c (fun i => inP (kn ++ v.2) i && !V i) (inP kn)
    have e5 : ex f c (fun i => (inP (kn ++ v.2) i && !V i) && inP kn i) = ex f c fun i => inP kn i && !V i := ex_congr fun i _ => by
      rw [inP_app]
      cases inP kn i <;> cases inP v.2 i <;> cases V i <;> rfl
    have e6 : ex f c (fun i => (inP (kn ++ v.2) i && !V i) && !inP kn i) = ex f c fun i => inP v.2 i && !V i := ex_congr fun i _ => by
      rw [inP_app]
      by_cases q : i ∈ kn
      · have a1 : inP v.2 i = false := decide_eq_false fun z => sf.out i z q
        have a2 : inP kn i = true := inP_t.mpr q
        rw [a1, a2]
        simp
      · have a2 : inP kn i = false := decide_eq_false q
        rw [a2]
        simp
    rw [e5, e6] at e4
    omega
/-- each level stands between two lots -/
theorem between (ok : FdOk f) {fs : List Lv} {kn : List Nat} (h : Steps f fs kn) : ∀ v ∈ fs, Red v.1 ∧ v.2 ≠ [] ∧ ∃ k0 k1 : Nat → Bool, Up f k0 ∧ Up f k1 ∧ (∀ i ∈ v.2, i < f.n ∧ k0 i = false ∧ k1 i = true) ∧ (∀ P, Up f P → ex f v.1 (fun i => P i && !k0 i) ≤ 0) ∧ ∀ V, Up f V → 0 ≤ ex f v.1 fun i => k1 i && !V i := by
  induction h with
  | nil => exact fun v hv => by simp at hv
  | cons s hl e ih =>
    rename_i fs kn v
    intro w hw
    rcases List.mem_cons.mp hw with rfl | hw
    · have sf := step_f ok s hl e
      have st := s.cons hl e
      have fa := fall ok st
      refine ⟨sf.red, sf.ne, inP kn, inP (kn ++ w.2), s.up ok, st.up ok, fun i hi => ⟨sf.lt i hi, decide_eq_false (sf.out i hi), inP_t.mpr (List.mem_append_right _ hi)⟩, sf.le, fun V hV => above ok st w.1 V sf.red.pos hV fun u hu => ?_⟩
      rcases List.mem_cons.mp hu with rfl | hu
      · exact Int.le_refl _
      · exact Int.le_of_lt (under_iff.mp ((List.pairwise_cons.mp fa.2).1 u hu))
    · exact ih w hw
end
end Ri

set_option maxRecDepth 100000
set_option maxHeartbeats 2000000
/-! PLAIN, 3: the greatest of the least means is the table; how many levels; the charge. -/
namespace Ri
open PySem PySem.Spec PyProof.Rows L2 Dl
def minStep (o : Option Fr) (m : Fr) : Option Fr := match o with
  | none => some m
  | some b => if under m b then some m else some b
def maxStep (o : Option Fr) (m : Fr) : Option Fr := match o with
  | none => some m
  | some b => if under b m then some m else some b
def least (f : Fd) (us : List (List Nat)) (i : Nat) (lot : List Nat) : Option Fr := ((us.filter fun l => !decide (i ∈ l)).map fun far => meanF f (restOf far lot)).foldl minStep none
def guess (f : Fd) (us : List (List Nat)) (i : Nat) : Option Fr := ((us.filter fun l => decide (i ∈ l)).map fun lot => (least f us i lot).getD (0, 1)).foldl maxStep none
def bestF (f : Fd) : List Fr := (List.range f.n).map fun i => (guess f (upLots f) i).getD (0, 1)
/-- p at most q -/
def leF (p q : Fr) : Prop := p.1 * q.2 ≤ q.1 * p.2
theorem leF_rfl (p : Fr) : leF p p := Int.le_refl _
theorem leF.trans {a b c : Fr} (ha : Red a) (hb : Red b) (hc : Red c) (h1 : leF a b) (h2 : leF b c) : leF a c := le_trans3 ha.pos hb.pos hc.pos h1 h2
theorem leF_anti {a b : Fr} (ha : Red a) (hb : Red b) (h1 : leF a b) (h2 : leF b a) : a = b := red_eq ha hb (Int.le_antisymm h1 h2)
theorem min_all : ∀ (ms : List Fr) (b : Fr), Red b → (∀ m ∈ ms, Red m) → ∃ r, ms.foldl minStep (some b) = some r ∧ (r = b ∨ r ∈ ms) ∧ leF r b ∧ ∀ m ∈ ms, leF r m
  | [], b, _, _ => ⟨b, rfl, .inl rfl, leF_rfl b, fun m hm => by simp at hm⟩
  | m :: ms, b, hb, hm => by
    have rm := hm m List.mem_cons_self
    by_cases e : under m b = true
    · obtain ⟨r, e1, e2, e3, e4⟩ := min_all ms m rm fun x hx => hm x (List.mem_cons_of_mem _ hx)
      have rr : Red r := by
        rcases e2 with rfl | e2
        · exact rm
        · exact hm r (List.mem_cons_of_mem _ e2)
      refine ⟨r, ?_, .inr ?_, e3.trans rr rm hb (Int.le_of_lt (under_iff.mp e)), fun x hx => ?_⟩
      · have : minStep (some b) m = some m := if_pos e
        rw [List.foldl_cons, this]
        exact e1
      · rcases e2 with rfl | e2
        · exact List.mem_cons_self
        · exact List.mem_cons_of_mem _ e2
      · rcases List.mem_cons.mp hx with rfl | hx
        · exact e3
        · exact e4 x hx
    · obtain ⟨r, e1, e2, e3, e4⟩ := min_all ms b hb fun x hx => hm x (List.mem_cons_of_mem _ hx)
      have rr : Red r := by
        rcases e2 with rfl | e2
        · exact hb
        · exact hm r (List.mem_cons_of_mem _ e2)
      refine ⟨r, ?_, ?_, e3, fun x hx => ?_⟩
      · have : minStep (some b) m = some b := if_neg e
        rw [List.foldl_cons, this]
        exact e1
      · rcases e2 with rfl | e2
        · exact .inl rfl
        · exact .inr (List.mem_cons_of_mem _ e2)
      · rcases List.mem_cons.mp hx with rfl | hx
        · exact e3.trans rr hb rm (under_no.mp (Bool.eq_false_iff.mpr e))
        · exact e4 x hx
theorem max_all : ∀ (ms : List Fr) (b : Fr), Red b → (∀ m ∈ ms, Red m) → ∃ r, ms.foldl maxStep (some b) = some r ∧ (r = b ∨ r ∈ ms) ∧ leF b r ∧ ∀ m ∈ ms, leF m r
  | [], b, _, _ => ⟨b, rfl, .inl rfl, leF_rfl b, fun m hm => by simp at hm⟩
  | m :: ms, b, hb, hm => by
    have rm := hm m List.mem_cons_self
    by_cases e : under b m = true
    · obtain ⟨r, e1, e2, e3, e4⟩ := max_all ms m rm fun x hx => hm x (List.mem_cons_of_mem _ hx)
      have rr : Red r := by
        rcases e2 with rfl | e2
        · exact rm
        · exact hm r (List.mem_cons_of_mem _ e2)
      refine ⟨r, ?_, .inr ?_, leF.trans hb rm rr (Int.le_of_lt (under_iff.mp e)) e3, fun x hx => ?_⟩
      · have : maxStep (some b) m = some m := if_pos e
        rw [List.foldl_cons, this]
        exact e1
      · rcases e2 with rfl | e2
        · exact List.mem_cons_self
        · exact List.mem_cons_of_mem _ e2
      · rcases List.mem_cons.mp hx with rfl | hx
        · exact e3
        · exact e4 x hx
    · obtain ⟨r, e1, e2, e3, e4⟩ := max_all ms b hb fun x hx => hm x (List.mem_cons_of_mem _ hx)
      have rr : Red r := by
        rcases e2 with rfl | e2
        · exact hb
        · exact hm r (List.mem_cons_of_mem _ e2)
      refine ⟨r, ?_, ?_, e3, fun x hx => ?_⟩
      · have : maxStep (some b) m = some b := if_neg e
        rw [List.foldl_cons, this]
        exact e1
      · rcases e2 with rfl | e2
        · exact .inl rfl
        · exact .inr (List.mem_cons_of_mem _ e2)
      · rcases List.mem_cons.mp hx with rfl | hx
        · exact leF.trans rm hb rr (under_no.mp (Bool.eq_false_iff.mpr e)) e3
        · exact e4 x hx
theorem min_list {ms : List Fr} (hn : ms ≠ []) (hm : ∀ m ∈ ms, Red m) : ∃ r, ms.foldl minStep none = some r ∧ r ∈ ms ∧ ∀ m ∈ ms, leF r m := by
  cases ms with
  | nil => exact absurd rfl hn
  | cons m ms =>
    obtain ⟨r, e1, e2, e3, e4⟩ := min_all ms m (hm m List.mem_cons_self) fun x hx => hm x (List.mem_cons_of_mem _ hx)
    refine ⟨r, e1, ?_, fun x hx => ?_⟩
    · rcases e2 with rfl | e2
      · exact List.mem_cons_self
      · exact List.mem_cons_of_mem _ e2
    · rcases List.mem_cons.mp hx with rfl | hx
      · exact e3
      · exact e4 x hx
theorem max_list {ms : List Fr} (hn : ms ≠ []) (hm : ∀ m ∈ ms, Red m) : ∃ r, ms.foldl maxStep none = some r ∧ r ∈ ms ∧ ∀ m ∈ ms, leF m r := by
  cases ms with
  | nil => exact absurd rfl hn
  | cons m ms =>
    obtain ⟨r, e1, e2, e3, e4⟩ := max_all ms m (hm m List.mem_cons_self) fun x hx => hm x (List.mem_cons_of_mem _ hx)
    refine ⟨r, e1, ?_, fun x hx => ?_⟩
    · rcases e2 with rfl | e2
      · exact List.mem_cons_self
      · exact List.mem_cons_of_mem _ e2
    · rcases List.mem_cons.mp hx with rfl | hx
      · exact e3
      · exact e4 x hx
section
variable {f : Fd}
theorem nil_up : [] ∈ upLots f := mem_upLots.mpr ⟨⟨.nil, fun i hi => by simp at hi⟩, isUpB_iff.mpr fun i hi => by simp at hi⟩
theorem rest_red (ok : FdOk f) {i : Nat} {U V : List Nat} (hU : U ∈ upLots f) (h1 : i ∈ U) (h2 : i ∉ V) : Red (meanF f (restOf V U)) :=
  mean_red ok (fun j hj => (mem_upLots.mp hU).1.2 j (mem_restOf.mp hj).1) (List.ne_nil_of_mem (mem_restOf.mpr ⟨h1, h2⟩))
theorem least_get (ok : FdOk f) {i : Nat} {U : List Nat} (hU : U ∈ upLots f) (h1 : i ∈ U) : ∃ r, least f (upLots f) i U = some r ∧ Red r ∧ (∃ V ∈ upLots f, i ∉ V ∧ r = meanF f (restOf V U)) ∧ ∀ V ∈ upLots f, i ∉ V → leF r (meanF f (restOf V U)) := by
  have hm : ∀ m ∈ (((upLots f).filter fun l => !decide (i ∈ l)).map fun far => meanF f (restOf far U)), ∃ V ∈ upLots f, i ∉ V ∧ m = meanF f (restOf V U) := by
    intro m hm
    obtain ⟨V, hV, rfl⟩ := List.mem_map.mp hm
    obtain ⟨a, b⟩ := List.mem_filter.mp hV
    exact ⟨V, a, by simpa using b, rfl⟩
  obtain ⟨r, e1, e2, e3⟩ := min_list (ms := ((upLots f).filter fun l => !decide (i ∈ l)).map fun far => meanF f (restOf far U)) (List.ne_nil_of_mem (List.mem_map.mpr ⟨[], List.mem_filter.mpr ⟨nil_up, by simp⟩, rfl⟩)) fun m h => by
    obtain ⟨V, _, b, rfl⟩ := hm m h
    exact rest_red ok hU h1 b
  obtain ⟨V, a, b, e⟩ := hm r e2
  refine ⟨r, e1, e ▸ rest_red ok hU h1 b, ⟨V, a, b, e⟩, fun W hW hi => e3 _ (List.mem_map.mpr ⟨W, List.mem_filter.mpr ⟨hW, by simpa using hi⟩, rfl⟩)⟩
theorem guess_get (ok : FdOk f) {i : Nat} (hi : i < f.n) : ∃ r, guess f (upLots f) i = some r ∧ Red r ∧ (∃ U ∈ upLots f, i ∈ U ∧ least f (upLots f) i U = some r) ∧ ∀ U ∈ upLots f, i ∈ U → ∀ m, least f (upLots f) i U = some m → leF m r := by
  have hm : ∀ m ∈ (((upLots f).filter fun l => decide (i ∈ l)).map fun lot => (least f (upLots f) i lot).getD (0, 1)), Red m ∧ ∃ U ∈ upLots f, i ∈ U ∧ least f (upLots f) i U = some m := by
    intro m hm
    obtain ⟨U, hU, rfl⟩ := List.mem_map.mp hm
    obtain ⟨a, b⟩ := List.mem_filter.mp hU
    have b := of_decide_eq_true b
    obtain ⟨r, g1, g2, _⟩ := least_get ok a b
    rw [g1]
    exact ⟨g2, U, a, b, g1⟩
  obtain ⟨r, e1, e2, e3⟩ := max_list (ms := ((upLots f).filter fun l => decide (i ∈ l)).map fun lot => (least f (upLots f) i lot).getD (0, 1)) (List.ne_nil_of_mem (List.mem_map.mpr ⟨_, List.mem_filter.mpr ⟨full_up ok, decide_eq_true (List.mem_range.mpr hi)⟩, rfl⟩)) fun m h => (hm m h).1
  obtain ⟨a, b⟩ := hm r e2
  exact ⟨r, e1, a, b, fun U hU h1 m h2 => e3 m (List.mem_map.mpr ⟨U, List.mem_filter.mpr ⟨hU, decide_eq_true h1⟩, by rw [h2]; rfl⟩)⟩
theorem ex_rest (c : Fr) {U V : List Nat} : ex f c (fun i => decide (i ∈ restOf V U)) = ex f c fun i => inP U i && !inP V i := ex_congr fun i _ => by
  unfold inP
  rw [Bool.eq_iff_iff]
  simp [mem_restOf]
theorem guess_is (ok : FdOk f) {fs : List Lv} {kn : List Nat} (h : Steps f fs kn) {v : Lv} (hv : v ∈ fs) {i : Nat} (hi : i ∈ v.2) : guess f (upLots f) i = some v.1 := by
  obtain ⟨rv, _, k0, k1, up0, up1, hk, le0, ge1⟩ := between ok h v hv
  obtain ⟨hn, hi0, hi1⟩ := hk i hi
  obtain ⟨r, e1, rr, ⟨U, hU, hiU, eU⟩, e3⟩ := guess_get ok hn
  rw [e1]
  refine congrArg some (leF_anti rr rv ?_ ?_)
  · -- r is the least for U, at most the mean over k0
    obtain ⟨r2, g1, g2, _, g4⟩ := least_get ok hU hiU
    rw [eU] at g1
    cases g1
    have hi0' : i ∉ lotP f k0 := fun z => by rw [(mem_lotP.mp z).2] at hi0; cases hi0
    have h4 := g4 (lotP f k0) (lotP_up ok up0) hi0'
    have rm := rest_red ok hU hiU hi0'
    refine h4.trans rr rm rv ?_
    have hUm := (mem_upLots.mp hU).1
    have m := mean_ex ok (l := restOf (lotP f k0) U) ((lt_nodup hUm.1).filter _) (fun j hj => hUm.2 j (mem_restOf.mp hj).1) (List.ne_nil_of_mem (mem_restOf.mpr ⟨hiU, hi0'⟩)) v.1
    refine m.1.mp ?_
    rw [ex_rest]
    have := le0 (inP U) (up_of hU)
    rwa [show ex f v.1 (fun i => inP U i && !inP (lotP f k0) i) = ex f v.1 fun i => inP U i && !k0 i from ex_congr fun j hj => by
      have : inP (lotP f k0) j = k0 j := by
        unfold inP
        rw [Bool.eq_iff_iff, decide_eq_true_iff, mem_lotP]
        exact ⟨fun z => z.2, fun z => ⟨hj, z⟩⟩
      rw [this]]
  · have hiL : i ∈ lotP f k1 := mem_lotP.mpr ⟨hn, hi1⟩
    have hL := lotP_up ok up1
    obtain ⟨r2, g1, g2, ⟨V, hV, hiV, eV⟩, _⟩ := least_get ok hL hiL
    refine leF.trans rv g2 rr ?_ (e3 _ hL hiL _ g1)
    rw [eV]
    have m := mean_ex ok (l := restOf V (lotP f k1)) (lotP_nd.filter _) (fun j hj => lotP_lt j (mem_restOf.mp hj).1) (List.ne_nil_of_mem (mem_restOf.mpr ⟨hiL, hiV⟩)) v.1
    refine m.2.mp ?_
    rw [ex_rest]
    have := ge1 (inP V) (up_of hV)
    rwa [show ex f v.1 (fun i => inP (lotP f k1) i && !inP V i) = ex f v.1 fun i => k1 i && !inP V i from ex_congr fun j hj => by
      have : inP (lotP f k1) j = k1 j := by
        unfold inP
        rw [Bool.eq_iff_iff, decide_eq_true_iff, mem_lotP]
        exact ⟨fun z => z.2, fun z => ⟨hj, z⟩⟩
      rw [this]]
theorem gOf_mem {fs : List Lv} {n i : Nat} (W : Whole fs n) (hi : i < n) : ∃ v ∈ fs, v.1 = gOf fs i ∧ i ∈ v.2 := by
  obtain ⟨q, hq⟩ := lkp_some ((W.al i).mpr hi)
  have e : gOf fs i = q := by unfold gOf; rw [hq]; rfl
  rw [e]
  exact mem_flat (lkp_mem hq)
/-- the law's table is the program's -/
theorem best_tab (ok : FdOk f) {fs : List Lv} {kn : List Nat} (h : Steps f fs kn) (hn : f.n ≤ kn.length) : bestF f = tabL fs f.n := by
  have W := h.whole ok hn
  unfold bestF tabL
  refine List.map_congr_left fun i hi => ?_
  obtain ⟨v, hv, e, hi2⟩ := gOf_mem W (List.mem_range.mp hi)
  rw [guess_is ok h hv hi2, ← e]
  rfl
theorem mem_tab (ok : FdOk f) {fs : List Lv} {kn : List Nat} (h : Steps f fs kn) (hn : f.n ≤ kn.length) {p : Fr} : p ∈ bestF f ↔ p ∈ fs.map (·.1) := by
  have W := h.whole ok hn
  constructor
  · rw [best_tab ok h hn]
    intro hp
    obtain ⟨i, hi, rfl⟩ := List.mem_map.mp hp
    obtain ⟨v, hv, e, _⟩ := gOf_mem W (List.mem_range.mp hi)
    exact List.mem_map.mpr ⟨v, hv, e⟩
  · intro hp
    obtain ⟨v, hv, rfl⟩ := List.mem_map.mp hp
    obtain ⟨_, ne, k0, k1, _, _, hk, _⟩ := between ok h v hv
    obtain ⟨i, hi⟩ := List.exists_mem_of_ne_nil _ ne
    unfold bestF
    refine List.mem_map.mpr ⟨i, List.mem_range.mpr (hk i hi).1, ?_⟩
    rw [guess_is ok h hv hi]
    rfl
theorem lv_nodup (ok : FdOk f) {fs : List Lv} {kn : List Nat} (h : Steps f fs kn) : (fs.map (·.1)).Nodup := by
  refine List.pairwise_map.mpr (List.Pairwise.imp (fun {a b} (e : under a.1 b.1 = true) => ?_) (fall ok h).2)
  intro z
  have := under_iff.mp e
  rw [z] at this
  exact absurd this (Int.lt_irrefl _)
/-- any list of the same values, each once, has as many as there are levels -/
theorem lv_count (ok : FdOk f) {fs : List Lv} {kn : List Nat} (h : Steps f fs kn) (hn : f.n ≤ kn.length) {ds : List Fr} (h1 : ds.Nodup) (h2 : ∀ p, p ∈ ds ↔ p ∈ bestF f) : fs.length = ds.length := by
  have p : ds.Perm (fs.map (·.1)) := (List.perm_ext_iff_of_nodup h1 (lv_nodup ok h)).mpr fun p => (h2 p).trans (mem_tab ok h hn)
  rw [p.length_eq, List.length_map]
end
end Ri

set_option maxRecDepth 100000
set_option maxHeartbeats 2000000
/-! PLAIN, 4: sums, the charge. -/
namespace Ri
open PySem PySem.Spec PyProof.Rows L2 Dl
def plusF (a b : Fr) : Fr := mk (a.1 * b.2 + b.1 * a.2) (a.2 * b.2)
def lessF (a b : Fr) : Fr := mk (a.1 * b.2 - b.1 * a.2) (a.2 * b.2)
def timesF (a b : Fr) : Fr := mk (a.1 * b.1) (a.2 * b.2)
theorem plus_mk {s t d : Int} (hd : 0 < d) : plusF (mk s d) (mk t d) = mk (s + t) d := by
  have v1 := mk_val (t := s) hd
  have v2 := mk_val (t := t) hd
  have p1 := (mk_red (t := s) hd).pos
  have p2 := (mk_red (t := t) hd).pos
  unfold plusF
  refine mk_eq (Int.mul_pos p1 p2) hd ?_
  generalize (mk s d).1 = a at *
  generalize (mk s d).2 = b at *
  generalize (mk t d).1 = x at *
  generalize (mk t d).2 = y at *
  rw [Int.add_mul, Int.add_mul]
  have e1 : a * y * d = a * d * y := Int.mul_right_comm ..
  have e2 : x * b * d = x * d * b := Int.mul_right_comm ..
  have e3 : s * b * y = s * (b * y) := Int.mul_assoc ..
  have e4 : t * y * b = t * (b * y) := by rw [Int.mul_assoc, Int.mul_comm y b]
  rw [e1, e2, v1, v2, e3, e4]
theorem times_mk {t d w : Int} (hd : 0 < d) : timesF (mk t d) (w, 1) = mk (w * t) d := by
  have v1 := mk_val (t := t) hd
  have p1 := (mk_red (t := t) hd).pos
  unfold timesF
  simp only [Int.mul_one]
  refine mk_eq p1 hd ?_
  generalize (mk t d).1 = a at *
  generalize (mk t d).2 = b at *
  have e1 : a * w * d = a * d * w := Int.mul_right_comm ..
  rw [e1, v1]
  simp only [Int.mul_assoc, Int.mul_left_comm, Int.mul_comm]
def chStep (m got : Fr) (z : Fr × Fr) : Fr :=
  if (under (z.1.1, 1) m) ≠ (under z.2 m) then plusF got (timesF (if under (z.1.1, 1) m then lessF m (z.1.1, 1) else lessF (z.1.1, 1) m) (z.1.2, 1)) else got
def chargeL (f : Fd) (m : Fr) (gs : List Fr) : Fr := (f.seen.zip gs).foldl (chStep m) (0, 1)
theorem mk_zero {d : Int} (hd : 0 < d) : mk 0 d = (0, 1) := by
  rw [mk_eq (s := 0) (d := 1) hd (by decide) (by omega)]
  decide
theorem ch_step {m : Fr} (hm : 0 < m.2) (s : Int) (z : Fr × Fr) : chStep m (mk s m.2) z = mk (s + chAt z.1 z.2 m) m.2 := by
  unfold chStep chAt
  by_cases h1 : z.1.1 * m.2 < m.1
  · have e1 : under (z.1.1, 1) m = true := under_iff.mpr (by simp only [Int.mul_one]; exact h1)
    rw [e1]
    by_cases h2 : under z.2 m = true
    · rw [h2, if_neg (by simp), if_neg (by simp), if_neg (by omega), Int.add_zero]
    · have h2 := Bool.eq_false_iff.mpr h2
      rw [h2, if_pos (by simp), if_pos rfl, if_pos ⟨by omega, rfl⟩]
      have e2 : lessF m (z.1.1, 1) = mk (m.1 - z.1.1 * m.2) m.2 := by
        unfold lessF
        simp only [Int.mul_one]
      rw [e2, times_mk hm, plus_mk hm]
  · have e1 : under (z.1.1, 1) m = false := under_no.mpr (by simp only [Int.mul_one]; omega)
    rw [e1]
    by_cases h2 : under z.2 m = true
    · rw [h2, if_pos (by simp), if_neg (by simp), if_neg (by omega), if_pos ⟨by omega, rfl⟩]
      have e2 : lessF (z.1.1, 1) m = mk (z.1.1 * m.2 - m.1) m.2 := by
        unfold lessF
        simp only [Int.mul_one, Int.one_mul]
      rw [e2, times_mk hm, plus_mk hm]
      have e3 : z.1.2 * (z.1.1 * m.2 - m.1) = 0 - z.1.2 * (m.1 - z.1.1 * m.2) := by
        rw [Int.mul_sub, Int.mul_sub]
        omega
      rw [e3]
    · have h2 := Bool.eq_false_iff.mpr h2
      rw [h2, if_neg (by simp), if_neg (by simp; omega), if_neg (by simp), Int.add_zero]
theorem ch_all {m : Fr} (hm : 0 < m.2) : ∀ (l : List (Fr × Fr)) (s : Int), l.foldl (chStep m) (mk s m.2) = mk (s + (l.map fun z => chAt z.1 z.2 m).sum) m.2
  | [], s => by
    show mk s m.2 = mk (s + 0) m.2
    rw [Int.add_zero]
  | z :: l, s => by
    rw [List.foldl_cons, ch_step hm, ch_all hm l, List.map_cons, List.sum_cons, Int.add_assoc]
theorem charge_eq {f : Fd} {m : Fr} (hm : 0 < m.2) (gs : List Fr) : chargeL f m gs = chargeF f m gs := by
  unfold chargeL chargeF
  rw [← mk_zero hm, ch_all hm, Int.zero_add]
end Ri

set_option maxRecDepth 100000
set_option maxHeartbeats 2000000
/-! THE LAW'S DEFS, 3: one of some; fractions. -/
namespace Ri
open PySem PySem.Spec PyProof.Rows L2 Dl
section
variable {w : World} {K : PySem.W.Frag} {mg : Str → Option Value} {base : Heap} {aI aF aL aC cT pT : Addr}
def gPick : GC := fun ds O Q => match ds with
  | [.ptr p, .lst xs] => ∃ O0 q s, p ≠ q ∧ O = setS O0 p q s ∧ StN 1 s ∧ xs ≠ [] ∧ xs.length ≤ 1000000 ∧ Q (xs.getD (drawV s xs.length).toNat .non) (setS O0 p q (drawS s xs.length))
  | _ => False
theorem k_law_of (c : Hd w K mg base aI aF aL aC cT pT) : Dl.Def prog w K mg base 3 "_law_of" ["_law_state", "_law_some"] gPick := by
  have k_law_draw := k_law_draw c
  have S : FnScope ["_law_state", "_law_some"] ["_law_state", "_law_some"] (defScope s_law_of) := C8.fnScope_by (by kernel_rfl)
  have hN := S.nd
  refine def_ok c.f_law_of S (fun _ _ _ _ _ _ us hl => match us, hl with | [_, _], _ => rfl) (fun ds O R h => ?_) fun f cdv A outer s H E hr => ⟨_, have hu := room64 hr; have hu5 := room65 hr; have hu1 := room1 hr; (s_one (s_ret (d_ix (dv 1) (d_call k_law_draw hr (by decide) (a_cons (dv 0) (a_cons (d_callB c_len c.m_len bt_len (a_cons (dv 1) a_nil)) a_nil)))))), fun ds O R h => ?_⟩
  · unfold gPick at h
    split at h <;> first | rfl | exact h.elim
  · unfold gPick at h
    split at h
    · rename_i p xs
      obtain ⟨O0, q, s, ne, rfl, hs, hx, hl, h⟩ := h
      have hx := List.length_pos_iff.mpr hx
      dsimp only [tdRet]
      refine op_l (v_i (i := 1) rfl (call_v (cons_v (v_i (i := 0) rfl (cons_v (call1_v (i := 1) rfl ?_))))))
      refine ⟨O0, q, s, ne, rfl, hs, (by omega : (0 : Int) < (xs.length : Int)), smn (by omega), ?_⟩
      obtain ⟨b1, b2⟩ := drawV_bd (s := s) (m := (xs.length : Int)) (by omega)
      have e : drawV s xs.length = ((drawV s xs.length).toNat : Int) := by omega
      rw [e]
      refine ix_lst (d := xs.getD (drawV s xs.length).toNat .non) ?_ (Fin.i h)
      rw [List.getD_eq_getElem?_getD, List.getElem?_eq_getElem (by omega)]
      rfl
    · exact h.elim
def gTwo (F : Fr → Fr → Fr) : GC := fun ds O Q => match ds with
  | [a', b'] => ∃ a b, a' = frD a ∧ b' = frD b ∧ BdF 1000 a ∧ BdF 1000 b ∧ 0 < a.2 ∧ 0 < b.2 ∧ Q (frD (F a b)) O
  | _ => False
theorem bd_sm2 {i j : Int} (h : Bd 1000 i) (g : Bd 1000 j) : CMulW i j := sm_mul (h.sm (by decide)) (g.sm (by decide))
theorem k_law_plus (c : Hd w K mg base aI aF aL aC cT pT) : Dl.Def prog w K mg base 2 "_law_plus" ["_law_one", "_law_other"] (gTwo plusF) := by
  have k_law_ratio := k_law_ratio c
  have S : FnScope ["_law_one", "_law_other"] ["_law_one", "_law_other"] (defScope s_law_plus) := C8.fnScope_by (by kernel_rfl)
  have hN := S.nd
  refine def_ok c.f_law_plus S (fun _ _ _ _ _ _ us hl => match us, hl with | [_, _], _ => rfl) (fun ds O R h => ?_) fun f cdv A outer s H E hr => ⟨_, have hu := room64 hr; have hu5 := room65 hr; have hu1 := room1 hr; (s_one (s_ret (d_call k_law_ratio hr (by decide) (a_cons (d_op o_add (d_op o_mul (d_ix (dv 0) d_int) (d_ix (dv 1) d_int)) (d_op o_mul (d_ix (dv 1) d_int) (d_ix (dv 0) d_int))) (a_cons (d_op o_mul (d_ix (dv 0) d_int) (d_ix (dv 1) d_int)) a_nil))))), fun ds O R h => ?_⟩
  · unfold gTwo at h
    split at h <;> first | rfl | exact h.elim
  · unfold gTwo at h
    split at h
    · obtain ⟨a, b, rfl, rfl, ha, hb, a0, b0, h⟩ := h
      refine ⟨bd_sm2 ha.1 hb.2, bd_sm2 hb.1 ha.2, bd_sm2 ha.2 hb.2, ?_⟩
      exact ⟨⟨Int.mul_pos a0 b0, (ha.2.mul hb.2).sm (by decide)⟩, Fin.i h⟩
    · exact h.elim
theorem k_law_less (c : Hd w K mg base aI aF aL aC cT pT) : Dl.Def prog w K mg base 2 "_law_less" ["_law_one", "_law_other"] (gTwo lessF) := by
  have k_law_ratio := k_law_ratio c
  have S : FnScope ["_law_one", "_law_other"] ["_law_one", "_law_other"] (defScope s_law_less) := C8.fnScope_by (by kernel_rfl)
  have hN := S.nd
  refine def_ok c.f_law_less S (fun _ _ _ _ _ _ us hl => match us, hl with | [_, _], _ => rfl) (fun ds O R h => ?_) fun f cdv A outer s H E hr => ⟨_, have hu := room64 hr; have hu5 := room65 hr; have hu1 := room1 hr; (s_one (s_ret (d_call k_law_ratio hr (by decide) (a_cons (d_op o_sub (d_op o_mul (d_ix (dv 0) d_int) (d_ix (dv 1) d_int)) (d_op o_mul (d_ix (dv 1) d_int) (d_ix (dv 0) d_int))) (a_cons (d_op o_mul (d_ix (dv 0) d_int) (d_ix (dv 1) d_int)) a_nil))))), fun ds O R h => ?_⟩
  · unfold gTwo at h
    split at h <;> first | rfl | exact h.elim
  · unfold gTwo at h
    split at h
    · obtain ⟨a, b, rfl, rfl, ha, hb, a0, b0, h⟩ := h
      refine ⟨bd_sm2 ha.1 hb.2, bd_sm2 hb.1 ha.2, bd_sm2 ha.2 hb.2, ?_⟩
      exact ⟨⟨Int.mul_pos a0 b0, (ha.2.mul hb.2).sm (by decide)⟩, Fin.i h⟩
    · exact h.elim
theorem k_law_times (c : Hd w K mg base aI aF aL aC cT pT) : Dl.Def prog w K mg base 2 "_law_times" ["_law_one", "_law_other"] (gTwo timesF) := by
  have k_law_ratio := k_law_ratio c
  have S : FnScope ["_law_one", "_law_other"] ["_law_one", "_law_other"] (defScope s_law_times) := C8.fnScope_by (by kernel_rfl)
  have hN := S.nd
  refine def_ok c.f_law_times S (fun _ _ _ _ _ _ us hl => match us, hl with | [_, _], _ => rfl) (fun ds O R h => ?_) fun f cdv A outer s H E hr => ⟨_, have hu := room64 hr; have hu5 := room65 hr; have hu1 := room1 hr; (s_one (s_ret (d_call k_law_ratio hr (by decide) (a_cons (d_op o_mul (d_ix (dv 0) d_int) (d_ix (dv 1) d_int)) (a_cons (d_op o_mul (d_ix (dv 0) d_int) (d_ix (dv 1) d_int)) a_nil))))), fun ds O R h => ?_⟩
  · unfold gTwo at h
    split at h <;> first | rfl | exact h.elim
  · unfold gTwo at h
    split at h
    · obtain ⟨a, b, rfl, rfl, ha, hb, a0, b0, h⟩ := h
      refine ⟨bd_sm2 ha.1 hb.1, bd_sm2 ha.2 hb.2, ?_⟩
      exact ⟨⟨Int.mul_pos a0 b0, (ha.2.mul hb.2).sm (by decide)⟩, Fin.i h⟩
    · exact h.elim
def gLUnder : GC := fun ds O Q => match ds with
  | [a', b'] => ∃ a b, a' = frD a ∧ b' = frD b ∧ BdF 1000 a ∧ BdF 1000 b ∧ Q (.bl (under a b)) O
  | _ => False
theorem k_law_under (c : Hd w K mg base aI aF aL aC cT pT) : Dl.Def prog w K mg base 1 "_law_under" ["_law_one", "_law_other"] gLUnder := by
  have S : FnScope ["_law_one", "_law_other"] ["_law_one", "_law_other"] (defScope s_law_under) := C8.fnScope_by (by kernel_rfl)
  have hN := S.nd
  refine def_ok c.f_law_under S (fun _ _ _ _ _ _ us hl => match us, hl with | [_, _], _ => rfl) (fun ds O R h => ?_) fun f cdv A outer s H E hr => ⟨_, have hu := room64 hr; have hu5 := room65 hr; have hu1 := room1 hr; (s_one (s_ret (d_cmp o_lt (d_op o_mul (d_ix (dv 0) d_int) (d_ix (dv 1) d_int)) (d_op o_mul (d_ix (dv 1) d_int) (d_ix (dv 0) d_int))))), fun ds O R h => ?_⟩
  · unfold gLUnder at h
    split at h <;> first | rfl | exact h.elim
  · unfold gLUnder at h
    split at h
    · obtain ⟨a, b, rfl, rfl, ha, hb, h⟩ := h
      refine ⟨bd_sm2 ha.1 hb.2, bd_sm2 hb.1 ha.2, ?_⟩
      exact Fin.i h
    · exact h.elim
end
end Ri

set_option maxRecDepth 100000
set_option maxHeartbeats 2000000
/-! THE LAW'S DEFS, 4: what is above; upper lots. -/
namespace Ri
open PySem PySem.Spec PyProof.Rows L2 Dl
def rowL (r : List Int) : D := .lst (r.map .int)
def moreI (g : List (List Int)) (i : Nat) : List Int := g.getD i [] ++ (g.getD i []).flatMap fun x => g.getD x.toNat []
def kvI (l : List Int) : KVs := l.map fun x => (Sum.inl x, D.bl true)
def ddI (l : List Int) : List Int := l.foldl (fun acc x => if x ∈ acc then acc else acc ++ [x]) []
theorem put_kvI (l : List Int) (x : Int) : putKD (kvI l) (Sum.inl x : Key) (D.bl true) = kvI (if x ∈ l then l else l ++ [x]) := by
  unfold putKD
  by_cases h : x ∈ l
  · rw [if_pos h, if_pos]
    · unfold kvI
      rw [List.map_map]
      refine List.map_congr_left fun y _ => ?_
      show (if (Sum.inl y : Key) = Sum.inl x then ((Sum.inl y : Key), D.bl true) else (Sum.inl y, D.bl true)) = _
      split <;> rfl
    · exact List.any_eq_true.mpr ⟨(Sum.inl x, D.bl true), List.mem_map.mpr ⟨x, h, rfl⟩, decide_eq_true rfl⟩
  · rw [if_neg h, if_neg]
    · unfold kvI
      rw [List.map_append]
      rfl
    · intro e
      obtain ⟨y, h1, h2⟩ := List.any_eq_true.mp e
      obtain ⟨z, h3, h4⟩ := List.mem_map.mp h1
      subst h4
      have h5 := Sum.inl.inj (of_decide_eq_true h2)
      exact h (h5 ▸ h3)
theorem merge_kvI : ∀ (l acc : List Int), mergeKD (kvI acc) (kvI l) = kvI (l.foldl (fun acc x => if x ∈ acc then acc else acc ++ [x]) acc)
  | [], _ => rfl
  | x :: l, acc => by
    show mergeKD (putKD (kvI acc) (Sum.inl x : Key) (D.bl true)) (kvI l) = _
    rw [put_kvI, merge_kvI l]
    rfl
theorem dd_fold : ∀ (l acc : List Int), acc.Nodup → (l.foldl (fun acc x => if x ∈ acc then acc else acc ++ [x]) acc).Nodup ∧ ∀ x, x ∈ l.foldl (fun acc x => if x ∈ acc then acc else acc ++ [x]) acc ↔ x ∈ acc ∨ x ∈ l
  | [], acc, h => ⟨h, fun x => by simp⟩
  | y :: l, acc, h => by
    rw [List.foldl_cons]
    by_cases q : y ∈ acc
    · rw [if_pos q]
      obtain ⟨h1, h2⟩ := dd_fold l acc h
      refine ⟨h1, fun x => ?_⟩
      rw [h2, List.mem_cons]
      constructor
      · rintro (z | z)
        · exact .inl z
        · exact .inr (.inr z)
      · rintro (z | z | z)
        · exact .inl z
        · exact .inl (z ▸ q)
        · exact .inr z
    · rw [if_neg q]
      obtain ⟨h1, h2⟩ := dd_fold l (acc ++ [y]) (List.nodup_append.mpr ⟨h, by simp, fun a ha b hb e => by
        have : b = y := by simpa using hb
        subst this
        exact q (e ▸ ha)⟩)
      refine ⟨h1, fun x => ?_⟩
      rw [h2, List.mem_append, List.mem_singleton, List.mem_cons]
      constructor
      · rintro ((z | z) | z)
        · exact .inl z
        · exact .inr (.inl z)
        · exact .inr (.inr z)
      · rintro (z | z | z)
        · exact .inl (.inl z)
        · exact .inl (.inr z)
        · exact .inr z
theorem dd_nodup (l : List Int) : (ddI l).Nodup := (dd_fold l [] .nil).1
theorem mem_dd {l : List Int} {x : Int} : x ∈ ddI l ↔ x ∈ l := ((dd_fold l [] .nil).2 x).trans (by simp)
theorem keysI_kvI (l : List Int) : keysI (kvI l) = some l := by
  induction l with
  | nil => rfl
  | cons x l ih =>
    show (keysI (kvI l)).map (x :: ·) = _
    rw [ih]
    rfl
theorem int_row_len {n : Nat} {r : List Int} (h1 : r.Nodup) (h2 : ∀ x ∈ r, 0 ≤ x ∧ x < n) : r.length ≤ n := by
  have h := h1.length_le_of_subset (l₂ := toI (List.range n)) fun x hx => by
    obtain ⟨a, b⟩ := h2 x hx
    have e : x = ((x.toNat : Nat) : Int) := by omega
    rw [e]
    exact mem_toI.mpr (List.mem_range.mpr (by omega))
  unfold toI at h
  rw [List.length_map, List.length_range] at h
  exact h
theorem row_at {g : List (List Int)} {i : Nat} (h : i < g.length) : (g.map rowL)[i]? = some (rowL (g.getD i [])) := by
  rw [List.getElem?_map, List.getD_eq_getElem?_getD, List.getElem?_eq_getElem h]
  rfl
theorem row_mem {g : List (List Int)} {i : Nat} (h : i < g.length) : g.getD i [] ∈ g := by
  rw [List.getD_eq_getElem?_getD, List.getElem?_eq_getElem h]
  exact List.getElem_mem h
/-- rows of places within -/
structure RowsOk (g : List (List Int)) : Prop where
  ln : ∀ r ∈ g, r.length ≤ 100
  lt : ∀ r ∈ g, ∀ x ∈ r, 0 ≤ x ∧ x < (g.length : Int)
theorem flat_len {g : List (List Int)} (h : RowsOk g) : ∀ (l : List Int), (∀ x ∈ l, 0 ≤ x ∧ x < (g.length : Int)) → (l.flatMap fun x => g.getD x.toNat []).length ≤ 100 * l.length
  | [], _ => Nat.zero_le _
  | x :: l, e => by
    rw [List.flatMap_cons, List.length_append, List.length_cons]
    have := flat_len h l fun y hy => e y (List.mem_cons_of_mem _ hy)
    have b := e x List.mem_cons_self
    have := h.ln _ (row_mem (g := g) (i := x.toNat) (by omega))
    omega
section
variable {w : World} {K : PySem.W.Frag} {mg : Str → Option Value} {base : Heap} {aI aF aL aC cT pT : Addr}
def gMore : GC := fun ds O Q => match ds with
  | [.lst rs, .int k] => ∃ g i, rs = List.map rowL g ∧ k = ((i : Nat) : Int) ∧ i < g.length ∧ RowsOk g ∧ Q (rowL (moreI g i)) O
  | _ => False
theorem k_law_more (c : Hd w K mg base aI aF aL aC cT pT) : Dl.Def prog w K mg base 1 "_law_more" ["_law_rows", "_law_one"] gMore := by
  have S : FnScope ["_law_rows", "_law_one", "_law_found", "_law_far"] ["_law_rows", "_law_one"] (defScope s_law_more) := C8.fnScope_by (by kernel_rfl)
  have hN := S.nd
  refine def_ok c.f_law_more S (fun _ _ _ _ _ _ us hl => match us, hl with | [_, _], _ => rfl) (fun ds O R h => ?_) fun f cdv A outer s H E hr => ⟨_, have hu := room64 hr; have hu5 := room65 hr; have hu1 := room1 hr; (s_cons (s_set 2 hN (d_callTy c_list c.m_list bt_list (a_cons (d_ix (dv 0) (dv 1)) a_nil)))
  (s_cons (s_for PassesOwn.never rfl (i_seq (d_ix (dv 0) (dv 1))) (g_name 3 hN) (s_one (s_set 2 hN (d_op o_add (dv 2) (d_ix (dv 0) (dv 3))))))
  (s_one (s_ret (dv 2))))), fun ds O R h => ?_⟩
  · unfold gMore at h
    split at h <;> first | rfl | exact h.elim
  · unfold gMore at h
    split at h
    · obtain ⟨g, i, rfl, rfl, hi, hg, h⟩ := h
      have hr := row_mem hi
      dsimp only [tdSeq, tdAsg]
      refine call_v (cons_v (op_vv (i := 0) (j := 1) rfl rfl (ix_lst (row_at hi) ?_)))
      refine (show tdFor (tiSeq (tdOp gIx (tdV 0) (tdV 1))) (gdN 3) (tdAsg (tdOp gAdd (tdV 2) (tdOp gIx (tdV 0) (tdV 3))) (gdN 2)) { nx := tdRet (tdV 2) { nx := fun _ O' => Dl.Fin R .non O', rt := Dl.Fin R }, rt := Dl.Fin R } [some (.lst (g.map rowL)), some (.int (i : Int)), some (rowL (g.getD i [])), none] O from ?_)
      dsimp only [tdFor, tiSeq]
      refine op_vv (i := 0) (j := 1) rfl rfl (ix_lst (row_at hi) ?_)
      refine for_ind (fun rem env O' => O' = O ∧ ∃ dn rest x3, g.getD i [] = dn ++ rest ∧ rem = rest.map D.int ∧ env = [some (.lst (g.map rowL)), some (.int (i : Int)), some (rowL (g.getD i [] ++ dn.flatMap fun x => g.getD x.toNat [])), x3])
        (fun d r env O' N h1 k => ?_) (fun env O' h1 => ?_) ⟨rfl, [], g.getD i [], none, rfl, rfl, by rw [List.flatMap_nil, List.append_nil]⟩
      · obtain ⟨rfl, dn, rest, x3, hd, hrem, rfl⟩ := h1
        cases rest with
        | nil => cases hrem
        | cons y rest =>
          rw [List.map_cons] at hrem
          injection hrem with e1 e2
          subst e1 e2
          have hy : y ∈ g.getD i [] := by
            rw [hd]
            exact List.mem_append_right _ List.mem_cons_self
          obtain ⟨y0, y1⟩ := hg.lt _ hr y hy
          obtain ⟨m, rfl⟩ : ∃ m : Nat, y = (m : Int) := ⟨y.toNat, by omega⟩
          have hm : m < g.length := by omega
          dsimp only [gdN, tdAsg]
          refine op_l (v_i (i := 2) rfl ?_)
          refine op_vv (i := 0) (j := 3) rfl rfl (ix_lst (row_at hm) ?_)
          have l1 := hg.ln _ hr
          have l2 := hg.ln _ (row_mem hm)
          have l3 := flat_len hg dn fun x hx => hg.lt _ hr x (by rw [hd]; exact List.mem_append_left _ hx)
          have l4 : dn.length ≤ 100 := by
            have := congrArg List.length hd
            rw [List.length_append] at this
            omega
          refine needB_i (szB_i (by rw [List.length_map, List.length_map, List.length_append]; omega)) ?_
          refine k _ _ ⟨rfl, dn ++ [(m : Int)], rest, some (.int (m : Int)), by rw [hd, List.append_assoc]; rfl, rfl, ?_⟩
          have e : (dn ++ [(m : Int)]).flatMap (fun x => g.getD x.toNat []) = (dn.flatMap fun x => g.getD x.toNat []) ++ g.getD m [] := by
            rw [List.flatMap_append, List.flatMap_cons, List.flatMap_nil, List.append_nil, Int.toNat_natCast]
          rw [e, ← List.append_assoc]
          unfold rowL
          rw [List.map_append (l₁ := g.getD i [] ++ _)]
          rfl
      · obtain ⟨rfl, dn, rest, x3, hd, hrem, rfl⟩ := h1
        have e : rest = [] := List.map_eq_nil_iff.mp hrem.symm
        subst e
        rw [List.append_nil] at hd
        subst hd
        exact Fin.i h
    · exact h.elim
theorem ne_nilL {O : DO} {k : D → Prop} (xs : List D) (hx : okDs 59 xs = true) (h : k (.bl (!xs.isEmpty))) : gNe O (.lst xs) (.lst []) k := by
  refine ⟨hx, rfl, ?_⟩
  show k (.bl (!PyData.eqv (.list (toPys xs)) (.list (toPys []))))
  rw [eqv_nil]
  exact h
theorem okDs_ones {α : Type} (l : List α) : okDs 59 (l.map fun _ => D.int 1) = true := by
  have e : (l.map fun _ => D.int 1) = (l.map fun _ => (1 : Int)).map D.int := by rw [List.map_map]; rfl
  rw [e]
  exact okDs_ints _
def isUpL (g : List (List Int)) (l : List Nat) : Bool := l.all fun i => (g.getD i []).all fun x => decide (x ∈ toI l)
def gLIsUp : GC := fun ds O Q => match ds with
  | [.lst rs, .tup xs] => ∃ g l, rs = List.map rowL g ∧ xs = natD l ∧ (∀ i ∈ l, i < g.length) ∧ Q (.bl (isUpL g l)) O
  | _ => False
theorem k_law_is_up (c : Hd w K mg base aI aF aL aC cT pT) : Dl.Def prog w K mg base 1 "_law_is_up" ["_law_higher", "_law_lot"] gLIsUp := by
  have S : FnScope ["_law_higher", "_law_lot", "_law_one", "_law_far"] ["_law_higher", "_law_lot"] (defScope s_law_is_up) := C8.fnScope_by (by kernel_rfl)
  have hN := S.nd
  refine def_ok c.f_law_is_up S (fun _ _ _ _ _ _ us hl => match us, hl with | [_, _], _ => rfl) (fun ds O R h => ?_) fun f cdv A outer s H E hr => ⟨_, have hu := room64 hr; have hu5 := room65 hr; have hu1 := room1 hr; (s_cons (s_for PassesOwn.never rfl (i_seq (dv 1)) (g_name 2 hN) (s_one (s_if (t_cmp (o_ne hu) (d_lc rfl hN (i_seq (d_ix (dv 0) (dv 2))) (blkOk_by (own := [("_law_far", 3)]) (by kernel_rfl)) (fun _ _ _ _ _ => (g_name 3 hN)) (fun _ _ _ _ _ => (ts_one (t_cmp (o_notin hu5) (dv 3) (dv 1)))) (fun _ _ _ _ _ => d_int)) (d_lst a_nil))
  (s_one (s_ret d_bl))
  s_nil)))
  (s_one (s_ret d_bl))), fun ds O R h => ?_⟩
  · unfold gLIsUp at h
    split at h <;> first | rfl | exact h.elim
  · unfold gLIsUp at h
    split at h
    · obtain ⟨g, l, rfl, rfl, hl, h⟩ := h
      refine for_ind (fun rem env O' => O' = O ∧ ∃ dn rest x2, l = dn ++ rest ∧ (dn.all fun i => (g.getD i []).all fun x => decide (x ∈ toI l)) = true ∧ rem = rest.map (fun (j : Nat) => D.int (j : Int)) ∧ env = [some (.lst (g.map rowL)), some (.tup (natD l)), x2, none])
        (fun d r env O' N h1 k => ?_) (fun env O' h1 => ?_) ⟨rfl, [], l, none, rfl, rfl, rfl, rfl⟩
      · obtain ⟨rfl, dn, rest, x2, hd, hal, hrem, rfl⟩ := h1
        cases rest with
        | nil => cases hrem
        | cons i rest =>
          rw [List.map_cons] at hrem
          injection hrem with e1 e2
          subst e1 e2
          have hi : i ∈ l := by
            rw [hd]
            exact List.mem_append_right _ List.mem_cons_self
          refine (show tdIfS (tdT (tdOp gNe (tdLc (tiSeq (tdOp gIx (tdV 0) (tdV 2))) (gdN 3) (tdT (tdOp (gIn true) (tdV 3) (tdV 1))) (tdC (.int 1)) [3]) (tdLst tdNil))) (tdRet (tdC (.bl false))) tdNx { nx := N, rt := Dl.Fin R, ct := N, bk := fun e O' => tdRet (tdC (.bl true)) { nx := fun _ O' => Dl.Fin R .non O', rt := Dl.Fin R } e O' } [some (.lst (g.map rowL)), some (.tup (natD l)), some (.int (i : Int)), none] O' from ?_)
          refine tt_l (op_l ?_)
          dsimp only [tdLc, tiSeq]
          refine op_vv (i := 0) (j := 2) rfl rfl (ix_lst (row_at (hl i hi)) ?_)
          refine lcD_pure (g.getD i []) D.int (fun x => !decide (x ∈ toI l)) (fun _ => .int 1) (fun x hx K1 K0 k1 k0 => ?_) [] ?_
          · dsimp only [gdN]
            refine tt_l (op_vv (i := 3) (j := 1) (x := .int x) (y := .tup (natD l)) rfl rfl (in_not x (toI l) _ (.inr (by rw [← natD_toI])) ?_))
            exact iteB_i k1 k0
          · rw [List.nil_append]
            dsimp only [tdLst, tdNil]
            refine needB_i rfl ?_
            refine ne_nilL _ (okDs_ones _) ?_
            refine iteB_i (fun e => ?_) (fun e => ?_)
            · have e2 : isUpL g l = false := by
                unfold isUpL
                refine List.all_eq_false.mpr ⟨i, hi, ?_⟩
                intro z
                have z2 : (g.getD i []).filter (fun x => !decide (x ∈ toI l)) = [] := List.filter_eq_nil_iff.mpr fun x hx => by
                  have := List.all_eq_true.mp z x hx
                  rw [this]
                  decide
                rw [z2] at e
                cases e
              rw [e2] at h
              exact Fin.i h
            · refine k _ _ ⟨rfl, dn ++ [i], rest, some (.int (i : Int)), by rw [hd, List.append_assoc]; rfl, ?_, rfl, rfl⟩
              rw [List.all_append, hal, Bool.true_and]
              show ((g.getD i []).all (fun x => decide (x ∈ toI l)) && true) = true
              rw [Bool.and_true]
              refine List.all_eq_true.mpr fun x hx => ?_
              have e : ∀ a, a ∈ g.getD i [] → a ∈ toI l := by simpa using e
              exact decide_eq_true (e x hx)
      · obtain ⟨rfl, dn, rest, x2, hd, hal, hrem, rfl⟩ := h1
        have e : rest = [] := List.map_eq_nil_iff.mp hrem.symm
        subst e
        rw [List.append_nil] at hd
        subst hd
        have e2 : isUpL g l = true := hal
        rw [e2] at h
        exact Fin.i h
    · exact h.elim
theorem Sub_none {O0 O1 : DO} {p : Addr} (s : Sub O0 O1) (h : O1 p = none) : O0 p = none := by
  cases e : O0 p with
  | none => rfl
  | some c =>
    have z := s p c e
    rw [h] at z
    cases z
/-- a walk whose elements leave cells behind -/
theorem lcD_grow {α : Type} {g : GD} {te : TD} {env : DEnv} {O : DO} {Q : List D → DO → Prop} (it : α → D) (f : α → D) : ∀ (xs : List α), (∀ x ∈ xs, ∀ O1, Sub O O1 → ∀ K1 : D → DO → Prop, (∀ O2, Sub O O2 → K1 (f x) O2) → g (it x) env O1 fun env2 O2 => te env2 O2 K1) → ∀ acc O1, Sub O O1 → (∀ O2, Sub O O2 → Q (acc ++ xs.map f) O2) → lcD g tdYes te env (xs.map it) acc O1 Q
  | [], _, acc, O1, s, q => by
    have := q O1 s
    rw [List.map_nil, List.append_nil] at this
    exact this
  | x :: xs, h, acc, O1, s, q => by
    refine h x List.mem_cons_self O1 s (fun y O3 => lcD g tdYes te env (xs.map it) (acc ++ [y]) O3 Q) fun O2 s2 => ?_
    refine lcD_grow it f xs (fun y hy => h y (List.mem_cons_of_mem _ hy)) (acc ++ [f x]) O2 s2 fun O3 s3 => ?_
    have := q O3 s3
    rw [List.map_cons] at this
    rw [List.append_assoc]
    exact this
theorem dict_ints {O : DO} {Q : D → DO → Prop} (l : List Int) (h : ∀ p, O p = none → Q (.ptr p) (updO O p (.dK (kvI (ddI l))))) : gDict [.lst (l.map fun x => D.tup [.int x, .bl true])] O Q := by
  show (match pairsD (l.map fun x => D.tup [.int x, .bl true]) with
    | some kvs => ∀ p, O p = none → Q (.ptr p) (updO O p (.dK (mergeKD [] kvs)))
    | none => False)
  rw [pairsD_map (fun x : Int => (Sum.inl x : Key)) (fun _ => D.bl true) _ (fun _ => rfl)]
  intro p hp
  have e : mergeKD [] (l.map fun x => ((Sum.inl x : Key), D.bl true)) = kvI (ddI l) := merge_kvI l []
  show Q (.ptr p) (updO O p (.dK (mergeKD [] (l.map fun x => ((Sum.inl x : Key), D.bl true)))))
  rw [e]
  exact h p hp
/-- rows that hold what is above -/
structure AbI (f : Fd) (g : List (List Int)) : Prop where
  ln : g.length = f.n
  nd : ∀ i, i < f.n → (g.getD i []).Nodup
  mem : ∀ i, i < f.n → ∀ x, x ∈ g.getD i [] ↔ x ∈ upsI f i
theorem getD_range {n i : Nat} {r : Nat → List Int} (h : i < n) : ((List.range n).map r).getD i [] = r i := by
  rw [List.getD_eq_getElem?_getD, List.getElem?_map, List.getElem?_range h]
  rfl
theorem mem_getD {g : List (List Int)} {r : List Int} (h : r ∈ g) : ∃ i, i < g.length ∧ g.getD i [] = r := by
  obtain ⟨i, hi, e⟩ := List.getElem_of_mem h
  exact ⟨i, hi, by rw [List.getD_eq_getElem?_getD, List.getElem?_eq_getElem hi]; exact e⟩
theorem ups_lt {f : Fd} (ok : FdOk f) {i : Nat} {x : Int} (h : x ∈ upsI f i) : 0 ≤ x ∧ x < (f.n : Int) := by
  obtain ⟨j, rfl, hj⟩ := mem_upsI.mp h
  have := (ok.lt _ hj).2
  omega
theorem AbI.rows {f : Fd} (ok : FdOk f) {g : List (List Int)} (h : AbI f g) : RowsOk g := by
  have n6 := ok.n6
  have key : ∀ r ∈ g, r.Nodup ∧ ∀ x ∈ r, 0 ≤ x ∧ x < (f.n : Int) := fun r hr => by
    obtain ⟨i, hi, rfl⟩ := mem_getD hr
    rw [h.ln] at hi
    exact ⟨h.nd i hi, fun x hx => ups_lt ok ((h.mem i hi x).mp hx)⟩
  refine ⟨fun r hr => ?_, fun r hr x hx => ?_⟩
  · have := int_row_len (key r hr).1 (key r hr).2
    omega
  · rw [h.ln]
    exact (key r hr).2 x hx
theorem AbI.zero {f : Fd} (ok : FdOk f) : AbI f ((List.range f.n).map fun i => toI (outs f i)) := by
  refine ⟨by rw [List.length_map, List.length_range], fun i hi => ?_, fun i hi x => ?_⟩
  · rw [getD_range hi]
    unfold toI
    refine List.pairwise_map.mpr ((outs_nodup ok i).imp ?_)
    intro a b h e
    exact h (by omega)
  · rw [getD_range hi]
    exact ((isort_perm _).mem_iff (a := x)).symm
theorem AbI.next {f : Fd} (ok : FdOk f) {g : List (List Int)} (h : AbI f g) : AbI f ((List.range f.n).map fun i => isort (ddI (moreI g i))) := by
  refine ⟨by rw [List.length_map, List.length_range], fun i hi => ?_, fun i hi x => ?_⟩
  · rw [getD_range hi]
    exact (isort_perm _).nodup_iff.mpr (dd_nodup _)
  · rw [getD_range hi, (isort_perm _).mem_iff, mem_dd]
    unfold moreI
    rw [List.mem_append, List.mem_flatMap, h.mem i hi]
    constructor
    · rintro (q | ⟨y, hy, q⟩)
      · exact q
      · obtain ⟨j, rfl, hj⟩ := mem_upsI.mp ((h.mem i hi y).mp hy)
        have hjn := (ok.lt _ hj).2
        rw [Int.toNat_natCast] at q
        obtain ⟨k, rfl, hk⟩ := mem_upsI.mp ((h.mem j hjn x).mp q)
        exact mem_upsI.mpr ⟨k, rfl, ok.tr _ _ _ hj hk⟩
    · exact .inl
def gLAboves : GC := fun ds O Q => match ds with
  | [fd] => ∃ f, FdOk f ∧ fd = fdD f ∧ ∀ g, AbI f g → Q (.lst (List.map rowL g)) O
  | _ => False
theorem k_law_aboves (c : Hd w K mg base aI aF aL aC cT pT) : Dl.Def prog w K mg base 2 "_law_aboves" ["_law_field_so"] gLAboves := by
  have k_law_more := k_law_more c
  have S : FnScope ["_law_field_so", "_law_size", "_law_ties", "_law_seen", "_law_got", "_law_turn", "_law_one", "_law_near", "_law_far"] ["_law_field_so"] (defScope s_law_aboves) := C8.fnScope_by (by kernel_rfl)
  have hN := S.nd
  refine def_ok c.f_law_aboves S (fun _ _ _ _ _ _ us hl => match us, hl with | [_], _ => rfl) (fun ds O R h => ?_) fun f cdv A outer s H E hr => ⟨_, have hu := room64 hr; have hu5 := room65 hr; have hu1 := room1 hr; (s_cons (s_asg (dv 0) (g_tup (n := 3) rfl (gs_cons (g_name 1 hN) (gs_cons (g_name 2 hN) (gs_cons (g_name 3 hN) gs_nil)))))
  (s_cons (s_set 4 hN (d_lc rfl hN (i_rng c.m_range (a_cons (dv 1) a_nil)) (blkOk_by (own := [("_law_one", 6)]) (by kernel_rfl)) (fun _ _ _ _ _ => (g_name 6 hN)) (fun _ _ _ _ _ => ts_nil) (fun _ _ _ _ _ => (d_lc rfl hN (i_seq (dv 2)) (blkOk_by (own := [("_law_near", 7), ("_law_far", 8)]) (by kernel_rfl)) (fun _ _ _ _ _ => (g_tup (n := 2) rfl (gs_cons (g_name 7 hN) (gs_cons (g_name 8 hN) gs_nil)))) (fun _ _ _ _ _ => (ts_one (t_cmp (o_eq hu) (dv 7) (dv 6)))) (fun _ _ _ _ _ => (dv 8))))))
  (s_cons (s_for PassesOwn.never rfl (i_rng c.m_range (a_cons (dv 1) a_nil)) (g_name 5 hN) (s_one (s_set 4 hN (d_lc rfl hN (i_rng c.m_range (a_cons (dv 1) a_nil)) (blkOk_by (own := [("_law_one", 6)]) (by kernel_rfl)) (fun _ _ _ _ _ => (g_name 6 hN)) (fun _ _ _ _ _ => ts_nil) (fun _ _ _ _ _ => (d_callB (c_sortD rfl) c.m_sorted bt_sorted (a_cons (d_callTy (c_dict rfl) c.m_dict bt_dict (a_cons (d_lc rfl hN (i_seq (d_call k_law_more hr (by decide) (a_cons (dv 4) (a_cons (dv 6) a_nil)))) (blkOk_by (own := [("_law_far", 8)]) (by kernel_rfl)) (fun _ _ _ _ _ => (g_name 8 hN)) (fun _ _ _ _ _ => ts_nil) (fun _ _ _ _ _ => (d_tup (a_cons (dv 8) (a_cons d_bl a_nil))))) a_nil)) a_nil)))))))
  (s_one (s_ret (dv 4)))))), fun ds O R h => ?_⟩
  · unfold gLAboves at h
    split at h <;> first | rfl | exact h.elim
  · unfold gLAboves at h
    split at h
    · obtain ⟨f, ok, rfl, h⟩ := h
      have n6 := ok.n6
      refine needB_i (rngOk_nat (by omega)) ?_
      rw [rng_map]
      refine lcD_map (List.range f.n) (fun (j : Nat) => D.int (j : Int)) (fun i => rowL (toI (outs f i))) (fun i hi K1 k1 => ?_) ?_
      · refine lcD_pure f.ties prD (fun p => decide (p.1 = i)) (fun p => .int (p.2 : Int)) (fun p hp K2 K0 k2 k0 => ?_) [] ?_
        · refine needB_i rfl ?_
          refine iteB_i (c := decide ((p.1 : Int) = (i : Int))) (fun e => ?_) (fun e => ?_)
          · exact k2 (decide_eq_true (by have := of_decide_eq_true e; omega))
          · exact k0 (decide_eq_false (by have := of_decide_eq_false e; omega))
        · have e : ((f.ties.filter fun p => decide (p.1 = i)).map fun p => D.int (p.2 : Int)) = (toI (outs f i)).map D.int := by
            unfold outs toI
            rw [List.map_map, List.map_map]
            rfl
          rw [List.nil_append, e]
          exact k1
      · refine (show tdFor (tiRng (tdCons (tdV 1) tdNil)) (gdN 5) (tdAsg (tdLc (tiRng (tdCons (tdV 1) tdNil)) (gdN 6) tdYes (tdCall gSortD (tdCons (tdCall gDict (tdCons (tdLc (tiSeq (tdCall gMore (tdCons (tdV 4) (tdCons (tdV 6) tdNil)))) (gdN 8) tdYes (tdTup (tdCons (tdV 8) (tdCons (tdC (.bl true)) tdNil))) [8]) tdNil)) tdNil)) [6]) (gdN 4)) { nx := tdRet (tdV 4) { nx := fun _ O' => Dl.Fin R .non O', rt := Dl.Fin R }, rt := Dl.Fin R } [some (fdD f), some (.int (f.n : Int)), some (.tup (f.ties.map prD)), some (.tup (f.seen.map frD)), some (.lst ((List.range f.n).map fun i => rowL (toI (outs f i)))), none, none, none, none] O from ?_)
        have e0 : ((List.range f.n).map fun i => rowL (toI (outs f i))) = ((List.range f.n).map fun i => toI (outs f i)).map rowL := by
          rw [List.map_map]
          rfl
        rw [e0]
        refine needB_i (rngOk_nat (by omega)) ?_
        refine for_ind (fun rem env O' => Sub O O' ∧ ∃ g x5, AbI f g ∧ env = [some (fdD f), some (.int (f.n : Int)), some (.tup (f.ties.map prD)), some (.tup (f.seen.map frD)), some (.lst (List.map rowL g)), x5, none, none, none])
          (fun d r env O' N h1 k => ?_) (fun env O' h1 => ?_) ⟨Sub.refl O, _, none, AbI.zero ok, rfl⟩
        · obtain ⟨hS, g, x5, hg, rfl⟩ := h1
          refine needB_i (rngOk_nat (by omega)) ?_
          rw [rng_map]
          refine lcD_grow (O := O') (fun (j : Nat) => D.int (j : Int)) (fun i => rowL (isort (ddI (moreI g i)))) (List.range f.n) (fun i hi O1 s1 K1 k1 => ?_) [] O' (Sub.refl O') fun O2 s2 => ?_
          · have hi := List.mem_range.mp hi
            refine ⟨g, i, rfl, rfl, by rw [hg.ln]; exact hi, hg.rows ok, ?_⟩
            refine lcD_map (moreI g i) D.int (fun x => .tup [.int x, .bl true]) (fun x hx K2 k2 => needB_i rfl k2) ?_
            refine nil_v ?_
            refine dict_ints _ fun p hp => ?_
            refine nil_v ?_
            have hl : (isort (ddI (moreI g i))).length ≤ f.n := by
              have ab := (AbI.next ok hg)
              have h1 := ab.nd i hi
              have h2 := ab.mem i hi
              rw [getD_range hi] at h1 h2
              exact int_row_len h1 fun x hx => ups_lt ok ((h2 x).mp hx)
            have hl2 : (ddI (moreI g i)).length < 64 := by
              have := (isort_perm (ddI (moreI g i))).length_eq
              omega
            refine sortD_v (p := p) updO_same (keysI_kvI _) hl2 ?_
            exact k1 _ (sub_upd (Sub_none s1 hp) s1)
          · rw [List.nil_append]
            refine k _ _ ⟨Sub.trans hS s2, _, some d, AbI.next ok hg, ?_⟩
            rw [List.map_map]
            rfl
        · obtain ⟨hS, g, x5, hg, rfl⟩ := h1
          exact ⟨O, hS, h g hg⟩
    · exact h.elim
end
end Ri

set_option maxRecDepth 100000
set_option maxHeartbeats 2000000
/-! THE LAW'S DEFS, 5: upper lots, means, the one table. -/
namespace Ri
open PySem PySem.Spec PyProof.Rows L2 Dl
theorem isUpL_eq {f : Fd} {g : List (List Int)} (h : AbI f g) {l : List Nat} (hl : ∀ i ∈ l, i < f.n) : isUpL g l = isUpB f l := by
  unfold isUpL isUpB
  rw [Bool.eq_iff_iff, List.all_eq_true, List.all_eq_true]
  constructor
  · intro z i hi
    refine List.all_eq_true.mpr fun x hx => ?_
    exact List.all_eq_true.mp (z i hi) x ((h.mem i (hl i hi) x).mpr hx)
  · intro z i hi
    refine List.all_eq_true.mpr fun x hx => ?_
    exact List.all_eq_true.mp (z i hi) x ((h.mem i (hl i hi) x).mp hx)
def optF : Option Fr → D
  | none => .non
  | some p => frD p
section
variable {w : World} {K : PySem.W.Frag} {mg : Str → Option Value} {base : Heap} {aI aF aL aC cT pT : Addr}
def gLUps : GC := fun ds O Q => match ds with
  | [fd] => ∃ f, FdOk f ∧ fd = fdD f ∧ Q (.lst ((upLots f).map lotD)) O
  | _ => False
theorem k_law_ups (c : Hd w K mg base aI aF aL aC cT pT) : Dl.Def prog w K mg base 3 "_law_ups" ["_law_field_so"] gLUps := by
  have k_law_aboves := k_law_aboves c
  have k_law_is_up := k_law_is_up c
  have S : FnScope ["_law_field_so", "_law_higher", "_law_lots", "_law_one", "_law_lot"] ["_law_field_so"] (defScope s_law_ups) := C8.fnScope_by (by kernel_rfl)
  have hN := S.nd
  refine def_ok c.f_law_ups S (fun _ _ _ _ _ _ us hl => match us, hl with | [_], _ => rfl) (fun ds O R h => ?_) fun f cdv A outer s H E hr => ⟨_, have hu := room64 hr; have hu5 := room65 hr; have hu1 := room1 hr; (s_cons (s_asg (d_tup (a_cons (d_call k_law_aboves hr (by decide) (a_cons (dv 0) a_nil)) (a_cons (d_lst (a_cons (d_tup a_nil) a_nil)) a_nil))) (g_tup (n := 2) rfl (gs_cons (g_name 1 hN) (gs_cons (g_name 2 hN) gs_nil))))
  (s_cons (s_for PassesOwn.never rfl (i_rng c.m_range (a_cons (d_ix (dv 0) d_int) a_nil)) (g_name 3 hN) (s_one (s_set 2 hN (d_op o_add (dv 2) (d_lc rfl hN (i_seq (dv 2)) (blkOk_by (own := [("_law_lot", 4)]) (by kernel_rfl)) (fun _ _ _ _ _ => (g_name 4 hN)) (fun _ _ _ _ _ => ts_nil) (fun _ _ _ _ _ => (d_op o_add (dv 4) (d_tup (a_cons (dv 3) a_nil)))))))))
  (s_one (s_ret (d_callB (c_sortT hu5) c.m_sorted bt_sorted (a_cons (d_lc rfl hN (i_seq (dv 2)) (blkOk_by (own := [("_law_lot", 4)]) (by kernel_rfl)) (fun _ _ _ _ _ => (g_name 4 hN)) (fun _ _ _ _ _ => (ts_one (t_val (d_call k_law_is_up hr (by decide) (a_cons (dv 1) (a_cons (dv 4) a_nil)))))) (fun _ _ _ _ _ => (dv 4))) a_nil)))))), fun ds O R h => ?_⟩
  · unfold gLUps at h
    split at h <;> first | rfl | exact h.elim
  · unfold gLUps at h
    split at h
    · obtain ⟨f, ok, rfl, h⟩ := h
      have n6 := ok.n6
      refine ⟨f, ok, rfl, fun g hg => ?_⟩
      refine (show tdFor (tiRng (tdCons (tdOp gIx (tdV 0) (tdC (.int 0))) tdNil)) (gdN 3) (tdAsg (tdOp gAdd (tdV 2) (tdLc (tiSeq (tdV 2)) (gdN 4) tdYes (tdOp gAdd (tdV 4) (tdTup (tdCons (tdV 3) tdNil))) [4])) (gdN 2)) { nx := tdRet (tdCall gSortT (tdCons (tdLc (tiSeq (tdV 2)) (gdN 4) (tdT (tdCall gLIsUp (tdCons (tdV 1) (tdCons (tdV 4) tdNil)))) (tdV 4) [4]) tdNil)) { nx := fun _ O' => Dl.Fin R .non O', rt := Dl.Fin R }, rt := Dl.Fin R } [some (fdD f), some (.lst (List.map rowL g)), some (.lst ((lotsN 0).map lotD)), none, none] O from ?_)
      refine needB_i (rngOk_nat (n := f.n) (by omega)) ?_
      rw [rng_map]
      refine for_ind (fun rem env O' => O' = O ∧ ∃ i, i ≤ f.n ∧ rem = ((List.range f.n).drop i).map (fun (j : Nat) => D.int (j : Int)) ∧ ∃ x2, env = [some (fdD f), some (.lst (List.map rowL g)), some (.lst ((lotsN i).map lotD)), x2, none])
        (fun d r env O' N h1 k => ?_) (fun env O' h1 => ?_) ⟨rfl, 0, Nat.zero_le _, by rw [List.drop_zero], _, rfl⟩
      · obtain ⟨rfl, i, hi, hr, x2, rfl⟩ := h1
        have hlt : i < f.n := by
          by_cases q : i < f.n
          · exact q
          · rw [List.drop_eq_nil_of_le (by rw [List.length_range]; omega)] at hr
            cases hr
        rw [List.drop_eq_getElem_cons (by rw [List.length_range]; exact hlt), List.map_cons, List.getElem_range] at hr
        injection hr with e1 e2
        subst e1 e2
        have p2 : 2 ^ i ≤ 2 ^ 10 := Nat.pow_le_pow_right (by decide) (by omega)
        refine lcD_map (lotsN i) lotD (fun l => lotD (l ++ [i])) (fun l hl K1 k1 => ?_) ?_
        · have hs := (lotsN_lt hl).2
          refine needB_i (szB_i (by rw [natD_length]; show l.length + 1 ≤ _; omega)) ?_
          rw [natD_snoc]
          exact k1
        · refine needB_i (szB_i (by rw [List.length_map, List.length_map, lotsN_length]; omega)) ?_
          refine k _ _ ⟨rfl, i + 1, hlt, rfl, some (.int (i : Int)), ?_⟩
          have e : (lotsN (i + 1)).map lotD = (lotsN i).map lotD ++ (lotsN i).map fun l => lotD (l ++ [i]) := by
            show (lotsN i ++ (lotsN i).map fun l => l ++ [i]).map lotD = _
            rw [List.map_append, List.map_map]
            rfl
          rw [e]
          rfl
      · obtain ⟨rfl, i, hi, hr, x2, rfl⟩ := h1
        have e : i = f.n := by
          have := congrArg List.length hr
          rw [List.length_map, List.length_drop, List.length_range] at this
          simp at this
          omega
        subst e
        dsimp only [tdRet]
        refine call_v (cons_v ?_)
        dsimp only [tdLc, tiSeq]
        refine v_i (i := 2) rfl ?_
        refine lcD_pure (lotsN f.n) lotD (isUpB f) lotD (fun l hl K1 K0 k1 k0 => ?_) [] ?_
        · refine ⟨g, l, rfl, rfl, fun i hi => by rw [hg.ln]; exact (lotsN_lt hl).1 i hi, ?_⟩
          rw [isUpL_eq hg (lotsN_lt hl).1]
          exact iteB_i k1 k0
        · obtain ⟨r, e⟩ := lots_head f
          rw [List.nil_append, e]
          refine nil_v (sort_lots r (Fin.i ?_))
          rw [← e]
          exact h
    · exact h.elim
def gLMean : GC := fun ds O Q => match ds with
  | [fd, .lst xs] => ∃ f l, FdOk f ∧ fd = fdD f ∧ xs = natD l ∧ (∀ i ∈ l, i < f.n) ∧ l ≠ [] ∧ l.length ≤ 100 ∧ Q (frD (meanF f l)) O
  | _ => False
theorem k_law_mean (c : Hd w K mg base aI aF aL aC cT pT) : Dl.Def prog w K mg base 2 "_law_mean" ["_law_field_so", "_law_lot"] gLMean := by
  have k_law_ratio := k_law_ratio c
  have S : FnScope ["_law_field_so", "_law_lot", "_law_top", "_law_one"] ["_law_field_so", "_law_lot"] (defScope s_law_mean) := C8.fnScope_by (by kernel_rfl)
  have hN := S.nd
  refine def_ok c.f_law_mean S (fun _ _ _ _ _ _ us hl => match us, hl with | [_, _], _ => rfl) (fun ds O R h => ?_) fun f cdv A outer s H E hr => ⟨_, have hu := room64 hr; have hu5 := room65 hr; have hu1 := room1 hr; (s_cons (s_set 2 hN (d_callB (c_sum rfl) c.m_sum bt_sum (a_cons (d_lc rfl hN (i_seq (dv 1)) (blkOk_by (own := [("_law_one", 3)]) (by kernel_rfl)) (fun _ _ _ _ _ => (g_name 3 hN)) (fun _ _ _ _ _ => ts_nil) (fun _ _ _ _ _ => (d_op o_mul (d_ix (d_ix (d_ix (dv 0) d_int) (dv 3)) d_int) (d_ix (d_ix (d_ix (dv 0) d_int) (dv 3)) d_int)))) a_nil)))
  (s_one (s_ret (d_call k_law_ratio hr (by decide) (a_cons (dv 2) (a_cons (d_callB (c_sum rfl) c.m_sum bt_sum (a_cons (d_lc rfl hN (i_seq (dv 1)) (blkOk_by (own := [("_law_one", 3)]) (by kernel_rfl)) (fun _ _ _ _ _ => (g_name 3 hN)) (fun _ _ _ _ _ => ts_nil) (fun _ _ _ _ _ => (d_ix (d_ix (d_ix (dv 0) d_int) (dv 3)) d_int))) a_nil)) a_nil)))))), fun ds O R h => ?_⟩
  · unfold gLMean at h
    split at h <;> first | rfl | exact h.elim
  · unfold gLMean at h
    split at h
    · obtain ⟨f, l, ok, rfl, rfl, hv, hne, h100, h⟩ := h
      refine lcD_map l (fun (j : Nat) => D.int (j : Int)) (fun i => .int ((seenAt f i).1 * (seenAt f i).2)) (fun i hi K1 k => ?_) ?_
      · have sg := seen_get ok (hv i hi)
        have b := ok.bd _ sg.2
        refine ix_tup (O := O) sg.1 ?_
        refine ix_tup (O := O) (n := 0) rfl ?_
        refine ix_tup (O := O) sg.1 ?_
        exact ⟨sm_mul (sm1000 (by omega) (by omega)) (sm1000 (by omega) (by omega)), k⟩
      · dsimp only [tdNil]
        refine gSum_map _ _ ?_
        refine lcD_map l (fun (j : Nat) => D.int (j : Int)) (fun i => .int (seenAt f i).2) (fun i hi K1 k => ?_) ?_
        · refine ix_tup (O := O) (seen_get ok (hv i hi)).1 ?_
          exact k
        · dsimp only [tdNil]
          refine gSum_map _ _ ?_
          have b := wt_bd ok l hv
          have hl : 0 < l.length := List.length_pos_iff.mpr hne
          exact ⟨⟨show 0 < wtOf f l by omega, show Sm (wtOf f l) from sm1000 (by omega) (by omega)⟩, Fin.i h⟩
    · exact h.elim
theorem min_td {env : DEnv} {O : DO} {Q : D → DO → Prop} {o : Option Fr} {m : Fr} (h5 : lk env 5 = some (optF o)) (h7 : lk env 7 = some (frD m)) (hm : BdF 1000 m) (ho : ∀ b, o = some b → BdF 1000 b) (h : Q (optF (minStep o m)) O) : tdIf (tdOr (tdT (tdOp (gIs false) (tdV 5) (tdC .non))) (tdT (tdCall gLUnder (tdCons (tdV 7) (tdCons (tdV 5) tdNil))))) (tdV 7) (tdV 5) env O Q := by
  unfold tdIf tdOr tdT
  cases o with
  | none =>
    refine op_l (v_i (i := 5) h5 ?_)
    exact v_i (i := 7) h7 h
  | some b =>
    refine op_l (v_i (i := 5) h5 ?_)
    refine (show tdCall gLUnder (tdCons (tdV 7) (tdCons (tdV 5) tdNil)) env O _ from ?_)
    refine call2_v (i := 7) (j := 5) h7 h5 ⟨m, b, rfl, rfl, hm, ho b rfl, ?_⟩
    refine iteB_i (fun e => ?_) (fun e => ?_)
    · refine v_i (i := 7) h7 ?_
      have e2 : minStep (some b) m = some m := if_pos e
      rw [e2] at h
      exact h
    · refine v_i (i := 5) h5 ?_
      have e2 : minStep (some b) m = some b := if_neg (by rw [e]; decide)
      rw [e2] at h
      exact h
theorem max_td {env : DEnv} {O : DO} {Q : D → DO → Prop} {o : Option Fr} {m : Fr} (h3 : lk env 3 = some (optF o)) (h5 : lk env 5 = some (frD m)) (hm : BdF 1000 m) (ho : ∀ b, o = some b → BdF 1000 b) (h : Q (optF (maxStep o m)) O) : tdIf (tdOr (tdT (tdOp (gIs false) (tdV 3) (tdC .non))) (tdT (tdCall gLUnder (tdCons (tdV 3) (tdCons (tdV 5) tdNil))))) (tdV 5) (tdV 3) env O Q := by
  unfold tdIf tdOr tdT
  cases o with
  | none =>
    refine op_l (v_i (i := 3) h3 ?_)
    exact v_i (i := 5) h5 h
  | some b =>
    refine op_l (v_i (i := 3) h3 ?_)
    refine (show tdCall gLUnder (tdCons (tdV 3) (tdCons (tdV 5) tdNil)) env O _ from ?_)
    refine call2_v (i := 3) (j := 5) h3 h5 ⟨b, m, rfl, rfl, ho b rfl, hm, ?_⟩
    refine iteB_i (fun e => ?_) (fun e => ?_)
    · refine v_i (i := 5) h5 ?_
      have e2 : maxStep (some b) m = some m := if_pos e
      rw [e2] at h
      exact h
    · refine v_i (i := 3) h3 ?_
      have e2 : maxStep (some b) m = some b := if_neg (by rw [e]; decide)
      rw [e2] at h
      exact h
theorem min_keep {P : Fr → Prop} {o : Option Fr} {m : Fr} (h1 : ∀ b, o = some b → P b) (h2 : P m) : ∀ b, minStep o m = some b → P b := by
  intro b hb
  cases o with
  | none => cases hb; exact h2
  | some a =>
    unfold minStep at hb
    dsimp only at hb
    split at hb
    · cases hb; exact h2
    · cases hb; exact h1 _ rfl
theorem max_keep {P : Fr → Prop} {o : Option Fr} {m : Fr} (h1 : ∀ b, o = some b → P b) (h2 : P m) : ∀ b, maxStep o m = some b → P b := by
  intro b hb
  cases o with
  | none => cases hb; exact h2
  | some a =>
    unfold maxStep at hb
    dsimp only at hb
    split at hb
    · cases hb; exact h2
    · cases hb; exact h1 _ rfl
theorem lot_len {f : Fd} (ok : FdOk f) {l : List Nat} (h : l ∈ upLots f) : l.length ≤ 6 := by
  have h4 := (mem_upLots.mp h).1
  have h5 := Kn.len (f := f) ⟨lt_nodup h4.1, h4.2⟩
  have := ok.n6
  omega
theorem rest_bd {f : Fd} (ok : FdOk f) {i : Nat} {U V : List Nat} (hU : U ∈ upLots f) (h1 : i ∈ U) (h2 : i ∉ V) : BdF 1000 (meanF f (restOf V U)) :=
  (mean_bd ok (fun j hj => (mem_upLots.mp hU).1.2 j (mem_restOf.mp hj).1) (List.ne_nil_of_mem (mem_restOf.mpr ⟨h1, h2⟩)) (Nat.le_trans (List.length_filter_le _ _) (by have := lot_len ok hU; omega))).mono (by decide)
def foldI (f : Fd) (i : Nat) (lot : List Nat) (dn : List (List Nat)) : Option Fr := ((dn.filter fun l => !decide (i ∈ l)).map fun far => meanF f (restOf far lot)).foldl minStep none
def foldO (f : Fd) (i : Nat) (dn : List (List Nat)) : Option Fr := ((dn.filter fun l => decide (i ∈ l)).map fun lot => (least f (upLots f) i lot).getD (0, 1)).foldl maxStep none
theorem foldI_snoc (f : Fd) (i : Nat) (lot : List Nat) (dn : List (List Nat)) (x : List Nat) : foldI f i lot (dn ++ [x]) = if i ∈ x then foldI f i lot dn else minStep (foldI f i lot dn) (meanF f (restOf x lot)) := by
  unfold foldI
  rw [List.filter_append]
  by_cases h : i ∈ x
  · rw [if_pos h, List.filter_cons_of_neg (by simp [h]), List.filter_nil, List.append_nil]
  · rw [if_neg h, List.filter_cons_of_pos (by simp [h]), List.filter_nil, List.map_append, List.foldl_append]
    rfl
theorem foldO_snoc (f : Fd) (i : Nat) (dn : List (List Nat)) (x : List Nat) : foldO f i (dn ++ [x]) = if i ∈ x then maxStep (foldO f i dn) ((least f (upLots f) i x).getD (0, 1)) else foldO f i dn := by
  unfold foldO
  rw [List.filter_append]
  by_cases h : i ∈ x
  · rw [if_pos h, List.filter_cons_of_pos (by simp [h]), List.filter_nil, List.map_append, List.foldl_append]
    rfl
  · rw [if_neg h, List.filter_cons_of_neg (by simp [h]), List.filter_nil, List.append_nil]
def gLGuess : GC := fun ds O Q => match ds with
  | [fd, .lst us, .int k] => ∃ f i, FdOk f ∧ fd = fdD f ∧ us = (upLots f).map lotD ∧ k = ((i : Nat) : Int) ∧ i < f.n ∧ Q (frD ((guess f (upLots f) i).getD (0, 1))) O
  | _ => False
theorem k_law_guess (c : Hd w K mg base aI aF aL aC cT pT) : Dl.Def prog w K mg base 3 "_law_guess" ["_law_field_so", "_law_ups_here", "_law_one"] gLGuess := by
  have k_law_mean := k_law_mean c
  have k_law_under := k_law_under c
  have S : FnScope ["_law_field_so", "_law_ups_here", "_law_one", "_law_best_here", "_law_lot", "_law_least", "_law_far", "_law_here", "_law_spot"] ["_law_field_so", "_law_ups_here", "_law_one"] (defScope s_law_guess) := C8.fnScope_by (by kernel_rfl)
  have hN := S.nd
  refine def_ok c.f_law_guess S (fun _ _ _ _ _ _ us hl => match us, hl with | [_, _, _], _ => rfl) (fun ds O R h => ?_) fun f cdv A outer s H E hr => ⟨_, have hu := room64 hr; have hu5 := room65 hr; have hu1 := room1 hr; (s_cons (s_set 3 hN d_non)
  (s_cons (s_for PassesOwn.never rfl (i_seq (dv 1)) (g_name 4 hN) (s_one (s_if (t_cmp (o_in hu5) (dv 2) (dv 4))
  (s_cons (s_set 5 hN d_non)
  (s_cons (s_for PassesOwn.never rfl (i_seq (dv 1)) (g_name 6 hN) (s_one (s_if (t_cmp (o_notin hu5) (dv 2) (dv 6))
  (s_cons (s_set 7 hN (d_call k_law_mean hr (by decide) (a_cons (dv 0) (a_cons (d_lc rfl hN (i_seq (dv 4)) (blkOk_by (own := [("_law_spot", 8)]) (by kernel_rfl)) (fun _ _ _ _ _ => (g_name 8 hN)) (fun _ _ _ _ _ => (ts_one (t_cmp (o_notin hu5) (dv 8) (dv 6)))) (fun _ _ _ _ _ => (dv 8))) a_nil))))
  (s_one (s_set 5 hN (d_if (t_w (w_or (t_cmp o_is (dv 5) d_non) (w_or1 (t_val (d_call k_law_under hr (by decide) (a_cons (dv 7) (a_cons (dv 5) a_nil))))))) (dv 7) (dv 5)))))
  s_nil)))
  (s_one (s_set 3 hN (d_if (t_w (w_or (t_cmp o_is (dv 3) d_non) (w_or1 (t_val (d_call k_law_under hr (by decide) (a_cons (dv 3) (a_cons (dv 5) a_nil))))))) (dv 5) (dv 3))))))
  s_nil)))
  (s_one (s_ret (dv 3))))), fun ds O R h => ?_⟩
  · unfold gLGuess at h
    split at h <;> first | rfl | exact h.elim
  · unfold gLGuess at h
    split at h
    · obtain ⟨f, i, ok, rfl, rfl, rfl, hi, h⟩ := h
      have n6 := ok.n6
      refine for_ind (fun rem env O' => O' = O ∧ ∃ dn rest x4 x5 x6 x7, upLots f = dn ++ rest ∧ rem = rest.map lotD ∧ (∀ b, foldO f i dn = some b → BdF 1000 b) ∧ env = [some (fdD f), some (.lst ((upLots f).map lotD)), some (.int (i : Int)), some (optF (foldO f i dn)), x4, x5, x6, x7, none])
        (fun d r env O' N h1 k => ?_) (fun env O' h1 => ?_) ⟨rfl, [], upLots f, none, none, none, none, rfl, rfl, (fun b hb => by cases hb), rfl⟩
      · obtain ⟨rfl, dn, rest, x4, x5, x6, x7, hd, hr, hb, rfl⟩ := h1
        cases rest with
        | nil => cases hr
        | cons lot rest =>
          rw [List.map_cons] at hr
          injection hr with e1 e2
          subst e1 e2
          have hlot : lot ∈ upLots f := by
            rw [hd]
            exact List.mem_append_right _ List.mem_cons_self
          have hd2 : upLots f = (dn ++ [lot]) ++ rest := by rw [hd, List.append_assoc]; rfl
          dsimp only [gdN, tdIfS]
          refine tt_l (op_vv (i := 2) (j := 4) (x := .int (i : Int)) (y := lotD lot) rfl rfl (in_yes _ (toI lot) _ (.inr (by rw [← natD_toI]; rfl)) ?_))
          rw [show decide ((i : Int) ∈ toI lot) = decide (i ∈ lot) from decide_eq_decide.mpr mem_toI]
          refine iteB_i (fun e => ?_) (fun e => ?_)
          · have hil := of_decide_eq_true e
            obtain ⟨r0, q1, q2, ⟨V0, v1, v2, v3⟩, _⟩ := least_get ok hlot hil
            refine for_ind (fun rem env O2 => O2 = O' ∧ ∃ dn2 rest2 y6 y7, upLots f = dn2 ++ rest2 ∧ rem = rest2.map lotD ∧ (∀ b, foldI f i lot dn2 = some b → BdF 1000 b) ∧ env = [some (fdD f), some (.lst ((upLots f).map lotD)), some (.int (i : Int)), some (optF (foldO f i dn)), some (lotD lot), some (optF (foldI f i lot dn2)), y6, y7, none])
              (fun d r env O2 N2 h2 k2 => ?_) (fun env O2 h2 => ?_) ⟨rfl, [], upLots f, x6, x7, rfl, rfl, (fun b hb => by cases hb), rfl⟩
            · obtain ⟨rfl, dn2, rest2, y6, y7, hd3, hr2, hb2, rfl⟩ := h2
              cases rest2 with
              | nil => cases hr2
              | cons far rest2 =>
                rw [List.map_cons] at hr2
                injection hr2 with e1 e2
                subst e1 e2
                have hd4 : upLots f = (dn2 ++ [far]) ++ rest2 := by rw [hd3, List.append_assoc]; rfl
                dsimp only [gdN, tdIfS]
                refine tt_l (op_vv (i := 2) (j := 6) (x := .int (i : Int)) (y := lotD far) rfl rfl (in_not _ (toI far) _ (.inr (by rw [← natD_toI]; rfl)) ?_))
                rw [show decide ((i : Int) ∈ toI far) = decide (i ∈ far) from decide_eq_decide.mpr mem_toI]
                refine iteB_i (fun e => ?_) (fun e => ?_)
                · have hif : i ∉ far := by simpa using e
                  dsimp only [tdSeq, tdAsg]
                  refine call_v (cons_v (v_i (i := 0) rfl (cons_v ?_)))
                  dsimp only [tdLc, tiSeq]
                  refine v_i (i := 4) rfl ?_
                  refine lcD_pure lot (fun (j : Nat) => D.int (j : Int)) (fun j => !decide (j ∈ far)) (fun (j : Nat) => D.int (j : Int)) (fun j hj K1 K0 k1 k0 => ?_) [] ?_
                  · dsimp only [gdN]
                    refine tt_l (op_vv (i := 8) (j := 6) (x := .int (j : Int)) (y := lotD far) rfl rfl (in_not _ (toI far) _ (.inr (by rw [← natD_toI]; rfl)) ?_))
                    rw [show decide ((j : Int) ∈ toI far) = decide (j ∈ far) from decide_eq_decide.mpr mem_toI]
                    exact iteB_i k1 k0
                  · rw [List.nil_append]
                    refine nil_v ?_
                    have hne : restOf far lot ≠ [] := List.ne_nil_of_mem (mem_restOf.mpr ⟨hil, hif⟩)
                    refine ⟨f, restOf far lot, ok, rfl, rfl, fun j hj => (mem_upLots.mp hlot).1.2 j (mem_restOf.mp hj).1, hne, Nat.le_trans (List.length_filter_le _ _) (by have := lot_len ok hlot; omega), ?_⟩
                    dsimp only [gdN]
                    have hm := rest_bd ok hlot hil hif
                    have es := foldI_snoc f i lot dn2 far
                    rw [if_neg hif] at es
                    refine min_td (o := foldI f i lot dn2) (m := meanF f (restOf far lot)) rfl rfl hm hb2 ?_
                    refine k2 _ _ ⟨rfl, dn2 ++ [far], rest2, some (lotD far), some (frD (meanF f (restOf far lot))), hd4, rfl, ?_, ?_⟩
                    · rw [es]
                      exact min_keep hb2 hm
                    · rw [es]
                      rfl
                · have hif : i ∈ far := by simpa using e
                  have es := foldI_snoc f i lot dn2 far
                  rw [if_pos hif] at es
                  refine k2 _ _ ⟨rfl, dn2 ++ [far], rest2, some (lotD far), y7, hd4, rfl, ?_, ?_⟩
                  · rw [es]
                    exact hb2
                  · rw [es]
                    rfl
            · obtain ⟨rfl, dn2, rest2, y6, y7, hd3, hr2, hb2, rfl⟩ := h2
              have e : rest2 = [] := List.map_eq_nil_iff.mp hr2.symm
              subst e
              rw [List.append_nil] at hd3
              subst hd3
              have el : foldI f i lot (upLots f) = some r0 := q1
              have hm := hb2 r0 el
              dsimp only [tdAsg]
              refine max_td (o := foldO f i dn) (m := r0) rfl (by rw [el]; rfl) hm hb ?_
              have es := foldO_snoc f i dn lot
              rw [if_pos hil, q1] at es
              refine k _ _ ⟨rfl, dn ++ [lot], rest, some (lotD lot), some (optF (foldI f i lot (upLots f))), y6, y7, hd2, rfl, ?_, ?_⟩
              · rw [es]
                exact max_keep hb hm
              · rw [es]
                rfl
          · have hil := of_decide_eq_false e
            have es := foldO_snoc f i dn lot
            rw [if_neg hil] at es
            refine k _ _ ⟨rfl, dn ++ [lot], rest, some (lotD lot), x5, x6, x7, hd2, rfl, ?_, ?_⟩
            · rw [es]
              exact hb
            · rw [es]
              rfl
      · obtain ⟨rfl, dn, rest, x4, x5, x6, x7, hd, hr, hb, rfl⟩ := h1
        have e : rest = [] := List.map_eq_nil_iff.mp hr.symm
        subst e
        rw [List.append_nil] at hd
        subst hd
        obtain ⟨r0, q1, _⟩ := guess_get ok hi
        have el : foldO f i (upLots f) = some r0 := q1
        rw [q1] at h
        dsimp only [tdRet]
        refine v_i (i := 3) rfl ?_
        rw [el]
        exact Fin.i h
    · exact h.elim
def gLBest : GC := fun ds O Q => match ds with
  | [fd] => ∃ f, FdOk f ∧ fd = fdD f ∧ Q (.tup ((bestF f).map frD)) O
  | _ => False
theorem k_law_best (c : Hd w K mg base aI aF aL aC cT pT) : Dl.Def prog w K mg base 4 "_law_best" ["_law_field_so"] gLBest := by
  have k_law_ups := k_law_ups c
  have k_law_guess := k_law_guess c
  have S : FnScope ["_law_field_so", "_law_ups_here", "_law_one"] ["_law_field_so"] (defScope s_law_best) := C8.fnScope_by (by kernel_rfl)
  have hN := S.nd
  refine def_ok c.f_law_best S (fun _ _ _ _ _ _ us hl => match us, hl with | [_], _ => rfl) (fun ds O R h => ?_) fun f cdv A outer s H E hr => ⟨_, have hu := room64 hr; have hu5 := room65 hr; have hu1 := room1 hr; (s_cons (s_set 1 hN (d_call k_law_ups hr (by decide) (a_cons (dv 0) a_nil)))
  (s_one (s_ret (d_callTy c_tuple c.m_tuple bt_tuple (a_cons (d_lc rfl hN (i_rng c.m_range (a_cons (d_ix (dv 0) d_int) a_nil)) (blkOk_by (own := [("_law_one", 2)]) (by kernel_rfl)) (fun _ _ _ _ _ => (g_name 2 hN)) (fun _ _ _ _ _ => ts_nil) (fun _ _ _ _ _ => (d_call k_law_guess hr (by decide) (a_cons (dv 0) (a_cons (dv 1) (a_cons (dv 2) a_nil)))))) a_nil))))), fun ds O R h => ?_⟩
  · unfold gLBest at h
    split at h <;> first | rfl | exact h.elim
  · unfold gLBest at h
    split at h
    · obtain ⟨f, ok, rfl, h⟩ := h
      have n6 := ok.n6
      refine ⟨f, ok, rfl, ?_⟩
      refine needB_i (rngOk_nat (n := f.n) (by omega)) ?_
      rw [rng_map]
      refine lcD_map (List.range f.n) (fun (j : Nat) => D.int (j : Int)) (fun i => frD ((guess f (upLots f) i).getD (0, 1))) (fun i hi K1 k1 => ?_) ?_
      · exact ⟨f, i, ok, rfl, rfl, rfl, List.mem_range.mp hi, k1⟩
      · have e : (List.range f.n).map (fun i => frD ((guess f (upLots f) i).getD (0, 1))) = (bestF f).map frD := by
          unfold bestF
          rw [List.map_map]
          rfl
        rw [e]
        exact Fin.i h
    · exact h.elim
end
end Ri

set_option maxRecDepth 100000
set_option maxHeartbeats 2000000
/-! THE LAW'S DEFS, 6: the charge. -/
namespace Ri
open PySem PySem.Spec PyProof.Rows L2 Dl
section
variable {w : World} {K : PySem.W.Frag} {mg : Str → Option Value} {base : Heap} {aI aF aL aC cT pT : Addr}
def gLCharge : GC := fun ds O Q => match ds with
  | [fd, m', .tup ts] => ∃ f m gs, FdOk f ∧ fd = fdD f ∧ m' = frD m ∧ ts = List.map frD gs ∧ (∀ p ∈ gs, BdF 100 p) ∧ BdF 100 m ∧ 0 < m.2 ∧ Q (frD (chargeL f m gs)) O
  | _ => False
theorem bd1 : Bd 1 1 := (by decide : (1 : Int).natAbs < 2 ^ 1)
theorem bd0 : Bd 1 0 := (by decide : (0 : Int).natAbs < 2 ^ 1)
theorem ch_bd {p g m : Fr} (hp : Bd 20 p.1 ∧ Bd 20 p.2) (hm : BdF 100 m) : Bd 200 (chAt p g m) := by
  have b1 : Bd 121 (m.1 - p.1 * m.2) := Bd.sub (hm.1.mono (by decide)) (hp.1.mul hm.2)
  have b2 : Bd 141 (p.2 * (m.1 - p.1 * m.2)) := hp.2.mul b1
  unfold chAt
  split
  · exact b2.mono (by decide)
  · split
    · refine Bd.mono (k := 141) ?_ (by decide)
      have : (p.2 * (m.1 - p.1 * m.2)).natAbs < 2 ^ 141 := b2
      show (0 - p.2 * (m.1 - p.1 * m.2)).natAbs < 2 ^ 141
      omega
    · exact bd0.mono (by decide)
theorem k_law_charge (c : Hd w K mg base aI aF aL aC cT pT) : Dl.Def prog w K mg base 3 "_law_charge" ["_law_field_so", "_law_at", "_law_guesses"] gLCharge := by
  have k_law_under := k_law_under c
  have k_law_less := k_law_less c
  have k_law_plus := k_law_plus c
  have k_law_times := k_law_times c
  have S : FnScope ["_law_field_so", "_law_at", "_law_guesses", "_law_got", "_law_worth_here", "_law_weight", "_law_guess_here", "_law_is_low", "_law_below_so", "_law_off"] ["_law_field_so", "_law_at", "_law_guesses"] (defScope s_law_charge) := C8.fnScope_by (by kernel_rfl)
  have hN := S.nd
  refine def_ok c.f_law_charge S (fun _ _ _ _ _ _ us hl => match us, hl with | [_, _, _], _ => rfl) (fun ds O R h => ?_) fun f cdv A outer s H E hr => ⟨_, have hu := room64 hr; have hu5 := room65 hr; have hu1 := room1 hr; (s_cons (s_set 3 hN (d_tup (a_cons d_int (a_cons d_int a_nil))))
  (s_cons (s_for PassesOwn.never rfl (i_zip c.m_zip (a_cons (d_ix (dv 0) d_int) (a_cons (dv 2) a_nil))) (g_tup (n := 2) rfl (gs_cons (g_tup (n := 2) rfl (gs_cons (g_name 4 hN) (gs_cons (g_name 5 hN) gs_nil))) (gs_cons (g_name 6 hN) gs_nil))) (s_cons (s_par2 7 8 rfl hN (a_cons (d_call k_law_under hr (by decide) (a_cons (d_tup (a_cons (dv 4) (a_cons d_int a_nil))) (a_cons (dv 1) a_nil))) (a_cons (d_call k_law_under hr (by decide) (a_cons (dv 6) (a_cons (dv 1) a_nil))) a_nil)))
  (s_cons (s_set 9 hN (d_if (t_val (dv 7)) (d_call k_law_less hr (by decide) (a_cons (dv 1) (a_cons (d_tup (a_cons (dv 4) (a_cons d_int a_nil))) a_nil))) (d_call k_law_less hr (by decide) (a_cons (d_tup (a_cons (dv 4) (a_cons d_int a_nil))) (a_cons (dv 1) a_nil)))))
  (s_one (s_if (t_cmp (o_ne hu) (dv 7) (dv 8))
  (s_one (s_set 3 hN (d_call k_law_plus hr (by decide) (a_cons (dv 3) (a_cons (d_call k_law_times hr (by decide) (a_cons (dv 9) (a_cons (d_tup (a_cons (dv 5) (a_cons d_int a_nil))) a_nil))) a_nil)))))
  s_nil)))))
  (s_one (s_ret (dv 3))))), fun ds O R h => ?_⟩
  · unfold gLCharge at h
    split at h <;> first | rfl | exact h.elim
  · unfold gLCharge at h
    split at h
    · obtain ⟨f, m, gs, ok, rfl, rfl, rfl, hg, hm, hm0, h⟩ := h
      have n6 := ok.n6
      have hz : (f.seen.zip gs).length ≤ 6 := by
        rw [List.length_zip, ok.len]
        omega
      have ini : (fun p : Fr × Fr => D.tup [frD p.1, frD p.2]) = fun p => D.tup [frD p.1, frD p.2] := rfl
      refine (show forD (gdT 2 (gdCons (gdT 2 (gdCons (gdN 4) (gdCons (gdN 5) gdNil))) (gdCons (gdN 6) gdNil))) _ (zipD (f.seen.map frD) (gs.map frD)) _ [some (fdD f), some (frD m), some (.tup (gs.map frD)), some (frD (0, 1)), none, none, none, none, none, none] O from ?_)
      rw [zip_map]
      refine for_ind (fun rem env O' => O' = O ∧ ∃ (dn rest : List (Fr × Fr)) (s : Int) (x4 x5 x6 x7 x8 x9 : Option D), f.seen.zip gs = dn ++ rest ∧ rem = rest.map (fun p => D.tup [frD p.1, frD p.2]) ∧ Bd (200 + dn.length) s ∧ dn.foldl (chStep m) (0, 1) = mk s m.2 ∧ env = [some (fdD f), some (frD m), some (.tup (gs.map frD)), some (frD (mk s m.2)), x4, x5, x6, x7, x8, x9])
        (fun d r env O' N h1 k => ?_) (fun env O' h1 => ?_) ⟨rfl, [], f.seen.zip gs, 0, none, none, none, none, none, none, rfl, rfl, bd0.mono (Nat.le_add_left 1 _), (mk_zero hm0).symm, by rw [mk_zero hm0]⟩
      · obtain ⟨rfl, dn, rest, s, x4, x5, x6, x7, x8, x9, hd, hr, hs, hf, rfl⟩ := h1
        cases rest with
        | nil => cases hr
        | cons z rest =>
          rw [List.map_cons] at hr
          injection hr with e1 e2
          subst e1 e2
          have hzm : z ∈ f.seen.zip gs := by
            rw [hd]
            exact List.mem_append_right _ List.mem_cons_self
          have hd2 : f.seen.zip gs = (dn ++ [z]) ++ rest := by rw [hd, List.append_assoc]; rfl
          obtain ⟨⟨a, b⟩, ⟨x, y⟩⟩ := z
          have h1 := ok.bd _ (List.of_mem_zip hzm).1
          have h2 := hg _ (List.of_mem_zip hzm).2
          dsimp only at h1
          have ba : Bd 20 a := show a.natAbs < 2 ^ 20 by omega
          have bb : Bd 20 b := show b.natAbs < 2 ^ 20 by omega
          have ba1 : BdF 1000 (a, 1) := ⟨ba.mono (by decide), bd1.mono (by decide)⟩
          have bb1 : BdF 1000 (b, 1) := ⟨bb.mono (by decide), bd1.mono (by decide)⟩
          have bm : BdF 1000 m := hm.mono (by decide)
          have bg : BdF 1000 (x, y) := h2.mono (by decide)
          have ldn : dn.length ≤ 6 := by
            have := congrArg List.length hd
            rw [List.length_append] at this
            omega
          have bs : BdF 1000 (mk s m.2) := (mk_bd (by omega) (hs.mono (by omega)) (hm.2.mono (by decide)) : BdF 1000 (mk s m.2))
          have ps := (mk_red (t := s) hm0).pos
          have st := ch_step hm0 s ((a, b), (x, y))
          have hs2 : Bd (200 + (dn ++ [((a, b), (x, y))]).length) (s + chAt (a, b) (x, y) m) := by
            rw [List.length_append]
            exact Bd.add (k := 200 + dn.length) hs ((ch_bd ⟨ba, bb⟩ hm).mono (by omega))
          have hf2 : (dn ++ [((a, b), (x, y))]).foldl (chStep m) (0, 1) = mk (s + chAt (a, b) (x, y) m) m.2 := by
            rw [List.foldl_append, hf]
            exact st
          have fin : ∀ y4 y5 y6 y7 y8 y9, N [some (fdD f), some (frD m), some (.tup (gs.map frD)), some (frD (chStep m (mk s m.2) ((a, b), (x, y)))), y4, y5, y6, y7, y8, y9] O' := fun y4 y5 y6 y7 y8 y9 => k _ _ ⟨rfl, dn ++ [((a, b), (x, y))], rest, _, y4, y5, y6, y7, y8, y9, hd2, rfl, hs2, hf2, by rw [st]⟩
          have ee : chStep m (mk s m.2) ((a, b), (x, y)) = if (under (a, 1) m) ≠ (under (x, y) m) then plusF (mk s m.2) (timesF (if under (a, 1) m then lessF m (a, 1) else lessF (a, 1) m) (b, 1)) else mk s m.2 := rfl
          have off : ∀ u : Fr, BdF 200 u → 0 < u.2 → Bd 1000 (u.1 * b) ∧ Bd 1000 (u.2 * 1) := fun u hu h0 => ⟨(hu.1.mul bb).mono (by decide), (hu.2.mul bd1).mono (by decide)⟩
          have low : ∀ u : Fr, BdF 150 u → 0 < u.2 → under (a, 1) m = true ∧ u = lessF m (a, 1) ∨ under (a, 1) m = false ∧ u = lessF (a, 1) m → tdIfS (tdT (tdOp gNe (tdV 7) (tdV 8))) (tdAsg (tdCall (gTwo plusF) (tdCons (tdV 3) (tdCons (tdCall (gTwo timesF) (tdCons (tdV 9) (tdCons (tdTup (tdCons (tdV 5) (tdCons (tdC (D.int 1)) tdNil))) tdNil))) tdNil))) (gdN 3)) tdNx { nx := N, rt := Dl.Fin R, bk := fun e O' => tdRet (tdV 3) { nx := fun _ O' => Dl.Fin R .non O', rt := Dl.Fin R } e O', ct := N } [some (fdD f), some (frD m), some (.tup (gs.map frD)), some (frD (mk s m.2)), some (.int a), some (.int b), some (frD (x, y)), some (.bl (under (a, 1) m)), some (.bl (under (x, y) m)), some (frD u)] O' := by
            intro u hu hu0 hcase
            have eu : u = if under (a, 1) m then lessF m (a, 1) else lessF (a, 1) m := by
              rcases hcase with ⟨q, rfl⟩ | ⟨q, rfl⟩ <;> rw [q] <;> rfl
            rw [← eu] at ee
            refine iteB_i (c := !decide (under (a, 1) m = under (x, y) m)) (fun e => ?_) (fun e => ?_)
            · have e : under (a, 1) m ≠ under (x, y) m := by simpa using e
              rw [if_pos e] at ee
              rw [ee] at fin
              refine needB_i rfl ?_
              refine ⟨u, (b, 1), rfl, rfl, hu.mono (by decide), bb1, hu0, Int.zero_lt_one, ?_⟩
              have tb : BdF 1000 (timesF u (b, 1)) := by
                unfold timesF
                exact mk_bd (show u.2 * 1 ≠ 0 by omega) ((hu.1.mul bb).mono (by decide)) ((hu.2.mul bd1).mono (by decide))
              have tp : 0 < (timesF u (b, 1)).2 := (mk_red (show 0 < u.2 * 1 by omega)).pos
              exact ⟨mk s m.2, timesF u (b, 1), rfl, rfl, bs, tb, ps, tp, fin _ _ _ _ _ _⟩
            · have e : under (a, 1) m = under (x, y) m := by simpa using e
              rw [if_neg (fun z => z e)] at ee
              rw [ee] at fin
              exact fin _ _ _ _ _ _
          have lb1 : BdF 150 (lessF m (a, 1)) := by
            unfold lessF
            refine mk_bd (show m.2 * 1 ≠ 0 by omega) ?_ ?_
            · have : Bd 121 (m.1 * 1 - a * m.2) := Bd.sub ((hm.1.mul bd1).mono (by decide)) (ba.mul hm.2)
              exact this.mono (by decide)
            · exact (hm.2.mul bd1).mono (by decide)
          have lb2 : BdF 150 (lessF (a, 1) m) := by
            unfold lessF
            refine mk_bd (show 1 * m.2 ≠ 0 by omega) ?_ ?_
            · have : Bd 121 (a * m.2 - m.1 * 1) := Bd.sub (ba.mul hm.2) ((hm.1.mul bd1).mono (by decide))
              exact this.mono (by decide)
            · show Bd 150 (1 * m.2)
              rw [Int.one_mul]
              exact hm.2.mono (by decide)
          have lp1 : 0 < (lessF m (a, 1)).2 := (mk_red (show 0 < m.2 * 1 by omega)).pos
          have lp2 : 0 < (lessF (a, 1) m).2 := (mk_red (show 0 < 1 * m.2 by omega)).pos
          dsimp only [gdT, gdCons, gdN, gdNil]
          refine needB_i rfl (needB_i rfl ?_)
          dsimp only [tdSeq, tdPar2]
          refine cons_v (call_v (cons_v ?_))
          dsimp only [tdTup, tdCons, tdNil, tdC]
          refine v_i (i := 4) (d := .int a) rfl ?_
          refine needB_i rfl ?_
          refine v_i (i := 1) (d := frD m) rfl ?_
          refine ⟨(a, 1), m, rfl, rfl, ba1, bm, ?_⟩
          refine ⟨(x, y), m, rfl, rfl, bg, bm, ?_⟩
          refine iteB_i (c := under (a, 1) m) (fun e => ?_) (fun e => ?_)
          · refine needB_i rfl ?_
            refine ⟨m, (a, 1), rfl, rfl, bm, ba1, hm0, Int.zero_lt_one, ?_⟩
            exact low _ lb1 lp1 (.inl ⟨e, rfl⟩)
          · refine needB_i rfl ?_
            refine ⟨(a, 1), m, rfl, rfl, ba1, bm, Int.zero_lt_one, hm0, ?_⟩
            exact low _ lb2 lp2 (.inr ⟨e, rfl⟩)
      · obtain ⟨rfl, dn, rest, s, x4, x5, x6, x7, x8, x9, hd, hr, hs, hf, rfl⟩ := h1
        have e : rest = [] := List.map_eq_nil_iff.mp hr.symm
        subst e
        rw [List.append_nil] at hd
        have e2 : chargeL f m gs = mk s m.2 := by
          unfold chargeL
          rw [hd]
          exact hf
        rw [e2] at h
        dsimp only [tdRet]
        exact v_i (i := 3) rfl (Fin.i h)
    · exact h.elim
end
end Ri

set_option maxRecDepth 100000
set_option maxHeartbeats 2000000
/-! THE LAW'S DEFS, 7: the fields of terms, their texts. -/
namespace Ri
open PySem PySem.Spec PyProof.Rows L2 Dl
def gStrA : GC := fun ds O Q => match ds with
  | [.int i] => needB (Nat.blt i.natAbs.log2 1920) (Q (.str (toString i)) O)
  | [.str x] => Q (.str x) O
  | _ => False
theorem c_strA {X : Cx} : CallD X (.type "str") gStrA := by
  intro pins s σ H vs us Q I r ⟨F, O, ds, R, P, rs, g, k⟩
  match ds, rs, g with
  | [.int i], .cons (.int _) .nil, g =>
    obtain ⟨g1, g2⟩ := needB_o g
    exact call_str_int pins s σ H _ us Q I r ⟨i, rfl, Nat.le_of_ble_eq_true g1, k _ _ F _ O (.refl P) (.str _) g2⟩
  | [.str x], .cons (.str _) .nil, g => exact SkE.call_str_str pins s σ H _ us Q I r ⟨x, rfl, k _ _ F _ O (.refl P) (.str _) g⟩
theorem in_tup {neg : Bool} {k : D → Prop} {O : DO} {x : Str} {ss : List Str} (hx : PyData.strOk x = true) (hok : ∀ y ∈ ss, PyData.strOk y = true) (h : k (.bl (if neg then !decide (x ∈ ss) else decide (x ∈ ss)))) : gIn neg O (.str x) (.tup (ss.map D.str)) k := by
  have h1 : (okD 60 (.str x) && okDs 59 (ss.map D.str)) = true := Bool.and_eq_true_iff.mpr ⟨hx, okDs_strs 59 ss hok⟩
  rw [← inD_strs] at h
  exact needB_i h1 h
section
variable {w : World} {K : PySem.W.Frag} {mg : Str → Option Value} {base : Heap} {aI aF aL aC cT pT : Addr}
theorem k_law_by_word (c : Hd w K mg base aI aF aL aC cT pT) : Dl.Def prog w K mg base 3 "_law_by_word" ["_law_term", "_law_some"] gByWord := by
  have k_law_laid := k_law_laid c
  have S : FnScope ["_law_term", "_law_some", "_law_word", "_law_size", "_law_pairs", "_law_seen", "_law_found", "_law_k", "_law_spots", "_law_left", "_law_back", "_law_near", "_law_far", "_law_one", "_law_at", "_law_heft"] ["_law_term", "_law_some"] (defScope s_law_by_word) := C8.fnScope_by (by kernel_rfl)
  have hN := S.nd
  refine def_ok c.f_law_by_word S (fun _ _ _ _ _ _ us hl => match us, hl with | [_, _], _ => rfl) (fun ds O R h => ?_) fun f cdv A outer s H E hr => ⟨_, have hu := room64 hr; have hu5 := room65 hr; have hu1 := room1 hr; (s_cons (s_set 2 hN (d_ix (dv 0) d_int))
  (s_cons (s_if (t_cmp (o_in hu5) (dv 2) (d_tup (a_cons d_str (a_cons d_str a_nil))))
  (s_one (s_ret (d_if (t_cmp (o_eq hu) (dv 2) d_str) (d_tup (a_cons d_int (a_cons (d_tup a_nil) (a_cons (d_tup (a_cons (d_sl (dv 0) (p_at d_int) p_no) a_nil)) a_nil)))) (d_tup (a_cons d_int (a_cons (d_tup a_nil) (a_cons (d_tup a_nil) a_nil)))))))
  s_nil)
  (s_cons (s_if (t_cmp (o_in hu5) (dv 2) (d_tup (a_cons d_str (a_cons d_str a_nil))))
  (s_one (s_ret (d_call k_law_laid hr (by decide) (a_cons (d_ix (dv 1) d_int) (a_cons (d_ix (dv 1) d_int) (a_cons (d_cmp (o_eq hu) (dv 2) d_str) a_nil))))))
  s_nil)
  (s_cons (s_asg (d_ix (dv 1) d_int) (g_tup (n := 3) rfl (gs_cons (g_name 3 hN) (gs_cons (g_name 4 hN) (gs_cons (g_name 5 hN) gs_nil)))))
  (s_cons (s_if (t_cmp (o_eq hu) (dv 2) d_str)
  (s_cons (s_set 6 hN (d_ix (dv 1) d_int))
  (s_cons (s_for PassesOwn.never rfl (i_rng c.m_range (a_cons (d_op o_sub (d_callB (c_min2 rfl) c.m_min bt_min (a_cons (d_ix (dv 0) d_int) (a_cons (d_if (t_cmp o_gt (dv 3) d_int) d_int d_int) a_nil))) d_int) a_nil)) (g_name 7 hN) (s_one (s_set 6 hN (d_if (t_cmp o_lt (d_ix (dv 6) d_int) d_int) (d_call k_law_laid hr (by decide) (a_cons (dv 6) (a_cons (d_ix (dv 1) d_int) (a_cons d_bl a_nil)))) (dv 6)))))
  (s_one (s_ret (dv 6)))))
  s_nil)
  (s_cons (s_if (t_cmp (o_eq hu) (dv 2) d_str) (s_cons s_never (s_one s_never)) s_nil)
  (s_cons (s_if (t_cmp (o_eq hu) (dv 2) d_str) (s_cons s_never (s_cons s_never (s_cons s_never (s_one s_never)))) s_nil)
  (s_cons (s_if (t_cmp (o_eq hu) (dv 2) d_str)
  (s_cons (s_set 10 hN (d_callTy c_tuple c.m_tuple bt_tuple (a_cons (d_callB (c_sortT hu5) c.m_sorted bt_sorted (a_cons (d_lc rfl hN (i_seq (dv 4)) (blkOk_by (own := [("_law_near", 11), ("_law_far", 12)]) (by kernel_rfl)) (fun _ _ _ _ _ => (g_tup (n := 2) rfl (gs_cons (g_name 11 hN) (gs_cons (g_name 12 hN) gs_nil)))) (fun _ _ _ _ _ => ts_nil) (fun _ _ _ _ _ => (d_tup (a_cons (dv 12) (a_cons (dv 11) a_nil))))) a_nil)) a_nil)))
  (s_one (s_ret (d_tup (a_cons (dv 3) (a_cons (dv 10) (a_cons (d_callTy c_tuple c.m_tuple bt_tuple (a_cons (d_lc rfl hN (i_seq (dv 5)) (blkOk_by (own := [("_law_one", 13), ("_law_heft", 15)]) (by kernel_rfl)) (fun _ _ _ _ _ => (g_tup (n := 2) rfl (gs_cons (g_name 13 hN) (gs_cons (g_name 15 hN) gs_nil)))) (fun _ _ _ _ _ => ts_nil) (fun _ _ _ _ _ => (d_tup (a_cons (d_op o_sub d_int (dv 13)) (a_cons (dv 15) a_nil))))) a_nil)) a_nil)))))))
  s_nil)
  (s_cons (s_if (t_cmp (o_eq hu) (dv 2) d_str)
  (s_one (s_ret (d_tup (a_cons (dv 3) (a_cons (dv 4) (a_cons (d_callTy c_tuple c.m_tuple bt_tuple (a_cons (d_lc rfl hN (i_seq (dv 5)) (blkOk_by (own := [("_law_one", 13), ("_law_heft", 15)]) (by kernel_rfl)) (fun _ _ _ _ _ => (g_tup (n := 2) rfl (gs_cons (g_name 13 hN) (gs_cons (g_name 15 hN) gs_nil)))) (fun _ _ _ _ _ => ts_nil) (fun _ _ _ _ _ => (d_tup (a_cons (d_op o_add (dv 13) (d_ix (dv 0) d_int)) (a_cons (dv 15) a_nil))))) a_nil)) a_nil))))))
  s_nil)
  (s_one (s_ret (d_tup (a_cons (dv 3) (a_cons (dv 4) (a_cons (d_callTy c_tuple c.m_tuple bt_tuple (a_cons (d_lc rfl hN (i_seq (dv 5)) (blkOk_by (own := [("_law_one", 13), ("_law_heft", 15)]) (by kernel_rfl)) (fun _ _ _ _ _ => (g_tup (n := 2) rfl (gs_cons (g_name 13 hN) (gs_cons (g_name 15 hN) gs_nil)))) (fun _ _ _ _ _ => ts_nil) (fun _ _ _ _ _ => (d_tup (a_cons (dv 13) (a_cons (d_op o_mul (dv 15) (d_ix (dv 0) d_int)) a_nil))))) a_nil)) a_nil))))))))))))))), fun ds O R h => ?_⟩
  · unfold gByWord at h
    split at h <;> first | rfl | exact h.elim
  · unfold gByWord at h
    split at h
    · obtain ⟨t, rfl, rfl, hg, h⟩ := h
      have hi1 : (okD 60 (.str (wdT t)) && okDs 59 [D.str "thing", D.str "none"]) = true := Bool.and_eq_true_iff.mpr ⟨strOk_wd t, by decide +kernel⟩
      have hi2 : (okD 60 (.str (wdT t)) && okDs 59 [D.str "beside", D.str "below"]) = true := Bool.and_eq_true_iff.mpr ⟨strOk_wd t, by decide +kernel⟩
      cases t with
      | thing a b => exact needB_i hi1 (Fin.i h)
      | none => exact needB_i hi1 (Fin.i h)
      | besd s t => exact needB_i hi1 (needB_i hi2 ⟨ev s, ev t, rfl, rfl, hg.1.1.ok, hg.1.2.ok, Fin.i h⟩)
      | belw s t => exact needB_i hi1 (needB_i hi2 ⟨ev s, ev t, rfl, rfl, hg.1.1.ok, hg.1.2.ok, Fin.i h⟩)
      | row t k =>
        refine needB_i hi1 (needB_i hi2 ?_)
        obtain ⟨⟨g1, g2, g3, g4, g5⟩, g6⟩ := hg
        have e0 : (if (12 : Int) < k then (12 : Int) else k) - 1 = ((k.toNat - 1 : Nat) : Int) := by
          rw [if_neg (by omega)]
          omega
        refine (show tdFor (tiRng (tdCons (tdOp gSub (tdCall gMin2 (tdCons (tdOp gIx (tdV 0) (tdC (.int 2))) (tdCons (tdIf (tdT (tdOp gGt (tdV 3) (tdC (.int 0)))) (tdC (.int 12)) (tdC (.int 1))) tdNil))) (tdC (.int 1))) tdNil)) (gdN 7) (tdAsg (tdIf (tdT (tdOp gLt (tdOp gIx (tdV 6) (tdC (.int 0))) (tdC (.int 11)))) (tdCall gLaid (tdCons (tdV 6) (tdCons (tdOp gIx (tdV 1) (tdC (.int 0))) (tdCons (tdC (.bl true)) tdNil)))) (tdV 6)) (gdN 6)) { nx := tdRet (tdV 6) { nx := fun _ O' => Dl.Fin R .non O', rt := Dl.Fin R }, rt := Dl.Fin R } [some (tmD (.row t k)), some (.lst [fdD (ev t)]), some (.str "row"), some (.int ((ev t).n : Int)), some (.tup ((ev t).ties.map prD)), some (.tup ((ev t).seen.map frD)), some (fdD (ev t)), none, none, none, none, none, none, none, none, none] O from ?_)
        refine rng_v (call_v (cons_v ?_))
        refine iteB_t (c := decide ((0 : Int) < ((ev t).n : Int))) (decide_eq_true (by omega)) ?_
        refine ⟨_, rfl, ?_⟩
        rw [e0]
        refine ⟨rngOk_nat (by omega), ?_⟩
        have er : rngD 0 ((k.toNat - 1 : Nat) : Int).toNat = (List.range (k.toNat - 1)).map fun (i : Nat) => D.int (i : Int) := rng_map _
        rw [er]
        have hm1 : k.toNat - 1 ≤ 9 := by omega
        have okr := g3
        change R (fdD (rowF (ev t) (k.toNat - 1))) O at h
        have hlt : ∀ i, i ≤ k.toNat - 1 → i < k.toNat := fun i hi => by omega
        generalize k.toNat - 1 = m at h hm1 hlt
        refine for_ind (fun rem env O' => O' = O ∧ ∃ i, i ≤ m ∧ rem = ((List.range m).drop i).map (fun (j : Nat) => D.int (j : Int)) ∧ (∃ x7, env = [some (tmD (.row t k)), some (.lst [fdD (ev t)]), some (.str "row"), some (.int ((ev t).n : Int)), some (.tup ((ev t).ties.map prD)), some (.tup ((ev t).seen.map frD)), some (fdD (rowF (ev t) i)), x7, none, none, none, none, none, none, none, none]))
          (fun d r env O' N h1 k' => ?_) (fun env O' h1 => ?_) ⟨rfl, 0, Nat.zero_le _, by rw [List.drop_zero], _, rfl⟩
        · obtain ⟨rfl, i, hi, hr, x7, rfl⟩ := h1
          have hl : i < m := by
            by_cases q : i < m
            · exact q
            · rw [List.drop_eq_nil_of_le (by rw [List.length_range]; omega)] at hr
              cases hr
          rw [List.drop_eq_getElem_cons (by rw [List.length_range]; exact hl), List.map_cons, List.getElem_range] at hr
          injection hr with e1 e2
          subst e1 e2
          have o1 := okr i (hlt i hi)
          have o2 := okr 0 (hlt 0 (Nat.zero_le _))
          have n6 := o1.n6
          refine iteB_t (c := decide (((rowF (ev t) i).n : Int) < 11)) (decide_eq_true (by omega)) ?_
          refine ⟨rowF (ev t) i, ev t, rfl, rfl, o1, o2, ?_⟩
          exact k' _ _ ⟨rfl, i + 1, hl, rfl, _, rfl⟩
        · obtain ⟨rfl, i, hi, hr, x7, rfl⟩ := h1
          have e : i = m := by
            have := congrArg List.length hr
            rw [List.length_map, List.length_drop, List.length_range] at this
            simp at this
            omega
          subst e
          dsimp only [tdRet]
          exact v_i (i := 6) rfl (Fin.i h)
      | turned t =>
        refine needB_i hi1 (needB_i hi2 ?_)
        have ok := hg.1.ok
        refine lcD_map (ev t).ties prD (fun p => prD (p.2, p.1)) (fun p _ K1 k1 => needB_i rfl k1) ?_
        have e1 : (ev t).ties.map (fun p => prD (p.2, p.1)) = ((ev t).ties.map fun p => (p.2, p.1)).map prD := by rw [List.map_map]; rfl
        rw [e1]
        dsimp only [tdNil]
        refine sort_pairs _ ?_
        refine lcD_map (ev t).seen frD (fun p => frD (0 - p.1, p.2)) (fun p _ K1 k1 => needB_i rfl k1) ?_
        have e2 : (ev t).seen.map (fun p => frD (0 - p.1, p.2)) = ((ev t).seen.map fun p => (0 - p.1, p.2)).map frD := by rw [List.map_map]; rfl
        rw [e2]
        exact Fin.i h
      | moved t k =>
        refine needB_i hi1 (needB_i hi2 ?_)
        have ok := hg.1.1.ok
        refine lcD_map (ev t).seen frD (fun p => frD (p.1 + k, p.2)) (fun p _ K1 k1 => needB_i rfl k1) ?_
        have e2 : (ev t).seen.map (fun p => frD (p.1 + k, p.2)) = ((ev t).seen.map fun p => (p.1 + k, p.2)).map frD := by rw [List.map_map]; rfl
        rw [e2]
        exact Fin.i h
      | times t k =>
        refine needB_i hi1 (needB_i hi2 ?_)
        have ok := hg.1.1.ok
        refine lcD_map (ev t).seen frD (fun p => frD (p.1, p.2 * k)) (fun p hp K1 k1 => ?_) ?_
        · have b := ok.bd p hp
          have g := hg.1.2
          exact ⟨sm_mul (sm1000 (by omega) (by omega)) (sm1000 (by omega) (by omega)), k1⟩
        · have e2 : (ev t).seen.map (fun p => frD (p.1, p.2 * k)) = ((ev t).seen.map fun p => (p.1, p.2 * k)).map frD := by rw [List.map_map]; rfl
          rw [e2]
          exact Fin.i h
    · exact h.elim
def gLIsField : GC := fun ds O Q => match ds with
  | [fd] => ∃ f, FdOk f ∧ fd = fdD f ∧ Q (.bl true) O
  | _ => False
theorem k_law_is_field (c : Hd w K mg base aI aF aL aC cT pT) : Dl.Def prog w K mg base 1 "_law_is_field" ["_law_found"] gLIsField := by
  have S : FnScope ["_law_found", "_law_one", "_law_heft", "_law_near", "_law_far"] ["_law_found"] (defScope s_law_is_field) := C8.fnScope_by (by kernel_rfl)
  have hN := S.nd
  refine def_ok c.f_law_is_field S (fun _ _ _ _ _ _ us hl => match us, hl with | [_], _ => rfl) (fun ds O R h => ?_) fun f cdv A outer s H E hr => ⟨_, have hu := room64 hr; have hu5 := room65 hr; have hu1 := room1 hr; (s_cons (s_if (t_w (w_or (t_cmp o_is (dv 0) d_non) (w_or (t_cmp o_gt (d_ix (dv 0) d_int) d_int) (w_or1 (t_cmp (o_ne hu) (d_lc rfl hN (i_seq (d_ix (dv 0) d_int)) (blkOk_by (own := [("_law_near", 3), ("_law_far", 4)]) (by kernel_rfl)) (fun _ _ _ _ _ => (g_tup (n := 2) rfl (gs_cons (g_name 3 hN) (gs_cons (g_name 4 hN) gs_nil)))) (fun _ _ _ _ _ => (ts_one (t_cmp (o_eq hu) (dv 3) (dv 4)))) (fun _ _ _ _ _ => d_int)) (d_lst a_nil))))))
  (s_one (s_ret d_bl))
  s_nil)
  (s_one (s_ret (d_cmp (o_eq hu) (d_lc rfl hN (i_seq (d_ix (dv 0) d_int)) (blkOk_by (own := [("_law_one", 1), ("_law_heft", 2)]) (by kernel_rfl)) (fun _ _ _ _ _ => (g_tup (n := 2) rfl (gs_cons (g_name 1 hN) (gs_cons (g_name 2 hN) gs_nil)))) (fun _ _ _ _ _ => (ts_one (t_w (w_or (t_not (t_chain o_le o_le (d_neg d_int) (dv 1) d_int)) (w_or1 (t_not (t_chain o_le o_le d_int (dv 2) d_int))))))) (fun _ _ _ _ _ => d_int)) (d_lst a_nil))))), fun ds O R h => ?_⟩
  · unfold gLIsField at h
    split at h <;> first | rfl | exact h.elim
  · unfold gLIsField at h
    split at h
    · obtain ⟨f, ok, rfl, h⟩ := h
      have n6 := ok.n6
      refine iteB_f (c := decide ((10 : Int) < (f.n : Int))) (decide_eq_false (by omega)) ?_
      refine lcD_pure f.ties prD (fun p => decide (p.1 = p.2)) (fun _ => .int 1) (fun p hp K1 K0 k1 k0 => ?_) [] ?_
      · refine iteB_i (c := decide ((p.1 : Int) = (p.2 : Int))) (fun e => ?_) (fun e => ?_)
        · exact k1 (decide_eq_true (by have := of_decide_eq_true e; omega))
        · exact k0 (decide_eq_false (by have := of_decide_eq_false e; omega))
      · have e : f.ties.filter (fun p => decide (p.1 = p.2)) = [] := List.filter_eq_nil_iff.mpr fun p hp q => by
          have q := of_decide_eq_true q
          obtain ⟨a, b⟩ := p
          have q : a = b := q
          subst q
          exact ok.ir a hp
        rw [e]
        refine ⟨rfl, rfl, ?_⟩
        refine lcD_pure f.seen frD (fun _ => false) (fun _ => .int 1) (fun p hp K1 K0 k1 k0 => ?_) [] ?_
        · obtain ⟨b1, b2, b3, b4⟩ := ok.bd p hp
          dsimp only [gdT, gdCons, gdN, gdNil, frD]
          refine needB_i rfl ?_
          dsimp only [tdOr, tdNot, tdT]
          refine chain_l ?_
          refine ⟨decide ((-1000 : Int) ≤ p.1), rfl, fun _ => ?_, fun e => absurd b1 (of_decide_eq_false e)⟩
          refine iteB_f (c := !decide (p.1 ≤ 1000)) (by rw [decide_eq_true b2]; rfl) ?_
          refine chain_l ?_
          refine ⟨decide ((1 : Int) ≤ p.2), rfl, fun _ => ?_, fun e => absurd b3 (of_decide_eq_false e)⟩
          refine iteB_f (c := !decide (p.2 ≤ 1000)) (by rw [decide_eq_true b4]; rfl) ?_
          exact k0 rfl
        · have e2 : f.seen.filter (fun _ => false) = [] := List.filter_eq_nil_iff.mpr fun p hp q => by cases q
          rw [e2]
          exact ⟨rfl, rfl, Fin.i h⟩
    · exact h.elim
def gLKids : GC := fun ds O Q => match ds with
  | [d] => ∃ t, d = tmD t ∧ Q (.tup (natD (plc t))) O
  | _ => False
theorem k_law_kids (c : Hd w K mg base aI aF aL aC cT pT) : Dl.Def prog w K mg base 1 "_law_kids" ["_law_term"] gLKids := by
  have S : FnScope ["_law_term"] ["_law_term"] (defScope s_law_kids) := C8.fnScope_by (by kernel_rfl)
  have hN := S.nd
  refine def_ok c.f_law_kids S (fun _ _ _ _ _ _ us hl => match us, hl with | [_], _ => rfl) (fun ds O R h => ?_) fun f cdv A outer s H E hr => ⟨_, have hu := room64 hr; have hu5 := room65 hr; have hu1 := room1 hr; (s_cons (s_if (t_cmp (o_in hu5) (d_ix (dv 0) d_int) (d_tup (a_cons d_str (a_cons d_str a_nil))))
  (s_one (s_ret (d_tup a_nil)))
  s_nil)
  (s_one (s_ret (d_if (t_cmp (o_in hu5) (d_ix (dv 0) d_int) (d_tup (a_cons d_str (a_cons d_str a_nil)))) (d_tup (a_cons d_int (a_cons d_int a_nil))) (d_tup (a_cons d_int a_nil)))))), fun ds O R h => ?_⟩
  · unfold gLKids at h
    split at h <;> first | rfl | exact h.elim
  · unfold gLKids at h
    split at h
    · obtain ⟨t, rfl, h⟩ := h
      have hi1 : (okD 60 (.str (wdT t)) && okDs 59 [D.str "thing", D.str "none"]) = true := Bool.and_eq_true_iff.mpr ⟨strOk_wd t, by decide +kernel⟩
      have hi2 : (okD 60 (.str (wdT t)) && okDs 59 [D.str "beside", D.str "below"]) = true := Bool.and_eq_true_iff.mpr ⟨strOk_wd t, by decide +kernel⟩
      cases t with
      | thing a b => exact needB_i hi1 (Fin.i h)
      | none => exact needB_i hi1 (Fin.i h)
      | besd s t => exact needB_i hi1 (needB_i hi2 (Fin.i h))
      | belw s t => exact needB_i hi1 (needB_i hi2 (Fin.i h))
      | row t k => exact needB_i hi1 (needB_i hi2 (Fin.i h))
      | turned t => exact needB_i hi1 (needB_i hi2 (Fin.i h))
      | moved t k => exact needB_i hi1 (needB_i hi2 (Fin.i h))
      | times t k => exact needB_i hi1 (needB_i hi2 (Fin.i h))
    · exact h.elim
end
end Ri

set_option maxRecDepth 100000
set_option maxHeartbeats 2000000
/-! THE LAW'S DEFS, 8: built, things, text. -/
namespace Ri
open PySem PySem.Spec PyProof.Rows L2 Dl
/-- the words and numbers of a term's text, and their texts -/
def thg : Tm → List (D × Str)
  | .thing a b => [(.str "thing", "thing"), (.int a, sgS a), (.int b, sgS b)]
  | .none => [(.str "none", "none")]
  | .besd s t => (.str "beside", "beside") :: (thg s ++ thg t)
  | .belw s t => (.str "below", "below") :: (thg s ++ thg t)
  | .row t k => (.str "row", "row") :: (.int k, sgS k) :: thg t
  | .turned t => (.str "turned", "turned") :: thg t
  | .moved t k => (.str "moved", "moved") :: (.int k, sgS k) :: thg t
  | .times t k => (.str "times", "times") :: (.int k, sgS k) :: thg t
theorem thg_tok (t : Tm) : (thg t).map (·.2) = tok t := by
  induction t with
  | thing a b => rfl
  | none => rfl
  | besd s t h1 h2 => simp [thg, tok, h1, h2]
  | belw s t h1 h2 => simp [thg, tok, h1, h2]
  | row t k h => simp [thg, tok, h]
  | turned t h => simp [thg, tok, h]
  | moved t k h => simp [thg, tok, h]
  | times t k h => simp [thg, tok, h]
theorem thg_len (t : Tm) : (thg t).length ≤ 3 * sz t := by
  induction t with
  | thing a b => exact Nat.le_refl _
  | none => exact Nat.le_of_ble_eq_true rfl
  | besd s t h1 h2 => simp only [thg, sz, List.length_cons, List.length_append]; omega
  | belw s t h1 h2 => simp only [thg, sz, List.length_cons, List.length_append]; omega
  | row t k h => simp only [thg, sz, List.length_cons]; omega
  | turned t h => simp only [thg, sz, List.length_cons]; omega
  | moved t k h => simp only [thg, sz, List.length_cons]; omega
  | times t k h => simp only [thg, sz, List.length_cons]; omega
def thgD (t : Tm) : List D := (thg t).map (·.1)
theorem thgD_len (t : Tm) : (thgD t).length ≤ 3 * sz t := by
  unfold thgD
  rw [List.length_map]
  exact thg_len t
/-- the right text of each -/
def TxtOf (z : D × Str) : Prop := z.1 = .str z.2 ∨ ∃ i : Int, z.1 = .int i ∧ z.2 = sgS i ∧ i.natAbs.log2 < 1920
theorem strsD_id (xs : List Str) : strsD (xs.map D.str) = some xs := (strsD_map id xs).trans (by rw [List.map_id])
theorem join_v {e1 : TD} {x : Str} {env : DEnv} {O : DO} {Q : D → DO → Prop} (h : e1 env O fun y O2 => ∃ ys : List Str, y = .lst (ys.map .str) ∧ (ys.map (·.length)).sum + ys.length * x.length ≤ 16777216 ∧ Q (.str (Txt.join x ys)) O2) : tdJoin (tdC (.str x)) e1 env O Q := by
  have e : (fun y O2 => ∃ ys : List Str, y = .lst (ys.map .str) ∧ (ys.map (·.length)).sum + ys.length * x.length ≤ 16777216 ∧ Q (.str (Txt.join x ys)) O2) = fun (y : D) (O2 : DO) => match y with
    | .lst ds => match strsD ds with
      | some ys => needB (Nat.ble ((ys.map (·.length)).sum + ys.length * x.length) 16777216) (Q (.str (Txt.join x ys)) O2)
      | none => False
    | _ => False := by
    funext y O2
    refine propext ⟨?_, fun z => ?_⟩
    · rintro ⟨ys, rfl, h1, h2⟩
      show (match strsD (ys.map D.str) with
        | some ys => needB (Nat.ble ((ys.map (·.length)).sum + ys.length * x.length) 16777216) (Q (.str (Txt.join x ys)) O2)
        | none => False)
      rw [strsD_id]
      exact needB_i (Nat.ble_eq_true_of_le h1) h2
    · cases y <;> try exact z.elim
      rename_i ds
      cases e : strsD ds with
      | none => simp only [e] at z
      | some ys =>
        simp only [e] at z
        obtain ⟨g1, g2⟩ := needB_o z
        refine ⟨ys, ?_, Nat.le_of_ble_eq_true g1, g2⟩
        rw [strsD_ok e]
  rw [e] at h
  exact h
section
variable {w : World} {K : PySem.W.Frag} {mg : Str → Option Value} {base : Heap} {aI aF aL aC cT pT : Addr}
def gLText : GC := fun ds O Q => match ds with
  | [.lst xs] => ∃ l : List (D × Str), xs = l.map (·.1) ∧ (∀ z ∈ l, TxtOf z) ∧ ((l.map (·.2)).map (·.length)).sum + (l.map (·.2)).length * 1 ≤ 16777216 ∧ Q (.str (Txt.join " " (l.map (·.2)))) O
  | _ => False
theorem k_law_text (c : Hd w K mg base aI aF aL aC cT pT) : Dl.Def prog w K mg base 1 "_law_text" ["_law_things_here"] gLText := by
  have S : FnScope ["_law_things_here", "_law_thing"] ["_law_things_here"] (defScope s_law_text) := C8.fnScope_by (by kernel_rfl)
  have hN := S.nd
  refine def_ok c.f_law_text S (fun _ _ _ _ _ _ us hl => match us, hl with | [_], _ => rfl) (fun ds O R h => ?_) fun f cdv A outer s H E hr => ⟨_, have hu := room64 hr; have hu5 := room65 hr; have hu1 := room1 hr; (s_one (s_ret (d_join d_str (d_lc rfl hN (i_seq (dv 0)) (blkOk_by (own := [("_law_thing", 1)]) (by kernel_rfl)) (fun _ _ _ _ _ => (g_name 1 hN)) (fun _ _ _ _ _ => ts_nil) (fun _ _ _ _ _ => (d_callTy c_strA c.m_str bt_str (a_cons (dv 1) a_nil))))))), fun ds O R h => ?_⟩
  · unfold gLText at h
    split at h <;> first | rfl | exact h.elim
  · unfold gLText at h
    split at h
    · obtain ⟨l, rfl, hl, hz, h⟩ := h
      dsimp only [tdRet]
      refine join_v ?_
      dsimp only [tdLc, tiSeq]
      refine v_i (i := 0) rfl ?_
      refine lcD_map l (·.1) (fun z => .str z.2) (fun z hzl K1 k1 => ?_) ?_
      · rcases hl z hzl with e | ⟨i, e1, e2, e3⟩
        · dsimp only [gdN]
          refine call1_v (i := 1) (d := .str z.2) (by rw [e]; rfl) ?_
          exact k1
        · dsimp only [gdN]
          refine call1_v (i := 1) (d := .int i) (by rw [e1]; rfl) ?_
          rw [e2] at k1
          exact needB_i (Nat.ble_eq_true_of_le e3) k1
      · refine ⟨l.map (·.2), by rw [List.map_map]; rfl, hz, Fin.i h⟩
    · exact h.elim
def restL : Tm → List D
  | .thing a b => [.int a, .int b]
  | .none => []
  | .besd s t => [tmD s, tmD t]
  | .belw s t => [tmD s, tmD t]
  | .row t k => [tmD t, .int k]
  | .turned t => [tmD t]
  | .moved t k => [tmD t, .int k]
  | .times t k => [tmD t, .int k]
def ownL : Tm → List D
  | .thing a b => [.int a, .int b]
  | .row _ k => [.int k]
  | .moved _ k => [.int k]
  | .times _ k => [.int k]
  | _ => []
def isInD : D → Bool
  | .int _ => true
  | _ => false
theorem isIn_tm (t : Tm) : isInD (tmD t) = false := by cases t <;> rfl
theorem tyD_tm (t : Tm) : tyD (tmD t) = "tuple" := by cases t <;> rfl
theorem tmD_eq (t : Tm) : tmD t = .tup (.str (wdT t) :: restL t) := by cases t <;> rfl
theorem wd_only (t : Tm) : ¬ wdT t = "only" := by cases t <;> simp only [wdT] <;> decide
theorem rest_own (t : Tm) : (restL t).filter isInD = ownL t := by
  cases t <;> simp only [restL, ownL, List.filter_cons, List.filter_nil, isIn_tm] <;> rfl
theorem rest_is {t : Tm} {x : D} (h : x ∈ restL t) : (∃ i, x = .int i) ∨ ∃ s, x = tmD s := by
  cases t <;> simp only [restL, List.mem_cons, List.not_mem_nil, or_false] at h
  all_goals first | exact h.elim | skip
  all_goals first | exact .inr ⟨_, h⟩ | skip
  all_goals rcases h with h | h
  all_goals first | exact .inr ⟨_, h⟩ | exact .inl ⟨_, h⟩
theorem rest_kid {t : Tm} {k : Nat} (h : k ∈ plc t) : (D.str (wdT t) :: restL t)[k]? = some (tmD (kid t k)) := by
  cases t <;> simp only [plc, List.mem_cons, List.not_mem_nil, or_false] at h
  all_goals first | exact h.elim | skip
  all_goals first | (subst h; rfl) | skip
  all_goals rcases h with rfl | rfl <;> rfl
theorem kid_le {t : Tm} {k : Nat} (h : k ∈ plc t) : dep (kid t k) < dep t ∧ sz (kid t k) < sz t := by
  cases t <;> simp only [plc, List.mem_cons, List.not_mem_nil, or_false] at h
  all_goals first | exact h.elim | skip
  all_goals first | (subst h; simp only [kid, dep, sz]; omega) | skip
  all_goals rcases h with rfl | rfl
  all_goals simp only [kid, dep, sz, if_pos]
  all_goals first | omega | (rw [if_neg (by decide)]; omega)
theorem thgD_eq (t : Tm) : thgD t = (.str (wdT t) :: ownL t) ++ (plc t).flatMap fun k => thgD (kid t k) := by
  cases t <;> simp [thgD, thg, ownL, plc, kid, wdT]
def gLThings (n : Nat) : GC := fun ds O Q => match ds with
  | [d] => ∃ t, d = tmD t ∧ dep t ≤ n ∧ sz t ≤ 1000 ∧ Q (.lst (thgD t)) O
  | _ => False
theorem things0 (c : Hd w K mg base aI aF aL aC cT pT) : Dl.Def prog w K mg base 2 "_law_things" ["_law_term"] (gLThings 0) := by
  have S : FnScope ["_law_term", "_law_word", "_law_own", "_law_found", "_law_place", "_law_one"] ["_law_term"] (defScope s_law_things) := C8.fnScope_by (by kernel_rfl)
  have hN := S.nd
  refine def_ok c.f_law_things S (fun _ _ _ _ _ _ us hl => match us, hl with | [_], _ => rfl) (fun ds O R h => ?_) fun f cdv A outer s H E hr => ⟨_, have hu := room64 hr; have hu5 := room65 hr; have hu1 := room1 hr; (s_cons s_never (s_cons s_never (s_cons s_never (s_cons s_never (s_cons s_never s_nil))))), fun ds O R h => ?_⟩
  · unfold gLThings at h
    split at h <;> first | rfl | exact h.elim
  · unfold gLThings at h
    split at h
    · obtain ⟨t, _, hd, _⟩ := h
      have : 0 < dep t := by cases t <;> exact Nat.succ_pos _
      omega
    · exact h.elim
theorem things_step (c : Hd w K mg base aI aF aL aC cT pT) {lv n : Nat} (hlv : 2 ≤ lv) (k_law_things : Dl.Def prog w K mg base lv "_law_things" ["_law_term"] (gLThings n)) : Dl.Def prog w K mg base (lv + 1) "_law_things" ["_law_term"] (gLThings (n + 1)) := by
  have k_law_kids := k_law_kids c
  have S : FnScope ["_law_term", "_law_word", "_law_own", "_law_found", "_law_place", "_law_one"] ["_law_term"] (defScope s_law_things) := C8.fnScope_by (by kernel_rfl)
  have hN := S.nd
  refine def_ok c.f_law_things S (fun _ _ _ _ _ _ us hl => match us, hl with | [_], _ => rfl) (fun ds O R h => ?_) fun f cdv A outer s H E hr => ⟨_, have hu := room64 hr; have hu5 := room65 hr; have hu1 := room1 hr; (s_cons (s_par2 1 2 rfl hN (a_cons (d_ix (dv 0) d_int) (a_cons (d_lst a_nil) a_nil)))
  (s_cons (s_if (t_cmp (o_eq hu) (dv 1) d_str) (s_one s_never) (s_one (s_setLc 2 rfl hN (sw_true rfl rfl rfl rfl) (i_seq (d_sl (dv 0) (p_at d_int) p_no)) (blkOk_by (own := [("_law_one", 5)]) (by kernel_rfl)) (fun _ _ _ _ _ => (g_name 5 hN)) (fun _ _ _ _ _ => (ts_one (t_val (d_isi (dv 5) c.m_isinstance c.m_int bt_int)))) (fun _ _ _ _ _ => (dv 5)))))
  (s_cons (s_set 3 hN (d_op o_add (d_lst (a_cons (dv 1) a_nil)) (dv 2)))
  (s_cons (s_for PassesOwn.never rfl (i_seq (d_call k_law_kids hr (by first | decide | exact Nat.ble_eq_true_of_le (by omega)) (a_cons (dv 0) a_nil))) (g_name 4 hN) (s_one (s_set 3 hN (d_op o_add (dv 3) (d_call k_law_things hr (by first | decide | exact Nat.ble_eq_true_of_le (by omega)) (a_cons (d_ix (dv 0) (dv 4)) a_nil))))))
  (s_one (s_ret (dv 3))))))), fun ds O R h => ?_⟩
  · unfold gLThings at h
    split at h <;> first | rfl | exact h.elim
  · unfold gLThings at h
    split at h
    · obtain ⟨t, rfl, hd, hz, h⟩ := h
      have ht := tmD_eq t
      rw [ht]
      dsimp only [tdSeq, tdPar2]
      refine cons_v (op_l (v_i (i := 0) rfl ?_))
      refine ix_tup (n := 0) rfl ?_
      dsimp only [tdLst, tdCons, tdNil]
      refine needB_i rfl ?_
      refine ifS_f (fun Q' q => ?_) ?_
      · refine tt_l (op_l (v_i (i := 1) rfl ?_))
        show Q' (decide (wdT t = "only")) O
        rw [decide_eq_false (wd_only t)]
        exact q
      · dsimp only [tdAsg, tdLc, tiSeq, tdSl]
        refine v_i (i := 0) rfl ?_
        refine (show lcD (gdN 5) (tdT (tdIsi "int" (tdV 5))) (tdV 5) [some (.tup (.str (wdT t) :: restL t)), some (.str (wdT t)), some (.lst []), none, none, none] (cutD (D.str (wdT t) :: restL t) (some ((1 : Nat) : Int)) none) [] O _ from ?_)
        rw [cut_from]
        have em : (D.str (wdT t) :: restL t).drop 1 = (restL t).map id := (List.map_id _).symm
        rw [em]
        refine lcD_pure (restL t) id isInD id (fun x hx K1 K0 k1 k0 => ?_) [] ?_
        · dsimp only [gdN, id]
          refine tt_l ?_
          rcases rest_is hx with ⟨i, rfl⟩ | ⟨s, rfl⟩
          · exact k1 rfl
          · unfold tdIsi
            refine v_i (i := 5) rfl ?_
            rw [tyD_tm]
            exact k0 (isIn_tm s)
        · rw [List.nil_append, List.map_id, rest_own]
          dsimp only [gdN]
          have hl := thgD_len t
          have he := thgD_eq t
          have hw : (D.str (wdT t) :: ownL t).length ≤ 3000 := by
            have := congrArg List.length he
            rw [List.length_append] at this
            omega
          refine op_l (cons_v (v_i (i := 1) rfl ?_))
          dsimp only [tdNil]
          refine needB_i rfl ?_
          refine v_i (i := 2) rfl ?_
          refine needB_i (szB_i (by show 1 + (ownL t).length ≤ _; rw [List.length_cons] at hw; omega)) ?_
          refine (show tdFor (tiSeq (tdCall gLKids (tdCons (tdV 0) tdNil))) (gdN 4) (tdAsg (tdOp gAdd (tdV 3) (tdCall (gLThings n) (tdCons (tdOp gIx (tdV 0) (tdV 4)) tdNil))) (gdN 3)) { nx := tdRet (tdV 3) { nx := fun _ O' => Dl.Fin R .non O', rt := Dl.Fin R }, rt := Dl.Fin R } [some (.tup (.str (wdT t) :: restL t)), some (.str (wdT t)), some (.lst (ownL t)), some (.lst (.str (wdT t) :: ownL t)), none, none] O from ?_)
          dsimp only [tdFor, tiSeq]
          refine call1_v (i := 0) rfl ⟨t, ht.symm, ?_⟩
          refine for_ind (fun rem env O' => O' = O ∧ ∃ dn rest x4, plc t = dn ++ rest ∧ rem = natD rest ∧ env = [some (.tup (.str (wdT t) :: restL t)), some (.str (wdT t)), some (.lst (ownL t)), some (.lst ((.str (wdT t) :: ownL t) ++ dn.flatMap fun k => thgD (kid t k))), x4, none])
            (fun d r env O' N h1 k => ?_) (fun env O' h1 => ?_) ⟨rfl, [], plc t, none, rfl, rfl, by rw [List.flatMap_nil, List.append_nil]⟩
          · obtain ⟨rfl, dn, rest, x4, hp, hr, rfl⟩ := h1
            cases rest with
            | nil => cases hr
            | cons j rest =>
              injection hr with e1 e2
              subst e1 e2
              have hj : j ∈ plc t := by
                rw [hp]
                exact List.mem_append_right _ List.mem_cons_self
              obtain ⟨kl1, kl2⟩ := kid_le hj
              dsimp only [gdN, tdAsg]
              refine op_l (v_i (i := 3) rfl (call_v (cons_v ?_)))
              refine op_vv (i := 0) (j := 4) rfl rfl (ix_tup (rest_kid hj) ?_)
              refine ⟨kid t j, rfl, by omega, by omega, ?_⟩
              have hsp : ((.str (wdT t) :: ownL t) ++ dn.flatMap fun k => thgD (kid t k)).length + (thgD (kid t j)).length ≤ 3000 := by
                have := congrArg List.length he
                rw [hp, List.flatMap_append, List.flatMap_cons, List.length_append, List.length_append, List.length_append] at this
                rw [List.length_append]
                omega
              refine needB_i (szB_i (by omega)) ?_
              refine k _ _ ⟨rfl, dn ++ [j], rest, some (.int (j : Int)), by rw [hp, List.append_assoc]; rfl, rfl, ?_⟩
              rw [List.flatMap_append, List.flatMap_cons, List.flatMap_nil, List.append_nil, ← List.append_assoc]
              rfl
          · obtain ⟨rfl, dn, rest, x4, hp, hr, rfl⟩ := h1
            have e : rest = [] := List.map_eq_nil_iff.mp hr.symm
            subst e
            rw [List.append_nil] at hp
            subst hp
            rw [he] at h
            dsimp only [tdRet]
            exact v_i (i := 3) rfl (Fin.i h)
    · exact h.elim
def gLBuilt (n : Nat) : GC := fun ds O Q => match ds with
  | [d, .tup ns] => ∃ t, d = tmD t ∧ dep t ≤ n ∧ Gd t ∧ ns.length + n ≤ 1000 ∧ Q (.lst [fdD (ev t)]) O
  | _ => False
theorem built0 (c : Hd w K mg base aI aF aL aC cT pT) : Dl.Def prog w K mg base 4 "_law_built" ["_law_term", "_law_path"] (gLBuilt 0) := by
  have S : FnScope ["_law_term", "_law_path", "_law_some", "_law_place", "_law_found"] ["_law_term", "_law_path"] (defScope s_law_built) := C8.fnScope_by (by kernel_rfl)
  have hN := S.nd
  refine def_ok c.f_law_built S (fun _ _ _ _ _ _ us hl => match us, hl with | [_, _], _ => rfl) (fun ds O R h => ?_) fun f cdv A outer s H E hr => ⟨_, have hu := room64 hr; have hu5 := room65 hr; have hu1 := room1 hr; (s_cons s_never (s_cons s_never (s_cons s_never (s_cons s_never s_nil)))), fun ds O R h => ?_⟩
  · unfold gLBuilt at h
    split at h <;> first | rfl | exact h.elim
  · unfold gLBuilt at h
    split at h
    · obtain ⟨t, _, hd, _⟩ := h
      have : 0 < dep t := by cases t <;> exact Nat.succ_pos _
      omega
    · exact h.elim
theorem built_step (c : Hd w K mg base aI aF aL aC cT pT) {lv n : Nat} (hlv : 4 ≤ lv) (k_law_built : Dl.Def prog w K mg base lv "_law_built" ["_law_term", "_law_path"] (gLBuilt n)) : Dl.Def prog w K mg base (lv + 1) "_law_built" ["_law_term", "_law_path"] (gLBuilt (n + 1)) := by
  have k_law_kids := k_law_kids c
  have k_law_by_word := k_law_by_word c
  have k_law_is_field := k_law_is_field c
  have S : FnScope ["_law_term", "_law_path", "_law_some", "_law_place", "_law_found"] ["_law_term", "_law_path"] (defScope s_law_built) := C8.fnScope_by (by kernel_rfl)
  have hN := S.nd
  refine def_ok c.f_law_built S (fun _ _ _ _ _ _ us hl => match us, hl with | [_, _], _ => rfl) (fun ds O R h => ?_) fun f cdv A outer s H E hr => ⟨_, have hu := room64 hr; have hu5 := room65 hr; have hu1 := room1 hr; (s_cons (s_set 2 hN (d_lstO a_nil))
  (s_cons (s_for PassesOwn.never rfl (i_seq (d_call k_law_kids hr (by first | decide | exact Nat.ble_eq_true_of_le (by omega)) (a_cons (dv 0) a_nil))) (g_name 3 hN) (s_cons (s_set 4 hN (d_call k_law_built hr (by first | decide | exact Nat.ble_eq_true_of_le (by omega)) (a_cons (d_ix (dv 0) (dv 3)) (a_cons (d_op o_add (dv 1) (d_tup (a_cons (dv 3) a_nil))) a_nil))))
  (s_cons (s_if (t_val (d_isi (dv 4) c.m_isinstance c.m_tuple bt_tuple))
  (s_one (s_ret (dv 4)))
  s_nil)
  (s_one (s_expr (d_app (dv 2) (a_cons (d_ix (dv 4) d_int) a_nil)))))))
  (s_cons (s_set 4 hN (d_call k_law_by_word hr (by first | decide | exact Nat.ble_eq_true_of_le (by omega)) (a_cons (dv 0) (a_cons (d_fz (dv 2)) a_nil))))
  (s_one (s_ret (d_if (t_val (d_call k_law_is_field hr (by first | decide | exact Nat.ble_eq_true_of_le (by omega)) (a_cons (dv 4) a_nil))) (d_lst (a_cons (dv 4) a_nil)) (d_tup (a_cons d_str (a_cons (dv 1) a_nil))))))))), fun ds O R h => ?_⟩
  · unfold gLBuilt at h
    split at h <;> first | rfl | exact h.elim
  · unfold gLBuilt at h
    split at h
    · rename_i d ns
      obtain ⟨t, rfl, hd, hg, hn, h⟩ := h
      have ht := tmD_eq t
      refine needB_i rfl fun p hp => ?_
      refine (show tdFor (tiSeq (tdCall gLKids (tdCons (tdV 0) tdNil))) (gdN 3) _ _ [some (tmD t), some (.tup ns), some (.ptr p), none, none] (updO O p (.lst [])) from ?_)
      dsimp only [tdFor, tiSeq]
      refine call1_v (i := 0) rfl ⟨t, rfl, ?_⟩
      refine for_ind (fun rem env O' => ∃ dn rest x3 x4, plc t = dn ++ rest ∧ rem = natD rest ∧ O' = updO O p (.lst (dn.map fun k => fdD (ev (kid t k)))) ∧ env = [some (tmD t), some (.tup ns), some (.ptr p), x3, x4])
        (fun d r env O' N h1 k => ?_) (fun env O' h1 => ?_) ⟨[], plc t, none, none, rfl, rfl, rfl, rfl⟩
      · obtain ⟨dn, rest, x3, x4, hp2, hr, rfl, rfl⟩ := h1
        cases rest with
        | nil => cases hr
        | cons j rest =>
          injection hr with e1 e2
          subst e1 e2
          have hj : j ∈ plc t := by
            rw [hp2]
            exact List.mem_append_right _ List.mem_cons_self
          obtain ⟨kl1, kl2⟩ := kid_le hj
          have hln : (plc t).length ≤ 2 := by cases t <;> exact Nat.le_of_ble_eq_true rfl
          rw [hp2, List.length_append] at hln
          dsimp only [gdN, tdSeq, tdAsg]
          refine call_v (cons_v (op_vv (i := 0) (j := 3) (x := .tup (.str (wdT t) :: restL t)) (by rw [← ht]; rfl) rfl (ix_tup (rest_kid hj) ?_)))
          refine cons_v (op_l (v_i (i := 1) rfl ?_))
          refine needB_i (szB_i (by show ns.length + 1 ≤ _; omega)) ?_
          refine ⟨kid t j, rfl, by omega, hg.kid hj, by rw [List.length_append]; show ns.length + 1 + n ≤ _; omega, ?_⟩
          dsimp only [gdN, tdSeq]
          refine ifS_f (fun Q' q => q) ?_
          dsimp only [tdNx, tdExpr]
          refine app_v (i := 2) rfl updO_same ?_
          refine op_l (v_i (i := 4) rfl ?_)
          refine ix_lst (n := 0) rfl ?_
          refine ⟨_, updO_same, by rw [List.length_map]; omega, ?_⟩
          rw [updO_updO]
          refine k _ _ ⟨dn ++ [j], rest, some (.int (j : Int)), some (.lst [fdD (ev (kid t j))]), by rw [hp2, List.append_assoc]; rfl, rfl, ?_, rfl⟩
          rw [List.map_append]
          rfl
      · obtain ⟨dn, rest, x3, x4, hp2, hr, rfl, rfl⟩ := h1
        have e : rest = [] := List.map_eq_nil_iff.mp hr.symm
        subst e
        rw [List.append_nil] at hp2
        subst hp2
        dsimp only [tdSeq, tdAsg]
        refine call_v (cons_v (v_i (i := 0) rfl (cons_v (fz_v (i := 2) rfl updO_same ?_))))
        rw [offO_upd hp]
        refine ⟨t, rfl, rfl, hg, ?_⟩
        refine ⟨ev t, hg.ok, rfl, ?_⟩
        exact needB_i rfl (Fin.i h)
    · exact h.elim
end
end Ri

set_option maxRecDepth 100000
set_option maxHeartbeats 2000000
/-! THE LAW'S DEFS, 9: drawn terms, drawn numbers. -/
namespace Ri
open PySem PySem.Spec PyProof.Rows L2 Dl
def valsL : List Int := [0, 1, 2, 5, -3, -1, 900]
def leafT (s : St) (hf : Int) : Tm × St := (.thing (valsL.getD (drawV s 7).toNat 0) hf, drawS s 7)
def goodT : Nat → St → Tm × St
  | 0, s => leafT (drawS (drawS s 9) 4) (1 + drawV (drawS s 9) 4)
  | d + 1, s =>
    if drawV s 9 < 2 then leafT (drawS (drawS s 9) 4) (1 + drawV (drawS s 9) 4)
    else if drawV s 9 = 2 then (if 1 < 1 + drawV (drawS s 9) 4 then .row (.thing (1 + drawV (drawS s 9) 4) 1) (1 + drawV (drawS s 9) 4 - 1) else .none, drawS (drawS s 9) 4)
    else if drawV s 9 < 6 then
      (if drawV s 9 = 4 then .besd (goodT d (drawS (drawS s 9) 4)).1 (goodT d (goodT d (drawS (drawS s 9) 4)).2).1 else .belw (goodT d (drawS (drawS s 9) 4)).1 (goodT d (goodT d (drawS (drawS s 9) 4)).2).1, (goodT d (goodT d (drawS (drawS s 9) 4)).2).2)
    else (if drawV s 9 = 6 then .turned (goodT d (drawS (drawS s 9) 4)).1 else if drawV s 9 = 7 then .times (goodT d (drawS (drawS s 9) 4)).1 (1 + drawV (drawS s 9) 4) else .moved (goodT d (drawS (drawS s 9) 4)).1 (1 + drawV (drawS s 9) 4 - 2), (goodT d (drawS (drawS s 9) 4)).2)
def cT : Nat → Nat
  | 0 => 3
  | d + 1 => 3 + 2 * cT d
theorem leafT_n {n : Nat} {s : St} {hf : Int} (h : StN (n + 1) s) : StN n (leafT s hf).2 := drawS_n h
theorem goodT_n : ∀ {d n : Nat} {s : St}, StN (n + cT d) s → StN n (goodT d s).2
  | 0, n, s, h => leafT_n (drawS_n (drawS_n h))
  | d + 1, n, s, h => by
    have h2 : StN (n + cT d + cT d + 1) (drawS (drawS s 9) 4) := drawS_n (drawS_n (h.mono (by show _ ≤ n + (3 + 2 * cT d); omega)))
    have h3 : StN (n + cT d) (goodT d (drawS (drawS s 9) 4)).2 := goodT_n (h2.mono (by omega))
    unfold goodT
    split
    · exact leafT_n (h2.mono (by omega))
    · split
      · exact h2.mono (by omega)
      · split
        · exact goodT_n h3
        · exact h3.mono (by omega)
theorem getD_map_int {l : List Int} {n : Nat} (h : n < l.length) : (l.map D.int).getD n .non = .int (l.getD n 0) := by
  rw [List.getD_eq_getElem?_getD, get_map_int h]
  rfl
section
variable {i : Nat} {env : DEnv} {O O0 : DO} {p q : Addr} {s : St} {Q : D → DO → Prop}
theorem c_v {d : D} (h : Q d O) : tdC d env O Q := h
theorem draw_c (m : Int) (hi : lk env i = some (.ptr p)) (ne : p ≠ q) (hs : StN 1 s) (h0 : 0 < m) (hm : Sm m) (h : Q (.int (drawV s m)) (setS O0 p q (drawS s m))) : tdCall gDraw (tdCons (tdV i) (tdCons (tdC (.int m)) tdNil)) env (setS O0 p q s) Q := by
  refine call_v (cons_v (v_i hi ?_))
  exact ⟨O0, q, s, ne, rfl, hs, h0, hm, h⟩
theorem pick_l {xs : List D} (ne : p ≠ q) (hs : StN 1 s) (hx : 0 < xs.length) (hl : xs.length ≤ 1000000) (h : Q (xs.getD (drawV s xs.length).toNat .non) (setS O0 p q (drawS s xs.length))) : gPick [.ptr p, .lst xs] (setS O0 p q s) Q := ⟨O0, q, s, ne, rfl, hs, List.length_pos_iff.mp hx, hl, h⟩
end
section
variable {w : World} {K : PySem.W.Frag} {mg : Str → Option Value} {base : Heap} {aI aF aL aC cT_ pT : Addr}
def gGT (n : Nat) : GC := fun ds O Q => match ds with
  | [.ptr p, .int k] => ∃ O0 q s d, p ≠ q ∧ O = setS O0 p q s ∧ k = ((d : Nat) : Int) ∧ d < n ∧ StN (cT d) s ∧ Q (tmD (goodT d s).1) (setS O0 p q (goodT d s).2)
  | _ => False
theorem goodT0 (c : Hd w K mg base aI aF aL aC cT_ pT) : Dl.Def prog w K mg base 4 "_law_good_term" ["_law_state", "_law_deep"] (gGT 0) := by
  have S : FnScope ["_law_state", "_law_deep", "_law_choice", "_law_heft", "_law_one"] ["_law_state", "_law_deep"] (defScope s_law_good_term) := C8.fnScope_by (by kernel_rfl)
  have hN := S.nd
  refine def_ok c.f_law_good_term S (fun _ _ _ _ _ _ us hl => match us, hl with | [_, _], _ => rfl) (fun ds O R h => ?_) fun f cdv A outer s H E hr => ⟨_, have hu := room64 hr; have hu5 := room65 hr; have hu1 := room1 hr; (s_cons s_never (s_cons s_never (s_cons s_never (s_cons s_never (s_cons s_never (s_cons s_never s_nil)))))), fun ds O R h => ?_⟩
  · unfold gGT at h
    split at h <;> first | rfl | exact h.elim
  · unfold gGT at h
    split at h
    · obtain ⟨O0, q, s, d, _, _, _, hd, _⟩ := h
      omega
    · exact h.elim
theorem goodT_step (c : Hd w K mg base aI aF aL aC cT_ pT) {lv n : Nat} (hlv : 4 ≤ lv) (k_law_good_term : Dl.Def prog w K mg base lv "_law_good_term" ["_law_state", "_law_deep"] (gGT n)) : Dl.Def prog w K mg base (lv + 1) "_law_good_term" ["_law_state", "_law_deep"] (gGT (n + 1)) := by
  have k_law_draw := k_law_draw c
  have k_law_of := k_law_of c
  have S : FnScope ["_law_state", "_law_deep", "_law_choice", "_law_heft", "_law_one"] ["_law_state", "_law_deep"] (defScope s_law_good_term) := C8.fnScope_by (by kernel_rfl)
  have hN := S.nd
  refine def_ok c.f_law_good_term S (fun _ _ _ _ _ _ us hl => match us, hl with | [_, _], _ => rfl) (fun ds O R h => ?_) fun f cdv A outer s H E hr => ⟨_, have hu := room64 hr; have hu5 := room65 hr; have hu1 := room1 hr; (s_cons (s_par2 2 3 rfl hN (a_cons (d_call k_law_draw hr (by first | decide | exact Nat.ble_eq_true_of_le (by omega)) (a_cons (dv 0) (a_cons d_int a_nil))) (a_cons (d_op o_add d_int (d_call k_law_draw hr (by first | decide | exact Nat.ble_eq_true_of_le (by omega)) (a_cons (dv 0) (a_cons d_int a_nil)))) a_nil)))
  (s_cons (s_if (t_w (w_or (t_cmp (o_eq hu) (dv 1) d_int) (w_or1 (t_cmp o_lt (dv 2) d_int))))
  (s_one (s_ret (d_tup (a_cons d_str (a_cons (d_call k_law_of hr (by first | decide | exact Nat.ble_eq_true_of_le (by omega)) (a_cons (dv 0) (a_cons (d_lst (a_cons d_int (a_cons d_int (a_cons d_int (a_cons d_int (a_cons (d_neg d_int) (a_cons (d_neg d_int) (a_cons d_int a_nil)))))))) a_nil))) (a_cons (dv 3) a_nil))))))
  s_nil)
  (s_cons (s_if (t_cmp (o_eq hu) (dv 2) d_int)
  (s_one (s_ret (d_if (t_cmp o_gt (dv 3) d_int) (d_tup (a_cons d_str (a_cons (d_tup (a_cons d_str (a_cons (dv 3) (a_cons d_int a_nil)))) (a_cons (d_op o_sub (dv 3) d_int) a_nil)))) (d_tup (a_cons d_str a_nil)))))
  s_nil)
  (s_cons (s_set 4 hN (d_call k_law_good_term hr (by first | decide | exact Nat.ble_eq_true_of_le (by omega)) (a_cons (dv 0) (a_cons (d_op o_sub (dv 1) d_int) a_nil))))
  (s_cons (s_if (t_cmp o_lt (dv 2) d_int)
  (s_one (s_ret (d_tup (a_cons (d_ix (d_lst (a_cons d_str (a_cons d_str a_nil))) (d_op o_mod (dv 2) d_int)) (a_cons (dv 4) (a_cons (d_call k_law_good_term hr (by first | decide | exact Nat.ble_eq_true_of_le (by omega)) (a_cons (dv 0) (a_cons (d_op o_sub (dv 1) d_int) a_nil))) a_nil))))))
  s_nil)
  (s_one (s_ret (d_ix (d_lst (a_cons (d_tup (a_cons d_str (a_cons (dv 4) a_nil))) (a_cons (d_tup (a_cons d_str (a_cons (dv 4) (a_cons (dv 3) a_nil)))) (a_cons (d_tup (a_cons d_str (a_cons (dv 4) (a_cons (d_op o_sub (dv 3) d_int) a_nil)))) a_nil)))) (d_op o_sub (dv 2) d_int))))))))), fun ds O R h => ?_⟩
  · unfold gGT at h
    split at h <;> first | rfl | exact h.elim
  · unfold gGT at h
    split at h
    · rename_i p k
      obtain ⟨O0, q, s, d, ne, rfl, rfl, hd, hs, h⟩ := h
      have h3 : 3 ≤ cT d := by cases d <;> simp only [cT] <;> omega
      have sm9 : Sm 9 := smn (by decide)
      have sm4 : Sm 4 := smn (by decide)
      have hs1 : StN 2 (drawS s 9) := drawS_n (hs.mono h3)
      have hs2 : StN 1 (drawS (drawS s 9) 4) := drawS_n hs1
      obtain ⟨a1, a2⟩ := drawV_bd (s := s) (m := 9) (by decide)
      obtain ⟨b1, b2⟩ := drawV_bd (s := drawS s 9) (m := 4) (by decide)
      have leaf : ∀ (env : DEnv), lk env 0 = some (.ptr p) → lk env 3 = some (.int (1 + drawV (drawS s 9) 4)) → R (tmD (leafT (drawS (drawS s 9) 4) (1 + drawV (drawS s 9) 4)).1) (setS O0 p q (leafT (drawS (drawS s 9) 4) (1 + drawV (drawS s 9) 4)).2) → tdTup (tdCons (tdC (.str "thing")) (tdCons (tdCall gPick (tdCons (tdV 0) (tdCons (tdLst (tdCons (tdC (.int 0)) (tdCons (tdC (.int 1)) (tdCons (tdC (.int 2)) (tdCons (tdC (.int 5)) (tdCons (fun env O Q => tdC (.int 3) env O fun x O1 => match x with
          | .int i => Q (.int (-i)) O1
          | _ => False) (tdCons (fun env O Q => tdC (.int 1) env O fun x O1 => match x with
          | .int i => Q (.int (-i)) O1
          | _ => False) (tdCons (tdC (.int 900)) tdNil)))))))) tdNil))) (tdCons (tdV 3) tdNil))) env (setS O0 p q (drawS (drawS s 9) 4)) (Dl.Fin R) := by
        intro env e0 e3 hr
        refine (show tdV 0 env (setS O0 p q (drawS (drawS s 9) 4)) (fun x O1 => needB (szB 7) (gPick [x, .lst (valsL.map .int)] O1 fun y O2 => tdV 3 env O2 fun z O3 => needB (szB 3) (Dl.Fin R (.tup [.str "thing", y, z]) O3))) from ?_)
        refine v_i (i := 0) e0 (needB_i rfl ?_)
        refine pick_l ne hs2 (by decide) (by decide) ?_
        refine v_i (i := 3) e3 (needB_i rfl ?_)
        obtain ⟨c1, c2⟩ := drawV_bd (s := drawS (drawS s 9) 4) (m := 7) (by decide)
        have e7 : ((valsL.map D.int).length : Int) = 7 := rfl
        rw [e7, getD_map_int (l := valsL) (by show _ < 7; omega)]
        exact Fin.i hr
      dsimp only [tdSeq, tdPar2]
      refine cons_v (draw_c (i := 0) 9 rfl ne (hs.mono (by omega)) (by decide) sm9 ?_)
      refine cons_v (op_l (c_v (draw_c (i := 0) 4 rfl ne (hs1.mono (by decide)) (by decide) sm4 ?_)))
      refine (show tdIfS (tdOr (tdT (tdOp gEq (tdV 1) (tdC (.int 0)))) (tdT (tdOp gLt (tdV 2) (tdC (.int 2))))) _ tdNx _ [some (.ptr p), some (.int (d : Int)), some (.int (drawV s 9)), some (.int (1 + drawV (drawS s 9) 4)), none] (setS O0 p q (drawS (drawS s 9) 4)) from ?_)
      cases d with
      | zero =>
        refine ifS_t (fun Q' q' => q') ?_
        exact leaf _ rfl rfl h
      | succ d =>
        by_cases cc : drawV s 9 < 2
        · have eg : goodT (d + 1) s = leafT (drawS (drawS s 9) 4) (1 + drawV (drawS s 9) 4) := by
            conv => lhs; unfold goodT
            exact if_pos cc
          rw [eg] at h
          refine ifS_t (fun Q' q' => or_r (fun Q2 q2 => ?_) ?_) ?_
          · show Q2 (decide (((d + 1 : Nat) : Int) = 0)) _
            rw [decide_eq_false (by omega)]
            exact q2
          · show Q' (decide (drawV s 9 < 2)) _
            rw [decide_eq_true cc]
            exact q'
          · exact leaf _ rfl rfl h
        · refine ifS_f (fun Q' q' => or_r (fun Q2 q2 => ?_) ?_) ?_
          · show Q2 (decide (((d + 1 : Nat) : Int) = 0)) _
            rw [decide_eq_false (by omega)]
            exact q2
          · show Q' (decide (drawV s 9 < 2)) _
            rw [decide_eq_false cc]
            exact q'
          · dsimp only [tdNx, tdSeq]
            have hs3 : StN (cT d + cT d) (drawS (drawS s 9) 4) := drawS_n (drawS_n (hs.mono (by show _ ≤ 3 + 2 * cT d; omega)))
            have hs4 : StN (cT d) (goodT d (drawS (drawS s 9) 4)).2 := goodT_n hs3
            by_cases c2 : drawV s 9 = 2
            · refine ifS_t (fun Q' q' => ?_) ?_
              · refine tt_l (op_l (v_i (i := 2) rfl ?_))
                show Q' (decide (drawV s 9 = 2)) _
                rw [decide_eq_true c2]
                exact q'
              · refine iteB_i (c := decide (1 < 1 + drawV (drawS s 9) 4)) (fun e => ?_) (fun e => ?_)
                · have eg : goodT (d + 1) s = (.row (.thing (1 + drawV (drawS s 9) 4) 1) (1 + drawV (drawS s 9) 4 - 1), drawS (drawS s 9) 4) := by
                    conv => lhs; unfold goodT
                    rw [if_neg cc, if_pos c2, if_pos (of_decide_eq_true e)]
                  rw [eg] at h
                  exact needB_i rfl (needB_i rfl (Fin.i h))
                · have eg : goodT (d + 1) s = (.none, drawS (drawS s 9) 4) := by
                    conv => lhs; unfold goodT
                    rw [if_neg cc, if_pos c2, if_neg (of_decide_eq_false e)]
                  rw [eg] at h
                  exact needB_i rfl (Fin.i h)
            · refine ifS_f (fun Q' q' => ?_) ?_
              · refine tt_l (op_l (v_i (i := 2) rfl ?_))
                show Q' (decide (drawV s 9 = 2)) _
                rw [decide_eq_false c2]
                exact q'
              · dsimp only [tdNx, tdSeq, tdAsg]
                refine call_v (cons_v (v_i (i := 0) rfl (cons_v (op_l (v_i (i := 1) rfl ?_)))))
                refine ⟨O0, q, _, d, ne, rfl, by show ((d + 1 : Nat) : Int) - 1 = _; omega, by omega, hs3.mono (by omega), ?_⟩
                dsimp only [gdN]
                by_cases c6 : drawV s 9 < 6
                · refine ifS_t (fun Q' q' => ?_) ?_
                  · refine tt_l (op_l (v_i (i := 2) rfl ?_))
                    show Q' (decide (drawV s 9 < 6)) _
                    rw [decide_eq_true c6]
                    exact q'
                  · dsimp only [tdRet, tdTup]
                    refine cons_v (op_l ?_)
                    dsimp only [tdLst]
                    refine cons_v (c_v (cons_v (c_v (nil_v (needB_i rfl ?_)))))
                    refine op_l (v_i (i := 2) rfl (c_v ⟨(by decide : (0 : Int) < 2), ?_⟩))
                    have call2 : ∀ (x : Str), R (.tup [.str x, tmD (goodT d (drawS (drawS s 9) 4)).1, tmD (goodT d (goodT d (drawS (drawS s 9) 4)).2).1]) (setS O0 p q (goodT d (goodT d (drawS (drawS s 9) 4)).2).2) → tdCons (tdV 4) (tdCons (tdCall (gGT n) (tdCons (tdV 0) (tdCons (tdOp Dl.gSub (tdV 1) (tdC (D.int 1))) tdNil))) tdNil) [some (.ptr p), some (.int ((d + 1 : Nat) : Int)), some (.int (drawV s 9)), some (.int (1 + drawV (drawS s 9) 4)), some (tmD (goodT d (drawS (drawS s 9) 4)).1)] (setS O0 p q (goodT d (drawS (drawS s 9) 4)).2) fun xs O2 => needB (szB (D.str x :: xs).length) (Dl.Fin R (.tup (D.str x :: xs)) O2) := by
                      intro x hx
                      refine cons_v (v_i (i := 4) rfl (cons_v (call_v (cons_v (v_i (i := 0) rfl (cons_v (op_l (v_i (i := 1) rfl ?_))))))))
                      refine ⟨O0, q, _, d, ne, rfl, by show ((d + 1 : Nat) : Int) - 1 = _; omega, by omega, hs4, ?_⟩
                      exact needB_i rfl (Fin.i hx)
                    have c345 : drawV s 9 = 3 ∨ drawV s 9 = 4 ∨ drawV s 9 = 5 := by omega
                    rcases c345 with e | e | e
                    · have eg : goodT (d + 1) s = (.belw (goodT d (drawS (drawS s 9) 4)).1 (goodT d (goodT d (drawS (drawS s 9) 4)).2).1, (goodT d (goodT d (drawS (drawS s 9) 4)).2).2) := by
                        conv => lhs; unfold goodT
                        rw [e]
                        rfl
                      rw [eg] at h
                      have c2' := call2 "below" h
                      rw [e] at c2' ⊢
                      exact c2'
                    · have eg : goodT (d + 1) s = (.besd (goodT d (drawS (drawS s 9) 4)).1 (goodT d (goodT d (drawS (drawS s 9) 4)).2).1, (goodT d (goodT d (drawS (drawS s 9) 4)).2).2) := by
                        conv => lhs; unfold goodT
                        rw [e]
                        rfl
                      rw [eg] at h
                      have c2' := call2 "beside" h
                      rw [e] at c2' ⊢
                      exact c2'
                    · have eg : goodT (d + 1) s = (.belw (goodT d (drawS (drawS s 9) 4)).1 (goodT d (goodT d (drawS (drawS s 9) 4)).2).1, (goodT d (goodT d (drawS (drawS s 9) 4)).2).2) := by
                        conv => lhs; unfold goodT
                        rw [e]
                        rfl
                      rw [eg] at h
                      have c2' := call2 "below" h
                      rw [e] at c2' ⊢
                      exact c2'
                · refine ifS_f (fun Q' q' => ?_) ?_
                  · refine tt_l (op_l (v_i (i := 2) rfl ?_))
                    show Q' (decide (drawV s 9 < 6)) _
                    rw [decide_eq_false c6]
                    exact q'
                  · have c678 : drawV s 9 = 6 ∨ drawV s 9 = 7 ∨ drawV s 9 = 8 := by omega
                    dsimp only [tdNx]
                    refine (show gIx (setS O0 p q (goodT d (drawS (drawS s 9) 4)).2) (.lst [.tup [.str "turned", tmD (goodT d (drawS (drawS s 9) 4)).1], .tup [.str "times", tmD (goodT d (drawS (drawS s 9) 4)).1, .int (1 + drawV (drawS s 9) 4)], .tup [.str "moved", tmD (goodT d (drawS (drawS s 9) 4)).1, .int (1 + drawV (drawS s 9) 4 - 2)]]) (.int (drawV s 9 - 6)) (fun x => Dl.Fin R x (setS O0 p q (goodT d (drawS (drawS s 9) 4)).2)) from ?_)
                    rcases c678 with e | e | e
                    · have eg : goodT (d + 1) s = (.turned (goodT d (drawS (drawS s 9) 4)).1, (goodT d (drawS (drawS s 9) 4)).2) := by
                        conv => lhs; unfold goodT
                        rw [e]
                        rfl
                      rw [eg] at h
                      rw [e]
                      exact Fin.i h
                    · have eg : goodT (d + 1) s = (.times (goodT d (drawS (drawS s 9) 4)).1 (1 + drawV (drawS s 9) 4), (goodT d (drawS (drawS s 9) 4)).2) := by
                        conv => lhs; unfold goodT
                        rw [e]
                        rfl
                      rw [eg] at h
                      rw [e]
                      exact Fin.i h
                    · have eg : goodT (d + 1) s = (.moved (goodT d (drawS (drawS s 9) 4)).1 (1 + drawV (drawS s 9) 4 - 2), (goodT d (drawS (drawS s 9) 4)).2) := by
                        conv => lhs; unfold goodT
                        rw [e]
                        rfl
                      rw [eg] at h
                      rw [e]
                      exact Fin.i h
    · exact h.elim
end
end Ri

set_option maxRecDepth 100000
set_option maxHeartbeats 2000000
/-! PLAIN, 5: drawn fractions. -/
namespace Ri
open PySem PySem.Spec PyProof.Rows L2 Dl
def numsL : List Int := [0, 0, 0, 1, -1, 7]
def numF (s : St) (due : Int) : Int := due + numsL.getD (drawV s 6).toNat 0
def addsL : List Fr := [(1, 1), (-1, 2), (1, 6)]
def byL : List Int := [1, 1, 2, 5]
def wHere (s : St) (due : Fr) : Fr × St := if 0 < drawV s 3 then (due, drawS s 3) else (plusF due (addsL.getD (drawV (drawS s 3) 3).toNat (1, 1)), drawS (drawS s 3) 3)
def wBy (s : St) : Int := byL.getD (drawV s 4).toNat 0
def wWord (t b : Int) : Str := if b = 1 then sgS t else frS t b
/-- the value, the word with what stands in it, the state -/
def worthF (s : St) (due : Fr) : Fr × Rf × St :=
  ((wHere s due).1, (wWord ((wHere s due).1.1 * wBy (wHere s due).2) ((wHere s due).1.2 * wBy (wHere s due).2), (wHere s due).1.1 * wBy (wHere s due).2, (wHere s due).1.2 * wBy (wHere s due).2), drawS (wHere s due).2 4)
theorem wHere_n {n : Nat} {s : St} {due : Fr} (h : StN (n + 2) s) : StN n (wHere s due).2 := by
  unfold wHere
  split
  · exact drawS_n (h.mono (by omega))
  · exact drawS_n (drawS_n h)
theorem worth_n {n : Nat} {s : St} {due : Fr} (h : StN (n + 3) s) : StN n (worthF s due).2.2 := drawS_n (wHere_n h)
theorem wBy_is (s : St) : wBy s = 1 ∨ wBy s = 2 ∨ wBy s = 5 := by
  obtain ⟨a, b⟩ := drawV_bd (s := s) (m := 4) (by decide)
  unfold wBy
  have : (drawV s 4).toNat = 0 ∨ (drawV s 4).toNat = 1 ∨ (drawV s 4).toNat = 2 ∨ (drawV s 4).toNat = 3 := by omega
  rcases this with e | e | e | e <;> rw [e] <;> simp [byL]
theorem adds_is (k : Nat) (h : k < 3) : addsL.getD k (1, 1) = (1, 1) ∨ addsL.getD k (1, 1) = (-1, 2) ∨ addsL.getD k (1, 1) = (1, 6) := by
  have : k = 0 ∨ k = 1 ∨ k = 2 := by omega
  rcases this with rfl | rfl | rfl <;> simp [addsL]
theorem adds_pos (k : Nat) (h : k < 3) : 0 < (addsL.getD k (1, 1)).2 ∧ Bd 3 (addsL.getD k (1, 1)).1 ∧ Bd 3 (addsL.getD k (1, 1)).2 := by
  rcases adds_is k h with e | e | e <;> rw [e] <;> exact ⟨by decide, (by decide : Int.natAbs _ < 2 ^ 3), (by decide : Int.natAbs _ < 2 ^ 3)⟩
theorem plus_bd {k : Nat} {a b : Fr} (ha : BdF k a) (hb : BdF 3 b) (h1 : 0 < a.2) (h2 : 0 < b.2) : BdF (k + 4) (plusF a b) := by
  have h3 := Int.mul_pos h1 h2
  have : Bd (k + 4) (a.1 * b.2 + b.1 * a.2) := Bd.add (k := k + 3) (ha.1.mul hb.2) ((hb.1.mul ha.2).mono (by omega))
  exact mk_bd (Int.ne_of_gt h3) this ((ha.2.mul hb.2).mono (by omega))
theorem wHere_red {s : St} {due : Fr} (h : Red due) : Red (wHere s due).1 := by
  unfold wHere
  split
  · exact h
  · obtain ⟨a, b⟩ := drawV_bd (s := drawS s 3) (m := 3) (by decide)
    exact mk_red (Int.mul_pos h.pos (adds_pos _ (by omega)).1)
theorem wHere_bd {k : Nat} {s : St} {due : Fr} (h : Red due) (hb : BdF k due) : BdF (k + 4) (wHere s due).1 := by
  unfold wHere
  split
  · exact hb.mono (by omega)
  · obtain ⟨a, b⟩ := drawV_bd (s := drawS s 3) (m := 3) (by decide)
    obtain ⟨p1, p2, p3⟩ := adds_pos _ (show (drawV (drawS s 3) 3).toNat < 3 by omega)
    exact plus_bd hb ⟨p2, p3⟩ h.pos p1
theorem bd_i30 {i : Int} (h : Bd 97 i) : I30 i := by
  have h1 : i.natAbs < 2 ^ 97 := h
  exact Nat.lt_trans h1 (by decide)
theorem by_bd (s : St) : Bd 3 (wBy s) ∧ 0 < wBy s := by
  rcases wBy_is s with e | e | e <;> rw [e] <;> exact ⟨(by decide : Int.natAbs _ < 2 ^ 3), by decide⟩
theorem worth_ok {s : St} {due : Fr} (h : Red due) (hb : BdF 90 due) : FrOk (worthF s due).2.1 ∧ mkR (worthF s due).2.1 = (worthF s due).1 := by
  have r := wHere_red (s := s) h
  have b := wHere_bd (s := s) h hb
  obtain ⟨y1, y2⟩ := by_bd (wHere s due).2
  have t97 : Bd 97 ((wHere s due).1.1 * wBy (wHere s due).2) := b.1.mul y1
  have b97 : Bd 97 ((wHere s due).1.2 * wBy (wHere s due).2) := b.2.mul y1
  have pos : 0 < (wHere s due).1.2 * wBy (wHere s due).2 := Int.mul_pos r.pos y2
  refine ⟨⟨⟨bd_i30 t97, ?_⟩, Int.ne_of_gt pos, b97.sm (by decide)⟩, ?_⟩
  · show (wWord _ _ = _ ∧ _ = 1) ∨ _
    unfold wWord
    by_cases e : (wHere s due).1.2 * wBy (wHere s due).2 = 1
    · exact .inl ⟨if_pos e, e⟩
    · exact .inr ⟨if_neg e, pos, bd_i30 b97⟩
  · refine (mk_eq pos r.pos ?_).trans (mk_id r)
    show (wHere s due).1.1 * wBy (wHere s due).2 * (wHere s due).1.2 = _
    rw [Int.mul_assoc, Int.mul_comm (wBy _)]
theorem worth_bd {k : Nat} {s : St} {due : Fr} (h : Red due) (hb : BdF k due) : Red (worthF s due).1 ∧ BdF (k + 4) (worthF s due).1 := ⟨wHere_red h, wHere_bd h hb⟩
theorem frS_len {t b : Int} (ht : I30 t) (hb : I30 b) : (sgS t).length ≤ 31 ∧ (sgS b).length ≤ 31 := ⟨(int_back ht).2, (int_back hb).2⟩
end Ri

set_option maxRecDepth 100000
set_option maxHeartbeats 2000000
/-! THE LAW'S DEFS, 10: a drawn number, a drawn fraction. -/
namespace Ri
open PySem PySem.Spec PyProof.Rows L2 Dl
section
variable {w : World} {K : PySem.W.Frag} {mg : Str → Option Value} {base : Heap} {aI aF aL aC cT_ pT : Addr}
theorem str_v {i : Int} {O : DO} {Q : D → DO → Prop} (h : I30 i) (k : Q (.str (sgS i)) O) : gStr [.int i] O Q := by
  have : i.natAbs.log2 < 1920 := by
    have h1 : i.natAbs < 2 ^ 100 := Nat.lt_trans h (by decide)
    exact Nat.lt_of_lt_of_le (PySem.Flt.log2_lt_of (by decide) h1) (by decide)
  exact needB_i (Nat.ble_eq_true_of_le this) k
def gLNumber : GC := fun ds O Q => match ds with
  | [.ptr p, .int due] => ∃ O0 q s, p ≠ q ∧ O = setS O0 p q s ∧ StN 1 s ∧ Q (.int (numF s due)) (setS O0 p q (drawS s 6))
  | _ => False
theorem k_law_number (c : Hd w K mg base aI aF aL aC cT_ pT) : Dl.Def prog w K mg base 3 "_law_number" ["_law_state", "_law_due"] gLNumber := by
  have k_law_draw := k_law_draw c
  have S : FnScope ["_law_state", "_law_due"] ["_law_state", "_law_due"] (defScope s_law_number) := C8.fnScope_by (by kernel_rfl)
  have hN := S.nd
  refine def_ok c.f_law_number S (fun _ _ _ _ _ _ us hl => match us, hl with | [_, _], _ => rfl) (fun ds O R h => ?_) fun f cdv A outer s H E hr => ⟨_, have hu := room64 hr; have hu5 := room65 hr; have hu1 := room1 hr; (s_one (s_ret (d_op o_add (dv 1) (d_ix (d_lst (a_cons d_int (a_cons d_int (a_cons d_int (a_cons d_int (a_cons (d_neg d_int) (a_cons d_int a_nil))))))) (d_call k_law_draw hr (by decide) (a_cons (dv 0) (a_cons d_int a_nil))))))), fun ds O R h => ?_⟩
  · unfold gLNumber at h
    split at h <;> first | rfl | exact h.elim
  · unfold gLNumber at h
    split at h
    · rename_i p due
      obtain ⟨O0, q, s, ne, rfl, hs, h⟩ := h
      obtain ⟨a, b⟩ := drawV_bd (s := s) (m := 6) (by decide)
      have e : drawV s 6 = ((drawV s 6).toNat : Int) := by omega
      refine (show tdCall gDraw (tdCons (tdV 0) (tdCons (tdC (.int 6)) tdNil)) [some (.ptr p), some (.int due)] (setS O0 p q s) (fun i O2 => gIx O2 (.lst (numsL.map .int)) i fun y => gAdd O2 (.int due) y fun d => Dl.Fin R d O2) from ?_)
      refine draw_c (i := 0) 6 rfl ne hs (by decide) (smn (by decide)) ?_
      rw [e]
      refine ix_lst (get_map_int (l := numsL) (by show _ < 6; omega)) ?_
      exact Fin.i h
    · exact h.elim
def gLWorth : GC := fun ds O Q => match ds with
  | [.ptr p, d] => ∃ O0 q s due, p ≠ q ∧ O = setS O0 p q s ∧ StN 3 s ∧ d = frD due ∧ Red due ∧ BdF 90 due ∧ Q (.tup [frD (worthF s due).1, .str (worthF s due).2.1.1]) (setS O0 p q (worthF s due).2.2)
  | _ => False
theorem k_law_worth (c : Hd w K mg base aI aF aL aC cT_ pT) : Dl.Def prog w K mg base 4 "_law_worth" ["_law_state", "_law_due"] gLWorth := by
  have k_law_draw := k_law_draw c
  have k_law_of := k_law_of c
  have k_law_plus := k_law_plus c
  have S : FnScope ["_law_state", "_law_due", "_law_here", "_law_by", "_law_top", "_law_bottom"] ["_law_state", "_law_due"] (defScope s_law_worth) := C8.fnScope_by (by kernel_rfl)
  have hN := S.nd
  refine def_ok c.f_law_worth S (fun _ _ _ _ _ _ us hl => match us, hl with | [_, _], _ => rfl) (fun ds O R h => ?_) fun f cdv A outer s H E hr => ⟨_, have hu := room64 hr; have hu5 := room65 hr; have hu1 := room1 hr; (s_cons (s_set 2 hN (d_if (t_cmp o_gt (d_call k_law_draw hr (by decide) (a_cons (dv 0) (a_cons d_int a_nil))) d_int) (dv 1) (d_call k_law_plus hr (by decide) (a_cons (dv 1) (a_cons (d_call k_law_of hr (by decide) (a_cons (dv 0) (a_cons (d_lst (a_cons (d_tup (a_cons d_int (a_cons d_int a_nil))) (a_cons (d_tup (a_cons (d_neg d_int) (a_cons d_int a_nil))) (a_cons (d_tup (a_cons d_int (a_cons d_int a_nil))) a_nil)))) a_nil))) a_nil)))))
  (s_cons (s_set 3 hN (d_ix (d_lst (a_cons d_int (a_cons d_int (a_cons d_int (a_cons d_int a_nil))))) (d_call k_law_draw hr (by decide) (a_cons (dv 0) (a_cons d_int a_nil)))))
  (s_cons (s_par2 4 5 rfl hN (a_cons (d_op o_mul (d_ix (dv 2) d_int) (dv 3)) (a_cons (d_op o_mul (d_ix (dv 2) d_int) (dv 3)) a_nil)))
  (s_one (s_ret (d_tup (a_cons (dv 2) (a_cons (d_if (t_cmp (o_eq hu) (dv 5) d_int) (d_callTy c_str c.m_str bt_str (a_cons (dv 4) a_nil)) (d_op o_add (d_op o_add (d_callTy c_str c.m_str bt_str (a_cons (dv 4) a_nil)) d_str) (d_callTy c_str c.m_str bt_str (a_cons (dv 5) a_nil)))) a_nil)))))))), fun ds O R h => ?_⟩
  · unfold gLWorth at h
    split at h <;> first | rfl | exact h.elim
  · unfold gLWorth at h
    split at h
    · rename_i p d
      obtain ⟨O0, q, s, due, ne, rfl, hs, rfl, hr, hb, h⟩ := h
      have hs1 : StN 2 (drawS s 3) := drawS_n hs
      have hs2 : StN 1 (wHere s due).2 := wHere_n hs
      have r := wHere_red (s := s) hr
      have b := wHere_bd (s := s) hr hb
      obtain ⟨y1, y2⟩ := by_bd (wHere s due).2
      obtain ⟨ok, _⟩ := worth_ok (s := s) hr hb
      have t97 : Bd 97 ((wHere s due).1.1 * wBy (wHere s due).2) := b.1.mul y1
      have b97 : Bd 97 ((wHere s due).1.2 * wBy (wHere s due).2) := b.2.mul y1
      have tail : tdSeq (tdAsg (tdOp gIx (tdLst (tdCons (tdC (.int 1)) (tdCons (tdC (.int 1)) (tdCons (tdC (.int 2)) (tdCons (tdC (.int 5)) tdNil))))) (tdCall gDraw (tdCons (tdV 0) (tdCons (tdC (.int 4)) tdNil)))) (gdN 3)) (tdSeq (tdPar2 4 5 (tdCons (tdOp gMul (tdOp gIx (tdV 2) (tdC (.int 0))) (tdV 3)) (tdCons (tdOp gMul (tdOp gIx (tdV 2) (tdC (.int 1))) (tdV 3)) tdNil))) (tdRet (tdTup (tdCons (tdV 2) (tdCons (tdIf (tdT (tdOp gEq (tdV 5) (tdC (.int 1)))) (tdCall gStr (tdCons (tdV 4) tdNil)) (tdOp gAdd (tdOp gAdd (tdCall gStr (tdCons (tdV 4) tdNil)) (tdC (.str "/"))) (tdCall gStr (tdCons (tdV 5) tdNil)))) tdNil))))) { nx := fun _ O' => Dl.Fin R .non O', rt := Dl.Fin R } [some (.ptr p), some (frD due), some (frD (wHere s due).1), none, none, none] (setS O0 p q (wHere s due).2) := by
        obtain ⟨c1, c2⟩ := drawV_bd (s := (wHere s due).2) (m := 4) (by decide)
        have ec : drawV (wHere s due).2 4 = ((drawV (wHere s due).2 4).toNat : Int) := by omega
        have l1 := (int_back (bd_i30 t97)).2
        have l2 := (int_back (bd_i30 b97)).2
        dsimp only [tdSeq, tdAsg]
        refine op_l ?_
        dsimp only [tdLst]
        refine cons_v (c_v (cons_v (c_v (cons_v (c_v (cons_v (c_v (nil_v (needB_i rfl ?_)))))))))
        refine draw_c (i := 0) 4 rfl ne hs2 (by decide) (smn (by decide)) ?_
        rw [ec]
        refine ix_lst (ds := byL.map .int) (get_map_int (l := byL) (by show _ < 4; omega)) ?_
        refine ⟨(sm_mul (b.1.sm (by decide)) (y1.sm (by decide)) : CMulW (wHere s due).1.1 (wBy (wHere s due).2)), ?_⟩
        refine ⟨(sm_mul (b.2.sm (by decide)) (y1.sm (by decide)) : CMulW (wHere s due).1.2 (wBy (wHere s due).2)), ?_⟩
        refine iteB_i (c := decide ((wHere s due).1.2 * wBy (wHere s due).2 = 1)) (fun e => ?_) (fun e => ?_)
        · have hw : (worthF s due).2.1.1 = sgS ((wHere s due).1.1 * wBy (wHere s due).2) := if_pos (of_decide_eq_true e)
          rw [hw] at h
          exact call1_v (i := 4) rfl (str_v (bd_i30 t97) (needB_i rfl (Fin.i h)))
        · have hw : (worthF s due).2.1.1 = sgS ((wHere s due).1.1 * wBy (wHere s due).2) ++ "/" ++ sgS ((wHere s due).1.2 * wBy (wHere s due).2) := if_neg (of_decide_eq_false e)
          rw [hw] at h
          refine op_l (op_l (call1_v (i := 4) rfl (str_v (bd_i30 t97) (c_v ?_))))
          refine needB_i (szB_i (Nat.le_trans (Nat.add_le_add_right l1 1) (by decide))) ?_
          refine call1_v (i := 5) rfl (str_v (bd_i30 b97) ?_)
          refine needB_i (szB_i (by rw [strLen_append]; exact Nat.le_trans (Nat.add_le_add (Nat.add_le_add_right l1 1) l2) (by decide))) ?_
          exact needB_i rfl (Fin.i h)
      refine (show tdIf (tdT (tdOp gGt (tdCall gDraw (tdCons (tdV 0) (tdCons (tdC (.int 3)) tdNil))) (tdC (.int 0)))) _ _ [some (.ptr p), some (frD due), none, none, none, none] (setS O0 p q s) _ from ?_)
      dsimp only [tdIf, tdT]
      refine op_l (draw_c (i := 0) 3 rfl ne (hs.mono (by decide)) (by decide) (smn (by decide)) ?_)
      refine iteB_i (c := decide (0 < drawV s 3)) (fun e => ?_) (fun e => ?_)
      · have ew : wHere s due = (due, drawS s 3) := if_pos (of_decide_eq_true e)
        rw [ew] at tail
        exact v_i (i := 1) rfl tail
      · have ew : wHere s due = (plusF due (addsL.getD (drawV (drawS s 3) 3).toNat (1, 1)), drawS (drawS s 3) 3) := if_neg (of_decide_eq_false e)
        rw [ew] at tail
        obtain ⟨c1, c2⟩ := drawV_bd (s := drawS s 3) (m := 3) (by decide)
        obtain ⟨p1, p2, p3⟩ := adds_pos _ (show (drawV (drawS s 3) 3).toNat < 3 by omega)
        refine call_v (cons_v (v_i (i := 1) rfl (cons_v (call_v (cons_v (v_i (i := 0) rfl ?_))))))
        dsimp only [tdCons, tdLst, tdTup, tdNil, tdC]
        refine needB_i rfl (needB_i rfl (needB_i rfl (needB_i rfl ?_)))
        refine pick_l (xs := addsL.map frD) ne (hs1.mono (by decide)) (by decide) (by decide) ?_
        have e7 : ((addsL.map frD).length : Int) = 3 := rfl
        have eg : (addsL.map frD).getD (drawV (drawS s 3) 3).toNat .non = frD (addsL.getD (drawV (drawS s 3) 3).toNat (1, 1)) := by
          have : (drawV (drawS s 3) 3).toNat < addsL.length := by show _ < 3; omega
          rw [List.getD_eq_getElem?_getD, List.getElem?_map, List.getD_eq_getElem?_getD, List.getElem?_eq_getElem this]
          rfl
        rw [e7, eg]
        refine ⟨due, addsL.getD (drawV (drawS s 3) 3).toNat (1, 1), rfl, rfl, hb.mono (by decide), ⟨p2.mono (by decide), p3.mono (by decide)⟩, hr.pos, p1, ?_⟩
        exact tail
    · exact h.elim
end
end Ri

set_option maxRecDepth 100000
set_option maxHeartbeats 2000000
/-! THE LAW'S DEFS, 11: sayings of integers. -/
namespace Ri
open PySem PySem.Spec PyProof.Rows L2 Dl
def ddF (l : List Fr) : List Fr := l.foldl (fun acc x => if x ∈ acc then acc else acc ++ [x]) []
theorem ddF_fold : ∀ (l acc : List Fr), acc.Nodup → (l.foldl (fun acc x => if x ∈ acc then acc else acc ++ [x]) acc).Nodup ∧ ∀ x, x ∈ l.foldl (fun acc x => if x ∈ acc then acc else acc ++ [x]) acc ↔ x ∈ acc ∨ x ∈ l
  | [], acc, h => ⟨h, fun x => by simp⟩
  | y :: l, acc, h => by
    rw [List.foldl_cons]
    by_cases q : y ∈ acc
    · rw [if_pos q]
      obtain ⟨h1, h2⟩ := ddF_fold l acc h
      refine ⟨h1, fun x => ?_⟩
      rw [h2, List.mem_cons]
      constructor
      · rintro (z | z)
        · exact .inl z
        · exact .inr (.inr z)
      · rintro (z | z | z)
        · exact .inl z
        · exact .inl (z ▸ q)
        · exact .inr z
    · rw [if_neg q]
      obtain ⟨h1, h2⟩ := ddF_fold l (acc ++ [y]) (List.nodup_append.mpr ⟨h, by simp, fun a ha b hb e => by
        have : b = y := by simpa using hb
        subst this
        exact q (e ▸ ha)⟩)
      refine ⟨h1, fun x => ?_⟩
      rw [h2, List.mem_append, List.mem_singleton, List.mem_cons]
      constructor
      · rintro ((z | z) | z)
        · exact .inl z
        · exact .inr (.inl z)
        · exact .inr (.inr z)
      · rintro (z | z | z)
        · exact .inl (.inl z)
        · exact .inl (.inr z)
        · exact .inr z
theorem ddF_nodup (l : List Fr) : (ddF l).Nodup := (ddF_fold l [] .nil).1
theorem mem_ddF {l : List Fr} {x : Fr} : x ∈ ddF l ↔ x ∈ l := ((ddF_fold l [] .nil).2 x).trans (by simp)
def keyF (g : Fr) : List Key := [Sum.inl g.1, Sum.inl g.2]
theorem keyF_inj {a b : Fr} (h : keyF a = keyF b) : a = b := by
  injection h with h1 h2
  injection h2 with h2 _
  exact Prod.ext (Sum.inl.inj h1) (Sum.inl.inj h2)
def kvTF (l : List Fr) : KTs := l.map fun g => (keyF g, D.bl true)
theorem put_kvTF (l : List Fr) (x : Fr) : putKD (kvTF l) (keyF x) (D.bl true) = kvTF (if x ∈ l then l else l ++ [x]) := by
  unfold putKD
  by_cases h : x ∈ l
  · rw [if_pos h, if_pos]
    · unfold kvTF
      rw [List.map_map]
      refine List.map_congr_left fun y _ => ?_
      show (if keyF y = keyF x then (keyF y, D.bl true) else (keyF y, D.bl true)) = _
      split <;> rfl
    · exact List.any_eq_true.mpr ⟨(keyF x, D.bl true), List.mem_map.mpr ⟨x, h, rfl⟩, decide_eq_true rfl⟩
  · rw [if_neg h, if_neg]
    · unfold kvTF
      rw [List.map_append]
      rfl
    · intro e
      obtain ⟨y, h1, h2⟩ := List.any_eq_true.mp e
      obtain ⟨z, h3, h4⟩ := List.mem_map.mp h1
      subst h4
      have h5 := keyF_inj (of_decide_eq_true h2)
      exact h (h5 ▸ h3)
theorem merge_kvTF : ∀ (l acc : List Fr), mergeTD (kvTF acc) (kvTF l) = kvTF (l.foldl (fun acc x => if x ∈ acc then acc else acc ++ [x]) acc)
  | [], _ => rfl
  | x :: l, acc => by
    show mergeTD (putKD (kvTF acc) (keyF x) (D.bl true)) (kvTF l) = _
    rw [put_kvTF, merge_kvTF l]
    rfl
theorem dict_frs {O : DO} {Q : D → DO → Prop} (l : List Fr) (h : ∀ p, O p = none → Q (.ptr p) (updO O p (.dT (kvTF (ddF l))))) : gDictT [.lst (l.map fun x => D.tup [frD x, .bl true])] O Q := by
  show (match pairsT (l.map fun x => D.tup [frD x, .bl true]) with
    | some kvs => ∀ p, O p = none → Q (.ptr p) (updO O p (.dT (mergeTD [] kvs)))
    | none => False)
  rw [pairsT_map keyF (fun _ => D.bl true) _ l (fun _ _ => rfl)]
  intro p hp
  have e : mergeTD [] (l.map fun x => (keyF x, D.bl true)) = kvTF (ddF l) := merge_kvTF l []
  show Q (.ptr p) (updO O p (.dT (mergeTD [] (l.map fun x => (keyF x, D.bl true)))))
  rw [e]
  exact h p hp
theorem eqv_ints : ∀ a b : List Int, PyData.eqvAll (toPys (a.map D.int)) (toPys (b.map D.int)) = decide (a = b)
  | [], [] => by simp [toPys, PyData.eqvAll]
  | [], y :: b => by simp [toPys, PyData.eqvAll]
  | x :: a, [] => by simp [toPys, PyData.eqvAll]
  | x :: a, y :: b => by
    show (PyData.eqv (.int x) (.int y) && PyData.eqvAll (toPys (a.map D.int)) (toPys (b.map D.int))) = _
    rw [eqv_int, eqv_ints a b]
    by_cases h : x = y <;> by_cases h2 : a = b <;> simp [h, h2]
theorem inD_rows (a : List Int) : ∀ rs : List (List Int), inD (tupI a) (rs.map tupI) = decide (a ∈ rs)
  | [] => rfl
  | r :: rs => by
    show (PyData.eqvAll (toPys (r.map D.int)) (toPys (a.map D.int)) || inD (tupI a) (rs.map tupI)) = _
    rw [eqv_ints, inD_rows a rs]
    by_cases h : r = a
    · subst h
      simp
    · have h2 : ¬ a = r := fun e => h e.symm
      simp [h, h2]
theorem okDs_rows : ∀ rs : List (List Int), okDs 59 (rs.map tupI) = true
  | [] => rfl
  | r :: rs => by
    show (okDs 58 (r.map D.int) && okDs 59 (rs.map tupI)) = true
    rw [okDs_rows rs, Bool.and_true]
    have : ∀ (n : Nat) (l : List Int), okDs n (l.map D.int) = true := fun n l => by
      induction l with
      | nil => cases n <;> rfl
      | cons x l ih =>
        show (okD n (.int x) && okDs n (l.map D.int)) = true
        rw [ih, okD_int]
        rfl
    exact this 58 r
theorem in_rows {k : D → Prop} {O : DO} {a : List Int} {rs : List (List Int)} {x y : D} (hx : x = tupI a) (hy : y = .lst (rs.map tupI) ∨ y = .tup (rs.map tupI)) (h : k (.bl (decide (a ∈ rs)))) : gIn false O x y k := by
  have h1 : (okD 60 (tupI a) && okDs 59 (rs.map tupI)) = true := Bool.and_eq_true_iff.mpr ⟨okD_tupI a, okDs_rows rs⟩
  rw [← inD_rows] at h
  subst hx
  rcases hy with rfl | rfl
  · exact needB_i h1 h
  · exact needB_i h1 h
theorem setS_sub {O0 : DO} {p q r : Addr} {c : Cell} {s s' : St} (h : setS O0 p q s r = none) : r ≠ p ∧ r ≠ q ∧ updO (setS O0 p q s) r c = setS (updO O0 r c) p q s ∧ Sub (setS O0 p q s') (setS (updO O0 r c) p q s') := by
  have h1 : r ≠ p := fun e => by rw [e, setS_p] at h; cases h
  have h2 : r ≠ q := fun e => by
    unfold setS at h
    rw [updO_ne h1, e, updO_same] at h
    cases h
  have h3 : O0 r = none := by
    unfold setS at h
    rw [updO_ne h1, updO_ne h2] at h
    exact h
  refine ⟨h1, h2, setS_own h1 h2, ?_⟩
  rw [← setS_own h1 h2]
  refine sub_upd ?_ (Sub.refl _)
  unfold setS
  rw [updO_ne h1, updO_ne h2]
  exact h3
/-! the model -/
def nbA (f : Fd) (best : List Fr) (c : Int) (s1 : St) : (Str × Say × Bool) × St :=
  if c = 0 then (("things " ++ sgS (numF s1 f.n), .things (numF s1 f.n), decide (numF s1 f.n = (f.n : Int))), drawS s1 6)
  else (("levels " ++ sgS (numF s1 (ddF best).length), .levels (numF s1 (ddF best).length), decide (numF s1 (ddF best).length = ((ddF best).length : Int))), drawS s1 6)
def nbB (f : Fd) (s1 : St) : (Str × Say × Bool) × St :=
  (("below " ++ sgS (drawV s1 (f.n + 3) - 1) ++ " " ++ sgS (drawV (drawS s1 (f.n + 3)) (f.n + 3) - 1), .below (drawV s1 (f.n + 3) - 1) (drawV (drawS s1 (f.n + 3)) (f.n + 3) - 1), decide ([drawV s1 (f.n + 3) - 1, drawV (drawS s1 (f.n + 3)) (f.n + 3) - 1] ∈ f.ties.map rowP)), drawS (drawS s1 (f.n + 3)) (f.n + 3))
def lotS (f : Fd) (s1 : St) : List Nat := (upLots f).getD (drawV s1 (upLots f).length).toNat []
def nbL (f : Fd) (lot : List Nat) (a : Nat) (s3 : St) : List Int × St :=
  if drawV s3 4 = 0 then ((toI lot).take a ++ [drawV (drawS s3 4) (f.n + 2) - 1] ++ (toI lot).drop a, drawS (drawS s3 4) (f.n + 2))
  else if drawV (drawS s3 4) 3 = 0 then ((toI lot).take a ++ (toI lot).drop (a + 1), drawS (drawS s3 4) 3)
  else (toI lot, drawS (drawS s3 4) 3)
def nbC (f : Fd) (s1 : St) : (Str × Say × Bool) × St :=
  let s2 := drawS s1 (upLots f).length
  let s3 := drawS s2 ((lotS f s1).length + 1)
  let z := nbL f (lotS f s1) (drawV s2 ((lotS f s1).length + 1)).toNat s3
  ((Txt.join " " ("up" :: z.1.map sgS), .up z.1, decide (z.1 ∈ (upLots f).map toI)), z.2)
def numbF (f : Fd) (best : List Fr) (s : St) : (Str × Say × Bool) × St :=
  if drawV s 4 < 2 then nbA f best (drawV s 4) (drawS s 4) else if drawV s 4 = 2 then nbB f (drawS s 4) else nbC f (drawS s 4)
theorem numbF_n {n : Nat} {f : Fd} {best : List Fr} {s : St} (h : StN (n + 5) s) : StN n (numbF f best s).2 := by
  have h1 : StN (n + 4) (drawS s 4) := drawS_n h
  unfold numbF
  split
  · unfold nbA
    split
    · exact drawS_n (h1.mono (by omega))
    · exact drawS_n (h1.mono (by omega))
  · split
    · exact drawS_n (drawS_n (h1.mono (by omega)))
    · unfold nbC nbL
      dsimp only
      have h3 : StN (n + 2) (drawS (drawS (drawS s 4) (upLots f).length) ((lotS f (drawS s 4)).length + 1)) := drawS_n (drawS_n h1)
      split
      · exact drawS_n (drawS_n h3)
      · split
        · exact drawS_n (drawS_n h3)
        · exact drawS_n (drawS_n h3)
theorem up_len (f : Fd) (ok : FdOk f) : (upLots f).length ≤ 64 := by
  unfold upLots
  rw [(sortN_perm _).length_eq]
  have h1 := List.length_filter_le (isUpB f) (lotsN f.n)
  rw [lotsN_length] at h1
  have h2 : 2 ^ f.n ≤ 2 ^ 6 := Nat.pow_le_pow_right (by decide) ok.n6
  omega
theorem up_ne {f : Fd} : 0 < (upLots f).length := List.length_pos_iff.mpr (List.ne_nil_of_mem nil_up)
section
variable {i : Nat} {env : DEnv} {O : DO} {QT : Bool → DO → Prop} {Q : D → DO → Prop}
theorem lt_t {a b : Int} (hi : lk env i = some (.int a)) (h : QT (decide (a < b)) O) : tdT (tdOp gLt (tdV i) (tdC (.int b))) env O QT := tt_l (op_l (v_i hi h))
theorem eq_t {a b : Int} (hi : lk env i = some (.int a)) (h : QT (decide (a = b)) O) : tdT (tdOp gEq (tdV i) (tdC (.int b))) env O QT := tt_l (op_l (v_i hi h))
theorem add_str {x y : Str} {k : D → Prop} (h : x.length + y.length ≤ 16777216) (hk : k (.str (x ++ y))) : gAdd O (.str x) (.str y) k := needB_i (szB_i h) hk
theorem add_lst {x y : List D} {k : D → Prop} (h : x.length + y.length ≤ 16777216) (hk : k (.lst (x ++ y))) : gAdd O (.lst x) (.lst y) k := needB_i (szB_i h) hk
theorem num_bd (s : St) (due : Int) : (numF s due).natAbs ≤ due.natAbs + 7 := by
  obtain ⟨a, b⟩ := drawV_bd (s := s) (m := 6) (by decide)
  have : (drawV s 6).toNat = 0 ∨ (drawV s 6).toNat = 1 ∨ (drawV s 6).toNat = 2 ∨ (drawV s 6).toNat = 3 ∨ (drawV s 6).toNat = 4 ∨ (drawV s 6).toNat = 5 := by omega
  unfold numF
  rcases this with e | e | e | e | e | e <;> rw [e] <;> simp only [numsL, List.getD_cons_zero, List.getD_cons_succ] <;> omega
theorem lenT_l {r : Addr} {kvs : KTs} (hO : O r = some (.dT kvs)) (h : Q (.int (kvs.length : Int)) O) : gLen [.ptr r] O Q := by
  have e : deref O (.ptr r) = .ptr r := by
    show derefC r (O r) = .ptr r
    rw [hO]
    rfl
  unfold gLen
  simp only [e, hO]
  exact h
theorem list_tup {xs : List D} (h : Q (.lst xs) O) : gList [.tup xs] O Q := h
theorem tup_lst {xs : List D} (h : Q (.tup xs) O) : gTuple [.lst xs] O Q := h
theorem sl_to {j n : Nat} {xs : List D} (hi : lk env i = some (.lst xs)) (hj : lk env j = some (.int (n : Int))) (h : Q (.lst (xs.take n)) O) : tdSl (tdV i) tdNo (tdPart (tdV j)) env O Q := by
  dsimp only [tdSl, tdNo, tdPart]
  refine v_i hi (v_i hj ?_)
  show Q (.lst (cutD xs none (some (n : Int)))) O
  rw [cut_upto]
  exact h
theorem sl_from {j n : Nat} {xs : List D} (hi : lk env i = some (.lst xs)) (hj : lk env j = some (.int (n : Int))) (h : Q (.lst (xs.drop n)) O) : tdSl (tdV i) (tdPart (tdV j)) tdNo env O Q := by
  dsimp only [tdSl, tdNo, tdPart]
  refine v_i hi (v_i hj ?_)
  show Q (.lst (cutD xs (some (n : Int)) none)) O
  rw [cut_from]
  exact h
theorem sl_from1 {j n : Nat} {xs : List D} (hi : lk env i = some (.lst xs)) (hj : lk env j = some (.int (n : Int))) (h : Q (.lst (xs.drop (n + 1))) O) : tdSl (tdV i) (tdPart (tdOp gAdd (tdV j) (tdC (.int 1)))) tdNo env O Q := by
  dsimp only [tdSl, tdNo, tdPart]
  refine v_i hi (op_l (v_i hj ?_))
  show Q (.lst (cutD xs (some ((n + 1 : Nat) : Int)) none)) O
  rw [cut_from]
  exact h
theorem i30_small {i : Int} (h : i.natAbs ≤ 1000000) : I30 i := Nat.lt_of_le_of_lt h (by decide)
end
section
variable {w : World} {K : PySem.W.Frag} {mg : Str → Option Value} {base : Heap} {aI aF aL aC cT_ pT : Addr}
def sayQ (z : (Str × Say × Bool) × St) : D := .tup [.str z.1.1, .bl z.1.2.2]
def gLNumbered : GC := fun ds O Q => match ds with
  | [.ptr p, fd, bd] => ∃ O0 q s f best, p ≠ q ∧ O = setS O0 p q s ∧ StN 5 s ∧ fd = fdD f ∧ FdOk f ∧ bd = D.tup (List.map frD best) ∧ best.length ≤ 1000 ∧ Q (sayQ (numbF f best s)) (setS O0 p q (numbF f best s).2)
  | _ => False
theorem k_law_numbered (c : Hd w K mg base aI aF aL aC cT_ pT) : Dl.Def prog w K mg base 4 "_law_numbered" ["_law_state", "_law_field_so", "_law_best_here"] gLNumbered := by
  have k_law_draw := k_law_draw c
  have k_law_of := k_law_of c
  have k_law_ups := k_law_ups c
  have k_law_number := k_law_number c
  have S : FnScope ["_law_state", "_law_field_so", "_law_best_here", "_law_size", "_law_choice", "_law_due", "_law_told", "_law_one", "_law_far", "_law_ups_here", "_law_lot", "_law_at", "_law_guess_here"] ["_law_state", "_law_field_so", "_law_best_here"] (defScope s_law_numbered) := C8.fnScope_by (by kernel_rfl)
  have hN := S.nd
  refine def_ok c.f_law_numbered S (fun _ _ _ _ _ _ us hl => match us, hl with | [_, _, _], _ => rfl) (fun ds O R h => ?_) fun f cdv A outer s H E hr => ⟨_, have hu := room64 hr; have hu5 := room65 hr; have hu1 := room1 hr; (s_cons (s_par2 3 4 rfl hN (a_cons (d_ix (dv 1) d_int) (a_cons (d_call k_law_draw hr (by decide) (a_cons (dv 0) (a_cons d_int a_nil))) a_nil)))
  (s_cons (s_if (t_cmp o_lt (dv 4) d_int)
  (s_cons (s_set 5 hN (d_if (t_cmp (o_eq hu) (dv 4) d_int) (dv 3) (d_callB c_len c.m_len bt_len (a_cons (d_callTy (c_dictT hu5 rfl) c.m_dict bt_dict (a_cons (d_lc rfl hN (i_seq (dv 2)) (blkOk_by (own := [("_law_guess_here", 12)]) (by kernel_rfl)) (fun _ _ _ _ _ => (g_name 12 hN)) (fun _ _ _ _ _ => ts_nil) (fun _ _ _ _ _ => (d_tup (a_cons (dv 12) (a_cons d_bl a_nil))))) a_nil)) a_nil))))
  (s_cons (s_set 6 hN (d_call k_law_number hr (by decide) (a_cons (dv 0) (a_cons (dv 5) a_nil))))
  (s_one (s_ret (d_tup (a_cons (d_op o_add (d_ix (d_lst (a_cons d_str (a_cons d_str a_nil))) (dv 4)) (d_callTy c_str c.m_str bt_str (a_cons (dv 6) a_nil))) (a_cons (d_cmp (o_eq hu) (dv 6) (dv 5)) a_nil)))))))
  s_nil)
  (s_cons (s_if (t_cmp (o_eq hu) (dv 4) d_int)
  (s_cons (s_par2 7 8 rfl hN (a_cons (d_op o_sub (d_call k_law_draw hr (by decide) (a_cons (dv 0) (a_cons (d_op o_add (dv 3) d_int) a_nil))) d_int) (a_cons (d_op o_sub (d_call k_law_draw hr (by decide) (a_cons (dv 0) (a_cons (d_op o_add (dv 3) d_int) a_nil))) d_int) a_nil)))
  (s_one (s_ret (d_tup (a_cons (d_op o_add (d_op o_add (d_op o_add d_str (d_callTy c_str c.m_str bt_str (a_cons (dv 7) a_nil))) d_str) (d_callTy c_str c.m_str bt_str (a_cons (dv 8) a_nil))) (a_cons (d_cmp (o_in hu5) (d_tup (a_cons (dv 7) (a_cons (dv 8) a_nil))) (d_ix (dv 1) d_int)) a_nil))))))
  s_nil)
  (s_cons (s_set 9 hN (d_call k_law_ups hr (by decide) (a_cons (dv 1) a_nil)))
  (s_cons (s_set 10 hN (d_callTy c_list c.m_list bt_list (a_cons (d_call k_law_of hr (by decide) (a_cons (dv 0) (a_cons (dv 9) a_nil))) a_nil)))
  (s_cons (s_set 11 hN (d_call k_law_draw hr (by decide) (a_cons (dv 0) (a_cons (d_op o_add (d_callB c_len c.m_len bt_len (a_cons (dv 10) a_nil)) d_int) a_nil))))
  (s_cons (s_if (t_cmp (o_eq hu) (d_call k_law_draw hr (by decide) (a_cons (dv 0) (a_cons d_int a_nil))) d_int)
  (s_one (s_set 10 hN (d_op o_add (d_op o_add (d_sl (dv 10) p_no (p_at (dv 11))) (d_lst (a_cons (d_op o_sub (d_call k_law_draw hr (by decide) (a_cons (dv 0) (a_cons (d_op o_add (dv 3) d_int) a_nil))) d_int) a_nil))) (d_sl (dv 10) (p_at (dv 11)) p_no))))
  (s_one (s_if (t_cmp (o_eq hu) (d_call k_law_draw hr (by decide) (a_cons (dv 0) (a_cons d_int a_nil))) d_int)
  (s_one (s_set 10 hN (d_op o_add (d_sl (dv 10) p_no (p_at (dv 11))) (d_sl (dv 10) (p_at (d_op o_add (dv 11) d_int)) p_no))))
  s_nil)))
  (s_one (s_ret (d_tup (a_cons (d_join d_str (d_op o_add (d_lst (a_cons d_str a_nil)) (d_lc rfl hN (i_seq (dv 10)) (blkOk_by (own := [("_law_one", 7)]) (by kernel_rfl)) (fun _ _ _ _ _ => (g_name 7 hN)) (fun _ _ _ _ _ => ts_nil) (fun _ _ _ _ _ => (d_callTy c_str c.m_str bt_str (a_cons (dv 7) a_nil)))))) (a_cons (d_cmp (o_in hu5) (d_callTy c_tuple c.m_tuple bt_tuple (a_cons (dv 10) a_nil)) (dv 9)) a_nil)))))))))))), fun ds O R h => ?_⟩
  · unfold gLNumbered at h
    split at h <;> first | rfl | exact h.elim
  · unfold gLNumbered at h
    split at h
    · rename_i p fd bd
      obtain ⟨O0, q, s, f, best, ne, rfl, hs, rfl, ok, rfl, hbl, h⟩ := h
      have n6 := ok.n6
      obtain ⟨a1, a2⟩ := drawV_bd (s := s) (m := 4) (by decide)
      have hs1 : StN 4 (drawS s 4) := drawS_n hs
      dsimp only [tdSeq, tdPar2]
      refine cons_v (op_l (v_i (i := 1) rfl (c_v (ix_tup (n := 0) rfl ?_))))
      refine cons_v (draw_c (i := 0) 4 rfl ne (hs.mono (by decide)) (by decide) (smn (by decide)) ?_)
      refine (show tdIfS (tdT (tdOp gLt (tdV 4) (tdC (.int 2)))) _ tdNx _ [some (.ptr p), some (fdD f), some (.tup (best.map frD)), some (.int (f.n : Int)), some (.int (drawV s 4)), none, none, none, none, none, none, none, none] (setS O0 p q (drawS s 4)) from ?_)
      by_cases c2 : drawV s 4 < 2
      · have eA : numbF f best s = nbA f best (drawV s 4) (drawS s 4) := if_pos c2
        rw [eA] at h
        have tail : ∀ (x : Str) (m : Nat) (due : Int) (O1 : DO), [D.str "things ", D.str "levels "][m]? = some (.str x) → drawV s 4 = (m : Int) → due.natAbs ≤ 1000 → x.length ≤ 100 → (∀ d, R d (setS O0 p q (drawS (drawS s 4) 6)) → Dl.Fin R d (setS O1 p q (drawS (drawS s 4) 6))) → R (.tup [.str (x ++ sgS (numF (drawS s 4) due)), .bl (decide (numF (drawS s 4) due = due))]) (setS O0 p q (drawS (drawS s 4) 6)) → tdSeq (tdAsg (tdCall gLNumber (tdCons (tdV 0) (tdCons (tdV 5) tdNil))) (gdN 6)) (tdRet (tdTup (tdCons (tdOp gAdd (tdOp gIx (tdLst (tdCons (tdC (.str "things ")) (tdCons (tdC (.str "levels ")) tdNil))) (tdV 4)) (tdCall gStr (tdCons (tdV 6) tdNil))) (tdCons (tdOp gEq (tdV 6) (tdV 5)) tdNil)))) { nx := fun _ O' => Dl.Fin R .non O', rt := Dl.Fin R } [some (.ptr p), some (fdD f), some (.tup (best.map frD)), some (.int (f.n : Int)), some (.int (drawV s 4)), some (.int due), none, none, none, none, none, none, none] (setS O1 p q (drawS s 4)) := by
          intro x m due O1 hx hc hdue hxl hR hr
          have nb := num_bd (drawS s 4) due
          have i30 : I30 (numF (drawS s 4) due) := i30_small (by omega)
          have sl := (int_back i30).2
          dsimp only [tdSeq, tdAsg]
          refine call2_v (i := 0) (j := 5) rfl rfl ⟨O1, q, _, ne, rfl, hs1.mono (by decide), ?_⟩
          dsimp only [gdN, tdRet, tdTup]
          refine cons_v (op_l (op_l ?_))
          dsimp only [tdLst]
          refine cons_v (c_v (cons_v (c_v (nil_v (needB_i rfl ?_)))))
          refine v_i (i := 4) (d := .int (m : Int)) (by rw [← hc]; rfl) ?_
          refine ix_lst hx ?_
          refine call1_v (i := 6) rfl (str_v i30 ?_)
          refine add_str (by omega) ?_
          refine cons_v (op_l (v_i (i := 6) rfl (v_i (i := 5) rfl ?_)))
          exact needB_i rfl (hR _ hr)
        refine ifS_t (fun Q' q' => lt_t (i := 4) rfl (by rw [decide_eq_true c2]; exact q')) ?_
        dsimp only [tdSeq, tdAsg]
        by_cases c0 : drawV s 4 = 0
        · have eB : nbA f best (drawV s 4) (drawS s 4) = (("things " ++ sgS (numF (drawS s 4) f.n), .things (numF (drawS s 4) f.n), decide (numF (drawS s 4) f.n = (f.n : Int))), drawS (drawS s 4) 6) := if_pos c0
          rw [eB] at h
          refine if_t (fun Q' q' => eq_t (i := 4) rfl (by rw [decide_eq_true c0]; exact q')) (v_i (i := 3) rfl ?_)
          exact tail "things " 0 f.n O0 rfl c0 (by omega) (by decide) (fun d hd => Fin.i hd) h
        · have c1 : drawV s 4 = ((1 : Nat) : Int) := by omega
          have eB : nbA f best (drawV s 4) (drawS s 4) = (("levels " ++ sgS (numF (drawS s 4) (ddF best).length), .levels (numF (drawS s 4) (ddF best).length), decide (numF (drawS s 4) (ddF best).length = ((ddF best).length : Int))), drawS (drawS s 4) 6) := if_neg c0
          rw [eB] at h
          refine if_f (fun Q' q' => eq_t (i := 4) rfl (by rw [decide_eq_false c0]; exact q')) ?_
          refine call_v (cons_v (call_v (cons_v ?_)))
          dsimp only [tdLc, tiSeq]
          refine v_i (i := 2) rfl ?_
          refine lcD_map best frD (fun g => .tup [frD g, .bl true]) (fun g hg K1 k1 => needB_i rfl k1) ?_
          refine nil_v (dict_frs best fun r hr => nil_v ?_)
          obtain ⟨n1, n2, n3, n4⟩ := setS_sub (c := .dT (kvTF (ddF best))) (s' := drawS (drawS s 4) 6) hr
          have hl : (kvTF (ddF best)).length = (ddF best).length := List.length_map _
          have hdl : (ddF best).length ≤ best.length := by
            have := (ddF_nodup best).length_le_of_subset (l₂ := best) fun x hx => mem_ddF.mp hx
            exact this
          refine lenT_l updO_same ?_
          rw [hl, n3]
          exact tail "levels " 1 (ddF best).length _ rfl c1 (by omega) (by decide) (fun d hd => ⟨_, n4, hd⟩) h
      · refine ifS_f (fun Q' q' => lt_t (i := 4) rfl (by rw [decide_eq_false c2]; exact q')) ?_
        dsimp only [tdNx, tdSeq]
        by_cases c3 : drawV s 4 = 2
        · have eB : numbF f best s = nbB f (drawS s 4) := (if_neg c2).trans (if_pos c3)
          rw [eB] at h
          refine ifS_t (fun Q' q' => eq_t (i := 4) rfl (by rw [decide_eq_true c3]; exact q')) ?_
          dsimp only [tdSeq, tdPar2]
          obtain ⟨b1, b2⟩ := drawV_bd (s := drawS s 4) (m := (f.n : Int) + 3) (by omega)
          obtain ⟨b3, b4⟩ := drawV_bd (s := drawS (drawS s 4) (f.n + 3)) (m := (f.n : Int) + 3) (by omega)
          have i1 : I30 (drawV (drawS s 4) (f.n + 3) - 1) := i30_small (by omega)
          have i2 : I30 (drawV (drawS (drawS s 4) (f.n + 3)) (f.n + 3) - 1) := i30_small (by omega)
          have l1 := (int_back i1).2
          have l2 := (int_back i2).2
          refine cons_v (op_l (call_v (cons_v (v_i (i := 0) rfl (cons_v (op_l (v_i (i := 3) rfl (c_v ?_))))))))
          refine ⟨O0, q, _, ne, rfl, hs1.mono (by decide), (by omega : (0 : Int) < (f.n : Int) + 3), smn (by omega), ?_⟩
          refine ⟨O0, q, _, ne, rfl, drawS_n (hs1.mono (by decide)), (by omega : (0 : Int) < (f.n : Int) + 3), smn (by omega), ?_⟩
          refine (show tdRet (tdTup (tdCons (tdOp gAdd (tdOp gAdd (tdOp gAdd (tdC (.str "below ")) (tdCall gStr (tdCons (tdV 7) tdNil))) (tdC (.str " "))) (tdCall gStr (tdCons (tdV 8) tdNil))) (tdCons (tdOp (gIn false) (tdTup (tdCons (tdV 7) (tdCons (tdV 8) tdNil))) (tdOp gIx (tdV 1) (tdC (.int 1)))) tdNil))) { nx := fun _ O' => Dl.Fin R .non O', rt := Dl.Fin R } [some (.ptr p), some (fdD f), some (.tup (best.map frD)), some (.int (f.n : Int)), some (.int (drawV s 4)), none, none, some (.int (drawV (drawS s 4) (f.n + 3) - 1)), some (.int (drawV (drawS (drawS s 4) (f.n + 3)) (f.n + 3) - 1)), none, none, none, none] (setS O0 p q (drawS (drawS (drawS s 4) (f.n + 3)) (f.n + 3))) from ?_)
          dsimp only [tdRet, tdTup]
          refine cons_v (op_l (op_l (op_l (c_v (call1_v (i := 7) rfl (str_v i1 (add_str ?_ (c_v (add_str ?_ (call1_v (i := 8) rfl (str_v i2 (add_str ?_ ?_)))))))))))) 
          · exact Nat.le_trans (Nat.add_le_add (show (Str.ofString "below ").length ≤ 10 by decide) l1) (by decide)
          · rw [strLen_append]
            exact Nat.le_trans (Nat.add_le_add (Nat.add_le_add (show (Str.ofString "below ").length ≤ 10 by decide) l1) (show (Str.ofString " ").length ≤ 10 by decide)) (by decide)
          · rw [strLen_append, strLen_append]
            exact Nat.le_trans (Nat.add_le_add (Nat.add_le_add (Nat.add_le_add (show (Str.ofString "below ").length ≤ 10 by decide) l1) (show (Str.ofString " ").length ≤ 10 by decide)) l2) (by decide)
          · refine cons_v (op_l (cons_v (v_i (i := 7) rfl (cons_v (v_i (i := 8) rfl (nil_v (needB_i rfl ?_)))))))
            refine op_l (v_i (i := 1) rfl (c_v (ix_tup (n := 1) rfl ?_)))
            refine in_rows (a := [drawV (drawS s 4) (f.n + 3) - 1, drawV (drawS (drawS s 4) (f.n + 3)) (f.n + 3) - 1]) (rs := f.ties.map rowP) rfl (.inr (by rw [List.map_map]; rfl)) ?_
            exact nil_v (needB_i rfl (Fin.i h))
        · have eC : numbF f best s = nbC f (drawS s 4) := (if_neg c2).trans (if_neg c3)
          rw [eC] at h
          refine ifS_f (fun Q' q' => eq_t (i := 4) rfl (by rw [decide_eq_false c3]; exact q')) ?_
          dsimp only [tdNx, tdSeq, tdAsg]
          refine call1_v (i := 1) rfl ⟨f, ok, rfl, ?_⟩
          dsimp only [gdN]
          have ul := up_len f ok
          have un := up_ne (f := f)
          generalize hs1' : drawS s 4 = s1 at h hs1
          refine call_v (cons_v (call_v (cons_v (v_i (i := 0) rfl (cons_v (v_i (i := 9) rfl (nil_v ?_)))))))
          refine pick_l ne (hs1.mono (by decide)) (by rw [List.length_map]; exact un) (by rw [List.length_map]; omega) ?_
          rw [List.length_map]
          obtain ⟨d1, d2⟩ := drawV_bd (s := s1) (m := ((upLots f).length : Int)) (by omega)
          have hlot : lotS f s1 ∈ upLots f := by
            unfold lotS
            rw [List.getD_eq_getElem?_getD, List.getElem?_eq_getElem (by omega)]
            exact List.getElem_mem _
          have eg : ((upLots f).map lotD).getD (drawV s1 (upLots f).length).toNat .non = lotD (lotS f s1) := by
            unfold lotS
            rw [List.getD_eq_getElem?_getD, List.getElem?_map, List.getD_eq_getElem?_getD, List.getElem?_eq_getElem (by omega)]
            rfl
          rw [eg]
          refine nil_v (list_tup ?_)
          dsimp only [gdN]
          have ll := lot_len ok hlot
          have ll2 := (mem_upLots.mp hlot).1.2
          unfold nbC at h
          dsimp only at h
          have hs2 : StN 3 (drawS s1 (upLots f).length) := drawS_n hs1
          generalize lotS f s1 = lot at h hlot ll ll2
          generalize drawS s1 (upLots f).length = s2 at h hs2
          refine call_v (cons_v (v_i (i := 0) rfl (cons_v (op_l (call1_v (i := 10) rfl (len_lst (c_v ?_)))))))
          rw [natD_length]
          obtain ⟨e1, e2⟩ := drawV_bd (s := s2) (m := (lot.length : Int) + 1) (by omega)
          refine ⟨O0, q, _, ne, rfl, hs2.mono (by decide), (by omega : (0 : Int) < (lot.length : Int) + 1), smn (by omega), ?_⟩
          have ea : drawV s2 (lot.length + 1) = ((drawV s2 (lot.length + 1)).toNat : Int) := by omega
          rw [ea]
          have hs3 : StN 2 (drawS s2 (lot.length + 1)) := drawS_n hs2
          generalize (drawV s2 (lot.length + 1)).toNat = at_ at h
          generalize drawS s2 (lot.length + 1) = s3 at h hs3
          dsimp only [gdN, tdSeq]
          have fin : ∀ (l : List Int) (s5 : St), (∀ i ∈ l, I30 i) → l.length ≤ 20 → R (.tup [.str (Txt.join " " ("up" :: l.map sgS)), .bl (decide (l ∈ (upLots f).map toI))]) (setS O0 p q s5) → tdRet (tdTup (tdCons (tdJoin (tdC (.str " ")) (tdOp gAdd (tdLst (tdCons (tdC (.str "up")) tdNil)) (tdLc (tiSeq (tdV 10)) (gdN 7) tdYes (tdCall gStr (tdCons (tdV 7) tdNil)) [7]))) (tdCons (tdOp (gIn false) (tdCall gTuple (tdCons (tdV 10) tdNil)) (tdV 9)) tdNil))) { nx := fun _ O' => Dl.Fin R .non O', rt := Dl.Fin R } [some (.ptr p), some (fdD f), some (.tup (best.map frD)), some (.int (f.n : Int)), some (.int (drawV s 4)), none, none, none, none, some (.lst ((upLots f).map lotD)), some (.lst (l.map .int)), some (.int (at_ : Int)), none] (setS O0 p q s5) := by
            intro l s5 h30 hl20 hr
            dsimp only [tdRet, tdTup]
            refine cons_v (join_v (op_l ?_))
            dsimp only [tdLst]
            refine cons_v (c_v (nil_v (needB_i rfl ?_)))
            dsimp only [tdLc, tiSeq]
            refine v_i (i := 10) rfl ?_
            refine lcD_map l D.int (fun i => .str (sgS i)) (fun i hi K1 k1 => ?_) ?_
            · dsimp only [gdN]
              exact call1_v (i := 7) rfl (str_v (h30 i hi) k1)
            · refine add_lst (by rw [List.length_map]; show 1 + l.length ≤ _; omega) ?_
              refine ⟨"up" :: l.map sgS, by rw [List.map_cons, List.map_map]; rfl, ?_, ?_⟩
              · have hsum : ∀ (l : List Int), (∀ i ∈ l, I30 i) → ((l.map sgS).map (·.length)).sum ≤ 31 * l.length := by
                  intro l
                  induction l with
                  | nil => intro _; exact Nat.le_refl _
                  | cons x l ih =>
                    intro hx
                    have h1 := (int_back (hx x List.mem_cons_self)).2
                    have h2 := ih fun i hi => hx i (List.mem_cons_of_mem _ hi)
                    rw [List.map_cons, List.map_cons, List.sum_cons, List.length_cons]
                    omega
                have h1 := hsum l h30
                rw [List.map_cons, List.sum_cons, List.length_cons, List.length_map]
                have h2 : (Str.ofString "up").length = 2 := rfl
                have h3 : (Str.ofString " ").length = 1 := rfl
                rw [h2, h3]
                omega
              · refine cons_v (op_l (call1_v (i := 10) rfl (tup_lst (v_i (i := 9) rfl ?_))))
                refine in_rows (a := l) (rs := (upLots f).map toI) rfl (.inl ?_) ?_
                · rw [List.map_map]
                  refine congrArg D.lst (List.map_congr_left fun l _ => ?_)
                  exact (tupI_toI l).symm
                · exact nil_v (needB_i rfl (Fin.i hr))
          have eno : natD lot = (toI lot).map D.int := natD_toI lot
          rw [eno]
          have i30l : ∀ i ∈ toI lot, I30 i := by
            intro i hi
            obtain ⟨j, hj, rfl⟩ := List.mem_map.mp hi
            have := ll2 j hj
            exact i30_small (by omega)
          have tl : (toI lot).length = lot.length := List.length_map _
          have ltk : ((toI lot).take at_).length ≤ 6 := by
            rw [List.length_take, tl]
            omega
          have ldr : ∀ k, ((toI lot).drop k).length ≤ 6 := by
            intro k
            rw [List.length_drop, tl]
            omega
          dsimp only [tdIfS]
          refine tt_l (op_l (draw_c (i := 0) 4 rfl ne (hs3.mono (by decide)) (by decide) (smn (by decide)) (c_v ?_)))
          refine iteB_i (c := decide (drawV s3 4 = 0)) (fun e => ?_) (fun e => ?_)
          · have e := of_decide_eq_true e
            have eL : nbL f lot at_ s3 = ((toI lot).take at_ ++ [drawV (drawS s3 4) (f.n + 2) - 1] ++ (toI lot).drop at_, drawS (drawS s3 4) (f.n + 2)) := if_pos e
            rw [eL] at h
            dsimp only [tdAsg]
            obtain ⟨g1, g2⟩ := drawV_bd (s := drawS s3 4) (m := (f.n : Int) + 2) (by omega)
            refine op_l (op_l (sl_to (i := 10) (j := 11) rfl rfl ?_))
            rw [← List.map_take]
            dsimp only [tdLst]
            refine cons_v (op_l (call_v (cons_v (v_i (i := 0) rfl (cons_v (op_l (v_i (i := 3) rfl (c_v ?_))))))))
            refine ⟨O0, q, _, ne, rfl, drawS_n hs3, (by omega : (0 : Int) < (f.n : Int) + 2), smn (by omega), ?_⟩
            refine needB_i (szB_i (by rw [List.length_map]; show _ + 1 ≤ _; omega)) ?_
            refine sl_from (i := 10) (j := 11) rfl rfl ?_
            rw [← List.map_drop]
            refine add_lst (by rw [List.length_append, List.length_map, List.length_map]; have := ldr at_; show _ + 1 + _ ≤ _; omega) ?_
            dsimp only [gdN]
            have ef : ((toI lot).take at_).map D.int ++ [D.int (drawV (drawS s3 4) (f.n + 2) - 1)] ++ ((toI lot).drop at_).map D.int = ((toI lot).take at_ ++ [drawV (drawS s3 4) (f.n + 2) - 1] ++ (toI lot).drop at_).map D.int := by
              rw [List.map_append, List.map_append]
              rfl
            rw [ef]
            refine fin _ _ (fun i hi => ?_) ?_ h
            · rcases List.mem_append.mp hi with hi | hi
              · rcases List.mem_append.mp hi with hi | hi
                · exact i30l i (List.mem_of_mem_take hi)
                · have : i = drawV (drawS s3 4) (f.n + 2) - 1 := by simpa using hi
                  subst this
                  exact i30_small (by omega)
              · exact i30l i (List.mem_of_mem_drop hi)
            · rw [List.length_append, List.length_append]
              have := ldr at_
              show _ + 1 + _ ≤ _
              omega
          · have e := of_decide_eq_false e
            refine tt_l (op_l (draw_c (i := 0) 3 rfl ne (drawS_n hs3) (by decide) (smn (by decide)) (c_v ?_)))
            refine iteB_i (c := decide (drawV (drawS s3 4) 3 = 0)) (fun e2 => ?_) (fun e2 => ?_)
            · have e2 := of_decide_eq_true e2
              have eL : nbL f lot at_ s3 = ((toI lot).take at_ ++ (toI lot).drop (at_ + 1), drawS (drawS s3 4) 3) := (if_neg e).trans (if_pos e2)
              rw [eL] at h
              dsimp only [tdAsg]
              refine op_l (sl_to (i := 10) (j := 11) rfl rfl ?_)
              rw [← List.map_take]
              refine sl_from1 (i := 10) (j := 11) rfl rfl ?_
              rw [← List.map_drop]
              refine add_lst (by rw [List.length_map, List.length_map]; have := ldr (at_ + 1); omega) ?_
              dsimp only [gdN]
              rw [← List.map_append]
              refine fin _ _ (fun i hi => ?_) ?_ h
              · rcases List.mem_append.mp hi with hi | hi
                · exact i30l i (List.mem_of_mem_take hi)
                · exact i30l i (List.mem_of_mem_drop hi)
              · rw [List.length_append]
                have := ldr (at_ + 1)
                omega
            · have e2 := of_decide_eq_false e2
              have eL : nbL f lot at_ s3 = (toI lot, drawS (drawS s3 4) 3) := (if_neg e).trans (if_neg e2)
              rw [eL] at h
              dsimp only [tdNx]
              exact fin _ _ i30l (by omega) h
    · exact h.elim
end
end Ri

set_option maxRecDepth 100000
set_option maxHeartbeats 2000000
/-! THE LAW'S DEFS, 12: sayings. -/
namespace Ri
open PySem PySem.Spec PyProof.Rows L2 Dl
theorem ch_bd2 {k : Nat} {p g m : Fr} (hp : Bd 10 p.1 ∧ Bd 10 p.2) (hm : BdF k m) : Bd (k + 21) (chAt p g m) := by
  have b1 : Bd (10 + k + 1) (m.1 - p.1 * m.2) := Bd.sub (hm.1.mono (by omega)) (hp.1.mul hm.2)
  have b2 : Bd (10 + (10 + k + 1)) (p.2 * (m.1 - p.1 * m.2)) := hp.2.mul b1
  have b3 : Bd (k + 21) (p.2 * (m.1 - p.1 * m.2)) := b2.mono (by omega)
  unfold chAt
  split
  · exact b3
  · split
    · have : (p.2 * (m.1 - p.1 * m.2)).natAbs < 2 ^ (k + 21) := b3
      show (0 - p.2 * (m.1 - p.1 * m.2)).natAbs < 2 ^ (k + 21)
      omega
    · exact bd0.mono (by omega)
theorem ch_sum {f : Fd} (ok : FdOk f) {k : Nat} {m : Fr} (hm : BdF k m) : ∀ l : List (Fr × Fr), (∀ z ∈ l, z.1 ∈ f.seen) → Bd (k + 21 + l.length) ((l.map fun z => chAt z.1 z.2 m).sum)
  | [], _ => bd0.mono (by omega)
  | z :: l, h => by
    have b := ok.bd _ (h z List.mem_cons_self)
    have h1 := ch_bd2 (g := z.2) ⟨show Bd 10 z.1.1 from (show z.1.1.natAbs < 2 ^ 10 by omega), show Bd 10 z.1.2 from (show z.1.2.natAbs < 2 ^ 10 by omega)⟩ hm
    have h2 := ch_sum ok hm l fun y hy => h y (List.mem_cons_of_mem _ hy)
    rw [List.map_cons, List.sum_cons, List.length_cons, Int.add_comm]
    exact Bd.add h2 (h1.mono (Nat.le_add_right _ _))
theorem charge_bd {f : Fd} (ok : FdOk f) {k : Nat} {m : Fr} (hm : BdF k m) (h0 : 0 < m.2) (gs : List Fr) : Red (chargeL f m gs) ∧ BdF (k + 27) (chargeL f m gs) := by
  rw [charge_eq h0]
  unfold chargeF
  refine ⟨mk_red h0, mk_bd (Int.ne_of_gt h0) ?_ (hm.2.mono (by omega))⟩
  refine (ch_sum ok hm (f.seen.zip gs) fun z hz => (List.of_mem_zip hz).1).mono ?_
  have : (f.seen.zip gs).length ≤ 6 := by
    rw [List.length_zip, ok.len]
    have := ok.n6
    omega
  omega
/-! the model -/
def thereB (f : Fd) (i : Int) : Bool := decide (0 ≤ i) && decide (i < (f.n : Int))
def sgA (f : Fd) (best : List Fr) (s1 : St) : (Str × Say × Bool) × St :=
  let i := drawV s1 (f.n + 2) - 1
  let w := worthF (drawS s1 (f.n + 2)) (if thereB f i then best.getD i.toNat (0, 1) else (0, 1))
  (("guess " ++ sgS i ++ " " ++ w.2.1.1, .guess i w.2.1, thereB f i && decide (w.1 = best.getD i.toNat (0, 1))), w.2.2)
def wsF : List Fr → St → List (Fr × Rf) × St
  | [], s => ([], s)
  | g :: gs, s => (((worthF s g).1, (worthF s g).2.1) :: (wsF gs (worthF s g).2.2).1, (wsF gs (worthF s g).2.2).2)
theorem wsF_n : ∀ {gs : List Fr} {n : Nat} {s : St}, StN (n + 3 * gs.length) s → StN n (wsF gs s).2
  | [], _, _, h => h
  | g :: gs, n, s, h => wsF_n (gs := gs) (worth_n (h.mono (by rw [List.length_cons]; omega)))
def sgB (best : List Fr) (s1 : St) : (Str × Say × Bool) × St :=
  let s2 := (wsF best s1).2
  let l := if drawV s2 8 = 0 then (wsF best s1).1.drop 1 else (wsF best s1).1
  ((Txt.join " " ("table" :: l.map (·.2.1)), .table (l.map (·.2)), decide (l.map (·.1) = best)), drawS s2 8)
def itemsF (f : Fd) (best : List Fr) : List Fr := best ++ f.seen.map (fun p => (p.1, 1)) ++ [(0, 1)]
def sgC (f : Fd) (best : List Fr) (s1 : St) : (Str × Say × Bool) × St :=
  let w1 := worthF (drawS s1 (itemsF f best).length) ((itemsF f best).getD (drawV s1 (itemsF f best).length).toNat (0, 1))
  let due := chargeL f w1.1 best
  let w2 := worthF w1.2.2 due
  (("charge " ++ w1.2.1.1 ++ " " ++ w2.2.1.1, .charge w1.2.1 w2.2.1, decide (w2.1 = due)), w2.2.2)
def sayF (f : Fd) (best : List Fr) (s : St) : (Str × Say × Bool) × St :=
  if drawV s 7 < 4 then numbF f best (drawS s 7) else if drawV s 7 = 4 then sgA f best (drawS s 7) else if drawV s 7 = 5 then sgB best (drawS s 7) else sgC f best (drawS s 7)
theorem sayF_n {n : Nat} {f : Fd} {best : List Fr} {s : St} (hb : best.length ≤ 6) (h : StN (n + 20) s) : StN n (sayF f best s).2 := by
  have h1 : StN (n + 19) (drawS s 7) := drawS_n h
  unfold sayF
  split
  · exact numbF_n (h1.mono (by omega))
  · split
    · exact worth_n (drawS_n (h1.mono (by omega)))
    · split
      · exact drawS_n (wsF_n (h1.mono (by omega)))
      · exact worth_n (worth_n (drawS_n (h1.mono (by omega))))
def wD (z : Fr × Rf) : D := .tup [frD z.1, .str z.2.1]
theorem rf_len {x : Rf} (h : FrOk x) : x.1.length ≤ 63 := by
  obtain ⟨⟨h1, h2⟩, _⟩ := h
  have l1 := (int_back h1).2
  rcases h2 with ⟨e, _⟩ | ⟨e, _, h3⟩
  · rw [e]
    omega
  · have l2 := (int_back h3).2
    rw [e]
    unfold frS
    rw [strLen_append, strLen_append]
    have h3 : (Str.ofString "/").length = 1 := rfl
    rw [h3]
    omega
theorem eq_fr {O : DO} {k : D → Prop} {a b : Fr} (h : k (.bl (decide (a = b)))) : gEq O (frD a) (frD b) k := by
  refine ⟨rfl, rfl, ?_⟩
  show k (.bl (PyData.eqv (toPy (frD a)) (toPy (frD b))))
  rw [eqv_fr]
  exact h
theorem eq_frs {O : DO} {k : D → Prop} {a b : List Fr} (h : k (.bl (decide (a = b)))) : gEq O (.lst (a.map frD)) (.lst (b.map frD)) k := by
  refine ⟨okDs_fr 58 _, okDs_fr 58 _, ?_⟩
  show k (.bl (PyData.eqvAll (toPys (a.map frD)) (toPys (b.map frD))))
  rw [fr_list_eqv]
  exact h
theorem if_v {i : Nat} {env : DEnv} {O : DO} {Q : D → DO → Prop} {ta tb : TD} {b : Bool} (hi : lk env i = some (.bl b)) (h1 : b = true → ta env O Q) (h2 : b = false → tb env O Q) : tdIf (tdT (tdV i)) ta tb env O Q := by
  dsimp only [tdIf]
  exact tt_v hi (iteB_i h1 h2)
theorem sl_c1 {i : Nat} {env : DEnv} {O : DO} {Q : D → DO → Prop} {xs : List D} (hi : lk env i = some (.lst xs)) (h : Q (.lst (xs.drop 1)) O) : tdSl (tdV i) (tdPart (tdC (.int 1))) tdNo env O Q := by
  dsimp only [tdSl, tdNo, tdPart]
  refine v_i hi ?_
  show Q (.lst (cutD xs (some ((1 : Nat) : Int)) none)) O
  rw [cut_from]
  exact h
theorem red01 : Red (0, 1) := ⟨by decide, by decide⟩
theorem bd01 : BdF 1 (0, 1) := ⟨bd0, bd1⟩
theorem lc_worth {p q : Addr} {O0 : DO} (ne : p ≠ q) {e1 e2 e3 e4 e5 e6 e7 e8 e9 e10 e11 e12 e13 e14 e15 : Option D} {Q : List D → DO → Prop} : ∀ (gs : List Fr) (s : St) (acc : List D), StN (3 * gs.length) s → (∀ g ∈ gs, Red g ∧ BdF 30 g) → Q (acc ++ (wsF gs s).1.map wD) (setS O0 p q (wsF gs s).2) → lcD (gdN 13) tdYes (tdCall gLWorth (tdCons (tdV 0) (tdCons (tdV 13) tdNil))) [some (.ptr p), e1, e2, e3, e4, e5, e6, e7, e8, e9, e10, e11, e12, e13, e14, e15] (gs.map frD) acc (setS O0 p q s) Q
  | [], s, acc, _, _, h => by
    have h : Q (acc ++ []) (setS O0 p q s) := h
    rw [List.append_nil] at h
    exact h
  | g :: gs, s, acc, hs, hg, h => by
    have hs2 : StN (3 * gs.length + 3) s := hs.mono (by rw [List.length_cons]; omega)
    obtain ⟨r, b⟩ := hg g List.mem_cons_self
    refine (show tdCall gLWorth (tdCons (tdV 0) (tdCons (tdV 13) tdNil)) [some (.ptr p), e1, e2, e3, e4, e5, e6, e7, e8, e9, e10, e11, e12, some (frD g), e14, e15] (setS O0 p q s) (fun y O3 => lcD (gdN 13) tdYes (tdCall gLWorth (tdCons (tdV 0) (tdCons (tdV 13) tdNil))) [some (.ptr p), e1, e2, e3, e4, e5, e6, e7, e8, e9, e10, e11, e12, e13, e14, e15] (gs.map frD) (acc ++ [y]) O3 Q) from ?_)
    refine call2_v (i := 0) (j := 13) rfl rfl ⟨O0, q, s, g, ne, rfl, hs2.mono (by omega), rfl, r, b.mono (by decide), ?_⟩
    refine lc_worth ne gs (worthF s g).2.2 (acc ++ [wD ((worthF s g).1, (worthF s g).2.1)]) (worth_n hs2) (fun x hx => hg x (List.mem_cons_of_mem _ hx)) ?_
    rw [List.append_assoc]
    exact h
theorem wsF_ok : ∀ (gs : List Fr) (s : St), (∀ g ∈ gs, Red g ∧ BdF 30 g) → ∀ z ∈ (wsF gs s).1, FrOk z.2 ∧ mkR z.2 = z.1
  | [], _, _, z, hz => by simp [wsF] at hz
  | g :: gs, s, hg, z, hz => by
    rcases List.mem_cons.mp hz with rfl | hz
    · obtain ⟨r, b⟩ := hg g List.mem_cons_self
      exact worth_ok r (b.mono (by decide))
    · exact wsF_ok gs _ (fun x hx => hg x (List.mem_cons_of_mem _ hx)) z hz
theorem wsF_len : ∀ (gs : List Fr) (s : St), (wsF gs s).1.length = gs.length
  | [], _ => rfl
  | g :: gs, s => by
    show (wsF gs _).1.length + 1 = gs.length + 1
    rw [wsF_len gs]
theorem items_ok {f : Fd} (ok : FdOk f) {best : List Fr} (hbb : ∀ g ∈ best, Red g ∧ BdF 30 g) : ∀ g ∈ itemsF f best, Red g ∧ BdF 30 g := by
  intro g hg
  unfold itemsF at hg
  rcases List.mem_append.mp hg with hg | hg
  · rcases List.mem_append.mp hg with hg | hg
    · exact hbb g hg
    · obtain ⟨p, hp, rfl⟩ := List.mem_map.mp hg
      have b := ok.bd p hp
      exact ⟨⟨Int.zero_lt_one, Int.gcd_one_right _⟩, (show Bd 30 p.1 from (show p.1.natAbs < 2 ^ 30 by omega)), bd1.mono (by decide)⟩
  · have : g = (0, 1) := by simpa using hg
    subst this
    exact ⟨red01, bd01.mono (by decide)⟩
section
variable {w : World} {K : PySem.W.Frag} {mg : Str → Option Value} {base : Heap} {aI aF aL aC cT_ pT : Addr}
def gLSaying : GC := fun ds O Q => match ds with
  | [.ptr p, fd, bd] => ∃ O0 q s f best, p ≠ q ∧ O = setS O0 p q s ∧ StN 20 s ∧ fd = fdD f ∧ FdOk f ∧ bd = D.tup (List.map frD best) ∧ best.length = f.n ∧ (∀ g ∈ best, Red g ∧ BdF 30 g) ∧ Q (sayQ (sayF f best s)) (setS O0 p q (sayF f best s).2)
  | _ => False
theorem k_law_saying (c : Hd w K mg base aI aF aL aC cT_ pT) : Dl.Def prog w K mg base 5 "_law_saying" ["_law_state", "_law_field_so", "_law_best_here"] gLSaying := by
  have k_law_draw := k_law_draw c
  have k_law_of := k_law_of c
  have k_law_numbered := k_law_numbered c
  have k_law_worth := k_law_worth c
  have k_law_charge := k_law_charge c
  have S : FnScope ["_law_state", "_law_field_so", "_law_best_here", "_law_size", "_law_choice", "_law_spot", "_law_there", "_law_here", "_law_word", "_law_pairs", "_law_at", "_law_due", "_law_far", "_law_guess_here", "_law_one", "_law_heft"] ["_law_state", "_law_field_so", "_law_best_here"] (defScope s_law_saying) := C8.fnScope_by (by kernel_rfl)
  have hN := S.nd
  refine def_ok c.f_law_saying S (fun _ _ _ _ _ _ us hl => match us, hl with | [_, _, _], _ => rfl) (fun ds O R h => ?_) fun f cdv A outer s H E hr => ⟨_, have hu := room64 hr; have hu5 := room65 hr; have hu1 := room1 hr; (s_cons (s_par2 3 4 rfl hN (a_cons (d_ix (dv 1) d_int) (a_cons (d_call k_law_draw hr (by decide) (a_cons (dv 0) (a_cons d_int a_nil))) a_nil)))
  (s_cons (s_if (t_cmp o_lt (dv 4) d_int)
  (s_one (s_ret (d_call k_law_numbered hr (by decide) (a_cons (dv 0) (a_cons (dv 1) (a_cons (dv 2) a_nil))))))
  s_nil)
  (s_cons (s_if (t_cmp (o_eq hu) (dv 4) d_int)
  (s_cons (s_set 5 hN (d_op o_sub (d_call k_law_draw hr (by decide) (a_cons (dv 0) (a_cons (d_op o_add (dv 3) d_int) a_nil))) d_int))
  (s_cons (s_set 6 hN (d_chain o_le o_lt d_int (dv 5) (dv 3)))
  (s_cons (s_asg (d_call k_law_worth hr (by decide) (a_cons (dv 0) (a_cons (d_if (t_val (dv 6)) (d_ix (dv 2) (dv 5)) (d_tup (a_cons d_int (a_cons d_int a_nil)))) a_nil))) (g_tup (n := 2) rfl (gs_cons (g_name 7 hN) (gs_cons (g_name 8 hN) gs_nil))))
  (s_one (s_ret (d_tup (a_cons (d_op o_add (d_op o_add (d_op o_add d_str (d_callTy c_str c.m_str bt_str (a_cons (dv 5) a_nil))) d_str) (dv 8)) (a_cons (d_and (dv 6) (d_one (d_cmp (o_eq hu) (dv 7) (d_ix (dv 2) (dv 5))))) a_nil))))))))
  s_nil)
  (s_cons (s_if (t_cmp (o_eq hu) (dv 4) d_int)
  (s_cons (s_setLc 9 rfl hN (sw_true rfl rfl rfl rfl) (i_seq (dv 2)) (blkOk_by (own := [("_law_guess_here", 13)]) (by kernel_rfl)) (fun _ _ _ _ _ => (g_name 13 hN)) (fun _ _ _ _ _ => ts_nil) (fun _ _ _ _ _ => (d_call k_law_worth hr (by decide) (a_cons (dv 0) (a_cons (dv 13) a_nil)))))
  (s_cons (s_set 9 hN (d_if (t_cmp (o_eq hu) (d_call k_law_draw hr (by decide) (a_cons (dv 0) (a_cons d_int a_nil))) d_int) (d_sl (dv 9) (p_at d_int) p_no) (dv 9)))
  (s_one (s_ret (d_tup (a_cons (d_join d_str (d_op o_add (d_lst (a_cons d_str a_nil)) (d_lc rfl hN (i_seq (dv 9)) (blkOk_by (own := [("_law_here", 7), ("_law_word", 8)]) (by kernel_rfl)) (fun _ _ _ _ _ => (g_tup (n := 2) rfl (gs_cons (g_name 7 hN) (gs_cons (g_name 8 hN) gs_nil)))) (fun _ _ _ _ _ => ts_nil) (fun _ _ _ _ _ => (dv 8))))) (a_cons (d_cmp (o_eq hu) (d_lc rfl hN (i_seq (dv 9)) (blkOk_by (own := [("_law_here", 7), ("_law_word", 8)]) (by kernel_rfl)) (fun _ _ _ _ _ => (g_tup (n := 2) rfl (gs_cons (g_name 7 hN) (gs_cons (g_name 8 hN) gs_nil)))) (fun _ _ _ _ _ => ts_nil) (fun _ _ _ _ _ => (dv 7))) (d_callTy c_list c.m_list bt_list (a_cons (dv 2) a_nil))) a_nil)))))))
  s_nil)
  (s_cons (s_asg (d_call k_law_worth hr (by decide) (a_cons (dv 0) (a_cons (d_call k_law_of hr (by decide) (a_cons (dv 0) (a_cons (d_op o_add (d_op o_add (d_callTy c_list c.m_list bt_list (a_cons (dv 2) a_nil)) (d_lc rfl hN (i_seq (d_ix (dv 1) d_int)) (blkOk_by (own := [("_law_one", 14), ("_law_heft", 15)]) (by kernel_rfl)) (fun _ _ _ _ _ => (g_tup (n := 2) rfl (gs_cons (g_name 14 hN) (gs_cons (g_name 15 hN) gs_nil)))) (fun _ _ _ _ _ => ts_nil) (fun _ _ _ _ _ => (d_tup (a_cons (dv 14) (a_cons d_int a_nil)))))) (d_lst (a_cons (d_tup (a_cons d_int (a_cons d_int a_nil))) a_nil))) a_nil))) a_nil))) (g_tup (n := 2) rfl (gs_cons (g_name 10 hN) (gs_cons (g_name 8 hN) gs_nil))))
  (s_cons (s_set 11 hN (d_call k_law_charge hr (by decide) (a_cons (dv 1) (a_cons (dv 10) (a_cons (dv 2) a_nil)))))
  (s_cons (s_asg (d_call k_law_worth hr (by decide) (a_cons (dv 0) (a_cons (dv 11) a_nil))) (g_tup (n := 2) rfl (gs_cons (g_name 7 hN) (gs_cons (g_name 12 hN) gs_nil))))
  (s_one (s_ret (d_tup (a_cons (d_op o_add (d_op o_add (d_op o_add d_str (dv 8)) d_str) (dv 12)) (a_cons (d_cmp (o_eq hu) (dv 7) (dv 11)) a_nil)))))))))))), fun ds O R h => ?_⟩
  · unfold gLSaying at h
    split at h <;> first | rfl | exact h.elim
  · unfold gLSaying at h
    split at h
    · rename_i p fd bd
      obtain ⟨O0, q, s, f, best, ne, rfl, hs, rfl, ok, rfl, hbl, hbb, h⟩ := h
      have n6 := ok.n6
      obtain ⟨a1, a2⟩ := drawV_bd (s := s) (m := 7) (by decide)
      have hs1 : StN 19 (drawS s 7) := drawS_n hs
      dsimp only [tdSeq, tdPar2]
      refine cons_v (op_l (v_i (i := 1) rfl (c_v (ix_tup (n := 0) rfl ?_))))
      refine cons_v (draw_c (i := 0) 7 rfl ne (hs.mono (by decide)) (by decide) (smn (by decide)) ?_)
      refine (show tdIfS (tdT (tdOp gLt (tdV 4) (tdC (.int 4)))) _ tdNx _ [some (.ptr p), some (fdD f), some (.tup (best.map frD)), some (.int (f.n : Int)), some (.int (drawV s 7)), none, none, none, none, none, none, none, none, none, none, none] (setS O0 p q (drawS s 7)) from ?_)
      by_cases c4 : drawV s 7 < 4
      · have eA : sayF f best s = numbF f best (drawS s 7) := if_pos c4
        rw [eA] at h
        refine ifS_t (fun Q' q' => lt_t (i := 4) rfl (by rw [decide_eq_true c4]; exact q')) ?_
        exact ⟨O0, q, _, f, best, ne, rfl, hs1.mono (by decide), rfl, ok, rfl, by omega, Fin.i h⟩
      · refine ifS_f (fun Q' q' => lt_t (i := 4) rfl (by rw [decide_eq_false c4]; exact q')) ?_
        dsimp only [tdNx, tdSeq]
        by_cases c5 : drawV s 7 = 4
        · have eA : sayF f best s = sgA f best (drawS s 7) := (if_neg c4).trans (if_pos c5)
          rw [eA] at h
          refine ifS_t (fun Q' q' => eq_t (i := 4) rfl (by rw [decide_eq_true c5]; exact q')) ?_
          dsimp only [tdSeq, tdAsg]
          obtain ⟨b1, b2⟩ := drawV_bd (s := drawS s 7) (m := (f.n : Int) + 2) (by omega)
          refine op_l (call_v (cons_v (v_i (i := 0) rfl (cons_v (op_l (v_i (i := 3) rfl (c_v ?_)))))))
          refine ⟨O0, q, _, ne, rfl, hs1.mono (by decide), (by omega : (0 : Int) < (f.n : Int) + 2), smn (by omega), ?_⟩
          have hs2 : StN 18 (drawS (drawS s 7) (f.n + 2)) := drawS_n hs1
          unfold sgA at h
          dsimp only at h
          have i1 : I30 (drawV (drawS s 7) (f.n + 2) - 1) := i30_small (by omega)
          have l1 := (int_back i1).2
          have hspot : ∀ i : Int, thereB f i = true → i = ((i.toNat : Nat) : Int) ∧ i.toNat < best.length := by
            intro i hi
            unfold thereB at hi
            rw [Bool.and_eq_true, decide_eq_true_iff, decide_eq_true_iff] at hi
            rw [hbl]
            omega
          refine (show tdChain gLe gLt (tdC (.int 0)) (tdV 5) (tdV 3) [some (.ptr p), some (fdD f), some (.tup (best.map frD)), some (.int (f.n : Int)), some (.int (drawV s 7)), some (.int (drawV (drawS s 7) (f.n + 2) - 1)), none, none, none, none, none, none, none, none, none, none] (setS O0 p q (drawS (drawS s 7) (f.n + 2))) _ from ?_)
          generalize drawV (drawS s 7) (f.n + 2) - 1 = i at h i1 l1
          generalize drawS (drawS s 7) (f.n + 2) = s2 at h hs2
          generalize hdue : (if thereB f i then best.getD i.toNat (0, 1) else (0, 1)) = due at h
          have dd : Red due ∧ BdF 30 due := by
            subst hdue
            split
            · rename_i ht
              have := (hspot i ht).2
              refine hbb _ ?_
              rw [List.getD_eq_getElem?_getD, List.getElem?_eq_getElem this]
              exact List.getElem_mem _
            · exact ⟨red01, bd01.mono (by decide)⟩
          obtain ⟨wok, _⟩ := worth_ok (s := s2) dd.1 (dd.2.mono (by decide))
          have wl := rf_len wok
          have tail : tdSeq (tdAsg (tdCall gLWorth (tdCons (tdV 0) (tdCons (tdIf (tdT (tdV 6)) (tdOp gIx (tdV 2) (tdV 5)) (tdTup (tdCons (tdC (.int 0)) (tdCons (tdC (.int 1)) tdNil)))) tdNil))) (gdT 2 (gdCons (gdN 7) (gdCons (gdN 8) gdNil)))) (tdRet (tdTup (tdCons (tdOp gAdd (tdOp gAdd (tdOp gAdd (tdC (.str "guess ")) (tdCall gStr (tdCons (tdV 5) tdNil))) (tdC (.str " "))) (tdV 8)) (tdCons (tdAndV (tdV 6) (tdOp gEq (tdV 7) (tdOp gIx (tdV 2) (tdV 5)))) tdNil)))) { nx := fun _ O' => Dl.Fin R .non O', rt := Dl.Fin R } [some (.ptr p), some (fdD f), some (.tup (best.map frD)), some (.int (f.n : Int)), some (.int (drawV s 7)), some (.int i), some (.bl (thereB f i)), none, none, none, none, none, none, none, none, none] (setS O0 p q s2) := by
            have bat : thereB f i = true → (best.map frD)[i.toNat]? = some (frD (best.getD i.toNat (0, 1))) := fun ht => by
              have := (hspot i ht).2
              rw [List.getElem?_map, List.getD_eq_getElem?_getD, List.getElem?_eq_getElem this]
              rfl
            dsimp only [tdSeq, tdAsg]
            refine call_v (cons_v (v_i (i := 0) rfl (cons_v (if_v (i := 6) (b := thereB f i) rfl (fun ht => ?_) (fun ht => ?_)))))
            · refine op_vv (i := 2) (j := 5) (x := .tup (best.map frD)) (y := .int ((i.toNat : Nat) : Int)) rfl (by rw [← (hspot i ht).1]; rfl) (ix_tup (bat ht) ?_)
              rw [if_pos ht] at hdue
              rw [hdue]
              refine nil_v ⟨O0, q, s2, due, ne, rfl, hs2.mono (by decide), rfl, dd.1, dd.2.mono (by decide), ?_⟩
              dsimp only [gdT, gdCons, gdN, gdNil]
              refine needB_i rfl ?_
              dsimp only [tdRet, tdTup]
              refine cons_v (op_l (op_l (op_l (c_v (call1_v (i := 5) rfl (str_v i1 (add_str ?_ (c_v (add_str ?_ (v_i (i := 8) rfl (add_str ?_ ?_)))))))))))
              · exact Nat.le_trans (Nat.add_le_add (show (Str.ofString "guess ").length ≤ 10 by decide) l1) (by decide)
              · rw [strLen_append]
                exact Nat.le_trans (Nat.add_le_add (Nat.add_le_add (show (Str.ofString "guess ").length ≤ 10 by decide) l1) (show (Str.ofString " ").length ≤ 10 by decide)) (by decide)
              · rw [strLen_append, strLen_append]
                exact Nat.le_trans (Nat.add_le_add (Nat.add_le_add (Nat.add_le_add (show (Str.ofString "guess ").length ≤ 10 by decide) l1) (show (Str.ofString " ").length ≤ 10 by decide)) wl) (by decide)
              · refine cons_v (and_l (v_i (i := 6) rfl ⟨thereB f i, rfl, fun _ => ?_, fun e => by rw [ht] at e; cases e⟩))
                refine op_l (v_i (i := 7) rfl ?_)
                refine op_vv (i := 2) (j := 5) (x := .tup (best.map frD)) (y := .int ((i.toNat : Nat) : Int)) rfl (by rw [← (hspot i ht).1]; rfl) (ix_tup (bat ht) ?_)
                refine eq_fr ?_
                rw [ht, Bool.true_and] at h
                exact nil_v (needB_i rfl (Fin.i h))
            · refine cons_v (c_v (cons_v (c_v (nil_v (needB_i rfl ?_)))))
              rw [if_neg (by rw [ht]; decide)] at hdue
              subst hdue
              refine nil_v ⟨O0, q, s2, (0, 1), ne, rfl, hs2.mono (by decide), rfl, dd.1, dd.2.mono (by decide), ?_⟩
              dsimp only [gdT, gdCons, gdN, gdNil]
              refine needB_i rfl ?_
              dsimp only [tdRet, tdTup]
              refine cons_v (op_l (op_l (op_l (c_v (call1_v (i := 5) rfl (str_v i1 (add_str ?_ (c_v (add_str ?_ (v_i (i := 8) rfl (add_str ?_ ?_)))))))))))
              · exact Nat.le_trans (Nat.add_le_add (show (Str.ofString "guess ").length ≤ 10 by decide) l1) (by decide)
              · rw [strLen_append]
                exact Nat.le_trans (Nat.add_le_add (Nat.add_le_add (show (Str.ofString "guess ").length ≤ 10 by decide) l1) (show (Str.ofString " ").length ≤ 10 by decide)) (by decide)
              · rw [strLen_append, strLen_append]
                exact Nat.le_trans (Nat.add_le_add (Nat.add_le_add (Nat.add_le_add (show (Str.ofString "guess ").length ≤ 10 by decide) l1) (show (Str.ofString " ").length ≤ 10 by decide)) wl) (by decide)
              · refine cons_v (and_l (v_i (i := 6) rfl ⟨thereB f i, rfl, (fun e => by rw [ht] at e; cases e), fun _ => ?_⟩))
                rw [ht, Bool.false_and] at h
                exact nil_v (needB_i rfl (Fin.i h))
          refine chain_l (c_v (v_i (i := 5) rfl ?_))
          refine ⟨decide (0 ≤ i), rfl, fun e => ?_, fun e => ?_⟩
          · refine v_i (i := 3) rfl ?_
            have et : thereB f i = decide (i < (f.n : Int)) := by
              unfold thereB
              rw [e, Bool.true_and]
            rw [et] at tail
            exact tail
          · have et : thereB f i = false := by
              unfold thereB
              rw [e, Bool.false_and]
            rw [et] at tail
            exact tail
        · refine ifS_f (fun Q' q' => eq_t (i := 4) rfl (by rw [decide_eq_false c5]; exact q')) ?_
          dsimp only [tdNx, tdSeq]
          by_cases c6 : drawV s 7 = 5
          · have eA : sayF f best s = sgB best (drawS s 7) := (if_neg c4).trans ((if_neg c5).trans (if_pos c6))
            rw [eA] at h
            refine ifS_t (fun Q' q' => eq_t (i := 4) rfl (by rw [decide_eq_true c6]; exact q')) ?_
            dsimp only [tdSeq, tdAsg, tdLc, tiSeq]
            refine v_i (i := 2) rfl ?_
            refine lc_worth ne best (drawS s 7) [] (hs1.mono (by omega)) hbb ?_
            rw [List.nil_append]
            unfold sgB at h
            dsimp only at h
            have hs2 : StN 1 (wsF best (drawS s 7)).2 := wsF_n (hs1.mono (by omega))
            have wok := wsF_ok best (drawS s 7) hbb
            have wln := wsF_len best (drawS s 7)
            generalize (wsF best (drawS s 7)).1 = l0 at h wok wln
            generalize (wsF best (drawS s 7)).2 = s2 at h hs2
            have fin : ∀ l : List (Fr × Rf), (∀ z ∈ l, FrOk z.2) → l.length ≤ 6 → R (.tup [.str (Txt.join " " ("table" :: l.map (·.2.1))), .bl (decide (l.map (·.1) = best))]) (setS O0 p q (drawS s2 8)) → tdRet (tdTup (tdCons (tdJoin (tdC (.str " ")) (tdOp gAdd (tdLst (tdCons (tdC (.str "table")) tdNil)) (tdLc (tiSeq (tdV 9)) (gdT 2 (gdCons (gdN 7) (gdCons (gdN 8) gdNil))) tdYes (tdV 8) [7, 8]))) (tdCons (tdOp gEq (tdLc (tiSeq (tdV 9)) (gdT 2 (gdCons (gdN 7) (gdCons (gdN 8) gdNil))) tdYes (tdV 7) [7, 8]) (tdCall gList (tdCons (tdV 2) tdNil))) tdNil))) { nx := fun _ O' => Dl.Fin R .non O', rt := Dl.Fin R } [some (.ptr p), some (fdD f), some (.tup (best.map frD)), some (.int (f.n : Int)), some (.int (drawV s 7)), none, none, none, none, some (.lst (l.map wD)), none, none, none, none, none, none] (setS O0 p q (drawS s2 8)) := by
              intro l hl hln hr
              dsimp only [tdRet, tdTup]
              refine cons_v (join_v (op_l ?_))
              dsimp only [tdLst]
              refine cons_v (c_v (nil_v (needB_i rfl ?_)))
              dsimp only [tdLc, tiSeq]
              refine v_i (i := 9) rfl ?_
              refine lcD_map l wD (fun z => .str z.2.1) (fun z hz K1 k1 => ?_) ?_
              · dsimp only [gdT, gdCons, gdN, gdNil, wD]
                exact needB_i rfl (v_i (i := 8) rfl k1)
              · refine add_lst (by rw [List.length_map]; show 1 + l.length ≤ _; omega) ?_
                refine ⟨"table" :: l.map (·.2.1), by rw [List.map_cons, List.map_map]; rfl, ?_, ?_⟩
                · have hsum : ∀ (l : List (Fr × Rf)), (∀ z ∈ l, FrOk z.2) → ((l.map (·.2.1)).map (·.length)).sum ≤ 63 * l.length := by
                    intro l
                    induction l with
                    | nil => intro _; exact Nat.le_refl _
                    | cons x l ih =>
                      intro hx
                      have h1 := rf_len (hx x List.mem_cons_self)
                      have h2 := ih fun i hi => hx i (List.mem_cons_of_mem _ hi)
                      rw [List.map_cons, List.map_cons, List.sum_cons, List.length_cons]
                      omega
                  have h1 := hsum l hl
                  rw [List.map_cons, List.sum_cons, List.length_cons, List.length_map]
                  have h2 : (Str.ofString "table").length = 5 := rfl
                  have h3 : (Str.ofString " ").length = 1 := rfl
                  rw [h2, h3]
                  omega
                · refine cons_v (op_l ?_)
                  dsimp only [tdLc, tiSeq]
                  refine v_i (i := 9) rfl ?_
                  refine lcD_map l wD (fun z => frD z.1) (fun z hz K1 k1 => ?_) ?_
                  · dsimp only [gdT, gdCons, gdN, gdNil, wD]
                    exact needB_i rfl (v_i (i := 7) rfl k1)
                  · refine call1_v (i := 2) rfl (list_tup ?_)
                    have e : l.map (fun z => frD z.1) = (l.map (·.1)).map frD := by
                      rw [List.map_map]
                      rfl
                    rw [e]
                    refine eq_frs ?_
                    exact nil_v (needB_i rfl (Fin.i hr))
            dsimp only [gdN, tdIf]
            refine tt_l (op_l (draw_c (i := 0) 8 rfl ne hs2 (by decide) (smn (by decide)) (c_v ?_)))
            refine iteB_i (c := decide (drawV s2 8 = 0)) (fun e => ?_) (fun e => ?_)
            · rw [if_pos (of_decide_eq_true e)] at h
              refine sl_c1 (i := 9) rfl ?_
              rw [← List.map_drop]
              exact fin (l0.drop 1) (fun z hz => (wok z (List.mem_of_mem_drop hz)).1) (by rw [List.length_drop]; omega) h
            · rw [if_neg (of_decide_eq_false e)] at h
              refine v_i (i := 9) rfl ?_
              exact fin l0 (fun z hz => (wok z hz).1) (by omega) h
          · have eA : sayF f best s = sgC f best (drawS s 7) := (if_neg c4).trans ((if_neg c5).trans (if_neg c6))
            rw [eA] at h
            refine ifS_f (fun Q' q' => eq_t (i := 4) rfl (by rw [decide_eq_false c6]; exact q')) ?_
            unfold sgC at h
            dsimp only at h
            dsimp only [tdNx, tdSeq, tdAsg]
            have iok := items_ok ok hbb
            have iln : (itemsF f best).length ≤ 13 ∧ 0 < (itemsF f best).length := by
              unfold itemsF
              rw [List.length_append, List.length_append, List.length_map, ok.len, hbl]
              show f.n + f.n + 1 ≤ 13 ∧ 0 < f.n + f.n + 1
              omega
            refine call_v (cons_v (v_i (i := 0) rfl (cons_v (call_v (cons_v (v_i (i := 0) rfl (cons_v (op_l (op_l (call1_v (i := 2) rfl (list_tup ?_)))))))))))
            dsimp only [tdLc, tiSeq]
            refine op_l (v_i (i := 1) rfl (c_v (ix_tup (n := 2) rfl ?_)))
            refine lcD_map f.seen frD (fun p => frD (p.1, 1)) (fun z hz K1 k1 => ?_) ?_
            · dsimp only [gdT, gdCons, gdN, gdNil, frD]
              refine needB_i rfl ?_
              dsimp only [tdTup]
              exact cons_v (v_i (i := 14) rfl (cons_v (c_v (nil_v (needB_i rfl k1)))))
            · refine add_lst (by rw [List.length_map, List.length_map, ok.len]; omega) ?_
              dsimp only [tdLst]
              refine cons_v (cons_v (c_v (cons_v (c_v (nil_v (needB_i rfl (nil_v (needB_i rfl ?_))))))))
              refine add_lst (by rw [List.length_append, List.length_map, List.length_map, ok.len]; show _ + 1 ≤ _; omega) ?_
              have ei : best.map frD ++ f.seen.map (fun p => frD (p.1, 1)) ++ [D.tup [.int 0, .int 1]] = (itemsF f best).map frD := by
                unfold itemsF
                rw [List.map_append, List.map_append, List.map_map]
                rfl
              rw [ei]
              refine nil_v (pick_l ne (hs1.mono (by decide)) (by rw [List.length_map]; omega) (by rw [List.length_map]; omega) ?_)
              rw [List.length_map]
              obtain ⟨d1, d2⟩ := drawV_bd (s := drawS s 7) (m := ((itemsF f best).length : Int)) (by omega)
              have eg : ((itemsF f best).map frD).getD (drawV (drawS s 7) (itemsF f best).length).toNat .non = frD ((itemsF f best).getD (drawV (drawS s 7) (itemsF f best).length).toNat (0, 1)) := by
                rw [List.getD_eq_getElem?_getD, List.getElem?_map, List.getD_eq_getElem?_getD, List.getElem?_eq_getElem (by omega)]
                rfl
              rw [eg]
              have hpk : (itemsF f best).getD (drawV (drawS s 7) (itemsF f best).length).toNat (0, 1) ∈ itemsF f best := by
                rw [List.getD_eq_getElem?_getD, List.getElem?_eq_getElem (by omega)]
                exact List.getElem_mem _
              obtain ⟨pr, pb⟩ := iok _ hpk
              have hs2 : StN 18 (drawS (drawS s 7) (itemsF f best).length) := drawS_n hs1
              generalize (itemsF f best).getD (drawV (drawS s 7) (itemsF f best).length).toNat (0, 1) = pk at h pr pb
              generalize drawS (drawS s 7) (itemsF f best).length = s2 at h hs2
              refine nil_v ⟨O0, q, s2, pk, ne, rfl, hs2.mono (by decide), rfl, pr, pb.mono (by decide), ?_⟩
              obtain ⟨w1r, w1b⟩ := worth_bd (s := s2) pr pb
              obtain ⟨w1ok, _⟩ := worth_ok (s := s2) pr (pb.mono (by decide))
              have wl1 := rf_len w1ok
              have hs3 : StN 15 (worthF s2 pk).2.2 := worth_n hs2
              obtain ⟨cr, cb⟩ := charge_bd ok w1b w1r.pos best
              generalize (worthF s2 pk).1 = m at h w1r w1b cr cb
              generalize (worthF s2 pk).2.1 = rf1 at h w1ok wl1
              generalize (worthF s2 pk).2.2 = s3 at h hs3
              dsimp only [gdT, gdCons, gdN, gdNil]
              refine needB_i rfl ?_
              refine call_v (cons_v (v_i (i := 1) rfl (cons_v (v_i (i := 10) rfl (cons_v (v_i (i := 2) rfl (nil_v ?_)))))))
              refine ⟨f, m, best, ok, rfl, rfl, rfl, fun g hg => (hbb g hg).2.mono (by decide), w1b.mono (by decide), w1r.pos, ?_⟩
              generalize chargeL f m best = due at h cr cb
              dsimp only [gdN, tdSeq, tdAsg]
              refine call2_v (i := 0) (j := 11) rfl rfl ⟨O0, q, s3, due, ne, rfl, hs3.mono (by decide), rfl, cr, cb.mono (by decide), ?_⟩
              obtain ⟨w2ok, _⟩ := worth_ok (s := s3) cr (cb.mono (by decide))
              have wl2 := rf_len w2ok
              dsimp only [gdT, gdCons, gdN, gdNil]
              refine needB_i rfl ?_
              dsimp only [tdRet, tdTup]
              refine cons_v (op_l (op_l (op_l (c_v (v_i (i := 8) rfl (add_str ?_ (c_v (add_str ?_ (v_i (i := 12) rfl (add_str ?_ ?_))))))))))
              · exact Nat.le_trans (Nat.add_le_add (show (Str.ofString "charge ").length ≤ 10 by decide) wl1) (by decide)
              · rw [strLen_append]
                exact Nat.le_trans (Nat.add_le_add (Nat.add_le_add (show (Str.ofString "charge ").length ≤ 10 by decide) wl1) (show (Str.ofString " ").length ≤ 10 by decide)) (by decide)
              · rw [strLen_append, strLen_append]
                exact Nat.le_trans (Nat.add_le_add (Nat.add_le_add (Nat.add_le_add (show (Str.ofString "charge ").length ≤ 10 by decide) wl1) (show (Str.ofString " ").length ≤ 10 by decide)) wl2) (by decide)
              · refine cons_v (op_l (v_i (i := 7) rfl (v_i (i := 11) rfl (eq_fr ?_))))
                exact nil_v (needB_i rfl (Fin.i h))
    · exact h.elim
end
end Ri

set_option maxRecDepth 100000
set_option maxHeartbeats 2000000
/-! PLAIN, 6: the fields of drawn terms are good. -/
namespace Ri
open PySem PySem.Spec PyProof.Rows L2 Dl
theorem mem_shf {n : Nat} {l : List (Nat × Nat)} {p : Nat × Nat} : p ∈ shf n l ↔ ∃ q ∈ l, p = (q.1 + n, q.2 + n) := by
  unfold shf
  rw [List.mem_map]
  exact ⟨fun ⟨q, h, e⟩ => ⟨q, h, e.symm⟩, fun ⟨q, h, e⟩ => ⟨q, h, e.symm⟩⟩
theorem mem_crs {a b i : Nat} {p : Nat × Nat} : p ∈ crsTo a b i ↔ p.1 < i ∧ a ≤ p.2 ∧ p.2 < a + b := by
  unfold crsTo
  rw [List.mem_flatMap]
  constructor
  · rintro ⟨k, hk, h⟩
    obtain ⟨j, hj, rfl⟩ := List.mem_map.mp h
    have h1 := List.mem_range.mp hk
    have h2 := List.mem_range.mp hj
    exact ⟨h1, by show a ≤ j + a; omega, by show j + a < a + b; omega⟩
  · rintro ⟨h1, h2, h3⟩
    refine ⟨p.1, List.mem_range.mpr h1, List.mem_map.mpr ⟨p.2 - a, List.mem_range.mpr (by omega), ?_⟩⟩
    exact Prod.ext rfl (by show p.2 - a + a = p.2; omega)
theorem crs_nodup (a b : Nat) : ∀ i, (crsTo a b i).Nodup
  | 0 => List.nodup_nil
  | i + 1 => by
    rw [crs_succ]
    refine List.nodup_append.mpr ⟨crs_nodup a b i, List.pairwise_map.mpr (List.nodup_range.imp ?_), fun x hx y hy e => ?_⟩
    · intro x y h e
      have := congrArg Prod.snd e
      simp only at this
      exact h (by omega)
    · obtain ⟨j, _, rfl⟩ := List.mem_map.mp hy
      have := (mem_crs.mp hx).1
      rw [e] at this
      exact Nat.lt_irrefl _ this
theorem mem_laid {a b : Fd} {u : Bool} {p : Nat × Nat} : p ∈ (laidF a b u).ties ↔ p ∈ a.ties ∨ (∃ q ∈ b.ties, p = (q.1 + a.n, q.2 + a.n)) ∨ (u = true ∧ p.1 < a.n ∧ a.n ≤ p.2 ∧ p.2 < a.n + b.n) := by
  show p ∈ sortP _ ↔ _
  rw [(sortP_perm _).mem_iff, List.mem_append, List.mem_append, mem_shf, or_assoc]
  refine or_congr Iff.rfl (or_congr Iff.rfl ?_)
  cases u with
  | false => simp
  | true =>
    rw [if_pos rfl, mem_crs]
    simp
theorem laid_ok {a b : Fd} {u : Bool} (ha : FdOk a) (hb : FdOk b) (h6 : a.n + b.n ≤ 6) : FdOk (laidF a b u) := by
  refine ⟨h6, ?_, fun p hp => ?_, ?_, fun x y z h1 h2 => ?_, fun x h => ?_, fun p hp => ?_⟩
  · show (a.seen ++ b.seen).length = a.n + b.n
    rw [List.length_append, ha.len, hb.len]
  · show p.1 < a.n + b.n ∧ p.2 < a.n + b.n
    rcases mem_laid.mp hp with h | ⟨q, h, rfl⟩ | ⟨_, h1, h2, h3⟩
    · have := ha.lt p h
      omega
    · have := hb.lt q h
      show q.1 + a.n < _ ∧ q.2 + a.n < _
      omega
    · omega
  · show (sortP _).Nodup
    refine ((sortP_perm _).nodup_iff).mpr ?_
    have n1 : (shf a.n b.ties).Nodup := List.pairwise_map.mpr (hb.nd.imp fun {x y} h e => h (by
      have e1 := congrArg Prod.fst e
      have e2 := congrArg Prod.snd e
      simp only at e1 e2
      exact Prod.ext (by omega) (by omega)))
    have n2 : (a.ties ++ shf a.n b.ties).Nodup := List.nodup_append.mpr ⟨ha.nd, n1, fun x hx y hy e => by
      obtain ⟨q, hq, rfl⟩ := mem_shf.mp hy
      subst e
      have := (ha.lt _ hx).1
      simp only at this
      omega⟩
    cases u with
    | false =>
      rw [if_neg (by decide), List.append_nil]
      exact n2
    | true =>
      rw [if_pos rfl]
      refine List.nodup_append.mpr ⟨n2, crs_nodup _ _ _, fun x hx y hy e => ?_⟩
      subst e
      obtain ⟨c1, c2, c3⟩ := mem_crs.mp hy
      rcases List.mem_append.mp hx with hx | hx
      · have := (ha.lt _ hx).2
        omega
      · obtain ⟨q, hq, rfl⟩ := mem_shf.mp hx
        simp only at c1
        omega
  · rcases mem_laid.mp h1 with h1 | ⟨q, h1, e1⟩ | ⟨u1, a1, a2, a3⟩
    · rcases mem_laid.mp h2 with h2 | ⟨r, h2, e2⟩ | ⟨u2, b1, b2, b3⟩
      · exact mem_laid.mpr (.inl (ha.tr _ _ _ h1 h2))
      · have := (ha.lt _ h1).2
        have e2 := congrArg Prod.fst e2
        simp only at this e2
        omega
      · have := (ha.lt _ h1).1
        exact mem_laid.mpr (.inr (.inr ⟨u2, this, b2, b3⟩))
    · have f1 := congrArg Prod.fst e1
      have f2 := congrArg Prod.snd e1
      simp only at f1 f2
      rcases mem_laid.mp h2 with h2 | ⟨r, h2, e2⟩ | ⟨u2, b1, b2, b3⟩
      · have := (ha.lt _ h2).1
        simp only at this
        omega
      · have g1 := congrArg Prod.fst e2
        have g2 := congrArg Prod.snd e2
        simp only at g1 g2
        refine mem_laid.mpr (.inr (.inl ⟨(q.1, r.2), ?_, Prod.ext (by show x = q.1 + a.n; omega) (by show z = r.2 + a.n; omega)⟩))
        obtain ⟨q1, q2⟩ := q
        obtain ⟨r1, r2⟩ := r
        simp only at f1 f2 g1 g2 ⊢
        have e : q2 = r1 := by omega
        subst e
        exact hb.tr _ _ _ h1 h2
      · simp only at b1
        omega
    · simp only at a1 a2 a3
      rcases mem_laid.mp h2 with h2 | ⟨r, h2, e2⟩ | ⟨u2, b1, b2, b3⟩
      · have := (ha.lt _ h2).1
        simp only at this
        omega
      · have g2 := congrArg Prod.snd e2
        simp only at g2
        have := (hb.lt _ h2).2
        exact mem_laid.mpr (.inr (.inr ⟨u1, a1, by show a.n ≤ z; omega, by show z < a.n + b.n; omega⟩))
      · simp only at b1
        omega
  · rcases mem_laid.mp h with h | ⟨q, h, e⟩ | ⟨_, h1, h2, _⟩
    · exact ha.ir _ h
    · have e1 := congrArg Prod.fst e
      have e2 := congrArg Prod.snd e
      obtain ⟨q1, q2⟩ := q
      simp only at e1 e2
      have e3 : q1 = q2 := by omega
      subst e3
      exact hb.ir _ h
    · simp only at h1 h2
      omega
  · rcases List.mem_append.mp (show p ∈ a.seen ++ b.seen from hp) with h | h
    · exact ha.bd p h
    · exact hb.bd p h
theorem tur_ok {f : Fd} (h : FdOk f) : FdOk (turF f) := by
  have mem : ∀ {p : Nat × Nat}, p ∈ (turF f).ties ↔ (p.2, p.1) ∈ f.ties := by
    intro p
    show p ∈ sortP _ ↔ _
    rw [(sortP_perm _).mem_iff, List.mem_map]
    constructor
    · rintro ⟨q, h, rfl⟩
      exact h
    · intro h
      exact ⟨_, h, rfl⟩
  refine ⟨h.n6, ?_, fun p hp => ?_, ?_, fun x y z h1 h2 => ?_, fun x hx => ?_, fun p hp => ?_⟩
  · show (f.seen.map _).length = f.n
    rw [List.length_map, h.len]
  · have := h.lt _ (mem.mp hp)
    exact ⟨this.2, this.1⟩
  · show (sortP _).Nodup
    refine ((sortP_perm _).nodup_iff).mpr (List.pairwise_map.mpr (h.nd.imp fun {x y} h e => h ?_))
    exact Prod.ext (congrArg Prod.snd e) (congrArg Prod.fst e)
  · have e1 := mem.mp h1
    have e2 := mem.mp h2
    exact mem.mpr (h.tr z y x e2 e1)
  · exact h.ir x (mem.mp hx)
  · obtain ⟨q, hq, rfl⟩ := List.mem_map.mp (show p ∈ f.seen.map _ from hp)
    have := h.bd q hq
    show -1000 ≤ 0 - q.1 ∧ 0 - q.1 ≤ 1000 ∧ 1 ≤ q.2 ∧ q.2 ≤ 1000
    omega
/-- all values, all weights within -/
def Vb (V W : Int) (f : Fd) : Prop := ∀ p ∈ f.seen, -V ≤ p.1 ∧ p.1 ≤ V ∧ 1 ≤ p.2 ∧ p.2 ≤ W
theorem mov_ok {f : Fd} (h : FdOk f) {V W k : Int} (v : Vb V W f) (hk : -2 ≤ k ∧ k ≤ 2) (hV : V + 2 ≤ 1000) : FdOk (movF f k) ∧ Vb (V + 2) W (movF f k) := by
  have b : Vb (V + 2) W (movF f k) := fun p hp => by
    obtain ⟨q, hq, rfl⟩ := List.mem_map.mp (show p ∈ f.seen.map _ from hp)
    have := v q hq
    show -(V + 2) ≤ q.1 + k ∧ q.1 + k ≤ V + 2 ∧ 1 ≤ q.2 ∧ q.2 ≤ W
    omega
  refine ⟨⟨h.n6, ?_, h.lt, h.nd, h.tr, h.ir, fun p hp => ?_⟩, b⟩
  · show (f.seen.map _).length = f.n
    rw [List.length_map, h.len]
  · have := b p hp
    obtain ⟨q, hq, rfl⟩ := List.mem_map.mp (show p ∈ f.seen.map _ from hp)
    have := (h.bd q hq).2.2
    simp only at *
    omega
theorem tim_ok {f : Fd} (h : FdOk f) {V W k : Int} (v : Vb V W f) (hk : 1 ≤ k ∧ k ≤ 4) (hW : 4 * W ≤ 1000) : FdOk (timF f k) ∧ Vb V (4 * W) (timF f k) := by
  have b : Vb V (4 * W) (timF f k) := fun p hp => by
    obtain ⟨q, hq, rfl⟩ := List.mem_map.mp (show p ∈ f.seen.map _ from hp)
    have := v q hq
    have m1 : q.2 * 1 ≤ q.2 * k := Int.mul_le_mul_of_nonneg_left hk.1 (by omega)
    have m2 : q.2 * k ≤ q.2 * 4 := Int.mul_le_mul_of_nonneg_left hk.2 (by omega)
    show -V ≤ q.1 ∧ q.1 ≤ V ∧ 1 ≤ q.2 * k ∧ q.2 * k ≤ 4 * W
    omega
  refine ⟨⟨h.n6, ?_, h.lt, h.nd, h.tr, h.ir, fun p hp => ?_⟩, b⟩
  · show (f.seen.map _).length = f.n
    rw [List.length_map, h.len]
  · have := b p hp
    obtain ⟨q, hq, rfl⟩ := List.mem_map.mp (show p ∈ f.seen.map _ from hp)
    have := h.bd q hq
    simp only at *
    omega
theorem vb_laid {V W : Int} {a b : Fd} {u : Bool} (ha : Vb V W a) (hb : Vb V W b) : Vb V W (laidF a b u) := fun p hp => by
  rcases List.mem_append.mp (show p ∈ a.seen ++ b.seen from hp) with h | h
  · exact ha p h
  · exact hb p h
theorem vb_tur {V W : Int} {f : Fd} (h : Vb V W f) : Vb V W (turF f) := fun p hp => by
  obtain ⟨q, hq, rfl⟩ := List.mem_map.mp (show p ∈ f.seen.map _ from hp)
  have := h q hq
  show -V ≤ 0 - q.1 ∧ 0 - q.1 ≤ V ∧ 1 ≤ q.2 ∧ q.2 ≤ W
  omega
theorem Vb.mono {V W V' W' : Int} {f : Fd} (h : Vb V W f) (h1 : V ≤ V') (h2 : W ≤ W') : Vb V' W' f := fun p hp => by
  have := h p hp
  omega
theorem thing_ok {a b : Int} (h : -1000 ≤ a ∧ a ≤ 1000 ∧ 1 ≤ b ∧ b ≤ 1000) : FdOk (ev (.thing a b)) := by
  refine ⟨(by decide : 1 ≤ 6), rfl, (fun p hp => by cases hp), List.nodup_nil, (fun _ _ _ h => by cases h), (fun _ h => by cases h), fun p hp => ?_⟩
  have : p = (a, b) := by simpa [ev] using hp
  subst this
  exact h
theorem none_ok : FdOk (ev .none) := ⟨by decide, rfl, (fun p hp => by cases hp), List.nodup_nil, (fun _ _ _ h => by cases h), (fun _ h => by cases h), (fun p hp => by cases hp)⟩
theorem rowF_n (f : Fd) : ∀ i, (rowF f i).n = (i + 1) * f.n
  | 0 => by show f.n = _; omega
  | i + 1 => by
    show (rowF f i).n + f.n = _
    rw [rowF_n f i, Nat.succ_mul (i + 1)]
theorem rowF_ok {f : Fd} (h : FdOk f) (h1 : f.n = 1) : ∀ i, i < 6 → FdOk (rowF f i)
  | 0, _ => h
  | i + 1, hi => laid_ok (rowF_ok h h1 i (by omega)) h (by rw [rowF_n, h1]; omega)
theorem rowF_vb {V W : Int} {f : Fd} (h : Vb V W f) : ∀ i, Vb V W (rowF f i)
  | 0 => h
  | i + 1 => vb_laid (rowF_vb h i) h
theorem ptl_len (t : Tm) : ∀ p, (ptl t p).length = sz t := by
  induction t with
  | thing a b => intro p; rfl
  | none => intro p; rfl
  | besd s t h1 h2 => intro p; simp only [ptl, sz, List.length_cons, List.length_append, h1, h2]
  | belw s t h1 h2 => intro p; simp only [ptl, sz, List.length_cons, List.length_append, h1, h2]
  | row t k h => intro p; simp only [ptl, sz, List.length_cons, h]
  | turned t h => intro p; simp only [ptl, sz, List.length_cons, h]
  | moved t k h => intro p; simp only [ptl, sz, List.length_cons, h]
  | times t k h => intro p; simp only [ptl, sz, List.length_cons, h]
/-- what holds of a drawn term, with bounds -/
structure Dr (V W : Int) (n m : Nat) (d : Nat) (t : Tm) : Prop where
  gd : Gd t
  vb : Vb V W (ev t)
  n_ : (ev t).n ≤ n
  sz_ : sz t ≤ m
  dep_ : dep t ≤ d
  nums_ : nums t
  ok_ : okT t = true
theorem btw_i {i a b : Int} (h : a ≤ i ∧ i ≤ b) : btw i a b = true := by
  unfold btw
  rw [decide_eq_true h.1, decide_eq_true h.2]
  rfl
theorem i30_k {i : Int} (h : i.natAbs ≤ 1000000) : I30 i := Nat.lt_of_le_of_lt h (by decide)
theorem Dr.mono {V W V' W' : Int} {n m d n' m' d' : Nat} {t : Tm} (h : Dr V W n m d t) (h1 : V ≤ V') (h2 : W ≤ W') (h3 : n ≤ n') (h4 : m ≤ m') (h5 : d ≤ d') : Dr V' W' n' m' d' t :=
  ⟨h.gd, h.vb.mono h1 h2, Nat.le_trans h.n_ h3, Nat.le_trans h.sz_ h4, Nat.le_trans h.dep_ h5, h.nums_, h.ok_⟩
theorem dr_thing {a b : Int} (h : -900 ≤ a ∧ a ≤ 900 ∧ 1 ≤ b ∧ b ≤ 4) : Dr 900 4 1 1 1 (.thing a b) := by
  have ok : FdOk (ev (.thing a b)) := thing_ok (by omega)
  refine ⟨ok, fun p hp => ?_, Nat.le_refl _, Nat.le_refl _, Nat.le_refl _, ⟨i30_k (by omega), i30_k (by omega)⟩, ?_⟩
  · have : p = (a, b) := by simpa [ev] using hp
    subst this
    exact h
  · show seenB (a, b) = true
    unfold seenB
    rw [btw_i (show -1000 ≤ a ∧ a ≤ 1000 by omega), btw_i (show 1 ≤ b ∧ b ≤ 1000 by omega)]
    rfl
theorem dr_none : Dr 900 4 1 1 1 .none := ⟨none_ok, (fun p hp => by cases hp), Nat.zero_le _, Nat.le_refl _, Nat.le_refl _, trivial, rfl⟩
theorem dr_row {a k : Int} (h : 2 ≤ a ∧ a ≤ 4) (hk : 1 ≤ k ∧ k ≤ 3) : Dr 900 4 3 2 2 (.row (.thing a 1) k) := by
  have d := dr_thing (a := a) (b := 1) (by omega)
  have ok := d.gd.ok
  have rok : ∀ i, i < 6 → FdOk (rowF (ev (.thing a 1)) i) := rowF_ok ok rfl
  refine ⟨⟨⟨d.gd, Nat.zero_lt_one, fun i hi => rok i (by omega), hk.1, by omega⟩, rok _ (by omega)⟩, rowF_vb d.vb _, ?_, Nat.le_refl _, Nat.le_refl _, ⟨i30_k (by omega), d.nums_⟩, ?_⟩
  · show (rowF (ev (.thing a 1)) (k.toNat - 1)).n ≤ 3
    rw [rowF_n]
    show (k.toNat - 1 + 1) * 1 ≤ 3
    omega
  · show (btw k 1 10 && okT (.thing a 1)) = true
    rw [btw_i (show 1 ≤ k ∧ k ≤ 10 by omega), d.ok_]
    rfl
theorem dr_besd {V W : Int} {n m d : Nat} {s t : Tm} (h1 : Dr V W n m d s) (h2 : Dr V W n m d t) (h6 : n + n ≤ 6) : Dr V W (n + n) (m + m + 1) (d + 1) (.besd s t) ∧ Dr V W (n + n) (m + m + 1) (d + 1) (.belw s t) := by
  have a1 := h1.n_
  have a2 := h2.n_
  have b1 := h1.sz_
  have b2 := h2.sz_
  have c1 := h1.dep_
  have c2 := h2.dep_
  have k : ∀ u, FdOk (laidF (ev s) (ev t) u) := fun u => laid_ok h1.gd.ok h2.gd.ok (by omega)
  have kk : (okT s && okT t) = true := by rw [h1.ok_, h2.ok_]; rfl
  refine ⟨⟨⟨⟨h1.gd, h2.gd⟩, k false⟩, vb_laid h1.vb h2.vb, by show (ev s).n + (ev t).n ≤ _; omega, by show sz s + sz t + 1 ≤ _; omega, by show max (dep s) (dep t) + 1 ≤ _; omega, ⟨h1.nums_, h2.nums_⟩, kk⟩,
    ⟨⟨⟨h1.gd, h2.gd⟩, k true⟩, vb_laid h1.vb h2.vb, by show (ev s).n + (ev t).n ≤ _; omega, by show sz s + sz t + 1 ≤ _; omega, by show max (dep s) (dep t) + 1 ≤ _; omega, ⟨h1.nums_, h2.nums_⟩, kk⟩⟩
theorem dr_tur {V W : Int} {n m d : Nat} {t : Tm} (h : Dr V W n m d t) : Dr V W n (m + 1) (d + 1) (.turned t) :=
  ⟨⟨h.gd, tur_ok h.gd.ok⟩, vb_tur h.vb, h.n_, Nat.succ_le_succ h.sz_, Nat.succ_le_succ h.dep_, h.nums_, h.ok_⟩
theorem dr_mov {V W k : Int} {n m d : Nat} {t : Tm} (h : Dr V W n m d t) (hk : -2 ≤ k ∧ k ≤ 2) (hV : V + 2 ≤ 1000) : Dr (V + 2) W n (m + 1) (d + 1) (.moved t k) := by
  obtain ⟨a, b⟩ := mov_ok h.gd.ok h.vb hk hV
  refine ⟨⟨⟨h.gd, btw_i (by omega)⟩, a⟩, b, h.n_, Nat.succ_le_succ h.sz_, Nat.succ_le_succ h.dep_, ⟨i30_k (by omega), h.nums_⟩, ?_⟩
  show (btw k (-2000) 2000 && okT t) = true
  rw [btw_i (show -2000 ≤ k ∧ k ≤ 2000 by omega), h.ok_]
  rfl
theorem dr_tim {V W k : Int} {n m d : Nat} {t : Tm} (h : Dr V W n m d t) (hk : 1 ≤ k ∧ k ≤ 4) (hW : 4 * W ≤ 1000) : Dr V (4 * W) n (m + 1) (d + 1) (.times t k) := by
  obtain ⟨a, b⟩ := tim_ok h.gd.ok h.vb hk hW
  refine ⟨⟨⟨h.gd, hk.1, by omega⟩, a⟩, b, h.n_, Nat.succ_le_succ h.sz_, Nat.succ_le_succ h.dep_, ⟨i30_k (by omega), h.nums_⟩, ?_⟩
  show (btw k 1 1000 && okT t) = true
  rw [btw_i (show 1 ≤ k ∧ k ≤ 1000 by omega), h.ok_]
  rfl
theorem dr_leaf (s : St) {hf : Int} (h : 1 ≤ hf ∧ hf ≤ 4) : Dr 900 4 1 1 1 (leafT s hf).1 := by
  obtain ⟨a, b⟩ := drawV_bd (s := s) (m := 7) (by decide)
  refine dr_thing ?_
  have : (drawV s 7).toNat = 0 ∨ (drawV s 7).toNat = 1 ∨ (drawV s 7).toNat = 2 ∨ (drawV s 7).toNat = 3 ∨ (drawV s 7).toNat = 4 ∨ (drawV s 7).toNat = 5 ∨ (drawV s 7).toNat = 6 := by omega
  rcases this with e | e | e | e | e | e | e <;> rw [e] <;> simp only [valsL, List.getD_cons_zero, List.getD_cons_succ] <;> omega
/-- one more step of the draw -/
theorem dr_step {V W : Int} {n m d : Nat} (hV : 900 ≤ V ∧ V + 2 ≤ 1000) (hW : 4 ≤ W ∧ 4 * W ≤ 1000) (hn : 1 ≤ n ∧ n + n ≤ 6) (hm : 1 ≤ m) (hd : 1 ≤ d) {k : Nat} (ih : ∀ s, Dr V W n m d (goodT k s).1) (s : St) : Dr (V + 2) (4 * W) (max 3 (n + n)) (m + m + 1) (d + 1) (goodT (k + 1) s).1 := by
  obtain ⟨b1, b2⟩ := drawV_bd (s := drawS s 9) (m := 4) (by decide)
  unfold goodT
  split
  · exact (dr_leaf _ (by omega)).mono (by omega) (by omega) (by omega) (by omega) (by omega)
  · split
    · dsimp only
      split
      · exact (dr_row (by omega) (by omega)).mono (by omega) (by omega) (by omega) (by omega) (by omega)
      · exact dr_none.mono (by omega) (by omega) (by omega) (by omega) (by omega)
    · split
      · dsimp only
        have z := dr_besd (ih (drawS (drawS s 9) 4)) (ih (goodT k (drawS (drawS s 9) 4)).2) hn.2
        split
        · exact z.1.mono (by omega) (by omega) (by omega) (by omega) (by omega)
        · exact z.2.mono (by omega) (by omega) (by omega) (by omega) (by omega)
      · dsimp only
        split
        · exact (dr_tur (ih _)).mono (by omega) (by omega) (by omega) (by omega) (by omega)
        · split
          · exact (dr_tim (ih _) (by omega) hW.2).mono (by omega) (by omega) (by omega) (by omega) (by omega)
          · exact (dr_mov (ih _) (by omega) hV.2).mono (by omega) (by omega) (by omega) (by omega) (by omega)
theorem dr_two (s : St) : Dr 904 64 6 7 3 (goodT 2 s).1 := by
  have h0 : ∀ s, Dr 900 4 1 1 1 (goodT 0 s).1 := fun s => by
    obtain ⟨b1, b2⟩ := drawV_bd (s := drawS s 9) (m := 4) (by decide)
    exact dr_leaf _ (by omega)
  have h1 : ∀ s, Dr 902 16 3 3 2 (goodT 1 s).1 := fun s => (dr_step (by decide) (by decide) (by decide) (by decide) (by decide) h0 s).mono (by decide) (by decide) (by decide) (by decide) (by decide)
  exact (dr_step (by decide) (by decide) (by decide) (by decide) (by decide) h1 s).mono (by decide) (by decide) (by decide) (by decide) (by decide)
end Ri

set_option maxRecDepth 100000
set_option maxHeartbeats 2000000
/-! PLAIN, 7: sheets: texts, what is so. -/
namespace Ri
open PySem PySem.Spec PyProof.Rows L2 Dl
/-! ### texts -/
theorem mem_joinL {y : List Nat} {c : Nat} : ∀ {L : List (List Nat)}, c ∈ TL.joinL y L → c ∈ y ∨ ∃ x ∈ L, c ∈ x
  | [], h => by cases h
  | [p], h => .inr ⟨p, List.mem_cons_self, h⟩
  | p :: q :: r, h => by
    have h : c ∈ p ++ (y ++ TL.joinL y (q :: r)) := h
    rcases List.mem_append.mp h with h | h
    · exact .inr ⟨p, List.mem_cons_self, h⟩
    · rcases List.mem_append.mp h with h | h
      · exact .inl h
      · rcases mem_joinL h with h | ⟨x, hx, h⟩
        · exact .inl h
        · exact .inr ⟨x, List.mem_cons_of_mem _ hx, h⟩
theorem len_joinL (y : List Nat) (m : Nat) : ∀ (L : List (List Nat)), (∀ x ∈ L, x.length ≤ m) → (TL.joinL y L).length ≤ (m + y.length) * L.length
  | [], _ => Nat.zero_le _
  | [p], h => by
    have := h p List.mem_cons_self
    show p.length ≤ (m + y.length) * 1
    omega
  | p :: q :: r, h => by
    have h1 := h p List.mem_cons_self
    have h2 := len_joinL y m (q :: r) fun x hx => h x (List.mem_cons_of_mem _ hx)
    show (p ++ (y ++ TL.joinL y (q :: r))).length ≤ (m + y.length) * ((q :: r).length + 1)
    rw [List.length_append, List.length_append, Nat.mul_succ]
    omega
theorem join_len {y : Str} {ws : List Str} (m : Nat) (h : ∀ x ∈ ws, x.length ≤ m) : (Txt.join y ws).length ≤ (m + y.length) * ws.length := by
  rw [TL.join_eq, TL.len_tl, TL.tl_join, TL.len_tl y]
  have := len_joinL (TL.tl y) m (ws.map TL.tl) fun x hx => by
    obtain ⟨z, hz, rfl⟩ := List.mem_map.mp hx
    rw [← TL.len_tl]
    exact h z hz
  rwa [List.length_map] at this
theorem join_free {y : Str} {ws : List Str} {c : Nat} (hy : c ∉ TL.tl y) (h : ∀ x ∈ ws, c ∉ TL.tl x) : c ∉ TL.tl (Txt.join y ws) := by
  rw [TL.join_eq, TL.tl_join]
  intro hc
  rcases mem_joinL hc with hc | ⟨x, hx, hc⟩
  · exact hy hc
  · obtain ⟨z, hz, rfl⟩ := List.mem_map.mp hx
    exact h z hz hc
/-- neither blank nor line feed in it, short -/
structure Wd (x : Str) : Prop where
  b : 32 ∉ TL.tl x
  n : 10 ∉ TL.tl x
  l : x.length ≤ 63
theorem wd_sg {i : Int} (h : I30 i) : Wd (sgS i) := ⟨sg_free (by decide) i, sg_free (by decide) i, by have := (int_back h).2; omega⟩
theorem wd_rf {x : Rf} (h : FrOk x) : Wd x.1 := by
  have hl := rf_len h
  obtain ⟨⟨h1, h2⟩, _⟩ := h
  have key : ∀ c, c ≠ 45 ∧ (c < 48 ∨ 57 < c) → c ≠ 47 → c ∉ TL.tl x.1 := by
    intro c hc h47
    rcases h2 with ⟨e, _⟩ | ⟨e, _, _⟩
    · rw [e]
      exact sg_free hc _
    · rw [e]
      unfold frS
      rw [TL.tl_append, TL.tl_append]
      intro m
      rcases List.mem_append.mp m with m | m
      · rcases List.mem_append.mp m with m | m
        · exact sg_free hc _ m
        · have : c = 47 := List.mem_singleton.mp (show c ∈ [47] from m)
          exact h47 this
      · exact sg_free hc _ m
  exact ⟨key 32 (by decide) (by decide), key 10 (by decide) (by decide), hl⟩
def keysW : List Str := ["things", "levels", "below", "up", "guess", "table", "charge", "thing", "none", "beside", "row", "turned", "moved", "times"]
theorem wd_key {x : Str} (h : x ∈ keysW) : Wd x := by
  have : ∀ y ∈ keysW, 32 ∉ TL.tl y ∧ 10 ∉ TL.tl y ∧ y.length ≤ 63 := by decide +kernel
  obtain ⟨a, b, c⟩ := this x h
  exact ⟨a, b, c⟩
theorem wd_say {s : Say} (h : sayOk s) : ∀ x ∈ sayW s, Wd x := by
  cases s with
  | things k =>
    intro x hx
    rcases List.mem_cons.mp hx with rfl | hx
    · exact wd_key (by simp [keysW])
    · have := List.mem_singleton.mp hx
      subst this
      exact wd_sg h
  | levels k =>
    intro x hx
    rcases List.mem_cons.mp hx with rfl | hx
    · exact wd_key (by simp [keysW])
    · have := List.mem_singleton.mp hx
      subst this
      exact wd_sg h
  | below i j =>
    intro x hx
    rcases List.mem_cons.mp hx with rfl | hx
    · exact wd_key (by simp [keysW])
    · rcases List.mem_cons.mp hx with rfl | hx
      · exact wd_sg h.1
      · have := List.mem_singleton.mp hx
        subst this
        exact wd_sg h.2
  | up l =>
    intro x hx
    rcases List.mem_cons.mp hx with rfl | hx
    · exact wd_key (by simp [keysW])
    · obtain ⟨i, hi, rfl⟩ := List.mem_map.mp hx
      exact wd_sg (h.1 i hi)
  | guess i y =>
    intro x hx
    rcases List.mem_cons.mp hx with rfl | hx
    · exact wd_key (by simp [keysW])
    · rcases List.mem_cons.mp hx with rfl | hx
      · exact wd_sg h.1
      · have := List.mem_singleton.mp hx
        subst this
        exact wd_rf h.2
  | table l =>
    intro x hx
    rcases List.mem_cons.mp hx with rfl | hx
    · exact wd_key (by simp [keysW])
    · obtain ⟨y, hy, rfl⟩ := List.mem_map.mp hx
      exact wd_rf (h.1 y hy)
  | charge y z =>
    intro x hx
    rcases List.mem_cons.mp hx with rfl | hx
    · exact wd_key (by simp [keysW])
    · rcases List.mem_cons.mp hx with rfl | hx
      · exact wd_rf h.1
      · have := List.mem_singleton.mp hx
        subst this
        exact wd_rf h.2
theorem wd_tok (t : Tm) (h : nums t) : ∀ x ∈ tok t, Wd x := by
  induction t with
  | thing a b =>
    intro x hx
    rcases List.mem_cons.mp hx with rfl | hx
    · exact wd_key (by simp [keysW])
    · rcases List.mem_cons.mp hx with rfl | hx
      · exact wd_sg h.1
      · have := List.mem_singleton.mp hx
        subst this
        exact wd_sg h.2
  | none =>
    intro x hx
    have := List.mem_singleton.mp hx
    subst this
    exact wd_key (by simp [keysW])
  | besd s t h1 h2 =>
    intro x hx
    rcases List.mem_cons.mp hx with rfl | hx
    · exact wd_key (by simp [keysW])
    · rcases List.mem_append.mp hx with hx | hx
      · exact h1 h.1 x hx
      · exact h2 h.2 x hx
  | belw s t h1 h2 =>
    intro x hx
    rcases List.mem_cons.mp hx with rfl | hx
    · exact wd_key (by simp [keysW])
    · rcases List.mem_append.mp hx with hx | hx
      · exact h1 h.1 x hx
      · exact h2 h.2 x hx
  | row t k ih =>
    intro x hx
    rcases List.mem_cons.mp hx with rfl | hx
    · exact wd_key (by simp [keysW])
    · rcases List.mem_cons.mp hx with rfl | hx
      · exact wd_sg h.1
      · exact ih h.2 x hx
  | turned t ih =>
    intro x hx
    rcases List.mem_cons.mp hx with rfl | hx
    · exact wd_key (by simp [keysW])
    · exact ih h x hx
  | moved t k ih =>
    intro x hx
    rcases List.mem_cons.mp hx with rfl | hx
    · exact wd_key (by simp [keysW])
    · rcases List.mem_cons.mp hx with rfl | hx
      · exact wd_sg h.1
      · exact ih h.2 x hx
  | times t k ih =>
    intro x hx
    rcases List.mem_cons.mp hx with rfl | hx
    · exact wd_key (by simp [keysW])
    · rcases List.mem_cons.mp hx with rfl | hx
      · exact wd_sg h.1
      · exact ih h.2 x hx
def lineT (s : Say) : Str := Txt.join " " (sayW s)
theorem blank_split {ws : List Str} (hne : ws ≠ []) (h : ∀ x ∈ ws, Wd x) : Txt.split (Txt.join " " ws) " " = ws := TL.split_join (s := 32) (S := []) rfl (by decide +kernel) hne fun p hp => (h p hp).b
theorem lines_split {ls : List Str} (hne : ls ≠ []) (h : ∀ x ∈ ls, 10 ∉ TL.tl x) : Txt.split (Txt.join "\n" ls) "\n" = ls := TL.split_join (s := 10) (S := []) rfl (by decide +kernel) hne h
theorem say_ne (s : Say) : sayW s ≠ [] := by
  obtain ⟨r, e⟩ := say_head s
  rw [e]
  exact List.cons_ne_nil _ _
theorem tok_ne (t : Tm) : tok t ≠ [] := by
  obtain ⟨r, e⟩ := tok_head t
  rw [e]
  exact List.cons_ne_nil _ _
theorem blank_join {ws : List Str} (h : ∀ x ∈ ws, Wd x) (h2 : ws.length ≤ 60) : 10 ∉ TL.tl (Txt.join " " ws) ∧ (Txt.join " " ws).length ≤ 4000 := by
  refine ⟨join_free (by decide +kernel) fun x hx => (h x hx).n, ?_⟩
  have := join_len (y := " ") 63 fun x hx => (h x hx).l
  have e : (Str.ofString " ").length = 1 := rfl
  rw [e] at this
  omega
def sheetT (t : Tm) (l : List Say) : Str := Txt.join "\n" (Txt.join " " (tok t) :: l.map lineT)
theorem tok_len (t : Tm) : (tok t).length ≤ 3 * sz t := by
  rw [← thg_tok, List.length_map]
  exact thg_len t
/-! ### what is so, by the law -/
def soL (f : Fd) (best : List Fr) : Say → Bool
  | .things k => decide (k = (f.n : Int))
  | .levels k => decide (k = ((ddF best).length : Int))
  | .below i j => decide ([i, j] ∈ f.ties.map rowP)
  | .up l => decide (l ∈ (upLots f).map toI)
  | .guess i x => thereB f i && decide (mkR x = best.getD i.toNat (0, 1))
  | .table l => decide (l.map mkR = best)
  | .charge x y => decide (mkR y = chargeL f (mkR x) best)
theorem rises_toI : ∀ m : List Nat, rises (toI m) = true ↔ m.Pairwise (· < ·)
  | [] => ⟨fun _ => .nil, fun _ => rfl⟩
  | [a] => ⟨fun _ => List.pairwise_singleton _ _, fun _ => rfl⟩
  | a :: b :: r => by
    show (decide ((a : Int) < (b : Int)) && rises (toI (b :: r))) = true ↔ _
    rw [Bool.and_eq_true, decide_eq_true_iff, rises_toI (b :: r), List.pairwise_cons (a := a)]
    constructor
    · rintro ⟨h1, h2⟩
      refine ⟨fun c hc => ?_, h2⟩
      rcases List.mem_cons.mp hc with rfl | hc
      · omega
      · have := (List.pairwise_cons.mp h2).1 c hc
        omega
    · rintro ⟨h1, h2⟩
      exact ⟨by have := h1 b List.mem_cons_self; omega, h2⟩
theorem toI_inj {a b : List Nat} (h : toI a = toI b) : a = b := by
  have := congrArg (List.map Int.toNat) h
  rwa [toNat_toI, toNat_toI] at this
theorem fr_pos {x : Rf} (h : FrOk x) : 0 < x.2.2 := by
  obtain ⟨⟨_, h2⟩, _⟩ := h
  rcases h2 with ⟨_, e⟩ | ⟨_, e, _⟩ <;> omega
theorem so_eq {f : Fd} (ok : FdOk f) {fs : List Lv} {kn : List Nat} (h : Steps f fs kn) (hn : f.n ≤ kn.length) {s : Say} (hs : sayOk s) : soB f fs s = soL f (bestF f) s := by
  cases s with
  | things k => exact decide_eq_decide.mpr eq_comm
  | levels k =>
    show decide ((fs.length : Int) = k) = decide (k = ((ddF (bestF f)).length : Int))
    rw [lv_count ok h hn (ddF_nodup _) fun p => mem_ddF]
    exact decide_eq_decide.mpr eq_comm
  | below i j =>
    show (inB f i && decide (j ∈ upsI f i.toNat)) = decide ([i, j] ∈ f.ties.map rowP)
    rw [Bool.eq_iff_iff, Bool.and_eq_true, decide_eq_true_iff, decide_eq_true_iff, List.mem_map]
    constructor
    · rintro ⟨h1, h2⟩
      obtain ⟨m, rfl, hm⟩ := inB_nat h1
      rw [Int.toNat_natCast] at h2
      obtain ⟨k, rfl, hk⟩ := mem_upsI.mp h2
      exact ⟨(m, k), hk, rfl⟩
    · rintro ⟨⟨a, b⟩, hp, e⟩
      injection e with e1 e2
      injection e2 with e2 _
      have l := ok.lt _ hp
      subst e1 e2
      refine ⟨?_, ?_⟩
      · unfold inB
        rw [decide_eq_true (show 0 ≤ ((a, b).1 : Int) by omega), decide_eq_true (show ((a, b).1 : Int) < (f.n : Int) by omega)]
        rfl
      · rw [Int.toNat_natCast]
        exact mem_upsI.mpr ⟨b, rfl, hp⟩
  | up l =>
    show (lotB f l && isUpB f (l.map Int.toNat)) = decide (l ∈ (upLots f).map toI)
    rw [Bool.eq_iff_iff, Bool.and_eq_true, decide_eq_true_iff, List.mem_map]
    constructor
    · rintro ⟨h1, h2⟩
      obtain ⟨m, rfl, hm⟩ := lot_nat h1
      rw [toNat_toI] at h2
      refine ⟨m, mem_upLots.mpr ⟨⟨?_, hm⟩, h2⟩, rfl⟩
      unfold lotB at h1
      exact (rises_toI m).mp (Bool.and_eq_true_iff.mp h1).2
    · rintro ⟨m, hm, rfl⟩
      obtain ⟨⟨m1, m2⟩, m3⟩ := mem_upLots.mp hm
      rw [toNat_toI]
      refine ⟨?_, m3⟩
      unfold lotB
      rw [(rises_toI m).mpr m1, Bool.and_true, List.all_eq_true]
      intro i hi
      obtain ⟨j, hj, rfl⟩ := List.mem_map.mp hi
      have := m2 j hj
      exact btw_i (by omega)
  | guess i x =>
    show (inB f i && decide (gOf fs i.toNat = mkR x)) = (thereB f i && decide (mkR x = (bestF f).getD i.toNat (0, 1)))
    have e : thereB f i = inB f i := rfl
    rw [e]
    cases hi : inB f i with
    | false => rfl
    | true =>
      obtain ⟨m, rfl, hm⟩ := inB_nat hi
      rw [Int.toNat_natCast, best_tab ok h hn]
      have e2 : (tabL fs f.n).getD m (0, 1) = gOf fs m := by
        unfold tabL
        rw [List.getD_eq_getElem?_getD, List.getElem?_map, List.getElem?_range hm]
        rfl
      rw [e2, Bool.true_and, Bool.true_and]
      exact decide_eq_decide.mpr eq_comm
  | table l =>
    show decide (tabL fs f.n = l.map mkR) = decide (l.map mkR = bestF f)
    rw [best_tab ok h hn]
    exact decide_eq_decide.mpr eq_comm
  | charge x y =>
    show decide (chargeF f (mkR x) (tabL fs f.n) = mkR y) = decide (mkR y = chargeL f (mkR x) (bestF f))
    have e := charge_eq (f := f) (m := mkR x) (mk_red (fr_pos hs.1)).pos (tabL fs f.n)
    rw [best_tab ok h hn, e]
    exact decide_eq_decide.mpr eq_comm
/-! ### a sheet -/
structure SheetOk (t : Tm) (l : List Say) : Prop where
  gd : Gd t
  dep_ : dep t ≤ 4
  nums_ : nums t
  sz_ : sz t ≤ 19
  ok_ : okT t = true
  ln : l.length ≤ 100
  says : ∀ s ∈ l, sayOk s ∧ soOk s ∧ (sayW s).length ≤ 60
theorem judged_l {pT : Addr} {O : DO} {Q : D → DO → Prop} {t : Tm} {l : List Say} (k : SheetOk t l) (hT : O pT = some (.tbl qT)) (h : Q (.tup (l.map fun s => .bl (soL (ev t) (bestF (ev t)) s))) O) : gJudged pT [.str (sheetT t l)] O Q := by
  have s19 := k.sz_
  have wt := wd_tok t k.nums_
  have tl := tok_len t
  obtain ⟨z1, z2⟩ := blank_join wt (by omega)
  have lw : ∀ s ∈ l, 10 ∉ TL.tl (lineT s) ∧ (lineT s).length ≤ 4000 := fun s hs => blank_join (wd_say (k.says s hs).1) (k.says s hs).2.2
  refine ⟨Txt.join " " (tok t), t, l.map fun s => (lineT s, s), ?_, ?_, by omega, blank_split (tok_ne t) wt, k.dep_, k.nums_, by omega, k.ok_, by rw [ptl_len]; omega, k.gd, ?_, by rw [List.length_map]; have := k.ln; omega, hT, fun fs kn hs hn => ?_⟩
  · have := join_len (y := "\n") (ws := Txt.join " " (tok t) :: l.map lineT) 4000 fun x hx => by
      rcases List.mem_cons.mp hx with rfl | hx
      · exact z2
      · obtain ⟨s, hs, rfl⟩ := List.mem_map.mp hx
        exact (lw s hs).2
    have e : (Str.ofString "\n").length = 1 := rfl
    rw [e, List.length_cons, List.length_map] at this
    have := k.ln
    show (sheetT t l).length ≤ _
    unfold sheetT
    omega
  · rw [List.map_map]
    refine lines_split (List.cons_ne_nil _ _) fun x hx => ?_
    rcases List.mem_cons.mp hx with rfl | hx
    · exact z1
    · obtain ⟨s, hs, rfl⟩ := List.mem_map.mp hx
      exact (lw s hs).1
  · intro p hp
    obtain ⟨s, hs, rfl⟩ := List.mem_map.mp hp
    have := (lw s hs).2
    exact ⟨by show (lineT s).length ≤ _; omega, blank_split (say_ne s) (wd_say (k.says s hs).1), (k.says s hs).1, (k.says s hs).2.1⟩
  · rw [List.map_map]
    have e : l.map ((fun p : Str × Say => D.bl (soB (ev t) fs p.2)) ∘ fun s => (lineT s, s)) = l.map fun s => .bl (soL (ev t) (bestF (ev t)) s) := List.map_congr_left fun s hs0 => congrArg D.bl (so_eq k.gd.ok hs hn (k.says s hs0).1)
    rw [e]
    exact h
end Ri

set_option maxRecDepth 100000
set_option maxHeartbeats 2000000
/-! PLAIN, 8: what is drawn is said rightly. -/
namespace Ri
open PySem PySem.Spec PyProof.Rows L2 Dl
theorem best_ok {f : Fd} (ok : FdOk f) : (bestF f).length = f.n ∧ ∀ g ∈ bestF f, Red g ∧ BdF 30 g := by
  refine ⟨?_, fun g hg => ?_⟩
  · unfold bestF
    rw [List.length_map, List.length_range]
  · obtain ⟨i, hi, rfl⟩ := List.mem_map.mp hg
    obtain ⟨r, e, rr, ⟨U, hU, hiU, eU⟩, _⟩ := guess_get ok (List.mem_range.mp hi)
    obtain ⟨r2, g1, _, ⟨V, hV, hiV, eV⟩, _⟩ := least_get ok hU hiU
    rw [eU] at g1
    cases g1
    rw [e]
    refine ⟨rr, ?_⟩
    show BdF 30 r
    rw [eV]
    exact mean_bd ok (fun j hj => (mem_upLots.mp hU).1.2 j (mem_restOf.mp hj).1) (List.ne_nil_of_mem (mem_restOf.mpr ⟨hiU, hiV⟩)) (Nat.le_trans (List.length_filter_le _ _) (by have := lot_len ok hU; omega))
theorem ddF_len (l : List Fr) : (ddF l).length ≤ l.length := (ddF_nodup l).length_le_of_subset (l₂ := l) fun x hx => mem_ddF.mp hx
/-- a text in two words, in three, in one and more -/
theorem join2 (a b : Str) : a ++ " " ++ b = Txt.join " " [a, b] := by
  rw [TL.join_eq]
  refine TL.ext_tl ?_
  rw [TL.tl_join, TL.tl_append, TL.tl_append, List.append_assoc]
  rfl
theorem join3 (a b c : Str) : a ++ " " ++ b ++ " " ++ c = Txt.join " " [a, b, c] := by
  rw [TL.join_eq]
  refine TL.ext_tl ?_
  rw [TL.tl_join, TL.tl_append, TL.tl_append, TL.tl_append, TL.tl_append]
  simp only [List.append_assoc]
  rfl
theorem key2 {k a : Str} (k' : Str) (b : Str) (h : k' = k ++ " ") : k' ++ b = Txt.join " " [k, b] := by
  rw [h]
  exact join2 k b
theorem key3 {k a : Str} (k' : Str) (b c : Str) (h : k' = k ++ " ") : k' ++ b ++ " " ++ c = Txt.join " " [k, b, c] := by
  rw [h]
  exact join3 k b c
/-- all that is asked of a drawn saying -/
structure SayIs (f : Fd) (best : List Fr) (z : Str × Say × Bool) : Prop where
  txt : z.1 = lineT z.2.1
  ok : sayOk z.2.1
  so : soOk z.2.1
  ln : (sayW z.2.1).length ≤ 60
  is : z.2.2 = soL f best z.2.1
theorem nbA_is {f : Fd} (ok : FdOk f) (c : Int) (s : St) : SayIs f (bestF f) (nbA f (bestF f) c s).1 := by
  have n6 := ok.n6
  have bl := (best_ok ok).1
  have dl := ddF_len (bestF f)
  unfold nbA
  split
  · have nb := num_bd s (f.n : Int)
    exact ⟨key2 (a := "") "things " _ (by decide +kernel), i30_small (by omega), trivial, (by decide : 2 ≤ 60), rfl⟩
  · have nb := num_bd s ((ddF (bestF f)).length : Int)
    exact ⟨key2 (a := "") "levels " _ (by decide +kernel), i30_small (by omega), trivial, (by decide : 2 ≤ 60), rfl⟩
theorem nbB_is {f : Fd} (ok : FdOk f) (best : List Fr) (s : St) : SayIs f best (nbB f s).1 := by
  have n6 := ok.n6
  obtain ⟨b1, b2⟩ := drawV_bd (s := s) (m := (f.n : Int) + 3) (by omega)
  obtain ⟨b3, b4⟩ := drawV_bd (s := drawS s (f.n + 3)) (m := (f.n : Int) + 3) (by omega)
  exact ⟨key3 (a := "") "below " _ _ (by decide +kernel), ⟨i30_small (by omega), i30_small (by omega)⟩, trivial, (by decide : 3 ≤ 60), rfl⟩
theorem nbC_is {f : Fd} (ok : FdOk f) (best : List Fr) (s : St) : SayIs f best (nbC f s).1 := by
  have n6 := ok.n6
  obtain ⟨d1, d2⟩ := drawV_bd (s := s) (m := ((upLots f).length : Int)) (by have := up_ne (f := f); omega)
  have hlot : lotS f s ∈ upLots f := by
    unfold lotS
    rw [List.getD_eq_getElem?_getD, List.getElem?_eq_getElem (by omega)]
    exact List.getElem_mem _
  have ll := lot_len ok hlot
  have ll2 := (mem_upLots.mp hlot).1.2
  have key : ∀ (lot : List Nat) (a : Nat) (s3 : St), lot.length ≤ 6 → (∀ i ∈ lot, i < f.n) → (∀ i ∈ (nbL f lot a s3).1, I30 i) ∧ (nbL f lot a s3).1.length ≤ 20 := by
    intro lot a s3 h1 h2
    have i30l : ∀ i ∈ toI lot, I30 i := by
      intro i hi
      obtain ⟨j, hj, rfl⟩ := List.mem_map.mp hi
      have := h2 j hj
      exact i30_small (by omega)
    have tl : (toI lot).length = lot.length := List.length_map _
    unfold nbL
    split
    · obtain ⟨g1, g2⟩ := drawV_bd (s := drawS s3 4) (m := (f.n : Int) + 2) (by omega)
      refine ⟨fun i hi => ?_, ?_⟩
      · rcases List.mem_append.mp hi with hi | hi
        · rcases List.mem_append.mp hi with hi | hi
          · exact i30l i (List.mem_of_mem_take hi)
          · have := List.mem_singleton.mp hi
            subst this
            exact i30_small (by omega)
        · exact i30l i (List.mem_of_mem_drop hi)
      · show ((toI lot).take a ++ [_] ++ (toI lot).drop a).length ≤ 20
        rw [List.length_append, List.length_append, List.length_take, List.length_drop, tl]
        show _ + 1 + _ ≤ 20
        omega
    · split
      · refine ⟨fun i hi => ?_, ?_⟩
        · rcases List.mem_append.mp hi with hi | hi
          · exact i30l i (List.mem_of_mem_take hi)
          · exact i30l i (List.mem_of_mem_drop hi)
        · show ((toI lot).take a ++ (toI lot).drop (a + 1)).length ≤ 20
          rw [List.length_append, List.length_take, List.length_drop, tl]
          omega
      · exact ⟨i30l, by show (toI lot).length ≤ 20; omega⟩
  obtain ⟨k1, k2⟩ := key (lotS f s) (drawV (drawS s (upLots f).length) ((lotS f s).length + 1)).toNat (drawS (drawS s (upLots f).length) ((lotS f s).length + 1)) ll ll2
  unfold nbC
  refine ⟨rfl, ⟨k1, by omega⟩, trivial, ?_, rfl⟩
  show (_ :: List.map sgS _).length ≤ 60
  rw [List.length_cons, List.length_map]
  omega
theorem numbF_is {f : Fd} (ok : FdOk f) (s : St) : SayIs f (bestF f) (numbF f (bestF f) s).1 := by
  unfold numbF
  split
  · exact nbA_is ok _ _
  · split
    · exact nbB_is ok _ _
    · exact nbC_is ok _ _
theorem sayF_is {f : Fd} (ok : FdOk f) (s : St) : SayIs f (bestF f) (sayF f (bestF f) s).1 := by
  have n6 := ok.n6
  obtain ⟨bl, bb⟩ := best_ok ok
  unfold sayF
  split
  · exact numbF_is ok _
  · split
    · unfold sgA
      dsimp only
      obtain ⟨b1, b2⟩ := drawV_bd (s := drawS s 7) (m := (f.n : Int) + 2) (by omega)
      generalize hi : drawV (drawS s 7) (f.n + 2) - 1 = i
      generalize hdue : (if thereB f i then (bestF f).getD i.toNat (0, 1) else (0, 1)) = due
      have dd : Red due ∧ BdF 30 due := by
        subst hdue
        split
        · rename_i ht
          unfold thereB at ht
          rw [Bool.and_eq_true, decide_eq_true_iff, decide_eq_true_iff] at ht
          refine bb _ ?_
          rw [List.getD_eq_getElem?_getD, List.getElem?_eq_getElem (by omega)]
          exact List.getElem_mem _
        · exact ⟨red01, bd01.mono (by decide)⟩
      obtain ⟨wok, weq⟩ := worth_ok (s := drawS (drawS s 7) (f.n + 2)) dd.1 (dd.2.mono (by decide))
      refine ⟨key3 (a := "") "guess " _ _ (by decide +kernel), ⟨i30_small (by omega), wok⟩, trivial, (by decide : 3 ≤ 60), ?_⟩
      show _ = (thereB f i && decide (mkR _ = _))
      rw [weq]
    · split
      · unfold sgB
        dsimp only
        have wok := wsF_ok (bestF f) (drawS s 7) bb
        have wln := wsF_len (bestF f) (drawS s 7)
        generalize (wsF (bestF f) (drawS s 7)).2 = s2
        have key : ∀ l : List (Fr × Rf), (∀ z ∈ l, FrOk z.2 ∧ mkR z.2 = z.1) → l.length ≤ 6 → SayIs f (bestF f) (Txt.join " " ("table" :: l.map (·.2.1)), .table (l.map (·.2)), decide (l.map (·.1) = bestF f)) := by
          intro l hl hln
          refine ⟨?_, ⟨fun x hx => ?_, by rw [List.length_map]; omega⟩, trivial, ?_, ?_⟩
          · show Txt.join " " ("table" :: l.map (·.2.1)) = Txt.join " " ("table" :: (l.map (·.2)).map (·.1))
            rw [List.map_map]
            rfl
          · obtain ⟨z, hz, rfl⟩ := List.mem_map.mp hx
            exact (hl z hz).1
          · show (_ :: List.map _ _).length ≤ 60
            rw [List.length_cons, List.length_map, List.length_map]
            omega
          · show decide (l.map (·.1) = bestF f) = decide ((l.map (·.2)).map mkR = bestF f)
            have e : (l.map (·.2)).map mkR = l.map (·.1) := by
              rw [List.map_map]
              exact List.map_congr_left fun z hz => (hl z hz).2
            rw [e]
        split
        · exact key _ (fun z hz => wok z (List.mem_of_mem_drop hz)) (by rw [List.length_drop]; omega)
        · exact key _ wok (by omega)
      · unfold sgC
        dsimp only
        have iok := items_ok ok bb
        have iln : 0 < (itemsF f (bestF f)).length := by
          unfold itemsF
          rw [List.length_append]
          exact Nat.succ_pos _
        obtain ⟨d1, d2⟩ := drawV_bd (s := drawS s 7) (m := ((itemsF f (bestF f)).length : Int)) (by omega)
        have hpk : (itemsF f (bestF f)).getD (drawV (drawS s 7) (itemsF f (bestF f)).length).toNat (0, 1) ∈ itemsF f (bestF f) := by
          rw [List.getD_eq_getElem?_getD, List.getElem?_eq_getElem (by omega)]
          exact List.getElem_mem _
        obtain ⟨pr, pb⟩ := iok _ hpk
        generalize (itemsF f (bestF f)).getD (drawV (drawS s 7) (itemsF f (bestF f)).length).toNat (0, 1) = pk at pr pb
        generalize drawS (drawS s 7) (itemsF f (bestF f)).length = s2
        obtain ⟨w1r, w1b⟩ := worth_bd (s := s2) pr pb
        obtain ⟨w1ok, w1eq⟩ := worth_ok (s := s2) pr (pb.mono (by decide))
        obtain ⟨cr, cb⟩ := charge_bd ok w1b w1r.pos (bestF f)
        obtain ⟨w2ok, w2eq⟩ := worth_ok (s := (worthF s2 pk).2.2) cr (cb.mono (by decide))
        refine ⟨key3 (a := "") "charge " _ _ (by decide +kernel), ⟨w1ok, w2ok⟩, ?_, (by decide : 3 ≤ 60), ?_⟩
        · show BdF 100 (mkR _) ∧ (mkR _).2 ≠ 0
          rw [w1eq]
          exact ⟨w1b.mono (by decide), Int.ne_of_gt w1r.pos⟩
        · show _ = decide (mkR _ = chargeL f (mkR _) (bestF f))
          rw [w1eq, w2eq]
def saysF (f : Fd) (best : List Fr) : Nat → St → List (Str × Say × Bool) × St
  | 0, s => ([], s)
  | k + 1, s => ((sayF f best s).1 :: (saysF f best k (sayF f best s).2).1, (saysF f best k (sayF f best s).2).2)
theorem saysF_n {f : Fd} {best : List Fr} (hb : best.length ≤ 6) : ∀ {k n : Nat} {s : St}, StN (n + 20 * k) s → StN n (saysF f best k s).2
  | 0, _, _, h => h
  | k + 1, n, s, h => saysF_n hb (k := k) (sayF_n hb (h.mono (by omega)))
theorem saysF_is {f : Fd} (ok : FdOk f) : ∀ (k : Nat) (s : St), ∀ z ∈ (saysF f (bestF f) k s).1, SayIs f (bestF f) z
  | 0, _, z, hz => by cases hz
  | k + 1, s, z, hz => by
    rcases List.mem_cons.mp hz with rfl | hz
    · exact sayF_is ok s
    · exact saysF_is ok k _ z hz
theorem saysF_len (f : Fd) (best : List Fr) : ∀ (k : Nat) (s : St), (saysF f best k s).1.length = k
  | 0, _ => rfl
  | k + 1, s => congrArg (· + 1) (saysF_len f best k _)
end Ri

set_option maxRecDepth 100000
set_option maxHeartbeats 2000000
/-! PLAIN, 9: the sheets by hand, without sorts. -/
namespace Ri
open PySem PySem.Spec PyProof.Rows L2 Dl
theorem leI_le {a b : List Int} (h : leI a b = true) : a ≤ b := by
  rw [leI_eq] at h
  exact of_decide_eq_true h
theorem sortP_is {ls ms : List (Nat × Nat)} (hp : ms.Perm ls) (hs : ms.Pairwise fun a b => leP a b = true) : sortP ls = ms := by
  have h1 : (sortP ls).Pairwise fun a b => leP a b = true := List.pairwise_mergeSort (le := leP) (fun a b c h1 h2 => by
    unfold leP at *
    rw [leI_eq] at *
    exact decide_eq_true (List.le_trans (of_decide_eq_true h1) (of_decide_eq_true h2))) (fun a b => by
    unfold leP
    rw [leI_eq, leI_eq, Bool.or_eq_true, decide_eq_true_iff, decide_eq_true_iff]
    exact List.le_total _ _) ls
  have h2 := (sortP_perm ls).trans hp.symm
  refine List.Perm.eq_of_pairwise (le := fun a b => leP a b = true) (fun a b _ _ x y => ?_) h1 hs h2
  have e := List.le_antisymm (leI_le x) (leI_le y)
  injection e with e1 e2
  injection e2 with e2 _
  exact Prod.ext (by omega) (by omega)
theorem min_perm {ms ns : List Fr} (h : ms.Perm ns) (hm : ∀ m ∈ ms, Red m) : ms.foldl minStep none = ns.foldl minStep none := by
  cases hms : ms with
  | nil =>
    rw [hms] at h
    rw [List.nil_perm.mp h]
  | cons a r =>
    rw [← hms]
    have ne : ms ≠ [] := by rw [hms]; exact List.cons_ne_nil _ _
    have ne2 : ns ≠ [] := fun e => ne (by rw [e] at h; exact List.perm_nil.mp h)
    obtain ⟨x, e1, e2, e3⟩ := min_list ne hm
    obtain ⟨y, f1, f2, f3⟩ := min_list ne2 fun m z => hm m (h.mem_iff.mpr z)
    rw [e1, f1]
    exact congrArg some (leF_anti (hm x e2) (hm y (h.mem_iff.mpr f2)) (e3 y (h.mem_iff.mpr f2)) (f3 x (h.mem_iff.mp e2)))
theorem max_perm {ms ns : List Fr} (h : ms.Perm ns) (hm : ∀ m ∈ ms, Red m) : ms.foldl maxStep none = ns.foldl maxStep none := by
  cases hms : ms with
  | nil =>
    rw [hms] at h
    rw [List.nil_perm.mp h]
  | cons a r =>
    rw [← hms]
    have ne : ms ≠ [] := by rw [hms]; exact List.cons_ne_nil _ _
    have ne2 : ns ≠ [] := fun e => ne (by rw [e] at h; exact List.perm_nil.mp h)
    obtain ⟨x, e1, e2, e3⟩ := max_list ne hm
    obtain ⟨y, f1, f2, f3⟩ := max_list ne2 fun m z => hm m (h.mem_iff.mpr z)
    rw [e1, f1]
    exact congrArg some (leF_anti (hm x e2) (hm y (h.mem_iff.mpr f2)) (f3 x (h.mem_iff.mp e2)) (e3 y (h.mem_iff.mpr f2)))
/-- with each thing all above it, by the ties -/
def isUpD (f : Fd) (l : List Nat) : Bool := f.ties.all fun p => !decide (p.1 ∈ l) || decide (p.2 ∈ l)
def rawD (f : Fd) : List (List Nat) := (lotsN f.n).filter (isUpD f)
theorem isUpD_eq (f : Fd) (l : List Nat) : isUpB f l = isUpD f l := by
  rw [Bool.eq_iff_iff, isUpB_iff]
  unfold isUpD
  rw [List.all_eq_true]
  constructor
  · intro h p hp
    by_cases q : p.1 ∈ l
    · have := h p.1 q p.2 hp
      simp [this]
    · simp [q]
  · intro h i hi j hj
    have := h _ hj
    simpa [hi] using this
theorem raw_perm (f : Fd) : (upLots f).Perm (rawD f) := by
  have e : rawD f = (lotsN f.n).filter (isUpB f) := by
    unfold rawD
    exact List.filter_congr fun l _ => (isUpD_eq f l).symm
  rw [e]
  exact sortN_perm _
def bestG (f : Fd) : List Fr := (List.range f.n).map fun i => (guess f (rawD f) i).getD (0, 1)
theorem best_raw {f : Fd} (ok : FdOk f) : bestF f = bestG f := by
  have hp := raw_perm f
  unfold bestF bestG
  refine List.map_congr_left fun i _ => congrArg (fun o => Option.getD o (0, 1)) ?_
  have hl : ∀ U ∈ upLots f, i ∈ U → least f (upLots f) i U = least f (rawD f) i U := by
    intro U hU hi
    refine min_perm ((hp.filter _).map _) fun m hm => ?_
    obtain ⟨V, hV, rfl⟩ := List.mem_map.mp hm
    have hV2 := (List.mem_filter.mp hV).2
    exact rest_red ok hU hi (by simpa using hV2)
  have e1 : ((upLots f).filter fun l => decide (i ∈ l)).map (fun lot => (least f (upLots f) i lot).getD (0, 1)) = ((upLots f).filter fun l => decide (i ∈ l)).map fun lot => (least f (rawD f) i lot).getD (0, 1) := by
    refine List.map_congr_left fun U hU => ?_
    obtain ⟨h1, h2⟩ := List.mem_filter.mp hU
    rw [hl U h1 (of_decide_eq_true h2)]
  unfold guess
  rw [e1]
  refine max_perm ((hp.filter _).map _) fun m hm => ?_
  obtain ⟨U, hU, rfl⟩ := List.mem_map.mp hm
  obtain ⟨h1, h2⟩ := List.mem_filter.mp hU
  have h2 := of_decide_eq_true h2
  obtain ⟨r, g1, g2, _⟩ := least_get ok h1 h2
  rw [← hl U h1 h2, g1]
  exact g2
def soK (f : Fd) (best : List Fr) (us : List (List Nat)) : Say → Bool
  | .up l => decide (l ∈ us.map toI)
  | s => soL f best s
theorem so_raw {f : Fd} (ok : FdOk f) (s : Say) : soL f (bestF f) s = soK f (bestG f) (rawD f) s := by
  rw [← best_raw ok]
  cases s <;> first | rfl | skip
  exact decide_eq_decide.mpr ((raw_perm f).map toI).mem_iff
/-! the sheets -/
def hT1 : Tm := .belw (.thing 3 1) (.belw (.thing 1 1) (.thing 5 2))
def hF1 : Fd := ⟨3, [(0, 1), (0, 2), (1, 2)], [(3, 1), (1, 1), (5, 2)]⟩
theorem hF1_is : ev hT1 = hF1 := by
  have e1 : ev (.belw (.thing 1 1) (.thing 5 2)) = ⟨2, [(0, 1)], [(1, 1), (5, 2)]⟩ := by
    show laidF _ _ _ = _
    unfold laidF
    rw [sortP_is (ms := [(0, 1)]) (by decide +kernel) (by decide +kernel)]
    rfl
  show laidF (ev (.thing 3 1)) (ev (.belw (.thing 1 1) (.thing 5 2))) true = _
  rw [e1]
  unfold laidF
  rw [sortP_is (ms := [(0, 1), (0, 2), (1, 2)]) (by decide +kernel) (by decide +kernel)]
  rfl
def hL1 : List Say := [.things 3, .levels 2, .guess 0 ("2", 2, 1), .guess 1 ("4/2", 4, 2), .guess 2 ("5", 5, 1), .guess 2 ("10/2", 10, 2), .table [("2", 2, 1), ("2", 2, 1), ("5", 5, 1)], .table [("2", 2, 1), ("2", 2, 1)],
  .below 0 2, .below 2 0, .below 0 3, .up [1, 2], .up [], .up [0, 1, 2], .up [1], .up [2, 1], .up [2, 2], .guess 3 ("5", 5, 1), .guess (-1) ("5", 5, 1), .guess (-3) ("2", 2, 1), .below (-3) 2, .below 0 (-1), .up [-1], .up [-2, -1]]
def hB1 : List Bool := [true, true, true, true, true, true, true, false, true, false, false, true, true, true, false, false, false, false, false, false, false, false, false, false]
def hL2 : List Say := [.charge ("2", 2, 1) ("1", 1, 1), .charge ("2", 2, 1) ("2/2", 2, 2), .charge ("3/2", 3, 2) ("1/2", 1, 2), .charge ("5/2", 5, 2) ("1/2", 1, 2), .charge ("5", 5, 1) ("0", 0, 1), .charge ("6", 6, 1) ("0", 0, 1), .charge ("4", 4, 1) ("1", 1, 1)]
def hB2 : List Bool := [true, true, true, true, true, true, false]
def hF0 : Fd := ⟨0, [], []⟩
def hL3 : List Say := [.things 0, .levels 0, .table [], .up [], .up [0], .charge ("1/3", 1, 3) ("0/7", 0, 7), .guess 0 ("0", 0, 1), .below 0 0, .table [("0", 0, 1)]]
def hB3 : List Bool := [true, true, true, true, false, true, false, false, false]
def hT4 : Tm := .thing 7 3
def hF4 : Fd := ⟨1, [], [(7, 3)]⟩
def hL4 : List Say := List.replicate 30 (.guess 0 ("7", 7, 1))
def hB4 : List Bool := List.replicate 30 true
theorem hR1 : hL1.map (soK hF1 (bestG hF1) (rawD hF1)) = hB1 := by decide +kernel
theorem hR2 : hL2.map (soK hF1 (bestG hF1) (rawD hF1)) = hB2 := by decide +kernel
theorem hR3 : hL3.map (soK hF0 (bestG hF0) (rawD hF0)) = hB3 := by decide +kernel
theorem hR4 : hL4.map (soK hF4 (bestG hF4) (rawD hF4)) = hB4 := by decide +kernel
end Ri

set_option maxRecDepth 100000
set_option maxHeartbeats 2000000
/-! THE LAW'S DEFS, 13: the sheets by hand. -/
namespace Ri
open PySem PySem.Spec PyProof.Rows L2 Dl
def okRf (x : Rf) : Bool := decide (x.2.1.natAbs < 10 ^ 30) && ((decide (x.1 = sgS x.2.1) && decide (x.2.2 = 1)) || (decide (x.1 = frS x.2.1 x.2.2) && (decide (1 ≤ x.2.2) && decide (x.2.2.natAbs < 10 ^ 30))))
theorem okRf_ok {x : Rf} (h : okRf x = true) : FrOk x := by
  unfold okRf at h
  simp only [Bool.and_eq_true, Bool.or_eq_true, decide_eq_true_eq] at h
  obtain ⟨h1, h2⟩ := h
  have hs : ∀ b : Int, b.natAbs < 10 ^ 30 → Sm b := fun b hb => sm_of 100 (Nat.lt_trans hb (by decide)) (by decide) (by decide)
  rcases h2 with ⟨e1, e2⟩ | ⟨e1, e2, e3⟩
  · exact ⟨⟨h1, .inl ⟨e1, e2⟩⟩, by omega, by rw [e2]; exact hs 1 (by decide)⟩
  · exact ⟨⟨h1, .inr ⟨e1, e2, e3⟩⟩, by omega, hs _ e3⟩
def okI (i : Int) : Bool := decide (i.natAbs < 10 ^ 30)
theorem okI_ok {i : Int} (h : okI i = true) : I30 i := (of_decide_eq_true h : i.natAbs < 10 ^ 30)
def okSay : Say → Bool
  | .things k => okI k
  | .levels k => okI k
  | .below i j => okI i && okI j
  | .up l => l.all okI && decide (l.length ≤ 50)
  | .guess i x => okI i && okRf x
  | .table l => l.all okRf && decide (l.length ≤ 50)
  | .charge x y => okRf x && (okRf y && (decide ((mkR x).1.natAbs < 2 ^ 100) && decide ((mkR x).2.natAbs < 2 ^ 100)))
theorem okSay_ok {s : Say} (h : okSay s = true) : sayOk s ∧ soOk s ∧ (sayW s).length ≤ 60 := by
  cases s with
  | things k => exact ⟨okI_ok h, trivial, (by decide : 2 ≤ 60)⟩
  | levels k => exact ⟨okI_ok h, trivial, (by decide : 2 ≤ 60)⟩
  | below i j =>
    obtain ⟨h1, h2⟩ := Bool.and_eq_true_iff.mp h
    exact ⟨⟨okI_ok h1, okI_ok h2⟩, trivial, (by decide : 3 ≤ 60)⟩
  | up l =>
    obtain ⟨h1, h2⟩ := Bool.and_eq_true_iff.mp h
    have h2 := of_decide_eq_true h2
    refine ⟨⟨fun i hi => okI_ok (List.all_eq_true.mp h1 i hi), by omega⟩, trivial, ?_⟩
    show (_ :: List.map _ l).length ≤ 60
    rw [List.length_cons, List.length_map]
    omega
  | guess i x =>
    obtain ⟨h1, h2⟩ := Bool.and_eq_true_iff.mp h
    exact ⟨⟨okI_ok h1, okRf_ok h2⟩, trivial, (by decide : 3 ≤ 60)⟩
  | table l =>
    obtain ⟨h1, h2⟩ := Bool.and_eq_true_iff.mp h
    have h2 := of_decide_eq_true h2
    refine ⟨⟨fun x hx => okRf_ok (List.all_eq_true.mp h1 x hx), by omega⟩, trivial, ?_⟩
    show (_ :: List.map _ l).length ≤ 60
    rw [List.length_cons, List.length_map]
    omega
  | charge x y =>
    obtain ⟨h1, h2⟩ := Bool.and_eq_true_iff.mp h
    obtain ⟨h2, h3⟩ := Bool.and_eq_true_iff.mp h2
    obtain ⟨h3, h4⟩ := Bool.and_eq_true_iff.mp h3
    have k := okRf_ok h1
    exact ⟨⟨k, okRf_ok h2⟩, ⟨⟨(of_decide_eq_true h3 : (mkR x).1.natAbs < 2 ^ 100), (of_decide_eq_true h4 : (mkR x).2.natAbs < 2 ^ 100)⟩, Int.ne_of_gt (mk_red (fr_pos k)).pos⟩, (by decide : 3 ≤ 60)⟩
theorem says_ok {l : List Say} (h : l.all okSay = true) : ∀ s ∈ l, sayOk s ∧ soOk s ∧ (sayW s).length ≤ 60 := fun s hs => okSay_ok (List.all_eq_true.mp h s hs)
theorem dr1 {a b : Int} (h : -900 ≤ a ∧ a ≤ 900 ∧ 1 ≤ b ∧ b ≤ 4) : Dr 900 4 2 3 2 (.thing a b) := (dr_thing h).mono (by decide) (by decide) (by decide) (by decide) (by decide)
theorem drT1 : Dr 900 4 4 7 3 hT1 := by
  have h1 := (dr_besd (dr_thing (a := 1) (b := 1) (by decide)) (dr_thing (a := 5) (b := 2) (by decide)) (by decide)).2
  exact ((dr_besd (dr1 (a := 3) (b := 1) (by decide)) h1 (by decide)).2).mono (by decide) (by decide) (by decide) (by decide) (by decide)
theorem dr_sheet {V W : Int} {n m d : Nat} {t : Tm} {l : List Say} (k : Dr V W n m d t) (hd : d ≤ 4) (hm : m ≤ 19) (hl : l.length ≤ 100) (hs : ∀ s ∈ l, sayOk s ∧ soOk s ∧ (sayW s).length ≤ 60) : SheetOk t l :=
  ⟨k.gd, Nat.le_trans k.dep_ hd, k.nums_, Nat.le_trans k.sz_ hm, k.ok_, hl, hs⟩
theorem sh1 : SheetOk hT1 hL1 := dr_sheet drT1 (by decide) (by decide) (by decide) (says_ok (by decide +kernel))
theorem sh2 : SheetOk hT1 hL2 := dr_sheet drT1 (by decide) (by decide) (by decide) (says_ok (by decide +kernel))
theorem sh3 : SheetOk .none hL3 := dr_sheet dr_none (by decide) (by decide) (by decide) (says_ok (by decide +kernel))
theorem sh5 : SheetOk .none [] := dr_sheet dr_none (by decide) (by decide) (by decide) (fun s hs => by cases hs)
theorem sh4 : SheetOk hT4 hL4 := dr_sheet (dr_thing (a := 7) (b := 3) (by decide)) (by decide) (by decide) (by decide) (says_ok (by decide +kernel))
def bsD (l : List Bool) : D := .tup (l.map .bl)
theorem hand_l {pT : Addr} {O : DO} {Q : D → DO → Prop} {t : Tm} {l : List Say} {f : Fd} {bs : List Bool} {x : Str} (k : SheetOk t l) (hf : ev t = f) (hx : x = sheetT t l) (hb : l.map (soK f (bestG f) (rawD f)) = bs) (hT : O pT = some (.tbl qT)) (h : Q (bsD bs) O) : gJudged pT [.str x] O Q := by
  subst hx
  refine judged_l k hT ?_
  have e : (l.map fun s => D.bl (soL (ev t) (bestF (ev t)) s)) = bs.map D.bl := by
    rw [← hb, List.map_map]
    refine List.map_congr_left fun s _ => ?_
    show D.bl _ = D.bl _
    rw [so_raw k.gd.ok, hf]
  rw [e]
  exact h
theorem bls_eqv : ∀ a b : List Bool, PyData.eqvAll (toPys (a.map D.bl)) (toPys (b.map D.bl)) = decide (a = b)
  | [], [] => by simp [toPys, PyData.eqvAll]
  | [], y :: b => by simp [toPys, PyData.eqvAll]
  | x :: a, [] => by simp [toPys, PyData.eqvAll]
  | x :: a, y :: b => by
    show (PyData.eqv (.bool x) (.bool y) && PyData.eqvAll (toPys (a.map D.bl)) (toPys (b.map D.bl))) = _
    rw [bls_eqv a b]
    by_cases h2 : a = b
    · cases x <;> cases y <;> simp [h2, PyData.eqv]
    · cases x <;> cases y <;> simp [h2, PyData.eqv]
theorem okDs_bls : ∀ (n : Nat) (a : List Bool), okDs n (a.map D.bl) = true
  | n, [] => by cases n <;> rfl
  | n, x :: a => by
    show (okD n (.bl x) && okDs n (a.map D.bl)) = true
    rw [okDs_bls n a]
    cases n <;> rfl
theorem ne_bls {O : DO} {k : D → Prop} {a b : List Bool} {x y : D} (hx : x = bsD a) (hy : y = bsD b) (h : k (.bl (!decide (a = b)))) : gNe O x y k := by
  subst hx hy
  refine ⟨okDs_bls 59 a, okDs_bls 59 b, ?_⟩
  show k (.bl (!PyData.eqvAll (toPys (a.map D.bl)) (toPys (b.map D.bl))))
  rw [bls_eqv]
  exact h
theorem eq_bls {O : DO} {k : D → Prop} {a b : List Bool} {x y : D} (hx : x = bsD a) (hy : y = bsD b) (h : k (.bl (decide (a = b)))) : gEq O x y k := by
  subst hx hy
  refine ⟨okDs_bls 59 a, okDs_bls 59 b, ?_⟩
  show k (.bl (PyData.eqvAll (toPys (a.map D.bl)) (toPys (b.map D.bl))))
  rw [bls_eqv]
  exact h
def hW1a : List Str := ["things 3", "levels 2", "guess 0 2", "guess 1 4/2", "guess 2 5", "guess 2 10/2", "table 2 2 5", "table 2 2"]
def hW1b : List Str := ["below 0 2", "below 2 0", "below 0 3", "up 1 2", "up", "up 0 1 2", "up 1", "up 2 1", "up 2 2"]
def hW1c : List Str := ["guess 3 5", "guess -1 5", "guess -3 2", "below -3 2", "below 0 -1", "up -1", "up -2 -1"]
def hW2 : List Str := ["charge 2 1", "charge 2 2/2", "charge 3/2 1/2", "charge 5/2 1/2", "charge 5 0", "charge 6 0", "charge 4 1"]
def hW3 : List Str := ["things 0", "levels 0", "table", "up", "up 0", "charge 1/3 0/7", "guess 0 0", "below 0 0", "table 0"]
theorem hX1 : Str.ofString "below thing 3 1 below thing 1 1 thing 5 2\n" ++ Txt.join "\n" (hW1a ++ hW1b ++ hW1c) = sheetT hT1 hL1 := by decide +kernel
theorem hX2 : Str.ofString "below thing 3 1 below thing 1 1 thing 5 2\n" ++ Txt.join "\n" hW2 = sheetT hT1 hL2 := by decide +kernel
theorem hX3 : Str.ofString "none\n" ++ Txt.join "\n" hW3 = sheetT .none hL3 := by decide +kernel
theorem hX5 : Str.ofString "none" = sheetT .none [] := by decide +kernel
theorem hX4 : Str.ofString "thing 7 3" ++ repS "\nguess 0 7" 30 = sheetT hT4 hL4 := by decide +kernel
section
variable {a b : TDS} {te : TD} {tr : TDA} {N B C : DEnv → DO → Prop} {Rt : D → DO → Prop} {env : DEnv} {O : DO} {Q : D → DO → Prop} {QA : List D → DO → Prop}
theorem seq_f (h : a ⟨b ⟨N, Rt, B, C⟩, Rt, B, C⟩ env O) : tdSeq a b ⟨N, Rt, B, C⟩ env O := h
theorem asg_f {i : Nat} (h : te env O fun d O1 => N (stE env i d) O1) : tdAsg te (gdN i) ⟨N, Rt, B, C⟩ env O := h
theorem nx_f (h : N env O) : tdNx ⟨N, Rt, B, C⟩ env O := h
theorem ret_f (h : te env O Rt) : tdRet te ⟨N, Rt, B, C⟩ env O := h
theorem consC {d : D} (h : tr env O fun xs O2 => QA (d :: xs) O2) : tdCons (tdC d) tr env O QA := h
theorem lst_f (h : tr env O fun ds O1 => needB (szB ds.length) (Q (.lst ds) O1)) : tdLst tr env O Q := h
theorem tup_f (h : tr env O fun ds O1 => needB (szB ds.length) (Q (.tup ds) O1)) : tdTup tr env O Q := h
theorem mul_tup {x : D} {n : Nat} {k : D → Prop} (h : 2 ≤ n ∧ n ≤ 1000) (hk : k (.tup (List.replicate n [x]).flatten)) : gMul O (.tup [x]) (.int (n : Int)) k := ⟨⟨List.cons_ne_nil _ _, by omega, by omega, (by decide : 1 ≤ 1000)⟩, hk⟩
theorem mulS_i {k : D → Prop} (hk : k (.str (repS "\nguess 0 7" 30))) : gMulS O (.str "\nguess 0 7") (.int 30) k := needB_i (c := decide ((2 : Int) ≤ 30) && decide ((30 : Int) ≤ 1000) && Nat.ble 1 (Str.ofString "\nguess 0 7").length && Nat.ble (Str.ofString "\nguess 0 7").length 1000) (by decide +kernel) hk
theorem add_tup {x y : List D} {k : D → Prop} (h : x.length + y.length ≤ 16777216) (hk : k (.tup (x ++ y))) : gAdd O (.tup x) (.tup y) k := needB_i (szB_i h) hk
end
section
variable {w : World} {K : PySem.W.Frag} {mg : Str → Option Value} {base : Heap} {aI aF aL aC cT_ pT : Addr}
def gLHand (pT : Addr) : GC := fun ds O Q => match ds with
  | [] => O pT = some (.tbl qT) ∧ Q (.bl true) O
  | _ => False
theorem k_law_hand_right (c : Hd w K mg base aI aF aL aC cT_ pT) : Dl.Def prog w K mg base 13 "_law_hand_right" [] (gLHand pT) := by
  have k_judged := k_judged c
  have S : FnScope ["_law_text_here", "_law_rows", "_law_due"] [] (defScope s_law_hand_right) := C8.fnScope_by (by kernel_rfl)
  have hN := S.nd
  refine def_ok c.f_law_hand_right S (fun _ _ _ _ _ _ us hl => match us, hl with | [], _ => rfl) (fun ds O R h => ?_) fun f cdv A outer s H E hr => ⟨_, have hu := room64 hr; have hu5 := room65 hr; have hu1 := room1 hr; (s_cons (s_set 0 hN d_str)
  (s_cons (s_set 1 hN (d_lst (a_cons d_str (a_cons d_str (a_cons d_str (a_cons d_str (a_cons d_str (a_cons d_str (a_cons d_str (a_cons d_str a_nil))))))))))
  (s_cons (s_set 1 hN (d_op o_add (dv 1) (d_lst (a_cons d_str (a_cons d_str (a_cons d_str (a_cons d_str (a_cons d_str (a_cons d_str (a_cons d_str (a_cons d_str (a_cons d_str a_nil))))))))))))
  (s_cons (s_set 1 hN (d_op o_add (dv 1) (d_lst (a_cons d_str (a_cons d_str (a_cons d_str (a_cons d_str (a_cons d_str (a_cons d_str (a_cons d_str a_nil))))))))))
  (s_cons (s_set 2 hN (d_op o_add (d_op o_add (d_op o_mul (d_tup (a_cons d_bl a_nil)) d_int) (d_tup (a_cons d_bl (a_cons d_bl (a_cons d_bl (a_cons d_bl (a_cons d_bl (a_cons d_bl (a_cons d_bl a_nil))))))))) (d_op o_mul (d_tup (a_cons d_bl a_nil)) d_int)))
  (s_cons (s_if (t_cmp (o_ne hu) (d_call k_judged hr (by decide) (a_cons (d_op o_add (dv 0) (d_join d_str (dv 1))) a_nil)) (dv 2))
  (s_one (s_ret d_bl))
  s_nil)
  (s_cons (s_set 1 hN (d_lst (a_cons d_str (a_cons d_str (a_cons d_str (a_cons d_str (a_cons d_str (a_cons d_str (a_cons d_str a_nil)))))))))
  (s_cons (s_if (t_cmp (o_ne hu) (d_call k_judged hr (by decide) (a_cons (d_op o_add (dv 0) (d_join d_str (dv 1))) a_nil)) (d_op o_add (d_op o_mul (d_tup (a_cons d_bl a_nil)) d_int) (d_tup (a_cons d_bl a_nil))))
  (s_one (s_ret d_bl))
  s_nil)
  (s_cons (s_set 1 hN (d_lst (a_cons d_str (a_cons d_str (a_cons d_str (a_cons d_str (a_cons d_str (a_cons d_str (a_cons d_str (a_cons d_str (a_cons d_str a_nil)))))))))))
  (s_cons (s_if (t_cmp (o_ne hu) (d_call k_judged hr (by decide) (a_cons (d_op o_add d_str (d_join d_str (dv 1))) a_nil)) (d_tup (a_cons d_bl (a_cons d_bl (a_cons d_bl (a_cons d_bl (a_cons d_bl (a_cons d_bl (a_cons d_bl (a_cons d_bl (a_cons d_bl a_nil)))))))))))
  (s_one (s_ret d_bl))
  s_nil)
  (s_one (s_ret (d_and (d_cmp (o_eq hu) (d_call k_judged hr (by decide) (a_cons d_str a_nil)) (d_tup a_nil)) (d_one (d_cmp (o_eq hu) (d_call k_judged hr (by decide) (a_cons (d_op o_add d_str (d_op o_mulS d_str d_int)) a_nil)) (d_op o_mul (d_tup (a_cons d_bl a_nil)) d_int)))))))))))))))), fun ds O R h => ?_⟩
  · unfold gLHand at h
    split at h <;> first | rfl | exact h.elim
  · unfold gLHand at h
    split at h
    · obtain ⟨hT, h⟩ := h
      refine seq_f (asg_f (c_v ?_))
      refine seq_f (asg_f (lst_f (consC (consC (consC (consC (consC (consC (consC (consC (nil_v ?_)))))))))))
      refine needB_i rfl ?_
      refine seq_f (asg_f (op_l (v_i (i := 1) (d := .lst (hW1a.map .str)) rfl (lst_f (consC (consC (consC (consC (consC (consC (consC (consC (consC (nil_v ?_))))))))))))))
      refine needB_i rfl (add_lst (by decide) ?_)
      refine seq_f (asg_f (op_l (v_i (i := 1) (d := .lst ((hW1a ++ hW1b).map .str)) rfl (lst_f (consC (consC (consC (consC (consC (consC (consC (nil_v ?_))))))))))))
      refine needB_i rfl (add_lst (by decide) ?_)
      refine seq_f (asg_f (op_l (op_l (op_l (tup_f (consC (nil_v (needB_i rfl (c_v (mul_tup (n := 7) (by decide) ?_))))))))))
      refine tup_f (consC (consC (consC (consC (consC (consC (consC (nil_v ?_))))))))
      refine needB_i rfl (add_tup (by decide) ?_)
      refine op_l (tup_f (consC (nil_v (needB_i rfl (c_v (mul_tup (n := 10) (by decide) (add_tup (by decide) ?_)))))))
      refine seq_f (ifS_f (fun Q' q' => ?_) ?_)
      · refine tt_l (op_l (call_v (cons_v (op_l (v_i (i := 0) rfl (join_v (v_i (i := 1) (d := .lst ((hW1a ++ hW1b ++ hW1c).map .str)) rfl ?_)))))))
        refine ⟨hW1a ++ hW1b ++ hW1c, rfl, by decide +kernel, add_str (by decide +kernel) (nil_v ?_)⟩
        refine hand_l sh1 hF1_is hX1 hR1 hT ?_
        refine v_i (i := 2) (d := bsD hB1) rfl (ne_bls rfl rfl ?_)
        rw [decide_eq_true rfl]
        exact q'
      refine nx_f ?_
      refine seq_f (asg_f (lst_f (consC (consC (consC (consC (consC (consC (consC (nil_v ?_))))))))))
      refine needB_i rfl ?_
      refine seq_f (ifS_f (fun Q' q' => ?_) ?_)
      · refine tt_l (op_l (call_v (cons_v (op_l (v_i (i := 0) rfl (join_v (v_i (i := 1) (d := .lst (hW2.map .str)) rfl ?_)))))))
        refine ⟨hW2, rfl, by decide +kernel, add_str (by decide +kernel) (nil_v ?_)⟩
        refine hand_l sh2 hF1_is hX2 hR2 hT ?_
        refine op_l (op_l (tup_f (consC (nil_v (needB_i rfl (c_v (mul_tup (n := 6) (by decide) ?_)))))))
        refine tup_f (consC (nil_v (needB_i rfl (add_tup (by decide) ?_))))
        refine ne_bls (b := hB2) rfl rfl ?_
        rw [decide_eq_true rfl]
        exact q'
      refine nx_f ?_
      refine seq_f (asg_f (lst_f (consC (consC (consC (consC (consC (consC (consC (consC (consC (nil_v ?_))))))))))))
      refine needB_i rfl ?_
      refine seq_f (ifS_f (fun Q' q' => ?_) ?_)
      · refine tt_l (op_l (call_v (cons_v (op_l (c_v (join_v (v_i (i := 1) (d := .lst (hW3.map .str)) rfl ?_)))))))
        refine ⟨hW3, rfl, by decide +kernel, add_str (by decide +kernel) (nil_v ?_)⟩
        refine hand_l (f := hF0) sh3 rfl hX3 hR3 hT ?_
        refine tup_f (consC (consC (consC (consC (consC (consC (consC (consC (consC (nil_v ?_))))))))))
        refine needB_i rfl (ne_bls (b := hB3) rfl rfl ?_)
        rw [decide_eq_true rfl]
        exact q'
      refine nx_f (ret_f ?_)
      refine and_l (op_l (call_v (consC (nil_v ?_))))
      refine hand_l (f := hF0) (bs := []) sh5 rfl hX5 rfl hT ?_
      refine tup_f (nil_v (needB_i rfl (eq_bls (b := []) rfl rfl ?_)))
      refine ⟨true, rfl, fun _ => ?_, fun e => by cases e⟩
      refine op_l (call_v (cons_v (op_l (c_v (op_l (c_v (c_v ?_)))))))
      refine mulS_i ?_
      refine add_str (by decide +kernel) (nil_v ?_)
      refine hand_l (f := hF4) sh4 rfl hX4 hR4 hT ?_
      refine op_l (tup_f (consC (nil_v (needB_i rfl (c_v (mul_tup (n := 30) (by decide) ?_))))))
      refine eq_bls (b := hB4) rfl rfl ?_
      rw [decide_eq_true rfl]
      exact Fin.i h
    · exact h.elim
end
end Ri

set_option maxRecDepth 100000
set_option maxHeartbeats 2000000
/-! THE LAW'S DEFS, 14: the law. -/
namespace Ri
open PySem PySem.Spec PyProof.Rows L2 Dl
theorem i30_log {i : Int} (h : I30 i) : i.natAbs.log2 < 1920 := by
  have h1 : i.natAbs < 2 ^ 100 := Nat.lt_trans h (by decide)
  exact Nat.lt_of_lt_of_le (PySem.Flt.log2_lt_of (by decide) h1) (by decide)
theorem txt_i {i : Int} (h : I30 i) : TxtOf (.int i, sgS i) := .inr ⟨i, rfl, rfl, i30_log h⟩
theorem txt_s {x : Str} : TxtOf (.str x, x) := .inl rfl
theorem thg_txt (t : Tm) (h : nums t) : ∀ z ∈ thg t, TxtOf z := by
  induction t with
  | thing a b =>
    intro z hz
    rcases List.mem_cons.mp hz with rfl | hz
    · exact txt_s
    · rcases List.mem_cons.mp hz with rfl | hz
      · exact txt_i h.1
      · have := List.mem_singleton.mp hz
        subst this
        exact txt_i h.2
  | none =>
    intro z hz
    have := List.mem_singleton.mp hz
    subst this
    exact txt_s
  | besd s t h1 h2 =>
    intro z hz
    rcases List.mem_cons.mp hz with rfl | hz
    · exact txt_s
    · rcases List.mem_append.mp hz with hz | hz
      · exact h1 h.1 z hz
      · exact h2 h.2 z hz
  | belw s t h1 h2 =>
    intro z hz
    rcases List.mem_cons.mp hz with rfl | hz
    · exact txt_s
    · rcases List.mem_append.mp hz with hz | hz
      · exact h1 h.1 z hz
      · exact h2 h.2 z hz
  | row t k ih =>
    intro z hz
    rcases List.mem_cons.mp hz with rfl | hz
    · exact txt_s
    · rcases List.mem_cons.mp hz with rfl | hz
      · exact txt_i h.1
      · exact ih h.2 z hz
  | turned t ih =>
    intro z hz
    rcases List.mem_cons.mp hz with rfl | hz
    · exact txt_s
    · exact ih h z hz
  | moved t k ih =>
    intro z hz
    rcases List.mem_cons.mp hz with rfl | hz
    · exact txt_s
    · rcases List.mem_cons.mp hz with rfl | hz
      · exact txt_i h.1
      · exact ih h.2 z hz
  | times t k ih =>
    intro z hz
    rcases List.mem_cons.mp hz with rfl | hz
    · exact txt_s
    · rcases List.mem_cons.mp hz with rfl | hz
      · exact txt_i h.1
      · exact ih h.2 z hz
theorem sum_len (m : Nat) : ∀ ws : List Str, (∀ x ∈ ws, x.length ≤ m) → (ws.map (·.length)).sum ≤ m * ws.length
  | [], _ => Nat.zero_le _
  | x :: ws, h => by
    have h1 := h x List.mem_cons_self
    have h2 := sum_len m ws fun y hy => h y (List.mem_cons_of_mem _ hy)
    rw [List.map_cons, List.sum_cons, List.length_cons, Nat.mul_succ]
    omega
/-! repr of two rows of truths -/
theorem bools_all (bs : List Bool) : PyData.showableAll (toPys (bs.map .bl)) = true ∧ PyData.hasDictAll (toPys (bs.map .bl)) = false := by
  induction bs with
  | nil => exact ⟨rfl, rfl⟩
  | cons b bs ih =>
    refine ⟨?_, ?_⟩
    · show (PyData.showable (.bool b) && PyData.showableAll (toPys (bs.map .bl))) = true
      rw [ih.1]
      rfl
    · show (PyData.hasDict (.bool b) || PyData.hasDictAll (toPys (bs.map .bl))) = false
      rw [ih.2]
      rfl
theorem bools_shown (bs : List Bool) : (PyData.shownAll (toPys (bs.map .bl))).length = bs.length ∧ ∀ x ∈ PyData.shownAll (toPys (bs.map .bl)), x.length ≤ 5 := by
  induction bs with
  | nil => exact ⟨rfl, fun x hx => by cases hx⟩
  | cons b bs ih =>
    refine ⟨congrArg (· + 1) ih.1, fun x hx => ?_⟩
    rcases List.mem_cons.mp (show x ∈ PyData.shown (.bool b) :: PyData.shownAll (toPys (bs.map .bl)) from hx) with rfl | hx
    · cases b
      · exact (by decide +kernel : (PyData.shown (.bool false)).length ≤ 5)
      · exact (by decide +kernel : (PyData.shown (.bool true)).length ≤ 5)
    · exact ih.2 x hx
theorem tup_shown {bs : List Bool} (h : bs.length ≤ 100) : (toPy (bsD bs)).shown.length ≤ 1000 := by
  obtain ⟨h1, h2⟩ := bools_shown bs
  show (tupleText (PyData.shownAll (toPys (bs.map .bl)))).length ≤ 1000
  unfold tupleText
  rw [strLen_append, strLen_append, ← TL.join_eq]
  have h3 := join_len (y := ", ") 5 h2
  have e1 : (Str.ofString ", ").length = 2 := rfl
  have e2 : (Str.ofString "(").length = 1 := rfl
  rw [e1, h1] at h3
  have e3 : ∀ c : Bool, (Str.ofString (if c then ",)" else ")")).length ≤ 2 := by
    intro c
    cases c
    · exact (by decide +kernel)
    · exact (by decide +kernel)
  have h4 := e3 ((PyData.shownAll (toPys (bs.map D.bl))).length == 1)
  have h5 : (Txt.join ", " (PyData.shownAll (toPys (bs.map D.bl)))).length ≤ 700 := by omega
  refine Nat.le_trans (Nat.add_le_add (Nat.add_le_add (Nat.le_of_eq e2) h5) h4) (by decide)
theorem repr_ok {bs : List Bool} (h : bs.length ≤ 100) : reprOk (.lst [bsD bs, bsD bs]) = true := by
  have hs := tup_shown h
  obtain ⟨a1, a2⟩ := bools_all bs
  unfold reprOk
  have k1 : okD 60 (.lst [bsD bs, bsD bs]) = true := by
    show (okDs 58 (bs.map .bl) && (okDs 58 (bs.map .bl) && true)) = true
    rw [okDs_bls]
    rfl
  have k2 : (toPy (.lst [bsD bs, bsD bs])).showable = true := by
    show (PyData.showableAll (toPys (bs.map .bl)) && (PyData.showableAll (toPys (bs.map .bl)) && true)) = true
    rw [a1]
    rfl
  have k3 : (toPy (.lst [bsD bs, bsD bs])).hasDict = false := by
    show (PyData.hasDictAll (toPys (bs.map .bl)) || (PyData.hasDictAll (toPys (bs.map .bl)) || false)) = false
    rw [a2]
    rfl
  have k4 : (toPy (.lst [bsD bs, bsD bs])).shown.length + 64 ≤ 16777216 := by
    have e : (toPy (.lst [bsD bs, bsD bs])).shown = listText [(toPy (bsD bs)).shown, (toPy (bsD bs)).shown] := rfl
    rw [e]
    generalize (toPy (bsD bs)).shown = x at hs
    have : (listText [x, x]).length ≤ 2010 := by
      show ((("[" : Str) ++ ("" : String) ++ x ++ (", " : String) ++ x) ++ "]").length ≤ 2010
      simp only [strLen_append]
      have e1 : (Str.ofString "[").length = 1 := rfl
      have e2 : (Str.ofString "").length = 0 := rfl
      have e3 : (Str.ofString ", ").length = 2 := rfl
      have e4 : (Str.ofString "]").length = 1 := rfl
      rw [e1, e2, e3, e4]
      omega
    omega
  rw [k1, k2, k3, Nat.ble_eq_true_of_le k4]
  rfl
theorem len_xls {xs : List D} {O : DO} {Q : D → DO → Prop} (h : Q (.int (xs.length : Int)) O) : gLen [.xls xs] O Q := h
section
variable {w : World} {K : PySem.W.Frag} {mg : Str → Option Value} {base : Heap} {aI aF aL aC cT_ pT : Addr}
theorem lc_says {p q : Addr} {O0 : DO} (ne : p ≠ q) {f : Fd} (ok : FdOk f) {e0 e2 e3 e6 e7 e8 e9 e10 : Option D} {Q : List D → DO → Prop} : ∀ (k i : Nat) (s : St) (acc : List D), StN (20 * k) s → Q (acc ++ (saysF f (bestF f) k s).1.map fun z => .tup [.str z.1, .bl z.2.2]) (setS O0 p q (saysF f (bestF f) k s).2) → lcD (gdN 9) tdYes (tdCall gLSaying (tdCons (tdV 1) (tdCons (tdV 4) (tdCons (tdV 5) tdNil)))) [e0, some (.ptr p), e2, e3, some (fdD f), some (.tup ((bestF f).map frD)), e6, e7, e8, e9, e10] ((List.range' i k).map fun (j : Nat) => D.int (j : Int)) acc (setS O0 p q s) Q
  | 0, i, s, acc, _, h => by
    have h : Q (acc ++ []) (setS O0 p q s) := h
    rw [List.append_nil] at h
    exact h
  | k + 1, i, s, acc, hs, h => by
    obtain ⟨bl, bb⟩ := best_ok ok
    have n6 := ok.n6
    have hs2 : StN (20 * k + 20) s := hs.mono (by omega)
    rw [List.range'_succ, List.map_cons]
    refine (show tdCall gLSaying (tdCons (tdV 1) (tdCons (tdV 4) (tdCons (tdV 5) tdNil))) [e0, some (.ptr p), e2, e3, some (fdD f), some (.tup ((bestF f).map frD)), e6, e7, e8, some (.int (i : Int)), e10] (setS O0 p q s) (fun y O3 => lcD (gdN 9) tdYes (tdCall gLSaying (tdCons (tdV 1) (tdCons (tdV 4) (tdCons (tdV 5) tdNil)))) [e0, some (.ptr p), e2, e3, some (fdD f), some (.tup ((bestF f).map frD)), e6, e7, e8, e9, e10] ((List.range' (i + 1) k).map fun (j : Nat) => D.int (j : Int)) (acc ++ [y]) O3 Q) from ?_)
    refine call_v (cons_v (v_i (i := 1) rfl (cons_v (v_i (i := 4) rfl (cons_v (v_i (i := 5) rfl (nil_v ?_)))))))
    refine ⟨O0, q, s, f, bestF f, ne, rfl, hs2.mono (by omega), rfl, ok, rfl, bl, bb, ?_⟩
    refine lc_says ne ok k (i + 1) (sayF f (bestF f) s).2 _ (sayF_n (by omega) hs2) ?_
    rw [List.append_assoc]
    exact h
def gLaw (pT : Addr) : GC := fun ds O Q => match ds with
  | [.xls ds] => ∃ xs : List Int, ds = xs.map .int ∧ O pT = some (.tbl qT) ∧ Q (.bl true) O
  | _ => False
theorem law_body (c : Hd w K mg base aI aF aL aC cT_ pT) (f : Addr) (cdv : Value) (A : Around) (outer : List Env) (s : Shared) (H : Hp) (E : XK) (hgd : A.guards = some []) (hr : Room 14 (A.deeper (envOfC "law" (defScope s_law) s.heap.objs.size f cdv))) :
    ∃ t, PSDs (cxOf CX0 prog w K mg base ["_law_script", "_law_state", "_law_turn", "_law_term", "_law_field_so", "_law_best_here", "_law_pairs", "_law_text_here", "_law_due", "_law_k", "_law_pair"] "law" (defScope s_law) f cdv A outer s H E).nox (defBody s_law) t ∧ ∀ ds O R, gLaw pT ds O R → t { nx := fun _ O' => Dl.Fin R .non O', rt := Dl.Fin R } (startD 11 ds) O := by
  have k_law_begin := k_law_begin c
  have k_law_good_term := goodT_step c (by decide) (goodT_step c (by decide) (goodT_step c (by decide) (goodT0 c)))
  have k_law_built := built_step c (by decide) (built_step c (by decide) (built_step c (by decide) (built0 c)))
  have k_law_things := things_step c (by decide) (things_step c (by decide) (things_step c (by decide) (things0 c)))
  have k_law_best := k_law_best c
  have k_law_saying := k_law_saying c
  have k_law_text := k_law_text c
  have k_judged := k_judged c
  have k_law_hand_right := k_law_hand_right c
  have S : FnScope ["_law_script", "_law_state", "_law_turn", "_law_term", "_law_field_so", "_law_best_here", "_law_pairs", "_law_text_here", "_law_due", "_law_k", "_law_pair"] ["_law_script"] (defScope s_law) := C8.fnScope_by (by kernel_rfl)
  have hN := S.nd
  have hu := room64 hr
  have hu5 := room65 hr
  have hu1 := room1 hr
  refine ⟨_, (s_cons (s_set 1 hN (d_call k_law_begin hr (by decide) (a_cons (dv 0) a_nil)))
  (s_cons (s_for PassesOwn.never rfl (i_rng c.m_range (a_cons (d_op o_add d_int (d_callB (c_min2 rfl) c.m_min bt_min (a_cons (d_callB c_len c.m_len bt_len (a_cons (dv 0) a_nil)) (a_cons d_int a_nil)))) a_nil)) (g_name 2 hN) (s_cons (s_set 3 hN (d_call k_law_good_term hr (by decide) (a_cons (dv 1) (a_cons d_int a_nil))))
  (s_cons (s_if (t_cmp o_gt (d_ix (d_ix (d_call k_law_built hr (by decide) (a_cons (dv 3) (a_cons (d_tup a_nil) a_nil))) d_int) d_int) d_int) (s_one s_never) s_nil)
  (s_cons (s_set 4 hN (d_ix (d_call k_law_built hr (by decide) (a_cons (dv 3) (a_cons (d_tup a_nil) a_nil))) d_int))
  (s_cons (s_set 5 hN (d_call k_law_best hr (by decide) (a_cons (dv 4) a_nil)))
  (s_cons (s_setLc 6 rfl hN (sw_true rfl rfl rfl rfl) (i_rng c.m_range (a_cons d_int a_nil)) (blkOk_by (own := [("_law_k", 9)]) (by kernel_rfl)) (fun _ _ _ _ _ => (g_name 9 hN)) (fun _ _ _ _ _ => ts_nil) (fun _ _ _ _ _ => (d_call k_law_saying hr (by decide) (a_cons (dv 1) (a_cons (dv 4) (a_cons (dv 5) a_nil))))))
  (s_cons (s_set 7 hN (d_join d_str (d_op o_add (d_lst (a_cons (d_call k_law_text hr (by decide) (a_cons (d_call k_law_things hr (by decide) (a_cons (dv 3) a_nil)) a_nil)) a_nil)) (d_lc rfl hN (i_seq (dv 6)) (blkOk_by (own := [("_law_pair", 10)]) (by kernel_rfl)) (fun _ _ _ _ _ => (g_name 10 hN)) (fun _ _ _ _ _ => ts_nil) (fun _ _ _ _ _ => (d_ix (dv 10) d_int))))))
  (s_cons (s_set 8 hN (d_callTy c_tuple c.m_tuple bt_tuple (a_cons (d_lc rfl hN (i_seq (dv 6)) (blkOk_by (own := [("_law_pair", 10)]) (by kernel_rfl)) (fun _ _ _ _ _ => (g_name 10 hN)) (fun _ _ _ _ _ => ts_nil) (fun _ _ _ _ _ => (d_ix (dv 10) d_int))) a_nil)))
  (s_one (s_if (t_cmp (o_ne hu) (d_callB (c_repr hgd hu5) c.m_repr bt_repr (a_cons (d_lst (a_cons (d_call k_judged hr (by decide) (a_cons (dv 7) a_nil)) (a_cons (d_call k_judged hr (by decide) (a_cons (dv 7) a_nil)) a_nil))) a_nil)) (d_callB (c_repr hgd hu5) c.m_repr bt_repr (a_cons (d_lst (a_cons (dv 8) (a_cons (dv 8) a_nil))) a_nil)))
  (s_one (s_ret d_bl))
  s_nil))))))))))
  (s_one (s_ret (d_call0 k_law_hand_right hr (by decide)))))), fun ds O R h => ?_⟩
  unfold gLaw at h
  split at h
  · obtain ⟨xs, rfl, hT, h⟩ := h
    refine seq_f (asg_f (call1_v (i := 0) rfl ⟨xs, rfl, fun p q ne hp hq => ?_⟩))
    have np : pT ≠ p := fun e => by rw [e, hp] at hT; cases hT
    have nq : pT ≠ q := fun e => by rw [e, hq] at hT; cases hT
    have hTs : ∀ s, setS O p q s pT = some (.tbl qT) := fun s => by
      unfold setS
      rw [updO_ne np, updO_ne nq]
      exact hT
    refine seq_f ?_
    dsimp only [tdFor]
    refine rng_v (op_l (c_v (call_v (cons_v (call1_v (i := 0) rfl (len_xls (consC (nil_v ?_))))))))
    have hm : ∃ m : Nat, 3 + (if (5 : Int) < ((xs.map D.int).length : Int) then (5 : Int) else ((xs.map D.int).length : Int)) = (m : Int) ∧ m ≤ 8 := by
      split
      · exact ⟨8, rfl, Nat.le_refl _⟩
      · exact ⟨3 + (xs.map D.int).length, by omega, by omega⟩
    obtain ⟨m, em, hm⟩ := hm
    refine ⟨(m : Int), congrArg D.int em, rngOk_nat (by omega), ?_⟩
    refine for_ind (fun rem env O' => ∃ s x2 x3 x4 x5 x6 x7 x8, StN (261 * rem.length) s ∧ O' = setS O p q s ∧ env = [some (.xls (xs.map .int)), some (.ptr p), x2, x3, x4, x5, x6, x7, x8, none, none])
      (fun d r env O' N h1 k => ?_) (fun env O' h1 => ?_) ⟨beginS xs, none, none, none, none, none, none, none, (beginS_n xs).mono ?_, rfl, rfl⟩
    rotate_left 2
    · rw [rngD_length]
      omega
    · obtain ⟨s, x2, x3, x4, x5, x6, x7, x8, hs, rfl, rfl⟩ := h1
      have hs0 : StN (261 * r.length + 240 + 21) s := hs.mono (by rw [List.length_cons]; omega)
      have dr := dr_two s
      have hs1 : StN (261 * r.length + 240) (goodT 2 s).2 := goodT_n hs0
      dsimp only [gdN]
      refine seq_f (asg_f (call_v (cons_v (v_i (i := 1) rfl (cons_v (c_v (nil_v ?_)))))))
      refine ⟨O, q, s, 2, ne, rfl, rfl, by decide, hs0.mono (by show 21 ≤ _; omega), ?_⟩
      generalize (goodT 2 s).1 = t at dr
      generalize (goodT 2 s).2 = s1 at hs1
      have ok := dr.gd.ok
      have n6 := ok.n6
      refine seq_f (ifS_f (fun Q' q' => ?_) (nx_f ?_))
      · refine tt_l (op_l (op_l (op_l (call_v (cons_v (v_i (i := 3) rfl (cons_v (tup_f (nil_v (needB_i rfl (nil_v ?_)))))))))))
        refine ⟨t, rfl, dr.dep_, dr.gd, by decide, ?_⟩
        refine c_v (ix_lst (n := 0) rfl (c_v (ix_tup (n := 0) rfl (c_v ?_))))
        show Q' (decide ((6 : Int) < ((ev t).n : Int))) _
        rw [decide_eq_false (by omega)]
        exact q'
      refine seq_f (asg_f (op_l (call_v (cons_v (v_i (i := 3) rfl (cons_v (tup_f (nil_v (needB_i rfl (nil_v ?_))))))))))
      refine ⟨t, rfl, dr.dep_, dr.gd, by decide, ?_⟩
      refine c_v (ix_lst (n := 0) rfl ?_)
      refine seq_f (asg_f (call1_v (i := 4) rfl ⟨ev t, ok, rfl, ?_⟩))
      refine seq_f (asg_f ?_)
      dsimp only [tdLc]
      refine rng_v (c_v ⟨((12 : Nat) : Int), rfl, by decide +kernel, ?_⟩)
      rw [rng_map, List.range_eq_range']
      refine lc_says ne ok 12 0 s1 [] (hs1.mono (by omega)) ?_
      rw [List.nil_append]
      obtain ⟨bl, bb⟩ := best_ok ok
      have zis := saysF_is ok 12 s1
      have zln := saysF_len (ev t) (bestF (ev t)) 12 s1
      have hs2 : StN (261 * r.length) (saysF (ev t) (bestF (ev t)) 12 s1).2 := saysF_n (by omega) hs1
      generalize (saysF (ev t) (bestF (ev t)) 12 s1).1 = zs at zis zln
      generalize (saysF (ev t) (bestF (ev t)) 12 s1).2 = s2 at hs2
      have wt := wd_tok t dr.nums_
      have s7 := dr.sz_
      have tkl := tok_len t
      obtain ⟨tz1, tz2⟩ := blank_join wt (by omega)
      have zl : ∀ z ∈ zs, z.1.length ≤ 4000 := fun z hz => by
        rw [(zis z hz).txt]
        exact (blank_join (wd_say (zis z hz).ok) (zis z hz).ln).2
      refine seq_f (asg_f (join_v (op_l (lst_f (cons_v (call_v (cons_v (call1_v (i := 3) rfl ?_))))))))
      refine ⟨t, rfl, dr.dep_, by omega, nil_v ?_⟩
      refine ⟨thg t, rfl, thg_txt t dr.nums_, ?_, ?_⟩
      · rw [thg_tok]
        have := sum_len 63 (tok t) fun x hx => (wt x hx).l
        omega
      rw [thg_tok]
      refine nil_v (needB_i rfl ?_)
      dsimp only [tdLc, tiSeq]
      refine v_i (i := 6) rfl ?_
      refine lcD_map zs (fun z => .tup [.str z.1, .bl z.2.2]) (fun z => .str z.1) (fun z hz K1 k1 => ?_) ?_
      · dsimp only [gdN]
        exact op_l (v_i (i := 10) rfl (c_v (ix_tup (n := 0) rfl k1)))
      refine add_lst (by rw [List.length_map]; show 1 + zs.length ≤ _; omega) ?_
      refine ⟨Txt.join " " (tok t) :: zs.map (·.1), by rw [List.map_cons, List.map_map]; rfl, ?_, ?_⟩
      · have := sum_len 4000 (Txt.join " " (tok t) :: zs.map (·.1)) fun x hx => by
          rcases List.mem_cons.mp hx with rfl | hx
          · exact tz2
          · obtain ⟨z, hz, rfl⟩ := List.mem_map.mp hx
            exact zl z hz
        have e1 : (Str.ofString "\n").length = 1 := rfl
        rw [List.length_cons, List.length_map] at *
        rw [e1]
        omega
      have ex : Txt.join "\n" (Txt.join " " (tok t) :: zs.map (·.1)) = sheetT t (zs.map (·.2.1)) := by
        unfold sheetT
        rw [List.map_map]
        have : zs.map (·.1) = zs.map (lineT ∘ (·.2.1)) := List.map_congr_left fun z hz => (zis z hz).txt
        rw [this]
      rw [ex]
      refine seq_f (asg_f (call_v (cons_v ?_)))
      dsimp only [tdLc, tiSeq]
      refine v_i (i := 6) rfl ?_
      refine lcD_map zs (fun z => .tup [.str z.1, .bl z.2.2]) (fun z => .bl z.2.2) (fun z hz K1 k1 => ?_) ?_
      · dsimp only [gdN]
        exact op_l (v_i (i := 10) rfl (c_v (ix_tup (n := 1) rfl k1)))
      refine nil_v (tup_lst ?_)
      have sok : SheetOk t (zs.map (·.2.1)) := dr_sheet dr (by decide) (by decide) (by rw [List.length_map]; omega) fun x hx => by
        obtain ⟨z, hz, rfl⟩ := List.mem_map.mp hx
        exact ⟨(zis z hz).ok, (zis z hz).so, (zis z hz).ln⟩
      have eb : ((zs.map (·.2.1)).map fun s => D.bl (soL (ev t) (bestF (ev t)) s)) = (zs.map (·.2.2)).map D.bl := by
        rw [List.map_map, List.map_map]
        exact List.map_congr_left fun z hz => congrArg D.bl (zis z hz).is.symm
      have jd : ∀ Q : D → DO → Prop, Q (bsD (zs.map (·.2.2))) (setS O p q s2) → gJudged pT [.str (sheetT t (zs.map (·.2.1)))] (setS O p q s2) Q := fun Q hQ => judged_l sok (hTs s2) (by rw [eb]; exact hQ)
      have ed : zs.map (fun z => D.bl z.2.2) = (zs.map (·.2.2)).map D.bl := by
        rw [List.map_map]
        rfl
      rw [ed]
      have rok := repr_ok (bs := zs.map (·.2.2)) (by rw [List.length_map]; omega)
      refine ifS_f (fun Q' q' => ?_) (nx_f ?_)
      · refine tt_l (op_l (call_v (cons_v (lst_f (cons_v (call1_v (i := 7) rfl (jd _ ?_)))))))
        refine cons_v (call1_v (i := 7) rfl (jd _ (nil_v (needB_i rfl (nil_v (needB_i rok ?_))))))
        refine call_v (cons_v (lst_f (cons_v (v_i (i := 8) (d := bsD (zs.map (·.2.2))) rfl (cons_v (v_i (i := 8) (d := bsD (zs.map (·.2.2))) rfl (nil_v (needB_i rfl (nil_v (needB_i rok ?_))))))))))
        generalize (toPy (.lst [bsD (zs.map (·.2.2)), bsD (zs.map (·.2.2))])).shown = x
        show Q' (!decide (x = x)) _
        rw [decide_eq_true rfl]
        exact q'
      exact k _ _ ⟨s2, _, _, _, _, _, _, _, hs2, rfl, rfl⟩
    · obtain ⟨s, x2, x3, x4, x5, x6, x7, x8, hs, rfl, rfl⟩ := h1
      dsimp only
      refine ret_f (call_v (nil_v ?_))
      exact ⟨hTs s, O, sub_upd hp (sub_upd hq (Sub.refl O)), h⟩
  · exact h.elim
end
end Ri

set_option maxRecDepth 100000
set_option maxHeartbeats 2000000
/-! THE END: the law's call, from its caller. -/
namespace Ri
open PySem PySem.Spec PyProof.Rows L2 Dl
section
variable {w : World} {K : PySem.W.Frag} {mg mb : Str → Option Value} {s₁ : Shared} {fa a c P : Addr} {vs : List Value} {ns : List Int} {fd : FuncData}
abbrev scrO (vs : List Value) : Obj := { cls := .type "list", data := .seq vs.toArray }
abbrev emO : Obj := { cls := .none, data := .fields #[] }
/-- what is frozen: the script, where it is not among what is written -/
def frH (K : PySem.W.Frag) (a : Addr) (vs : List Value) (ns : List Int) : Hp := fun b => if b = a ∧ K.lookup a = none then some (.frz (scrO vs) (.lst (ns.map V.int))) else none
/-- what is tracked: the table, the script -/
def lwH (K : PySem.W.Frag) (a P : Addr) (vs : List Value) (ns : List Int) : Hp := fun b => if b = P then some (.tbl #[]) else frH K a vs ns b
def lwO (P : Addr) : DO := fun b => if b = P then some (.tbl qT) else none
theorem frH_cases {b : Addr} {u : HO} (h : frH K a vs ns b = some u) : b = a ∧ K.lookup a = none ∧ u = .frz (scrO vs) (.lst (ns.map V.int)) := by
  unfold frH at h
  by_cases q : b = a ∧ K.lookup a = none
  · rw [if_pos q] at h
    exact ⟨q.1, q.2, (Option.some.inj h).symm⟩
  · rw [if_neg q] at h
    cases h
theorem lwH_cases {b : Addr} {u : HO} (h : lwH K a P vs ns b = some u) : (b = P ∧ u = .tbl #[]) ∨ (b ≠ P ∧ b = a ∧ K.lookup a = none ∧ u = .frz (scrO vs) (.lst (ns.map V.int))) := by
  unfold lwH at h
  by_cases q : b = P
  · rw [if_pos q] at h
    exact .inl ⟨q, (Option.some.inj h).symm⟩
  · rw [if_neg q] at h
    exact .inr ⟨q, frH_cases h⟩
/-- what is neither the table nor the script is not tracked -/
theorem lwH_none (ha : s₁.heap.get? a = some (scrO vs)) (hT : s₁.heap.get? P = some emO) {b : Addr} {o : Obj} (e : s₁.heap.get? b = some o) (h1 : ∀ x n, o.data ≠ .seq x n) (h2 : o.data ≠ .fields #[]) : lwH K a P vs ns b = none := by
  cases q : lwH K a P vs ns b with
  | none => rfl
  | some u =>
    rcases lwH_cases q with ⟨rfl, _⟩ | ⟨_, rfl, _, _⟩
    · rw [hT] at e
      cases e
      exact absurd rfl h2
    · rw [ha] at e
      cases e
      exact absurd rfl (h1 _ _)
theorem law_end (hdd : ∀ base : Heap, K.In base → base.Ns mainGlobals mg → LamX.TabB base mg c P → ∃ aI aF aL aC, Hd w K mg base aI aF aL aC c P)
    (KX : K.In s₁.heap) (hns : s₁.heap.Ns mainGlobals mg) (hb : s₁.heap.Ns builtinsNs mb) (hbb : ∀ x : Str, x ≠ "__name__" → mb x = bootBuiltins x) (hlim : s₁.heap.NoLimit) (hg : s₁.gens = #[])
    (hT : s₁.heap.get? P = some emO) (nT : K.lookup P = none) (C : PySem.W.codeHdIn K c P = true)
    (hbm : ∃ (bm : Addr) (ob : Obj), mg "__builtins__" = some (.ref bm) ∧ bm ≠ builtinsNs ∧ s₁.heap.get? bm = some ob ∧ ob.cls = .type "module" ∧ ob.dict = some builtinsNs ∧ ob.data = .plain)
    (ha : s₁.heap.get? a = some (scrO vs)) (hi : IntsAre vs ns) (hl : ns.length ≤ sizeLine) (F : FunD K "law" "law" (defArgs s_law) (defBody s_law) (defScope s_law) [] [] fa fd) :
    codeAny (model prog w) callerA (.call (.ref fa) ⟨[.ref a], []⟩) (fun r s' => r = .ok (.ret (.bool true)) ∧ OldK s₁.heap s'.heap ∧ s'.os = s₁.os ∧ AllBare s'.gens) s₁ := by
  have rv := vals_ints hi
  have lv : ns.length = vs.length := by
    have := hi.length
    omega
  have aP : a ≠ P := fun z => by
    rw [z, hT] at ha
    cases ha
  -- the heap, as the layer sees it
  have inB : K.In (hidT s₁.heap (lwH K a P vs ns)) := fun b o e => by
    refine hidT_get (KX b o e) ?_
    cases q : lwH K a P vs ns b with
    | none => rfl
    | some u =>
      rcases lwH_cases q with ⟨rfl, _⟩ | ⟨_, rfl, z, _⟩
      · rw [nT] at e
        cases e
      · rw [z] at e
        cases e
  have nsB : ∀ {b : Addr} {m : Str → Option Value}, s₁.heap.Ns b m → (hidT s₁.heap (lwH K a P vs ns)).Ns b m := fun {b m} h => by
    obtain ⟨o, es, ep, e, d, r⟩ := h
    refine ⟨o, es, ep, hidT_get e (lwH_none ha hT e (fun x n z => ?_) fun z => ?_), d, r⟩
    · rw [d] at z; cases z
    · rw [d] at z; cases z
  have gP : mainGlobals ≠ P := fun z => by
    obtain ⟨o, es, ep, e, d, _⟩ := hns
    rw [z, hT] at e
    cases e
    cases d
  have tbB : LamX.TabB (hidT s₁.heap (lwH K a P vs ns)) mg c P := by
    refine ⟨PySem.W.codeHd_of_K inB C, ?_, gP⟩
    obtain ⟨bm, ob, b1, b2, b3, b4, b5, b6⟩ := hbm
    have hn : lwH K a P vs ns bm = none := lwH_none ha hT b3 (fun x n z => by rw [b6] at z; cases z) fun z => by rw [b6] at z; cases z
    refine ⟨bm, ob, b1, b2, fun z => ?_, fun z => ?_, hidT_get b3 hn, b4, b5, b6⟩
    · obtain ⟨o, es, ep, e, d, _⟩ := hns
      rw [z, e] at b3
      cases b3
      rw [d] at b6
      cases b6
    · rw [z, hT] at b3
      cases b3
      cases b6
  have okH : HOk prog w (lwH K a P vs ns) s₁.heap := fun b u z => by
    rcases lwH_cases z with ⟨rfl, rfl⟩ | ⟨_, rfl, _, rfl⟩
    · exact hT
    · exact ⟨ha, by rw [List.length_map]; exact hl, vs, _, rv, ha⟩
  have e0 : Env0 prog w K mg (hidT s₁.heap (lwH K a P vs ns)) callerA [] s₁ (lwH K a P vs ns) :=
    ⟨rfl, ⟨inB, nsB hns, ⟨mb, nsB hb, hbb⟩, by obtain ⟨mc, h1, h2⟩ := hlim; exact ⟨mc, nsB h1, h2⟩⟩, fun b o e => of_hidT e, Nat.le_of_eq (hidT_size _ _), trivial, fun b z => (nomatch z), okH, .of_eq hg⟩
  obtain ⟨aI, aF, aL, aC, hd⟩ := hdd _ inB (nsB hns) tbB
  -- the call
  have room : Room 15 callerA := ⟨rfl, by decide, by decide⟩
  have S : FnScope ["_law_script", "_law_state", "_law_turn", "_law_term", "_law_field_so", "_law_best_here", "_law_pairs", "_law_text_here", "_law_due", "_law_k", "_law_pair"] ["_law_script"] (defScope s_law) := C8.fnScope_by (by kernel_rfl)
  have bd := FunD.bindsA (ps := ["_law_script"]) F fun _ _ _ _ _ _ us hl => match us, hl with | [_], _ => rfl
  obtain ⟨oc, od, dV, kV, doc, pm, an, cdv, ct, osl, rfl, lk, code, _, _⟩ := F.ex
  obtain ⟨t, ht, hq⟩ := law_body hd fa cdv callerA [] s₁ (lwH K a P vs ns) (fun _ _ _ => False) rfl (room.deeper _)
  have sq : SqL K (frH K a vs ns) a (ns.map V.int) := by
    cases hk : K.lookup a with
    | none => exact .inl (.inr ⟨scrO vs, if_pos ⟨rfl, hk⟩⟩)
    | some o =>
      have e := KX a o hk
      rw [ha] at e
      cases e
      exact .inr ⟨_, vs.toArray, _, hk, rfl, rfl, rfl, by rw [List.size_toArray, ← lv]; exact hl, by simpa using rv⟩
  have pre : Pre K (frH K a vs ns) (lwO P) (lwH K a P vs ns) := by
    refine ⟨fun b o e => ?_, fun b cc e => ?_⟩
    · obtain ⟨rfl, _, _⟩ := frH_cases e
      exact (if_neg aP).trans e
    · unfold lwO at e
      by_cases q : b = P
      · subst q
        rw [if_pos rfl] at e
        cases e
        exact ⟨if_neg fun z => aP z.1.symm, #[], if_pos rfl, trivial, fun pos cv h => by cases h⟩
      · rw [if_neg q] at e
        cases e
  have q0 := hq [.xls (ns.map .int)] (lwO P) (fun d _ => d = .bl true) ⟨ns, rfl, if_pos rfl, rfl⟩
  have low : s₁.heap.NoLimit := hlim
  refine codeAny_call_function room.depth (KX _ _ lk) rfl S.co S.gen rfl (PySem.W.codeRec_of KX code) (bd s₁ [.ref a] rfl _ _ _ _ ?_)
  refine wpAny_newFunctionEnv_cells S.kind (fun y hy => ?_) fun env he s2 x => ?_
  · rcases S.par y.1 (List.of_mem_zip hy).1 with z | z
    · exact .inl z
    · exact .inr ⟨z, PySem.W.cellsFrom_some _ _ _ (.inl z)⟩
  subst he
  refine ⟨low.keeps x.toInCall.keep, codeAny_func ?_⟩
  have I := inv_start (w := w) (K := K) (mg := mg) (CX := CX0) (E := fun _ _ _ => False) (vs := [V.ref a]) S rfl e0 rfl (.cons rfl .nil) x
  refine wpAny_mono (ht.nox.run [] s2 (L2.start _ [.ref a]) (lwH K a P vs ns) { nx := fun _ H' => (V.non = V.bl true), rt := fun v _ => v = .bl true } I ⟨frH K a vs ns, lwO P, startD 11 [.xls (ns.map .int)], _, pre, rep_start _ (.cons (.xls sq (RepL.ofInts ns)) .nil), q0, ?_⟩) (fun fl s' hs => ?_) fun e s' hs => ?_
  rotate_left 2
  · exact wpAny_mono hs (fun _ _ z => False.elim z) fun _ _ z => False.elim z
  · refine ⟨fun σ' H1 F1 O1 env1 s3 re1 h1 => ?_, fun v H1 F1 d O1 s3 r1 h1 => ?_, fun _ _ _ _ _ _ _ z => z, fun _ _ _ _ _ _ _ z => z⟩
    · obtain ⟨_, _, z⟩ := h1
      cases z
    · obtain ⟨_, _, z⟩ := h1
      subst z
      cases r1
      rfl
  cases fl with
  | next =>
    obtain ⟨_, _, _, z⟩ := hs
    cases z
  | brk =>
    obtain ⟨_, _, _, z⟩ := hs
    exact z.elim
  | cont =>
    obtain ⟨_, _, _, z⟩ := hs
    exact z.elim
  | ret u =>
    obtain ⟨v, σ', H', J, rvu, rfl⟩ := hs
    have ru : u = Value.bool true := rvu
    subst ru
    have un := J.base
    have okH' := J.hok
    refine ⟨rfl, ⟨fun b o e => ?_, fun b o e => un.there b o e (by intro z; cases z)⟩, J.os, J.bare⟩
    by_cases bP : b = P
    · subst bP
      rw [hT] at e
      cases e
      obtain ⟨more, z⟩ := un.tbls b #[] (if_pos rfl)
      have z2 := okH' b _ z
      exact .inr (.inl ⟨((PySem.W.codeHd_of_K KX C).tab hT).isCodeTable, rfl, #[], more, rfl, by rw [Array.empty_append]; rw [Array.empty_append] at z2; exact z2⟩)
    · refine .inl ?_
      cases q : lwH K a P vs ns b with
      | none => exact un.keep b o e q (by intro z; cases z) (by intro z; cases z)
      | some x1 =>
        rcases lwH_cases q with ⟨z, _⟩ | ⟨_, _, _, rfl⟩
        · exact absurd z bP
        · obtain ⟨g1, _⟩ := okH b _ q
          obtain ⟨g2, _⟩ := okH' b _ (un.frzs b _ _ q)
          rw [e] at g1
          cases g1
          exact g2
end
end Ri

set_option maxRecDepth 100000
set_option maxHeartbeats 0
/-! THE HEAD'S FACTS. Printed by gen_end.py. -/
namespace Ri
open PySem PySem.Spec PyProof.Rows L2 Dl
noncomputable abbrev KK (P : Params) : PySem.W.Frag := hd.heap_39 P
def d_is_integer : He.DefD := ⟨("is_integer", none), "is_integer", "is_integer", defArgs s_is_integer, defBody s_is_integer, defScope s_is_integer, [], []⟩
def d_common : He.DefD := ⟨("common", none), "common", "common", defArgs s_common, defBody s_common, defScope s_common, [], []⟩
def d_made : He.DefD := ⟨("made", none), "made", "made", defArgs s_made, defBody s_made, defScope s_made, [], []⟩
def d_is_under : He.DefD := ⟨("is_under", none), "is_under", "is_under", defArgs s_is_under, defBody s_is_under, defScope s_is_under, [], []⟩
def d_is_between : He.DefD := ⟨("is_between", none), "is_between", "is_between", defArgs s_is_between, defBody s_is_between, defScope s_is_between, [], []⟩
def d_are_rising : He.DefD := ⟨("are_rising", none), "are_rising", "are_rising", defArgs s_are_rising, defBody s_are_rising, defScope s_are_rising, [], []⟩
def d_ups_by : He.DefD := ⟨("ups_by", none), "ups_by", "ups_by", defArgs s_ups_by, defBody s_ups_by, defScope s_ups_by, [], []⟩
def d_is_seen : He.DefD := ⟨("is_seen", none), "is_seen", "is_seen", defArgs s_is_seen, defBody s_is_seen, defScope s_is_seen, [], []⟩
def d_is_lot_of : He.DefD := ⟨("is_lot_of", none), "is_lot_of", "is_lot_of", defArgs s_is_lot_of, defBody s_is_lot_of, defScope s_is_lot_of, [], []⟩
def d_ups_in : He.DefD := ⟨("ups_in", none), "ups_in", "ups_in", defArgs s_ups_in, defBody s_ups_in, defScope s_ups_in, [], []⟩
def d_is_up_in : He.DefD := ⟨("is_up_in", none), "is_up_in", "is_up_in", defArgs s_is_up_in, defBody s_is_up_in, defScope s_is_up_in, [], []⟩
def d_mean_in : He.DefD := ⟨("mean_in", none), "mean_in", "mean_in", defArgs s_mean_in, defBody s_mean_in, defScope s_mean_in, [], []⟩
def d_lots_of : He.DefD := ⟨("lots_of", none), "lots_of", "lots_of", defArgs s_lots_of, defBody s_lots_of, defScope s_lots_of, [], []⟩
def d_up_in : He.DefD := ⟨("up_in", none), "up_in", "up_in", defArgs s_up_in, defBody s_up_in, defScope s_up_in, [], []⟩
def d_next_level : He.DefD := ⟨("next_level", none), "next_level", "next_level", defArgs s_next_level, defBody s_next_level, defScope s_next_level, [], []⟩
def d_levels_in : He.DefD := ⟨("levels_in", none), "levels_in", "levels_in", defArgs s_levels_in, defBody s_levels_in, defScope s_levels_in, [], []⟩
def d_table_by : He.DefD := ⟨("table_by", none), "table_by", "table_by", defArgs s_table_by, defBody s_table_by, defScope s_table_by, [], []⟩
def d_charge_at : He.DefD := ⟨("charge_at", none), "charge_at", "charge_at", defArgs s_charge_at, defBody s_charge_at, defScope s_charge_at, [], []⟩
def d_charge_in : He.DefD := ⟨("charge_in", none), "charge_in", "charge_in", defArgs s_charge_in, defBody s_charge_in, defScope s_charge_in, [], []⟩
def d_is_own_form : He.DefD := ⟨("is_own_form", none), "is_own_form", "is_own_form", defArgs s_is_own_form, defBody s_is_own_form, defScope s_is_own_form, [], []⟩
def d_is_form : He.DefD := ⟨("is_form", none), "is_form", "is_form", defArgs s_is_form, defBody s_is_form, defScope s_is_form, [], []⟩
def d_places_in : He.DefD := ⟨("places_in", none), "places_in", "places_in", defArgs s_places_in, defBody s_places_in, defScope s_places_in, [], []⟩
def d_paths_in : He.DefD := ⟨("paths_in", none), "paths_in", "paths_in", defArgs s_paths_in, defBody s_paths_in, defScope s_paths_in, [], []⟩
def d_term_at : He.DefD := ⟨("term_at", none), "term_at", "term_at", defArgs s_term_at, defBody s_term_at, defScope s_term_at, [], []⟩
def d_laid : He.DefD := ⟨("laid", none), "laid", "laid", defArgs s_laid, defBody s_laid, defScope s_laid, [], []⟩
def d_row_of : He.DefD := ⟨("row_of", none), "row_of", "row_of", defArgs s_row_of, defBody s_row_of, defScope s_row_of, [], []⟩
def d_single_of : He.DefD := ⟨("single_of", none), "single_of", "single_of", defArgs s_single_of, defBody s_single_of, defScope s_single_of, [], []⟩
def d_by_word : He.DefD := ⟨("by_word", none), "by_word", "by_word", defArgs s_by_word, defBody s_by_word, defScope s_by_word, [], []⟩
def d_is_good : He.DefD := ⟨("is_good", none), "is_good", "is_good", defArgs s_is_good, defBody s_is_good, defScope s_is_good, [], []⟩
def d_field_in : He.DefD := ⟨("field_in", none), "field_in", "field_in", defArgs s_field_in, defBody s_field_in, defScope s_field_in, [], []⟩
def d_integer_in : He.DefD := ⟨("integer_in", none), "integer_in", "integer_in", defArgs s_integer_in, defBody s_integer_in, defScope s_integer_in, [], []⟩
def d_fraction_in : He.DefD := ⟨("fraction_in", none), "fraction_in", "fraction_in", defArgs s_fraction_in, defBody s_fraction_in, defScope s_fraction_in, [], []⟩
def d_w_init : He.DefD := ⟨("Words", some "__init__"), "__init__", "Words.__init__", defArgs s_w_init, defBody s_w_init, defScope s_w_init, [], []⟩
def d_w_next_word : He.DefD := ⟨("Words", some "next_word"), "next_word", "Words.next_word", defArgs s_w_next_word, defBody s_w_next_word, defScope s_w_next_word, [], []⟩
def d_w_word_of : He.DefD := ⟨("Words", some "word_of"), "word_of", "Words.word_of", defArgs s_w_word_of, defBody s_w_word_of, defScope s_w_word_of, [], []⟩
def d_w_read_by : He.DefD := ⟨("Words", some "read_by"), "read_by", "Words.read_by", defArgs s_w_read_by, defBody s_w_read_by, defScope s_w_read_by, [], []⟩
def d_w_integer : He.DefD := ⟨("Words", some "integer"), "integer", "Words.integer", defArgs s_w_integer, defBody s_w_integer, defScope s_w_integer, [], []⟩
def d_w_fraction : He.DefD := ⟨("Words", some "fraction"), "fraction", "Words.fraction", defArgs s_w_fraction, defBody s_w_fraction, defScope s_w_fraction, [], []⟩
def d_w_all_by : He.DefD := ⟨("Words", some "all_by"), "all_by", "Words.all_by", defArgs s_w_all_by, defBody s_w_all_by, defScope s_w_all_by, [], []⟩
def d_w_end : He.DefD := ⟨("Words", some "end"), "end", "Words.end", defArgs s_w_end, defBody s_w_end, defScope s_w_end, [], []⟩
def d_w_term : He.DefD := ⟨("Words", some "term"), "term", "Words.term", defArgs s_w_term, defBody s_w_term, defScope s_w_term, [], []⟩
def d_w_own_of : He.DefD := ⟨("Words", some "own_of"), "own_of", "Words.own_of", defArgs s_w_own_of, defBody s_w_own_of, defScope s_w_own_of, [], []⟩
def d_lines_of : He.DefD := ⟨("lines_of", none), "lines_of", "lines_of", defArgs s_lines_of, defBody s_lines_of, defScope s_lines_of, [], []⟩
def d_term_in : He.DefD := ⟨("term_in", none), "term_in", "term_in", defArgs s_term_in, defBody s_term_in, defScope s_term_in, [], []⟩
def d_least_terms : He.DefD := ⟨("least_terms", none), "least_terms", "least_terms", defArgs s_least_terms, defBody s_least_terms, defScope s_least_terms, [], []⟩
def d_saying_in : He.DefD := ⟨("saying_in", none), "saying_in", "saying_in", defArgs s_saying_in, defBody s_saying_in, defScope s_saying_in, [], []⟩
def d_is_there : He.DefD := ⟨("is_there", none), "is_there", "is_there", defArgs s_is_there, defBody s_is_there, defScope s_is_there, [], []⟩
def d_is_so : He.DefD := ⟨("is_so", none), "is_so", "is_so", defArgs s_is_so, defBody s_is_so, defScope s_is_so, [], []⟩
def d_judged : He.DefD := ⟨("judged", none), "judged", "judged", defArgs s_judged, defBody s_judged, defScope s_judged, [], []⟩
def d_law_mixed : He.DefD := ⟨("_law_mixed", none), "_law_mixed", "_law_mixed", defArgs s_law_mixed, defBody s_law_mixed, defScope s_law_mixed, [], []⟩
def d_law_begin : He.DefD := ⟨("_law_begin", none), "_law_begin", "_law_begin", defArgs s_law_begin, defBody s_law_begin, defScope s_law_begin, [], []⟩
def d_law_draw : He.DefD := ⟨("_law_draw", none), "_law_draw", "_law_draw", defArgs s_law_draw, defBody s_law_draw, defScope s_law_draw, [], []⟩
def d_law_of : He.DefD := ⟨("_law_of", none), "_law_of", "_law_of", defArgs s_law_of, defBody s_law_of, defScope s_law_of, [], []⟩
def d_law_ratio : He.DefD := ⟨("_law_ratio", none), "_law_ratio", "_law_ratio", defArgs s_law_ratio, defBody s_law_ratio, defScope s_law_ratio, [], []⟩
def d_law_plus : He.DefD := ⟨("_law_plus", none), "_law_plus", "_law_plus", defArgs s_law_plus, defBody s_law_plus, defScope s_law_plus, [], []⟩
def d_law_less : He.DefD := ⟨("_law_less", none), "_law_less", "_law_less", defArgs s_law_less, defBody s_law_less, defScope s_law_less, [], []⟩
def d_law_times : He.DefD := ⟨("_law_times", none), "_law_times", "_law_times", defArgs s_law_times, defBody s_law_times, defScope s_law_times, [], []⟩
def d_law_under : He.DefD := ⟨("_law_under", none), "_law_under", "_law_under", defArgs s_law_under, defBody s_law_under, defScope s_law_under, [], []⟩
def d_law_aboves : He.DefD := ⟨("_law_aboves", none), "_law_aboves", "_law_aboves", defArgs s_law_aboves, defBody s_law_aboves, defScope s_law_aboves, [], []⟩
def d_law_more : He.DefD := ⟨("_law_more", none), "_law_more", "_law_more", defArgs s_law_more, defBody s_law_more, defScope s_law_more, [], []⟩
def d_law_is_up : He.DefD := ⟨("_law_is_up", none), "_law_is_up", "_law_is_up", defArgs s_law_is_up, defBody s_law_is_up, defScope s_law_is_up, [], []⟩
def d_law_ups : He.DefD := ⟨("_law_ups", none), "_law_ups", "_law_ups", defArgs s_law_ups, defBody s_law_ups, defScope s_law_ups, [], []⟩
def d_law_mean : He.DefD := ⟨("_law_mean", none), "_law_mean", "_law_mean", defArgs s_law_mean, defBody s_law_mean, defScope s_law_mean, [], []⟩
def d_law_guess : He.DefD := ⟨("_law_guess", none), "_law_guess", "_law_guess", defArgs s_law_guess, defBody s_law_guess, defScope s_law_guess, [], []⟩
def d_law_best : He.DefD := ⟨("_law_best", none), "_law_best", "_law_best", defArgs s_law_best, defBody s_law_best, defScope s_law_best, [], []⟩
def d_law_charge : He.DefD := ⟨("_law_charge", none), "_law_charge", "_law_charge", defArgs s_law_charge, defBody s_law_charge, defScope s_law_charge, [], []⟩
def d_law_laid : He.DefD := ⟨("_law_laid", none), "_law_laid", "_law_laid", defArgs s_law_laid, defBody s_law_laid, defScope s_law_laid, [], []⟩
def d_law_by_word : He.DefD := ⟨("_law_by_word", none), "_law_by_word", "_law_by_word", defArgs s_law_by_word, defBody s_law_by_word, defScope s_law_by_word, [], []⟩
def d_law_is_field : He.DefD := ⟨("_law_is_field", none), "_law_is_field", "_law_is_field", defArgs s_law_is_field, defBody s_law_is_field, defScope s_law_is_field, [], []⟩
def d_law_kids : He.DefD := ⟨("_law_kids", none), "_law_kids", "_law_kids", defArgs s_law_kids, defBody s_law_kids, defScope s_law_kids, [], []⟩
def d_law_built : He.DefD := ⟨("_law_built", none), "_law_built", "_law_built", defArgs s_law_built, defBody s_law_built, defScope s_law_built, [], []⟩
def d_law_things : He.DefD := ⟨("_law_things", none), "_law_things", "_law_things", defArgs s_law_things, defBody s_law_things, defScope s_law_things, [], []⟩
def d_law_text : He.DefD := ⟨("_law_text", none), "_law_text", "_law_text", defArgs s_law_text, defBody s_law_text, defScope s_law_text, [], []⟩
def d_law_good_term : He.DefD := ⟨("_law_good_term", none), "_law_good_term", "_law_good_term", defArgs s_law_good_term, defBody s_law_good_term, defScope s_law_good_term, [], []⟩
def d_law_number : He.DefD := ⟨("_law_number", none), "_law_number", "_law_number", defArgs s_law_number, defBody s_law_number, defScope s_law_number, [], []⟩
def d_law_worth : He.DefD := ⟨("_law_worth", none), "_law_worth", "_law_worth", defArgs s_law_worth, defBody s_law_worth, defScope s_law_worth, [], []⟩
def d_law_numbered : He.DefD := ⟨("_law_numbered", none), "_law_numbered", "_law_numbered", defArgs s_law_numbered, defBody s_law_numbered, defScope s_law_numbered, [], []⟩
def d_law_saying : He.DefD := ⟨("_law_saying", none), "_law_saying", "_law_saying", defArgs s_law_saying, defBody s_law_saying, defScope s_law_saying, [], []⟩
def d_law_hand_right : He.DefD := ⟨("_law_hand_right", none), "_law_hand_right", "_law_hand_right", defArgs s_law_hand_right, defBody s_law_hand_right, defScope s_law_hand_right, [], []⟩
def d_law : He.DefD := ⟨("law", none), "law", "law", defArgs s_law, defBody s_law, defScope s_law, [], []⟩
def faL0 : List He.Fa := [.free "isinstance", .free "int", .free "bool", .free "tuple", .free "str", .free "abs", .free "all", .free "any", .free "len", .free "range", .free "zip", .free "sorted", .free "sum", .free "list", .free "enumerate", .free "min", .free "dict", .free "repr", .glo "is_integer", .glo "common", .glo "made", .glo "is_under", .glo "is_between", .glo "are_rising", .glo "ups_by", .glo "is_seen", .glo "is_lot_of", .glo "ups_in", .glo "is_up_in", .glo "mean_in"]
def faL1 : List He.Fa := [.glo "lots_of", .glo "up_in", .glo "next_level", .glo "levels_in", .glo "table_by", .glo "charge_at", .glo "charge_in", .glo "is_own_form", .glo "is_form", .glo "places_in", .glo "paths_in", .glo "term_at", .glo "laid", .glo "row_of", .glo "single_of", .glo "by_word", .glo "is_good", .glo "field_in", .glo "integer_in", .glo "fraction_in", .meth "Words" "__init__", .meth "Words" "next_word", .meth "Words" "word_of", .meth "Words" "read_by", .meth "Words" "integer", .meth "Words" "fraction", .meth "Words" "all_by", .meth "Words" "end", .meth "Words" "term", .meth "Words" "own_of"]
def faL2 : List He.Fa := [.glo "lines_of", .glo "term_in", .glo "least_terms", .glo "saying_in", .glo "is_there", .glo "is_so", .glo "judged", .glo "_law_mixed", .glo "_law_begin", .glo "_law_draw", .glo "_law_of", .glo "_law_ratio", .glo "_law_plus", .glo "_law_less", .glo "_law_times", .glo "_law_under", .glo "_law_aboves", .glo "_law_more", .glo "_law_is_up", .glo "_law_ups", .glo "_law_mean", .glo "_law_guess", .glo "_law_best", .glo "_law_charge", .glo "_law_laid", .glo "_law_by_word", .glo "_law_is_field", .glo "_law_kids", .glo "_law_built", .glo "_law_things"]
def faL3 : List He.Fa := [.glo "_law_text", .glo "_law_good_term", .glo "_law_number", .glo "_law_worth", .glo "_law_numbered", .glo "_law_saying", .glo "_law_hand_right", .glo "law", .int "MOST_THINGS" 10, .int "MOST_WORTH" 1000, .int "MOST_WEIGHT" 1000, .int "MOST_WORDS" 20, .int "MOST_DEEP" 8, .int "MOST_MOVE" 2000, .int "MOST_TIMES" 1000, .str "THING" "thing", .str "NONE" "none", .str "BESIDE" "beside", .str "BELOW_terms" "below", .str "ROW" "row", .str "TURNED" "turned", .str "MOVED" "moved", .str "TIMES" "times", .str "TIED" "tied", .str "ONLY" "only", .glo "LENGTHS", .glo "LEAVES", .glo "DOUBLE", .str "NEWLINE" "\n", .str "BLANK" " "]
def faL4 : List He.Fa := [.str "STROKE" "/", .str "MINUS" "-", .str "NAUGHT" "0", .str "FIGURES" "0123456789", .int "MOST_FIGURES" 31, .str "THINGS" "things", .str "BELOW_judge" "below", .str "UP" "up", .str "LEVELS" "levels", .str "GUESS" "guess", .str "TABLE" "table", .str "CHARGE" "charge", .glo "SAYINGS", .glo "Words", .cls "Words", .mkr "Words", .noat "Words" "all_words", .noat "Words" "row", .noat "Words" "at", .noat "Words" "terms_read"]
def faL : List He.Fa := faL0 ++ (faL1 ++ (faL2 ++ (faL3 ++ (faL4))))
def fnL0 : List He.DefD := [d_is_integer, d_common, d_made, d_is_under, d_is_between, d_are_rising, d_ups_by, d_is_seen, d_is_lot_of, d_ups_in, d_is_up_in, d_mean_in, d_lots_of, d_up_in, d_next_level, d_levels_in, d_table_by, d_charge_at, d_charge_in, d_is_own_form, d_is_form, d_places_in, d_paths_in, d_term_at, d_laid, d_row_of, d_single_of, d_by_word, d_is_good, d_field_in]
def fnL1 : List He.DefD := [d_integer_in, d_fraction_in, d_w_init, d_w_next_word, d_w_word_of, d_w_read_by, d_w_integer, d_w_fraction, d_w_all_by, d_w_end, d_w_term, d_w_own_of, d_lines_of, d_term_in, d_least_terms, d_saying_in, d_is_there, d_is_so, d_judged, d_law_mixed, d_law_begin, d_law_draw, d_law_of, d_law_ratio, d_law_plus, d_law_less, d_law_times, d_law_under, d_law_aboves, d_law_more]
def fnL2 : List He.DefD := [d_law_is_up, d_law_ups, d_law_mean, d_law_guess, d_law_best, d_law_charge, d_law_laid, d_law_by_word, d_law_is_field, d_law_kids, d_law_built, d_law_things, d_law_text, d_law_good_term, d_law_number, d_law_worth, d_law_numbered, d_law_saying, d_law_hand_right, d_law]
def fnL : List He.DefD := fnL0 ++ (fnL1 ++ (fnL2))
theorem says (P : Params) : He.SaysD faL fnL (KK P) := by
  unfold He.SaysD
  kernel_rfl
def cTf (K : PySem.W.Frag) : Addr × Addr := He.cT K ("field_in", none)
def codeB (K : PySem.W.Frag) : Bool := match K.lookup (He.fAd K ("field_in", none)) with
  | some ⟨_, _, .func fd, _⟩ => decide (fd.code = .ref (cTf K).1)
  | _ => false
theorem code_b (P : Params) : codeB (KK P) = true := by kernel_rfl
theorem tab_out (P : Params) : (KK P).lookup (cTf (KK P)).2 = none := by kernel_rfl
theorem tab_hd (P : Params) : PySem.W.codeHdIn (KK P) (cTf (KK P)).1 (cTf (KK P)).2 = true := by kernel_rfl
theorem tab_at (P : Params) : (cTf (KK P)).2 = 281 := by kernel_rfl
theorem tup_LEAVES (P : Params) : He.tupB (KK P) "LEAVES" [.str "thing", .str "none"] = true := by kernel_rfl
theorem tup_DOUBLE (P : Params) : He.tupB (KK P) "DOUBLE" [.str "beside", .str "below"] = true := by kernel_rfl
theorem tup_SAYINGS (P : Params) : He.tupB (KK P) "SAYINGS" [.str "things", .str "below", .str "up", .str "levels", .str "guess", .str "table", .str "charge"] = true := by kernel_rfl
def esOf (o : Option Obj) : Array DictEntry × Nat := match o with
  | some ⟨_, _, .dict es n, _⟩ => (es, n)
  | _ => (#[], 0)
theorem len_at (P : Params) : (KK P).lookup (He.ga (KK P) "LENGTHS") = some ⟨.type "dict", none, .dict (esOf ((KK P).lookup (He.ga (KK P) "LENGTHS"))).1 (esOf ((KK P).lookup (He.ga (KK P) "LENGTHS"))).2, #[]⟩ := by kernel_rfl
def lenL : List (Str × Int) := [("thing", 3), ("none", 1), ("beside", 3), ("below", 3), ("row", 3), ("turned", 2), ("moved", 3), ("times", 3), ("tied", 4), ("only", 3)]
theorem len_es (P : Params) : (esOf ((KK P).lookup (He.ga (KK P) "LENGTHS"))).1.toList.map (fun e => (He.keyOf e, intOf e)) = lenL.map fun k => (some (k.1, PyData.keyHash P k.1), some k.2) := by kernel_rfl
theorem len_low (P : Params) : (He.ga (KK P) "LENGTHS" == sysModules) = false := by kernel_rfl
theorem fct (P : Params) (i : Nat) {f : He.Fa} (h : faL[i]? = some f) : f.ok (KK P) = true := (says P).fact i h
theorem fnc (P : Params) (i : Nat) {d : He.DefD} (h : fnL[i]? = some d) : ∃ fd, FunD (KK P) d.name d.qual d.params d.body d.scope (d.dvs (KK P)) (d.kws (KK P)) (He.fAd (KK P) d.at_) fd := (says P).def_ i h
section
variable {w : World} {mg : Str → Option Value} {h base : Heap}
theorem gl_int {K : PySem.W.Frag} {x : Str} {i : Int} (KX : K.In h) (G : h.Ns mainGlobals mg) (c : (He.Fa.int x i).ok K = true) : GlC K mg x (.int i) := by
  obtain ⟨t, e⟩ := He.int_ok KX G c
  exact ⟨_, .int i, e, ⟨t, rfl⟩, fun F => .int i⟩
theorem gl_str {K : PySem.W.Frag} {x z : Str} (KX : K.In h) (G : h.Ns mainGlobals mg) (c : (He.Fa.str x z).ok K = true) : GlC K mg x (.str z) := by
  obtain ⟨t, e⟩ := He.str_ok KX G c
  exact ⟨_, .str z, e, ⟨t, rfl⟩, fun F => .str z⟩
theorem gl_ref {K : PySem.W.Frag} {x : Str} (KX : K.In h) (G : h.Ns mainGlobals mg) (c : (He.Fa.glo x).ok K = true) : GlC K mg x (.ptr (He.ga K x)) := ⟨_, .ref _, He.glo_ok KX G c, rfl, fun F => .ptr _⟩
theorem gl_tup {K : PySem.W.Frag} {x : Str} {ss : List Str} (KX : K.In h) (G : h.Ns mainGlobals mg) (c : (He.Fa.glo x).ok K = true) (t : He.tupB K x (ss.map He.Dv.str) = true) : GlC K mg x (.xtp (ss.map D.str)) := by
  refine ⟨_, .ref _, He.glo_ok KX G c, rfl, fun F => .xtp (He.tupB_ok t F) ?_⟩
  rw [List.map_map]
  exact RepL.ofStrs ss
theorem fn_at {P : Params} {x : Str} {st : Stmt} (KX : (KK P).In h) (G : h.Ns mainGlobals mg) (c : (He.Fa.glo x).ok (KK P) = true) (e : ∃ fd, FunD (KK P) x x (defArgs st) (defBody st) (defScope st) [] [] (He.ga (KK P) x) fd) : FnAt (KK P) mg x st := by
  obtain ⟨fd, F⟩ := e
  exact ⟨_, fd, He.glo_ok KX G c, F⟩
theorem mt_at {P : Params} {m q : Str} {st : Stmt} (c : (He.Fa.meth "Words" m).ok (KK P) = true) (e : ∃ fd, FunD (KK P) m q (defArgs st) (defBody st) (defScope st) [] [] (He.ma (KK P) (He.ga (KK P) "Words") m) fd) : MtAt (KK P) (He.ga (KK P) "Words") m q st := by
  obtain ⟨fd, F⟩ := e
  exact ⟨_, fd, He.meth_ok c, F⟩
theorem hd_of (KX : (KK w.params).In h) (G : h.Ns mainGlobals mg) (tb : LamX.TabB base mg (cTf (KK w.params)).1 (cTf (KK w.params)).2) : Hd w (KK w.params) mg base (He.ga (KK w.params) "integer_in") (He.ga (KK w.params) "fraction_in") (He.ga (KK w.params) "LENGTHS") (He.ga (KK w.params) "Words") (cTf (KK w.params)).1 (cTf (KK w.params)).2 where
  m_isinstance := He.free_ok KX G (fct _ 0 rfl)
  m_int := He.free_ok KX G (fct _ 1 rfl)
  m_bool := He.free_ok KX G (fct _ 2 rfl)
  m_tuple := He.free_ok KX G (fct _ 3 rfl)
  m_str := He.free_ok KX G (fct _ 4 rfl)
  m_abs := He.free_ok KX G (fct _ 5 rfl)
  m_all := He.free_ok KX G (fct _ 6 rfl)
  m_any := He.free_ok KX G (fct _ 7 rfl)
  m_len := He.free_ok KX G (fct _ 8 rfl)
  m_range := He.free_ok KX G (fct _ 9 rfl)
  m_zip := He.free_ok KX G (fct _ 10 rfl)
  m_sorted := He.free_ok KX G (fct _ 11 rfl)
  m_sum := He.free_ok KX G (fct _ 12 rfl)
  m_list := He.free_ok KX G (fct _ 13 rfl)
  m_enumerate := He.free_ok KX G (fct _ 14 rfl)
  m_min := He.free_ok KX G (fct _ 15 rfl)
  m_dict := He.free_ok KX G (fct _ 16 rfl)
  m_repr := He.free_ok KX G (fct _ 17 rfl)
  f_is_integer := fn_at KX G (fct _ 18 rfl) (fnc _ 0 (d := d_is_integer) rfl)
  f_common := fn_at KX G (fct _ 19 rfl) (fnc _ 1 (d := d_common) rfl)
  f_made := fn_at KX G (fct _ 20 rfl) (fnc _ 2 (d := d_made) rfl)
  f_is_under := fn_at KX G (fct _ 21 rfl) (fnc _ 3 (d := d_is_under) rfl)
  f_is_between := fn_at KX G (fct _ 22 rfl) (fnc _ 4 (d := d_is_between) rfl)
  f_are_rising := fn_at KX G (fct _ 23 rfl) (fnc _ 5 (d := d_are_rising) rfl)
  f_ups_by := fn_at KX G (fct _ 24 rfl) (fnc _ 6 (d := d_ups_by) rfl)
  f_is_seen := fn_at KX G (fct _ 25 rfl) (fnc _ 7 (d := d_is_seen) rfl)
  f_is_lot_of := fn_at KX G (fct _ 26 rfl) (fnc _ 8 (d := d_is_lot_of) rfl)
  f_ups_in := fn_at KX G (fct _ 27 rfl) (fnc _ 9 (d := d_ups_in) rfl)
  f_is_up_in := fn_at KX G (fct _ 28 rfl) (fnc _ 10 (d := d_is_up_in) rfl)
  f_mean_in := fn_at KX G (fct _ 29 rfl) (fnc _ 11 (d := d_mean_in) rfl)
  f_lots_of := fn_at KX G (fct _ 30 rfl) (fnc _ 12 (d := d_lots_of) rfl)
  f_up_in := fn_at KX G (fct _ 31 rfl) (fnc _ 13 (d := d_up_in) rfl)
  f_next_level := fn_at KX G (fct _ 32 rfl) (fnc _ 14 (d := d_next_level) rfl)
  f_levels_in := fn_at KX G (fct _ 33 rfl) (fnc _ 15 (d := d_levels_in) rfl)
  f_table_by := fn_at KX G (fct _ 34 rfl) (fnc _ 16 (d := d_table_by) rfl)
  f_charge_at := fn_at KX G (fct _ 35 rfl) (fnc _ 17 (d := d_charge_at) rfl)
  f_charge_in := fn_at KX G (fct _ 36 rfl) (fnc _ 18 (d := d_charge_in) rfl)
  f_is_own_form := fn_at KX G (fct _ 37 rfl) (fnc _ 19 (d := d_is_own_form) rfl)
  f_is_form := fn_at KX G (fct _ 38 rfl) (fnc _ 20 (d := d_is_form) rfl)
  f_places_in := fn_at KX G (fct _ 39 rfl) (fnc _ 21 (d := d_places_in) rfl)
  f_paths_in := fn_at KX G (fct _ 40 rfl) (fnc _ 22 (d := d_paths_in) rfl)
  f_term_at := fn_at KX G (fct _ 41 rfl) (fnc _ 23 (d := d_term_at) rfl)
  f_laid := fn_at KX G (fct _ 42 rfl) (fnc _ 24 (d := d_laid) rfl)
  f_row_of := fn_at KX G (fct _ 43 rfl) (fnc _ 25 (d := d_row_of) rfl)
  f_single_of := fn_at KX G (fct _ 44 rfl) (fnc _ 26 (d := d_single_of) rfl)
  f_by_word := fn_at KX G (fct _ 45 rfl) (fnc _ 27 (d := d_by_word) rfl)
  f_is_good := fn_at KX G (fct _ 46 rfl) (fnc _ 28 (d := d_is_good) rfl)
  f_field_in := fn_at KX G (fct _ 47 rfl) (fnc _ 29 (d := d_field_in) rfl)
  f_integer_in := fn_at KX G (fct _ 48 rfl) (fnc _ 30 (d := d_integer_in) rfl)
  f_fraction_in := fn_at KX G (fct _ 49 rfl) (fnc _ 31 (d := d_fraction_in) rfl)
  f_w_init := mt_at (fct _ 50 rfl) (fnc _ 32 (d := d_w_init) rfl)
  f_w_next_word := mt_at (fct _ 51 rfl) (fnc _ 33 (d := d_w_next_word) rfl)
  f_w_word_of := mt_at (fct _ 52 rfl) (fnc _ 34 (d := d_w_word_of) rfl)
  f_w_read_by := mt_at (fct _ 53 rfl) (fnc _ 35 (d := d_w_read_by) rfl)
  f_w_integer := mt_at (fct _ 54 rfl) (fnc _ 36 (d := d_w_integer) rfl)
  f_w_fraction := mt_at (fct _ 55 rfl) (fnc _ 37 (d := d_w_fraction) rfl)
  f_w_all_by := mt_at (fct _ 56 rfl) (fnc _ 38 (d := d_w_all_by) rfl)
  f_w_end := mt_at (fct _ 57 rfl) (fnc _ 39 (d := d_w_end) rfl)
  f_w_term := mt_at (fct _ 58 rfl) (fnc _ 40 (d := d_w_term) rfl)
  f_w_own_of := mt_at (fct _ 59 rfl) (fnc _ 41 (d := d_w_own_of) rfl)
  f_lines_of := fn_at KX G (fct _ 60 rfl) (fnc _ 42 (d := d_lines_of) rfl)
  f_term_in := fn_at KX G (fct _ 61 rfl) (fnc _ 43 (d := d_term_in) rfl)
  f_least_terms := fn_at KX G (fct _ 62 rfl) (fnc _ 44 (d := d_least_terms) rfl)
  f_saying_in := fn_at KX G (fct _ 63 rfl) (fnc _ 45 (d := d_saying_in) rfl)
  f_is_there := fn_at KX G (fct _ 64 rfl) (fnc _ 46 (d := d_is_there) rfl)
  f_is_so := fn_at KX G (fct _ 65 rfl) (fnc _ 47 (d := d_is_so) rfl)
  f_judged := fn_at KX G (fct _ 66 rfl) (fnc _ 48 (d := d_judged) rfl)
  f_law_mixed := fn_at KX G (fct _ 67 rfl) (fnc _ 49 (d := d_law_mixed) rfl)
  f_law_begin := fn_at KX G (fct _ 68 rfl) (fnc _ 50 (d := d_law_begin) rfl)
  f_law_draw := fn_at KX G (fct _ 69 rfl) (fnc _ 51 (d := d_law_draw) rfl)
  f_law_of := fn_at KX G (fct _ 70 rfl) (fnc _ 52 (d := d_law_of) rfl)
  f_law_ratio := fn_at KX G (fct _ 71 rfl) (fnc _ 53 (d := d_law_ratio) rfl)
  f_law_plus := fn_at KX G (fct _ 72 rfl) (fnc _ 54 (d := d_law_plus) rfl)
  f_law_less := fn_at KX G (fct _ 73 rfl) (fnc _ 55 (d := d_law_less) rfl)
  f_law_times := fn_at KX G (fct _ 74 rfl) (fnc _ 56 (d := d_law_times) rfl)
  f_law_under := fn_at KX G (fct _ 75 rfl) (fnc _ 57 (d := d_law_under) rfl)
  f_law_aboves := fn_at KX G (fct _ 76 rfl) (fnc _ 58 (d := d_law_aboves) rfl)
  f_law_more := fn_at KX G (fct _ 77 rfl) (fnc _ 59 (d := d_law_more) rfl)
  f_law_is_up := fn_at KX G (fct _ 78 rfl) (fnc _ 60 (d := d_law_is_up) rfl)
  f_law_ups := fn_at KX G (fct _ 79 rfl) (fnc _ 61 (d := d_law_ups) rfl)
  f_law_mean := fn_at KX G (fct _ 80 rfl) (fnc _ 62 (d := d_law_mean) rfl)
  f_law_guess := fn_at KX G (fct _ 81 rfl) (fnc _ 63 (d := d_law_guess) rfl)
  f_law_best := fn_at KX G (fct _ 82 rfl) (fnc _ 64 (d := d_law_best) rfl)
  f_law_charge := fn_at KX G (fct _ 83 rfl) (fnc _ 65 (d := d_law_charge) rfl)
  f_law_laid := fn_at KX G (fct _ 84 rfl) (fnc _ 66 (d := d_law_laid) rfl)
  f_law_by_word := fn_at KX G (fct _ 85 rfl) (fnc _ 67 (d := d_law_by_word) rfl)
  f_law_is_field := fn_at KX G (fct _ 86 rfl) (fnc _ 68 (d := d_law_is_field) rfl)
  f_law_kids := fn_at KX G (fct _ 87 rfl) (fnc _ 69 (d := d_law_kids) rfl)
  f_law_built := fn_at KX G (fct _ 88 rfl) (fnc _ 70 (d := d_law_built) rfl)
  f_law_things := fn_at KX G (fct _ 89 rfl) (fnc _ 71 (d := d_law_things) rfl)
  f_law_text := fn_at KX G (fct _ 90 rfl) (fnc _ 72 (d := d_law_text) rfl)
  f_law_good_term := fn_at KX G (fct _ 91 rfl) (fnc _ 73 (d := d_law_good_term) rfl)
  f_law_number := fn_at KX G (fct _ 92 rfl) (fnc _ 74 (d := d_law_number) rfl)
  f_law_worth := fn_at KX G (fct _ 93 rfl) (fnc _ 75 (d := d_law_worth) rfl)
  f_law_numbered := fn_at KX G (fct _ 94 rfl) (fnc _ 76 (d := d_law_numbered) rfl)
  f_law_saying := fn_at KX G (fct _ 95 rfl) (fnc _ 77 (d := d_law_saying) rfl)
  f_law_hand_right := fn_at KX G (fct _ 96 rfl) (fnc _ 78 (d := d_law_hand_right) rfl)
  f_law := fn_at KX G (fct _ 97 rfl) (fnc _ 79 (d := d_law) rfl)
  g_MOST_THINGS := gl_int KX G (fct _ 98 rfl)
  g_MOST_WORTH := gl_int KX G (fct _ 99 rfl)
  g_MOST_WEIGHT := gl_int KX G (fct _ 100 rfl)
  g_MOST_WORDS := gl_int KX G (fct _ 101 rfl)
  g_MOST_DEEP := gl_int KX G (fct _ 102 rfl)
  g_MOST_MOVE := gl_int KX G (fct _ 103 rfl)
  g_MOST_TIMES := gl_int KX G (fct _ 104 rfl)
  g_THING := gl_str KX G (fct _ 105 rfl)
  g_NONE := gl_str KX G (fct _ 106 rfl)
  g_BESIDE := gl_str KX G (fct _ 107 rfl)
  g_BELOW_terms := gl_str KX G (fct _ 108 rfl)
  g_ROW := gl_str KX G (fct _ 109 rfl)
  g_TURNED := gl_str KX G (fct _ 110 rfl)
  g_MOVED := gl_str KX G (fct _ 111 rfl)
  g_TIMES := gl_str KX G (fct _ 112 rfl)
  g_TIED := gl_str KX G (fct _ 113 rfl)
  g_ONLY := gl_str KX G (fct _ 114 rfl)
  g_LENGTHS := gl_ref KX G (fct _ 115 rfl)
  g_LEAVES := gl_tup (ss := ["thing", "none"]) KX G (fct _ 116 rfl) (tup_LEAVES _)
  g_DOUBLE := gl_tup (ss := ["beside", "below"]) KX G (fct _ 117 rfl) (tup_DOUBLE _)
  g_NEWLINE := gl_str KX G (fct _ 118 rfl)
  g_BLANK := gl_str KX G (fct _ 119 rfl)
  g_STROKE := gl_str KX G (fct _ 120 rfl)
  g_MINUS := gl_str KX G (fct _ 121 rfl)
  g_NAUGHT := gl_str KX G (fct _ 122 rfl)
  g_FIGURES := gl_str KX G (fct _ 123 rfl)
  g_MOST_FIGURES := gl_int KX G (fct _ 124 rfl)
  g_THINGS := gl_str KX G (fct _ 125 rfl)
  g_BELOW_judge := gl_str KX G (fct _ 126 rfl)
  g_UP := gl_str KX G (fct _ 127 rfl)
  g_LEVELS := gl_str KX G (fct _ 128 rfl)
  g_GUESS := gl_str KX G (fct _ 129 rfl)
  g_TABLE := gl_str KX G (fct _ 130 rfl)
  g_CHARGE := gl_str KX G (fct _ 131 rfl)
  g_SAYINGS := gl_tup (ss := ["things", "below", "up", "levels", "guess", "table", "charge"]) KX G (fct _ 132 rfl) (tup_SAYINGS _)
  g_integer_in := gl_ref KX G (fct _ 48 rfl)
  g_fraction_in := gl_ref KX G (fct _ 49 rfl)
  a_integer_in := He.glo_ok KX G (fct _ 48 rfl)
  a_fraction_in := He.glo_ok KX G (fct _ 49 rfl)
  a_Words := He.glo_ok KX G (fct _ 133 rfl)
  wd := ⟨⟨_, _, len_at _, len_es _⟩, len_low _, by decide +kernel⟩
  cW := He.cls_ok (fct _ 134 rfl)
  na_all_words := He.noat_ok (fct _ 136 rfl)
  na_row := He.noat_ok (fct _ 137 rfl)
  na_at := He.noat_ok (fct _ 138 rfl)
  na_terms_read := He.noat_ok (fct _ 139 rfl)
  mkW := ⟨_, He.mkr_ok (fct _ 135 rfl), He.meth_ok (fct _ 50 rfl)⟩
  tb := tb
  fT := by
    obtain ⟨fd, F⟩ := fnc w.params 29 (d := d_field_in) rfl
    refine ⟨_, fd, He.glo_ok KX G (fct w.params 47 (f := .glo "field_in") rfl), F, ?_⟩
    obtain ⟨oc, od, dV, kV, doc, pm, an, cdv, ct, osl, _, lk, _⟩ := F.ex
    have c := code_b w.params
    unfold codeB at c
    have lk2 : (KK w.params).lookup (He.fAd (KK w.params) ("field_in", none)) = _ := lk
    rw [lk2] at c
    exact of_decide_eq_true c
end
end Ri

set_option maxRecDepth 100000
set_option maxHeartbeats 2000000
open PySem PySem.W PyProof.Rows in
theorem PySem.Challenge.cw_onerising_k34_whole_sheets_holds : PySem.Challenge.rw_onerising_k34_whole_sheets.Holds := by
  refine hd ?_
  refine Att.attach_callB (n := 63) rfl rfl fun w s₀ s₁ mg mb fa o pm cd doc a vs ns G Y ho hdd hcd hmg hobj hints hlen hbits hg => ?_
  have KX : (Ri.KK w.params).In s₁.heap := km_in_of Y
  have TX : s₁.heap.get? (Ri.cTf (Ri.KK w.params)).2 = some Ri.emO := by
    rw [Ri.tab_at]
    exact km_tabs_of Y 281 List.mem_cons_self
  obtain ⟨fd, F⟩ := Ri.fnc w.params 79 (d := Ri.d_law) rfl
  have e := hmg.symm.trans (He.glo_ok KX G.T.g (Ri.fct w.params 97 (f := .glo "law") rfl))
  cases e
  exact Ri.law_end (fun base KB GB tb => ⟨_, _, _, _, Ri.hd_of KB GB tb⟩) KX G.T.g G.T.b G.T.builtins G.T.nolimit hg TX (Ri.tab_out _) (Ri.tab_hd _) G.T.bmain hobj hints (Nat.le_trans hlen (by decide)) F

